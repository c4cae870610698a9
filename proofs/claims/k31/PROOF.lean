import PyProof.Rows.All
import Wide.All
import OpenK.AllK
import Wide.FinOn
import KE.KDictKeyed
import KE.KDictWalk
import HandS.ForMost
import HandS.DictEq
import HandS.ListEq
import KE.KEqDict
import KE.SortData
import KE.KDictSum
import KE.KDictOf
import HandS.ExcValue
import HandS.TupAny
import KE.GoesEnum
import KE.GoesMore
import KE.DataEq
import OpenK.KMake
import HandS.Defaults
import HandS.Wide
import HandS.Flow
import HandS.NoneIn
import KE.KStateDown
import HandS.Ends
import HandS.More
import HandS.Words
import HandS.WordsExc
import HandS.Head0
import HandS.Head1
import HandS.Head2
import HandS.HeadEnd
import HandS.HeadHook1
import HandS.HeadHook2
import HandS.Evl
import HandS.Set
import HandS.Strs
import HandS.SetFor
import KE.KDictCopyH
import PySem.Challenge.RW_graftsay_k31_whole_what_plans_cover
set_option Elab.async false
set_option linter.all false
set_option maxRecDepth 100000
set_option maxHeartbeats 4000000
/-! dicts whose keys are numbers, truths, texts, None and tuples of these, mixed: the look-up, at the model's level -/
namespace NK
open PySem PySem.Spec PyProof.Rows
open Sem (wp)

/-- the value v is the key k -/
def MKey (h : Heap) (k : NestedKey) (v : Value) : Prop := NestedIs h k v ∧ k.depth ≤ 8
abbrev Ent := NestedKey × Value × Value
def entM (w : World) (x : Ent) : DictEntry := ⟨x.1.hash w, x.2.1, x.2.2⟩
def atM (xs : List Ent) (k : NestedKey) : Option (Value × Value) := (xs.find? fun x => decide (x.1 = k)).map (·.2)

theorem uniqM {xs : List Ent} (hn : (xs.map (·.1)).Nodup) {i j : Nat} {k : NestedKey} {p q : Value × Value} (hi : xs[i]? = some (k, p)) (hj : xs[j]? = some (k, q)) : i = j := by
  have hi' : (xs.map (·.1))[i]? = some k := by rw [List.getElem?_map, hi]; rfl
  have hj' : (xs.map (·.1))[j]? = some k := by rw [List.getElem?_map, hj]; rfl
  exact (List.getElem?_inj (List.getElem?_eq_some_iff.mp hi').1 hn).mp (hi'.trans hj'.symm)
theorem atM_of {xs : List Ent} (hn : (xs.map (·.1)).Nodup) {i : Nat} {k : NestedKey} {p : Value × Value} (hx : xs[i]? = some (k, p)) : atM xs k = some p := by
  unfold atM
  cases hf : xs.find? (fun x => decide (x.1 = k)) with
  | none =>
    have z := List.find?_eq_none.mp hf (k, p) (List.mem_of_getElem? hx)
    simp at z
  | some y =>
    have e : y.1 = k := by simpa using List.find?_some hf
    obtain ⟨j, hj⟩ := List.mem_iff_getElem?.mp (List.mem_of_find?_eq_some hf)
    have ij : i = j := uniqM hn hx (q := y.2) (by rw [hj, ← e])
    rw [← ij, hx] at hj
    have z : (k, p) = y := Option.some.inj hj
    rw [← z]
    all_goals rfl
theorem atM_none {xs : List Ent} {k : NestedKey} (h : ∀ (j : Nat) (p : Value × Value), xs[j]? ≠ some (k, p)) : atM xs k = none := by
  unfold atM
  cases hf : xs.find? (fun x => decide (x.1 = k)) with
  | none => rfl
  | some y =>
    have e : y.1 = k := by simpa using List.find?_some hf
    obtain ⟨j, hj⟩ := List.mem_iff_getElem?.mp (List.mem_of_find?_eq_some hf)
    exact absurd (by rw [hj, ← e]) (h j y.2)

section
variable {prog : Program} {w : World} {A : Around} {E : Value → Shared → Prop} {s : Shared}

theorem MKey.refd {h : Heap} {k : NestedKey} {a : Addr} (m : MKey h k (.ref a)) : (∃ o vs n, h.get? a = some o ∧ o.cls = .type "tuple" ∧ o.data = .seq vs n) := by
  obtain ⟨m, _⟩ := m
  cases m with
  | tup h1 h2 h3 _ => exact ⟨_, _, _, h1, h2, h3⟩
theorem MKey.inj {h : Heap} {k k' : NestedKey} {v : Value} (m : MKey h k v) (m' : MKey h k' v) : k = k' := NestedIs.inj _ _ _ m.1 m'.1

theorem tellsM {kv : Value} {k : NestedKey} {stored : List Value} {Q : Bool → Shared → Prop} (hkey : MKey s.heap k kv)
    (hst : ∀ v ∈ stored, ∃ k', MKey s.heap k' v) (h : Q false s) : wpAny (model prog w) A (tableMayTell kv stored) Q E s := by
  unfold tableMayTell
  split
  · exact wpAny_pure h
  · refine wpAny_bind (quiet_key k _ 8 s hkey.1 hkey.2 A E _ ?_)
    simp only [Bool.not_true, Bool.false_eq_true, if_false]
    refine wpAny_bind ?_
    refine wpAny_forIn_list _ (fun rest r s' => s' = s ∧ r = (none, ()) ∧ ∀ v ∈ rest, ∃ k', MKey s.heap k' v) _ ?_ ?_ _ _ ⟨rfl, rfl, hst⟩
    · rintro x rest r s' ⟨rfl, rfl, hr⟩
      obtain ⟨k', hb⟩ := hr x List.mem_cons_self
      refine wpAny_bind (quiet_key k' _ 8 s' hb.1 hb.2 A E _ ?_)
      simp only [Bool.not_true, Bool.false_eq_true, if_false]
      exact wpAny_pure ⟨rfl, rfl, fun v hv => hr v (List.mem_cons_of_mem _ hv)⟩
    · rintro r s' ⟨rfl, rfl, _⟩
      exact wpAny_pure h

theorem ent_at {es : Array DictEntry} {xs : List Ent} (he : es.toList = xs.map (entM w)) (j : Nat) : es[j]? = (xs[j]?).map (entM w) := by
  rw [← Array.getElem?_toList, he, List.getElem?_map]
theorem ent_size {es : Array DictEntry} {xs : List Ent} (he : es.toList = xs.map (entM w)) : es.size = xs.length := by
  rw [← Array.length_toList, he, List.length_map]
theorem eqM {x y : NestedKey} {a b : Value} {Q : Bool → Shared → Prop} (hu : A.units + 8 < cLine) (hx : MKey s.heap x a) (hy : MKey s.heap y b) (h : Q (decide (x = y)) s) : wpAny (model prog w) A (PySem.eqBool a b) Q E s :=
  eqAt_key x y A s _ _ hx.1 hy.1 (by have := hx.2; have := hy.2; omega) _ _ _ _ (by rw [← NestedKey.decide_eq]; exact h)
theorem hashM {k : NestedKey} {v : Value} {Q : Int → Shared → Prop} (hu : A.units + 8 < cLine) (hk : MKey s.heap k v) (h : Q (k.hash w) { s with toks := s.toks + k.draws }) : wpAny (model prog w) A (pyHash v) Q E s :=
  pyHash_key _ _ _ _ _ hk.1 (by have := hk.2; omega) h

theorem wp_ite {α : Type} {c : Prop} [Decidable c] {a b : Sem α} {Q : α → Shared → Prop} (h1 : c → wpAny (model prog w) A a Q E s) (h2 : ¬ c → wpAny (model prog w) A b Q E s) : wpAny (model prog w) A (if c then a else b) Q E s := by
  by_cases h : c
  · rw [if_pos h]; exact h1 h
  · rw [if_neg h]; exact h2 h

theorem findM {d : Addr} {kv : Value} {o : Obj} {es ep} {xs : List Ent} {k : NestedKey} {Q : Option Nat → Shared → Prop} (hu : A.units + 8 < cLine) (hkey : MKey s.heap k kv)
    (ho : s.heap.get? d = some o) (hd : o.data = .dict es ep) (he : es.toList = xs.map (entM w)) (his : ∀ x ∈ xs, MKey s.heap x.1 x.2.1) (hn : (xs.map (·.1)).Nodup)
    (hnone : (∀ (j : Nat) (p : Value × Value), xs[j]? ≠ some (k, p)) → Q none s) (hsome : ∀ (j : Nat) (p : Value × Value), xs[j]? = some (k, p) → Q (some j) s) :
    wpAny (model prog w) A (dictFind d kv (k.hash w)) Q E s := by
  have hsz : es.size = xs.length := ent_size he
  have haskey : ∀ (j : Nat) (p : Value × Value), xs[j]? = some (k, p) → ((es[j]?.map (·.hash)) == some (k.hash w)) = true := by
    intro j p hj
    rw [ent_at he j, hj]
    simp [entM]
  have hmem : ∀ e ∈ es, ∃ x ∈ xs, e = entM w x := by
    intro e hin
    have q : e ∈ xs.map (entM w) := he ▸ Array.mem_toList_iff.mpr hin
    obtain ⟨x, hx, rfl⟩ := List.mem_map.mp q
    exact ⟨x, hx, rfl⟩
  -- all keys are texts, and the key too: the library's own rule
  by_cases hA : (∃ x t, kv = .str x t) ∧ (es.all fun e => isExactStrKey e.key) = true
  · obtain ⟨⟨x, t, rfl⟩, hall⟩ := hA
    have kx : k = .text x := by
      obtain ⟨m, _⟩ := hkey
      cases m
      rfl
    subst kx
    have hK : KeysOf (PySem.strKind prog w) es := by
      intro e hin
      obtain ⟨y, hy, rfl⟩ := hmem e hin
      have q := Array.all_eq_true_iff_forall_mem.mp hall _ hin
      obtain ⟨m, _⟩ := his y hy
      obtain ⟨yk, yv, yw⟩ := y
      cases m with
      | text z u => exact ⟨z, by show Value.isStrOf z (Value.str z u) = true; simp [Value.isStrOf], rfl⟩
      | none => cases q
      | bool _ => cases q
      | int _ _ => cases q
      | tup _ _ _ _ => cases q
    refine wpAny_dictFind_of (knd := PySem.strKind prog w) (k := x) (by simp [PySem.strKind, Value.isStrOf]) ho hd hK ?_
    have tie : ∀ (j : Nat) (y : Ent), xs[j]? = some y → ((PySem.strKind prog w).is x y.2.1 = true ↔ y.1 = .text x) := by
      intro j y hy
      have m := his y (List.mem_of_getElem? hy)
      constructor
      · intro q
        obtain ⟨u, e⟩ := Value.isStrOf_shape (x := x) (v := y.2.1) q
        obtain ⟨m, _⟩ := m
        rw [e] at m
        generalize y.1 = z at m
        cases m
        rfl
      · intro e
        obtain ⟨m, _⟩ := m
        rw [e] at m
        generalize y.2.1 = z at m
        cases m
        simp [PySem.strKind, Value.isStrOf]
    cases hf : es.findIdx? (fun e => (PySem.strKind prog w).is x e.key) with
    | none =>
      refine hnone fun j p hj => ?_
      have q := Array.findIdx?_eq_none_iff.mp hf (entM w (.text x, p)) (Array.mem_of_getElem? (i := j) (by rw [ent_at he j, hj]; rfl))
      have z := (tie j _ hj).mpr rfl
      have q' : (PySem.strKind prog w).is x p.1 = false := by simpa [entM] using q
      rw [q'] at z
      cases z
    | some j =>
      obtain ⟨hlt, hi, _⟩ := Array.findIdx?_eq_some_iff_getElem.mp hf
      obtain ⟨y, hy⟩ : ∃ y, xs[j]? = some y := ⟨xs[j]'(by rw [← hsz]; exact hlt), List.getElem?_eq_getElem _⟩
      have ej : es[j] = entM w y := by
        have q := ent_at (w := w) he j
        rw [hy, Array.getElem?_eq_getElem hlt] at q
        exact Option.some.inj q
      rw [ej] at hi
      have z := (tie j y hy).mp hi
      exact hsome j y.2 (by rw [hy, ← z])
  have hst : ∀ v ∈ (placesWithHash es.size (fun i => es[i]?.map (·.hash)) (k.hash w)).filterMap (fun i => es[i]?.map (·.key)), ∃ k', MKey s.heap k' v := by
    intro v hv
    obtain ⟨i, _, hi⟩ := List.mem_filterMap.mp hv
    cases hei : es[i]? with
    | none => rw [hei] at hi; cases hi
    | some e =>
      rw [hei] at hi
      obtain rfl : e.key = v := by simpa using hi
      obtain ⟨x, hx, rfl⟩ := hmem e (Array.mem_of_getElem? hei)
      exact ⟨x.1, his x hx⟩
  have hany : ∀ a, kv = .ref a → ¬ (es.any fun e => e.key == Value.ref a && e.hash != k.hash w) = true := by
    intro a ea
    rw [← Array.any_toList, List.any_eq_true]
    rintro ⟨e, hin, hc⟩
    obtain ⟨x, hx, rfl⟩ := hmem e (Array.mem_toList_iff.mp hin)
    simp only [entM, Bool.and_eq_true, beq_iff_eq, bne_iff_ne, ne_eq] at hc
    obtain ⟨hxa, hne⟩ := hc
    have q := his x hx
    rw [hxa, ← ea] at q
    exact hne (by rw [q.inj hkey])
  -- one turn of either loop
  have walkB : wpAny (model prog w) A (dictWalkPlain d kv (k.hash w) es (placesWithHash es.size (fun i => es[i]?.map (·.hash)) (k.hash w))) Q E s := by
    refine wpAny_bind ?_
    refine wpAny_forIn_list _
      (fun rest b s' => s' = s ∧ b = (none, ()) ∧ ∃ i, rest = (List.range' i (es.size - i)).filter (fun i => (es[i]?.map (·.hash)) == some (k.hash w)) ∧ i ≤ es.size ∧
        ∀ j p, j < i → xs[j]? ≠ some (k, p)) _ ?_ ?_ _ _
      ⟨rfl, rfl, 0, by rw [placesWithHash, List.range_eq_range', Nat.sub_zero], Nat.zero_le _, fun _ _ h => absurd h (Nat.not_lt_zero _)⟩
    · rintro x rest b s' ⟨rfl, rfl, i, hr, hi, hno⟩
      obtain ⟨hix, hxn, hpx, hskip, hrest⟩ := filter_range'_cons _ _ _ _ _ hr.symm
      have hlt : x < es.size := by omega
      have hrest' : rest = (List.range' (x + 1) (es.size - (x + 1))).filter (fun i => (es[i]?.map (·.hash)) == some (k.hash w)) := by rw [hrest]; congr 2; omega
      obtain ⟨⟨k', b, v'⟩, hkv⟩ : ∃ y, xs[x]? = some y := ⟨xs[x]'(by rw [← hsz]; exact hlt), List.getElem?_eq_getElem _⟩
      have hib : MKey s'.heap k' b := his _ (List.mem_of_getElem? hkv)
      have hex : es[x]? = some ⟨k'.hash w, b, v'⟩ := by rw [ent_at he x, hkv]; rfl
      have hnox : ∀ j p, j < x → xs[j]? ≠ some (k, p) := fun j p hjx hj => by
        rcases Nat.lt_or_ge j i with h | h
        · exact hno j p h hj
        · have q := hskip j h hjx
          rw [haskey j p hj] at q
          exact absurd q (by decide)
      have hstay : ¬ k' = k → ∀ j p, j < x + 1 → xs[j]? ≠ some (k, p) := fun hne j p hjx hj => by
        rcases Nat.lt_or_ge j x with h | h
        · exact hnox j p h hj
        · have z : j = x := by omega
          subst z
          rw [hkv] at hj
          injection hj with hj
          injection hj with hj
          exact hne hj
      rw [hex]
      dsimp only
      by_cases hh : (k'.hash w == k.hash w) = true
      · rw [if_pos hh]
        refine wpAny_bind (wpAny_dictEpoch ho hd (wpAny_bind (eqM hu hib hkey (wpAny_bind (wpAny_dictEpoch ho hd ?_)))))
        show wpAny _ _ (if (ep != ep) = true then _ else _) _ E _
        rw [if_neg (by simp)]
        by_cases hkk : k' = k
        · rw [decide_eq_true hkk]
          subst hkk
          exact wpAny_bind (wpAny_rule (wpAny_pure (wpAny_pure (hsome x _ hkv))))
        · rw [decide_eq_false hkk]
          exact wpAny_bind (wpAny_rule (wpAny_pure ⟨rfl, rfl, x + 1, hrest', hlt, hstay hkk⟩))
      · rw [if_neg hh]
        refine wpAny_pure ⟨rfl, rfl, x + 1, hrest', hlt, hstay ?_⟩
        intro hkk
        rw [hkk] at hh; simp at hh
    · rintro b s' ⟨rfl, rfl, i, hr, hi, hno⟩
      have hall : ∀ j, i ≤ j → j < es.size → ((es[j]?.map (·.hash)) == some (k.hash w)) = false := by
        intro j h1 h2
        have q := List.filter_eq_nil_iff.mp hr.symm j (List.mem_range'_1.mpr ⟨h1, by omega⟩)
        simpa using q
      refine wpAny_pure (hnone fun j p hj => ?_)
      rcases Nat.lt_or_ge j i with h | h
      · exact hno j p h hj
      · have hjl : j < es.size := by
          rw [hsz]
          rcases Nat.lt_or_ge j xs.length with h' | h'
          · exact h'
          · rw [List.getElem?_eq_none h'] at hj; exact nomatch hj
        have q := hall j h hjl
        rw [haskey j p hj] at q
        exact absurd q (by decide)
  have kinds : (∃ x t, kv = .str x t) ∨ (∃ a, kv = .ref a) ∨ kv = .none ∨ (∃ b, kv = .bool b) ∨ ∃ i t, kv = .int i t := by
    obtain ⟨m, _⟩ := hkey
    cases m with
    | none => exact .inr (.inr (.inl rfl))
    | bool _ => exact .inr (.inr (.inr (.inl ⟨_, rfl⟩)))
    | int i t => exact .inr (.inr (.inr (.inr ⟨_, _, rfl⟩)))
    | text x t => exact .inl ⟨_, _, rfl⟩
    | tup _ _ _ _ => exact .inr (.inl ⟨_, rfl⟩)
  have hall0 : ∀ x t, kv = .str x t → ¬ (es.all fun e => isExactStrKey e.key) = true := fun x t e q => hA ⟨⟨x, t, e⟩, q⟩
  unfold dictFind
  (try with_reducible refine wpAny_holding ?_)
  refine wpAny_bind (wpAny_dictEntries ho hd ?_)
  rcases kinds with ⟨x, t, rfl⟩ | ⟨a, rfl⟩ | rfl | ⟨b, rfl⟩ | ⟨i, t, rfl⟩
  all_goals dsimp only
  all_goals first | rw [if_neg (hall0 _ _ rfl)] | skip
  all_goals first | rw [if_neg (show ¬ (List.all (Value.ref a :: _) carriedByValue) = true by simp [carriedByValue])] | skip
  all_goals first | rw [if_neg (hany _ rfl)] | skip
  all_goals first | refine wp_ite (fun _ => walkB) (fun _ => ?_) | skip
  all_goals refine wp_ite (fun _ => wpAny_bind (wpAny_pure ?_)) (fun _ => wpAny_bind (tellsM hkey hst ?_))
  all_goals (
    rw [if_neg (by simp)]
    refine wpAny_bind ?_
    refine wpAny_forIn_list _
      (fun rest b s' => s' = s ∧ ∃ i hit, b = (none, hit) ∧ rest = (List.range' i (es.size - i)).filter (fun i => (es[i]?.map (·.hash)) == some (k.hash w)) ∧ i ≤ es.size ∧
        ((hit = none ∧ ∀ j p, j < i → xs[j]? ≠ some (k, p)) ∨ ∃ j p, hit = some j ∧ j < i ∧ xs[j]? = some (k, p))) _ ?_ ?_ _ _
      ⟨rfl, 0, none, rfl, by rw [placesWithHash, List.range_eq_range', Nat.sub_zero], Nat.zero_le _, .inl ⟨rfl, fun _ _ h => absurd h (Nat.not_lt_zero _)⟩⟩
    · rintro x rest b s' ⟨rfl, i, hit, rfl, hr, hi, hH⟩
      obtain ⟨hix, hxn, hpx, hskip, hrest⟩ := filter_range'_cons _ _ _ _ _ hr.symm
      have hlt : x < es.size := by omega
      have hrest' : rest = (List.range' (x + 1) (es.size - (x + 1))).filter (fun i => (es[i]?.map (·.hash)) == some (k.hash w)) := by rw [hrest]; congr 2; omega
      obtain ⟨⟨k', b, v'⟩, hkv⟩ : ∃ y, xs[x]? = some y := ⟨xs[x]'(by rw [← hsz]; exact hlt), List.getElem?_eq_getElem _⟩
      have hib : MKey s'.heap k' b := his _ (List.mem_of_getElem? hkv)
      have hex : es[x]? = some ⟨k'.hash w, b, v'⟩ := by rw [ent_at he x, hkv]; rfl
      have hHx : (hit = none ∧ ∀ j p, j < x → xs[j]? ≠ some (k, p)) ∨ ∃ j p, hit = some j ∧ j < x ∧ xs[j]? = some (k, p) := by
        rcases hH with ⟨h0, hno⟩ | ⟨j, p, h1, hji, hj⟩
        · refine .inl ⟨h0, fun j p hjx hj => ?_⟩
          rcases Nat.lt_or_ge j i with h | h
          · exact hno j p h hj
          · have q := hskip j h hjx
            rw [haskey j p hj] at q
            exact absurd q (by decide)
        · exact .inr ⟨j, p, h1, by omega, hj⟩
      have hstay : ¬ k' = k → ((hit = none ∧ ∀ j p, j < x + 1 → xs[j]? ≠ some (k, p)) ∨ ∃ j p, hit = some j ∧ j < x + 1 ∧ xs[j]? = some (k, p)) := by
        intro hne
        rcases hHx with ⟨h0, hno⟩ | ⟨j, p, h1, hjx, hj⟩
        · refine .inl ⟨h0, fun j p hjx hj => ?_⟩
          rcases Nat.lt_or_ge j x with h | h
          · exact hno j p h hj
          · have z : j = x := by omega
            subst z
            rw [hkv] at hj
            injection hj with hj
            injection hj with hj
            exact hne hj
        · exact .inr ⟨j, p, h1, by omega, hj⟩
      rw [hex]
      dsimp only
      by_cases hh : (k'.hash w == k.hash w) = true
      · rw [if_pos hh]
        refine wpAny_bind (wpAny_dictEpoch ho hd (wpAny_bind (eqM hu hib hkey (wpAny_bind (wpAny_dictEpoch ho hd ?_)))))
        show wpAny _ _ (if (ep != ep) = true then _ else _) _ E _
        rw [if_neg (by simp)]
        by_cases hkk : k' = k
        · rw [decide_eq_true hkk]
          subst hkk
          rcases hHx with ⟨rfl, _⟩ | ⟨j, p, _, hjx, hj⟩
          · first | rw [if_pos rfl] | skip
            simp only [Option.isSome_none, Bool.false_eq_true, if_false]
            first | refine wpAny_bind (wpAny_pure ?_) | skip
            refine wpAny_bind (wpAny_rule ?_)
            split
            · exact wpAny_pure (wpAny_pure (hsome x _ hkv))
            · exact wpAny_pure ⟨rfl, x + 1, some x, rfl, hrest', hlt, .inr ⟨x, _, rfl, Nat.lt_succ_self x, hkv⟩⟩
          · exact absurd (uniqM hn hj hkv) (by omega)
        · rw [decide_eq_false hkk]
          simp only [Bool.false_eq_true, if_false]
          refine wpAny_bind (wpAny_rule ?_)
          first | rw [if_neg (by simp)] | skip
          first
            | exact wpAny_pure ⟨rfl, x + 1, hit, rfl, hrest', hlt, hstay hkk⟩
            | exact wpAny_bind (wpAny_pure (wpAny_pure ⟨rfl, x + 1, hit, rfl, hrest', hlt, hstay hkk⟩))
      · rw [if_neg hh]
        refine wpAny_pure ⟨rfl, x + 1, hit, rfl, hrest', hlt, hstay ?_⟩
        intro hkk
        rw [hkk] at hh; simp at hh
    · rintro b s' ⟨rfl, i, hit, rfl, hr, hi, hH⟩
      have hall : ∀ j, i ≤ j → j < es.size → ((es[j]?.map (·.hash)) == some (k.hash w)) = false := by
        intro j h1 h2
        have q := List.filter_eq_nil_iff.mp hr.symm j (List.mem_range'_1.mpr ⟨h1, by omega⟩)
        simpa using q
      rcases hH with ⟨rfl, hno⟩ | ⟨j, p, rfl, _, hj⟩
      · refine wpAny_pure (hnone fun j p hj => ?_)
        rcases Nat.lt_or_ge j i with h | h
        · exact hno j p h hj
        · have hjl : j < es.size := by
            rw [hsz]
            rcases Nat.lt_or_ge j xs.length with h' | h'
            · exact h'
            · rw [List.getElem?_eq_none h'] at hj; exact nomatch hj
          have q := hall j h hjl
          rw [haskey j p hj] at q
          exact absurd q (by decide)
      · exact wpAny_pure (hsome j p hj))
end
end NK

/-! dicts with mixed keys: d[k], d[k] = v, k in d, get, setdefault, at the model's level -/
namespace NK
open PySem PySem.Spec PyProof.Rows
open Sem (wp)

def DictM (w : World) (h : Heap) (d : Addr) (xs : List Ent) : Prop :=
  ∃ o es ep, h.get? d = some o ∧ o.ExactDict ∧ o.data = .dict es ep ∧ es.toList = xs.map (entM w) ∧ (∀ x ∈ xs, MKey h x.1 x.2.1) ∧ (xs.map (·.1)).Nodup
def putM (k : NestedKey) (v : Value) (x : Ent) : Ent := if x.1 = k then (x.1, x.2.1, v) else x
def storedM (xs : List Ent) (k : NestedKey) (kv v : Value) : List Ent := if (atM xs k).isSome then xs.map (putM k v) else xs ++ [(k, kv, v)]

theorem MKey.keep {h h' : Heap} {k : NestedKey} {v : Value} {d : Addr} {o : Obj} {es ep} (x : MKey h k v) (ho : h.get? d = some o) (hd : o.data = .dict es ep) (hs : Heap.SameBut d h h') : MKey h' k v :=
  ⟨NestedIs.at (fun b ob vs n hb hc => by
    refine (hs.2 b fun e => ?_).trans hb
    subst e
    rw [ho] at hb
    cases hb
    rw [hd] at hc
    cases hc) k _ x.1, x.2⟩
theorem MKey.kept {h h' : Heap} {k : NestedKey} {v : Value} (x : MKey h k v) (hs : ∀ b o, h.get? b = some o → h'.get? b = some o) : MKey h' k v :=
  ⟨NestedIs.at (fun b ob vs n hb hc => hs b ob hb) k _ x.1, x.2⟩
theorem storedM_new {xs : List Ent} {k : NestedKey} (h : atM xs k = none) (kv v : Value) : storedM xs k kv v = xs ++ [(k, kv, v)] := by simp [storedM, h]
theorem storedM_old {xs : List Ent} {k : NestedKey} {p : Value × Value} (h : atM xs k = some p) (kv v : Value) : storedM xs k kv v = xs.map (putM k v) := by simp [storedM, h]
theorem not_keys {xs : List Ent} {k : NestedKey} (h : ∀ (j : Nat) (p : Value × Value), xs[j]? ≠ some (k, p)) : k ∉ xs.map (·.1) := by
  intro hm
  obtain ⟨x, hx, rfl⟩ := List.mem_map.mp hm
  obtain ⟨j, hj⟩ := List.mem_iff_getElem?.mp hx
  exact h j x.2 hj
theorem map_putM_no (xs : List Ent) (k : NestedKey) (v : Value) (hn : k ∉ xs.map (·.1)) : xs.map (putM k v) = xs := by
  induction xs with
  | nil => rfl
  | cons x xs ih =>
    simp only [List.map_cons, List.mem_cons, not_or] at hn ⊢
    rw [putM, if_neg (fun e => hn.1 e.symm), ih hn.2]
theorem keys_putM (xs : List Ent) (k : NestedKey) (v : Value) : (xs.map (putM k v)).map (·.1) = xs.map (·.1) := by
  induction xs with
  | nil => rfl
  | cons x xs ih =>
    simp only [List.map_cons, ih]
    by_cases hk : x.1 = k <;> simp [putM, hk]
theorem modify_putM {w : World} (k : NestedKey) (v : Value) : ∀ {xs : List Ent} {j : Nat} {p : Value × Value}, (xs.map (·.1)).Nodup → xs[j]? = some (k, p) →
    (xs.map (entM w)).modify j (fun e : DictEntry => { e with val := v }) = (xs.map (putM k v)).map (entM w) := by
  intro xs
  induction xs with
  | nil => intro j p _ hj; simp at hj
  | cons x rest ih =>
    intro j p hn hj
    rw [List.map_cons, List.nodup_cons] at hn
    cases j with
    | zero =>
      simp only [List.getElem?_cons_zero, Option.some.injEq] at hj
      subst hj
      rw [List.map_cons, List.map_cons, map_putM_no rest k v hn.1, putM, if_pos rfl, List.map_cons]
      all_goals rfl
    | succ j =>
      simp only [List.getElem?_cons_succ] at hj
      have hmem : k ∈ rest.map (·.1) := List.mem_map.mpr ⟨(k, p), List.mem_of_getElem? hj, rfl⟩
      have hne : ¬ x.1 = k := fun e => hn.1 (e ▸ hmem)
      rw [List.map_cons, List.map_cons, putM, if_neg hne, List.map_cons]
      show entM w x :: (rest.map (entM w)).modify j _ = entM w x :: (rest.map (putM k v)).map (entM w)
      rw [ih hn.2 hj]

section
variable {prog : Program} {w : World} {A : Around} {E : Value → Shared → Prop} {s : Shared} {d : Addr} {xs : List Ent} {k : NestedKey} {kv : Value}
theorem DictM.typeIs (hm : DictM w s.heap d xs) : s.TypeIs (.ref d) "dict" := let ⟨o, _, _, ho, hc, _⟩ := hm; ⟨o, ho, hc.1⟩
theorem DictM.noDict (hm : DictM w s.heap d xs) : ∀ b, Value.ref d = .ref b → ∃ ob, s.heap.get? b = some ob ∧ ob.dict = none :=
  fun b e => by injection e with e; subst e; exact let ⟨o, _, _, ho, hc, _⟩ := hm; ⟨o, ho, hc.2.1⟩

theorem dictGetM {Q : Option Value → Shared → Prop} (hu : A.units + 8 < cLine) (hkey : MKey s.heap k kv) (hm : DictM w s.heap d xs)
    (h : Q ((atM xs k).map (·.2)) { s with toks := s.toks + k.draws }) : wpAny (model prog w) A (dictGet d kv) Q E s := by
  obtain ⟨o, es, ep, ho, _, hd, he, his, hn⟩ := hm
  unfold dictGet
  (try with_reducible refine wpAny_holding ?_)
  refine wpAny_bind (hashM hu hkey (wpAny_bind (findM (s := { s with toks := s.toks + k.draws }) hu hkey ho hd he his hn ?_ ?_)))
  · intro hno
    rw [atM_none hno] at h
    exact wpAny_pure h
  · intro j p hj
    rw [atM_of hn hj] at h
    refine wpAny_bind (wpAny_dictEntries (s := { s with toks := s.toks + k.draws }) ho hd ?_)
    rw [ent_at he j, hj]
    exact wpAny_pure h

theorem put_new {o : Obj} {es ep} {v : Value} {tk : Nat} (ho : s.heap.get? d = some o) (hc : o.ExactDict) (hd : o.data = .dict es ep) (he : es.toList = xs.map (entM w)) (his : ∀ x ∈ xs, MKey s.heap x.1 x.2.1) (hn : (xs.map (·.1)).Nodup) (hkey : MKey s.heap k kv)
    (hno : ∀ (j : Nat) (p : Value × Value), xs[j]? ≠ some (k, p)) : DictM w (s.heap.update d (fun o => o.mapDictKeys (·.push ⟨k.hash w, kv, v⟩))) d (storedM xs k kv v) := by
  have hnot : k ∉ xs.map (·.1) := not_keys hno
  refine ⟨_, _, ep + 1, Heap.get?_update_self _ ho (Obj.isFreed_of_dict (Obj.data_mapDictKeys hd _)), hc.mapDictKeys _, Obj.data_mapDictKeys hd _, ?_, ?_, ?_⟩
  · rw [storedM_new (atM_none hno)]
    simp [he, entM]
  · rw [storedM_new (atM_none hno)]
    intro x hx
    rcases List.mem_append.mp hx with hx | hx
    · exact (his x hx).keep ho hd (Heap.SameBut.update ..)
    · simp only [List.mem_singleton] at hx
      subst hx
      exact hkey.keep ho hd (Heap.SameBut.update ..)
  · rw [storedM_new (atM_none hno)]
    rw [List.map_append, List.nodup_append]
    refine ⟨hn, by simp, ?_⟩
    intro x hx y hy
    simp only [List.map_cons, List.map_nil, List.mem_singleton] at hy
    subst hy
    exact fun e => hnot (e ▸ hx)

theorem dictSetM {v : Value} {Q : Unit → Shared → Prop} (hu : A.units + 8 < cLine) (hkey : MKey s.heap k kv) (hm : DictM w s.heap d xs)
    (hQ : ∀ h', DictM w h' d (storedM xs k kv v) → Heap.SameBut d s.heap h' → Q () { s with heap := h', toks := s.toks + k.draws }) (hz : xs.length ≤ sizeLine) :
    wpAny (model prog w) A (dictSet d kv v) Q E s := by
  obtain ⟨o, es, ep, ho, hc, hd, he, his, hn⟩ := hm
  unfold dictSet
  (try with_reducible refine wpAny_holding ?_)
  refine wpAny_bind (hashM hu hkey ?_)
  unfold dictSetHashed
  (try with_reducible refine wpAny_holding ?_)
  refine wpAny_bind (findM (s := { s with toks := s.toks + k.draws }) hu hkey ho hd he his hn ?_ ?_)
  · intro hno
    exact wpAny_bind (wpAny_rule (wpAny_updateDictKeys (hz := by have e := ent_size he; omega) (s := { s with toks := s.toks + k.draws }) ho hd (hQ _ (put_new (tk := 0) ho hc hd he his hn hkey hno) (Heap.SameBut.update ..))))
  · intro j p hj
    refine wpAny_bind (wpAny_rule (wpAny_bind (wpAny_updateDict (s := { s with toks := s.toks + k.draws }) ho hd (wpAny_point (hQ _ ⟨_, _, ep, Heap.get?_update_self _ ho (Obj.isFreed_of_dict (Obj.data_mapDict hd _)),
      hc.mapDict _, Obj.data_mapDict hd _, ?_, ?_, ?_⟩ (Heap.SameBut.update ..))))))
    · rw [storedM_old (atM_of hn hj)]
      have q := modify_putM (w := w) k v hn hj
      rw [← he] at q
      obtain ⟨l⟩ := es
      simpa using q
    · rw [storedM_old (atM_of hn hj)]
      intro x hx
      obtain ⟨y, hy, rfl⟩ := List.mem_map.mp hx
      unfold putM
      split <;> exact (his y hy).keep ho hd (Heap.SameBut.update ..)
    · rw [storedM_old (atM_of hn hj)]
      rw [keys_putM]; exact hn

theorem setDefM {dflt : Value} {Q : Value → Shared → Prop} (hu : A.units + 8 < cLine) (hkey : MKey s.heap k kv) (hm : DictM w s.heap d xs)
    (h1 : ∀ p, atM xs k = some p → Q p.2 { s with toks := s.toks + k.draws })
    (h2 : atM xs k = none → ∀ h', DictM w h' d (storedM xs k kv dflt) → Heap.SameBut d s.heap h' → Q dflt { s with heap := h', toks := s.toks + k.draws }) (hz : xs.length ≤ sizeLine) :
    wpAny (model prog w) A (dictSetDefault d kv dflt) Q E s := by
  obtain ⟨o, es, ep, ho, hc, hd, he, his, hn⟩ := hm
  unfold dictSetDefault
  (try with_reducible refine wpAny_holding ?_)
  refine wpAny_bind (hashM hu hkey ?_)
  refine wpAny_bind (findM (s := { s with toks := s.toks + k.draws }) hu hkey ho hd he his hn ?_ ?_)
  · intro hno
    exact wpAny_bind (wpAny_rule (wpAny_bind (wpAny_updateDictKeys (hz := by have e := ent_size he; omega) (s := { s with toks := s.toks + k.draws }) ho hd (wpAny_pure (h2 (atM_none hno) _ (put_new (tk := 0) ho hc hd he his hn hkey hno) (Heap.SameBut.update ..))))))
  · intro j p hj
    refine wpAny_bind (wpAny_dictEntries (s := { s with toks := s.toks + k.draws }) ho hd ?_)
    rw [ent_at he j, hj]
    exact wpAny_bind (wpAny_rule (wpAny_pure (h1 p (atM_of hn hj))))

/-! ### the roads -/
theorem getItemM {p : Value × Value} {Q : Value → Shared → Prop} (hu : A.in1.units + 8 < cLine) (hkey : MKey s.heap k kv) (hm : DictM w s.heap d xs) (hp : atM xs k = some p)
    (h : Q p.2 { s with toks := s.toks + k.draws }) : wpAny (model prog w) A (getItem (.ref d) kv) Q E s := by
  unfold getItem
  (try with_reducible refine wpAny_holding ?_)
  refine wpAny_bind (wpAny_sequenceKey hm.typeIs (by decide) ?_)
  refine wpAny_bind (wpAny_callSpecial?_slot (name := Str.ofString "__getitem__") hm.typeIs PySem.slot_dict_getitem
    (wpAny_call_entry PySem.slot_dict_getitem hm.typeIs PySem.entry_dict_getitem ?_ (PySem.args_dict_getitem _ _)))
  show wpAny _ _ (dictGet d kv >>= _) _ _ s
  refine wpAny_bind (dictGetM hu hkey hm ?_)
  rw [hp]
  exact wpAny_pure ⟨p.2, rfl, wpAny_pure h⟩
theorem setItemM {v : Value} {Q : Unit → Shared → Prop} (hu : A.in1.units + 8 < cLine) (hkey : MKey s.heap k kv) (hm : DictM w s.heap d xs)
    (hQ : ∀ h', DictM w h' d (storedM xs k kv v) → Heap.SameBut d s.heap h' → Q () { s with heap := h', toks := s.toks + k.draws }) (hz : xs.length ≤ sizeLine) :
    wpAny (model prog w) A (setItem (.ref d) kv v) Q E s := by
  unfold setItem
  (try with_reducible refine wpAny_holding ?_)
  refine wpAny_bind (wpAny_sequenceKey hm.typeIs (by decide) ?_)
  refine wpAny_bind (wpAny_callSpecial?_slot (name := Str.ofString "__setitem__") hm.typeIs PySem.slot_dict_setitem
    (wpAny_call_entry PySem.slot_dict_setitem hm.typeIs PySem.entry_dict_setitem ?_ (PySem.args_dict_setitem _ _ _)))
  show wpAny _ _ (Builtin.Dict.notOrdered "__setitem__" ⟨[.ref d, kv, v], []⟩ >>= _) _ _ s
  refine wpAny_bind (wpAny_notOrdered_dict hm.typeIs ?_)
  show wpAny _ _ (dictSet d kv v >>= _) _ _ s
  exact wpAny_bind (dictSetM hu hkey hm (fun h' hm' hs' => wpAny_pure ⟨.none, rfl, wpAny_pure (hQ h' hm' hs')⟩) hz)
theorem inM {Q : Value → Shared → Prop} (hu : A.in1.units + 8 < cLine) (hkey : MKey s.heap k kv) (hd : (d == sysModules) = false) (hm : DictM w s.heap d xs)
    (h : Q (.bool (atM xs k).isSome) { s with toks := s.toks + k.draws }) : wpAny (model prog w) A (compareOp .In kv (.ref d)) Q E s := by
  show wpAny _ _ (do return .bool (← contains (.ref d) kv)) Q E s
  refine wpAny_bind ?_
  unfold contains
  (try with_reducible refine wpAny_holding ?_)
  refine wpAny_bind (wpAny_specialOf hm.typeIs PySem.slot_dict_contains.lookup ?_)
  show wpAny _ _ (if (some (Value.builtin "dict.__contains__") == some Value.none) = true then _ else _) _ E s
  rw [if_neg (by rw [beq_builtin_none]; exact Bool.false_ne_true)]
  refine wpAny_bind (wpAny_callSpecialUnlessNone?_slot (name := Str.ofString "__contains__") hm.typeIs PySem.slot_dict_contains
    (wpAny_call_entry PySem.slot_dict_contains hm.typeIs PySem.entry_dict_contains ?_ (PySem.args_dict_contains _ _)))
  show wpAny _ _ (dictGet d kv >>= _) _ _ s
  refine wpAny_bind (dictGetM hu hkey hm ?_)
  cases hf : atM xs k with
  | some p =>
    rw [hf] at h
    show wpAny _ _ (ret (.bool true)) _ _ _
    exact wpAny_pure ⟨_, rfl, wpAny_truthy_bool (wpAny_pure h)⟩
  | none =>
    rw [hf] at h
    show wpAny _ _ (Builtin.Dict.pendingKey? d kv >>= _) _ _ _
    exact wpAny_bind (wpAny_pendingKey_other hd (wpAny_pure ⟨_, rfl, wpAny_truthy_bool (wpAny_pure h)⟩))
theorem getOrM {x : Value} {Q : Value → Shared → Prop} (hu : A.in1.units + 8 < cLine) (hkey : MKey s.heap k kv) (hd : (d == sysModules) = false) (hm : DictM w s.heap d xs)
    (h : Q (((atM xs k).map (·.2)).getD x) { s with toks := s.toks + k.draws }) : wpAny (model prog w) A (call (.builtin "dict.get") [.ref d, kv, x]) Q E s := by
  refine call_meetsIn PySem.F.slot_dict_get hm.typeIs PySem.F.entry_dict_get (PySem.F.args_dict_get_3 _ _ _) (S := fun A' R s' => A' = A ∧ s' = s ∧ R (.ok (.ret (((atM xs k).map (·.2)).getD x))) { s with toks := s.toks + k.draws }) (fun A' R s' hS => ?_) ⟨rfl, rfl, h⟩
  obtain ⟨rfl, rfl, hq⟩ := hS
  show wpAny _ _ (dictGet d kv >>= _) _ _ _
  refine wpAny_bind (dictGetM hu hkey hm ?_)
  cases hf : (atM xs k).map (·.2) with
  | some v =>
    rw [hf] at hq
    exact wpAny_pure hq
  | none =>
    rw [hf] at hq
    show wpAny _ _ (Builtin.Dict.missed d kv >>= _) _ _ _
    exact wpAny_bind (wpAny_missed_other hd (wpAny_pure hq))
theorem setdefaultM {x : Value} {Q : Value → Shared → Prop} (hu : A.in1.units + 8 < cLine) (hkey : MKey s.heap k kv) (hd : (d == sysModules) = false) (hm : DictM w s.heap d xs)
    (h1 : ∀ p, atM xs k = some p → Q p.2 { s with toks := s.toks + k.draws })
    (h2 : atM xs k = none → ∀ h', DictM w h' d (storedM xs k kv x) → Heap.SameBut d s.heap h' → Q x { s with heap := h', toks := s.toks + k.draws }) (hz : xs.length ≤ sizeLine) :
    wpAny (model prog w) A (call (.builtin "dict.setdefault") [.ref d, kv, x]) Q E s := by
  refine call_meetsIn PySem.F.slot_dict_setdefault hm.typeIs PySem.F.entry_dict_setdefault (PySem.F.args_dict_setdefault_3 _ _ _) (S := fun A' R s' => A' = A ∧ s' = s ∧ (∀ p, atM xs k = some p → R (.ok (.ret p.2)) { s with toks := s.toks + k.draws }) ∧
    (atM xs k = none → ∀ h', DictM w h' d (storedM xs k kv x) → Heap.SameBut d s.heap h' → R (.ok (.ret x)) { s with heap := h', toks := s.toks + k.draws })) (fun A' R s' hS => ?_) ⟨rfl, rfl, h1, h2⟩
  obtain ⟨rfl, rfl, h1, h2⟩ := hS
  unfold Builtin.«dict.setdefault»
  refine wpAny_bind ?_
  unfold Builtin.Dict.keyAndDefault
  refine wpAny_bind (wpAny_notOrdered_dict hm.typeIs ?_)
  show wpAny _ _ (pure (d, kv, some x)) _ _ _
  refine wpAny_pure ?_
  show wpAny _ _ (if (d == sysModules) = true then _ else (dictSetDefault d kv x >>= _)) _ _ _
  rw [if_neg (by rw [hd]; exact Bool.false_ne_true)]
  exact wpAny_bind (setDefM hu hkey hm (fun p hp => wpAny_pure (h1 p hp)) (fun hn h' hm' hs' => wpAny_pure (h2 hn h' hm' hs')) hz)
end
end NK

/-! dicts with mixed keys over the hand layer: what stands at an address, the rules -/
namespace NK
open PySem PySem.Spec PyProof.Rows L2

mutual
/-- the value is the key, in the abstract heap -/
inductive Nk (H : Hp) : NestedKey → V → Prop
  | non : Nk H .none .non
  | bl (b : Bool) : Nk H (.num (if b = true then 1 else 0)) (.bl b)
  | int (i : Int) : Nk H (.num i) (.int i)
  | str (x : Str) : Nk H (.text x) (.str x)
  | tup {a : Addr} {xs : List V} {ks : List NestedKey} : Rd H a (.tup xs) → NkAll H ks xs → Nk H (.tup ks) (.ref a)
inductive NkAll (H : Hp) : List NestedKey → List V → Prop
  | nil : NkAll H [] []
  | cons {k : NestedKey} {v : V} {ks : List NestedKey} {vs : List V} : Nk H k v → NkAll H ks vs → NkAll H (k :: ks) (v :: vs)
end
/-- all that never changes (tuples; what is known to the object) stands as it stood -/
def Tups (H H' : Hp) : Prop := ∀ a u, H a = some u → ¬ Mut (some u) → H' a = some u
theorem Tups.refl (H : Hp) : Tups H H := fun _ _ h _ => h
theorem Tups.trans {H H1 H2 : Hp} (a : Tups H H1) (b : Tups H1 H2) : Tups H H2 := fun c u h m => b c u (a c u h m) m
theorem Tups.mut {H : Hp} {a : Addr} {o : HO} (m : Mut (H a)) : Tups H (upd H a o) := fun b u h n => by
  rw [upd_ne]
  · exact h
  · rintro rfl
    rw [h] at m
    exact n m
theorem Tups.new {H : Hp} {a : Addr} {o : HO} (m : H a = none) : Tups H (upd H a o) := fun b u h _ => by
  rw [upd_ne (ne_of_none h m)]
  exact h
theorem Tups.rd {H H' : Hp} (t : Tups H H') {a : Addr} {xs : List V} (h : Rd H a (.tup xs)) : Rd H' a (.tup xs) := by
  rcases h with h | ⟨o, h⟩
  · exact .inl (t _ _ h fun m => m)
  · exact .inr ⟨o, t _ _ h fun m => m⟩
mutual
theorem Nk.mono {H H' : Hp} (t : Tups H H') : ∀ (k : NestedKey) (v : V), Nk H k v → Nk H' k v
  | .none, _, h => by cases h; exact .non
  | .num _, _, h => by
    cases h with
    | bl b => exact .bl b
    | int _ => exact .int _
  | .text _, _, h => by cases h; exact .str _
  | .tup ks, _, h => by
    cases h with
    | tup h1 h2 => exact .tup (t.rd h1) (NkAll.mono t ks _ h2)
theorem NkAll.mono {H H' : Hp} (t : Tups H H') : ∀ (ks : List NestedKey) (vs : List V), NkAll H ks vs → NkAll H' ks vs
  | [], _, h => by cases h; exact .nil
  | k :: ks, _, h => by
    cases h with
    | cons h1 h2 => exact .cons (Nk.mono t k _ h1) (NkAll.mono t ks _ h2)
end

section
variable {X : Cx} {pins : List (Addr × Obj)} {σ : L2.St} {H : Hp} {s : Shared} {a : Addr}
mutual
theorem Nk.nested (I : Inv X pins σ H s) : ∀ (k : NestedKey) (v : V) (u : Value), Nk H k v → RelV v u → NestedIs s.heap k u
  | .none, _, _, h, r => by cases h; cases r; exact .none
  | .num _, _, _, h, r => by
    cases h with
    | bl b => cases r; exact .bool rfl
    | int i => obtain ⟨t, rfl⟩ := r; exact .int _ _
  | .text _, _, _, h, r => by cases h; obtain ⟨t, rfl⟩ := r; exact .text _ _
  | .tup ks, _, _, h, r => by
    cases h with
    | tup h1 h2 =>
      cases r
      obtain ⟨its, rv, ⟨o, ho, hc, n, hd⟩, _⟩ := I.tuple (.inl h1)
      exact .tup ho hc hd (NkAll.nested I ks _ its h2 rv)
theorem NkAll.nested (I : Inv X pins σ H s) : ∀ (ks : List NestedKey) (vs : List V) (us : List Value), NkAll H ks vs → Vals vs us → NestedAll s.heap ks us
  | [], _, _, h, r => by cases h; cases r; exact .nil
  | k :: ks, _, _, h, r => by
    cases h with
    | cons h1 h2 =>
      cases r with
      | cons r1 r2 => exact .cons (Nk.nested I k _ _ h1 r1) (NkAll.nested I ks _ _ h2 r2)
end
end

/-! ### a dict in the abstract heap -/
abbrev KE := NestedKey × V × V
abbrev relE (p : KE) (q : Ent) : Prop := p.1 = q.1 ∧ RelV p.2.1 q.2.1 ∧ RelV p.2.2 q.2.2
def RawD (w : World) (a : Addr) (kvs : List KE) (ep : Nat) (h : Heap) : Prop :=
  ∃ o es xs, h.get? a = some o ∧ o.ExactDict ∧ o.data = .dict es ep ∧ es.toList = xs.map (entM w) ∧ Paired relE kvs xs
structure DRaw (w : World) (H : Hp) (a : Addr) (kvs : List KE) (ep : Nat) : Prop where
  at_ : H a = some (.ext (RawD w a kvs ep))
  keys : ∀ x ∈ kvs, Nk H x.1 x.2.1 ∧ x.1.depth ≤ 8
  nd : (kvs.map (·.1)).Nodup
  sz : kvs.length ≤ sizeLine
  ns : (a == sysModules) = false
/-- the keys and values, in their order -/
abbrev strip (kvs : List KE) : List (NestedKey × V) := kvs.map fun x => (x.1, x.2.2)
def DAt (w : World) (H : Hp) (a : Addr) (l : List (NestedKey × V)) : Prop := ∃ kvs ep, DRaw w H a kvs ep ∧ strip kvs = l
theorem DAt.mut {w : World} {H : Hp} {a : Addr} {l : List (NestedKey × V)} (d : DAt w H a l) : Mut (H a) := by
  obtain ⟨kvs, ep, d, _⟩ := d
  rw [d.at_]
  trivial
/-- it stays while it and the tuples stay -/
theorem DAt.mono {w : World} {H H' : Hp} {a : Addr} {l : List (NestedKey × V)} (d : DAt w H a l) (h : H' a = H a) (t : Tups H H') : DAt w H' a l := by
  obtain ⟨kvs, ep, d, e⟩ := d
  exact ⟨kvs, ep, ⟨h.trans d.at_, fun x hx => ⟨Nk.mono t _ _ (d.keys x hx).1, (d.keys x hx).2⟩, d.nd, d.sz, d.ns⟩, e⟩
theorem DRaw.mono {w : World} {H H' : Hp} {a : Addr} {kvs : List KE} {ep : Nat} (d : DRaw w H a kvs ep) (h : H' a = H a) (t : Tups H H') : DRaw w H' a kvs ep :=
  ⟨h.trans d.at_, fun x hx => ⟨Nk.mono t _ _ (d.keys x hx).1, (d.keys x hx).2⟩, d.nd, d.sz, d.ns⟩
theorem DAt.len {w : World} {H : Hp} {a : Addr} {l : List (NestedKey × V)} (d : DAt w H a l) : l.length ≤ sizeLine := by
  obtain ⟨kvs, ep, d, rfl⟩ := d
  rw [List.length_map]
  exact d.sz
theorem DAt.nodup {w : World} {H : Hp} {a : Addr} {l : List (NestedKey × V)} (d : DAt w H a l) : (l.map (·.1)).Nodup := by
  obtain ⟨kvs, ep, d, rfl⟩ := d
  have e : (strip kvs).map (·.1) = kvs.map (·.1) := by rw [List.map_map]; rfl
  rw [e]
  exact d.nd

theorem rel_val {k : NestedKey} : ∀ {kvs : List KE} {xs : List Ent}, Paired relE kvs xs → RelO (valV (strip kvs) k) ((atM xs k).map (·.2))
  | _, _, .nil => trivial
  | _, _, .cons (a := p) (b := q) r t => by
    have ih := rel_val (k := k) t
    obtain ⟨r1, r2, r3⟩ := r
    by_cases e : p.1 = k
    · rw [show strip (p :: _) = (p.1, p.2.2) :: strip _ from rfl, valV_pos (p := (p.1, p.2.2)) e]
      unfold atM
      rw [List.find?_cons_of_pos (by rw [← r1]; simpa using e)]
      exact r3
    · rw [show strip (p :: _) = (p.1, p.2.2) :: strip _ from rfl, valV_neg (p := (p.1, p.2.2)) e]
      unfold atM
      rw [List.find?_cons_of_neg (by rw [← r1]; simpa using e)]
      exact ih
def putE (kvs : List KE) (k : NestedKey) (kv v : V) : List KE := if (kvs.any fun x => decide (x.1 = k)) = true then kvs.map (fun x => if x.1 = k then (x.1, x.2.1, v) else x) else kvs ++ [(k, kv, v)]
theorem strip_putE (kvs : List KE) (k : NestedKey) (kv v : V) : strip (putE kvs k kv v) = putK (strip kvs) k v := by
  unfold putE putK
  have e : ((strip kvs).any fun x => decide (x.1 = k)) = kvs.any fun x => decide (x.1 = k) := by
    show (List.map _ kvs).any _ = _
    rw [List.any_map]
    rfl
  rw [e]
  split
  · show List.map _ (List.map _ _) = List.map _ (List.map _ _)
    rw [List.map_map, List.map_map]
    refine List.map_congr_left fun x _ => ?_
    show (_, _) = _
    by_cases q : x.1 = k <;> simp [q]
  · show List.map _ (_ ++ _) = List.map _ _ ++ _
    rw [List.map_append]
    rfl
theorem paired_map {α β γ δ : Type} {F : α → β → Prop} {G : γ → δ → Prop} {f : α → γ} {g : β → δ} (h : ∀ a b, F a b → G (f a) (g b)) : ∀ {l : List α} {m : List β}, Paired F l m → Paired G (l.map f) (m.map g)
  | _, _, .nil => .nil
  | _, _, .cons r t => .cons (h _ _ r) (paired_map h t)
theorem paired_snoc {α β : Type} {F : α → β → Prop} {a : α} {b : β} (r : F a b) : ∀ {l : List α} {m : List β}, Paired F l m → Paired F (l ++ [a]) (m ++ [b])
  | _, _, .nil => .cons r .nil
  | _, _, .cons q t => .cons q (paired_snoc r t)
theorem rel_put {k : NestedKey} {kv v : V} {ku u : Value} (rk : RelV kv ku) (rv : RelV v u) {kvs : List KE} {xs : List Ent} (r : Paired relE kvs xs) : Paired relE (putE kvs k kv v) (storedM xs k ku u) := by
  have e : (kvs.any fun x => decide (x.1 = k)) = (atM xs k).isSome := by
    have q := (rel_val (k := k) r).isSome_eq
    rw [Option.isSome_map] at q
    rw [← q, ← valV_any]
    show _ = (List.map _ kvs).any _
    rw [List.any_map]
    rfl
  unfold putE storedM
  rw [e]
  split
  · refine paired_map (fun a b z => ?_) r
    obtain ⟨z1, z2, z3⟩ := z
    unfold putM
    by_cases q : a.1 = k
    · rw [if_pos q, if_pos (z1 ▸ q)]
      exact ⟨z1, z2, rv⟩
    · rw [if_neg q, if_neg (fun y => q (z1.trans y))]
      exact ⟨z1, z2, z3⟩
  · exact paired_snoc ⟨rfl, rk, rv⟩ r
theorem putE_mem {kvs : List KE} {k : NestedKey} {kv v : V} {x : KE} (h : x ∈ putE kvs k kv v) : (∃ y ∈ kvs, y.1 = x.1 ∧ y.2.1 = x.2.1) ∨ (x.1 = k ∧ x.2.1 = kv) := by
  unfold putE at h
  split at h
  · obtain ⟨y, hy, rfl⟩ := List.mem_map.mp h
    refine .inl ⟨y, hy, ?_⟩
    by_cases q : y.1 = k <;> simp [q]
  · rcases List.mem_append.mp h with h | h
    · exact .inl ⟨x, h, rfl, rfl⟩
    · rw [List.mem_singleton.mp h]
      exact .inr ⟨rfl, rfl⟩

section
variable {X : Cx} {pins : List (Addr × Obj)} {σ : L2.St} {H : Hp} {s : Shared} {a : Addr} {kvs : List KE} {ep : Nat} {l : List (NestedKey × V)} {k : NestedKey} {kv v : V} {u r : Value}
theorem dm_of (I : Inv X pins σ H s) (d : DRaw X.w H a kvs ep) : ∃ xs, DictM X.w s.heap a xs ∧ Paired relE kvs xs ∧ xs.length ≤ sizeLine := by
  obtain ⟨⟨o, es, xs, ho, hc, hd, he, pr⟩, _, _⟩ := I.hok a _ d.at_
  have el : kvs.length = xs.length := Paired.length pr
  refine ⟨xs, ⟨o, es, ep, ho, hc, hd, he, fun x hx => ?_, ?_⟩, pr, by have := d.sz; omega⟩
  · obtain ⟨j, hj⟩ := List.mem_iff_getElem?.mp hx
    have hjl : j < kvs.length := by
      rw [el]
      exact (List.getElem?_eq_some_iff.mp hj).1
    have pget : ∀ {l : List KE} {m : List Ent} {j : Nat} {x : Ent}, Paired relE l m → m[j]? = some x → ∃ y, l[j]? = some y ∧ relE y x := by
      intro l m j x p
      induction p generalizing j with
      | nil => intro e; simp at e
      | cons q t ih =>
        intro e
        cases j with
        | zero =>
          simp at e
          subst e
          exact ⟨_, rfl, q⟩
        | succ j => exact ih (by simpa using e)
    obtain ⟨y, hy, q1, q2, _⟩ := pget pr hj
    obtain ⟨n1, n2⟩ := d.keys y (List.mem_of_getElem? hy)
    refine ⟨?_, by rw [← q1]; exact n2⟩
    rw [← q1]
    exact Nk.nested I _ _ _ n1 q2
  · have e : ∀ {l : List KE} {m : List Ent}, Paired relE l m → l.map (·.1) = m.map (·.1) := by
      intro l m p
      induction p with
      | nil => rfl
      | cons q t ih => rw [List.map_cons, List.map_cons, q.1, ih]
    rw [← e pr]
    exact d.nd
/-- a dict of ours is laid or written: what the layer asks -/
theorem raw_ok {P : Program} {w : World} {H : Hp} {h : Heap} {kvs : List KE} {xs : List Ent} (dm : DictM w h a xs) (pr : Paired relE kvs xs) : ∃ ep, ObjOk P w H h a (.ext (RawD w a kvs ep)) := by
  obtain ⟨o, es, ep, ho, hc, hd, he, _, _⟩ := dm
  refine ⟨ep, ⟨o, es, xs, ho, hc, hd, he, pr⟩, ⟨o, ho⟩, fun h1 h2 p k => ?_⟩
  obtain ⟨o1, es1, xs1, ho1, r⟩ := p
  exact ⟨o1, es1, xs1, k o1 ho1, r⟩
theorem mkey_of (I : Inv X pins σ H s) (n : Nk H k kv) (hz : k.depth ≤ 8) (rk : RelV kv u) : MKey s.heap k u := ⟨Nk.nested I k kv u n rk, hz⟩

theorem d_get {o : V} {Q : Value → Shared → Prop} {A : Around} {E : Value → Shared → Prop} (hu : A.in1.units + 8 < cLine) (I : Inv X pins σ H s) (d : DAt X.w H a l) (n : Nk H k kv) (hz : k.depth ≤ 8) (rk : RelV kv u) (hv : valV l k = some o)
    (h : ∀ w' s', Inv X pins σ H s' → RelV o w' → Q w' s') : wpAny (model X.prog X.w) A (getItem (.ref a) u) Q E s := by
  obtain ⟨kvs, ep, d, rfl⟩ := d
  obtain ⟨xs, dm, pr, _⟩ := dm_of I d
  have q := rel_val (k := k) pr
  rw [hv] at q
  cases e : atM xs k with
  | none =>
    rw [e] at q
    exact (show False from q).elim
  | some p =>
    rw [e] at q
    exact getItemM hu (mkey_of I n hz rk) dm e (h _ _ (I.tok _) q)
theorem d_inD {Q : Value → Shared → Prop} {A : Around} {E : Value → Shared → Prop} (hu : A.in1.units + 8 < cLine) (I : Inv X pins σ H s) (d : DAt X.w H a l) (n : Nk H k kv) (hz : k.depth ≤ 8) (rk : RelV kv u)
    (h : ∀ s', Inv X pins σ H s' → Q (.bool (valV l k).isSome) s') : wpAny (model X.prog X.w) A (compareOp .In u (.ref a)) Q E s := by
  obtain ⟨kvs, ep, d, rfl⟩ := d
  obtain ⟨xs, dm, pr, _⟩ := dm_of I d
  have q := (rel_val (k := k) pr).isSome_eq
  rw [Option.isSome_map] at q
  refine inM hu (mkey_of I n hz rk) d.ns dm ?_
  rw [← q]
  exact h _ (I.tok _)
theorem d_getOr {x : V} {Q : Value → Shared → Prop} {A : Around} {E : Value → Shared → Prop} (hu : A.in1.units + 8 < cLine) (I : Inv X pins σ H s) (d : DAt X.w H a l) (n : Nk H k kv) (hz : k.depth ≤ 8) (rk : RelV kv u) (rx : RelV x r)
    (h : ∀ w' s', Inv X pins σ H s' → RelV ((valV l k).getD x) w' → Q w' s') : wpAny (model X.prog X.w) A (call (.builtin "dict.get") [.ref a, u, r]) Q E s := by
  obtain ⟨kvs, ep, d, rfl⟩ := d
  obtain ⟨xs, dm, pr, _⟩ := dm_of I d
  exact getOrM hu (mkey_of I n hz rk) d.ns dm (h _ _ (I.tok _) ((rel_val (k := k) pr).getD rx))
theorem at_put {w : World} {H : Hp} {ep : Nat} (d : DRaw w H a kvs ep) (n : Nk H k kv) (hz : k.depth ≤ 8) (hl : kvs.length < sizeLine) {ep' : Nat} : DRaw w (upd H a (.ext (RawD w a (putE kvs k kv v) ep'))) a (putE kvs k kv v) ep' := by
  have t : Tups H (upd H a (.ext (RawD w a (putE kvs k kv v) ep'))) := Tups.mut (by rw [d.at_]; trivial)
  refine ⟨upd_same, fun x hx => ?_, ?_, ?_, d.ns⟩
  · rcases putE_mem hx with ⟨y, hy, e1, e2⟩ | ⟨e1, e2⟩
    · rw [← e1, ← e2]
      exact ⟨Nk.mono t _ _ (d.keys y hy).1, (d.keys y hy).2⟩
    · rw [e1, e2]
      exact ⟨Nk.mono t _ _ n, hz⟩
  · have e : (putE kvs k kv v).map (·.1) = (putK (strip kvs) k v).map (·.1) := by
      rw [← strip_putE (kv := kv), List.map_map]
      rfl
    rw [e]
    have nd : ((strip kvs).map (·.1)).Nodup := by
      have e2 : (strip kvs).map (·.1) = kvs.map (·.1) := by rw [List.map_map]; rfl
      rw [e2]
      exact d.nd
    cases q : valV (strip kvs) k with
    | none => exact nd_putK v nd q
    | some y =>
      unfold putK
      rw [valV_any, q, if_pos (by rfl), List.map_map]
      have e3 : ((fun x : NestedKey × V => x.1) ∘ fun kv : NestedKey × V => if kv.1 = k then (kv.1, v) else kv) = fun x => x.1 := by
        funext x
        show (if x.1 = k then (x.1, v) else x).1 = x.1
        split <;> rfl
      rw [e3]
      exact nd
  · have e : (putE kvs k kv v).length = (putK (strip kvs) k v).length := by
      rw [← strip_putE (kv := kv), List.length_map]
    rw [e]
    have q := length_putK (strip kvs) k v
    rw [List.length_map] at q
    omega
theorem d_set {Q : Unit → Shared → Prop} {A : Around} {E : Value → Shared → Prop} (hu : A.in1.units + 8 < cLine) (I : Inv X pins σ H s) (d : DAt X.w H a l) (n : Nk H k kv) (hz : k.depth ≤ 8) (hl : l.length < sizeLine) (rk : RelV kv u) (rv : RelV v r)
    (h : ∀ o s', DAt X.w (upd H a o) a (putK l k v) → Inv X pins σ (upd H a o) s' → Q () s') : wpAny (model X.prog X.w) A (setItem (.ref a) u r) Q E s := by
  obtain ⟨kvs, ep, d, rfl⟩ := d
  obtain ⟨xs, dm, pr, hx⟩ := dm_of I d
  rw [List.length_map] at hl
  refine setItemM hu (mkey_of I n hz rk) dm (fun h' dm' hs => ?_) hx
  obtain ⟨ep', ok⟩ := raw_ok (P := X.prog) (H := upd H a (.ext (RawD X.w a (putE kvs k kv v) 0))) dm' (rel_put rk rv pr)
  refine h _ _ ⟨_, ep', at_put d n hz hl, strip_putE ..⟩ (d_write (t' := s.toks + k.draws) I (by rw [d.at_]; trivial) hs ?_ ok)
  obtain ⟨o, _, _, ho, _⟩ := dm'
  exact ⟨o, ho⟩
theorem d_setdef {x : V} {Q : Value → Shared → Prop} {A : Around} {E : Value → Shared → Prop} (hu : A.in1.units + 8 < cLine) (I : Inv X pins σ H s) (d : DAt X.w H a l) (n : Nk H k kv) (hz : k.depth ≤ 8) (hl : l.length < sizeLine) (rk : RelV kv u) (rx : RelV x r)
    (h1 : ∀ v w' s', valV l k = some v → Inv X pins σ H s' → RelV v w' → Q w' s')
    (h2 : valV l k = none → ∀ o w' s', DAt X.w (upd H a o) a (putK l k x) → Inv X pins σ (upd H a o) s' → RelV x w' → Q w' s') : wpAny (model X.prog X.w) A (call (.builtin "dict.setdefault") [.ref a, u, r]) Q E s := by
  obtain ⟨kvs, ep, d, rfl⟩ := d
  obtain ⟨xs, dm, pr, hx⟩ := dm_of I d
  rw [List.length_map] at hl
  have q := rel_val (k := k) pr
  refine setdefaultM hu (mkey_of I n hz rk) d.ns dm (fun p hp => ?_) (fun hn h' dm' hs => ?_) hx
  · rw [hp] at q
    cases e : valV (strip kvs) k with
    | none =>
      rw [e] at q
      exact (show False from q).elim
    | some v0 =>
      rw [e] at q
      exact h1 v0 _ _ e (I.tok _) q
  · rw [hn] at q
    have e : valV (strip kvs) k = none := by
      cases e : valV (strip kvs) k with
      | none => rfl
      | some v0 =>
        rw [e] at q
        exact (show False from q).elim
    obtain ⟨ep', ok⟩ := raw_ok (P := X.prog) (H := upd H a (.ext (RawD X.w a (putE kvs k kv x) 0))) dm' (rel_put rk rx pr)
    refine h2 e _ _ _ ⟨_, ep', at_put d n hz hl, strip_putE ..⟩ (d_write (t' := s.toks + k.draws) I (by rw [d.at_]; trivial) hs ?_ ok) rx
    obtain ⟨o, _, _, ho, _⟩ := dm'
    exact ⟨o, ho⟩
end
end NK

/-! dicts with mixed keys: the rules of the hand layer -/
namespace NK
open PySem PySem.Spec PyProof.Rows L2

theorem hu1 {A : Around} (h : A.units + 64 < cLine) : A.in1.units + 8 < cLine := by
  rw [Around.in1_units]
  omega
/-! ### readings -/
def tDNew (w : World) : TE := fun _ H Q => ∀ p o, H p = none → DAt w (upd H p o) p [] → Q (.ref p) (upd H p o)
def rIxD (w : World) : R2 := fun x y H Q => ∃ a l k v, x = .ref a ∧ DAt w H a l ∧ Nk H k y ∧ k.depth ≤ 8 ∧ valV l k = some v ∧ Q v H
def rInD (w : World) : R2 := fun y x H Q => ∃ a l k, x = .ref a ∧ DAt w H a l ∧ Nk H k y ∧ k.depth ≤ 8 ∧ Q (.bl (valV l k).isSome) H
def rSetD (w : World) : TSet := fun o y v H Q => ∃ a l k, o = .ref a ∧ DAt w H a l ∧ Nk H k y ∧ k.depth ≤ 8 ∧ l.length < sizeLine ∧ ∀ ob, DAt w (upd H a ob) a (putK l k v) → Q (upd H a ob)
def tDGetOr (w : World) (td ty tx : TE) : TE := fun σ H Q => td σ H fun x H1 => ∃ a l, x = .ref a ∧ DAt w H1 a l ∧ ty σ H1 fun y H2 => tx σ H2 fun z H3 => ∃ l' k, DAt w H3 a l' ∧ Nk H3 k y ∧ k.depth ≤ 8 ∧ Q ((valV l' k).getD z) H3
def tDSetDef (w : World) (td ty tx : TE) : TE := fun σ H Q => td σ H fun x H1 => ∃ a l, x = .ref a ∧ DAt w H1 a l ∧ ty σ H1 fun y H2 => tx σ H2 fun z H3 => ∃ l' k, DAt w H3 a l' ∧ Nk H3 k y ∧ k.depth ≤ 8 ∧ l'.length < sizeLine ∧
  (∀ v, valV l' k = some v → Q v H3) ∧ (valV l' k = none → ∀ ob, DAt w (upd H3 a ob) a (putK l' k z) → Q z (upd H3 a ob))

section
variable {X : Cx} {pins : List (Addr × Obj)} {σ : L2.St} {H : Hp} {s : Shared} {a : Addr}
theorem d_is {l : List (NestedKey × V)} (I : Inv X pins σ H s) (d : DAt X.w H a l) : s.TypeIs (.ref a) "dict" ∧ (∀ b, Value.ref a = .ref b → ∃ ob, s.heap.get? b = some ob ∧ ob.dict = none) := by
  obtain ⟨kvs, ep, d, rfl⟩ := d
  obtain ⟨xs, dm, pr, _⟩ := dm_of I d
  exact ⟨dm.typeIs, dm.noDict⟩
theorem new_ok {P : Program} {w : World} {H : Hp} (h : Heap) : ObjOk P w H (h.push { cls := .type "dict", data := .dict #[] }) h.objs.size (.ext (RawD w h.objs.size [] 0)) :=
  ⟨⟨_, #[], [], Heap.get?_push_size _ rfl, ⟨rfl, rfl, rfl⟩, rfl, rfl, .nil⟩, ⟨_, Heap.get?_push_size _ rfl⟩, fun h1 h2 p k => by
    obtain ⟨o1, es1, xs1, ho1, r⟩ := p
    exact ⟨o1, es1, xs1, k o1 ho1, r⟩⟩
theorem new_at {w : World} {H : Hp} {p : Addr} (hb : sysModules < p) : DAt w (upd H p (.ext (RawD w p [] 0))) p [] :=
  ⟨[], 0, ⟨upd_same, (fun x hx => nomatch hx), List.nodup_nil, Nat.zero_le _, beq_eq_false_iff_ne.mpr (Ne.symm (Nat.ne_of_lt hb))⟩, rfl⟩
theorem pe_dnew {pos : Pos} : PE X (.Dict [] [] pos) (tDNew X.w) := ⟨fun pins s σ H Q I h =>
  wpAny_Dict_empty ⟨.ref s.heap.objs.size, _, I.laid (a := s.heap.objs.size) (o := .ext (RawD X.w s.heap.objs.size [] 0)) (t' := s.toks) (fun _ _ q => Heap.get?_push_of_some _ q) (Nat.le_refl _) (new_ok s.heap), rfl, h _ _ (I.hok.fresh (Nat.le_refl _)) (new_at I.big)⟩⟩
theorem ix_nd (hu : X.A.units + 64 < cLine) : IxR X (rIxD X.w) := by
  intro value slice pins s σ H x y v u Q I rx ry h hs
  obtain ⟨a, l, k, z, rfl, d, n, hz, hv, q⟩ := h
  cases rx
  exact tail_any (d_is I d).1 PySem.F.slot_dict_getitem.lookup (d_get (hu1 hu) I d n hz ry hv fun w' s' I' r' => ⟨z, H, I', r', q⟩) hs
theorem op_in_nd (hu : X.A.units + 64 < cLine) : OpR X (compareOp .In) (rInD X.w) := by
  intro pins s σ H x y v u Q I rx ry h
  obtain ⟨a, l, k, rfl, d, n, hz, q⟩ := h
  cases ry
  exact d_inD (hu1 hu) I d n hz rx fun s' I' => ⟨.bl _, H, I', rfl, q⟩
theorem set_nd (hu : X.A.units + 64 < cLine) : PSet X (rSetD X.w) := by
  intro pins s σ H o i v ov iv u Q I ro ri rv h
  obtain ⟨a, l, k, rfl, d, n, hz, hl, q⟩ := h
  cases ro
  exact d_set (hu1 hu) I d n hz hl ri rv fun ob s' d' I' => ⟨_, I', q ob d'⟩
variable {o e f : Expr} {apos cpos : Pos} {td ty tx : TE}
theorem pe_dgetOr (hu : X.A.units + 64 < cLine) (ho : PE X o td) (he : PE X e ty) (hf : PE X f tx) (m : M2 X o "get" apos e f cpos) : PE X (.Call (.Attribute o "get" apos) [e, f] [] cpos) (tDGetOr X.w td ty tx) := by
  refine ⟨fun pins s σ H Q I h => ?_⟩
  refine wpAny_Call_method m.base m.few m.line PySem.F.plainAttrs_dict PySem.F.slot_dict_get PySem.F.type_dict_get (thn (ho.run pins s σ H _ I h) fun u s1 ⟨x, H1, I1, rx, a, l, ex, d, q1⟩ => ?_)
  subst ex
  obtain rfl : u = Value.ref a := rx
  obtain ⟨t1, t2⟩ := d_is I1 d
  refine ⟨t1, t2, ?_⟩
  rw [m.trees]
  refine Calls.callWith_builtin rfl (Calls.evalArgs_plain (Calls.spliced_cons (thn (he.run pins s1 σ H1 _ I1 q1) fun iv s2 ⟨y, H2, I2, ry, q2⟩ =>
    Calls.spliced_cons (thn (hf.run pins s2 σ H2 _ I2 q2) fun fv s3 ⟨z, H3, I3, rz, l', k, d', n, hz, q3⟩ => Calls.spliced_nil ?_))))
  exact d_getOr (hu1 hu) I3 d' n hz ry rz fun w' s4 I4 rw' => ⟨_, H3, I4, rw', q3⟩
theorem pe_dsetdef (hu : X.A.units + 64 < cLine) (ho : PE X o td) (he : PE X e ty) (hf : PE X f tx) (m : M2 X o "setdefault" apos e f cpos) : PE X (.Call (.Attribute o "setdefault" apos) [e, f] [] cpos) (tDSetDef X.w td ty tx) := by
  refine ⟨fun pins s σ H Q I h => ?_⟩
  refine wpAny_Call_method m.base m.few m.line PySem.F.plainAttrs_dict PySem.F.slot_dict_setdefault PySem.F.type_dict_setdefault (thn (ho.run pins s σ H _ I h) fun u s1 ⟨x, H1, I1, rx, a, l, ex, d, q1⟩ => ?_)
  subst ex
  obtain rfl : u = Value.ref a := rx
  obtain ⟨t1, t2⟩ := d_is I1 d
  refine ⟨t1, t2, ?_⟩
  rw [m.trees]
  refine Calls.callWith_builtin rfl (Calls.evalArgs_plain (Calls.spliced_cons (thn (he.run pins s1 σ H1 _ I1 q1) fun iv s2 ⟨y, H2, I2, ry, q2⟩ =>
    Calls.spliced_cons (thn (hf.run pins s2 σ H2 _ I2 q2) fun fv s3 ⟨z, H3, I3, rz, l', k, d', n, hz, hl, q3, q4⟩ => Calls.spliced_nil ?_))))
  exact d_setdef (hu1 hu) I3 d' n hz hl ry rz (fun v w' s4 hv I4 rw' => ⟨v, H3, I4, rw', q3 v hv⟩) fun hn ob w' s4 d4 I4 rw' => ⟨z, _, I4, rw', q4 hn ob d4⟩
end

/-! ### for k in d -/
/-- the keys of the dict at d, which does not change in the loop -/
def Itm (w : World) (d : Addr) (kvs : List KE) (ep : Nat) : It :=
  ⟨fun i H => H d = some (.ext (RawD w d kvs ep)) ∧ i < kvs.length, fun i H x H' => H' = H ∧ ∃ k v, kvs[i]? = some (k, x, v), fun i H => H d = some (.ext (RawD w d kvs ep)) ∧ kvs.length ≤ i⟩
theorem paired_at {l : List KE} {m : List Ent} {j : Nat} {x : KE} (p : Paired relE l m) : l[j]? = some x → ∃ y, m[j]? = some y ∧ relE x y := by
  induction p generalizing j with
  | nil => intro e; simp at e
  | cons q t ih =>
    intro e
    cases j with
    | zero =>
      simp at e
      subst e
      exact ⟨_, rfl, q⟩
    | succ j => exact ih (by simpa using e)
section
variable {P : Program} {w : World} {K : PySem.W.Frag} {tg : Expr} {d : Addr} {kvs : List KE} {ep : Nat}
theorem turn_m (it : Addr) : Turn P w K tg (Itm w d kvs ep) [it] it (fun i h => h.IsKeyIter it d i kvs.length ep) where
  mem := by simp
  obj := fun i h st b hb => by
    have e : b = it := by simpa using hb
    subst e
    obtain ⟨oi, e, c, dd⟩ := st
    exact ⟨oi, e, fun v z => by rw [dd] at z; cases z⟩
  keep := fun i h h' st k => st.at fun oi e => k it (by simp) oi e
  item := by
    intro X hP hw hK hc i pins s σ H E I hf st hg
    subst hP hw hK
    obtain ⟨hd, hi⟩ := hg
    obtain ⟨f0, f1, f2, f3, f4, f5⟩ := hf it (by simp)
    obtain ⟨⟨o, es, xs, ho, hx, hdt, he, pr⟩, _, _⟩ := I.hok d _ hd
    obtain ⟨⟨k, x, v⟩, hkv⟩ : ∃ p, kvs[i]? = some p := ⟨kvs[i], List.getElem?_eq_getElem hi⟩
    obtain ⟨y, hy, q1, q2, q3⟩ := paired_at pr hkv
    have hsz : es.size = kvs.length := by rw [ent_size he, Paired.length pr]
    have hen : es[i]? = some (entM X.w y) := by rw [ent_at he i, hy]; rfl
    refine next_key_item st ho hdt hsz hen fun h' st' sb => ?_
    have I1 : Inv X pins σ H { s with heap := h' } := I.turned (t' := s.toks) (fun b ob hb e => (sb.2 b hb).trans e) f0 f1 f3 f4 f5
    obtain ⟨oi, e, c, dd⟩ := id st'
    exact ⟨_, rfl, go_of (s := { s with heap := h' }) e c dd (by decide) ⟨x, H, I1, q2, ⟨rfl, k, v, hkv⟩, st', fun b hb => (hf b hb).1⟩⟩
  done := by
    intro X hP hw hK hc i pins s σ H E I hf st hg
    subst hP hw hK
    obtain ⟨hd, hi⟩ := hg
    obtain ⟨f0, f1, f2, f3, f4, f5⟩ := hf it (by simp)
    obtain ⟨⟨o, es, xs, ho, hx, hdt, he, pr⟩, _, _⟩ := I.hok d _ hd
    have hsz : es.size = kvs.length := by rw [ent_size he, Paired.length pr]
    exact next_key_end (I.ok.hd hc) st ho hdt hsz hi fun h' eb => ⟨rfl, I.turned (t' := s.toks) (fun b ob hb e => eb b ob hb e) f0 f1 f3 f4 f5⟩
  self := fun A i s Q E st h => by
    refine wpAny_pyIter_slot st.typeIs PySem.F.slot_dict_keyiterator_iter (wpAny_call_entry PySem.F.slot_dict_keyiterator_iter st.typeIs PySem.F.entry_dict_keyiterator_iter ?_ (PySem.F.args_dict_keyiterator_iter_1 _))
    show wpAny _ _ (ret (.ref it)) _ _ s
    exact wpAny_pure ⟨_, rfl, "dict_keyiterator", _, st.typeIs, PySem.F.slot_dict_keyiterator_next.lookup, h⟩
end
def iDict (w : World) (td : TE) : TI := fun σ H R => td σ H fun x H1 => ∃ d kvs ep, x = .ref d ∧ DRaw w H1 d kvs ep ∧ R (Itm w d kvs ep) H1
section
variable {X : Cx} {tg e : Expr} {td : TE}
theorem pi_dict (he : PE X e td) : PI X tg e (iDict X.w td) := by
  refine ⟨fun pins s σ H R I h => ?_⟩
  refine thn (he.run pins s σ H _ I h) fun u s1 ⟨x, H1, I1, rx, d, kvs, ep, ex, dr, q⟩ => ?_
  subst ex
  obtain rfl : u = Value.ref d := rx
  obtain ⟨⟨o, es, xs, ho, hx, hdt, he, pr⟩, _, _⟩ := I1.hok d _ dr.at_
  have hsz : es.size = kvs.length := by rw [ent_size he, Paired.length pr]
  refine iter_keys dr.ns ho hx hdt (pi_one (tk := s1.toks) I1 _ (turn_m _) ⟨_, Heap.get?_push_size _ rfl, rfl, ?_⟩ q)
  rw [hsz] <;> rfl
end
/-- a loop over a dict that the body leaves as it is -/
theorem for_dict {w : World} {d : Addr} {kvs : List KE} {ep : Nat} {g : TG} {tb : TS} {D : Ends} {σ : L2.St} {H : Hp} (Pv : Nat → L2.St → Hp → Prop) (h0 : Pv 0 σ H) (hl : ∀ i σ H, i ≤ kvs.length → Pv i σ H → H d = some (.ext (RawD w d kvs ep)))
    (hs : ∀ i k x v σ H, kvs[i]? = some (k, x, v) → Pv i σ H → g x σ H fun σ2 H2 => tb { D with nx := Pv (i + 1), ct := Pv (i + 1), bk := D.nx } σ2 H2) (hd : ∀ σ H, Pv kvs.length σ H → D.nx σ H) :
    ∃ W : Nat → Nat → L2.St → Hp → Prop, (∃ m, W 0 m σ H) ∧ ∀ i m σ H, W i m σ H →
      ((Itm w d kvs ep).stop i H ∧ D.nx σ H) ∨ ((Itm w d kvs ep).go i H ∧ ∃ N : L2.St → Hp → Prop, (∀ σ' H', N σ' H' → ∃ m', m' < m ∧ W (i + 1) m' σ' H') ∧ ∀ x H', (Itm w d kvs ep).yld i H x H' → g x σ H' fun σ2 H2 => tb { D with nx := N, ct := N, bk := D.nx } σ2 H2) := by
  refine ⟨fun i m σ H => m = kvs.length - i ∧ i ≤ kvs.length ∧ Pv i σ H, ⟨kvs.length, by simp, Nat.zero_le _, h0⟩, ?_⟩
  rintro i m σ H ⟨rfl, hi, p⟩
  have q := hl i σ H hi p
  by_cases hlt : i < kvs.length
  · refine .inr ⟨⟨q, hlt⟩, Pv (i + 1), fun σ' H' p' => ⟨kvs.length - (i + 1), by omega, rfl, hlt, p'⟩, fun x H' y => ?_⟩
    obtain ⟨e, k, v, y⟩ := y
    subst e
    exact hs i k x v σ _ y p
  · have e : i = kvs.length := by omega
    subst e
    exact .inl ⟨⟨q, Nat.le_refl _⟩, hd σ H p⟩
/-- a comprehension over a dict that it leaves as it is: see lc_list -/
theorem lc_dict {w : World} {d : Addr} {kvs : List KE} {ep : Nat} {g : TG} {tt : TT} {te : TE} {vs : List Nat} {σ : L2.St} {H1 : Hp} {D : Addr} {Qd : Hp → Prop} (Pv : Nat → Hp → Prop) (h0 : Pv 0 (upd H1 D (.lst []))) (hl : ∀ i H, i ≤ kvs.length → Pv i H → H d = some (.ext (RawD w d kvs ep)))
    (hs : ∀ i k x v H, kvs[i]? = some (k, x, v) → Pv i H → g x (wipe σ vs) H fun σ2 H2 => wipe σ2 vs = wipe σ vs ∧ tt σ2 H2 fun b H3 =>
      if b = true then te σ2 H3 fun y H4 => ∃ acc, H4 D = some (.lst acc) ∧ acc.length < sizeLine ∧ Pv (i + 1) (upd H4 D (.lst (acc ++ [y]))) else Pv (i + 1) H3) (hd : ∀ H, Pv kvs.length H → Qd H) :
    ∃ W : Nat → Nat → Hp → Prop, (∃ m, W 0 m (upd H1 D (.lst []))) ∧ ∀ i m H, W i m H →
      ((Itm w d kvs ep).stop i H ∧ Qd H) ∨ ((Itm w d kvs ep).go i H ∧ ∃ Nx : Hp → Prop, (∀ H', Nx H' → ∃ m', m' < m ∧ W (i + 1) m' H') ∧ ∀ x H', (Itm w d kvs ep).yld i H x H' → g x (wipe σ vs) H' fun σ2 H2 => wipe σ2 vs = wipe σ vs ∧ tt σ2 H2 fun b H3 =>
        if b = true then te σ2 H3 fun y H4 => ∃ acc, H4 D = some (.lst acc) ∧ acc.length < sizeLine ∧ Nx (upd H4 D (.lst (acc ++ [y]))) else Nx H3) := by
  refine ⟨fun i m H => m = kvs.length - i ∧ i ≤ kvs.length ∧ Pv i H, ⟨kvs.length, by simp, Nat.zero_le _, h0⟩, ?_⟩
  rintro i m H ⟨rfl, hi, p⟩
  have q := hl i H hi p
  by_cases hlt : i < kvs.length
  · refine .inr ⟨⟨q, hlt⟩, Pv (i + 1), fun H' p' => ⟨kvs.length - (i + 1), by omega, rfl, hlt, p'⟩, fun x H' y => ?_⟩
    obtain ⟨e, k, v, y⟩ := y
    subst e
    exact hs i k x v _ y p
  · have e : i = kvs.length := by omega
    subst e
    exact .inl ⟨⟨q, Nat.le_refl _⟩, hd H p⟩
end NK

/-! dicts with mixed keys: d != e (values whole numbers) -/
namespace NK
open PySem PySem.Spec PyProof.Rows L2
section
variable {prog : Program} {w : World} {A : Around} {E : Value → Shared → Prop} {s : Shared} {a b : Addr} {xa xb : List Ent}
/-- the entry is met in the other dict -/
def met (veq : Value → Value → Bool) (xb : List Ent) (x : Ent) : Bool := match atM xb x.1 with
  | none => false
  | some p => veq x.2.2 p.2
theorem samePairsM {nm : String} {veq : Value → Value → Bool} {Q : Bool → Shared → Prop} (hu : A.units + 8 < cLine) (ha : (a == sysModules) = false) (hb : (b == sysModules) = false)
    (da : DictM w s.heap a xa) (db : DictM w s.heap b xb) (hv : ∀ x ∈ xa, ∀ p, atM xb x.1 = some p → SeqAt.EqP prog w A s x.2.2 p.2 (veq x.2.2 p.2)) (h : Q (xa.length == xb.length && xa.all (met veq xb)) s) :
    wpAny (model prog w) A (Builtin.Dict.samePairs nm a b) Q E s := by
  obtain ⟨oa, es, ep, hoa, _, hda, hea, hisa, hna⟩ := da
  obtain ⟨ob, es', ep', hob, _, hdb, heb, hisb, hnb⟩ := db
  have hla : xa.length = es.size := (ent_size hea).symm
  have hlb : xb.length = es'.size := (ent_size heb).symm
  rw [hla, hlb] at h
  unfold Builtin.Dict.samePairs Builtin.Dict.showsAll
  rw [if_neg (show ¬ (a == sysModules) = true by rw [ha]; exact Bool.false_ne_true), if_neg (show ¬ (b == sysModules) = true by rw [hb]; exact Bool.false_ne_true)]
  refine wpAny_bind (wpAny_pure (wpAny_bind (wpAny_pure ?_)))
  refine wpAny_bind (wpAny_dictEntries hoa hda ?_)
  dsimp only
  refine wpAny_bind (wpAny_dictEntries hob hdb ?_)
  by_cases hsz : es.size = es'.size
  case neg =>
    rw [if_pos (by simpa using hsz)]
    have hbf : (es.size == es'.size) = false := by simpa using hsz
    rw [hbf, Bool.false_and] at h
    exact wpAny_bind (wpAny_rule (wpAny_pure h))
  case pos =>
    have h' : Q (xa.all (met veq xb)) s := by simpa [hsz] using h
    rw [if_neg (by rw [hsz]; simp)]
    refine wpAny_bind (wpAny_dictEpoch hoa hda ?_)
    refine wpAny_bind ?_
    rw [Std.Legacy.Range.forIn_eq_forIn_range']
    simp only [Std.Legacy.Range.size, Nat.sub_zero, Nat.add_sub_cancel, Nat.div_one]
    refine wpAny_forIn_list _
      (fun rest q s' => s' = s ∧ q = (none, ()) ∧ ∃ i, rest = List.range' i (es.size - i) ∧ i ≤ es.size ∧ xa.all (met veq xb) = (xa.drop i).all (met veq xb))
      _ ?_ ?_ _ _ ⟨rfl, rfl, 0, by simp, Nat.zero_le _, rfl⟩
    · rintro x rest q s' ⟨rfl, rfl, i, hr, hi, hpre⟩
      have hlt : i < es.size := by
        rcases Nat.lt_or_ge i es.size with h | h
        · exact h
        · rw [Nat.sub_eq_zero_of_le h] at hr; simp at hr
      obtain ⟨rfl, hrest⟩ : x = i ∧ rest = List.range' (i + 1) (es.size - (i + 1)) := by
        have e : es.size - i = (es.size - (i + 1)) + 1 := by omega
        rw [e, List.range'_succ] at hr
        injection hr with h1 h2
        exact ⟨h1, h2⟩
      refine wpAny_bind (wpAny_dictEntries hoa hda ?_)
      have hlt' : x < xa.length := by rw [hla]; exact hlt
      obtain ⟨y, hy⟩ : ∃ y, xa[x]? = some y := ⟨xa[x], List.getElem?_eq_getElem hlt'⟩
      have hym : y ∈ xa := List.mem_of_getElem? hy
      have hex : es[x]? = some (entM w y) := by rw [ent_at hea x, hy]; rfl
      have hdrop : xa.drop x = y :: xa.drop (x + 1) := by
        have e := List.drop_eq_getElem_cons hlt'
        rw [List.getElem?_eq_getElem hlt'] at hy
        rw [e, Option.some.inj hy]
      rw [hdrop, List.all_cons] at hpre
      rw [hex]
      show wpAny _ _ (holding [(entM w y).key, (entM w y).val] _ >>= _) _ _ _
      refine wpAny_bind (wpAny_holding (wpAny_bind (findM (k := y.1) hu (hisa y hym) hob hdb heb hisb hnb ?_ ?_)))
      · intro hno
        have e0 : met veq xb y = false := by unfold met; rw [atM_none hno]
        rw [e0, Bool.false_and] at hpre
        rw [hpre] at h'
        refine wpAny_pure ?_
        show wpAny _ _ (if (!false) = true then _ else _) _ _ _
        rw [if_pos (by decide)]
        exact wpAny_pure (wpAny_pure h')
      · intro j p hj
        have e0 := atM_of hnb hj
        have e1 : met veq xb y = veq y.2.2 p.2 := by unfold met; rw [e0]
        rw [e1] at hpre
        refine wpAny_bind (wpAny_dictEntries hob hdb ?_)
        have hej : es'[j]? = some (entM w (y.1, p)) := by rw [ent_at heb j, hj]; rfl
        rw [hej]
        refine wpAny_holding (hv y hym p e0 _ _ ?_)
        cases e : veq y.2.2 p.2 with
        | false =>
          rw [e, Bool.false_and] at hpre
          rw [hpre] at h'
          show wpAny _ _ (if (!false) = true then _ else _) _ _ _
          rw [if_pos (by decide)]
          exact wpAny_pure (wpAny_pure h')
        | true =>
          rw [e, Bool.true_and] at hpre
          show wpAny _ _ (if (!true) = true then _ else _) _ _ _
          rw [if_neg (by decide)]
          refine wpAny_bind (wpAny_dictEpoch hoa hda ?_)
          rw [if_neg (by simp)]
          exact wpAny_pure ⟨rfl, rfl, x + 1, hrest, hlt, hpre⟩
    · rintro q s' ⟨rfl, rfl, i, hr, hi, hpre⟩
      have hin : i = es.size := by
        rcases Nat.lt_or_ge i es.size with h | h
        · have e : es.size - i = (es.size - (i + 1)) + 1 := by omega
          rw [e, List.range'_succ] at hr; exact nomatch hr
        · exact Nat.le_antisymm hi h
      refine wpAny_pure ?_
      rw [hin, ← hla, List.drop_length] at hpre
      rw [hpre] at h'
      exact h'
theorem neM {veq : Value → Value → Bool} {Q : Value → Shared → Prop} (hu : A.in1.units + 8 < cLine) (ha : (a == sysModules) = false) (hb : (b == sysModules) = false)
    (da : DictM w s.heap a xa) (db : DictM w s.heap b xb) (hv : ∀ x ∈ xa, ∀ p, atM xb x.1 = some p → SeqAt.EqP prog w A.in1 s x.2.2 p.2 (veq x.2.2 p.2)) (h : Q (.bool (!(xa.length == xb.length && xa.all (met veq xb)))) s) :
    wpAny (model prog w) A (compareOp .NotEq (.ref a) (.ref b)) Q E s := by
  have hu0 : A.units < cLine := by rw [Around.in1_units] at hu; omega
  refine wpAny_richCompare_same_room (op := .NotEq) da.typeIs db.typeIs PySem.F.slot_dict_ne (wpAny_call_entry PySem.F.slot_dict_ne da.typeIs PySem.F.entry_dict_ne ?_ (PySem.F.args_dict_ne_2 _ _)) hu0
  show wpAny _ _ (Builtin.Dict.dictSlotArgs "__ne__" ⟨[.ref a, .ref b], []⟩ >>= _) _ _ s
  refine wpAny_bind ?_
  unfold Builtin.Dict.dictSlotArgs
  refine wpAny_bind (wpAny_notOrdered_dict da.typeIs ?_)
  show wpAny _ _ (pure (Value.ref a, Value.ref b)) _ _ s
  refine wpAny_pure ?_
  refine wpAny_bind (wpAny_isInstance (T := "dict") db.typeIs PySem.F.sub_dict_dict ?_)
  simp only [Bool.not_true, Bool.false_eq_true, if_false]
  refine wpAny_bind (wpAny_pure (wpAny_bind (wpAny_pure ?_)))
  refine wpAny_bind (samePairsM hu ha hb da db hv ?_)
  refine wpAny_pure ⟨_, rfl, ?_, ?_⟩
  · exact fun x => nomatch x
  · simpa using h
end
/-! ### over the layer: the values whole numbers -/
abbrev nums (l : List (NestedKey × Int)) : List (NestedKey × V) := l.map fun x => (x.1, .int x.2)
def sameD (l l' : List (NestedKey × Int)) : Bool := l.length == l'.length && l.all fun x => decide ((l'.find? fun y => decide (y.1 = x.1)).map (·.2) = some x.2)
def rNeDict (w : World) : R2 := fun x y H Q => ∃ a b l l', x = .ref a ∧ y = .ref b ∧ DAt w H a (nums l) ∧ DAt w H b (nums l') ∧ Q (.bl (!sameD l l')) H
theorem valV_nums (k : NestedKey) : ∀ l : List (NestedKey × Int), valV (nums l) k = ((l.find? fun y => decide (y.1 = k)).map (·.2)).map V.int
  | [] => rfl
  | p :: r => by
    by_cases e : p.1 = k
    · rw [show nums (p :: r) = (p.1, V.int p.2) :: nums r from rfl, valV_pos (p := (p.1, V.int p.2)) e, List.find?_cons_of_pos (by simpa using e)]
      rfl
    · rw [show nums (p :: r) = (p.1, V.int p.2) :: nums r from rfl, valV_neg (p := (p.1, V.int p.2)) e, List.find?_cons_of_neg (by simpa using e)]
      exact valV_nums k r
def iveq : Value → Value → Bool
  | .int i _, .int j _ => decide (i = j)
  | _, _ => false
theorem met_nums {kvs kvs' : List KE} {xs xs' : List Ent} (pr : Paired relE kvs xs) (pr' : Paired relE kvs' xs') : ∀ {l l' : List (NestedKey × Int)}, strip kvs = nums l → strip kvs' = nums l' →
    xs.all (met iveq xs') = l.all fun x => decide ((l'.find? fun y => decide (y.1 = x.1)).map (·.2) = some x.2) := by
  induction pr with
  | nil =>
    intro l l' e e'
    cases l with
    | nil => rfl
    | cons _ _ => cases e
  | @cons p x ks zs q t ih =>
    intro l l' e e'
    cases l with
    | nil => cases e
    | cons y r =>
      have e1 : (p.1, p.2.2) = (y.1, V.int y.2) := (List.cons.inj e).1
      have e2 : strip ks = nums r := (List.cons.inj e).2
      rw [List.all_cons, List.all_cons, ih e2 e']
      refine congrArg (· && _) ?_
      obtain ⟨q1, q2, q3⟩ := q
      have k1 : p.1 = y.1 := (Prod.mk.inj e1).1
      have v1 : p.2.2 = V.int y.2 := (Prod.mk.inj e1).2
      rw [v1] at q3
      obtain ⟨t1, q3⟩ := q3
      have r0 := rel_val (k := x.1) pr'
      rw [e', valV_nums] at r0
      have kk : y.1 = x.1 := k1.symm.trans q1
      unfold met
      rw [kk, q3]
      cases f : l'.find? (fun y => decide (y.1 = x.1)) with
      | none =>
        rw [f] at r0
        cases g : atM xs' x.1 with
        | none => simp
        | some p' =>
          rw [g] at r0
          exact (show False from r0).elim
      | some z =>
        rw [f] at r0
        cases g : atM xs' x.1 with
        | none =>
          rw [g] at r0
          exact (show False from r0).elim
        | some p' =>
          rw [g] at r0
          obtain ⟨t2, r0⟩ := (show ∃ t, p'.2 = Value.int z.2 t from r0)
          simp only [r0, Option.map_some, Option.some.injEq]
          show decide (y.2 = z.2) = decide (z.2 = y.2)
          exact decide_eq_decide.mpr ⟨Eq.symm, Eq.symm⟩
section
variable {X : Cx}
theorem op_ne_nd (hu : X.A.units + 64 < cLine) : OpR X (compareOp .NotEq) (rNeDict X.w) := by
  intro pins s σ H x y v u Q I rx ry h
  obtain ⟨a, b, l, l', rfl, rfl, da, db, q⟩ := h
  cases rx
  cases ry
  obtain ⟨kvs, ep, da, ea⟩ := da
  obtain ⟨kvs', ep', db, eb⟩ := db
  obtain ⟨xs, dm, pr, _⟩ := dm_of I da
  obtain ⟨xs', dm', pr', _⟩ := dm_of I db
  have lens : ∀ {ks : List KE} {zs : List Ent} {m : List (NestedKey × Int)}, Paired relE ks zs → strip ks = nums m → zs.length = m.length := fun p e => by
    have q := congrArg List.length e
    rw [List.length_map, List.length_map] at q
    rw [← Paired.length p, q]
  refine neM (veq := iveq) (hu1 hu) da.ns db.ns dm dm' (fun x hx p hp => ?_) ?_
  · have isint : ∀ {ks : List KE} {zs : List Ent} {m : List (NestedKey × Int)}, Paired relE ks zs → strip ks = nums m → ∀ z ∈ zs, ∃ i t, z.2.2 = Value.int i t := by
      intro ks zs m p
      induction p generalizing m with
      | nil => intro _ z hz; cases hz
      | @cons p x ks zs q t ih =>
        intro e z hz
        cases m with
        | nil => cases e
        | cons y r =>
          rcases List.mem_cons.mp hz with rfl | hz
          · have v1 : p.2.2 = V.int y.2 := (Prod.mk.inj (List.cons.inj e).1).2
            obtain ⟨_, _, q3⟩ := q
            rw [v1] at q3
            obtain ⟨t1, q3⟩ := q3
            exact ⟨_, _, q3⟩
          · exact ih (List.cons.inj e).2 z hz
    obtain ⟨i, t, e1⟩ := isint pr ea x hx
    have hpm : ∃ z ∈ xs', z.2.2 = p.2 := by
      unfold atM at hp
      cases f : xs'.find? (fun y => decide (y.1 = x.1)) with
      | none => rw [f] at hp; cases hp
      | some z =>
        rw [f] at hp
        exact ⟨z, List.mem_of_find?_eq_some f, congrArg Prod.snd (Option.some.inj hp)⟩
    obtain ⟨z, hz, ez⟩ := hpm
    obtain ⟨j, t', e2⟩ := isint pr' eb z hz
    rw [e1, ← ez, e2]
    exact ((SeqAt.EqAt.int_int i t j t').cast rfl).eqP
  · rw [met_nums pr pr' ea eb, lens pr ea, lens pr' eb]
    exact ⟨.bl _, H, I, rfl, q⟩
end
end NK

/-! data in the abstract heap; sorted(list), sorted(dict), list(dict) -/
namespace NK
open PySem PySem.Spec PyProof.Rows L2

/-- a tuple that has no dict of its own -/
def PtO (u : HO) (xs : List V) : Prop := ∃ ob : Obj, u = .frz ob (.tup xs) ∧ ob.dict = none
def Pt (H : Hp) (a : Addr) (xs : List V) : Prop := ∃ u, H a = some u ∧ PtO u xs
theorem Pt.rd {H : Hp} {a : Addr} {xs : List V} (h : Pt H a xs) : Rd H a (.tup xs) := by
  obtain ⟨u, h, ob, rfl, _⟩ := h
  exact .inr ⟨ob, h⟩
theorem Pt.sq {K : PySem.W.Frag} {H : Hp} {a : Addr} {xs : List V} (h : Pt H a xs) : SqT K H a xs := .inl h.rd
theorem Pt.mono {H H' : Hp} {a : Addr} {xs : List V} (t : Tups H H') (h : Pt H a xs) : Pt H' a xs := by
  obtain ⟨u, h, ob, rfl, e⟩ := h
  exact ⟨_, t _ _ h fun m => m, ob, rfl, e⟩
theorem PtO.mk {H : Hp} {a : Addr} {u : HO} {xs : List V} (h : PtO u xs) : Pt (upd H a u) a xs := ⟨u, upd_same, h⟩
theorem Pt.inj {H : Hp} {a : Addr} {xs ys : List V} (h : Pt H a xs) (g : Pt H a ys) : xs = ys := by
  obtain ⟨u, h, ob, rfl, _⟩ := h
  obtain ⟨u', g, ob', rfl, _⟩ := g
  rw [h] at g
  cases g
  rfl
mutual
/-- the value is that datum, made of what never changes -/
inductive Is (H : Hp) : PyData → V → Prop
  | non : Is H .none .non
  | bl (b : Bool) : Is H (.bool b) (.bl b)
  | int (i : Int) : Is H (.int i) (.int i)
  | str (x : Str) : Is H (.str x) (.str x)
  | tup {a : Addr} {xs : List V} {ds : List PyData} : Pt H a xs → IsAll H ds xs → Is H (.tuple ds) (.ref a)
inductive IsAll (H : Hp) : List PyData → List V → Prop
  | nil : IsAll H [] []
  | cons {d : PyData} {v : V} {ds : List PyData} {vs : List V} : Is H d v → IsAll H ds vs → IsAll H (d :: ds) (v :: vs)
end
mutual
theorem Is.mono {H H' : Hp} (t : Tups H H') : ∀ (d : PyData) (v : V), Is H d v → Is H' d v
  | .none, _, h => by cases h; exact .non
  | .bool _, _, h => by cases h; exact .bl _
  | .int _, _, h => by cases h; exact .int _
  | .str _, _, h => by cases h; exact .str _
  | .tuple ds, _, h => by
    cases h with
    | tup h1 h2 => exact .tup (h1.mono t) (IsAll.mono t ds _ h2)
  | .list _, _, h => by cases h
  | .dict _, _, h => by cases h
theorem IsAll.mono {H H' : Hp} (t : Tups H H') : ∀ (ds : List PyData) (vs : List V), IsAll H ds vs → IsAll H' ds vs
  | [], _, h => by cases h; exact .nil
  | d :: ds, _, h => by
    cases h with
    | cons h1 h2 => exact .cons (Is.mono t d _ h1) (IsAll.mono t ds _ h2)
end
mutual
theorem Is.dp {K : PySem.W.Frag} {H : Hp} : ∀ (d : PyData) (v : V), Is H d v → Dp K H v d
  | .none, _, h => by cases h; exact .non
  | .bool _, _, h => by cases h; exact .bl _
  | .int _, _, h => by cases h; exact .int _
  | .str _, _, h => by cases h; exact .str _
  | .tuple ds, _, h => by
    cases h with
    | tup h1 h2 => exact .tup h1.sq (IsAll.dp ds _ h2)
  | .list _, _, h => by cases h
  | .dict _, _, h => by cases h
theorem IsAll.dp {K : PySem.W.Frag} {H : Hp} : ∀ (ds : List PyData) (vs : List V), IsAll H ds vs → DpAll K H vs ds
  | [], _, h => by cases h; exact .nil
  | d :: ds, _, h => by
    cases h with
    | cons h1 h2 => exact .cons (Is.dp d _ h1) (IsAll.dp ds _ h2)
end
mutual
/-- the datum as a key -/
def keyDa : PyData → NestedKey
  | .none => .none
  | .bool b => .num (if b = true then 1 else 0)
  | .int i => .num i
  | .str x => .text x
  | .tuple ds => .tup (keysOf ds)
  | .list _ => .none
  | .dict _ => .none
def keysOf : List PyData → List NestedKey
  | [] => []
  | d :: ds => keyDa d :: keysOf ds
end
mutual
theorem Is.nk {H : Hp} : ∀ (d : PyData) (v : V), Is H d v → Nk H (keyDa d) v
  | .none, _, h => by cases h; rw [keyDa]; exact .non
  | .bool _, _, h => by cases h; rw [keyDa]; exact .bl _
  | .int _, _, h => by cases h; rw [keyDa]; exact .int _
  | .str _, _, h => by cases h; rw [keyDa]; exact .str _
  | .tuple ds, _, h => by
    cases h with
    | tup h1 h2 =>
      rw [keyDa]
      exact .tup h1.rd (IsAll.nk ds _ h2)
  | .list _, _, h => by cases h
  | .dict _, _, h => by cases h
theorem IsAll.nk {H : Hp} : ∀ (ds : List PyData) (vs : List V), IsAll H ds vs → NkAll H (keysOf ds) vs
  | [], _, h => by cases h; rw [keysOf]; exact .nil
  | d :: ds, _, h => by
    cases h with
    | cons h1 h2 =>
      rw [keysOf]
      exact .cons (Is.nk d _ h1) (IsAll.nk ds _ h2)
end
theorem IsAll.length {H : Hp} : ∀ {ds : List PyData} {vs : List V}, IsAll H ds vs → vs.length = ds.length
  | [], _, h => by cases h; rfl
  | _ :: ds, _, h => by
    cases h with
    | cons _ h2 => simp [IsAll.length h2]
theorem IsAll.get {H : Hp} : ∀ {ds : List PyData} {vs : List V} {i : Nat} {d : PyData}, IsAll H ds vs → ds[i]? = some d → ∃ v, vs[i]? = some v ∧ Is H d v
  | [], _, _, _, h, e => by simp at e
  | _ :: ds, _, i, d, h, e => by
    cases h with
    | cons h1 h2 =>
      cases i with
      | zero =>
        simp at e
        subst e
        exact ⟨_, rfl, h1⟩
      | succ i =>
        obtain ⟨v, e1, e2⟩ := IsAll.get (i := i) h2 (by simpa using e)
        exact ⟨v, by simpa using e1, e2⟩
theorem IsAll.append {H : Hp} : ∀ {ds es : List PyData} {vs us : List V}, IsAll H ds vs → IsAll H es us → IsAll H (ds ++ es) (vs ++ us)
  | [], _, _, _, h, g => by cases h; exact g
  | _ :: ds, _, _, _, h, g => by
    cases h with
    | cons h1 h2 => exact .cons h1 (IsAll.append h2 g)

/-! ### values and what they are -/
theorem each_of {ps : List (V × PyData)} : ∀ {us : List Value}, Vals (ps.map Prod.fst) us → PySem.W.EachIs (fun u p => RelV p.1 u) us ps := by
  induction ps with
  | nil => intro us r; cases r; exact .nil
  | cons p ps ih =>
    intro us r
    cases r with
    | cons r t => exact .cons r (ih t)
theorem of_each {ps : List (V × PyData)} : ∀ {us : List Value}, PySem.W.EachIs (fun u p => RelV p.1 u) us ps → Vals (ps.map Prod.fst) us := by
  induction ps with
  | nil => intro us r; cases r; exact .nil
  | cons p ps ih =>
    intro us r
    cases r with
    | cons r t => exact .cons r (ih t)
section
variable {X : Cx} {pins : List (Addr × Obj)} {σ : L2.St} {H : Hp} {s : Shared}
mutual
theorem is_reads (I : Inv X pins σ H s) : ∀ (d : PyData) (v : V) (u : Value), Is H d v → RelV v u → Reads s.heap u d []
  | .none, _, _, h, r => by cases h; cases r; exact .none
  | .bool _, _, _, h, r => by cases h; cases r; exact .bool _
  | .int _, _, _, h, r => by cases h; obtain ⟨t, rfl⟩ := r; exact .int _ _
  | .str _, _, _, h, r => by cases h; obtain ⟨t, rfl⟩ := r; exact .str _ _
  | .tuple ds, _, _, h, r => by
    cases h with
    | tup h1 h2 =>
      cases r
      obtain ⟨its, rv, ⟨o, ho, hc, n, hd⟩, _⟩ := I.tuple h1.sq
      exact .tuple ho hc hd (isAll_reads I ds _ its h2 rv)
  | .list _, _, _, h, _ => by cases h
  | .dict _, _, _, h, _ => by cases h
theorem isAll_reads (I : Inv X pins σ H s) : ∀ (ds : List PyData) (vs : List V) (us : List Value), IsAll H ds vs → Vals vs us → ReadsAll s.heap us ds []
  | [], _, _, h, r => by cases h; cases r; exact .nil
  | d :: ds, _, _, h, r => by
    cases h with
    | cons h1 h2 =>
      cases r with
      | cons r1 r2 => exact ReadsAll.cons (is_reads I d _ _ h1 r1) (isAll_reads I ds _ _ h2 r2)
end
theorem each_reads (I : Inv X pins σ H s) {ps : List (V × PyData)} : (∀ p ∈ ps, Is H p.2 p.1) → ∀ {us : List Value}, Vals (ps.map Prod.fst) us → PySem.W.EachIs (fun u p => ∃ as, Reads s.heap u p.2 as) us ps := by
  induction ps with
  | nil => intro _ us r; cases r; exact .nil
  | cons p ps ih =>
    intro h us r
    cases r with
    | cons r t => exact .cons ⟨_, is_reads I p.2 p.1 _ (h p List.mem_cons_self) r⟩ (ih (fun q hq => h q (List.mem_cons_of_mem _ hq)) t)
/-- what may be sorted -/
structure Sorty (H : Hp) (ps : List (V × PyData)) : Prop where
  is : ∀ p ∈ ps, Is H p.2 p.1
  al : PySem.W.AllAlike (ps.map Prod.snd)
  so : PySem.W.Sortable (ps.map Prod.snd)
  dp : ∀ p ∈ ps, p.2.depth ≤ 40
  sz : ps.length ≤ sizeLine
abbrev sortD (ps : List (V × PyData)) : List (V × PyData) := ps.mergeSort (PySem.W.dataLe false Prod.snd)
def rSortL (K : PySem.W.Frag) : List V → Hp → VK → Prop := fun vs H Q => ∃ (a : Addr) (ps : List (V × PyData)), vs = [.ref a] ∧ SqL K H a (ps.map Prod.fst) ∧ Sorty H ps ∧ ∀ p, H p = none → Q (.ref p) (upd H p (.lst ((sortD ps).map Prod.fst)))
theorem cr_sortL (hu : X.A.units + 64 < cLine) : CallR X (.builtin "sorted") (rSortL X.K) := by
  intro pins s σ H xs us Q I r h
  obtain ⟨a, ps, rfl, hq, S, q⟩ := h
  obtain ⟨u, rfl, rx⟩ := vals1 r
  cases rx
  obtain ⟨its, rv, pl, hz⟩ := I.list hq
  refine PySem.W.sorted_data (enc := Prod.snd) pl.isList (each_of rv) (each_reads I S.is rv) S.al S.so S.sz (fun b hb => by have := S.dp b hb; omega) fun out ho eo => ?_
  obtain ⟨e, he⟩ := sortedAll_at s.heap its (List.toArray out)
  have rv' := of_each eo
  refine ⟨.ref (s.heap.objs.size + 1), _, I.laid (t' := s.toks) (fun b ob hb => sortedAll_old hb) (Nat.le_succ _) (o := .lst ((sortD ps).map Prod.fst)) ?_, rfl, q _ (I.hok.fresh (Nat.le_succ _))⟩
  refine ⟨?_, out, e, rv', he⟩
  rw [List.length_map, List.length_mergeSort]
  exact S.sz
end

theorem obj_of {P : Program} {w : World} {H : Hp} {h : Heap} {a : Addr} {o : HO} (x : ObjOk P w H h a o) : ∃ ob, h.get? a = some ob := by
  cases o with
  | lst xs => obtain ⟨_, _, _, _, e⟩ := x; exact ⟨_, e⟩
  | tup xs => obtain ⟨_, _, _, ob, e, _⟩ := x; exact ⟨ob, e⟩
  | dK kvs => obtain ⟨_, _, _, _, o, _, _, e, _⟩ := x; exact ⟨o, e⟩
  | dT kvs => obtain ⟨_, _, _, _, o, _, _, e, _⟩ := x; exact ⟨o, e⟩
  | set S n => obtain ⟨o, _, _, _, e, _⟩ := x; exact ⟨o, e⟩
  | ins C dx fs => obtain ⟨_, _, _, e, _⟩ := x; exact ⟨_, e⟩
  | own y => exact x
  | xd fs => obtain ⟨_, ⟨o, _, _, e, _⟩, _⟩ := x; exact ⟨o, e⟩
  | rng lo hi => obtain ⟨_, _, _, e⟩ := x; exact ⟨_, e⟩
  | frz ob u => obtain ⟨e, _⟩ := x; exact ⟨_, e⟩
  | tbl ps => exact ⟨_, (show h.get? a = some _ from x)⟩
  | met f y => exact ⟨_, (show h.get? a = some _ from x)⟩
  | ext φ => obtain ⟨_, e, _⟩ := x; exact e
/-! ### list(d), sorted(d) -/
section
variable {prog : Program} {w : World} {A : Around} {E : Value → Shared → Prop} {s : Shared} {T : String} {r d : Addr} {n : Nat} {P : Nat → Value → Prop} {OK : Heap → Prop}
theorem sorted_src {Q : Value → Shared → Prop} (K : PySem.W.KdlSrc prog w T r d n P OK) (hh : A.handled = none) (hok : OK s.heap) (hn : n ≤ sizeLine)
    (h : ∀ (h' : Heap) (tk : Nat) (vs : List Value), (∀ b o, s.heap.get? b = some o → h'.get? b = some o) → vs.length = n → (∀ (j : Nat) (v : Value), vs[j]? = some v → P j v) →
      wpAny (model prog w) A.in1 (call (.builtin "list.sort") [.ref h'.objs.size]) (fun _ s' => Q (.ref h'.objs.size) s') E { s with heap := h'.push { cls := .type "list", data := .seq vs.toArray }, toks := tk }) :
    wpAny (model prog w) A (call (.builtin "sorted") [.ref r]) Q E s := by
  refine Calls.call_function_entry kind_sorted plain_sorted entry_sorted (args_sorted1 _) ?_
  unfold Builtin.«sorted»
  refine wpAny_bind (m := checkCount "sorted" 1 1 _) (wpAny_pure ?_)
  refine wpAny_bind (PySem.W.kdu_collect (A := A.in1) K hh hok hn fun h' tk acc hk hacc => ?_)
  have hl : acc.toList.length = n := by rw [Array.length_toList]; exact hacc.1
  refine wpAny_bind (wpAny_newList ?_ (by rw [hl]; exact hn))
  have hg := h h' tk acc.toList hk hl (fun j v e => hacc.2 j v (by rw [← Array.getElem?_toList]; exact e))
  refine wpAny_bind (wpAny_holding (wpAny_mono hg (fun _ s' x => ?_) fun _ _ e => e))
  exact wpAny_pure ⟨_, rfl, x⟩
end
section
variable {X : Cx}
theorem raw_of {X : Cx} {pins : List (Addr × Obj)} {σ : L2.St} {H : Hp} {s : Shared} {a : Addr} {kvs : List KE} {ep : Nat} (I : Inv X pins σ H s) (d : DRaw X.w H a kvs ep) : ∃ es, s.heap.DictRaw a es ep ∧ es.size = kvs.length ∧ ∀ vs : List Value, vs.length = kvs.length →
    (∀ (j : Nat) (v : Value), vs[j]? = some v → ∃ hi : j < es.size, v = es[j].key) → Vals (kvs.map (·.2.1)) vs := by
  obtain ⟨⟨o, es, xs, ho, hc, hd, he, pr⟩, -, -⟩ := I.hok a _ d.at_
  refine ⟨es, ⟨o, ho, hc, hd⟩, by rw [ent_size he, Paired.length pr], fun vs hl hv => ?_⟩
  have hv' : ∀ (j : Nat) (v : Value), vs[j]? = some v → (xs[j]?).map (·.2.1) = some v := fun j v e => by
    obtain ⟨hi, ev⟩ := hv j v e
    have q := ent_at (w := X.w) he j
    rw [Array.getElem?_eq_getElem hi] at q
    cases e2 : xs[j]? with
    | none => rw [e2] at q; cases q
    | some y =>
      rw [e2] at q
      have q' : es[j] = entM X.w y := Option.some.inj q
      rw [ev, q']
      rfl
  have lx := Paired.length pr
  clear hv ho hc hd he d I
  revert hl hv'
  generalize hvs : vs = vs0
  clear hvs
  induction pr generalizing vs0 with
  | nil =>
    intro hl hv'
    cases vs0 with
    | nil => exact .nil
    | cons _ _ => simp at hl
  | @cons p x ks zs q t ih =>
    intro hl hv'
    cases vs0 with
    | nil => simp at hl
    | cons v vs =>
      have e0 := hv' 0 v rfl
      have e1 : x.2.1 = v := by simpa using e0
      obtain ⟨_, q2, _⟩ := q
      rw [e1] at q2
      exact .cons q2 (ih (by simpa using lx) vs (by simpa using hl) (fun j v e => by simpa using hv' (j + 1) v (by simpa using e)))
def rListD (w : World) : List V → Hp → VK → Prop := fun vs H Q => ∃ (a : Addr) (kvs : List KE) (ep : Nat), vs = [.ref a] ∧ DRaw w H a kvs ep ∧ ∀ p, H p = none → Q (.ref p) (upd H p (.lst (kvs.map (·.2.1))))
theorem cr_listD (hc : X.calm = true) : CallR X (.type "list") (rListD X.w) := by
  intro pins s σ H xs us Q I r h
  obtain ⟨a, kvs, ep, rfl, d, q⟩ := h
  obtain ⟨u, rfl, rx⟩ := vals1 r
  cases rx
  obtain ⟨es, hr, hs, hv⟩ := raw_of I d
  refine PySem.W.kdl_call (PySem.KdlSrc.rawDict d.ns) (I.ok.hd hc) hr (by rw [hs]; exact d.sz) fun h' tk acc c hk hS hacc => ?_
  have hl : acc.toList.length = kvs.length := by rw [Array.length_toList, hacc.1, hs]
  have rv := hv acc.toList hl fun j v e => hacc.2 j v (by rw [← Array.getElem?_toList]; exact e)
  refine ⟨.ref s.heap.objs.size, _, I.laid (t' := tk) hk (Nat.le_refl _) (o := .lst (kvs.map (·.2.1))) ?_, rfl, q _ (I.hok.fresh (Nat.le_refl _))⟩
  exact ⟨by rw [List.length_map]; exact d.sz, acc.toList, c, rv, by simpa using hS⟩
/-- sorted(d): ps pairs each key with what it is -/
def rSortD (w : World) : List V → Hp → VK → Prop := fun vs H Q => ∃ (a : Addr) (kvs : List KE) (ep : Nat) (ps : List (V × PyData)), vs = [.ref a] ∧ DRaw w H a kvs ep ∧ ps.map Prod.fst = kvs.map (·.2.1) ∧ Sorty H ps ∧ ∀ p, H p = none → Q (.ref p) (upd H p (.lst ((sortD ps).map Prod.fst)))
theorem cr_sortDict (hu : X.A.units + 64 < cLine) (hc : X.calm = true) : CallR X (.builtin "sorted") (rSortD X.w) := by
  intro pins s σ H xs us Q I r h
  obtain ⟨a, kvs, ep, ps, rfl, d, ek, S, q⟩ := h
  obtain ⟨u, rfl, rx⟩ := vals1 r
  cases rx
  obtain ⟨es, hr, hs, hv⟩ := raw_of I d
  refine sorted_src (PySem.KdlSrc.rawDict d.ns) (I.ok.hd hc) hr (by rw [hs]; exact d.sz) fun h' tk vs hk hl hp => ?_
  have rv := hv vs (by rw [hl, hs]) hp
  rw [← ek] at rv
  have kp : ∀ b o, s.heap.get? b = some o → (h'.push { cls := .type "list", data := .seq vs.toArray }).get? b = some o := fun b o e => Heap.get?_push_of_some _ (hk b o e)
  have er : PySem.W.EachIs (fun u p => ∃ as, Reads (h'.push { cls := .type "list", data := .seq vs.toArray }) u p.2 as ∧ h'.objs.size ∉ as) vs ps := by
    have fresh : ∀ {us : List Value} {qs : List (V × PyData)}, (∀ p ∈ qs, Is H p.2 p.1) → Vals (qs.map Prod.fst) us → PySem.W.EachIs (fun u p => ∃ as, Reads (h'.push { cls := .type "list", data := .seq vs.toArray }) u p.2 as ∧ h'.objs.size ∉ as) us qs := by
      intro us qs
      induction qs generalizing us with
      | nil => intro _ r; cases r; exact .nil
      | cons p qs ih =>
        intro hi r
        cases r with
        | cons r1 r2 => exact .cons ⟨[], PyProof.Rows.Reads.keeps kp (is_reads I p.2 p.1 _ (hi p List.mem_cons_self) r1), by simp⟩ (ih (fun z hz => hi z (List.mem_cons_of_mem _ hz)) r2)
    exact fresh S.is rv
  refine PySem.W.list_sort_data (enc := Prod.snd) (n := 0) (s := { s with heap := h'.push { cls := .type "list", data := .seq vs.toArray }, toks := tk }) (Heap.get?_push_size _ rfl) (each_of rv) er S.al S.so S.sz (fun b hb => by
    have z := S.dp b hb
    rw [Around.in1_units]
    omega) fun out ho eo => ?_
  obtain ⟨e, he⟩ := sortedHeap_at (h := h'.push { cls := .type "list", data := .seq vs.toArray }) (a := h'.objs.size) (vs := vs) (n := 0) (out := List.toArray out) (Heap.get?_push_size _ rfl)
  have hno : s.heap.get? h'.objs.size = none := by
    cases z : s.heap.get? h'.objs.size with
    | none => rfl
    | some o => exact absurd (Heap.lt_size (hk _ _ z)) (Nat.lt_irrefl _)
  have hHn : H h'.objs.size = none := by
    cases z : H h'.objs.size with
    | none => rfl
    | some o =>
      obtain ⟨ob, e2⟩ := obj_of (I.hok _ _ z)
      rw [hno] at e2
      cases e2
  refine ⟨.ref h'.objs.size, _, I.laidN (t' := tk) (fun b ob hb => ?_) hno hHn (o := .lst ((sortD ps).map Prod.fst)) ?_, rfl, q _ hHn⟩
  · have hlt : b < h'.objs.size := Heap.lt_size (hk _ _ hb)
    rw [sortedHeap_old (Nat.ne_of_lt hlt) (by rw [Heap.size_push]; exact Nat.lt_succ_of_lt hlt)]
    exact kp _ _ hb
  · refine ⟨?_, out, e, of_each eo, he⟩
    rw [List.length_map, List.length_mergeSort]
    exact S.sz
end
end NK

/-! tuples without a dict of their own; dict(d), dict(pairs) -/
namespace NK
open PySem PySem.Spec PyProof.Rows L2

/-! ### tuples -/
def tTupP (t : TA) : TE := fun σ H Q => t σ H fun xs H1 => xs.length ≤ sizeLine ∧ ∀ p u, H1 p = none → PtO u xs → Q (.ref p) (upd H1 p u)
section
variable {X : Cx} {es : List Expr} {t : TA} {pos : Pos}
theorem ptup_ok {P : Program} {w : World} {H : Hp} {h : Heap} {xs : List V} {its : List Value} (z : xs.length ≤ sizeLine) (r : Vals xs its) :
    ObjOk P w H (h.push { cls := .type "tuple", data := .seq its.toArray }) h.objs.size (.frz { cls := .type "tuple", data := .seq its.toArray } (.tup xs)) :=
  ⟨Heap.get?_push_size _ rfl, z, its, r, ⟨_, Heap.get?_push_size _ rfl, rfl, _, rfl⟩⟩
theorem pe_tupP {x1} (h : PA X es t) : PE X (.Tuple es x1 pos) (tTupP t) := by
  refine ⟨fun pins s σ H Q I hq => ?_⟩
  refine wpAny_Tuple_spliced (thn (h.run pos pins s σ H _ I hq) fun us s1 ⟨xs, H1, I1, r, z, q⟩ => ⟨by rw [← r.length]; exact z, ?_⟩)
  have hf : H1 s1.heap.objs.size = none := I1.hok.fresh (Nat.le_refl _)
  exact ⟨.ref s1.heap.objs.size, _, I1.laid (t' := s1.toks) (fun b u e => Heap.get?_push_of_some _ e) (Nat.le_refl _) (ptup_ok z r), rfl, q _ _ hf ⟨_, rfl, rfl⟩⟩
/-- t + u -/
def rCatP (K : PySem.W.Frag) : R2 := fun x y H Q => ∃ a b xs ys, x = .ref a ∧ y = .ref b ∧ SqT K H a xs ∧ SqT K H b ys ∧ xs.length + ys.length ≤ sizeLine ∧
  (xs = [] → Q (.ref b) H) ∧ (xs ≠ [] → ys = [] → Q (.ref a) H) ∧ (xs ≠ [] → ys ≠ [] → ∀ p u, H p = none → PtO u (xs ++ ys) → Q (.ref p) (upd H p u))
theorem op_catP : OpR X (binaryOp .Add) (rCatP X.K) := by
  intro pins s σ H x y v u Q I rx ry h
  obtain ⟨a, b, xs, ys, rfl, rfl, ha, hb, hz, q0, q1, q2⟩ := h
  by_cases hx : xs = []
  · subst hx
    cases rx
    cases ry
    obtain ⟨its, r1, p1, _⟩ := I.tuple ha
    obtain ⟨its2, r2, p2, _⟩ := I.tuple hb
    cases r1
    exact cat_tup0 p1 p2 ⟨.ref b, H, I, rfl, q0 rfl⟩
  · cases rx
    cases ry
    obtain ⟨its, r1, p1, _⟩ := I.tuple ha
    obtain ⟨its2, r2, p2, _⟩ := I.tuple hb
    have nil1 : its = [] → xs = [] := fun z => by cases r1 with | nil => rfl | cons _ _ => cases z
    have nil2 : its2 = [] → ys = [] := fun z => by cases r2 with | nil => rfl | cons _ _ => cases z
    have nil3 : ys = [] → its2 = [] := fun z => by cases r2 with | nil => rfl | cons _ _ => cases z
    refine HT.cat_tup p1 p2 (fun z => hx (nil1 z)) (fun z => ⟨.ref a, H, I, rfl, q1 hx (nil2 z)⟩) (fun z => ?_) (by rw [← r1.length, ← r2.length]; exact hz)
    exact ⟨.ref s.heap.objs.size, _, I.laid (t' := s.toks) (fun b ob q => Heap.get?_push_of_some _ q) (Nat.le_refl _) (ptup_ok (by rw [List.length_append]; exact hz) (r1.append r2)), rfl, q2 hx (fun w => z (nil3 w)) _ _ (I.hok.fresh (Nat.le_refl _)) ⟨_, rfl, rfl⟩⟩
/-- t[lo:hi] -/
def rSlP (K : PySem.W.Frag) : V → Option Int → Option Int → Hp → VK → Prop := fun x lo hi H Q => ∃ a xs, x = .ref a ∧ SqT K H a xs ∧
  (HT.sIx xs.length 0 lo = 0 ∧ HT.sIx xs.length xs.length hi = xs.length → Q (.ref a) H) ∧ (¬ (HT.sIx xs.length 0 lo = 0 ∧ HT.sIx xs.length xs.length hi = xs.length) → ∀ p u, H p = none → PtO u (cutV xs lo hi) → Q (.ref p) (upd H p u))
theorem sl_tupP : SlR X (rSlP X.K) := by
  intro pins s σ H x v vl vu lo hi sl Q I rx hs pl pu h
  obtain ⟨a, xs, rfl, hx, q1, q2⟩ := h
  cases rx
  obtain ⟨its, r, ht, hz⟩ := I.tuple hx
  have hlen : its.toArray.size = xs.length := by rw [List.size_toArray]; exact r.length.symm
  refine ⟨"tuple", _, PyProof.Rows.slot_tuple_getitem.lookup, ht.typeIs, ?_⟩
  by_cases hw : HT.sIx xs.length 0 lo = 0 ∧ HT.sIx xs.length xs.length hi = xs.length
  · exact getItem_tuple_whole ht hs pl pu (by rw [hlen]; exact hw) ⟨.ref a, H, I, rfl, q1 hw⟩
  · refine HT.getItem_tuple_cut ht hs pl pu (by rw [hlen]; exact hw) ?_ (by rw [hlen]; exact hz)
    rw [hlen]
    refine ⟨.ref s.heap.objs.size, _, I.laid (t' := s.toks) (o := .frz _ (.tup (cutV xs lo hi))) (fun b ob q => Heap.get?_push_of_some _ q) (Nat.le_refl _) ⟨Heap.get?_push_size _ rfl, ?_⟩, rfl, q2 hw _ _ (I.hok.fresh (Nat.le_refl _)) ⟨_, rfl, rfl⟩⟩
    exact ⟨Nat.le_trans (cutV_length xs lo hi) hz, _, (r.drop (HT.sIx xs.length 0 lo)).take (HT.sIx xs.length xs.length hi - HT.sIx xs.length 0 lo), IsTup.new _ _⟩
/-- tuple(list) -/
def rTupOf (K : PySem.W.Frag) : List V → Hp → VK → Prop := fun xs H Q => ∃ p ys, xs = [.ref p] ∧ SqL K H p ys ∧ ∀ l u, H l = none → PtO u ys → Q (.ref l) (upd H l u)
theorem cr_tupOf : CallR X (.type "tuple") (rTupOf X.K) := by
  intro pins s σ H xs us Q I r h
  obtain ⟨p, ys, rfl, hq, q⟩ := h
  obtain ⟨u, rfl, rx⟩ := vals1 r
  cases rx
  obtain ⟨its, r', pl, hz⟩ := I.list hq
  have hlen := r'.length
  refine call_tuple_list pl.isList (fun h' kp => ?_) (by simp only [List.size_toArray] <;> omega)
  have I1 : Inv X pins σ H { s with heap := h' } := I.kept (t' := s.toks) kp
  exact ⟨.ref h'.objs.size, _, I1.laid (t' := s.toks) (fun b o e => Heap.get?_push_of_some _ e) (Nat.le_refl _) (ptup_ok hz r'), rfl, q _ _ (I1.hok.fresh (Nat.le_refl _)) ⟨_, rfl, rfl⟩⟩
end

/-! ### dict(d), dict(pairs), at the model's level -/
section
variable {prog : Program} {w : World} {A : Around} {E : Value → Shared → Prop} {s : Shared} {a : Addr}
theorem call_dict_upd {Q : Value → Shared → Prop}
    (upd : ∀ s₁ : Shared, s₁ = { s with heap := s.heap.push { cls := .type "dict", data := .dict #[] } } →
      wpAny (model prog w) A.in1.in1 (Builtin.Dict.updateFrom "dict.__init__" s.heap.objs.size (.ref a) [] .none)
        (fun fin s' => match fin with | .done f => wants (fun r s₂ => r = .none ∧ Q (.ref s.heap.objs.size) s₂) E (.ok f) s' | .again c' => c'.quiet = true ∧ codeAny (model prog w) A.in1 c' (wants (fun r s₂ => r = .none ∧ Q (.ref s.heap.objs.size) s₂) E) s')
        (fun e s' => wants (fun r s₂ => r = .none ∧ Q (.ref s.heap.objs.size) s₂) E (.error e) s') s₁) :
    wpAny (model prog w) A (call (.type "dict") [.ref a]) Q E s := by
  refine PySem.callType_codes (Q₁ := fun obj s₁ => obj = .ref s.heap.objs.size ∧ s₁ = { s with heap := s.heap.push { cls := .type "dict", data := .dict #[] } }) PySem.F.kt_called_dict (PySem.F.kt_typeCall_dict_1 _) PySem.F.entry_dict_init (PySem.kt_code_dict_new _ ⟨rfl, rfl⟩) ?_
  rintro obj s₁ ⟨rfl, rfl⟩
  have hT : Shared.TypeIs { s with heap := s.heap.push { cls := .type "dict", data := .dict #[] } } (.ref s.heap.objs.size) "dict" := ⟨_, Heap.get?_push_size _ rfl, rfl⟩
  refine ⟨hT, PySem.F.args_dict_init_2 _ _, ?_⟩
  unfold Builtin.«dict.__init__»
  refine wpAny_bind ?_
  unfold Builtin.Dict.selfAndRest
  refine wpAny_bind (wpAny_notOrdered_dict hT ?_)
  show wpAny _ _ (pure (s.heap.objs.size, [Value.ref a])) _ _ _
  refine wpAny_pure ?_
  exact upd _ rfl
end

/-! ### dict(d) -/
section
variable {prog : Program} {w : World} {A : Around} {E : Value → Shared → Prop} {s : Shared} {a : Addr}
/-- all keys tuples -/
theorem toH {xs : List Ent} {h : Heap} (hm : DictM w h a xs) (ht : ∀ x ∈ xs, ∃ ks, x.1 = .tup ks) : ∃ ys : List (NestedKey × Addr × Value), h.DictOfH (nestedKind prog w) a ys ∧ xs = ys.map fun y => (y.1, Value.ref y.2.1, y.2.2) := by
  obtain ⟨o, es, ep, ho, hc, hd, he, his, hn⟩ := hm
  have conv : ∀ zs : List Ent, (∀ x ∈ zs, MKey h x.1 x.2.1) → (∀ x ∈ zs, ∃ ks, x.1 = .tup ks) → ∃ ys : List (NestedKey × Addr × Value), zs = (ys.map fun y => (y.1, Value.ref y.2.1, y.2.2)) ∧ ∀ y ∈ ys, (nestedKind prog w).is h y.1 y.2.1 := by
    intro zs
    induction zs with
    | nil => intro _ _; exact ⟨[], rfl, fun y hy => nomatch hy⟩
    | cons z zs ih =>
      intro h1 h2
      obtain ⟨ys, e, k⟩ := ih (fun x hx => h1 x (List.mem_cons_of_mem _ hx)) (fun x hx => h2 x (List.mem_cons_of_mem _ hx))
      obtain ⟨ks, ek⟩ := h2 z List.mem_cons_self
      obtain ⟨m1, m2⟩ := h1 z List.mem_cons_self
      obtain ⟨z1, z2, z3⟩ := z
      simp only at ek m1 m2
      subst ek
      cases m1 with
      | @tup b o vs n ks q1 q2 q3 q4 =>
        refine ⟨(.tup ks, b, z3) :: ys, by rw [e]; rfl, fun y hy => ?_⟩
        rcases List.mem_cons.mp hy with rfl | hy
        · exact ⟨.tup q1 q2 q3 q4, m2⟩
        · exact k y hy
  obtain ⟨ys, e, k⟩ := conv xs his ht
  subst e
  refine ⟨ys, ⟨o, es, ep, ho, hc, hd, ?_, k, ?_⟩, rfl⟩
  · rw [he, List.map_map]
    rfl
  · rw [List.map_map] at hn
    exact hn
theorem ofH {ys : List (NestedKey × Addr × Value)} {h : Heap} (hm : h.DictOfH (nestedKind prog w) a ys) : DictM w h a (ys.map fun y => (y.1, Value.ref y.2.1, y.2.2)) := by
  obtain ⟨o, es, ep, ho, hc, hd, he, his, hn⟩ := hm
  refine ⟨o, es, ep, ho, hc, hd, ?_, fun x hx => ?_, ?_⟩
  · rw [he, List.map_map]
    rfl
  · obtain ⟨y, hy, rfl⟩ := List.mem_map.mp hx
    exact his y hy
  · rw [List.map_map]
    exact hn
theorem dictCopyM {xs : List Ent} {Q : Value → Shared → Prop} (hu : A.units + 11 < cLine) (hs : (a == sysModules) = false) (hm : DictM w s.heap a xs) (ht : ∀ x ∈ xs, ∃ ks, x.1 = .tup ks) (hh : (xs.map fun x => x.1.hash w).Nodup) (hz : xs.length ≤ sizeLine)
    (h : ∀ h', DictM w h' s.heap.objs.size xs → (∀ b o, s.heap.get? b = some o → h'.get? b = some o) → Q (.ref s.heap.objs.size) { s with heap := h' }) : wpAny (model prog w) A (call (.type "dict") [.ref a]) Q E s := by
  obtain ⟨ys, dh, rfl⟩ := toH (prog := prog) hm ht
  have hlt : a < s.heap.objs.size := by
    obtain ⟨o, _, _, ho, _⟩ := dh
    exact Heap.lt_size ho
  have hd1 : (s.heap.push { cls := .type "dict", data := .dict #[] }).DictOfH (nestedKind prog w) a ys := by
    obtain ⟨o, es, ep, ho, hc, hd, he, his, hn⟩ := dh
    exact ⟨o, es, ep, Heap.get?_push_of_some _ ho, hc, hd, he, fun x hx => ⟨NestedIs.at (fun b ob vs n hb _ => Heap.get?_push_of_some _ hb) _ _ (his x hx).1, (his x hx).2⟩, hn⟩
  have hty : ∀ x ∈ ys, Shared.TypeIs { s with heap := s.heap.push { cls := .type "dict", data := .dict #[] } } (.ref x.2.1) "tuple" := fun x hx => by
    obtain ⟨_, _, _, _, _, _, _, his, _⟩ := hd1
    exact nestedKind_stays.tuple (s := { s with heap := s.heap.push { cls := .type "dict", data := .dict #[] } }) (his x hx)
  refine call_dict_upd fun s₁ e1 => ?_
  subst e1
  refine updateFrom_dictH (knd := nestedKind prog w) (kvs := []) (more := ys) (A := A.in1) .none (by show A.in1.in1.units + 8 < cLine; rw [Around.in1_units, Around.in1_units]; omega) (Nat.ne_of_gt hlt) hs (Heap.DictOfH.new s.heap) hd1 (.inr ⟨hty, ?_⟩) (by simpa using hz) fun h' hd' _ sb => ?_
  · rw [List.map_map] at hh
    exact hh
  · rw [storedAllH_nil_of_nodup ys dh.nodup] at hd'
    exact ⟨rfl, h h' (ofH hd') fun b o e => (sb.2 b (Nat.ne_of_lt (Heap.lt_size e))).trans (Heap.get?_push_of_some _ e)⟩
end
def rDictOf (w : World) : List V → Hp → VK → Prop := fun vs H Q => ∃ (a : Addr) (l : List (NestedKey × V)), vs = [.ref a] ∧ DAt w H a l ∧ (∀ x ∈ l, ∃ ks, x.1 = .tup ks) ∧ (l.map fun x => x.1.hash w).Nodup ∧ ∀ p ob, H p = none → DAt w (upd H p ob) p l → Q (.ref p) (upd H p ob)
theorem rel_keys {l : List KE} {m : List Ent} (p : Paired relE l m) : l.map (·.1) = m.map (·.1) := by
  induction p with
  | nil => rfl
  | cons q t ih => rw [List.map_cons, List.map_cons, q.1, ih]
section
variable {X : Cx}
theorem cr_dictOf (hu : X.A.units + 64 < cLine) : CallR X (.type "dict") (rDictOf X.w) := by
  intro pins s σ H xs us Q I r h
  obtain ⟨a, l, rfl, d, ht, hh, q⟩ := h
  obtain ⟨u, rfl, rx⟩ := vals1 r
  cases rx
  obtain ⟨kvs, ep, d, rfl⟩ := d
  obtain ⟨xs, dm, pr, hz⟩ := dm_of I d
  have ek := rel_keys pr
  refine dictCopyM (by omega) d.ns dm (fun x hx => ?_) ?_ hz fun h' dm' kp => ?_
  · have hm : x.1 ∈ kvs.map (·.1) := by rw [ek]; exact List.mem_map.mpr ⟨x, hx, rfl⟩
    obtain ⟨y, hy, e⟩ := List.mem_map.mp hm
    rw [← e]
    exact ht (y.1, y.2.2) (List.mem_map.mpr ⟨y, hy, rfl⟩)
  · have e1 : (xs.map fun x => x.1.hash X.w) = (xs.map (·.1)).map fun k => k.hash X.w := by rw [List.map_map]; rfl
    have e2 : ((strip kvs).map fun x => x.1.hash X.w) = (kvs.map (·.1)).map fun k => k.hash X.w := by rw [List.map_map, List.map_map]; rfl
    rw [e1, ← ek, ← e2]
    exact hh
  · obtain ⟨ep', ok⟩ := raw_ok (P := X.prog) (H := upd H s.heap.objs.size (.ext (RawD X.w s.heap.objs.size kvs 0))) dm' pr
    have hf := I.hok.fresh (Nat.le_refl s.heap.objs.size)
    refine ⟨.ref s.heap.objs.size, _, I.laid (t' := s.toks) kp (Nat.le_refl _) ok, rfl, q _ _ hf ⟨kvs, ep', ⟨upd_same, fun x hx => ⟨Nk.mono (Tups.new hf) _ _ (d.keys x hx).1, (d.keys x hx).2⟩, d.nd, d.sz, beq_eq_false_iff_ne.mpr (Ne.symm (Nat.ne_of_lt I.big))⟩, rfl⟩⟩
end

/-! ### dict(pairs): a tuple of pairs with unlike keys -/
section
variable {prog : Program} {w : World} {A : Around} {E : Value → Shared → Prop} {s : Shared} {a : Addr}
theorem storedM_fresh (acc : List Ent) (x : Ent) (hn : ((acc ++ [x]).map (·.1)).Nodup) : storedM acc x.1 x.2.1 x.2.2 = acc ++ [x] := by
  have h0 : atM acc x.1 = none := by
    refine atM_none fun j p e => ?_
    rw [List.map_append, List.nodup_append] at hn
    exact hn.2.2 x.1 (List.mem_map.mpr ⟨(x.1, p), List.mem_of_getElem? e, rfl⟩) x.1 (by simp) rfl
  rw [storedM_new h0]
theorem dictPairsM {items : Array Value} {Ts : Nat → Addr} {xs : List Ent} {Q : Value → Shared → Prop} (hu : A.units + 11 < cLine) (hh : A.handled = none) (hp : PlainSeq "tuple" s.heap a items) (hi : PairItems s.heap items Ts (xs.map (·.2)))
    (hk : ∀ x ∈ xs, MKey s.heap x.1 x.2.1) (hn : (xs.map (·.1)).Nodup) (hz : xs.length ≤ sizeLine)
    (h : ∀ h' tk, DictM w h' s.heap.objs.size xs → (∀ b o, s.heap.get? b = some o → h'.get? b = some o) → Q (.ref s.heap.objs.size) { s with heap := h', toks := tk }) : wpAny (model prog w) A (call (.type "dict") [.ref a]) Q E s := by
  have P := PairArg.tuple (prog := prog) (w := w) a items Ts (xs.map (·.2))
  have ok1 := P.keep _ _ ⟨hp, hi⟩ fun b o e => Heap.get?_push_of_some { cls := .type "dict", data := .dict #[] } e
  refine call_dict_upd fun s₁ e1 => ?_
  subst e1
  have hdf : s.heap.objs.size ∉ (a :: (List.range (xs.map (·.2)).length).map Ts) := fun hm => by
    obtain ⟨o, ho⟩ := P.there _ ⟨hp, hi⟩ _ hm
    exact absurd (Heap.lt_size ho) (Nat.lt_irrefl _)
  refine updateFrom_arg (A := A.in1) (Tab := fun i h => DictM w h s.heap.objs.size (xs.take i) ∧ ∀ b o, s.heap.get? b = some o → h.get? b = some o) P .none hh ok1 hdf ⟨?_, fun b o e => Heap.get?_push_of_some _ e⟩ (fun i h t => ?_) (fun i h h' wr' hd hw t k => ?_) (fun i k v s' Q' E' hlt hr t _ hq => ?_) fun h' tk t k => ?_
  · exact ⟨_, #[], 0, Heap.get?_push_size _ rfl, ⟨rfl, rfl, rfl⟩, rfl, rfl, fun x hx => by simp at hx, by simp⟩
  · obtain ⟨⟨o, _, _, ho, _⟩, _⟩ := t
    exact Heap.lt_size ho
  · have kk : ∀ b o, s.heap.get? b = some o → h'.get? b = some o := fun b o e => k b o (fun hm => by
      rcases hw b hm with q | q
      · cases q
      · rw [Heap.get?_push_of_some _ e] at q; cases q) (t.2 b o e)
    obtain ⟨⟨o, es, ep, ho, hc, hd0, he, his, hn0⟩, _⟩ := t
    exact ⟨⟨o, es, ep, k _ _ hd ho, hc, hd0, he, fun x hx => (hk x (List.mem_of_mem_take hx)).kept kk, hn0⟩, kk⟩
  · have hr' : (xs.map (·.2))[i]? = some (k, v) := hr
    rw [List.getElem?_map] at hr'
    cases ex : xs[i]? with
    | none => rw [ex] at hr'; cases hr'
    | some x =>
      rw [ex] at hr'
      have e2 : x.2 = (k, v) := Option.some.inj hr'
      have et : xs.take (i + 1) = xs.take i ++ [x] := by
        rw [List.take_add_one, ex]
        rfl
      have kx := (hk x (List.mem_of_getElem? ex)).kept t.2
      rw [e2] at kx
      refine dictSetM (by rw [Around.in1_units, Around.in1_units]; omega) kx t.1 (fun h' dm sb => hq h' _ ⟨?_, fun b o e => (sb.2 b (Nat.ne_of_lt (Heap.lt_size e))).trans (t.2 b o e)⟩ sb) (by rw [List.length_take]; exact Nat.le_trans (Nat.min_le_right _ _) hz)
      rw [et]
      have q := storedM_fresh (xs.take i) x (by rw [← et]; exact List.Nodup.sublist (List.Sublist.map _ (List.take_sublist _ _)) hn)
      rw [e2] at q
      have q2 : storedM (xs.take i) x.1 k v = xs.take i ++ [x] := q
      rw [← q2]
      exact dm
  · have e : xs.take (xs.map (·.2)).length = xs := List.take_of_length_le (by rw [List.length_map]; exact Nat.le_refl _)
    rw [e] at t
    exact ⟨rfl, h h' tk t.1 t.2⟩
end
/-- what a tuple of pairs holds: each pair's address, key, value -/
def rDictP (w : World) : List V → Hp → VK → Prop := fun vs H Q => ∃ (a : Addr) (ts : List Addr) (kvs : List KE), vs = [.ref a] ∧ Pt H a (ts.map V.ref) ∧ Paired (fun t (x : KE) => Rd H t (.tup [x.2.1, x.2.2])) ts kvs ∧ (∀ x ∈ kvs, Nk H x.1 x.2.1 ∧ x.1.depth ≤ 8) ∧ (kvs.map (·.1)).Nodup ∧
  ∀ p ob, H p = none → DAt w (upd H p ob) p (strip kvs) → Q (.ref p) (upd H p ob)
section
variable {X : Cx}
theorem vals_refs : ∀ {ts : List Addr} {us : List Value}, Vals (ts.map V.ref) us → us = ts.map Value.ref
  | [], _, r => by cases r; rfl
  | t :: ts, _, r => by
    cases r with
    | cons r1 r2 =>
      cases r1
      rw [vals_refs r2]
      rfl
theorem cr_dictP (hu : X.A.units + 64 < cLine) (hc : X.calm = true) : CallR X (.type "dict") (rDictP X.w) := by
  intro pins s σ H xs us Q I r h
  obtain ⟨a, ts, kvs, rfl, hp, pr, hk, hn, q⟩ := h
  obtain ⟨u, rfl, rx⟩ := vals1 r
  cases rx
  obtain ⟨its, rv, pt, hz⟩ := I.tuple (hp.sq (K := X.K))
  have ei := vals_refs rv
  subst ei
  rw [List.length_map] at hz
  -- the pairs' values
  have build : ∀ {ts : List Addr} {kvs : List KE}, Paired (fun t (x : KE) => Rd H t (.tup [x.2.1, x.2.2])) ts kvs → (∀ x ∈ kvs, Nk H x.1 x.2.1 ∧ x.1.depth ≤ 8) → ∃ xs : List Ent, Paired relE kvs xs ∧ (∀ x ∈ xs, MKey s.heap x.1 x.2.1) ∧ ∀ (j : Nat) (x : Ent), xs[j]? = some x → ∃ t, ts[j]? = some t ∧ s.heap.IsTuple t #[x.2.1, x.2.2] := by
    intro ts kvs pr
    induction pr with
    | nil => intro _; exact ⟨[], .nil, fun x hx => (nomatch hx), fun j x e => by simp at e⟩
    | @cons t x ts ks h1 h2 ih =>
      intro hk
      obtain ⟨xs, p1, p2, p3⟩ := ih fun x hx => hk x (List.mem_cons_of_mem _ hx)
      obtain ⟨its, rv, ptt, _⟩ := I.tuple (xs := [x.2.1, x.2.2]) (.inl h1)
      cases rv with
      | @cons _ u _ _ r1 rv =>
        cases rv with
        | @cons _ v _ _ r2 rv =>
          cases rv
          obtain ⟨k1, k2⟩ := hk x List.mem_cons_self
          refine ⟨(x.1, u, v) :: xs, .cons ⟨rfl, r1, r2⟩ p1, fun y hy => ?_, fun j y e => ?_⟩
          · rcases List.mem_cons.mp hy with rfl | hy
            · exact mkey_of I k1 k2 r1
            · exact p2 y hy
          · cases j with
            | zero =>
              simp at e
              subst e
              exact ⟨t, rfl, ptt⟩
            | succ j => exact p3 j y (by simpa using e)
  obtain ⟨xs, p1, p2, p3⟩ := build pr hk
  have l1 : ts.length = kvs.length := Paired.length pr
  have l2 : kvs.length = xs.length := Paired.length p1
  obtain ⟨u, hu0, ob, eu, ed⟩ := hp
  subst eu
  have hob := (I.hok a _ hu0).1
  obtain ⟨o', ho', hc', n', hd'⟩ := pt
  have eo : o' = ob := by rw [hob] at ho'; exact (Option.some.inj ho').symm
  subst eo
  refine dictPairsM (items := (ts.map Value.ref).toArray) (Ts := fun j => ts.getD j 0) (xs := xs) (by omega) (I.ok.hd hc) ⟨o', n', ho', hc', ed, hd'⟩ ⟨?_, fun j k v e => ?_⟩ p2 (by rw [← rel_keys p1]; exact hn) (by omega) fun h' tk dm kp => ?_
  · simp only [List.size_toArray, List.length_map]
    omega
  · rw [List.getElem?_map] at e
    cases ex : xs[j]? with
    | none => rw [ex] at e; cases e
    | some x =>
      rw [ex] at e
      have e2 : x.2 = (k, v) := Option.some.inj e
      obtain ⟨t, ht, hT⟩ := p3 j x ex
      rw [e2] at hT
      refine ⟨?_, .inl ?_⟩
      · rw [List.getElem?_toArray, List.getElem?_map, ht]
        show some (Value.ref t) = some (Value.ref (ts.getD j 0))
        rw [List.getD_eq_getElem?_getD, ht]
        rfl
      · show s.heap.IsTuple (ts.getD j 0) _
        rw [List.getD_eq_getElem?_getD, ht]
        exact hT
  · obtain ⟨ep', ok⟩ := raw_ok (P := X.prog) (H := upd H s.heap.objs.size (.ext (RawD X.w s.heap.objs.size kvs 0))) dm p1
    have hf := I.hok.fresh (Nat.le_refl s.heap.objs.size)
    refine ⟨.ref s.heap.objs.size, _, I.laid (t' := tk) kp (Nat.le_refl _) ok, rfl, q _ _ hf ⟨kvs, ep', ⟨upd_same, fun x hx => ⟨Nk.mono (Tups.new hf) _ _ (hk x hx).1, (hk x hx).2⟩, hn, by omega, beq_eq_false_iff_ne.mpr (Ne.symm (Nat.ne_of_lt I.big))⟩, rfl⟩⟩
end
end NK

/-! a display of one text key; C() without __init__; enumerate(tuple); == of data -/
namespace NK
open PySem PySem.Spec PyProof.Rows L2

/-! ### {"k": v} -/
theorem pairs_m {P : Program} {w : World} {h : Heap} {es : List DictEntry} {kvs : List (Key × Value)} (pr : PySem.Pairs (mixKind P w) es kvs) : (∀ e ∈ es, ∃ k, (mixKind P w).is k e.key = true ∧ e.hash = (mixKind P w).hash k) →
    ∃ xs : List Ent, es = xs.map (entM w) ∧ (∀ x ∈ xs, MKey h x.1 x.2.1) ∧ Paired (fun (p : Key × Value) (x : Ent) => x.1 = (match p.1 with | .inl i => NestedKey.num i | .inr z => NestedKey.text z) ∧ x.2.2 = p.2) kvs xs := by
  induction pr with
  | nil => intro _; exact ⟨[], rfl, fun x hx => (nomatch hx), .nil⟩
  | @cons e p es kvs h1 h2 h3 ih =>
    intro hk
    obtain ⟨xs, e1, e2, e3⟩ := ih (fun e he => hk e (List.mem_cons_of_mem _ he))
    obtain ⟨k, q1, q2⟩ := hk e List.mem_cons_self
    have ek : k = p.1 := (mixKind P w).inj _ _ _ q1 h1
    subst ek
    obtain ⟨eh, ekey, ev⟩ := e
    obtain ⟨pk, pv⟩ := p
    simp only at q1 q2 h1 h2
    rcases keyIs_shape q1 with ⟨i, t, rfl, rfl⟩ | ⟨x, t, rfl, rfl⟩
    · refine ⟨(.num i, .int i t, ev) :: xs, ?_, fun x hx => ?_, .cons ⟨rfl, h2⟩ e3⟩
      · rw [List.map_cons, ← e1]
        exact congrArg (· :: es) (by rw [q2]; rfl)
      · rcases List.mem_cons.mp hx with rfl | hx
        · exact ⟨.int _ _, by simp [NestedKey.depth]⟩
        · exact e2 x hx
    · refine ⟨(.text x, .str x t, ev) :: xs, ?_, fun x hx => ?_, .cons ⟨rfl, h2⟩ e3⟩
      · rw [List.map_cons, ← e1]
        exact congrArg (· :: es) (by rw [q2]; rfl)
      · rcases List.mem_cons.mp hx with rfl | hx
        · exact ⟨.text _ _, by simp [NestedKey.depth]⟩
        · exact e2 x hx
def tDisp1 (w : World) (x : Str) (tv : TE) : TE := fun σ H Q => ∀ p u, H p = none → DAt w (upd H p u) p [] → tv σ (upd H p u) fun v H2 => V.str x = V.str x ∧ H2 p = some u ∧ ∀ u', DAt w (upd H2 p u') p [(.text x, v)] → Q (.ref p) (upd H2 p u')
section
variable {X : Cx} {v : Expr} {tv : TE} {x : Str} {j : Nat} {kpos pos : Pos}
theorem pe_disp1 (hv : PE X v tv) : PE X (.Dict [some (.Constant (.str x) j kpos)] [v] pos) (tDisp1 X.w x tv) := by
  refine ⟨fun pins s σ H Q I q => ?_⟩
  have hn := I.hok.fresh (Nat.le_refl s.heap.objs.size)
  have I1 := I.laid (a := s.heap.objs.size) (o := .ext (RawD X.w s.heap.objs.size [] 0)) (h' := s.heap.push { cls := .type "dict", data := .dict #[] }) (t' := s.toks) (fun _ _ q => Heap.get?_push_of_some _ q) (Nat.le_refl _) (new_ok s.heap)
  have q1 := q _ _ hn (new_at I.big)
  have PP : PPs X pos [some (.Constant (.str x) j kpos)] [v] [(tC (.str x), tv)] := pps_cons pe_str hv pps_nil
  refine wpAny_Dict_walk (knd := mixKind X.prog X.w) rfl rfl (by simp) (by simp) (thn (PP.run pins _ σ _ (fun ps H2 => match ps with
    | [(k, v)] => k = V.str x ∧ H2 s.heap.objs.size = some (.ext (RawD X.w s.heap.objs.size [] 0)) ∧ ∀ u', DAt X.w (upd H2 s.heap.objs.size u') s.heap.objs.size [(.text x, v)] → Q (.ref s.heap.objs.size) (upd H2 s.heap.objs.size u')
    | _ => False) I1 q1) fun ws s2 ⟨ps, H2, I2, rel, q2⟩ => ?_)
  match ps, q2 with
  | [(k, v)], q2 =>
    obtain ⟨ek, e, q3⟩ := q2
    subst ek
    obtain ⟨rs, c, rk⟩ := carries_of (P := X.prog) (w := X.w) (kvs := [(Sum.inr x, v)]) rel
    obtain ⟨⟨o, es, xs, ho, hc, hd, he, pr⟩, -, -⟩ := I2.hok _ _ e
    cases pr
    have ees : es = #[] := by
      rw [List.map_nil] at he
      exact Array.toList_eq_nil_iff.mp he
    subst ees
    refine ⟨rs, c, ⟨o, #[], 0, ho, hc, hd, fun e he => (by simp at he), .nil, List.nodup_nil⟩, fun h' dd' hs => ?_⟩
    cases rk with
    | @cons _ r _ _ r1 r2 =>
      cases r2
      obtain ⟨o', es', ep', ho', hc', hd', hk', hp', hn'⟩ := dd'
      obtain ⟨ys, y1, y2, y3⟩ := pairs_m (h := h') hp' (fun e he => hk' e (Array.mem_toList_iff.mp he))
      have em : merged ([] : List (Key × Value)) [r] = [r] := by unfold merged stored; simp
      rw [em] at y3
      cases y3 with
      | @cons _ y _ _ z1 z2 =>
        cases z2
        obtain ⟨rk1, rv1⟩ := r1
        obtain ⟨y11, y22⟩ := z1
        obtain ⟨yk, ykey, yv⟩ := y
        obtain ⟨r1, r2⟩ := r
        simp only at y11 y22 rk1 rv1
        subst rk1 y22
        have ey : yk = .text x := y11
        subst ey
        have mk := y2 _ List.mem_cons_self
        have kx : RelV (.str x) ykey := by
          obtain ⟨m, _⟩ := mk
          cases m
          exact ⟨_, rfl⟩
        have dm : DictM X.w h' s.heap.objs.size [(.text x, ykey, yv)] := ⟨o', es', ep', ho', hc', hd', y1, y2, by simp⟩
        obtain ⟨ep2, ok⟩ := raw_ok (P := X.prog) (H := upd H2 s.heap.objs.size (.ext (RawD X.w s.heap.objs.size [(.text x, .str x, v)] 0))) (kvs := [(.text x, .str x, v)]) dm (.cons ⟨rfl, kx, rv1⟩ .nil)
        refine ⟨.ref s.heap.objs.size, _, d_write I2 (by rw [e]; trivial) hs ⟨o', ho'⟩ ok, rfl, q3 _ ⟨[(.text x, .str x, v)], ep2, ⟨upd_same, fun z hz => ?_, by simp, by show 1 ≤ sizeLine; decide, beq_eq_false_iff_ne.mpr (Ne.symm (Nat.ne_of_lt I.big))⟩, rfl⟩⟩
        rw [List.mem_singleton.mp hz]
        exact ⟨.str _, by simp [NestedKey.depth]⟩
end

/-! ### C() where there is no __init__ -/
structure MkO (K : PySem.W.Frag) (C : Addr) : Prop where
  makes : PySem.W.makesIn K C = true
  init : PySem.W.findIn K (.ref C) "__init__" = some (some (.builtin "object.__init__"))
  kp : PySem.W.keepIn K (.ref C) = true
def tMakeO (C : Addr) : TE := fun _ H Q => ∀ x dx, H x = none → H dx = none → dx ≠ x → Q (.ref x) (upd (upd H dx (.own x)) x (.ins C dx []))
section
variable {X : Cx} {C : Addr} {x : Str} {p pos : Pos}
theorem pe_makeO (M : MkO X.K C) (hg : Gl X x) (hm : X.mg x = some (.ref C)) (hdb : (x == ("__debug__" : Str)) = false := by decide) : PE X (.Call (.Name x p) [] [] pos) (tMakeO C) := by
  refine ⟨fun pins s σ H Q I h => ?_⟩
  refine wpAny_Call_Name_kw (ld_glob I hg hm ?_ hdb)
  refine PySem.W.callWith_K0 I.kIn M.kp ?_
  have hq := h (s.heap.objs.size + 1) s.heap.objs.size (I.hok.fresh (Nat.le_succ _)) (I.hok.fresh (Nat.le_refl _)) (Nat.ne_of_lt (Nat.lt_succ_self _))
  have I2 := Inv.made (C := C) I
  have Y := PySem.W.makes_of (M := model X.prog X.w) I.kIn M.makes
  have g2 : ((s.heap.push PySem.W.emptyDict).push (PySem.W.instObj C s.heap.objs.size)).get? (s.heap.objs.size + 1) = some (PySem.W.instObj C s.heap.objs.size) := by
    have e1 := Heap.get?_push_size (s.heap.push PySem.W.emptyDict) (o := PySem.W.instObj C s.heap.objs.size) rfl
    rwa [Heap.size_push] at e1
  refine wpAny_call (make_map0 I.kIn M.makes M.init (fun self => PySem.W.Looks.of_pure (PySem.W.oi_bind self)) ?_)
  have t1 : PySem.W.Looks (model X.prog X.w) ((s.heap.push PySem.W.emptyDict).push (PySem.W.instObj C s.heap.objs.size)) (typeOf (.ref (s.heap.objs.size + 1))) (.ref C) := (PySem.W.Looks.ld g2).andThen .now
  have t2 : PySem.W.Looks (model X.prog X.w) ((s.heap.push PySem.W.emptyDict).push (PySem.W.instObj C s.heap.objs.size)) (isInstance (.ref (s.heap.objs.size + 1)) (.type "object")) true := t1.andThen (Y.top.keeps fun b o e => Heap.get?_push_of_some _ (Heap.get?_push_of_some _ e))
  refine codeAny_call_builtin PySem.W.oi_plain PySem.W.entry_oi (@PySem.W.check_slot (model X.prog X.w) _ _ _ "object.__init__" "object" "__init__" (.ref (s.heap.objs.size + 1)) [] [] _ PySem.W.oi_kind PySem.W.oi_split t2 (PySem.W.oi_args (.ref (s.heap.objs.size + 1))) ?_)
  rw [PySem.W.oi_run]
  exact wpAny_pure (And.intro rfl ⟨.ref (s.heap.objs.size + 1), _, I2, rfl, hq⟩)
end

/-! ### == of data -/
def rEqP (K : PySem.W.Frag) : R2 := fun x y H Q => ∃ d e, Dp K H x d ∧ Dp K H y e ∧ d.plain = true ∧ e.plain = true ∧ d.depth ≤ 40 ∧ Q (.bl (PyData.eqv d e)) H
def rNeP (K : PySem.W.Frag) : R2 := fun x y H Q => ∃ d e, Dp K H x d ∧ Dp K H y e ∧ d.plain = true ∧ e.plain = true ∧ d.depth ≤ 40 ∧ Q (.bl (!PyData.eqv d e)) H
section
variable {X : Cx}
theorem op_eqP (hu : X.A.units + 64 < cLine) : OpR X (compareOp .Eq) (rEqP X.K) := by
  intro pins s σ H x y v u Q I rx ry h
  obtain ⟨d, e, hd, he, sd, se, hz, q⟩ := h
  obtain ⟨as, r1⟩ := Dp.reads I d x v hd rx
  obtain ⟨bs, r2⟩ := Dp.reads I e y u he ry
  exact PySem.SeqAt.eq_plain r1 r2 sd se (by omega) ⟨.bl _, H, I, rfl, q⟩
theorem op_neP (hu : X.A.units + 64 < cLine) : OpR X (compareOp .NotEq) (rNeP X.K) := by
  intro pins s σ H x y v u Q I rx ry h
  obtain ⟨d, e, hd, he, sd, se, hz, q⟩ := h
  obtain ⟨as, r1⟩ := Dp.reads I d x v hd rx
  obtain ⟨bs, r2⟩ := Dp.reads I e y u he ry
  exact PySem.SeqAt.ne_plain r1 r2 sd se (by omega) ⟨.bl _, H, I, rfl, q⟩
end
end NK

/-! enumerate(tuple) -/
namespace PySem
open MeetsSeq
theorem k31_enum_new {v : Value} {o : Obj} {H : Heap → Prop} (B : Begins v o H) :
    Meets (Builtin.«enumerate.__new__» ⟨[.type "enumerate", v], []⟩) (fun _ R s => H s.heap ∧
      R (.ok (.ret (.ref (s.heap.push o).objs.size))) { s with heap := (s.heap.push o).push { cls := .type "enumerate", data := .fields #[.none, .bool false, .ref s.heap.objs.size, rawInt 0, .none, .none] } }) :=
  .of_wp fun prog w A R s h => by
    obtain ⟨hp, g, d, tk, os⟩ := s; obtain ⟨h1, h⟩ := h
    have hsub := sub_enumerate
    have q1 : ∀ {A' : Around} {E : Value → Shared → Prop} {Q : Value → Shared → Prop}, Q (.ref hp.objs.size) ⟨hp.push o, g, d, tk, os⟩ → wpAny (model prog w) A' (pyIter v) Q E ⟨hp, g, d, tk, os⟩ :=
      fun q => B.iter prog w _ _ ⟨hp, g, d, tk, os⟩ _ h1 q
    wp_walk using q1
    refine wpAny_stack_any fun st => wpAny_pure ?_
    split
    · rename_i c _ _ _ _ _
      cases (c == Value.type "enumerate")
      · wp_walk using q1
        exact ⟨_, rfl, h⟩
      · wp_walk using q1
        exact ⟨_, rfl, h⟩
    · wp_walk using q1
      exact ⟨_, rfl, h⟩
section
variable {prog : Program} {w : World} {A : Around} {E : Value → Shared → Prop} {s : Shared}
theorem k31_enum {v : Value} {o : Obj} {H : Heap → Prop} {Q : Value → Shared → Prop} (B : Begins v o H) (h1 : H s.heap)
    (h : ∀ h', IsEnum h' (s.heap.objs.size + 1) s.heap.objs.size 0 .none → h'.get? s.heap.objs.size = some o → h'.objs.size = s.heap.objs.size + 2 →
      (∀ b o, s.heap.get? b = some o → h'.get? b = some o) → Q (.ref (s.heap.objs.size + 1)) { s with heap := h' }) :
    wpAny (model prog w) A (call (.type "enumerate") [v]) Q E s := by
  refine callType_new F.called_enumerate (by decide) (F.typeCall_enumerate_1 _) (F.newCall_enumerate_1 _) (fun obj => F.args_object_init_2 obj _) F.entry_enumerate_new
    (k31_enum_new B) ⟨h1, ?_⟩
  have hz : (s.heap.push o).objs.size = s.heap.objs.size + 1 := Heap.size_push ..
  show _ ∧ _
  rw [hz]
  have he : IsEnum ((s.heap.push o).push { cls := .type "enumerate", data := .fields #[.none, .bool false, .ref s.heap.objs.size, rawInt 0, .none, .none] }) (s.heap.objs.size + 1) s.heap.objs.size 0 .none := by
    have q := Heap.get?_push_size (s.heap.push o) (o := { cls := .type "enumerate", data := .fields #[.none, .bool false, .ref s.heap.objs.size, rawInt 0, .none, .none] }) rfl
    rw [hz] at q; exact q
  exact ⟨⟨_, he, rfl⟩, h _ he (Heap.get?_push_of_some _ (Heap.get?_push_size _ B.free)) (by rw [Heap.size_push, hz]) fun b o x => Heap.get?_push_of_some _ (Heap.get?_push_of_some _ x)⟩
end
end PySem
namespace NK
open PySem PySem.Spec PyProof.Rows L2
/-- the items of a tuple, each in a new pair -/
def IteT (K : PySem.W.Frag) (a : Addr) (xs : List V) : It :=
  ⟨fun i H => SqT K H a xs ∧ i < xs.length, fun i H v H' => ∃ T x, v = .ref T ∧ H T = none ∧ H' = upd H T (.tup [.int (i : Nat), x]) ∧ xs[i]? = some x, fun i H => SqT K H a xs ∧ i = xs.length⟩
theorem turn_enumT {P : Program} {w : World} {K : PySem.W.Frag} {elts : List Expr} {kk : Nat} {tpos : Pos} {xs : List V} (a e it : Addr) (hta : a ≠ it) (hea : e ≠ a) :
    Turn P w K (.Tuple elts kk tpos) (IteT K a xs) [e, it] e (fun i h => (∃ old, IsEnum h e it ((i : Nat) : Int) old) ∧ h.IsTupleIter it a i ∧ e ≠ it) where
  mem := by simp
  obj := fun i h st b hb => by
    obtain ⟨⟨old, he⟩, ⟨o, ho, hc, hd⟩, _⟩ := st
    have e' : b = e ∨ b = it := by simpa using hb
    rcases e' with z | z
    · rw [z]; exact ⟨_, he, fun v q => nomatch q⟩
    · rw [z]; exact ⟨o, ho, fun v q => by rw [hd] at q; cases q⟩
  keep := fun i h h' st k => let ⟨⟨old, he⟩, hi, hne⟩ := st; ⟨⟨old, k e (by simp) _ he⟩, hi.at fun o q => k it (by simp) o q, hne⟩
  item := by
    intro X hP hw hK hc i pins s σ H E I hf st hg
    subst hP hw hK
    obtain ⟨⟨old, he⟩, hit, hne⟩ := st
    obtain ⟨hq, hlt⟩ := hg
    obtain ⟨its, rv, p, hz⟩ := I.tuple hq
    have hl := rv.length
    obtain ⟨x, hx⟩ : ∃ x, xs[i]? = some x := ⟨xs[i], List.getElem?_eq_getElem hlt⟩
    obtain ⟨u, hu, ru⟩ := rv.get hx
    have hel : e < s.heap.objs.size := Heap.lt_size he
    have hil : it < s.heap.objs.size := by obtain ⟨_, q, _⟩ := hit; exact Heap.lt_size q
    refine wpAny_pyNext_enum_itemC (Draws.tuple (A := X.A.in1) (I.ok.hd hc) it a hta its.toArray) he ⟨hit, p⟩ (by rw [List.size_toArray]; omega) hne (by simp; exact ⟨hne, hea⟩) fun u' h' tk hP ho hst' hT hsz hk => ?_
    have eu : u' = u := by
      have q : its.toArray[i]? = some u := by simpa using hu
      have hP' : its.toArray[i]? = some u' := hP
      rw [q] at hP'
      exact (Option.some.inj hP').symm
    subst eu
    obtain ⟨hit', _⟩ := hst'
    refine ⟨_, rfl, wpAny_letOwnedTupleGo_enum (s := { s with heap := h', toks := tk + 1 }) ho fun h'' he' sb => ?_⟩
    have hT2 : h''.get? s.heap.objs.size = some { cls := .type "tuple", data := .seq #[.int i tk, u'] } := (sb.2 _ (Nat.ne_of_gt hel)).trans hT
    have new : ObjOk X.prog X.w (upd H s.heap.objs.size (.tup [.int (i : Nat), x])) h'' s.heap.objs.size (.tup [.int (i : Nat), x]) :=
      ⟨by show 2 ≤ sizeLine; decide, [.int i tk, u'], .cons ⟨_, rfl⟩ (.cons ru .nil), ⟨_, hT2, rfl, _, rfl⟩⟩
    have I1 : Inv X pins σ (upd H s.heap.objs.size (.tup [.int (i : Nat), x])) { s with heap := h'', toks := tk + 1 } :=
      I.turnedNew (ch := [e, it]) (fun b ob hb q => (sb.2 b (fun z => hb (by simp [z]))).trans (hk b ob (fun z => hb (by simp [z])) (fun z => hb (by simp [z])) q)) hf (Nat.le_refl _) new
    refine ⟨.ref s.heap.objs.size, _, I1, rfl, ⟨_, x, rfl, I.hok.fresh (Nat.le_refl _), rfl, hx⟩, ⟨⟨u', ?_⟩, hit'.at fun o q => (sb.2 it (Ne.symm hne)).trans q, hne⟩, fun b hb => ?_⟩
    · have e1 : ((i + 1 : Nat) : Int) = (i : Int) + 1 := by omega
      rw [e1]; exact he'
    · have hb' : b < s.heap.objs.size := by
        have e' : b = e ∨ b = it := by simpa using hb
        rcases e' with z | z
        · rw [z]; exact hel
        · rw [z]; exact hil
      rw [upd_ne (Nat.ne_of_lt hb')]
      exact (hf b hb).1
  done := by
    intro X hP hw hK hc i pins s σ H E I hf st hg
    subst hP hw hK
    obtain ⟨⟨old, he⟩, hit, hne⟩ := st
    obtain ⟨hq, hx⟩ := hg
    obtain ⟨its, rv, p, hz⟩ := I.tuple hq
    obtain ⟨f0, f1, f2, f3, f4, f5⟩ := hf it (by simp)
    have hl := rv.length
    have en : i = its.toArray.size := by rw [List.size_toArray]; omega
    rw [en] at hit he
    exact wpAny_pyNext_enum_endD (Draws.tuple (A := X.A.in1) (I.ok.hd hc) it a hta its.toArray) he ⟨hit, p⟩ fun h' eb => ⟨rfl, I.turned (t' := s.toks) (fun b o hb q => eb b o hb q) f0 f1 f3 f4 f5⟩
  self := fun A i s Q E st h => let ⟨⟨_, he⟩, _⟩ := st; wpAny_pyIter_enum he h
def iEnumT (K : PySem.W.Frag) (ta : TA) : TI := fun σ H R => ta σ H fun vs H1 => ∃ a xs, vs = [.ref a] ∧ SqT K H1 a xs ∧ R (IteT K a xs) H1
theorem pi_enumT {X : Cx} {e : Expr} {ta : TA} {p pos tpos : Pos} {elts : List Expr} {kk : Nat} (hg : Gl X "enumerate") (hm : X.mg "enumerate" = none) (ha : PA X [e] ta) (hs : starEach [e] X.env = [(false, eval e X.env)] := by rfl) :
    PI X (.Tuple elts kk tpos) (.Call (.Name "enumerate" p) [e] [] pos) (iEnumT X.K ta) := by
  refine ⟨fun pins s σ H R I h => ?_⟩
  refine Call_ (ld_blt I hg hm boot_enumerate (PyProof.Rows.callWith_type1 (thn (ha.run pos pins s σ H _ I h) fun us s1 ⟨vs, H1, I1, r1, q1⟩ => ?_) hs rfl))
  obtain ⟨a, xs, ex, hq, q⟩ := q1
  subst ex
  cases r1 with
  | cons r rr =>
    cases rr
    cases r
    obtain ⟨its, rv, p', hz⟩ := I1.tuple hq
    have hlt := p'.lt
    refine k31_enum (begins_tuple a its.toArray) p' fun h' he hit hsz hk => wpAny_pyIter_enum he ?_
    have I2 : Inv X pins σ H1 { s1 with heap := h' } := I1.kept (t' := s1.toks) hk
    refine ⟨s1.heap.objs.size + 1, [s1.heap.objs.size + 1, s1.heap.objs.size], _, _, H1, rfl, I2, turn_enumT (xs := xs) a (s1.heap.objs.size + 1) s1.heap.objs.size (Nat.ne_of_lt hlt) (Nat.ne_of_gt (Nat.lt_succ_of_lt hlt)), ⟨⟨.none, he⟩, ⟨_, hit, rfl, rfl⟩, Nat.succ_ne_self _⟩, fun b hb => ?_, q⟩
    have e' : b = s1.heap.objs.size + 1 ∨ b = s1.heap.objs.size := by simpa using hb
    have hle : s1.heap.objs.size ≤ b := by
      rcases e' with z | z
      · rw [z]; exact Nat.le_add_right _ _
      · rw [z]; exact Nat.le_refl _
    exact I1.fpOk hle (I1.hok.fresh hle)
/-- for i, x in enumerate(tuple) -/
theorem for_enumT {K : PySem.W.Frag} {a : Addr} {xs : List V} {g : TG} {tb : TS} {D : Ends} {σ : L2.St} {H : Hp} (Pv : Nat → L2.St → Hp → Prop) (h0 : Pv 0 σ H) (hl : ∀ i σ H, i ≤ xs.length → Pv i σ H → SqT K H a xs)
    (hs : ∀ i x T σ H, xs[i]? = some x → Pv i σ H → H T = none → g (.ref T) σ (upd H T (.tup [.int (i : Nat), x])) fun σ2 H2 => tb { D with nx := Pv (i + 1), ct := Pv (i + 1), bk := D.nx } σ2 H2) (hd : ∀ σ H, Pv xs.length σ H → D.nx σ H) :
    ∃ W : Nat → Nat → L2.St → Hp → Prop, (∃ m, W 0 m σ H) ∧ ∀ i m σ H, W i m σ H →
      ((IteT K a xs).stop i H ∧ D.nx σ H) ∨ ((IteT K a xs).go i H ∧ ∃ N : L2.St → Hp → Prop, (∀ σ' H', N σ' H' → ∃ m', m' < m ∧ W (i + 1) m' σ' H') ∧ ∀ x H', (IteT K a xs).yld i H x H' → g x σ H' fun σ2 H2 => tb { D with nx := N, ct := N, bk := D.nx } σ2 H2) := by
  refine ⟨fun i m σ H => m = xs.length - i ∧ i ≤ xs.length ∧ Pv i σ H, ⟨xs.length, by simp, Nat.zero_le _, h0⟩, ?_⟩
  rintro i m σ H ⟨rfl, hi, p⟩
  have q := hl i σ H hi p
  by_cases hlt : i < xs.length
  · refine .inr ⟨⟨q, hlt⟩, Pv (i + 1), fun σ' H' p' => ⟨xs.length - (i + 1), by omega, rfl, hlt, p'⟩, fun x H' y => ?_⟩
    obtain ⟨T, x', rfl, hT, rfl, e⟩ := y
    exact hs i x' T σ H e p hT
  · have e : i = xs.length := by omega
    subst e
    exact .inl ⟨⟨q, rfl⟩, hd σ H p⟩
end NK

/-! trees, books, ends as plain data -/
namespace K31
open PySem PySem.Spec PyProof.Rows L2 NK

abbrev Place := List Nat
inductive Tr where
  | sign (s : Str)
  | void
  | hole (n : Str)
  | foot (n : Str)
  | knot (n : Str) (tk : Option (Str × Bool)) (kids : List Tr)
def encTk : Option (Str × Bool) → PyData
  | none => .none
  | some (s, b) => .tuple [.str s, .bool b]
mutual
def encT : Tr → PyData
  | .sign s => .tuple [.str "sign", .str s]
  | .void => .tuple [.str "void"]
  | .hole n => .tuple [.str "hole", .str n]
  | .foot n => .tuple [.str "foot", .str n]
  | .knot n tk ks => .tuple [.str "knot", .str n, encTk tk, .tuple (encTs ks)]
def encTs : List Tr → List PyData
  | [] => []
  | t :: ts => encT t :: encTs ts
end
theorem encTs_map : ∀ ts : List Tr, encTs ts = ts.map encT
  | [] => rfl
  | t :: ts => by rw [encTs, encTs_map ts]; rfl
def kidsT : Tr → List Tr
  | .knot _ _ ks => ks
  | _ => []
def tagT : Tr → Str
  | .sign _ => "sign"
  | .void => "void"
  | .hole _ => "hole"
  | .foot _ => "foot"
  | .knot .. => "knot"
def nameT : Tr → Str
  | .sign s => s
  | .void => ""
  | .hole n => n
  | .foot n => n
  | .knot n .. => n
def takesT : Tr → Option (Str × Bool)
  | .knot _ tk _ => tk
  | _ => none
mutual
def htT : Tr → Nat
  | .knot _ _ ks => htTs ks + 1
  | .sign _ => 0
  | .void => 0
  | .hole _ => 0
  | .foot _ => 0
def htTs : List Tr → Nat
  | [] => 0
  | t :: ts => max (htT t) (htTs ts)
end
mutual
def szT : Tr → Nat
  | .knot _ _ ks => szTs ks + 1
  | .sign _ => 1
  | .void => 1
  | .hole _ => 1
  | .foot _ => 1
def szTs : List Tr → Nat
  | [] => 0
  | t :: ts => szT t + szTs ts
end
theorem htTs_mem : ∀ {ts : List Tr} {t : Tr}, t ∈ ts → htT t ≤ htTs ts
  | u :: ts, t, h => by
    rw [htTs]
    rcases List.mem_cons.mp h with rfl | h
    · omega
    · have := htTs_mem h; omega
theorem htT_kid {t k : Tr} (h : k ∈ kidsT t) : htT k < htT t := by
  cases t with
  | knot n tk ks =>
    have := htTs_mem (ts := ks) h
    rw [htT]
    omega
  | _ => cases h
theorem szT_pos : ∀ t : Tr, 0 < szT t
  | .knot .. => by rw [szT]; omega
  | .sign _ => by rw [szT]; omega
  | .void => by rw [szT]; omega
  | .hole _ => by rw [szT]; omega
  | .foot _ => by rw [szT]; omega
theorem szTs_mem : ∀ {ts : List Tr} {t : Tr}, t ∈ ts → szT t ≤ szTs ts
  | u :: ts, t, h => by
    rw [szTs]
    rcases List.mem_cons.mp h with rfl | h
    · omega
    · have := szTs_mem h; omega
theorem szTs_len : ∀ ts : List Tr, ts.length ≤ szTs ts
  | [] => Nat.le_refl _
  | t :: ts => by
    have := szTs_len ts
    have := szT_pos t
    rw [szTs, List.length_cons]
    omega
mutual
theorem htT_sz : ∀ t : Tr, htT t ≤ szT t
  | .knot n tk ks => by
    have := htTs_sz ks
    rw [htT, szT]
    omega
  | .sign _ => by rw [szT, htT]; omega
  | .void => by rw [szT, htT]; omega
  | .hole _ => by rw [szT, htT]; omega
  | .foot _ => by rw [szT, htT]; omega
theorem htTs_sz : ∀ ts : List Tr, htTs ts ≤ szTs ts
  | [] => Nat.le_refl _
  | t :: ts => by
    have := htT_sz t
    have := htTs_sz ts
    rw [htTs, szTs]
    omega
end
/-! places -/
def encP (p : Place) : PyData := .tuple (p.map fun k => PyData.int (Int.ofNat k))
mutual
def placesT : Tr → List Place
  | .knot _ _ ks => [] :: placesTs 0 ks
  | .sign _ => [[]]
  | .void => [[]]
  | .hole _ => [[]]
  | .foot _ => [[]]
def placesTs (k : Nat) : List Tr → List Place
  | [] => []
  | t :: ts => (placesT t).map (k :: ·) ++ placesTs (k + 1) ts
end
theorem placesT_eq (t : Tr) : placesT t = [] :: placesTs 0 (kidsT t) := by
  cases t <;> simp [placesT, kidsT, placesTs]
mutual
theorem placesT_len : ∀ t : Tr, (placesT t).length = szT t
  | .knot n tk ks => by rw [placesT, szT, List.length_cons, placesTs_len 0 ks]
  | .sign _ => by rw [placesT, szT]; rfl
  | .void => by rw [placesT, szT]; rfl
  | .hole _ => by rw [placesT, szT]; rfl
  | .foot _ => by rw [placesT, szT]; rfl
theorem placesTs_len (k : Nat) : ∀ ts : List Tr, (placesTs k ts).length = szTs ts
  | [] => rfl
  | t :: ts => by rw [placesTs, szTs, List.length_append, List.length_map, placesT_len t, placesTs_len (k + 1) ts]
end
def pieceAt : Tr → Place → Option Tr
  | t, [] => some t
  | t, k :: p => match (kidsT t)[k]? with
    | some t' => pieceAt t' p
    | none => none
mutual
def feetT : Tr → List Str
  | .foot n => [n]
  | .knot _ _ ks => feetTs ks
  | .sign _ => []
  | .void => []
  | .hole _ => []
def feetTs : List Tr → List Str
  | [] => []
  | t :: ts => feetT t ++ feetTs ts
end
mutual
def signsT : Tr → List Str
  | .sign s => [s]
  | .knot _ _ ks => signsTs ks
  | .foot _ => []
  | .void => []
  | .hole _ => []
def signsTs : List Tr → List Str
  | [] => []
  | t :: ts => signsT t ++ signsTs ts
end
mutual
theorem feetT_len : ∀ t : Tr, (feetT t).length ≤ szT t
  | .knot n tk ks => by rw [feetT, szT]; have := feetTs_len ks; omega
  | .sign _ => by rw [szT, feetT]; simp
  | .void => by rw [szT, feetT]; simp
  | .hole _ => by rw [szT, feetT]; simp
  | .foot _ => by rw [szT, feetT]; simp
theorem feetTs_len : ∀ ts : List Tr, (feetTs ts).length ≤ szTs ts
  | [] => Nat.le_refl _
  | t :: ts => by rw [feetTs, szTs, List.length_append]; have := feetT_len t; have := feetTs_len ts; omega
end
mutual
theorem signsT_len : ∀ t : Tr, (signsT t).length ≤ szT t
  | .knot n tk ks => by rw [signsT, szT]; have := signsTs_len ks; omega
  | .sign _ => by rw [szT, signsT]; simp
  | .void => by rw [szT, signsT]; simp
  | .hole _ => by rw [szT, signsT]; simp
  | .foot _ => by rw [szT, signsT]; simp
theorem signsTs_len : ∀ ts : List Tr, (signsTs ts).length ≤ szTs ts
  | [] => Nat.le_refl _
  | t :: ts => by rw [signsTs, szTs, List.length_append]; have := signsT_len t; have := signsTs_len ts; omega
end
mutual
/-- the pieces in their order -/
def piecesT : Tr → List Tr
  | .knot n tk ks => .knot n tk ks :: piecesTs ks
  | .sign s => [.sign s]
  | .void => [.void]
  | .hole n => [.hole n]
  | .foot n => [.foot n]
def piecesTs : List Tr → List Tr
  | [] => []
  | t :: ts => piecesT t ++ piecesTs ts
end
def footOf : Tr → List Str
  | .foot n => [n]
  | _ => []
mutual
theorem feet_pieces : ∀ t : Tr, feetT t = (piecesT t).flatMap footOf
  | .knot n tk ks => by rw [feetT, piecesT, List.flatMap_cons, feets_pieces ks]; rfl
  | .sign _ => by rw [feetT, piecesT]; rfl
  | .void => by rw [feetT, piecesT]; rfl
  | .hole _ => by rw [feetT, piecesT]; rfl
  | .foot _ => by rw [feetT, piecesT]; rfl
theorem feets_pieces : ∀ ts : List Tr, feetTs ts = (piecesTs ts).flatMap footOf
  | [] => rfl
  | t :: ts => by rw [feetTs, piecesTs, List.flatMap_append, feet_pieces t, feets_pieces ts]
end
theorem piecesT_eq (t : Tr) : piecesT t = t :: piecesTs (kidsT t) := by
  cases t <;> simp [piecesT, kidsT, piecesTs]
theorem pieceAt_cons {t : Tr} {k : Nat} {p : Place} {t' : Tr} (h : (kidsT t)[k]? = some t') : pieceAt t (k :: p) = pieceAt t' p := by
  rw [pieceAt, h]
theorem map_some_inj {α β : Type} {f : α → β} : ∀ {l : List α} {m : List β}, l.map (fun x => some (f x)) = m.map some → l.map f = m
  | [], [], _ => rfl
  | x :: l, y :: m, h => by
    simp only [List.map_cons, List.cons.injEq, Option.some.injEq] at h ⊢
    exact ⟨h.1, map_some_inj h.2⟩
mutual
theorem pieces_at : ∀ t : Tr, (placesT t).map (pieceAt t) = (piecesT t).map some
  | .knot n tk ks => by
    have := piecess_at (.knot n tk ks) 0 ks (fun i => by simp [kidsT])
    rw [placesT, piecesT, List.map_cons, List.map_cons, this, pieceAt]
  | .sign _ => by rw [placesT, piecesT]; simp [pieceAt]
  | .void => by rw [placesT, piecesT]; simp [pieceAt]
  | .hole _ => by rw [placesT, piecesT]; simp [pieceAt]
  | .foot _ => by rw [placesT, piecesT]; simp [pieceAt]
theorem piecess_at (t : Tr) (k : Nat) : ∀ ts : List Tr, (∀ i : Nat, (kidsT t)[k + i]? = ts[i]?) → (placesTs k ts).map (pieceAt t) = (piecesTs ts).map some
  | [], _ => rfl
  | u :: us, h => by
    have h0 : (kidsT t)[k]? = some u := by simpa using h 0
    have h1 := piecess_at t (k + 1) us (fun i => by have := h (i + 1); rw [show k + 1 + i = k + (i + 1) by omega, this]; simp)
    have h2 := pieces_at u
    rw [placesTs, piecesTs, List.map_append, List.map_append, h1, List.map_map, ← h2]
    congr 1
    apply List.map_congr_left
    intro p _
    simp only [Function.comp]
    rw [pieceAt_cons h0]
end
theorem pieceAt_places {t : Tr} {p : Place} (h : p ∈ placesT t) : ∃ u, pieceAt t p = some u ∧ u ∈ piecesT t := by
  have := pieces_at t
  have h2 : pieceAt t p ∈ (piecesT t).map some := by rw [← this]; exact List.mem_map_of_mem h
  obtain ⟨u, hu, e⟩ := List.mem_map.mp h2
  exact ⟨u, e.symm, hu⟩
mutual
theorem placesT_ht : ∀ (t : Tr) (p : Place), p ∈ placesT t → p.length ≤ htT t
  | .knot n tk ks, p, h => by
    rw [placesT] at h
    rcases List.mem_cons.mp h with rfl | h
    · exact Nat.zero_le _
    · rw [htT]
      exact placesTs_ht 0 ks p h
  | .sign _, p, h => by rw [placesT, List.mem_singleton] at h; subst h; exact Nat.zero_le _
  | .void, p, h => by rw [placesT, List.mem_singleton] at h; subst h; exact Nat.zero_le _
  | .hole _, p, h => by rw [placesT, List.mem_singleton] at h; subst h; exact Nat.zero_le _
  | .foot _, p, h => by rw [placesT, List.mem_singleton] at h; subst h; exact Nat.zero_le _
theorem placesTs_ht (k : Nat) : ∀ (ts : List Tr) (p : Place), p ∈ placesTs k ts → p.length ≤ htTs ts + 1
  | [], p, h => by rw [placesTs] at h; cases h
  | t :: ts, p, h => by
    rw [placesTs] at h
    rw [htTs]
    rcases List.mem_append.mp h with h | h
    · obtain ⟨q, hq, rfl⟩ := List.mem_map.mp h
      have := placesT_ht t q hq
      rw [List.length_cons]
      omega
    · have := placesTs_ht (k + 1) ts p h
      omega
end
end K31

/-! the program's defs, by name; what is known of the top -/
namespace K31
open PySem PySem.Spec PyProof.Rows L2 NK

def top (i : Nat) : Stmt := PySem.Challenge.pw_graftsay_k31_whole_what_plans_cover.main.body.getD i (.Pass ⟨0, 0, 0, 0⟩)
/-- a look at the names of a def's scope -/
def scC (N P : List Str) (sc : Scope) : Bool :=
  decide (sc.kind = .function) && !sc.isCoroutine && !sc.isGenerator && decide N.Nodup && decide (N.take P.length = P) && P.all (fun x => decide (sc.names.lookup x = some .local) || decide (sc.names.lookup x = some .cell)) && sc.names.all (fun y => !decide (y.2 = .free))
theorem fnScope_by {N P : List Str} {sc : Scope} (h : scC N P sc = true) : FnScope N P sc := by
  unfold scC at h
  simp only [Bool.and_eq_true, Bool.not_eq_true', decide_eq_true_eq, List.all_eq_true, Bool.or_eq_true, decide_eq_false_iff_not] at h
  obtain ⟨⟨⟨⟨⟨⟨h1, h2⟩, h3⟩, h4⟩, h5⟩, h6⟩, h7⟩ := h
  exact ⟨h1, h2, h3, h4, h5, h6, h7⟩
abbrev BindOk (x qual : Str) (st : Stmt) (ps : List Str) : Prop := ∀ (kV doc pm : Value) (an : Option Addr) (cdv ct : Value) (us : List Value), us.length = ps.length → bindArgs (PySem.W.fnOf x qual (defArgs st) (defBody st) (defScope st) .none kV doc pm an cdv ct) ⟨us, []⟩ = pure (ps.zip us)
/-! kids_of -/
abbrev s_kids_of : Stmt := top 5
abbrev N_kids_of : List Str := ["tree"]
theorem sc_kids_of : FnScope N_kids_of ["tree"] (defScope s_kids_of) := fnScope_by (by decide +kernel)
theorem b_kids_of {x qual : Str} : BindOk x qual s_kids_of ["tree"] := fun _ _ _ _ _ _ us hl => match us, hl with | [_], _ => rfl
/-! places -/
abbrev s_places : Stmt := top 6
abbrev N_places : List Str := ["tree", "found", "k", "kid", "place"]
theorem sc_places : FnScope N_places ["tree"] (defScope s_places) := fnScope_by (by decide +kernel)
theorem b_places {x qual : Str} : BindOk x qual s_places ["tree"] := fun _ _ _ _ _ _ us hl => match us, hl with | [_], _ => rfl
/-! piece_at -/
abbrev s_piece_at : Stmt := top 7
abbrev N_piece_at : List Str := ["tree", "place", "found", "number", "kids"]
theorem sc_piece_at : FnScope N_piece_at ["tree", "place"] (defScope s_piece_at) := fnScope_by (by decide +kernel)
theorem b_piece_at {x qual : Str} : BindOk x qual s_piece_at ["tree", "place"] := fun _ _ _ _ _ _ us hl => match us, hl with | [_, _], _ => rfl
/-! feet_of -/
abbrev s_feet_of : Stmt := top 9
abbrev N_feet_of : List Str := ["tree", "pieces", "place", "piece"]
theorem sc_feet_of : FnScope N_feet_of ["tree"] (defScope s_feet_of) := fnScope_by (by decide +kernel)
theorem b_feet_of {x qual : Str} : BindOk x qual s_feet_of ["tree"] := fun _ _ _ _ _ _ us hl => match us, hl with | [_], _ => rfl
/-! is_graft -/
abbrev s_is_graft : Stmt := top 10
abbrev N_is_graft : List Str := ["tree"]
theorem sc_is_graft : FnScope N_is_graft ["tree"] (defScope s_is_graft) := fnScope_by (by decide +kernel)
theorem b_is_graft {x qual : Str} : BindOk x qual s_is_graft ["tree"] := fun _ _ _ _ _ _ us hl => match us, hl with | [_], _ => rfl
/-! name_of -/
abbrev s_name_of : Stmt := top 11
abbrev N_name_of : List Str := ["tree", "feet"]
theorem sc_name_of : FnScope N_name_of ["tree"] (defScope s_name_of) := fnScope_by (by decide +kernel)
theorem b_name_of {x qual : Str} : BindOk x qual s_name_of ["tree"] := fun _ _ _ _ _ _ us hl => match us, hl with | [_], _ => rfl
/-! lay -/
abbrev s_lay : Stmt := top 13
abbrev N_lay : List Str := ["found", "ends", "number", "reckoner"]
theorem sc_lay : FnScope N_lay ["found", "ends", "number", "reckoner"] (defScope s_lay) := fnScope_by (by decide +kernel)
theorem b_lay {x qual : Str} : BindOk x qual s_lay ["found", "ends", "number", "reckoner"] := fun _ _ _ _ _ _ us hl => match us, hl with | [_, _, _, _], _ => rfl
/-! behind_one_another -/
abbrev s_behind_one_another : Stmt := top 14
abbrev N_behind_one_another : List Str := ["one", "other", "reckoner", "ahead", "ends", "found", "behind", "footed", "whole"]
theorem sc_behind_one_another : FnScope N_behind_one_another ["one", "other", "reckoner"] (defScope s_behind_one_another) := fnScope_by (by decide +kernel)
theorem b_behind_one_another {x qual : Str} : BindOk x qual s_behind_one_another ["one", "other", "reckoner"] := fun _ _ _ _ _ _ us hl => match us, hl with | [_, _, _], _ => rfl
/-! put_round -/
abbrev s_put_round : Stmt := top 15
abbrev N_put_round : List Str := ["outer", "inner", "reckoner", "within", "ends", "found", "own", "whole"]
theorem sc_put_round : FnScope N_put_round ["outer", "inner", "reckoner"] (defScope s_put_round) := fnScope_by (by decide +kernel)
theorem b_put_round {x qual : Str} : BindOk x qual s_put_round ["outer", "inner", "reckoner"] := fun _ _ _ _ _ _ us hl => match us, hl with | [_, _, _], _ => rfl
/-! name_at -/
abbrev s_name_at : Stmt := top 16
abbrev N_name_at : List Str := ["piece"]
theorem sc_name_at : FnScope N_name_at ["piece"] (defScope s_name_at) := fnScope_by (by decide +kernel)
theorem b_name_at {x qual : Str} : BindOk x qual s_name_at ["piece"] := fun _ _ _ _ _ _ us hl => match us, hl with | [_], _ => rfl
/-! Ground_init -/
abbrev s_Ground_init : Stmt := inClass (top 17) 0
abbrev N_Ground_init : List Str := ["self", "book", "row", "named", "key", "tree", "place", "piece"]
theorem sc_Ground_init : FnScope N_Ground_init ["self", "book", "row"] (defScope s_Ground_init) := fnScope_by (by decide +kernel)
theorem b_Ground_init {x qual : Str} : BindOk x qual s_Ground_init ["self", "book", "row"] := fun _ _ _ _ _ _ us hl => match us, hl with | [_, _, _], _ => rfl
/-! Ground_is_top -/
abbrev s_Ground_is_top : Stmt := inClass (top 17) 1
abbrev N_Ground_is_top : List Str := ["self", "tree"]
theorem sc_Ground_is_top : FnScope N_Ground_is_top ["self", "tree"] (defScope s_Ground_is_top) := fnScope_by (by decide +kernel)
theorem b_Ground_is_top {x qual : Str} : BindOk x qual s_Ground_is_top ["self", "tree"] := fun _ _ _ _ _ _ us hl => match us, hl with | [_, _], _ => rfl
/-! Ground_has_foot -/
abbrev s_Ground_has_foot : Stmt := inClass (top 17) 2
abbrev N_Ground_has_foot : List Str := ["self", "piece", "kid"]
theorem sc_Ground_has_foot : FnScope N_Ground_has_foot ["self", "piece"] (defScope s_Ground_has_foot) := fnScope_by (by decide +kernel)
theorem b_Ground_has_foot {x qual : Str} : BindOk x qual s_Ground_has_foot ["self", "piece"] := fun _ _ _ _ _ _ us hl => match us, hl with | [_, _], _ => rfl
/-! Ground_leaf -/
abbrev s_Ground_leaf : Stmt := inClass (top 17) 4
abbrev N_Ground_leaf : List Str := ["self", "piece", "reckoner", "many", "found", "i", "k"]
theorem sc_Ground_leaf : FnScope N_Ground_leaf ["self", "piece", "reckoner"] (defScope s_Ground_leaf) := fnScope_by (by decide +kernel)
theorem b_Ground_leaf {x qual : Str} : BindOk x qual s_Ground_leaf ["self", "piece", "reckoner"] := fun _ _ _ _ _ _ us hl => match us, hl with | [_, _, _], _ => rfl
/-! Ground_prefixes -/
abbrev s_Ground_prefixes : Stmt := inClass (top 17) 5
abbrev N_Ground_prefixes : List Str := ["self", "table", "key", "place", "kids", "found", "reckoner", "k", "ends"]
theorem sc_Ground_prefixes : FnScope N_Ground_prefixes ["self", "table", "key", "place"] (defScope s_Ground_prefixes) := fnScope_by (by decide +kernel)
theorem b_Ground_prefixes {x qual : Str} : BindOk x qual s_Ground_prefixes ["self", "table", "key", "place"] := fun _ _ _ _ _ _ us hl => match us, hl with | [_, _, _, _], _ => rfl
/-! Ground_bare -/
abbrev s_Ground_bare : Stmt := inClass (top 17) 6
abbrev N_Ground_bare : List Str := ["self", "table", "key", "place", "found", "ends"]
theorem sc_Ground_bare : FnScope N_Ground_bare ["self", "table", "key", "place"] (defScope s_Ground_bare) := fnScope_by (by decide +kernel)
theorem b_Ground_bare {x qual : Str} : BindOk x qual s_Ground_bare ["self", "table", "key", "place"] := fun _ _ _ _ _ _ us hl => match us, hl with | [_, _, _, _], _ => rfl
/-! Ground_knot -/
abbrev s_Ground_knot : Stmt := inClass (top 17) 7
abbrev N_Ground_knot : List Str := ["self", "table", "key", "place", "takes", "inner", "found", "graft", "round_it", "ends"]
theorem sc_Ground_knot : FnScope N_Ground_knot ["self", "table", "key", "place"] (defScope s_Ground_knot) := fnScope_by (by decide +kernel)
theorem b_Ground_knot {x qual : Str} : BindOk x qual s_Ground_knot ["self", "table", "key", "place"] := fun _ _ _ _ _ _ us hl => match us, hl with | [_, _, _, _], _ => rfl
/-! Ground_hole -/
abbrev s_Ground_hole : Stmt := inClass (top 17) 8
abbrev N_Ground_hole : List Str := ["self", "table", "key", "place", "found", "start", "wholes", "ends"]
theorem sc_Ground_hole : FnScope N_Ground_hole ["self", "table", "key", "place"] (defScope s_Ground_hole) := fnScope_by (by decide +kernel)
theorem b_Ground_hole {x qual : Str} : BindOk x qual s_Ground_hole ["self", "table", "key", "place"] := fun _ _ _ _ _ _ us hl => match us, hl with | [_, _, _, _], _ => rfl
/-! Ground_concluded -/
abbrev s_Ground_concluded : Stmt := inClass (top 17) 9
abbrev N_Ground_concluded : List Str := ["self", "table", "seat", "key", "place", "done", "piece"]
theorem sc_Ground_concluded : FnScope N_Ground_concluded ["self", "table", "seat"] (defScope s_Ground_concluded) := fnScope_by (by decide +kernel)
theorem b_Ground_concluded {x qual : Str} : BindOk x qual s_Ground_concluded ["self", "table", "seat"] := fun _ _ _ _ _ _ us hl => match us, hl with | [_, _, _], _ => rfl
/-! Ground_filled -/
abbrev s_Ground_filled : Stmt := inClass (top 17) 10
abbrev N_Ground_filled : List Str := ["self", "reckoner", "table", "seat", "changed", "found"]
theorem sc_Ground_filled : FnScope N_Ground_filled ["self", "reckoner"] (defScope s_Ground_filled) := fnScope_by (by decide +kernel)
theorem b_Ground_filled {x qual : Str} : BindOk x qual s_Ground_filled ["self", "reckoner"] := fun _ _ _ _ _ _ us hl => match us, hl with | [_, _], _ => rfl
/-! Ground_listed -/
abbrev s_Ground_listed : Stmt := inClass (top 17) 11
abbrev N_Ground_listed : List Str := ["self", "table", "found", "seat", "ends"]
theorem sc_Ground_listed : FnScope N_Ground_listed ["self", "table"] (defScope s_Ground_listed) := fnScope_by (by decide +kernel)
theorem b_Ground_listed {x qual : Str} : BindOk x qual s_Ground_listed ["self", "table"] := fun _ _ _ _ _ _ us hl => match us, hl with | [_, _], _ => rfl
/-! Counted_unit -/
abbrev s_Counted_unit : Stmt := inClass (top 19) 0
abbrev N_Counted_unit : List Str := ["self"]
theorem sc_Counted_unit : FnScope N_Counted_unit ["self"] (defScope s_Counted_unit) := fnScope_by (by decide +kernel)
theorem b_Counted_unit {x qual : Str} : BindOk x qual s_Counted_unit ["self"] := fun _ _ _ _ _ _ us hl => match us, hl with | [_], _ => rfl
/-! Counted_both -/
abbrev s_Counted_both : Stmt := inClass (top 19) 1
abbrev N_Counted_both : List Str := ["self", "one", "other"]
theorem sc_Counted_both : FnScope N_Counted_both ["self", "one", "other"] (defScope s_Counted_both) := fnScope_by (by decide +kernel)
theorem b_Counted_both {x qual : Str} : BindOk x qual s_Counted_both ["self", "one", "other"] := fun _ _ _ _ _ _ us hl => match us, hl with | [_, _, _], _ => rfl
/-! Counted_either -/
abbrev s_Counted_either : Stmt := inClass (top 19) 2
abbrev N_Counted_either : List Str := ["self", "one", "other"]
theorem sc_Counted_either : FnScope N_Counted_either ["self", "one", "other"] (defScope s_Counted_either) := fnScope_by (by decide +kernel)
theorem b_Counted_either {x qual : Str} : BindOk x qual s_Counted_either ["self", "one", "other"] := fun _ _ _ _ _ _ us hl => match us, hl with | [_, _, _], _ => rfl
/-! Counted_of_tree -/
abbrev s_Counted_of_tree : Stmt := inClass (top 19) 3
abbrev N_Counted_of_tree : List Str := ["self", "key", "number"]
theorem sc_Counted_of_tree : FnScope N_Counted_of_tree ["self", "key", "number"] (defScope s_Counted_of_tree) := fnScope_by (by decide +kernel)
theorem b_Counted_of_tree {x qual : Str} : BindOk x qual s_Counted_of_tree ["self", "key", "number"] := fun _ _ _ _ _ _ us hl => match us, hl with | [_, _, _], _ => rfl
/-! entries -/
abbrev s_entries : Stmt := top 21
abbrev N_entries : List Str := ["book", "row", "ground"]
theorem sc_entries : FnScope N_entries ["book", "row"] (defScope s_entries) := fnScope_by (by decide +kernel)
theorem b_entries {x qual : Str} : BindOk x qual s_entries ["book", "row"] := fun _ _ _ _ _ _ us hl => match us, hl with | [_, _], _ => rfl
/-! _law_mixed -/
abbrev s__law_mixed : Stmt := top 23
abbrev N__law_mixed : List Str := ["script", "k", "cell", "number"]
theorem sc__law_mixed : FnScope N__law_mixed ["script", "k"] (defScope s__law_mixed) := fnScope_by (by decide +kernel)
theorem b__law_mixed {x qual : Str} : BindOk x qual s__law_mixed ["script", "k"] := fun _ _ _ _ _ _ us hl => match us, hl with | [_, _], _ => rfl
/-! _law_next -/
abbrev s__law_next : Stmt := top 24
abbrev N__law_next : List Str := ["feed", "count"]
theorem sc__law_next : FnScope N__law_next ["feed", "count"] (defScope s__law_next) := fnScope_by (by decide +kernel)
theorem b__law_next {x qual : Str} : BindOk x qual s__law_next ["feed", "count"] := fun _ _ _ _ _ _ us hl => match us, hl with | [_, _], _ => rfl
/-! _law_leaf -/
abbrev s__law_leaf : Stmt := top 25
abbrev N__law_leaf : List Str := ["feed", "names", "signs", "way"]
theorem sc__law_leaf : FnScope N__law_leaf ["feed", "names", "signs"] (defScope s__law_leaf) := fnScope_by (by decide +kernel)
theorem b__law_leaf {x qual : Str} : BindOk x qual s__law_leaf ["feed", "names", "signs"] := fun _ _ _ _ _ _ us hl => match us, hl with | [_, _, _], _ => rfl
/-! _law_takes -/
abbrev s__law_takes : Stmt := top 26
abbrev N__law_takes : List Str := ["feed", "names", "way"]
theorem sc__law_takes : FnScope N__law_takes ["feed", "names"] (defScope s__law_takes) := fnScope_by (by decide +kernel)
theorem b__law_takes {x qual : Str} : BindOk x qual s__law_takes ["feed", "names"] := fun _ _ _ _ _ _ us hl => match us, hl with | [_, _], _ => rfl
/-! _law_knot -/
abbrev s__law_knot : Stmt := top 27
abbrev N__law_knot : List Str := ["feed", "names", "signs", "deep", "foot", "left", "kids", "size", "spot", "k", "footed", "kid_in"]
theorem sc__law_knot : FnScope N__law_knot ["feed", "names", "signs", "deep", "foot", "left"] (defScope s__law_knot) := fnScope_by (by decide +kernel)
theorem b__law_knot {x qual : Str} : BindOk x qual s__law_knot ["feed", "names", "signs", "deep", "foot", "left"] := fun _ _ _ _ _ _ us hl => match us, hl with | [_, _, _, _, _, _], _ => rfl
/-! _law_signs -/
abbrev s__law_signs : Stmt := top 28
abbrev N__law_signs : List Str := ["piece", "found", "kid"]
theorem sc__law_signs : FnScope N__law_signs ["piece"] (defScope s__law_signs) := fnScope_by (by decide +kernel)
theorem b__law_signs {x qual : Str} : BindOk x qual s__law_signs ["piece"] := fun _ _ _ _ _ _ us hl => match us, hl with | [_], _ => rfl
/-! _law_tree -/
abbrev s__law_tree : Stmt := top 29
abbrev N__law_tree : List Str := ["feed", "names", "signs", "foot", "name", "tree", "sign", "kids"]
theorem sc__law_tree : FnScope N__law_tree ["feed", "names", "signs", "foot", "name"] (defScope s__law_tree) := fnScope_by (by decide +kernel)
theorem b__law_tree {x qual : Str} : BindOk x qual s__law_tree ["feed", "names", "signs", "foot", "name"] := fun _ _ _ _ _ _ us hl => match us, hl with | [_, _, _, _, _], _ => rfl
/-! _law_book -/
abbrev s__law_book : Stmt := top 30
abbrev N__law_book : List Str := ["feed", "names", "signs", "menus", "keys", "trees", "k", "foot", "name", "sign"]
theorem sc__law_book : FnScope N__law_book ["feed"] (defScope s__law_book) := fnScope_by (by decide +kernel)
theorem b__law_book {x qual : Str} : BindOk x qual s__law_book ["feed"] := fun _ _ _ _ _ _ us hl => match us, hl with | [_], _ => rfl
/-! _law_sites -/
abbrev s__law_sites : Stmt := top 31
abbrev N__law_sites : List Str := ["piece", "place", "found", "k"]
theorem sc__law_sites : FnScope N__law_sites ["piece", "place"] (defScope s__law_sites) := fnScope_by (by decide +kernel)
theorem b__law_sites {x qual : Str} : BindOk x qual s__law_sites ["piece", "place"] := fun _ _ _ _ _ _ us hl => match us, hl with | [_, _], _ => rfl
/-! _law_feet -/
abbrev s__law_feet : Stmt := top 32
abbrev N__law_feet : List Str := ["piece", "found", "kid"]
theorem sc__law_feet : FnScope N__law_feet ["piece"] (defScope s__law_feet) := fnScope_by (by decide +kernel)
theorem b__law_feet {x qual : Str} : BindOk x qual s__law_feet ["piece"] := fun _ _ _ _ _ _ us hl => match us, hl with | [_], _ => rfl
/-! _law_called -/
abbrev s__law_called : Stmt := top 33
abbrev N__law_called : List Str := ["book", "kind", "name", "found", "key", "tree", "feet"]
theorem sc__law_called : FnScope N__law_called ["book", "kind", "name"] (defScope s__law_called) := fnScope_by (by decide +kernel)
theorem b__law_called {x qual : Str} : BindOk x qual s__law_called ["book", "kind", "name"] := fun _ _ _ _ _ _ us hl => match us, hl with | [_, _, _], _ => rfl
/-! _law_fill -/
abbrev s__law_fill : Stmt := top 34
abbrev N__law_fill : List Str := ["book", "sites", "left", "plans", "place", "kind", "name", "must", "found", "count", "some", "key", "rest", "plan"]
theorem sc__law_fill : FnScope N__law_fill ["book", "sites", "left", "plans"] (defScope s__law_fill) := fnScope_by (by decide +kernel)
theorem b__law_fill {x qual : Str} : BindOk x qual s__law_fill ["book", "sites", "left", "plans"] := fun _ _ _ _ _ _ us hl => match us, hl with | [_, _, _, _], _ => rfl
/-! _law_all -/
abbrev s__law_all : Stmt := top 35
abbrev N__law_all : List Str := ["book", "bound", "limit", "plans", "key", "tree", "whole", "count", "fresh", "own", "puts", "one"]
theorem sc__law_all : FnScope N__law_all ["book", "bound", "limit"] (defScope s__law_all) := fnScope_by (by decide +kernel)
theorem b__law_all {x qual : Str} : BindOk x qual s__law_all ["book", "bound", "limit"] := fun _ _ _ _ _ _ us hl => match us, hl with | [_, _, _], _ => rfl
/-! _law_line -/
abbrev s__law_line : Stmt := top 36
abbrev N__law_line : List Str := ["trees", "piece", "place", "puts", "line", "k", "outer", "at"]
theorem sc__law_line : FnScope N__law_line ["trees", "piece", "place", "puts"] (defScope s__law_line) := fnScope_by (by decide +kernel)
theorem b__law_line {x qual : Str} : BindOk x qual s__law_line ["trees", "piece", "place", "puts"] := fun _ _ _ _ _ _ us hl => match us, hl with | [_, _, _, _], _ => rfl
/-! _law_row -/
abbrev s__law_row : Stmt := top 37
abbrev N__law_row : List Str := ["trees", "plan"]
theorem sc__law_row : FnScope N__law_row ["trees", "plan"] (defScope s__law_row) := fnScope_by (by decide +kernel)
theorem b__law_row {x qual : Str} : BindOk x qual s__law_row ["trees", "plan"] := fun _ _ _ _ _ _ us hl => match us, hl with | [_, _], _ => rfl
/-! _law_wholes -/
abbrev s__law_wholes : Stmt := top 38
abbrev N__law_wholes : List Str := ["book", "plans", "bound", "trees", "found", "key", "count", "plan", "row"]
theorem sc__law_wholes : FnScope N__law_wholes ["book", "plans", "bound"] (defScope s__law_wholes) := fnScope_by (by decide +kernel)
theorem b__law_wholes {x qual : Str} : BindOk x qual s__law_wholes ["book", "plans", "bound"] := fun _ _ _ _ _ _ us hl => match us, hl with | [_, _, _], _ => rfl
/-! _law_a_row -/
abbrev s__law_a_row : Stmt := top 39
abbrev N__law_a_row : List Str := ["feed", "book", "rows", "bound", "signs", "key", "tree", "way", "row", "at", "sign", "bent", "k"]
theorem sc__law_a_row : FnScope N__law_a_row ["feed", "book", "rows", "bound"] (defScope s__law_a_row) := fnScope_by (by decide +kernel)
theorem b__law_a_row {x qual : Str} : BindOk x qual s__law_a_row ["feed", "book", "rows", "bound"] := fun _ _ _ _ _ _ us hl => match us, hl with | [_, _, _, _], _ => rfl
/-! _law_stretches -/
abbrev s__law_stretches : Stmt := top 40
abbrev N__law_stretches : List Str := ["row", "line", "size", "found", "i", "at", "left", "right", "j", "k"]
theorem sc__law_stretches : FnScope N__law_stretches ["row", "line"] (defScope s__law_stretches) := fnScope_by (by decide +kernel)
theorem b__law_stretches {x qual : Str} : BindOk x qual s__law_stretches ["row", "line"] := fun _ _ _ _ _ _ us hl => match us, hl with | [_, _], _ => rfl
/-! law -/
abbrev s_law : Stmt := top 41
abbrev N_law : List Str := ["script", "feed", "book", "trees", "plans", "bound", "row", "told", "key", "due", "count", "plan", "ends", "entry"]
theorem sc_law : FnScope N_law ["script"] (defScope s_law) := fnScope_by (by decide +kernel)
theorem b_law {x qual : Str} : BindOk x qual s_law ["script"] := fun _ _ _ _ _ _ us hl => match us, hl with | [_], _ => rfl

/-! ### defs that may be called -/
/-- the def of the module's name x is the statement st -/
def DefN (K : PySem.W.Frag) (mg : Str → Option Value) (x : Str) (st : Stmt) : Prop := ∃ f fd, FunD K x x (defArgs st) (defBody st) (defScope st) [] [] f fd ∧ mg x = some (.ref f)
def MetN (K : PySem.W.Frag) (C : Addr) (m qual : Str) (st : Stmt) : Prop := ∃ f fd, FunD K m qual (defArgs st) (defBody st) (defScope st) [] [] f fd ∧ Meth K C m f
structure Cal (P : Program) (w : World) (K : PySem.W.Frag) (mg : Str → Option Value) (base : Heap) (k : Nat) (x : Str) (sp : Sp) : Prop where
  ex : ∃ (f : Addr) (fd : FuncData) (ps : List Str), FnOk P w K mg base CX0 k f fd ps sp ∧ mg x = some (.ref f) ∧ PySem.W.keepIn K (.ref f) = true ∧ Binds K fd ps []
structure Met (P : Program) (w : World) (K : PySem.W.Frag) (mg : Str → Option Value) (base : Heap) (k : Nat) (C : Addr) (m : Str) (sp : Sp) : Prop where
  ex : ∃ (f : Addr) (fd : FuncData) (ps : List Str), Cls K C ∧ Meth K C m f ∧ FnOk P w K mg base CX0 k f fd ps sp ∧ Binds K fd ps []
structure Mak (P : Program) (w : World) (K : PySem.W.Frag) (mg : Str → Option Value) (base : Heap) (k : Nat) (x : Str) (C : Addr) (sp : Sp) : Prop where
  ex : ∃ (f : Addr) (fd : FuncData) (ps : List Str), Mk K C f ∧ FnOk P w K mg base CX0 k f fd ps sp ∧ mg x = some (.ref C) ∧ Binds K fd ps []
section
variable {P : Program} {w : World} {K : PySem.W.Frag} {mg : Str → Option Value} {base : Heap} {x qual : Str} {st : Stmt} {N ps : List Str} {k : Nat} {sp : Sp} {C : Addr}
/-- what a def's body has to show -/
abbrev BodyOk (P : Program) (w : World) (K : PySem.W.Frag) (mg : Str → Option Value) (base : Heap) (qual : Str) (st : Stmt) (N : List Str) (k : Nat) (sp : Sp) : Prop :=
  ∀ (f : Addr) (cdv : Value) (A : Around) (outer : List Env) (s : Shared) (H : Hp) (vs : List V) (Q : VK) (E : XK), Room k (A.deeper (envOfC qual (defScope st) s.heap.objs.size f cdv)) → sp vs H Q E →
      ∃ t, PSs (cxOf CX0 P w K mg base N qual (defScope st) f cdv A outer s H E).nox (defBody st) t ∧ t { nx := fun _ H' => Q .non H', rt := Q } (start N vs) H
theorem cal_of (D : DefN K mg x st) (S : FnScope N ps (defScope st)) (b : BindOk x x st ps) (len : ∀ vs H Q E, sp vs H Q E → vs.length = ps.length) (h : BodyOk P w K mg base x st N k sp) : Cal P w K mg base (k + 1) x sp := by
  obtain ⟨f, fd, F, e⟩ := D
  refine ⟨f, fd, ps, F.ok S len (fun cdv A outer s H vs Q E hr hs => ?_), e, F.kp, F.bindsN b⟩
  obtain ⟨t, p, q⟩ := h f cdv A outer s H vs Q E hr hs
  exact ⟨t, p.nox, q⟩
theorem met_of {m : Str} (c : Cls K C) (D : MetN K C m qual st) (S : FnScope N ps (defScope st)) (b : BindOk m qual st ps) (len : ∀ vs H Q E, sp vs H Q E → vs.length = ps.length) (h : BodyOk P w K mg base qual st N k sp) : Met P w K mg base (k + 1) C m sp := by
  obtain ⟨f, fd, F, e⟩ := D
  refine ⟨f, fd, ps, c, e, F.ok S len (fun cdv A outer s H vs Q E hr hs => ?_), F.bindsN b⟩
  obtain ⟨t, p, q⟩ := h f cdv A outer s H vs Q E hr hs
  exact ⟨t, p.nox, q⟩
theorem Cal.mono {j : Nat} (c : Cal P w K mg base k x sp) (h : k ≤ j) : Cal P w K mg base j x sp := by
  obtain ⟨f, fd, ps, F, r⟩ := c.ex
  exact ⟨f, fd, ps, F.mono h, r⟩
theorem Met.mono {j : Nat} {m : Str} (c : Met P w K mg base k C m sp) (h : k ≤ j) : Met P w K mg base j C m sp := by
  obtain ⟨f, fd, ps, c1, c2, F, r⟩ := c.ex
  exact ⟨f, fd, ps, c1, c2, F.mono h, r⟩
end
section
variable {X : Cx} {k j : Nat} {C : Addr} {x m : Str} {sp : Sp} {p pos apos : Pos} {e o : Expr} {es : List Expr} {ta : TE} {t : TA}
theorem pe_c (c : Cal X.prog X.w X.K X.mg X.base k x sp) (hr : Room j X.A) (hk : k ≤ j) (hg : Gl X x) (ha : PA X (e :: es) t)
    (hdb : (x == ("__debug__" : Str)) = false := by decide) (he : starEach (e :: es) X.env = (false, eval e X.env) :: starEach es X.env := by rfl) (hpl : (backTo pos (starEach es X.env)).any (·.1) = false := by rfl) :
    PE X (.Call (.Name x p) (e :: es) [] pos) (tCall sp [] E0 t) := by
  obtain ⟨f, fd, ps, F, hm, kp, b⟩ := c.ex
  exact pe_call F (hr.mono hk) hg hm kp b .nil pass0 ha hdb he hpl
theorem pe_mk (c : Mak X.prog X.w X.K X.mg X.base k x C sp) (hr : Room j X.A) (hk : k + 1 ≤ j) (hg : Gl X x) (ha : PA X (e :: es) t)
    (hdb : (x == ("__debug__" : Str)) = false := by decide) (he : starEach (e :: es) X.env = (false, eval e X.env) :: starEach es X.env := by rfl) (hpl : (backTo pos (starEach es X.env)).any (·.1) = false := by rfl) :
    PE X (.Call (.Name x p) (e :: es) [] pos) (tMake C sp [] E0 t) := by
  obtain ⟨f, fd, ps, M, F, hm, b⟩ := c.ex
  exact pe_make M F (hr.mono hk) hg hm b .nil pass0 ha hdb he hpl
theorem pe_mt {pl : Sem Bool} (c : Met X.prog X.w X.K X.mg X.base k C m sp) (hr : Room j X.A) (hk : k ≤ j) (he : PE X o ta) (ha : PA X (e :: es) t)
    (hst : starEach (e :: es) X.env = (false, eval e X.env) :: starEach es X.env := by rfl) (hpl : (backTo pos (starEach es X.env)).any (·.1) = false := by rfl)
    (ht : eval (.Call (.Attribute o m apos) (e :: es) [] pos) X.env = (do
      let ov ← eval o X.env
      standAt apos.atName
      let (f, first) ← holding [ov] (getMethod ov m pl)
      callWith pos f first (backTo pos (starEach (e :: es) X.env)) (backToKw pos (keywordEach [] X.env))) := by rfl) :
    PE X (.Call (.Attribute o m apos) (e :: es) [] pos) (tMeth C m sp [] E0 ta t) := by
  obtain ⟨f, fd, ps, hc, hm, F, b⟩ := c.ex
  exact pe_meth (pl := pl) he hc hm F (hr.mono hk) b .nil pass0 ha hst hpl ht
theorem pe_mt0 {pl : Sem Bool} (c : Met X.prog X.w X.K X.mg X.base k C m sp) (hr : Room j X.A) (hk : k ≤ j) (he : PE X o ta)
    (ht : eval (.Call (.Attribute o m apos) [] [] pos) X.env = (do
      let ov ← eval o X.env
      standAt apos.atName
      let (f, first) ← holding [ov] (getMethod ov m pl)
      callWith pos f first (backTo pos (starEach [] X.env)) (backToKw pos (keywordEach [] X.env))) := by rfl) :
    PE X (.Call (.Attribute o m apos) [] [] pos) (tMeth C m sp [] E0 ta tNil) := by
  obtain ⟨f, fd, ps, hc, hm, F, b⟩ := c.ex
  exact pe_meth0 (pl := pl) he hc hm F (hr.mono hk) b .nil pass0 ht
end
end K31

/-! what the top has left, by one run -/
namespace K31H
open PySem PySem.Spec PyProof.Rows L2 NK K31

def d_kids_of : He.DefD := ⟨("kids_of", none), "kids_of", "kids_of", defArgs s_kids_of, defBody s_kids_of, defScope s_kids_of, [], []⟩
def d_places : He.DefD := ⟨("places", none), "places", "places", defArgs s_places, defBody s_places, defScope s_places, [], []⟩
def d_piece_at : He.DefD := ⟨("piece_at", none), "piece_at", "piece_at", defArgs s_piece_at, defBody s_piece_at, defScope s_piece_at, [], []⟩
def d_feet_of : He.DefD := ⟨("feet_of", none), "feet_of", "feet_of", defArgs s_feet_of, defBody s_feet_of, defScope s_feet_of, [], []⟩
def d_is_graft : He.DefD := ⟨("is_graft", none), "is_graft", "is_graft", defArgs s_is_graft, defBody s_is_graft, defScope s_is_graft, [], []⟩
def d_name_of : He.DefD := ⟨("name_of", none), "name_of", "name_of", defArgs s_name_of, defBody s_name_of, defScope s_name_of, [], []⟩
def d_lay : He.DefD := ⟨("lay", none), "lay", "lay", defArgs s_lay, defBody s_lay, defScope s_lay, [], []⟩
def d_behind_one_another : He.DefD := ⟨("behind_one_another", none), "behind_one_another", "behind_one_another", defArgs s_behind_one_another, defBody s_behind_one_another, defScope s_behind_one_another, [], []⟩
def d_put_round : He.DefD := ⟨("put_round", none), "put_round", "put_round", defArgs s_put_round, defBody s_put_round, defScope s_put_round, [], []⟩
def d_name_at : He.DefD := ⟨("name_at", none), "name_at", "name_at", defArgs s_name_at, defBody s_name_at, defScope s_name_at, [], []⟩
def d_Ground_init : He.DefD := ⟨("Ground", some "__init__"), "__init__", "Ground.__init__", defArgs s_Ground_init, defBody s_Ground_init, defScope s_Ground_init, [], []⟩
def d_Ground_is_top : He.DefD := ⟨("Ground", some "is_top"), "is_top", "Ground.is_top", defArgs s_Ground_is_top, defBody s_Ground_is_top, defScope s_Ground_is_top, [], []⟩
def d_Ground_has_foot : He.DefD := ⟨("Ground", some "has_foot"), "has_foot", "Ground.has_foot", defArgs s_Ground_has_foot, defBody s_Ground_has_foot, defScope s_Ground_has_foot, [], []⟩
def d_Ground_leaf : He.DefD := ⟨("Ground", some "leaf"), "leaf", "Ground.leaf", defArgs s_Ground_leaf, defBody s_Ground_leaf, defScope s_Ground_leaf, [], []⟩
def d_Ground_prefixes : He.DefD := ⟨("Ground", some "prefixes"), "prefixes", "Ground.prefixes", defArgs s_Ground_prefixes, defBody s_Ground_prefixes, defScope s_Ground_prefixes, [], []⟩
def d_Ground_bare : He.DefD := ⟨("Ground", some "bare"), "bare", "Ground.bare", defArgs s_Ground_bare, defBody s_Ground_bare, defScope s_Ground_bare, [], []⟩
def d_Ground_knot : He.DefD := ⟨("Ground", some "knot"), "knot", "Ground.knot", defArgs s_Ground_knot, defBody s_Ground_knot, defScope s_Ground_knot, [], []⟩
def d_Ground_hole : He.DefD := ⟨("Ground", some "hole"), "hole", "Ground.hole", defArgs s_Ground_hole, defBody s_Ground_hole, defScope s_Ground_hole, [], []⟩
def d_Ground_concluded : He.DefD := ⟨("Ground", some "concluded"), "concluded", "Ground.concluded", defArgs s_Ground_concluded, defBody s_Ground_concluded, defScope s_Ground_concluded, [], []⟩
def d_Ground_filled : He.DefD := ⟨("Ground", some "filled"), "filled", "Ground.filled", defArgs s_Ground_filled, defBody s_Ground_filled, defScope s_Ground_filled, [], []⟩
def d_Ground_listed : He.DefD := ⟨("Ground", some "listed"), "listed", "Ground.listed", defArgs s_Ground_listed, defBody s_Ground_listed, defScope s_Ground_listed, [], []⟩
def d_Counted_unit : He.DefD := ⟨("Counted", some "unit"), "unit", "Counted.unit", defArgs s_Counted_unit, defBody s_Counted_unit, defScope s_Counted_unit, [], []⟩
def d_Counted_both : He.DefD := ⟨("Counted", some "both"), "both", "Counted.both", defArgs s_Counted_both, defBody s_Counted_both, defScope s_Counted_both, [], []⟩
def d_Counted_either : He.DefD := ⟨("Counted", some "either"), "either", "Counted.either", defArgs s_Counted_either, defBody s_Counted_either, defScope s_Counted_either, [], []⟩
def d_Counted_of_tree : He.DefD := ⟨("Counted", some "of_tree"), "of_tree", "Counted.of_tree", defArgs s_Counted_of_tree, defBody s_Counted_of_tree, defScope s_Counted_of_tree, [], []⟩
def d_entries : He.DefD := ⟨("entries", none), "entries", "entries", defArgs s_entries, defBody s_entries, defScope s_entries, [], []⟩
def d__law_mixed : He.DefD := ⟨("_law_mixed", none), "_law_mixed", "_law_mixed", defArgs s__law_mixed, defBody s__law_mixed, defScope s__law_mixed, [], []⟩
def d__law_next : He.DefD := ⟨("_law_next", none), "_law_next", "_law_next", defArgs s__law_next, defBody s__law_next, defScope s__law_next, [], []⟩
def d__law_leaf : He.DefD := ⟨("_law_leaf", none), "_law_leaf", "_law_leaf", defArgs s__law_leaf, defBody s__law_leaf, defScope s__law_leaf, [], []⟩
def d__law_takes : He.DefD := ⟨("_law_takes", none), "_law_takes", "_law_takes", defArgs s__law_takes, defBody s__law_takes, defScope s__law_takes, [], []⟩
def d__law_knot : He.DefD := ⟨("_law_knot", none), "_law_knot", "_law_knot", defArgs s__law_knot, defBody s__law_knot, defScope s__law_knot, [], []⟩
def d__law_signs : He.DefD := ⟨("_law_signs", none), "_law_signs", "_law_signs", defArgs s__law_signs, defBody s__law_signs, defScope s__law_signs, [], []⟩
def d__law_tree : He.DefD := ⟨("_law_tree", none), "_law_tree", "_law_tree", defArgs s__law_tree, defBody s__law_tree, defScope s__law_tree, [], []⟩
def d__law_book : He.DefD := ⟨("_law_book", none), "_law_book", "_law_book", defArgs s__law_book, defBody s__law_book, defScope s__law_book, [], []⟩
def d__law_sites : He.DefD := ⟨("_law_sites", none), "_law_sites", "_law_sites", defArgs s__law_sites, defBody s__law_sites, defScope s__law_sites, [], []⟩
def d__law_feet : He.DefD := ⟨("_law_feet", none), "_law_feet", "_law_feet", defArgs s__law_feet, defBody s__law_feet, defScope s__law_feet, [], []⟩
def d__law_called : He.DefD := ⟨("_law_called", none), "_law_called", "_law_called", defArgs s__law_called, defBody s__law_called, defScope s__law_called, [], []⟩
def d__law_fill : He.DefD := ⟨("_law_fill", none), "_law_fill", "_law_fill", defArgs s__law_fill, defBody s__law_fill, defScope s__law_fill, [], []⟩
def d__law_all : He.DefD := ⟨("_law_all", none), "_law_all", "_law_all", defArgs s__law_all, defBody s__law_all, defScope s__law_all, [], []⟩
def d__law_line : He.DefD := ⟨("_law_line", none), "_law_line", "_law_line", defArgs s__law_line, defBody s__law_line, defScope s__law_line, [], []⟩
def d__law_row : He.DefD := ⟨("_law_row", none), "_law_row", "_law_row", defArgs s__law_row, defBody s__law_row, defScope s__law_row, [], []⟩
def d__law_wholes : He.DefD := ⟨("_law_wholes", none), "_law_wholes", "_law_wholes", defArgs s__law_wholes, defBody s__law_wholes, defScope s__law_wholes, [], []⟩
def d__law_a_row : He.DefD := ⟨("_law_a_row", none), "_law_a_row", "_law_a_row", defArgs s__law_a_row, defBody s__law_a_row, defScope s__law_a_row, [], []⟩
def d__law_stretches : He.DefD := ⟨("_law_stretches", none), "_law_stretches", "_law_stretches", defArgs s__law_stretches, defBody s__law_stretches, defScope s__law_stretches, [], []⟩
def d_law : He.DefD := ⟨("law", none), "law", "law", defArgs s_law, defBody s_law, defScope s_law, [], []⟩
def fn : List He.DefD := [d_kids_of, d_places, d_piece_at, d_feet_of, d_is_graft, d_name_of, d_lay, d_behind_one_another, d_put_round, d_name_at, d_Ground_init, d_Ground_is_top, d_Ground_has_foot, d_Ground_leaf, d_Ground_prefixes, d_Ground_bare, d_Ground_knot, d_Ground_hole, d_Ground_concluded, d_Ground_filled, d_Ground_listed, d_Counted_unit, d_Counted_both, d_Counted_either, d_Counted_of_tree, d_entries, d__law_mixed, d__law_next, d__law_leaf, d__law_takes, d__law_knot, d__law_signs, d__law_tree, d__law_book, d__law_sites, d__law_feet, d__law_called, d__law_fill, d__law_all, d__law_line, d__law_row, d__law_wholes, d__law_a_row, d__law_stretches, d_law]
def fa : List He.Fa := [.glo "kids_of", .glo "places", .glo "piece_at", .glo "feet_of", .glo "is_graft", .glo "name_of", .glo "lay", .glo "behind_one_another", .glo "put_round", .glo "name_at", .meth "Ground" "is_top", .meth "Ground" "has_foot", .meth "Ground" "leaf", .meth "Ground" "prefixes", .meth "Ground" "bare", .meth "Ground" "knot", .meth "Ground" "hole", .meth "Ground" "concluded", .meth "Ground" "filled", .meth "Ground" "listed", .meth "Counted" "unit", .meth "Counted" "both", .meth "Counted" "either", .meth "Counted" "of_tree", .glo "entries", .glo "_law_mixed", .glo "_law_next", .glo "_law_leaf", .glo "_law_takes", .glo "_law_knot", .glo "_law_signs", .glo "_law_tree", .glo "_law_book", .glo "_law_sites", .glo "_law_feet", .glo "_law_called", .glo "_law_fill", .glo "_law_all", .glo "_law_line", .glo "_law_row", .glo "_law_wholes", .glo "_law_a_row", .glo "_law_stretches", .glo "law", .glo "Ground", .cls "Ground", .glo "Counted", .cls "Counted", .mkr "Ground", .free "len", .free "range", .free "enumerate", .free "reversed", .free "dict", .free "list", .free "tuple", .free "set", .free "sorted", .free "int", .noat "Ground" "top", .noat "Ground" "signs", .noat "Ground" "pieces", .noat "Ground" "called", .noat "Ground" "seats", .noat "Ground" "tops"]
def mkoB (K : PySem.W.Frag) (x : Str) : Bool := PySem.W.makesIn K (He.ga K x) && (He.eqO (PySem.W.findIn K (.ref (He.ga K x)) "__init__") (some (some (.builtin "object.__init__"))) && PySem.W.keepIn K (.ref (He.ga K x)))
theorem mko_ok {K : PySem.W.Frag} {x : Str} (h : mkoB K x = true) : MkO K (He.ga K x) := by
  obtain ⟨h1, h2⟩ := He.ba h
  obtain ⟨h3, h4⟩ := He.ba h2
  exact ⟨h1, He.eqO_ok h3, h4⟩
abbrev AlM : Type := He.AlD × Bool
def obsM (K : PySem.W.Frag) : AlM := (He.obsD fa fn K, mkoB K "Counted")
def valM : AlM := (He.valD fn, true)
def SaysM (K : PySem.W.Frag) : Prop := obsM K = valM
def obsMG (n : Nat) (g : Addr → Option Obj) : AlM := obsM (He.frG g (He.asD g n))
def hk : PySem.W.Hook where
  α := AlM
  obs := fun s => obsMG 5 s.heap.get?
  val := fun _ => valM
  says := fun _ h => ∃ K : PySem.W.Frag, K.In h ∧ SaysM K
  of := fun _ _ e => ⟨_, He.frG_in, e⟩
  keeps := fun _ _ _ ⟨K, hK, c⟩ k => ⟨K, PySem.W.Frag.In.keeps hK k, c⟩
abbrev R : PySem.W.OpenRow := PySem.W.OpenLaw.row PySem.Challenge.rw_graftsay_k31_whole_what_plans_cover
def ob (s : PySem.W.SharedT) : AlM := obsMG 5 (HandSHeadRun.getT s)
theorem ob_eq (s : PySem.W.SharedT) : ob s = hk.obs s.abs := by
  have e : HandSHeadRun.getT s = s.abs.heap.get? := funext (HandSHeadRun.getT_eq s)
  show obsMG 5 (HandSHeadRun.getT s) = obsMG 5 s.abs.heap.get?
  rw [e]
def names : List Str := (["_wall", "__name__", "GraftError", "NoPlace", "kids_of", "places", "piece_at", "feet_of"] : List Str) ++ (["is_graft", "name_of", "lay", "behind_one_another", "put_round", "name_at", "Ground", "Counted"] : List Str) ++ (["entries", "_law_mixed", "_law_next", "_law_leaf", "_law_takes", "_law_knot", "_law_signs", "_law_tree"] : List Str) ++ (["_law_book", "_law_sites", "_law_feet", "_law_called", "_law_fill", "_law_all", "_law_line", "_law_row"] : List Str) ++ (["_law_wholes", "_law_a_row", "_law_stretches"] : List Str)
theorem run (w : World) : HandSHeadRun.RunEq R (PySem.W.view R.prog [41]) hk ob 3000 names w := by
  intro os
  kernel_rfl

end K31H

/-! what an expression gives: data, lists of data -/
namespace K31
open PySem PySem.Spec PyProof.Rows L2 NK Evl

theorem _root_.Evl.Ex.tups {H H' : Hp} (e : Ex H H') : Tups H H' := fun a u h _ => e a u h
abbrev HR := Hp → V → Prop
class Mono (R : HR) : Prop where
  mo : ∀ {H H' v}, Ex H H' → R H v → R H' v
class MonoA (R : Hp → List V → Prop) : Prop where
  mo : ∀ {H H' v}, Ex H H' → R H v → R H' v
abbrev IsV (d : PyData) : HR := fun H v => Is H d v
abbrev IsA (ds : List PyData) : Hp → List V → Prop := fun H vs => IsAll H ds vs
def LsV (ds : List PyData) : HR := fun H v => ∃ p xs, v = .ref p ∧ H p = some (.lst xs) ∧ IsAll H ds xs
def EqV (x : V) : HR := fun _ v => v = x
inductive AllR (H : Hp) : List HR → List V → Prop
  | nil : AllR H [] []
  | cons {R : HR} {v : V} {Rs : List HR} {vs : List V} : R H v → AllR H Rs vs → AllR H (R :: Rs) (v :: vs)
def LsR (Rs : List HR) : HR := fun H v => ∃ p xs, v = .ref p ∧ H p = some (.lst xs) ∧ AllR H Rs xs
instance {d : PyData} : Mono (IsV d) := ⟨fun e h => Is.mono e.tups _ _ h⟩
instance {ds : List PyData} : MonoA (IsA ds) := ⟨fun e h => IsAll.mono e.tups _ _ h⟩
instance {ds : List PyData} : Mono (LsV ds) := ⟨fun e ⟨p, xs, h1, h2, h3⟩ => ⟨p, xs, h1, e _ _ h2, IsAll.mono e.tups _ _ h3⟩⟩
instance {x : V} : Mono (EqV x) := ⟨fun _ h => h⟩
theorem AllR.mono {H H' : Hp} (e : Ex H H') : ∀ {Rs : List HR} {vs : List V}, (∀ R ∈ Rs, Mono R) → AllR H Rs vs → AllR H' Rs vs
  | [], _, _, h => by cases h; exact .nil
  | R :: Rs, _, m, h => by
    cases h with
    | cons h1 h2 => exact .cons ((m R List.mem_cons_self).mo e h1) (AllR.mono e (fun S hS => m S (List.mem_cons_of_mem _ hS)) h2)
theorem AllR.get {H : Hp} : ∀ {Rs : List HR} {vs : List V} {i : Nat} {R : HR}, AllR H Rs vs → Rs[i]? = some R → ∃ v, vs[i]? = some v ∧ R H v
  | [], _, _, _, h, e => by simp at e
  | _ :: Rs, _, i, R, h, e => by
    cases h with
    | cons h1 h2 =>
      cases i with
      | zero =>
        simp at e
        subst e
        exact ⟨_, rfl, h1⟩
      | succ i =>
        obtain ⟨v, e1, e2⟩ := AllR.get (i := i) h2 (by simpa using e)
        exact ⟨v, by simpa using e1, e2⟩
theorem AllR.length {H : Hp} : ∀ {Rs : List HR} {vs : List V}, AllR H Rs vs → vs.length = Rs.length
  | [], _, h => by cases h; rfl
  | _ :: Rs, _, h => by
    cases h with
    | cons _ h2 => simp [AllR.length h2]
theorem allR_is {H : Hp} : ∀ {ds : List PyData} {vs : List V}, IsAll H ds vs → AllR H (ds.map IsV) vs
  | [], _, h => by cases h; exact .nil
  | d :: ds, _, h => by
    cases h with
    | cons h1 h2 => exact .cons h1 (allR_is h2)
theorem _root_.NK.Is.int_inv {H : Hp} {i : Int} {v : V} (h : Is H (.int i) v) : v = .int i := by cases h; rfl
theorem _root_.NK.Is.str_inv {H : Hp} {i : Str} {v : V} (h : Is H (.str i) v) : v = .str i := by cases h; rfl
theorem _root_.NK.Is.bl_inv {H : Hp} {i : Bool} {v : V} (h : Is H (.bool i) v) : v = .bl i := by cases h; rfl
theorem _root_.NK.Is.non_inv {H : Hp} {v : V} (h : Is H .none v) : v = .non := by cases h; rfl
theorem _root_.NK.Is.tup_inv {H : Hp} {ds : List PyData} {v : V} (h : Is H (.tuple ds) v) : ∃ a xs, v = .ref a ∧ Pt H a xs ∧ IsAll H ds xs := by
  cases h with
  | tup h1 h2 => exact ⟨_, _, rfl, h1, h2⟩
theorem _root_.NK.IsAll.take {H : Hp} : ∀ {n : Nat} {ds : List PyData} {vs : List V}, IsAll H ds vs → IsAll H (ds.take n) (vs.take n)
  | 0, _, _, _ => by simp; exact .nil
  | n + 1, [], _, h => by cases h; simp; exact .nil
  | n + 1, d :: ds, _, h => by
    cases h with
    | cons h1 h2 => exact .cons h1 (take h2)
theorem _root_.NK.IsAll.drop {H : Hp} : ∀ {n : Nat} {ds : List PyData} {vs : List V}, IsAll H ds vs → IsAll H (ds.drop n) (vs.drop n)
  | 0, _, _, h => by simpa using h
  | n + 1, [], _, h => by cases h; simp; exact .nil
  | n + 1, d :: ds, _, h => by
    cases h with
    | cons h1 h2 => simpa using drop h2
/-- a cut of data -/
def cutD (xs : List PyData) (lo hi : Option Int) : List PyData := (xs.drop (HT.sIx xs.length 0 lo)).take (HT.sIx xs.length xs.length hi - HT.sIx xs.length 0 lo)
theorem _root_.NK.IsAll.cut {H : Hp} {ds : List PyData} {vs : List V} {lo hi : Option Int} (h : IsAll H ds vs) : IsAll H (cutD ds lo hi) (cutV vs lo hi) := by
  unfold cutD cutV
  rw [h.length]
  exact (h.drop).take
theorem atI_is {H : Hp} {ds : List PyData} {vs : List V} {i : Int} {d : PyData} (h : IsAll H ds vs) (e : atI ds i = some d) : ∃ v, atI vs i = some v ∧ Is H d v := by
  unfold atI at e ⊢
  rw [h.length]
  cases q : ixN ds.length i with
  | none => rw [q] at e; cases e
  | some j =>
    rw [q] at e
    exact h.get e
theorem atI_R {H : Hp} {Rs : List HR} {vs : List V} {i : Int} {R : HR} (h : AllR H Rs vs) (e : atI Rs i = some R) : ∃ v, atI vs i = some v ∧ R H v := by
  unfold atI at e ⊢
  rw [h.length]
  cases q : ixN Rs.length i with
  | none => rw [q] at e; cases e
  | some j =>
    rw [q] at e
    exact h.get e

/-! ### what gives what -/
def Gv (te : TE) (σ : L2.St) (H : Hp) (R : HR) : Prop := ∀ H1, Ex H H1 → ∀ Q : VK, (∀ v H2, Ex H1 H2 → R H2 v → Q v H2) → te σ H1 Q
def GvA (ta : TA) (σ : L2.St) (H : Hp) (R : Hp → List V → Prop) : Prop := ∀ H1, Ex H H1 → ∀ Q : List V → Hp → Prop, (∀ v H2, Ex H1 H2 → R H2 v → Q v H2) → ta σ H1 Q
abbrev GvO (to : TO) (σ : L2.St) (H : Hp) (o : Option Int) : Prop := EvO to σ H o
variable {K : PySem.W.Frag} {σ : L2.St} {H H' : Hp} {ta tb tc te : TE} {t u : TT} {R : HR} {D : Ends} {tu tw : TS}
theorem Gv.mono (e : Ex H H') (h : Gv te σ H R) : Gv te σ H' R := fun H1 a Q q => h H1 (e.trans a) Q q
theorem GvA.mono {ta : TA} {R : Hp → List V → Prop} (e : Ex H H') (h : GvA ta σ H R) : GvA ta σ H' R := fun H1 a Q q => h H1 (e.trans a) Q q
theorem gv_var {i : Nat} {v : V} [m : Mono R] (h : σ[i]? = some (some v)) (r : R H v) : Gv (tVar i) σ H R := fun H1 e Q q => ⟨v, h, q v H1 (Ex.refl _) (m.mo e r)⟩
theorem gv_ref {i : Nat} {v : V} (h : σ[i]? = some (some v)) : Gv (tVar i) σ H (EqV v) := fun H1 e Q q => ⟨v, h, q v H1 (Ex.refl _) rfl⟩
theorem gv_int {i : Int} : Gv (tC (.int i)) σ H (IsV (.int i)) := fun H1 _ Q q => q _ H1 (Ex.refl _) (.int i)
theorem gv_str {i : Str} : Gv (tC (.str i)) σ H (IsV (.str i)) := fun H1 _ Q q => q _ H1 (Ex.refl _) (.str i)
theorem gv_bl {i : Bool} : Gv (tC (.bl i)) σ H (IsV (.bool i)) := fun H1 _ Q q => q _ H1 (Ex.refl _) (.bl i)
theorem gv_non : Gv (tC .non) σ H (IsV .none) := fun H1 _ Q q => q _ H1 (Ex.refl _) .non
theorem gv_neg {i : Int} (h : Gv ta σ H (IsV (.int i))) : Gv (tUn (rU fun i => .int (-i)) ta) σ H (IsV (.int (-i))) := fun H1 e Q q =>
  h H1 e _ fun v H2 e2 r => ⟨i, r.int_inv, q _ H2 e2 (.int _)⟩
theorem gv_imp {R' : HR} (h : Gv te σ H R) (i : ∀ H1 v, Ex H H1 → R H1 v → R' H1 v) : Gv te σ H R' := fun H1 e Q q => h H1 e Q fun v H2 e2 r => q v H2 e2 (i H2 v (e.trans e2) r)
theorem gv_is {d d' : PyData} (h : Gv te σ H (IsV d)) (e : d = d') : Gv te σ H (IsV d') := by rw [← e]; exact h
/-! arguments -/
theorem gi_nil : GvA tNil σ H (IsA []) := fun H1 _ Q q => q _ H1 (Ex.refl _) .nil
theorem gi_cons {tr : TA} {d : PyData} {ds : List PyData} (h : Gv ta σ H (IsV d)) (hr : GvA tr σ H (IsA ds)) : GvA (tCons ta tr) σ H (IsA (d :: ds)) := fun H1 e Q q =>
  h H1 e _ fun v H2 e2 r => hr H2 (e.trans e2) _ fun vs H3 e3 rs => q _ H3 (e2.trans e3) (.cons (Is.mono e3.tups _ _ r) rs)
def NilR : Hp → List V → Prop := fun _ vs => vs = []
def ConsR (R : HR) (RA : Hp → List V → Prop) : Hp → List V → Prop := fun H vs => ∃ v us, vs = v :: us ∧ R H v ∧ RA H us
theorem ga_nil : GvA tNil σ H NilR := fun H1 _ Q q => q _ H1 (Ex.refl _) rfl
theorem ga_cons {tr : TA} {RA : Hp → List V → Prop} [m : Mono R] (h : Gv ta σ H R) (hr : GvA tr σ H RA) : GvA (tCons ta tr) σ H (ConsR R RA) := fun H1 e Q q =>
  h H1 e _ fun v H2 e2 r => hr H2 (e.trans e2) _ fun vs H3 e3 rs => q _ H3 (e2.trans e3) ⟨v, vs, rfl, m.mo e3 r, rs⟩
theorem gr_nil : GvA tNil σ H (fun H vs => AllR H [] vs) := fun H1 _ Q q => q _ H1 (Ex.refl _) .nil
theorem gr_cons {tr : TA} {Rs : List HR} [m : Mono R] (h : Gv ta σ H R) (hr : GvA tr σ H (fun H vs => AllR H Rs vs)) : GvA (tCons ta tr) σ H (fun H vs => AllR H (R :: Rs) vs) := fun H1 e Q q =>
  h H1 e _ fun v H2 e2 r => hr H2 (e.trans e2) _ fun vs H3 e3 rs => q _ H3 (e2.trans e3) (.cons (m.mo e3 r) rs)
/-! displays -/
theorem gv_tup {ta : TA} {ds : List PyData} (h : GvA ta σ H (IsA ds)) (hl : ds.length ≤ sizeLine := by show _ ≤ 16777216; simp) : Gv (tTupP ta) σ H (IsV (.tuple ds)) := fun H1 e Q q =>
  h H1 e _ fun vs H2 e2 r => ⟨by rw [r.length]; exact hl, fun p u np pt => q _ _ (e2.trans (Ex.new np)) (.tup (PtO.mk pt) (IsAll.mono (Tups.new np) _ _ r))⟩
theorem gv_lst {ta : TA} {ds : List PyData} (h : GvA ta σ H (IsA ds)) (hl : ds.length ≤ sizeLine := by show _ ≤ 16777216; simp) : Gv (tLst ta) σ H (LsV ds) := fun H1 e Q q =>
  h H1 e _ fun vs H2 e2 r => ⟨by rw [r.length]; exact hl, fun p np => q _ _ (e2.trans (Ex.new np)) ⟨p, vs, rfl, upd_same, IsAll.mono (Tups.new np) _ _ r⟩⟩
theorem gv_lstR {ta : TA} {Rs : List HR} (h : GvA ta σ H (fun H vs => AllR H Rs vs)) (m : ∀ R ∈ Rs, Mono R) (hl : Rs.length ≤ sizeLine := by show _ ≤ 16777216; simp) : Gv (tLst ta) σ H (LsR Rs) := fun H1 e Q q =>
  h H1 e _ fun vs H2 e2 r => ⟨by rw [r.length]; exact hl, fun p np => q _ _ (e2.trans (Ex.new np)) ⟨p, vs, rfl, upd_same, AllR.mono (Ex.new np) m r⟩⟩
/-! subscripts, + and slices -/
theorem gv_ixT {ds : List PyData} {i : Int} {d : PyData} (h : Gv ta σ H (IsV (.tuple ds))) (hi : Gv tb σ H (IsV (.int i))) (e : atI ds i = some d) : Gv (tOp (rIxT K) ta tb) σ H (IsV d) := fun H1 e1 Q q =>
  h H1 e1 _ fun v H2 e2 r => hi H2 (e1.trans e2) _ fun y H3 e3 ry => by
    obtain ⟨a, xs, rfl, pt, al⟩ := r.tup_inv
    have al' := IsAll.mono e3.tups _ _ al
    obtain ⟨z, ez, iz⟩ := atI_is al' e
    exact ⟨a, xs, i, z, rfl, ry.int_inv, (pt.mono e3.tups).sq, ez, q z H3 (e2.trans e3) iz⟩
theorem gv_ixL {ds : List PyData} {i : Int} {d : PyData} (h : Gv ta σ H (LsV ds)) (hi : Gv tb σ H (IsV (.int i))) (e : atI ds i = some d) : Gv (tOp (rIxL K) ta tb) σ H (IsV d) := fun H1 e1 Q q =>
  h H1 e1 _ fun v H2 e2 r => hi H2 (e1.trans e2) _ fun y H3 e3 ry => by
    obtain ⟨a, xs, rfl, pt, al⟩ := r
    have al' := IsAll.mono e3.tups _ _ al
    obtain ⟨z, ez, iz⟩ := atI_is al' e
    exact ⟨a, xs, i, z, rfl, ry.int_inv, sq_of (e3 _ _ pt), ez, q z H3 (e2.trans e3) iz⟩
theorem gv_ixR {Rs : List HR} {i : Int} {R : HR} (h : Gv ta σ H (LsR Rs)) (m : ∀ R ∈ Rs, Mono R) (hi : Gv tb σ H (IsV (.int i))) (e : atI Rs i = some R) : Gv (tOp (rIxL K) ta tb) σ H R := fun H1 e1 Q q =>
  h H1 e1 _ fun v H2 e2 r => hi H2 (e1.trans e2) _ fun y H3 e3 ry => by
    obtain ⟨a, xs, rfl, pt, al⟩ := r
    have al' := AllR.mono e3 m al
    obtain ⟨z, ez, iz⟩ := atI_R al' e
    exact ⟨a, xs, i, z, rfl, ry.int_inv, sq_of (e3 _ _ pt), ez, q z H3 (e2.trans e3) iz⟩
theorem gv_catP {ds es : List PyData} (h : Gv ta σ H (IsV (.tuple ds))) (hi : Gv tb σ H (IsV (.tuple es))) (hz : ds.length + es.length ≤ sizeLine) (rc : ∀ {x y H1} {Q : VK}, (∃ a b xs ys, x = .ref a ∧ y = .ref b ∧ Pt H1 a xs ∧ Pt H1 b ys ∧ xs.length + ys.length ≤ sizeLine ∧ ∀ v H2, Ex H1 H2 → (∃ p, v = .ref p ∧ Pt H2 p (xs ++ ys)) → Q v H2) → rCatP K x y H1 Q) : Gv (tOp (rCatP K) ta tb) σ H (IsV (.tuple (ds ++ es))) := fun H1 e1 Q q =>
  h H1 e1 _ fun v H2 e2 r => hi H2 (e1.trans e2) _ fun y H3 e3 ry => by
    obtain ⟨a, xs, rfl, pt, al⟩ := r.tup_inv
    obtain ⟨b, ys, rfl, pt', al'⟩ := ry.tup_inv
    have al2 := IsAll.mono e3.tups _ _ al
    refine rc ⟨a, b, xs, ys, rfl, rfl, pt.mono e3.tups, pt', by rw [al.length, al'.length]; exact hz, fun v H4 e4 ⟨p, ev, pp⟩ => ?_⟩
    subst ev
    exact q _ _ ((e2.trans e3).trans e4) (.tup pp (IsAll.mono e4.tups _ _ (al2.append al')))
theorem gv_catL {ds es : List PyData} (h : Gv ta σ H (LsV ds)) (hi : Gv tb σ H (LsV es)) (hz : ds.length + es.length ≤ sizeLine) : Gv (tOp rCat ta tb) σ H (LsV (ds ++ es)) := fun H1 e1 Q q =>
  h H1 e1 _ fun v H2 e2 r => hi H2 (e1.trans e2) _ fun y H3 e3 ry => by
    obtain ⟨a, xs, rfl, pt, al⟩ := r
    obtain ⟨b, ys, rfl, pt', al'⟩ := ry
    have al2 := IsAll.mono e3.tups _ _ al
    refine ⟨a, b, xs, ys, rfl, rfl, e3 _ _ pt, pt', by rw [al.length, al'.length]; exact hz, fun p np => q _ _ ((e2.trans e3).trans (Ex.new np)) ⟨p, _, rfl, upd_same, ?_⟩⟩
    exact IsAll.mono (Tups.new np) _ _ (al2.append al')
theorem go_none : GvO tNoPart σ H none := eo_none
theorem go_some {i : Int} (h : Gv te σ H (IsV (.int i))) : GvO (tPart te) σ H (some i) := fun H1 e Q q => h H1 e _ fun v H2 e2 r => ⟨i, r.int_inv, q H2 e2⟩
theorem gv_slL {tl th : TO} {lo hi : Option Int} {ds : List PyData} (h : Gv te σ H (LsV ds)) (h1 : GvO tl σ H lo) (h2 : GvO th σ H hi) : Gv (tSl (rSlL K) te tl th) σ H (LsV (cutD ds lo hi)) := fun H1 e1 Q q =>
  h H1 e1 _ fun v H2 e2 r => h1 H2 (e1.trans e2) _ fun H3 e3 => h2 H3 ((e1.trans e2).trans e3) _ fun H4 e4 => by
    obtain ⟨a, xs, rfl, pt, al⟩ := r
    have e5 := e3.trans e4
    have al' := IsAll.mono e5.tups _ _ al
    exact ⟨a, xs, rfl, sq_of (e5 _ _ pt), fun p np => q _ _ ((e2.trans e5).trans (Ex.new np)) ⟨p, _, rfl, upd_same, IsAll.mono (Tups.new np) _ _ al'.cut⟩⟩
theorem cutV_whole {xs : List V} {lo hi : Option Int} (h : HT.sIx xs.length 0 lo = 0 ∧ HT.sIx xs.length xs.length hi = xs.length) : cutV xs lo hi = xs := by
  unfold cutV
  rw [h.1, h.2]
  simp
theorem gv_slT {tl th : TO} {lo hi : Option Int} {ds : List PyData} (h : Gv te σ H (IsV (.tuple ds))) (h1 : GvO tl σ H lo) (h2 : GvO th σ H hi) : Gv (tSl (rSlP K) te tl th) σ H (IsV (.tuple (cutD ds lo hi))) := fun H1 e1 Q q =>
  h H1 e1 _ fun v H2 e2 r => h1 H2 (e1.trans e2) _ fun H3 e3 => h2 H3 ((e1.trans e2).trans e3) _ fun H4 e4 => by
    obtain ⟨a, xs, rfl, pt, al⟩ := r.tup_inv
    have e5 := e3.trans e4
    have al' := IsAll.mono e5.tups _ _ al
    have pt' := pt.mono e5.tups
    refine ⟨a, xs, rfl, pt'.sq, fun hw => ?_, fun _ p u np pu => ?_⟩
    · have c := al'.cut (lo := lo) (hi := hi)
      rw [cutV_whole hw] at c
      exact q _ _ (e2.trans e5) (.tup pt' c)
    · exact q _ _ ((e2.trans e5).trans (Ex.new np)) (.tup (PtO.mk pu) (IsAll.mono (Tups.new np) _ _ al'.cut))
/-! operators -/
theorem gv_op0 {g : Int → Int → V} {i j : Int} {d : PyData} (h : Gv ta σ H (IsV (.int i))) (hi : Gv tb σ H (IsV (.int j))) (e : ∀ H, Is H d (g i j)) : Gv (tOp (rI0 g) ta tb) σ H (IsV d) := fun H1 e1 Q q =>
  h H1 e1 _ fun v H2 e2 r => hi H2 (e1.trans e2) _ fun y H3 e3 ry => ⟨i, j, r.int_inv, ry.int_inv, q _ _ (e2.trans e3) (e _)⟩
theorem gv_op {C : Int → Int → Prop} {g : Int → Int → V} {i j : Int} {d : PyData} (h : Gv ta σ H (IsV (.int i))) (hi : Gv tb σ H (IsV (.int j))) (c : C i j) (e : ∀ H, Is H d (g i j)) : Gv (tOp (rI C g) ta tb) σ H (IsV d) := fun H1 e1 Q q =>
  h H1 e1 _ fun v H2 e2 r => hi H2 (e1.trans e2) _ fun y H3 e3 ry => ⟨i, j, r.int_inv, ry.int_inv, c, q _ _ (e2.trans e3) (e _)⟩
theorem gv_add {i j : Int} (h : Gv ta σ H (IsV (.int i))) (hi : Gv tb σ H (IsV (.int j))) : Gv (tOp (rI0 fun i j => .int (i + j)) ta tb) σ H (IsV (.int (i + j))) := gv_op0 h hi fun _ => .int _
theorem gv_sub {i j : Int} (h : Gv ta σ H (IsV (.int i))) (hi : Gv tb σ H (IsV (.int j))) : Gv (tOp (rI0 fun i j => .int (i - j)) ta tb) σ H (IsV (.int (i - j))) := gv_op0 h hi fun _ => .int _
theorem gv_lt {i j : Int} (h : Gv ta σ H (IsV (.int i))) (hi : Gv tb σ H (IsV (.int j))) : Gv (tOp (rI0 fun i j => .bl (decide (i < j))) ta tb) σ H (IsV (.bool (decide (i < j)))) := gv_op0 h hi fun _ => .bl _
theorem gv_gt {i j : Int} (h : Gv ta σ H (IsV (.int i))) (hi : Gv tb σ H (IsV (.int j))) : Gv (tOp (rI0 fun i j => .bl (decide (j < i))) ta tb) σ H (IsV (.bool (decide (j < i)))) := gv_op0 h hi fun _ => .bl _
theorem gv_le {i j : Int} (h : Gv ta σ H (IsV (.int i))) (hi : Gv tb σ H (IsV (.int j))) : Gv (tOp (rI0 fun i j => .bl (decide (i ≤ j))) ta tb) σ H (IsV (.bool (decide (i ≤ j)))) := gv_op0 h hi fun _ => .bl _
theorem gv_ge {i j : Int} (h : Gv ta σ H (IsV (.int i))) (hi : Gv tb σ H (IsV (.int j))) : Gv (tOp (rI0 fun i j => .bl (decide (j ≤ i))) ta tb) σ H (IsV (.bool (decide (j ≤ i)))) := gv_op0 h hi fun _ => .bl _
theorem gv_mul {i j : Int} (h : Gv ta σ H (IsV (.int i))) (hi : Gv tb σ H (IsV (.int j))) (c : CMul i j) : Gv (tOp (rI CMul fun i j => .int (i * j)) ta tb) σ H (IsV (.int (i * j))) := gv_op h hi c fun _ => .int _
theorem gv_mulW {i j : Int} (h : Gv ta σ H (IsV (.int i))) (hi : Gv tb σ H (IsV (.int j))) (c : CMulW i j) : Gv (tOp (rI CMulW fun i j => .int (i * j)) ta tb) σ H (IsV (.int (i * j))) := gv_op h hi c fun _ => .int _
theorem gv_mod {i j : Int} (h : Gv ta σ H (IsV (.int i))) (hi : Gv tb σ H (IsV (.int j))) (c : 0 < j) : Gv (tOp (rI (fun _ j => 0 < j) fun i j => .int (i % j)) ta tb) σ H (IsV (.int (i % j))) := gv_op h hi c fun _ => .int _
theorem gv_fdiv {i j : Int} (h : Gv ta σ H (IsV (.int i))) (hi : Gv tb σ H (IsV (.int j))) (c : CDiv i j) : Gv (tOp (rI CDiv fun i j => .int (i / j)) ta tb) σ H (IsV (.int (i / j))) := gv_op h hi c fun _ => .int _
theorem dec_str (a b : Str) : decide (V.str a = V.str b) = decide (a = b) := by
  by_cases h : a = b
  · subst h; simp
  · simp [h]
theorem dec_int (a b : Int) : decide (V.int a = V.int b) = decide (a = b) := by
  by_cases h : a = b
  · subst h; simp
  · simp [h]
theorem gv_eqS {a b : Str} (h : Gv ta σ H (IsV (.str a))) (hi : Gv tb σ H (IsV (.str b))) : Gv (tOp rEq ta tb) σ H (IsV (.bool (decide (a = b)))) := fun H1 e1 Q q =>
  h H1 e1 _ fun v H2 e2 r => hi H2 (e1.trans e2) _ fun y H3 e3 ry => by
    rw [r.str_inv, ry.str_inv]
    exact ⟨rfl, q _ _ (e2.trans e3) (by rw [dec_str]; exact .bl _)⟩
theorem gv_neS {a b : Str} (h : Gv ta σ H (IsV (.str a))) (hi : Gv tb σ H (IsV (.str b))) : Gv (tOp rNe ta tb) σ H (IsV (.bool (!decide (a = b)))) := fun H1 e1 Q q =>
  h H1 e1 _ fun v H2 e2 r => hi H2 (e1.trans e2) _ fun y H3 e3 ry => by
    rw [r.str_inv, ry.str_inv]
    exact ⟨rfl, q _ _ (e2.trans e3) (by rw [dec_str]; exact .bl _)⟩
theorem gv_eqI {a b : Int} (h : Gv ta σ H (IsV (.int a))) (hi : Gv tb σ H (IsV (.int b))) : Gv (tOp rEq ta tb) σ H (IsV (.bool (decide (a = b)))) := fun H1 e1 Q q =>
  h H1 e1 _ fun v H2 e2 r => hi H2 (e1.trans e2) _ fun y H3 e3 ry => by
    rw [r.int_inv, ry.int_inv]
    exact ⟨rfl, q _ _ (e2.trans e3) (by rw [dec_int]; exact .bl _)⟩
theorem LsV.dp {H : Hp} {ds : List PyData} {v : V} (h : LsV ds H v) : Dp K H v (.list ds) := by
  obtain ⟨p, xs, rfl, hp, al⟩ := h
  exact .lst (sq_of hp) (IsAll.dp _ _ al)
/-- == of data -/
theorem gv_eqP {RA RB : HR} {d e : PyData} [mA : Mono RA] (h : Gv ta σ H RA) (hi : Gv tb σ H RB) (da : ∀ H v, RA H v → Dp K H v d) (db : ∀ H v, RB H v → Dp K H v e) (pd : d.plain = true) (pe : e.plain = true) (dd : d.depth ≤ 40) :
    Gv (tOp (rEqP K) ta tb) σ H (IsV (.bool (PyData.eqv d e))) := fun H1 e1 Q q =>
  h H1 e1 _ fun v H2 e2 r => hi H2 (e1.trans e2) _ fun y H3 e3 ry => ⟨d, e, da _ _ (mA.mo e3 r), db _ _ ry, pd, pe, dd, q _ _ (e2.trans e3) (.bl _)⟩
theorem gv_neP {RA RB : HR} {d e : PyData} [mA : Mono RA] (h : Gv ta σ H RA) (hi : Gv tb σ H RB) (da : ∀ H v, RA H v → Dp K H v d) (db : ∀ H v, RB H v → Dp K H v e) (pd : d.plain = true) (pe : e.plain = true) (dd : d.depth ≤ 40) :
    Gv (tOp (rNeP K) ta tb) σ H (IsV (.bool (!PyData.eqv d e))) := fun H1 e1 Q q =>
  h H1 e1 _ fun v H2 e2 r => hi H2 (e1.trans e2) _ fun y H3 e3 ry => ⟨d, e, da _ _ (mA.mo e3 r), db _ _ ry, pd, pe, dd, q _ _ (e2.trans e3) (.bl _)⟩
/-! built-ins, calls -/
def rLn (K : PySem.W.Frag) : List V → Hp → VK → Prop := fun xs H Q => ∃ p ys, xs = [.ref p] ∧ (SqL K H p ys ∨ SqT K H p ys) ∧ Q (.int ys.length) H
theorem cr_len {X : Cx} : CallR X (.builtin "len") (rLn X.K) := call_len_seq
theorem gv_lenL {ds : List PyData} (h : Gv ta σ H (LsV ds)) : Gv (tCB (rLn K) (tCons ta tNil)) σ H (IsV (.int (Int.ofNat ds.length))) := fun H1 e1 Q q =>
  h H1 e1 _ fun v H2 e2 r => by
    obtain ⟨a, xs, rfl, pt, al⟩ := r
    exact ⟨a, xs, rfl, .inl (sq_of pt), q _ _ e2 (by rw [al.length]; exact .int _)⟩
theorem gv_lenR {Rs : List HR} (h : Gv ta σ H (LsR Rs)) : Gv (tCB (rLn K) (tCons ta tNil)) σ H (IsV (.int (Int.ofNat Rs.length))) := fun H1 e1 Q q =>
  h H1 e1 _ fun v H2 e2 r => by
    obtain ⟨a, xs, rfl, pt, al⟩ := r
    exact ⟨a, xs, rfl, .inl (sq_of pt), q _ _ e2 (by rw [al.length]; exact .int _)⟩
theorem gv_lenT {ds : List PyData} (h : Gv ta σ H (IsV (.tuple ds))) : Gv (tCB (rLn K) (tCons ta tNil)) σ H (IsV (.int (Int.ofNat ds.length))) := fun H1 e1 Q q =>
  h H1 e1 _ fun v H2 e2 r => by
    obtain ⟨a, xs, rfl, pt, al⟩ := r.tup_inv
    exact ⟨a, xs, rfl, .inr pt.sq, q _ _ e2 (by rw [al.length]; exact .int _)⟩
def rIntB : List V → Hp → VK → Prop := fun xs H Q => (∃ i, xs = [.int i] ∧ Q (.int i) H) ∨ ∃ k, xs = [.bl k] ∧ Q (.int (if k then 1 else 0)) H
theorem cr_int {X : Cx} : CallR X (.type "int") rIntB := call_int1
theorem gv_intB {b : Bool} (h : Gv ta σ H (IsV (.bool b))) : Gv (tCB rIntB (tCons ta tNil)) σ H (IsV (.int (if b then 1 else 0))) := fun H1 e1 Q q =>
  h H1 e1 _ fun v H2 e2 r => .inr ⟨b, by rw [r.bl_inv], q _ _ e2 (.int _)⟩
/-- a pure promise: from arguments and heap to what comes back -/
def SpR (A : List V → Hp → HR → Prop) : Sp := fun vs H Q _ => ∃ R, A vs H R ∧ ∀ v H', Ex H H' → R H' v → Q v H'
theorem gv_call {A : List V → Hp → HR → Prop} {ta : TA} {RA : Hp → List V → Prop} {E : XK} (h : GvA ta σ H RA) (hs : ∀ vs H1, Ex H H1 → RA H1 vs → A vs H1 R) : Gv (tCall (SpR A) [] E ta) σ H R := fun H1 e Q q =>
  h H1 e _ fun vs H2 e2 r => by
    rw [List.append_nil]
    exact ⟨R, hs vs H2 (e.trans e2) r, fun v H' e3 r3 => q v H' (e2.trans e3) r3⟩
/-! tests -/
theorem gt_test {b : Bool} (h : Gv te σ H (IsV (.bool b))) : EvT (tTest te) σ H b := fun H1 e _ q => h H1 e _ fun v H2 e2 r => ⟨b, r.bl_inv, q H2 e2⟩
theorem gt_B {b : Bool} (h : Gv te σ H (IsV (.bool b))) : EvT (tB te) σ H b := fun H1 e _ q => h H1 e _ fun v H2 e2 r => ⟨b, r.bl_inv, q H2 e2⟩
theorem gv_isN {x : V} (h : Gv te σ H (EqV x)) : Gv (tIsN te) σ H (IsV (.bool (decide (x = .non)))) := fun H1 e _ q => h H1 e _ fun v H2 e2 r => by
  rw [show v = x from r]
  exact q _ _ e2 (.bl _)
def isN : PyData → Bool
  | .none => true
  | _ => false
theorem is_non {H : Hp} {d : PyData} {v : V} (h : Is H d v) : decide (v = .non) = isN d := by
  cases h <;> simp [isN]
theorem gv_isND {d : PyData} (h : Gv te σ H (IsV d)) : Gv (tIsN te) σ H (IsV (.bool (isN d))) := fun H1 e _ q => h H1 e _ fun v H2 e2 r => by
  rw [is_non r]
  exact q _ _ e2 (.bl _)
theorem gv_notND {d : PyData} (h : Gv te σ H (IsV d)) : Gv (tNotN te) σ H (IsV (.bool (!(isN d)))) := fun H1 e _ q => h H1 e _ fun v H2 e2 r => by
  rw [is_non r]
  exact q _ _ e2 (.bl _)
theorem gv_andV {a b : Bool} (h1 : Gv ta σ H (IsV (.bool a))) (h2 : a = true → Gv tb σ H (IsV (.bool b))) : Gv (tAndV ta tb) σ H (IsV (.bool (a && b))) := fun H1 e Q q => h1 H1 e _ fun v H2 e2 r => ⟨a, r.bl_inv, by
  cases a with
  | true =>
    rw [if_pos rfl]
    exact h2 rfl H2 (e.trans e2) _ fun v H3 e3 r3 => q v H3 (e2.trans e3) r3
  | false =>
    rw [if_neg Bool.false_ne_true]
    exact q _ _ e2 (.bl _)⟩
theorem gv_notV {a : Bool} (h1 : Gv ta σ H (IsV (.bool a))) : Gv (tNotV ta) σ H (IsV (.bool (!a))) := fun H1 e Q q => h1 H1 e _ fun v H2 e2 r => ⟨a, r.bl_inv, q _ _ e2 (.bl _)⟩
theorem gv_if {b : Bool} (h : EvT t σ H b) (h1 : b = true → Gv ta σ H R) (h2 : b = false → Gv tb σ H R) : Gv (tIf t ta tb) σ H R := fun H1 e Q q => h H1 e _ fun H2 e2 => by
  cases b with
  | true =>
    rw [if_pos rfl]
    exact h1 rfl H2 (e.trans e2) _ fun v H3 e3 r3 => q v H3 (e2.trans e3) r3
  | false =>
    rw [if_neg Bool.false_ne_true]
    exact h2 rfl H2 (e.trans e2) _ fun v H3 e3 r3 => q v H3 (e2.trans e3) r3
/-! statements -/
theorem st_asg {i : Nat} (h : Gv te σ H R) (k : ∀ v H1, Ex H H1 → R H1 v → D.nx (σ.set i (some v)) H1) : tAsg te (gName i) D σ H := h H (Ex.refl _) _ fun v H1 e r => k v H1 e r
theorem st_ret (h : Gv te σ H R) (k : ∀ v H1, Ex H H1 → R H1 v → D.rt v H1) : tRet te D σ H := h H (Ex.refl _) _ k
theorem st_if {b : Bool} (h : EvT t σ H b) (h1 : b = true → ∀ H1, Ex H H1 → tu D σ H1) (h2 : b = false → ∀ H1, Ex H H1 → tw D σ H1) : tIfS t tu tw D σ H := s_if h h1 h2
/-- l.append(e) -/
theorem st_app {l : Addr} {xs : List V} (hl : H l = some (.lst xs)) (ha : Ev ta σ H (.ref l)) (h : Gv te σ H R) (hz : xs.length < sizeLine) (k : ∀ v H1, Ex H H1 → R H1 v → D.nx σ (upd H1 l (.lst (xs ++ [v])))) :
    tDrop (tBM K "list" rAppend ta (tCons te tNil)) D σ H := ha H (Ex.refl _) _ fun H1 e => ⟨Or.inl ⟨rfl, xs, sq_of (e _ _ hl)⟩, h H1 e _ fun v H2 e2 r => ⟨l, xs, v, rfl, rfl, e2 _ _ (e _ _ hl), hz, k v H2 (e.trans e2) r⟩⟩
end K31

/-! loops by what was walked -/
namespace K31
open PySem PySem.Spec PyProof.Rows L2 NK Evl

theorem rcat {K : PySem.W.Frag} {x y : V} {H1 : Hp} {Q : VK} {a b : Addr} {xs ys : List V} (ex : x = .ref a) (ey : y = .ref b) (pa : Pt H1 a xs) (pb : Pt H1 b ys) (hz : xs.length + ys.length ≤ sizeLine) (q : ∀ v H2, Ex H1 H2 → (∃ p, v = .ref p ∧ Pt H2 p (xs ++ ys)) → Q v H2) : rCatP K x y H1 Q := by
  refine ⟨a, b, xs, ys, ex, ey, pa.sq, pb.sq, hz, fun e => ?_, fun _ e => ?_, fun _ _ p u np pu => ?_⟩
  · subst e
    exact q _ _ (Ex.refl _) ⟨b, rfl, pb⟩
  · subst e
    exact q _ _ (Ex.refl _) ⟨a, rfl, by rw [List.append_nil]; exact pa⟩
  · exact q _ _ (Ex.new np) ⟨p, rfl, PtO.mk pu⟩
/-- all but the objects ms stays -/
def Mod (ms : List Addr) (H H' : Hp) : Prop := (∀ a u, H a = some u → a ∉ ms → H' a = some u) ∧ Tups H H'
theorem Mod.refl (ms : List Addr) (H : Hp) : Mod ms H H := ⟨fun _ _ h _ => h, Tups.refl H⟩
theorem Mod.trans {ms : List Addr} {H H1 H2 : Hp} (a : Mod ms H H1) (b : Mod ms H1 H2) : Mod ms H H2 := ⟨fun x u h n => b.1 x u (a.1 x u h n) n, a.2.trans b.2⟩
theorem _root_.Evl.Ex.mod {ms : List Addr} {H H' : Hp} (e : Ex H H') : Mod ms H H' := ⟨fun a u h _ => e a u h, e.tups⟩
theorem Mod.ex {H H' : Hp} (m : Mod [] H H') : Ex H H' := fun a u h => m.1 a u h (by simp)
theorem Mod.wide {ms ns : List Addr} {H H' : Hp} (m : Mod ms H H') (h : ∀ a ∈ ms, a ∈ ns) : Mod ns H H' := ⟨fun a u e n => m.1 a u e fun q => n (h a q), m.2⟩
theorem Mod.updM {ms : List Addr} {H H' : Hp} {a : Addr} {o : HO} (m : Mod ms H H') (h : a ∈ ms) (t : Mut (H' a)) : Mod ms H (L2.upd H' a o) :=
  ⟨fun b u e n => by
    have ne : b ≠ a := fun z => n (z ▸ h)
    rw [upd_ne ne]
    exact m.1 b u e n, m.2.trans (Tups.mut t)⟩
/-- an object that was not there at the start may change -/
theorem Mod.updF {ms : List Addr} {H H' : Hp} {a : Addr} {o : HO} (m : Mod ms H H') (h : H a = none) (t : Mut (H' a)) : Mod ms H (L2.upd H' a o) :=
  ⟨fun b u e n => by
    have ne : b ≠ a := fun z => by rw [z, h] at e; cases e
    rw [upd_ne ne]
    exact m.1 b u e n, m.2.trans (Tups.mut t)⟩
theorem mut_lst {xs : List V} : Mut (some (.lst xs)) := trivial
theorem mut_at {H : Hp} {a : Addr} {xs : List V} (h : H a = some (.lst xs)) : Mut (H a) := by rw [h]; trivial
theorem ex_mutF {H H' : Hp} {a : Addr} {o : HO} (e : Ex H H') (h : H a = none) : Ex H (upd H' a o) := Ex.mut e h

structure Steps (J : It) (n : Nat) (ok : Hp → Prop) (yl : Nat → Hp → V → Hp → Prop) : Prop where
  go : ∀ i H, ok H → i < n → J.go i H
  stop : ∀ i H, ok H → i = n → J.stop i H
  yld : ∀ i H x H', ok H → i < n → J.yld i H x H' → yl i H x H'
section
variable {K : PySem.W.Frag} {a : Addr} {xs : List V}
theorem steps_list : Steps (Itl K a) xs.length (fun H => SqL K H a xs) (fun i H x H' => H' = H ∧ xs[i]? = some x) :=
  ⟨fun i H h hi => ⟨xs, xs[i], h, by simp [hi]⟩, fun i H h hi => ⟨xs, h, by omega⟩, fun i H x H' h _ y => ⟨y.1, y.2 xs h⟩⟩
theorem steps_tup : Steps (Itt K a) xs.length (fun H => SqT K H a xs) (fun i H x H' => H' = H ∧ xs[i]? = some x) :=
  ⟨fun i H h hi => ⟨xs, xs[i], h, by simp [hi]⟩, fun i H h hi => ⟨xs, h, by omega⟩, fun i H x H' h _ y => ⟨y.1, y.2 xs h⟩⟩
theorem steps_range {lo : Int} {n : Nat} : Steps (Itr lo n) n (fun _ => True) (fun i H x H' => H' = H ∧ x = .int (lo + i)) :=
  ⟨fun i H h hi => hi, fun i H h hi => by show n ≤ i; omega, fun i H x H' h _ y => y⟩
theorem steps_rev : Steps (Itv K a xs.length) xs.length (fun H => SqL K H a xs) (fun i H x H' => H' = H ∧ xs.reverse[i]? = some x) :=
  ⟨fun i H h hi => ⟨hi, xs, xs[xs.length - 1 - i], h, by rw [List.getElem?_eq_getElem (by omega)]⟩, fun i H h hi => by show xs.length ≤ i; omega, fun i H x H' h hi y => ⟨y.1, by rw [List.getElem?_reverse hi]; exact y.2 xs h⟩⟩
theorem steps_enumT : Steps (IteT K a xs) xs.length (fun H => SqT K H a xs) (fun i H v H' => ∃ T x, v = .ref T ∧ H T = none ∧ H' = upd H T (.tup [.int (i : Nat), x]) ∧ xs[i]? = some x) :=
  ⟨fun i H h hi => ⟨h, hi⟩, fun i H h hi => ⟨h, hi⟩, fun i H x H' h _ y => y⟩
theorem steps_dict {w : World} {kvs : List KE} {ep : Nat} : Steps (Itm w a kvs ep) kvs.length (fun H => H a = some (.ext (RawD w a kvs ep))) (fun i H x H' => H' = H ∧ ∃ k v, kvs[i]? = some (k, x, v)) :=
  ⟨fun i H h hi => ⟨h, hi⟩, fun i H h hi => ⟨h, by omega⟩, fun i H x H' h _ y => y⟩
end
theorem take_next {α : Type} {l : List α} {i : Nat} (h : i < l.length) : l.take (i + 1) = l.take i ++ [l[i]] ∧ l = l.take i ++ l[i] :: l.drop (i + 1) := by
  refine ⟨by rw [List.take_succ, List.getElem?_eq_getElem h]; rfl, ?_⟩
  conv => lhs; rw [← List.take_append_drop i l, List.drop_eq_getElem_cons h]
theorem for_steps {α : Type} {J : It} {ok : Hp → Prop} {yl : Nat → Hp → V → Hp → Prop} {l : List α} {n : Nat} (S : Steps J n ok yl) (hn : n = l.length) {g : TG} {tb : TS} {D : Ends} {σ : L2.St} {H : Hp} (Iv : List α → L2.St → Hp → Prop)
    (h0 : Iv [] σ H) (hok : ∀ pre σ H, Iv pre σ H → ok H)
    (hs : ∀ pre d post x σ H H', l = pre ++ d :: post → Iv pre σ H → yl pre.length H x H' → g x σ H' fun σ2 H2 => tb { D with nx := Iv (pre ++ [d]), ct := Iv (pre ++ [d]), bk := D.nx } σ2 H2)
    (hd : ∀ σ H, Iv l σ H → D.nx σ H) :
    ∃ W : Nat → Nat → L2.St → Hp → Prop, (∃ m, W 0 m σ H) ∧ ∀ i m σ H, W i m σ H →
      (J.stop i H ∧ D.nx σ H) ∨ (J.go i H ∧ ∃ N : L2.St → Hp → Prop, (∀ σ' H', N σ' H' → ∃ m', m' < m ∧ W (i + 1) m' σ' H') ∧ ∀ x H', J.yld i H x H' → g x σ H' fun σ2 H2 => tb { D with nx := N, ct := N, bk := D.nx } σ2 H2) := by
  subst hn
  refine ⟨fun i m σ H => m = l.length - i ∧ i ≤ l.length ∧ Iv (l.take i) σ H, ⟨l.length, by simp, Nat.zero_le _, by simpa using h0⟩, ?_⟩
  rintro i m σ H ⟨rfl, hi, p⟩
  have q := hok _ σ H p
  by_cases hlt : i < l.length
  · obtain ⟨t1, t2⟩ := take_next hlt
    refine .inr ⟨S.go i H q hlt, Iv (l.take (i + 1)), fun σ' H' p' => ⟨l.length - (i + 1), by omega, rfl, hlt, p'⟩, fun x H' y => ?_⟩
    have z := S.yld i H x H' q hlt y
    have el : (l.take i).length = i := by rw [List.length_take]; omega
    rw [t1]
    exact hs (l.take i) l[i] (l.drop (i + 1)) x σ H H' t2 p (by rw [el]; exact z)
  · have e : i = l.length := by omega
    subst e
    rw [List.take_length] at p
    exact .inl ⟨S.stop _ H q rfl, hd σ H p⟩
theorem pre_get {α : Type} {l pre post : List α} {d : α} (e : l = pre ++ d :: post) : l[pre.length]? = some d := by rw [e]; simp
section
variable {α : Type} {K : PySem.W.Frag} {σ : L2.St} {H : Hp} {tl : TE} {g : TG} {tb : TS} {D : Ends}
/-- for x in tuple -/
theorem st_forT {l : List α} {f : α → PyData} (h : Gv tl σ H (IsV (.tuple (l.map f)))) (k : ∀ H1, Ex H H1 → ∃ Iv : List α → L2.St → Hp → Prop, Iv [] σ H1 ∧ (∀ pre σ' H', Iv pre σ' H' → Tups H1 H') ∧
      (∀ pre d post x σ' H', l = pre ++ d :: post → Iv pre σ' H' → Is H' (f d) x → g x σ' H' fun σ2 H2 => tb { D with nx := Iv (pre ++ [d]), ct := Iv (pre ++ [d]), bk := D.nx } σ2 H2) ∧ ∀ σ' H', Iv l σ' H' → D.nx σ' H') :
    tFor (iTup K tl) g tb D σ H := h H (Ex.refl _) _ fun v H1 e r => by
  obtain ⟨a, xs, rfl, pt, al⟩ := r.tup_inv
  obtain ⟨Iv, h0, hT, hs, hd⟩ := k H1 e
  have len : xs.length = l.length := by rw [al.length, List.length_map]
  refine ⟨a, rfl, ⟨xs, pt.sq⟩, for_steps steps_tup len Iv h0 (fun pre σ' H' iv => (pt.mono (hT _ _ _ iv)).sq) (fun pre d post x σ' H' H'' el iv y => ?_) hd⟩
  obtain ⟨rfl, ex⟩ := y
  refine hs pre d post x σ' _ el iv ?_
  obtain ⟨v, e1, e2⟩ := (IsAll.mono (hT _ _ _ iv) _ _ al).get (i := pre.length) (d := f d) (by rw [List.getElem?_map, pre_get el]; rfl)
  rw [ex] at e1
  cases e1
  exact e2
/-- for x in list -/
theorem st_forL {l : List α} {f : α → PyData} (h : Gv tl σ H (LsV (l.map f))) (k : ∀ p xs H1, Ex H H1 → H1 p = some (.lst xs) → ∃ Iv : List α → L2.St → Hp → Prop, Iv [] σ H1 ∧ (∀ pre σ' H', Iv pre σ' H' → Tups H1 H' ∧ H' p = some (.lst xs)) ∧
      (∀ pre d post x σ' H', l = pre ++ d :: post → Iv pre σ' H' → Is H' (f d) x → g x σ' H' fun σ2 H2 => tb { D with nx := Iv (pre ++ [d]), ct := Iv (pre ++ [d]), bk := D.nx } σ2 H2) ∧ ∀ σ' H', Iv l σ' H' → D.nx σ' H') :
    tFor (iList K tl) g tb D σ H := h H (Ex.refl _) _ fun v H1 e r => by
  obtain ⟨a, xs, rfl, pt, al⟩ := r
  obtain ⟨Iv, h0, hT, hs, hd⟩ := k a xs H1 e pt
  have len : xs.length = l.length := by rw [al.length, List.length_map]
  refine ⟨a, rfl, ⟨xs, sq_of pt⟩, for_steps steps_list len Iv h0 (fun pre σ' H' iv => sq_of (hT _ _ _ iv).2) (fun pre d post x σ' H' H'' el iv y => ?_) hd⟩
  obtain ⟨rfl, ex⟩ := y
  refine hs pre d post x σ' _ el iv ?_
  obtain ⟨v, e1, e2⟩ := (IsAll.mono (hT _ _ _ iv).1 _ _ al).get (i := pre.length) (d := f d) (by rw [List.getElem?_map, pre_get el]; rfl)
  rw [ex] at e1
  cases e1
  exact e2
/-- for x in reversed(list) -/
theorem st_forV {l : List α} {f : α → PyData} {te : TE} (h : Gv te σ H (LsV (l.map f))) (k : ∀ p xs H1, Ex H H1 → H1 p = some (.lst xs) → ∃ Iv : List α → L2.St → Hp → Prop, Iv [] σ H1 ∧ (∀ pre σ' H', Iv pre σ' H' → Tups H1 H' ∧ H' p = some (.lst xs)) ∧
      (∀ pre d post x σ' H', l.reverse = pre ++ d :: post → Iv pre σ' H' → Is H' (f d) x → g x σ' H' fun σ2 H2 => tb { D with nx := Iv (pre ++ [d]), ct := Iv (pre ++ [d]), bk := D.nx } σ2 H2) ∧ ∀ σ' H', Iv l.reverse σ' H' → D.nx σ' H') :
    tFor (iRev K (tCons te tNil)) g tb D σ H := h H (Ex.refl _) _ fun v H1 e r => by
  obtain ⟨a, xs, rfl, pt, al⟩ := r
  obtain ⟨Iv, h0, hT, hs, hd⟩ := k a xs H1 e pt
  have len : xs.length = l.length := by rw [al.length, List.length_map]
  refine ⟨a, xs, rfl, sq_of pt, for_steps (l := l.reverse) steps_rev (by rw [List.length_reverse]; exact len) Iv h0 (fun pre σ' H' iv => sq_of (hT _ _ _ iv).2) (fun pre d post x σ' H' H'' el iv y => ?_) hd⟩
  obtain ⟨rfl, ex⟩ := y
  refine hs pre d post x σ' _ el iv ?_
  have hlt : pre.length < l.length := by
    have := congrArg List.length el
    simp at this
    omega
  rw [List.getElem?_reverse (by omega)] at ex
  have g1 := pre_get el
  rw [List.getElem?_reverse hlt, ← len] at g1
  obtain ⟨v, e1, e2⟩ := (IsAll.mono (hT _ _ _ iv).1 _ _ al).get (i := xs.length - 1 - pre.length) (d := f d) (by rw [List.getElem?_map, g1]; rfl)
  rw [ex] at e1
  cases e1
  exact e2
/-- for k in range(n) -/
theorem st_forR {te : TE} {n : Nat} (h : Gv te σ H (IsV (.int (Int.ofNat n)))) (hn : n ≤ 2 ^ 60) (k : ∀ H1, Ex H H1 → ∃ Iv : Nat → L2.St → Hp → Prop, Iv 0 σ H1 ∧
      (∀ i σ' H', i < n → Iv i σ' H' → g (.int (Int.ofNat i)) σ' H' fun σ2 H2 => tb { D with nx := Iv (i + 1), ct := Iv (i + 1), bk := D.nx } σ2 H2) ∧ ∀ σ' H', Iv n σ' H' → D.nx σ' H') :
    tFor (iRng1 (tCons te tNil)) g tb D σ H := h H (Ex.refl _) _ fun v H1 e r => by
  obtain ⟨Iv, h0, hs, hd⟩ := k H1 e
  rw [r.int_inv]
  refine ⟨Int.ofNat n, rfl, by simp, by simp; omega, ?_⟩
  have e1 : (Int.ofNat n).toNat = n := rfl
  rw [e1]
  refine for_range (lo := 0) Iv h0 (fun i σ' H' hi iv => ?_) hd
  rw [Int.zero_add]
  exact hs i σ' H' hi iv
/-- for k in range(a, b) -/
theorem st_forR2 {ta te : TE} {m n : Nat} (ha : Gv ta σ H (IsV (.int (Int.ofNat m)))) (h : Gv te σ H (IsV (.int (Int.ofNat n)))) (hm : m ≤ 2 ^ 60) (hn : n ≤ 2 ^ 60) (k : ∀ H1, Ex H H1 → ∃ Iv : Nat → L2.St → Hp → Prop, Iv 0 σ H1 ∧
      (∀ i σ' H', i < n - m → Iv i σ' H' → g (.int (Int.ofNat (m + i))) σ' H' fun σ2 H2 => tb { D with nx := Iv (i + 1), ct := Iv (i + 1), bk := D.nx } σ2 H2) ∧ ∀ σ' H', Iv (n - m) σ' H' → D.nx σ' H') :
    tFor (iRng2 (tCons ta (tCons te tNil))) g tb D σ H := ha H (Ex.refl _) _ fun v H1 e r => h H1 e _ fun v2 H2 e2 r2 => by
  obtain ⟨Iv, h0, hs, hd⟩ := k H2 (e.trans e2)
  rw [r.int_inv, r2.int_inv]
  refine ⟨Int.ofNat m, Int.ofNat n, rfl, ⟨by simp, by simp; omega, by simp, by simp; omega⟩, ?_⟩
  have e1 : (Int.ofNat n - Int.ofNat m).toNat = n - m := by simp
  rw [e1]
  exact for_range (lo := Int.ofNat m) Iv h0 (fun i σ' H' hi iv => hs i σ' H' hi iv) hd
/-- for i, x in enumerate(tuple) -/
theorem st_forE {l : List α} {f : α → PyData} (h : Gv tl σ H (IsV (.tuple (l.map f)))) (k : ∀ H1, Ex H H1 → ∃ Iv : List α → L2.St → Hp → Prop, Iv [] σ H1 ∧ (∀ pre σ' H', Iv pre σ' H' → Tups H1 H') ∧
      (∀ pre d post T x σ' H', l = pre ++ d :: post → Iv pre σ' H' → H' T = none → Is H' (f d) x → g (.ref T) σ' (upd H' T (.tup [.int (Int.ofNat pre.length), x])) fun σ2 H2 => tb { D with nx := Iv (pre ++ [d]), ct := Iv (pre ++ [d]), bk := D.nx } σ2 H2) ∧ ∀ σ' H', Iv l σ' H' → D.nx σ' H') :
    tFor (iEnumT K (tCons tl tNil)) g tb D σ H := h H (Ex.refl _) _ fun v H1 e r => by
  obtain ⟨a, xs, rfl, pt, al⟩ := r.tup_inv
  obtain ⟨Iv, h0, hT, hs, hd⟩ := k H1 e
  have len : xs.length = l.length := by rw [al.length, List.length_map]
  refine ⟨a, xs, rfl, pt.sq, for_steps steps_enumT len Iv h0 (fun pre σ' H' iv => (pt.mono (hT _ _ _ iv)).sq) (fun pre d post x σ' H' H'' el iv y => ?_) hd⟩
  obtain ⟨T, z, rfl, nT, rfl, ex⟩ := y
  refine hs pre d post T z σ' _ el iv nT ?_
  obtain ⟨v, e1, e2⟩ := (IsAll.mono (hT _ _ _ iv) _ _ al).get (i := pre.length) (d := f d) (by rw [List.getElem?_map, pre_get el]; rfl)
  rw [ex] at e1
  cases e1
  exact e2
end
/-! comprehensions whose elements are pure -/
theorem lc_steps {α : Type} {J : It} {ok : Hp → Prop} {yl : Nat → Hp → V → Hp → Prop} {l : List α} {n : Nat} (S : Steps J n ok yl) (hn : n = l.length) {g : TG} {tt : TT} {te : TE} {vs : List Nat} {σ : L2.St} {H1 : Hp} {D : Addr} {Qd : Hp → Prop}
    (e : α → PyData) (keep : α → Bool) (hD : H1 D = none) (hz : l.length ≤ sizeLine) (hok : ∀ H', Ex H1 H' → ok H')
    (hs : ∀ pre d post x H' H'', l = pre ++ d :: post → Ex H1 H' → yl pre.length H' x H'' → Ex H' H'' ∧ ∃ σ2, (∀ Q : L2.St → Hp → Prop, Q σ2 H'' → g x (wipe σ vs) H'' Q) ∧ wipe σ2 vs = wipe σ vs ∧ EvT tt σ2 H'' (keep d) ∧ (keep d = true → Gv te σ2 H'' (IsV (e d))))
    (hd : ∀ acc H', Ex H1 H' → H' D = some (.lst acc) → IsAll H' ((l.filter keep).map e) acc → Qd H') :
    ∃ W : Nat → Nat → Hp → Prop, (∃ m, W 0 m (upd H1 D (.lst []))) ∧ ∀ i m H, W i m H →
      (J.stop i H ∧ Qd H) ∨ (J.go i H ∧ ∃ Nx : Hp → Prop, (∀ H', Nx H' → ∃ m', m' < m ∧ W (i + 1) m' H') ∧ ∀ x H', J.yld i H x H' → g x (wipe σ vs) H' fun σ2 H2 => wipe σ2 vs = wipe σ vs ∧ tt σ2 H2 fun b H3 =>
        if b = true then te σ2 H3 fun y H4 => ∃ acc, H4 D = some (.lst acc) ∧ acc.length < sizeLine ∧ Nx (upd H4 D (.lst (acc ++ [y]))) else Nx H3) := by
  subst hn
  refine ⟨fun i m H => m = l.length - i ∧ i ≤ l.length ∧ Ex H1 H ∧ ∃ acc, H D = some (.lst acc) ∧ IsAll H (((l.take i).filter keep).map e) acc, ⟨l.length, by simp, Nat.zero_le _, Ex.new hD, [], upd_same, by simp; exact .nil⟩, ?_⟩
  rintro i m H ⟨rfl, hi, ex, acc, ha, hal⟩
  have q := hok H ex
  by_cases hlt : i < l.length
  · obtain ⟨t1, t2⟩ := take_next hlt
    refine .inr ⟨S.go i H q hlt, fun H' => Ex H1 H' ∧ ∃ acc, H' D = some (.lst acc) ∧ IsAll H' (((l.take (i + 1)).filter keep).map e) acc, fun H' p' => ⟨l.length - (i + 1), by omega, rfl, hlt, p'.1, p'.2⟩, fun x H' y => ?_⟩
    have z := S.yld i H x H' q hlt y
    have el : (l.take i).length = i := by rw [List.length_take]; omega
    obtain ⟨ex', σ2, hg, hw, ht, he⟩ := hs (l.take i) l[i] (l.drop (i + 1)) x H H' t2 ex (by rw [el]; exact z)
    refine hg _ ⟨hw, ht H' (Ex.refl _) _ fun H3 e3 => ?_⟩
    have x3 := ex'.trans e3
    have hal3 := IsAll.mono x3.tups _ _ hal
    cases hk : keep l[i] with
    | true =>
      rw [if_pos rfl]
      refine he hk H3 e3 _ fun v H4 e4 r4 => ?_
      have x4 := x3.trans e4
      have ha4 := x4 _ _ ha
      refine ⟨acc, ha4, ?_, Ex.mut (ex.trans x4) hD, acc ++ [v], upd_same, ?_⟩
      · have := hal.length
        rw [this, List.length_map]
        have h1 := List.length_filter_le keep (l.take i)
        omega
      · rw [t1, List.filter_append, List.map_append]
        have h5 : Tups H4 (upd H4 D (.lst (acc ++ [v]))) := Tups.mut (mut_at ha4)
        have hf : [l[i]].filter keep = [l[i]] := by simp [hk]
        rw [hf]
        exact (IsAll.mono h5 _ _ (IsAll.mono e4.tups _ _ hal3)).append (.cons (Is.mono h5 _ _ r4) .nil)
    | false =>
      rw [if_neg Bool.false_ne_true]
      refine ⟨ex.trans x3, acc, x3 _ _ ha, ?_⟩
      have hf : [l[i]].filter keep = [] := by simp [hk]
      rw [t1, List.filter_append, List.map_append, hf]
      simpa using hal3
  · have e' : i = l.length := by omega
    subst e'
    rw [List.take_length] at hal
    exact .inl ⟨S.stop _ H q rfl, hd acc H ex ha hal⟩
theorem wipe_one {σ : L2.St} {i : Nat} {x : V} : wipe ((wipe σ [i]).set i (some x)) [i] = wipe σ [i] := by
  show (((σ.set i none).set i (some x)).set i none) = σ.set i none
  rw [List.set_set, List.set_set]
section
variable {α : Type} {K : PySem.W.Frag} {σ : L2.St} {H : Hp} {tl te : TE} {tt : TT} {i : Nat}
/-- [e for x in list if ..], x the slot i -/
theorem gv_lcL {l : List α} {f : α → PyData} (e : α → PyData) (keep : α → Bool) (h : Gv tl σ H (LsV (l.map f))) (hz : l.length ≤ sizeLine)
    (hs : ∀ d x H1, d ∈ l → Ex H H1 → Is H1 (f d) x → EvT tt ((wipe σ [i]).set i (some x)) H1 (keep d) ∧ (keep d = true → Gv te ((wipe σ [i]).set i (some x)) H1 (IsV (e d)))) :
    Gv (tLc (iList K tl) (gName i) tt te [i]) σ H (LsV ((l.filter keep).map e)) := fun H1 e1 Q q => h H1 e1 _ fun v H2 e2 r => by
  obtain ⟨a, xs, rfl, pt, al⟩ := r
  have len : xs.length = l.length := by rw [al.length, List.length_map]
  refine ⟨a, rfl, ⟨xs, sq_of pt⟩, fun D hD => lc_steps steps_list len e keep hD hz (fun H' ex => sq_of (ex _ _ pt)) (fun pre d post x H' H'' el ex y => ?_) fun acc H' ex hd al' => q _ _ (e2.trans ex) ⟨D, acc, rfl, hd, al'⟩⟩
  obtain ⟨rfl, ex2⟩ := y
  obtain ⟨v, f1, f2⟩ := (IsAll.mono ex.tups _ _ al).get (i := pre.length) (d := f d) (by rw [List.getElem?_map, pre_get el]; rfl)
  rw [ex2] at f1
  cases f1
  obtain ⟨h1, h2⟩ := hs d x _ (by rw [el]; simp) ((e1.trans e2).trans ex) f2
  exact ⟨Ex.refl _, _, fun Q q => q, wipe_one, h1, h2⟩
/-- [e for x in tuple if ..] with any target -/
theorem gv_lcT {l : List α} {f : α → PyData} {g : TG} {vs : List Nat} (e : α → PyData) (keep : α → Bool) (h : Gv tl σ H (IsV (.tuple (l.map f)))) (hz : l.length ≤ sizeLine)
    (hs : ∀ d x H1, d ∈ l → Ex H H1 → Is H1 (f d) x → ∃ σ2, (∀ Q : L2.St → Hp → Prop, Q σ2 H1 → g x (wipe σ vs) H1 Q) ∧ wipe σ2 vs = wipe σ vs ∧ EvT tt σ2 H1 (keep d) ∧ (keep d = true → Gv te σ2 H1 (IsV (e d)))) :
    Gv (tLc (iTup K tl) g tt te vs) σ H (LsV ((l.filter keep).map e)) := fun H1 e1 Q q => h H1 e1 _ fun v H2 e2 r => by
  obtain ⟨a, xs, rfl, pt, al⟩ := r.tup_inv
  have len : xs.length = l.length := by rw [al.length, List.length_map]
  refine ⟨a, rfl, ⟨xs, pt.sq⟩, fun D hD => lc_steps steps_tup len e keep hD hz (fun H' ex => (pt.mono ex.tups).sq) (fun pre d post x H' H'' el ex y => ?_) fun acc H' ex hd al' => q _ _ (e2.trans ex) ⟨D, acc, rfl, hd, al'⟩⟩
  obtain ⟨rfl, ex2⟩ := y
  obtain ⟨v, f1, f2⟩ := (IsAll.mono ex.tups _ _ al).get (i := pre.length) (d := f d) (by rw [List.getElem?_map, pre_get el]; rfl)
  rw [ex2] at f1
  cases f1
  exact ⟨Ex.refl _, hs d x _ (by rw [el]; simp) ((e1.trans e2).trans ex) f2⟩
end
/-- a list that was not there in H0 -/
def FrV (H0 : Hp) (ds : List PyData) : HR := fun H v => ∃ p xs, v = .ref p ∧ H0 p = none ∧ H p = some (.lst xs) ∧ IsAll H ds xs
instance {H0 : Hp} {ds : List PyData} : Mono (FrV H0 ds) := ⟨fun e ⟨p, xs, h1, h0, h2, h3⟩ => ⟨p, xs, h1, h0, e _ _ h2, IsAll.mono e.tups _ _ h3⟩⟩
theorem FrV.ls {H0 H : Hp} {ds : List PyData} {v : V} (h : FrV H0 ds H v) : LsV ds H v := by
  obtain ⟨p, xs, h1, h0, h2, h3⟩ := h
  exact ⟨p, xs, h1, h2, h3⟩
theorem FrV.back {H0 H1 H : Hp} {ds : List PyData} {v : V} (e : Ex H0 H1) (h : FrV H1 ds H v) : FrV H0 ds H v := by
  obtain ⟨p, xs, h1, h0, h2, h3⟩ := h
  exact ⟨p, xs, h1, fresh_back e h0, h2, h3⟩
section
variable {K : PySem.W.Frag} {σ : L2.St} {H : Hp} {te : TE}
theorem gv_ls {H0 : Hp} {ds : List PyData} (h : Gv te σ H (FrV H0 ds)) : Gv te σ H (LsV ds) := gv_imp h fun _ _ _ r => r.ls
theorem gv_callF {A : List V → Hp → HR → Prop} {ta : TA} {RA : Hp → List V → Prop} {E : XK} {ds : List PyData} (h : GvA ta σ H RA) (hs : ∀ vs H1, Ex H H1 → RA H1 vs → A vs H1 (FrV H1 ds)) : Gv (tCall (SpR A) [] E ta) σ H (FrV H ds) := fun H1 e Q q =>
  h H1 e _ fun vs H2 e2 r => by
    rw [List.append_nil]
    exact ⟨_, hs vs H2 (e.trans e2) r, fun v H' e3 r3 => q v H' (e2.trans e3) (r3.back (e.trans e2))⟩
theorem gv_slF {tl th : TO} {lo hi : Option Int} {ds : List PyData} (h : Gv te σ H (LsV ds)) (h1 : GvO tl σ H lo) (h2 : GvO th σ H hi) : Gv (tSl (rSlL K) te tl th) σ H (FrV H (cutD ds lo hi)) := fun H1 e1 Q q =>
  h H1 e1 _ fun v H2 e2 r => h1 H2 (e1.trans e2) _ fun H3 e3 => h2 H3 ((e1.trans e2).trans e3) _ fun H4 e4 => by
    obtain ⟨a, xs, rfl, pt, al⟩ := r
    have e5 := e3.trans e4
    have al' := IsAll.mono e5.tups _ _ al
    exact ⟨a, xs, rfl, sq_of (e5 _ _ pt), fun p np => q _ _ ((e2.trans e5).trans (Ex.new np)) ⟨p, _, rfl, fresh_back (e1.trans (e2.trans e5)) np, upd_same, IsAll.mono (Tups.new np) _ _ al'.cut⟩⟩
theorem gv_catF {ta tb : TE} {ds es : List PyData} (h : Gv ta σ H (LsV ds)) (hi : Gv tb σ H (LsV es)) (hz : ds.length + es.length ≤ sizeLine) : Gv (tOp rCat ta tb) σ H (FrV H (ds ++ es)) := fun H1 e1 Q q =>
  h H1 e1 _ fun v H2 e2 r => hi H2 (e1.trans e2) _ fun y H3 e3 ry => by
    obtain ⟨a, xs, rfl, pt, al⟩ := r
    obtain ⟨b, ys, rfl, pt', al'⟩ := ry
    have al2 := IsAll.mono e3.tups _ _ al
    refine ⟨a, b, xs, ys, rfl, rfl, e3 _ _ pt, pt', by rw [al.length, al'.length]; exact hz, fun p np => q _ _ ((e2.trans e3).trans (Ex.new np)) ⟨p, _, rfl, fresh_back (e1.trans (e2.trans e3)) np, upd_same, ?_⟩⟩
    exact IsAll.mono (Tups.new np) _ _ (al2.append al')
theorem gv_lstF {ta : TA} {ds : List PyData} (h : GvA ta σ H (IsA ds)) (hl : ds.length ≤ sizeLine) : Gv (tLst ta) σ H (FrV H ds) := fun H1 e Q q =>
  h H1 e _ fun vs H2 e2 r => ⟨by rw [r.length]; exact hl, fun p np => q _ _ (e2.trans (Ex.new np)) ⟨p, vs, rfl, fresh_back (e.trans e2) np, upd_same, IsAll.mono (Tups.new np) _ _ r⟩⟩
theorem ne_at {H : Hp} {p q : Addr} {o : HO} (h : H p = some o) (n : H q = none) : p ≠ q := fun z => by rw [z, n] at h; cases h
end
section
variable {K : PySem.W.Frag} {σ : L2.St} {H : Hp} {D : Ends} {i j k l : Nat} {T : Addr} {x y z u : V} {Q : L2.St → Hp → Prop}
/-- x = [..] -/
theorem st_newL {ta : TA} {ds : List PyData} (h : GvA ta σ H (IsA ds)) (hl : ds.length ≤ sizeLine) (k : ∀ p xs H1, H p = none → Ex H H1 → H1 p = some (.lst xs) → IsAll H1 ds xs → D.nx (σ.set i (some (.ref p))) H1) : tAsg (tLst ta) (gName i) D σ H :=
  h H (Ex.refl _) _ fun vs H2 e2 r => ⟨by rw [r.length]; exact hl, fun p np => k p vs _ (fresh_back e2 np) (e2.trans (Ex.new np)) upd_same (IsAll.mono (Tups.new np) _ _ r)⟩
theorem st_new0 (k : ∀ p, H p = none → D.nx (σ.set i (some (.ref p))) (upd H p (.lst []))) : tAsg (tLst tNil) (gName i) D σ H := ⟨Nat.zero_le _, fun p np => k p np⟩
theorem st_newD {w : World} (k : ∀ p ob, H p = none → DAt w (upd H p ob) p [] → D.nx (σ.set i (some (.ref p))) (upd H p ob)) : tAsg (tDNew w) (gName i) D σ H := fun p o np d => k p o np d
theorem gtup2 (h : SqT K H T [x, y]) (q : Q ((σ.set i (some x)).set j (some y)) H) : gTup K 2 (gCons (gName i) (gCons (gName j) gNil)) (.ref T) σ H Q :=
  ⟨T, _, rfl, h, rfl, _, _, rfl, _, _, rfl, rfl, q⟩
theorem gtup3 (h : SqT K H T [x, y, z]) (q : Q (((σ.set i (some x)).set j (some y)).set k (some z)) H) : gTup K 3 (gCons (gName i) (gCons (gName j) (gCons (gName k) gNil))) (.ref T) σ H Q :=
  ⟨T, _, rfl, h, rfl, _, _, rfl, _, _, rfl, _, _, rfl, rfl, q⟩
theorem gtup4 (h : SqT K H T [x, y, z, u]) (q : Q ((((σ.set i (some x)).set j (some y)).set k (some z)).set l (some u)) H) : gTup K 4 (gCons (gName i) (gCons (gName j) (gCons (gName k) (gCons (gName l) gNil)))) (.ref T) σ H Q :=
  ⟨T, _, rfl, h, rfl, _, _, rfl, _, _, rfl, _, _, rfl, _, _, rfl, rfl, q⟩
theorem gv_cat {ta tb : TE} {ds es : List PyData} (h : Gv ta σ H (IsV (.tuple ds))) (hi : Gv tb σ H (IsV (.tuple es))) (hz : ds.length + es.length ≤ sizeLine) : Gv (tOp (rCatP K) ta tb) σ H (IsV (.tuple (ds ++ es))) :=
  gv_catP h hi hz fun ⟨a, b, xs, ys, ex, ey, pa, pb, hz, q⟩ => rcat ex ey pa pb hz q
end
theorem sq {t u : TS} {D : Ends} {σ : L2.St} {H : Hp} (h : t { D with nx := u D } σ H) : tSeq t u D σ H := h
theorem gv_chain {ta tb tc : TE} {σ : L2.St} {H : Hp} {i j k : Int} (ha : Gv ta σ H (IsV (.int i))) (hb : Gv tb σ H (IsV (.int j))) (hc : Gv tc σ H (IsV (.int k))) :
    Gv (tChain (rI0 fun i j => .bl (decide (i ≤ j))) (rI0 fun i j => .bl (decide (i < j))) ta tb tc) σ H (IsV (.bool (decide (i ≤ j) && decide (j < k)))) := fun H1 e1 Q q =>
  ha H1 e1 _ fun v H2 e2 r => hb H2 (e1.trans e2) _ fun y H3 e3 ry => ⟨i, j, r.int_inv, ry.int_inv, decide (i ≤ j), rfl, by
    by_cases h : i ≤ j
    · rw [decide_eq_true h, if_pos rfl]
      exact hc H3 (e1.trans (e2.trans e3)) _ fun z H4 e4 rz => ⟨j, k, ry.int_inv, rz.int_inv, q _ _ ((e2.trans e3).trans e4) (by simp only [h, decide_true, Bool.true_and]; exact .bl _)⟩
    · rw [decide_eq_false h, if_neg Bool.false_ne_true]
      exact q _ _ (e2.trans e3) (by simp only [h, decide_false, Bool.false_and]; exact .bl _)⟩
theorem ev_yes {σ : L2.St} {H : Hp} : EvT tYes σ H true := fun H1 _ _ q => q H1 (Ex.refl _)
section
variable {α : Type} {K : PySem.W.Frag} {σ : L2.St} {H : Hp} {tl : TE} {g : TG} {tb : TS} {D : Ends}
/-- for x in a new list -/
theorem st_forF {l : List α} {f : α → PyData} (h : Gv tl σ H (FrV H (l.map f))) (k : ∀ p xs H1, H p = none → Ex H H1 → H1 p = some (.lst xs) → ∃ Iv : List α → L2.St → Hp → Prop, Iv [] σ H1 ∧ (∀ pre σ' H', Iv pre σ' H' → Tups H1 H' ∧ H' p = some (.lst xs)) ∧
      (∀ pre d post x σ' H', l = pre ++ d :: post → Iv pre σ' H' → Is H' (f d) x → g x σ' H' fun σ2 H2 => tb { D with nx := Iv (pre ++ [d]), ct := Iv (pre ++ [d]), bk := D.nx } σ2 H2) ∧ ∀ σ' H', Iv l σ' H' → D.nx σ' H') :
    tFor (iList K tl) g tb D σ H := h H (Ex.refl _) _ fun v H1 e r => by
  obtain ⟨a, xs, rfl, np, pt, al⟩ := r
  obtain ⟨Iv, h0, hT, hs, hd⟩ := k a xs H1 np e pt
  have len : xs.length = l.length := by rw [al.length, List.length_map]
  refine ⟨a, rfl, ⟨xs, sq_of pt⟩, for_steps steps_list len Iv h0 (fun pre σ' H' iv => sq_of (hT _ _ _ iv).2) (fun pre d post x σ' H' H'' el iv y => ?_) hd⟩
  obtain ⟨rfl, ex⟩ := y
  refine hs pre d post x σ' _ el iv ?_
  obtain ⟨v, e1, e2⟩ := (IsAll.mono (hT _ _ _ iv).1 _ _ al).get (i := pre.length) (d := f d) (by rw [List.getElem?_map, pre_get el]; rfl)
  rw [ex] at e1
  cases e1
  exact e2
end
end K31

/-! what is known of the top; trees as data -/
namespace K31
open PySem PySem.Spec PyProof.Rows L2 NK Evl
/-- what the top has left -/
structure Txt (K : PySem.W.Frag) (mg : Str → Option Value) (CG CC : Addr) : Prop where
  fr : ∀ x ∈ (["len", "range", "enumerate", "reversed", "dict", "list", "tuple", "set", "sorted", "int"] : List Str), mg x = none
  gG : mg "Ground" = some (.ref CG)
  gC : mg "Counted" = some (.ref CC)
  cG : Cls K CG
  cC : Cls K CC
  mkC : MkO K CC
  mkG : ∃ f fd, FunD K "__init__" "Ground.__init__" (defArgs s_Ground_init) (defBody s_Ground_init) (defScope s_Ground_init) [] [] f fd ∧ Mk K CG f
  na : ∀ x ∈ (["top", "signs", "pieces", "called", "seats", "tops"] : List Str), NoAttr K CG x
  d_kids_of : DefN K mg "kids_of" s_kids_of
  d_places : DefN K mg "places" s_places
  d_piece_at : DefN K mg "piece_at" s_piece_at
  d_feet_of : DefN K mg "feet_of" s_feet_of
  d_is_graft : DefN K mg "is_graft" s_is_graft
  d_name_of : DefN K mg "name_of" s_name_of
  d_lay : DefN K mg "lay" s_lay
  d_behind_one_another : DefN K mg "behind_one_another" s_behind_one_another
  d_put_round : DefN K mg "put_round" s_put_round
  d_name_at : DefN K mg "name_at" s_name_at
  d_Ground_is_top : MetN K CG "is_top" "Ground.is_top" s_Ground_is_top
  d_Ground_has_foot : MetN K CG "has_foot" "Ground.has_foot" s_Ground_has_foot
  d_Ground_leaf : MetN K CG "leaf" "Ground.leaf" s_Ground_leaf
  d_Ground_prefixes : MetN K CG "prefixes" "Ground.prefixes" s_Ground_prefixes
  d_Ground_bare : MetN K CG "bare" "Ground.bare" s_Ground_bare
  d_Ground_knot : MetN K CG "knot" "Ground.knot" s_Ground_knot
  d_Ground_hole : MetN K CG "hole" "Ground.hole" s_Ground_hole
  d_Ground_concluded : MetN K CG "concluded" "Ground.concluded" s_Ground_concluded
  d_Ground_filled : MetN K CG "filled" "Ground.filled" s_Ground_filled
  d_Ground_listed : MetN K CG "listed" "Ground.listed" s_Ground_listed
  d_Counted_unit : MetN K CC "unit" "Counted.unit" s_Counted_unit
  d_Counted_both : MetN K CC "both" "Counted.both" s_Counted_both
  d_Counted_either : MetN K CC "either" "Counted.either" s_Counted_either
  d_Counted_of_tree : MetN K CC "of_tree" "Counted.of_tree" s_Counted_of_tree
  d_entries : DefN K mg "entries" s_entries
  d_law_mixed : DefN K mg "_law_mixed" s__law_mixed
  d_law_next : DefN K mg "_law_next" s__law_next
  d_law_leaf : DefN K mg "_law_leaf" s__law_leaf
  d_law_takes : DefN K mg "_law_takes" s__law_takes
  d_law_knot : DefN K mg "_law_knot" s__law_knot
  d_law_signs : DefN K mg "_law_signs" s__law_signs
  d_law_tree : DefN K mg "_law_tree" s__law_tree
  d_law_book : DefN K mg "_law_book" s__law_book
  d_law_sites : DefN K mg "_law_sites" s__law_sites
  d_law_feet : DefN K mg "_law_feet" s__law_feet
  d_law_called : DefN K mg "_law_called" s__law_called
  d_law_fill : DefN K mg "_law_fill" s__law_fill
  d_law_all : DefN K mg "_law_all" s__law_all
  d_law_line : DefN K mg "_law_line" s__law_line
  d_law_row : DefN K mg "_law_row" s__law_row
  d_law_wholes : DefN K mg "_law_wholes" s__law_wholes
  d_law_a_row : DefN K mg "_law_a_row" s__law_a_row
  d_law_stretches : DefN K mg "_law_stretches" s__law_stretches
  d_law : DefN K mg "law" s_law
section
variable {P : Program} {w : World} {K : PySem.W.Frag} {mg : Str → Option Value} {base : Heap} {x qual : Str} {st : Stmt} {ps : List Str} {C : Addr}
def spNo : List V → Hp → HR → Prop := fun _ _ _ => False
theorem fn_none {k : Nat} {f : Addr} {fd : FuncData} {sp : Sp} (h : ∀ vs H Q E, ¬ sp vs H Q E) : FnOk P w K mg base CX0 k f fd ps sp :=
  ⟨fun vs H Q E q => (h _ _ _ _ q).elim, fun A outer s H args us vs Q E hr he hb hv hs => (h _ _ _ _ hs).elim⟩
theorem cal_none {sp : Sp} (k : Nat) (h : ∀ vs H Q E, ¬ sp vs H Q E) (D : DefN K mg x st) (b : BindOk x x st ps) : Cal P w K mg base k x sp := by
  obtain ⟨f, fd, F, e⟩ := D
  exact ⟨f, fd, ps, fn_none h, e, F.kp, F.bindsN b⟩
theorem met_none {m : Str} {sp : Sp} (k : Nat) (h : ∀ vs H Q E, ¬ sp vs H Q E) (c : Cls K C) (D : MetN K C m qual st) (b : BindOk m qual st ps) : Met P w K mg base k C m sp := by
  obtain ⟨f, fd, F, e⟩ := D
  exact ⟨f, fd, ps, c, e, fn_none h, F.bindsN b⟩
end
/-! trees as tuples -/
def itemsT : Tr → List PyData
  | .sign s => [.str "sign", .str s]
  | .void => [.str "void"]
  | .hole n => [.str "hole", .str n]
  | .foot n => [.str "foot", .str n]
  | .knot n tk ks => [.str "knot", .str n, encTk tk, .tuple (encTs ks)]
theorem encT_items (t : Tr) : encT t = .tuple (itemsT t) := by cases t <;> simp [encT, itemsT]
theorem items0 (t : Tr) : atI (itemsT t) 0 = some (.str (tagT t)) := by cases t <;> rfl
theorem items1 {t : Tr} (h : tagT t ≠ "void") : atI (itemsT t) 1 = some (.str (nameT t)) := by
  cases t with
  | void => exact absurd rfl h
  | _ => rfl
theorem items2 {t : Tr} (h : tagT t = "knot") : atI (itemsT t) 2 = some (encTk (takesT t)) := by
  cases t with
  | knot => rfl
  | _ => exact absurd h (by simp only [tagT]; decide)
theorem items3 {t : Tr} (h : tagT t = "knot") : atI (itemsT t) 3 = some (.tuple (encTs (kidsT t))) := by
  cases t with
  | knot => rfl
  | _ => exact absurd h (by simp only [tagT]; decide)
theorem kids_no {t : Tr} (h : tagT t ≠ "knot") : kidsT t = [] := by
  cases t with
  | knot => exact absurd rfl h
  | _ => rfl
section
variable {K : PySem.W.Frag} {σ : L2.St} {H : Hp} {ta : TE} {t : Tr}
theorem gv_it (h : Gv ta σ H (IsV (encT t))) : Gv ta σ H (IsV (.tuple (itemsT t))) := gv_is h (encT_items t)
theorem gv_tag (h : Gv ta σ H (IsV (encT t))) : Gv (tOp (rIxT K) ta (tC (.int 0))) σ H (IsV (.str (tagT t))) := gv_ixT (gv_it h) gv_int (items0 t)
theorem gt_tag {x : Str} (h : Gv ta σ H (IsV (encT t))) : EvT (tTest (tOp rEq (tOp (rIxT K) ta (tC (.int 0))) (tC (.str x)))) σ H (decide (tagT t = x)) := gt_test (gv_eqS (gv_tag h) gv_str)
theorem gv_nm (h : Gv ta σ H (IsV (encT t))) (n : tagT t ≠ "void") : Gv (tOp (rIxT K) ta (tC (.int 1))) σ H (IsV (.str (nameT t))) := gv_ixT (gv_it h) gv_int (items1 n)
theorem gv_tk (h : Gv ta σ H (IsV (encT t))) (n : tagT t = "knot") : Gv (tOp (rIxT K) ta (tC (.int 2))) σ H (IsV (encTk (takesT t))) := gv_ixT (gv_it h) gv_int (items2 n)
theorem gv_kids (h : Gv ta σ H (IsV (encT t))) (n : tagT t = "knot") : Gv (tOp (rIxT K) ta (tC (.int 3))) σ H (IsV (.tuple ((kidsT t).map encT))) := by
  rw [← encTs_map]
  exact gv_ixT (gv_it h) gv_int (items3 n)
end
theorem one_inv {H : Hp} {d : PyData} {vs : List V} (h : IsAll H [d] vs) : ∃ v, vs = [v] ∧ Is H d v := by
  cases h with
  | cons h1 h2 => cases h2; exact ⟨_, rfl, h1⟩
theorem two_inv {H : Hp} {d e : PyData} {vs : List V} (h : IsAll H [d, e] vs) : ∃ v u, vs = [v, u] ∧ Is H d v ∧ Is H e u := by
  cases h with
  | cons h1 h2 => obtain ⟨u, rfl, h3⟩ := one_inv h2; exact ⟨_, _, rfl, h1, h3⟩
theorem three_inv {H : Hp} {d e f : PyData} {vs : List V} (h : IsAll H [d, e, f] vs) : ∃ v u z, vs = [v, u, z] ∧ Is H d v ∧ Is H e u ∧ Is H f z := by
  cases h with
  | cons h1 h2 => obtain ⟨u, z, rfl, h3, h4⟩ := two_inv h2; exact ⟨_, _, _, rfl, h1, h3, h4⟩
end K31

namespace K31
open PySem PySem.Spec PyProof.Rows L2 NK Evl
section
variable {P : Program} {w : World} {K : PySem.W.Frag} {mg : Str → Option Value} {base : Heap} {CG CC : Addr}
/-- one datum in, one datum out -/
def spKids : List V → Hp → HR → Prop := fun vs H R => ∃ t, IsAll H [encT t] vs ∧ R = IsV (.tuple ((kidsT t).map encT))
theorem w_kids_of (T : Txt K mg CG CC) : Cal P w K mg base 1 "kids_of" (SpR spKids) := by
  refine cal_of T.d_kids_of sc_kids_of b_kids_of (fun vs H Q E ⟨R, ⟨t, ha, _⟩, _⟩ => ha.length) fun f cdv A outer s H vs Q E hr hq => ?_
  refine ⟨_, (pss_one (ps_ret (pe_ifExp (pt_cmpR op_eq (pe_ix ix_tup (pv 0) pe_int (fun _ _ => rfl)) pe_str (nomark _)) (pe_ix ix_tup (pv 0) pe_int (fun _ _ => rfl)) (pe_tupP pa_nil)))), ?_⟩
  obtain ⟨R, ⟨t, ha, rfl⟩, hQ⟩ := hq
  obtain ⟨v, rfl, hv⟩ := one_inv ha
  refine st_ret (gv_if (gt_tag (gv_var rfl hv)) (fun h => gv_kids (gv_var rfl hv) (of_decide_eq_true h)) (fun h => ?_)) hQ
  rw [kids_no (of_decide_eq_false h)]
  exact gv_tup gi_nil
theorem placesTs_snoc : ∀ (k : Nat) (ts : List Tr) (t : Tr), placesTs k (ts ++ [t]) = placesTs k ts ++ (placesT t).map ((k + ts.length) :: ·)
  | k, [], t => by simp [placesTs]
  | k, u :: ts, t => by
    rw [List.cons_append, placesTs, placesTs, placesTs_snoc (k + 1) ts t, List.append_assoc, List.length_cons, show k + 1 + ts.length = k + (ts.length + 1) by omega]
def spPlaces (n : Nat) : List V → Hp → HR → Prop := fun vs H R => ∃ t, IsAll H [encT t] vs ∧ htT t < n ∧ szT t ≤ 10000 ∧ R = FrV H ((placesT t).map encP)
theorem placesTs_le {ts pre post : List Tr} {d : Tr} (e : ts = pre ++ d :: post) : (placesTs 0 pre).length + (placesT d).length ≤ szTs ts := by
  have h : ∀ k (l m : List Tr), (placesTs k l).length ≤ (placesTs k (l ++ m)).length := by
    intro k l
    induction l generalizing k with
    | nil => intro m; simp [placesTs]
    | cons a l ih => intro m; have := ih (k + 1) m; simp only [List.cons_append, placesTs, List.length_append] at this ⊢; omega
  have h1 := h 0 (pre ++ [d]) post
  rw [placesTs_snoc, List.length_append, List.length_map] at h1
  rw [e, ← placesTs_len 0]
  simpa using h1
theorem szTs_kids (t : Tr) : szTs (kidsT t) ≤ szT t := by
  cases t <;> simp [kidsT, szT, szTs]
theorem w_places_step (T : Txt K mg CG CC) (n : Nat) (c_places : Cal P w K mg base (n + 1) "places" (SpR (spPlaces n))) : Cal P w K mg base (n + 2) "places" (SpR (spPlaces (n + 1))) := by
  refine cal_of T.d_places sc_places b_places (fun vs H Q E ⟨R, ⟨t, ha, _⟩, _⟩ => ha.length) fun f cdv A outer s H vs Q E hr hq => ?_
  have c_kids_of : Cal P w K mg base 1 "kids_of" (SpR spKids) := w_kids_of T
  refine ⟨_, (pss_cons (ps_set (i := 1) sc_places.nd rfl (Or.inl rfl) (pe_lst (pa_cons (pe_tupP pa_nil) pa_nil)))
    (pss_cons (ps_for PassesOwn.never rfl (pi_enumT (by rfl) (T.fr "enumerate" (by decide)) (pa_cons (pe_c c_kids_of hr (by omega) rfl (pa_cons (pv 0) pa_nil)) pa_nil)) (pg_tup rfl (pgs_cons (pg_name (i := 2) sc_places.nd rfl (Or.inl rfl)) (pgs_cons (pg_name (i := 3) sc_places.nd rfl (Or.inl rfl)) pgs_nil)))
      (pss_one (ps_for PassesOwn.never rfl (pi_list (pe_c c_places hr (by omega) rfl (pa_cons (pv 3) pa_nil))) (pg_name (i := 4) sc_places.nd rfl (Or.inl rfl))
        (pss_one (ps_expr (pe_bm PySem.F.plainAttrs_list PySem.F.slot_list_append PySem.F.type_list_append mt_append (pv 1) (pa_cons (pe_op op_catP (pe_tupP (pa_cons (pv 2) pa_nil)) (pv 4)) pa_nil)))))))
    (pss_one (ps_ret (pv 1))))), ?_⟩
  obtain ⟨R, ⟨t, ha, hn, hz, rfl⟩, hQ⟩ := hq
  obtain ⟨v, rfl, hv⟩ := one_inv ha
  refine st_newL (gi_cons (gv_tup gi_nil) gi_nil) (by decide) fun p xs0 H1 np e1 hp hxs0 => ?_
  have hsz : szTs (kidsT t) ≤ 10000 := Nat.le_trans (szTs_kids t) hz
  refine st_forE (f := encT) (gv_call (R := IsV (.tuple ((kidsT t).map encT))) (gi_cons (gv_var rfl (Is.mono e1.tups _ _ hv)) gi_nil) fun vs H1 _ ha => ⟨t, ha, rfl⟩) fun H2 e2 => ?_
  refine ⟨fun pre σ' H' => (∃ a b c, σ' = [some v, some (.ref p), a, b, c]) ∧ Ex H H' ∧ Tups H2 H' ∧ ∃ xs, H' p = some (.lst xs) ∧ IsAll H' (([] :: placesTs 0 pre).map encP) xs, ?_, fun _ _ _ h => h.2.2.1, ?_, ?_⟩
  · exact ⟨⟨_, _, _, rfl⟩, e1.trans e2, Tups.refl _, xs0, e2 _ _ hp, IsAll.mono e2.tups _ _ hxs0⟩
  · rintro pre d post T' x σ' H' el ⟨⟨a, b, c, rfl⟩, x1, x2, xs, hxs, al⟩ nT hx
    have eT := Ex.new (o := .tup [.int (Int.ofNat pre.length), x]) nT
    refine gtup2 (st_of upd_same) ?_
    refine st_forF (f := encP) (gv_callF (gi_cons (gv_var rfl (Is.mono eT.tups _ _ hx)) gi_nil) fun vs H1 _ ha => ⟨d, ha, ?_, ?_, rfl⟩) fun q ys H3 nq e3 hq3 => ?_
    · have := htT_kid (t := t) (k := d) (by rw [el]; simp)
      omega
    · have := szTs_mem (ts := kidsT t) (t := d) (by rw [el]; simp)
      omega
    have hpq : p ≠ q := ne_at (eT _ _ hxs) nq
    refine ⟨fun pre2 σ' H' => (∃ c, σ' = [some v, some (.ref p), some (.int (Int.ofNat pre.length)), some x, c]) ∧ Ex H H' ∧ Tups H3 H' ∧ H' q = some (.lst ys) ∧ ∃ xs, H' p = some (.lst xs) ∧ IsAll H' (([] :: (placesTs 0 pre ++ pre2.map (pre.length :: ·))).map encP) xs, ?_, fun _ _ _ h => ⟨h.2.2.1, h.2.2.2.1⟩, ?_, ?_⟩
    · exact ⟨⟨_, rfl⟩, (x1.trans eT).trans e3, Tups.refl _, hq3, xs, e3 _ _ (eT _ _ hxs), by simpa using IsAll.mono e3.tups _ _ (IsAll.mono eT.tups _ _ al)⟩
    · rintro pre2 d2 post2 y σ2 H4 el2 ⟨⟨c2, rfl⟩, y1, y2, hq4, xs2, hxs2, al2⟩ hy
      have le := placesTs_le el
      have le2 : pre2.length < (placesT d).length := by rw [el2]; simp
      refine st_app hxs2 (ev_var rfl) (gv_cat (gv_tup (gi_cons (gv_var rfl (Is.int _)) gi_nil)) (gv_var rfl hy) ?_) ?_ fun z H5 e5 r5 => ?_
      · have h1 := placesT_ht d d2 (by rw [el2]; simp)
        have h2 := htT_kid (t := t) (k := d) (by rw [el]; simp)
        have h3 := htT_sz t
        simp
        show _ ≤ 16777216
        omega
      · rw [al2.length]
        simp
        show _ < 16777216
        omega
      · have hx5 := e5 _ _ hxs2
        refine ⟨⟨_, rfl⟩, Ex.mut (y1.trans e5) np, (y2.trans e5.tups).trans (Tups.mut (mut_at hx5)), ?_, _, upd_same, ?_⟩
        · rw [upd_ne (Ne.symm hpq)]
          exact e5 _ _ hq4
        · have h6 : Tups H5 (upd H5 p (.lst (xs2 ++ [z]))) := Tups.mut (mut_at hx5)
          have := (IsAll.mono h6 _ _ (IsAll.mono e5.tups _ _ al2)).append (.cons (Is.mono h6 _ _ r5) .nil)
          simpa [encP] using this
    · rintro σ2 H4 ⟨⟨c2, rfl⟩, y1, y2, hq4, xs2, hxs2, al2⟩
      exact ⟨⟨_, _, _, rfl⟩, y1, (x2.trans eT.tups).trans (e3.tups.trans y2), xs2, hxs2, by rw [placesTs_snoc, Nat.zero_add]; exact al2⟩
  · rintro σ' H' ⟨⟨a, b, c, rfl⟩, x1, x2, xs, hxs, al⟩
    exact st_ret (gv_ref rfl) fun v1 H4 e4 r4 => hQ v1 H4 (x1.trans e4) ⟨p, xs, r4, np, e4 _ _ hxs, by rw [placesT_eq]; exact IsAll.mono e4.tups _ _ al⟩
end
end K31

namespace K31
open PySem PySem.Spec PyProof.Rows L2 NK Evl
section
variable {P : Program} {w : World} {K : PySem.W.Frag} {mg : Str → Option Value} {base : Heap} {CG CC : Addr}
theorem w_places (T : Txt K mg CG CC) : ∀ n, Cal P w K mg base (n + 1) "places" (SpR (spPlaces n))
  | 0 => cal_none 1 (fun vs H Q E ⟨R, ⟨t, _, h, _⟩, _⟩ => by omega) T.d_places b_places
  | n + 1 => w_places_step T n (w_places T n)
theorem pieceAt_app : ∀ (p q : Place) (t : Tr), pieceAt t (p ++ q) = (pieceAt t p).bind fun u => pieceAt u q
  | [], q, t => by simp [pieceAt]
  | i :: p, q, t => by
    rw [List.cons_append, pieceAt, pieceAt]
    cases h : (kidsT t)[i]? with
    | none => rfl
    | some u => exact pieceAt_app p q u
theorem pieceAt_snoc : ∀ (p : Place) (t : Tr) (k : Nat), pieceAt t (p ++ [k]) = (pieceAt t p).bind fun u => (kidsT u)[k]?
  | [], t, k => by
    simp only [List.nil_append, pieceAt, Option.bind_some]
    cases h : (kidsT t)[k]? <;> rfl
  | i :: p, t, k => by
    rw [List.cons_append, pieceAt, pieceAt]
    cases h : (kidsT t)[i]? with
    | none => rfl
    | some u => exact pieceAt_snoc p u k
def spPieceAt : List V → Hp → HR → Prop := fun vs H R => ∃ t p u, IsAll H [encT t, encP p] vs ∧ pieceAt t p = some u ∧ R = IsV (encT u)
theorem w_piece_at (T : Txt K mg CG CC) : Cal P w K mg base 2 "piece_at" (SpR spPieceAt) := by
  refine cal_of T.d_piece_at sc_piece_at b_piece_at (fun vs H Q E ⟨R, ⟨t, p, u, ha, _⟩, _⟩ => ha.length) fun f cdv A outer s H vs Q E hr hq => ?_
  have c_kids_of : Cal P w K mg base 1 "kids_of" (SpR spKids) := w_kids_of T
  refine ⟨_, (pss_cons (ps_set (i := 2) sc_piece_at.nd rfl (Or.inl rfl) (pv 0))
    (pss_cons (ps_for PassesOwn.never rfl (pi_tup (pv 1)) (pg_name (i := 3) sc_piece_at.nd rfl (Or.inl rfl))
      (pss_cons (ps_set (i := 4) sc_piece_at.nd rfl (Or.inl rfl) (pe_c c_kids_of hr (by omega) rfl (pa_cons (pv 2) pa_nil)))
      (pss_cons (ps_if (pt_not (pt_chain op_le op_lt pe_int (pv 3) (pe_callB cr_len rfl (T.fr "len" (by decide)) (by decide +kernel) (pa_cons (pv 4) pa_nil))))
        pss_never
        pss_nil)
      (pss_one (ps_set (i := 2) sc_piece_at.nd rfl (Or.inl rfl) (pe_ix ix_tup (pv 4) (pv 3) (fun _ _ => rfl)))))))
    (pss_one (ps_ret (pv 2))))), ?_⟩
  obtain ⟨R, ⟨t, p, u, ha, hu, rfl⟩, hQ⟩ := hq
  obtain ⟨v, vp, rfl, hv, hp⟩ := two_inv ha
  refine st_asg (R := IsV (encT t)) (gv_var rfl hv) fun v1 H1 e1 r1 => ?_
  refine st_forT (l := p) (gv_var rfl (Is.mono e1.tups _ _ hp)) fun H2 e2 => ?_
  refine ⟨fun pre σ' H' => ∃ x a b u', σ' = [some v, some vp, some x, a, b] ∧ Ex H H' ∧ Tups H2 H' ∧ pieceAt t pre = some u' ∧ Is H' (encT u') x, ?_, fun _ _ _ ⟨_, _, _, _, _, _, h, _⟩ => h, ?_, ?_⟩
  · exact ⟨_, _, _, t, rfl, e1.trans e2, Tups.refl _, rfl, Is.mono e2.tups _ _ r1⟩
  · rintro pre d post x σ' H' el ⟨z, a, b, u', rfl, x1, x2, hu', hz⟩ hx
    rw [hx.int_inv]
    refine st_asg (gv_call (R := IsV (.tuple ((kidsT u').map encT))) (gi_cons (gv_var rfl hz) gi_nil) fun vs H1 _ ha => ⟨u', ha, rfl⟩) fun vk H3 e3 r3 => ?_
    have hk : ∃ u2, (kidsT u')[d]? = some u2 := by
      have h1 : pieceAt t (pre ++ d :: post) = some u := by rw [← el, hu]
      rw [pieceAt_app, hu'] at h1
      cases h2 : (kidsT u')[d]? with
      | some u2 => exact ⟨u2, rfl⟩
      | none =>
        simp only [Option.bind_some, pieceAt, h2] at h1
        cases h1
    obtain ⟨u2, hk⟩ := hk
    have hlt : d < (kidsT u').length := (List.getElem?_eq_some_iff.mp hk).1
    dsimp only
    refine sq (st_if (b := false) ?_ (fun h => by cases h) fun _ H4 e4 => ?_)
    · refine et_is (et_not (gt_test (gv_chain gv_int (gv_var rfl (Is.int (Int.ofNat d))) (gv_lenT (gv_var rfl r3))))) ?_
      simp
      omega
    · refine st_asg (R := IsV (encT u2)) (gv_ixT (i := Int.ofNat d) (gv_var rfl (Is.mono e4.tups _ _ r3)) (gv_var rfl (Is.int _)) (atI_nat (by simp [hk]))) fun v5 H5 e5 r5 => ?_
      refine ⟨v5, _, _, u2, rfl, ((x1.trans e3).trans e4).trans e5, ((x2.trans e3.tups).trans e4.tups).trans e5.tups, by rw [pieceAt_snoc, hu']; exact hk, r5⟩
  · rintro σ' H' ⟨z, a, b, u', rfl, x1, x2, hu', hz⟩
    rw [hu] at hu'
    cases hu'
    exact st_ret (gv_var rfl hz) fun v1 H4 e4 r4 => hQ v1 H4 (x1.trans e4) r4
end
end K31

namespace K31
open PySem PySem.Spec PyProof.Rows L2 NK Evl
section
variable {P : Program} {w : World} {K : PySem.W.Frag} {mg : Str → Option Value} {base : Heap} {CG CC : Addr}
def Okt (t : Tr) : Prop := htT t < 8 ∧ szT t ≤ 100
abbrev dStrs (l : List Str) : List PyData := l.map PyData.str
def spFeet : List V → Hp → HR → Prop := fun vs H R => ∃ t, IsAll H [encT t] vs ∧ Okt t ∧ R = LsV (dStrs (feetT t))
theorem pieces_map (t : Tr) : ((placesT t).filter (fun _ => true)).map (fun p => encT ((pieceAt t p).getD .void)) = (piecesT t).map encT := by
  rw [List.filter_eq_self.mpr (by simp)]
  have h := pieces_at t
  have h2 : (placesT t).map (fun p => encT ((pieceAt t p).getD .void)) = ((placesT t).map (pieceAt t)).map fun o => encT (o.getD .void) := by rw [List.map_map]; rfl
  rw [h2, h, List.map_map]
  rfl
theorem tag_cases {u : Tr} {s : Str} (h : tagT u = s) : s = "sign" ∨ s = "void" ∨ s = "hole" ∨ s = "foot" ∨ s = "knot" := by
  subst h
  cases u <;> simp [tagT]
theorem foot_tag (u : Tr) : footOf u = if tagT u = "foot" then [nameT u] else [] := by
  cases u with
  | foot n => rfl
  | sign s => exact (if_neg (by simp only [tagT]; decide)).symm
  | void => exact (if_neg (by simp only [tagT]; decide)).symm
  | hole s => exact (if_neg (by simp only [tagT]; decide)).symm
  | knot a b c => exact (if_neg (by simp only [tagT]; decide)).symm
theorem feet_filter (t : Tr) : ((piecesT t).filter (fun u => decide (tagT u = "foot"))).map (fun u => PyData.str (nameT u)) = dStrs (feetT t) := by
  rw [feet_pieces]
  induction piecesT t with
  | nil => rfl
  | cons u us ih =>
    rw [List.flatMap_cons, foot_tag, List.filter_cons]
    by_cases h : tagT u = "foot"
    · simp [h, ih]
    · simp [h, ih]
theorem piecesT_len (t : Tr) : (piecesT t).length = szT t := by
  have := congrArg List.length (pieces_at t)
  simpa [placesT_len] using this.symm
theorem not_void {u : Tr} {s : Str} (h : tagT u = s) (n : s ≠ "void" := by decide) : tagT u ≠ "void" := h ▸ n
theorem w_feet_of (T : Txt K mg CG CC) : Cal P w K mg base 10 "feet_of" (SpR spFeet) := by
  refine cal_of T.d_feet_of sc_feet_of b_feet_of (fun vs H Q E ⟨R, ⟨t, ha, _⟩, _⟩ => ha.length) fun f cdv A outer s H vs Q E hr hq => ?_
  have c_places : Cal P w K mg base 9 "places" (SpR (spPlaces 8)) := w_places T 8
  have c_piece_at : Cal P w K mg base 2 "piece_at" (SpR spPieceAt) := w_piece_at T
  refine ⟨_, (pss_cons (ps_setLc (i := 1) rfl sc_feet_of.nd rfl rfl (sw_true rfl rfl rfl (by decide +kernel)) (pi_list (pe_c c_places hr (by omega) rfl (pa_cons (pv 0) pa_nil))) (blkOk_by (own := [("place", 2)]) (N := N_feet_of) (sc := defScope s_feet_of) (by decide +kernel)) (fun _ _ _ _ _ => (pg_name (i := 2) sc_feet_of.nd rfl (Or.inl rfl))) (fun _ _ _ _ _ => pts_nil) (fun _ _ _ _ _ => (pe_c c_piece_at hr (by omega) rfl (pa_cons (pv 0) (pa_cons (pv 2) pa_nil)))))
    (pss_one (ps_ret (pe_lc rfl sc_feet_of.nd (pi_list (pv 1)) (blkOk_by (own := [("piece", 3)]) (N := N_feet_of) (sc := defScope s_feet_of) (by decide +kernel)) (fun _ _ _ _ _ => (pg_name (i := 3) sc_feet_of.nd rfl (Or.inl rfl))) (fun _ _ _ _ _ => (pts_one (pt_cmpR op_eq (pe_ix (show IxR _ (rIxT K) from ix_tup) (pv 3) pe_int (fun _ _ => rfl)) pe_str (nomark _)))) (fun _ _ _ _ _ => (pe_ix (show IxR _ (rIxT K) from ix_tup) (pv 3) pe_int (fun _ _ => rfl))))))), ?_⟩
  obtain ⟨R, ⟨t, ha, ⟨ok1, ok2⟩, rfl⟩, hQ⟩ := hq
  obtain ⟨v, rfl, hv⟩ := one_inv ha
  refine st_asg (R := LsV ((piecesT t).map encT)) ?_ fun v1 H1 e1 r1 => ?_
  · rw [← pieces_map]
    refine gv_lcL (f := encP) _ _ (gv_ls (gv_callF (gi_cons (gv_var rfl hv) gi_nil) fun vs H1 _ ha => ⟨t, ha, ok1, by omega, rfl⟩)) ?_ fun d x H1 hd e hx => ⟨ev_yes, fun _ => gv_call (gi_cons (gv_var rfl (Is.mono e.tups _ _ hv)) (gi_cons (gv_var rfl hx) gi_nil)) fun vs H2 e2 ha => ?_⟩
    · rw [placesT_len]
      show _ ≤ 16777216
      omega
    · obtain ⟨u, hu, _⟩ := pieceAt_places hd
      exact ⟨t, d, u, ha, hu, by rw [hu]; rfl⟩
  · dsimp only
    refine st_ret (R := LsV (dStrs (feetT t))) ?_ fun v2 H2 e2 r2 => hQ v2 H2 (e1.trans e2) r2
    rw [← feet_filter]
    refine gv_lcL (f := encT) _ _ (gv_var rfl r1) ?_ fun d x H1 hd e hx => ⟨gt_tag (gv_var rfl hx), fun h => gv_nm (gv_var rfl hx) (not_void (of_decide_eq_true h))⟩
    rw [piecesT_len]
    show _ ≤ 16777216
    omega
def isGraft (t : Tr) : Bool := decide ((feetT t).length = 1)
def nameOf (t : Tr) : Str := if (feetT t).length = 1 then (feetT t).headD "" else nameT t
def spIsG : List V → Hp → HR → Prop := fun vs H R => ∃ t, IsAll H [encT t] vs ∧ Okt t ∧ R = IsV (.bool (isGraft t))
def spNameOf : List V → Hp → HR → Prop := fun vs H R => ∃ t, IsAll H [encT t] vs ∧ Okt t ∧ tagT t ≠ "void" ∧ R = IsV (.str (nameOf t))
theorem gv_lenS {K : PySem.W.Frag} {σ : L2.St} {H : Hp} {ta : TE} {l : List Str} (h : Gv ta σ H (LsV (dStrs l))) : Gv (tCB (rLn K) (tCons ta tNil)) σ H (IsV (.int (Int.ofNat l.length))) := by
  have := gv_lenL (K := K) h
  simpa [dStrs] using this
theorem w_is_graft (T : Txt K mg CG CC) : Cal P w K mg base 11 "is_graft" (SpR spIsG) := by
  refine cal_of T.d_is_graft sc_is_graft b_is_graft (fun vs H Q E ⟨R, ⟨t, ha, _⟩, _⟩ => ha.length) fun f cdv A outer s H vs Q E hr hq => ?_
  have c_feet_of : Cal P w K mg base 10 "feet_of" (SpR spFeet) := w_feet_of T
  refine ⟨_, (pss_one (ps_ret (pe_cmpR op_eq (pe_callB cr_len rfl (T.fr "len" (by decide)) (by decide +kernel) (pa_cons (pe_c c_feet_of hr (by omega) rfl (pa_cons (pv 0) pa_nil)) pa_nil)) pe_int (nomark _)))), ?_⟩
  obtain ⟨R, ⟨t, ha, ok, rfl⟩, hQ⟩ := hq
  obtain ⟨v, rfl, hv⟩ := one_inv ha
  refine st_ret (gv_is (gv_eqI (gv_lenS (gv_call (gi_cons (gv_var rfl hv) gi_nil) fun vs H1 _ ha => ⟨t, ha, ok, rfl⟩)) gv_int) ?_) hQ
  unfold isGraft
  congr 1
  have : (Int.ofNat (feetT t).length = 1) ↔ (feetT t).length = 1 := by constructor <;> (intro h; simp at h ⊢; omega)
  simp only [this]
theorem w_name_of (T : Txt K mg CG CC) : Cal P w K mg base 11 "name_of" (SpR spNameOf) := by
  refine cal_of T.d_name_of sc_name_of b_name_of (fun vs H Q E ⟨R, ⟨t, ha, _⟩, _⟩ => ha.length) fun f cdv A outer s H vs Q E hr hq => ?_
  have c_feet_of : Cal P w K mg base 10 "feet_of" (SpR spFeet) := w_feet_of T
  refine ⟨_, (pss_cons (ps_set (i := 1) sc_name_of.nd rfl (Or.inl rfl) (pe_c c_feet_of hr (by omega) rfl (pa_cons (pv 0) pa_nil)))
    (pss_one (ps_ret (pe_ifExp (pt_cmpR op_eq (pe_callB cr_len rfl (T.fr "len" (by decide)) (by decide +kernel) (pa_cons (pv 1) pa_nil)) pe_int (nomark _)) (pe_ix ix_list (pv 1) pe_int (fun _ _ => rfl)) (pe_ix ix_tup (pv 0) pe_int (fun _ _ => rfl)))))), ?_⟩
  obtain ⟨R, ⟨t, ha, ok, nv, rfl⟩, hQ⟩ := hq
  obtain ⟨v, rfl, hv⟩ := one_inv ha
  refine st_asg (gv_call (R := LsV (dStrs (feetT t))) (gi_cons (gv_var rfl hv) gi_nil) fun vs H1 _ ha => ⟨t, ha, ok, rfl⟩) fun v1 H1 e1 r1 => ?_
  refine st_ret (R := IsV (.str (nameOf t))) (gv_if (gt_test (gv_eqI (gv_lenS (gv_var rfl r1)) gv_int)) (fun h => ?_) fun h => ?_) fun v2 H2 e2 r2 => hQ v2 H2 (e1.trans e2) r2
  · have h1 : (feetT t).length = 1 := by have := of_decide_eq_true h; simp at this; omega
    refine gv_ixL (gv_var rfl r1) gv_int ?_
    unfold nameOf
    rw [if_pos h1]
    match feetT t, h1 with
    | [x], _ => rfl
  · have h1 : ¬ (feetT t).length = 1 := by have := of_decide_eq_false h; simp at this; omega
    unfold nameOf
    rw [if_neg h1]
    exact gv_nm (gv_var rfl (Is.mono e1.tups _ _ hv)) nv
def nameAt : Tr → PyData
  | .hole n => .tuple [.bool false, .str n]
  | .knot _ (some (g, _)) _ => .tuple [.bool true, .str g]
  | _ => .none
def spNameAt : List V → Hp → HR → Prop := fun vs H R => ∃ t, IsAll H [encT t] vs ∧ R = IsV (nameAt t)
theorem isN_tk (o : Option (Str × Bool)) : isN (encTk o) = o.isNone := by cases o <;> rfl
theorem w_name_at (T : Txt K mg CG CC) : Cal P w K mg base 1 "name_at" (SpR spNameAt) := by
  refine cal_of T.d_name_at sc_name_at b_name_at (fun vs H Q E ⟨R, ⟨t, ha, _⟩, _⟩ => ha.length) fun f cdv A outer s H vs Q E hr hq => ?_
  refine ⟨_, (pss_cons (ps_if (pt_cmpR op_eq (pe_ix ix_tup (pv 0) pe_int (fun _ _ => rfl)) pe_str (nomark _))
      (pss_one (ps_ret (pe_tupP (pa_cons pe_bl (pa_cons (pe_ix ix_tup (pv 0) pe_int (fun _ _ => rfl)) pa_nil)))))
      pss_nil)
    (pss_cons (ps_if (pw_and (pt_cmpR op_eq (pe_ix ix_tup (pv 0) pe_int (fun _ _ => rfl)) pe_str (nomark _)) (pw_and1 (pt_cmp (pc_notN (pe_ix ix_tup (pv 0) pe_int (fun _ _ => rfl)))))).pt
      (pss_one (ps_ret (pe_tupP (pa_cons pe_bl (pa_cons (pe_ix ix_tup (pe_ix ix_tup (pv 0) pe_int (fun _ _ => rfl)) pe_int (fun _ _ => rfl)) pa_nil)))))
      pss_nil)
    (pss_one (ps_ret pe_non)))), ?_⟩
  obtain ⟨R, ⟨t, ha, rfl⟩, hQ⟩ := hq
  obtain ⟨v, rfl, hv⟩ := one_inv ha
  refine sq (st_if (gt_tag (gv_var rfl hv)) (fun h H1 e1 => ?_) fun h H1 e1 => ?_)
  · have ht := of_decide_eq_true h
    refine st_ret (R := IsV (nameAt t)) (gv_is (gv_tup (gi_cons gv_bl (gi_cons (gv_nm (gv_var rfl (Is.mono e1.tups _ _ hv)) (not_void ht)) gi_nil))) ?_) fun v2 H2 e2 r2 => hQ v2 H2 (e1.trans e2) r2
    cases t with
    | hole n => rfl
    | _ => exact absurd ht (by simp only [tagT]; decide)
  · have ht := of_decide_eq_false h
    have hv1 := Is.mono e1.tups _ _ hv
    dsimp only [tNext]
    refine sq (st_if (et_and (gt_tag (gv_var rfl hv1)) fun h2 => gt_B (gv_notND (gv_tk (gv_var rfl hv1) (of_decide_eq_true h2)))) (fun h2 H2 e2 => ?_) fun h2 H2 e2 => ?_)
    · rw [isN_tk, Bool.and_eq_true] at h2
      obtain ⟨h2, h3⟩ := h2
      have hv2 := Is.mono e2.tups _ _ hv1
      cases t with
      | knot n tk ks =>
        cases tk with
        | none => cases h3
        | some gb =>
          obtain ⟨g, b⟩ := gb
          refine st_ret (R := IsV (nameAt (.knot n (some (g, b)) ks))) (gv_tup (gi_cons gv_bl (gi_cons (gv_ixT (gv_tk (gv_var rfl hv2) rfl) gv_int rfl) gi_nil))) fun v2 H3 e3 r2 => hQ v2 H3 ((e1.trans e2).trans e3) r2
      | _ => exact absurd (of_decide_eq_true h2) (by simp only [tagT]; decide)
    · have e : nameAt t = .none := by
        cases t with
        | hole n => exact absurd rfl ht
        | knot n tk ks =>
          cases tk with
          | none => rfl
          | some gb => exact absurd h2 (by simp [tagT, takesT, isN_tk])
        | _ => rfl
      dsimp only [tNext]
      rw [e] at hQ
      exact st_ret gv_non fun v2 H3 e3 r2 => hQ v2 H3 ((e1.trans e2).trans e3) r2
end
end K31

/-! dicts whose keys are data of one type -/
namespace NK
open PySem PySem.Spec PyProof.Rows L2 Evl K31

/-- a type of keys -/
structure KeyE {κ : Type} (enc : κ → PyData) : Prop where
  inj : ∀ a b, keyDa (enc a) = keyDa (enc b) → a = b
  dp : ∀ a, (keyDa (enc a)).depth ≤ 8
def TAt {κ : Type} (enc : κ → PyData) (w : World) (H : Hp) (a : Addr) (l : List (κ × V)) : Prop :=
  ∃ kvs ep, DRaw w H a kvs ep ∧ Paired (fun (x : KE) (p : κ × V) => x.1 = keyDa (enc p.1) ∧ Is H (enc p.1) x.2.1 ∧ x.2.2 = p.2) kvs l
section
variable {κ : Type} [DecidableEq κ] {enc : κ → PyData} {w : World} {H H' : Hp} {a : Addr} {l : List (κ × V)}
theorem strip_of {kvs : List KE} {l : List (κ × V)} (p : Paired (fun (x : KE) (p : κ × V) => x.1 = keyDa (enc p.1) ∧ Is H (enc p.1) x.2.1 ∧ x.2.2 = p.2) kvs l) : strip kvs = l.map fun p => (keyDa (enc p.1), p.2) := by
  induction p with
  | nil => rfl
  | cons q t ih => rw [List.map_cons, ← ih, ← q.1, ← q.2.2]; rfl
theorem TAt.dat (h : TAt enc w H a l) : DAt w H a (l.map fun p => (keyDa (enc p.1), p.2)) := by
  obtain ⟨kvs, ep, d, p⟩ := h
  exact ⟨kvs, ep, d, strip_of p⟩
theorem TAt.at_ (h : TAt enc w H a l) : ∃ o, H a = some o ∧ Mut (some o) := by
  obtain ⟨kvs, ep, d, p⟩ := h
  exact ⟨_, d.at_, trivial⟩
theorem TAt.mut (h : TAt enc w H a l) : Mut (H a) := h.dat.mut
theorem paired_imp {α β : Type} {F G : α → β → Prop} (h : ∀ a b, F a b → G a b) {l : List α} {m : List β} (p : Paired F l m) : Paired G l m := by
  induction p with
  | nil => exact .nil
  | cons q t ih => exact .cons (h _ _ q) ih
theorem TAt.mono (h : TAt enc w H a l) (e : H' a = H a) (t : Tups H H') : TAt enc w H' a l := by
  obtain ⟨kvs, ep, d, p⟩ := h
  exact ⟨kvs, ep, d.mono e t, paired_imp (fun _ _ q => ⟨q.1, Is.mono t _ _ q.2.1, q.2.2⟩) p⟩
theorem TAt.ex (h : TAt enc w H a l) (e : Ex H H') : TAt enc w H' a l := by
  obtain ⟨o, ho, _⟩ := h.at_
  exact h.mono (by rw [ho]; exact e _ _ ho) e.tups
theorem TAt.len (h : TAt enc w H a l) : l.length ≤ sizeLine := by
  have := h.dat.len
  rwa [List.length_map] at this
theorem TAt.nodup (h : TAt enc w H a l) : (l.map (·.1)).Nodup := by
  have := h.dat.nodup
  rw [List.map_map] at this
  have e : ((fun x : NestedKey × V => x.1) ∘ fun p : κ × V => (keyDa (enc p.1), p.2)) = (fun k => keyDa (enc k)) ∘ fun p => p.1 := rfl
  rw [e, ← List.map_map] at this
  unfold List.Nodup at this ⊢
  rw [List.pairwise_map] at this
  exact this.imp fun h e => h (by rw [e])
theorem valV_t (hk : KeyE enc) (k : κ) : ∀ l : List (κ × V), valV (l.map fun p => (keyDa (enc p.1), p.2)) (keyDa (enc k)) = valV l k
  | [] => rfl
  | p :: r => by
    rw [List.map_cons]
    by_cases e : p.1 = k
    · rw [valV_pos (p := p) e, valV_pos (p := (keyDa (enc p.1), p.2)) (by rw [e])]
    · rw [valV_neg (p := p) e, valV_neg (p := (keyDa (enc p.1), p.2)) (fun z => e (hk.inj _ _ z)), valV_t hk k r]
theorem any_t (hk : KeyE enc) {k : κ} {kvs : List KE} {l : List (κ × V)} (p : Paired (fun (x : KE) (p : κ × V) => x.1 = keyDa (enc p.1) ∧ Is H (enc p.1) x.2.1 ∧ x.2.2 = p.2) kvs l) :
    (kvs.any fun x => decide (x.1 = keyDa (enc k))) = l.any fun p => decide (p.1 = k) := by
  induction p with
  | nil => rfl
  | @cons x y _ _ q t ih =>
    rw [List.any_cons, List.any_cons, ih]
    congr 1
    by_cases e : y.1 = k
    · rw [decide_eq_true (by rw [q.1, e]), decide_eq_true e]
    · rw [decide_eq_false (fun z => e (hk.inj _ _ (q.1.symm.trans z))), decide_eq_false e]
theorem put_t (hk : KeyE enc) {k : κ} {kv v : V} {kvs : List KE} {l : List (κ × V)} (t : Tups H H') (p : Paired (fun (x : KE) (p : κ × V) => x.1 = keyDa (enc p.1) ∧ Is H (enc p.1) x.2.1 ∧ x.2.2 = p.2) kvs l) (hi : Is H (enc k) kv) :
    Paired (fun (x : KE) (p : κ × V) => x.1 = keyDa (enc p.1) ∧ Is H' (enc p.1) x.2.1 ∧ x.2.2 = p.2) (putE kvs (keyDa (enc k)) kv v) (putK l k v) := by
  have p' := paired_imp (G := fun (x : KE) (p : κ × V) => x.1 = keyDa (enc p.1) ∧ Is H' (enc p.1) x.2.1 ∧ x.2.2 = p.2) (fun _ _ q => ⟨q.1, Is.mono t _ _ q.2.1, q.2.2⟩) p
  unfold putE putK
  rw [any_t hk p]
  split
  · refine paired_map (fun x y q => ?_) p'
    by_cases e : y.1 = k
    · rw [if_pos (by rw [q.1, e]), if_pos e]
      exact ⟨q.1, q.2.1, rfl⟩
    · rw [if_neg (fun z => e (hk.inj _ _ (q.1.symm.trans z))), if_neg e]
      exact q
  · exact paired_snoc (F := fun (x : KE) (p : κ × V) => x.1 = keyDa (enc p.1) ∧ Is H' (enc p.1) x.2.1 ∧ x.2.2 = p.2) (a := (keyDa (enc k), kv, v)) (b := (k, v)) ⟨rfl, Is.mono t _ _ hi, rfl⟩ p'
end
/-! ### raw rules -/
section
variable {X : Cx} {pins : List (Addr × Obj)} {σ : L2.St} {H : Hp} {s : Shared} {a : Addr} {kvs : List KE} {ep : Nat} {k : NestedKey} {kv v x : V} {u r : Value}
theorem d_setR {Q : Unit → Shared → Prop} {A : Around} {E : Value → Shared → Prop} (hu : A.in1.units + 8 < cLine) (I : Inv X pins σ H s) (d : DRaw X.w H a kvs ep) (n : Nk H k kv) (hz : k.depth ≤ 8) (hl : kvs.length < sizeLine) (rk : RelV kv u) (rv : RelV v r)
    (h : ∀ o ep' s', DRaw X.w (upd H a o) a (putE kvs k kv v) ep' → Tups H (upd H a o) → Inv X pins σ (upd H a o) s' → Q () s') : wpAny (model X.prog X.w) A (setItem (.ref a) u r) Q E s := by
  obtain ⟨xs, dm, pr, hx⟩ := dm_of I d
  refine setItemM hu (mkey_of I n hz rk) dm (fun h' dm' hs => ?_) hx
  obtain ⟨ep', ok⟩ := raw_ok (P := X.prog) (H := upd H a (.ext (RawD X.w a (putE kvs k kv v) 0))) dm' (rel_put rk rv pr)
  refine h _ _ _ (at_put d n hz hl) (Tups.mut (by rw [d.at_]; trivial)) (d_write (t' := s.toks + k.draws) I (by rw [d.at_]; trivial) hs ?_ ok)
  obtain ⟨o, _, _, ho, _⟩ := dm'
  exact ⟨o, ho⟩
theorem d_setdefR {Q : Value → Shared → Prop} {A : Around} {E : Value → Shared → Prop} (hu : A.in1.units + 8 < cLine) (I : Inv X pins σ H s) (d : DRaw X.w H a kvs ep) (n : Nk H k kv) (hz : k.depth ≤ 8) (hl : kvs.length < sizeLine) (rk : RelV kv u) (rx : RelV x r)
    (h1 : ∀ v w' s', valV (strip kvs) k = some v → Inv X pins σ H s' → RelV v w' → Q w' s')
    (h2 : valV (strip kvs) k = none → ∀ o ep' w' s', DRaw X.w (upd H a o) a (putE kvs k kv x) ep' → Tups H (upd H a o) → Inv X pins σ (upd H a o) s' → RelV x w' → Q w' s') : wpAny (model X.prog X.w) A (call (.builtin "dict.setdefault") [.ref a, u, r]) Q E s := by
  obtain ⟨xs, dm, pr, hx⟩ := dm_of I d
  have q := rel_val (k := k) pr
  refine setdefaultM hu (mkey_of I n hz rk) d.ns dm (fun p hp => ?_) (fun hn h' dm' hs => ?_) hx
  · rw [hp] at q
    cases e : valV (strip kvs) k with
    | none =>
      rw [e] at q
      exact (show False from q).elim
    | some v0 =>
      rw [e] at q
      exact h1 v0 _ _ e (I.tok _) q
  · rw [hn] at q
    have e : valV (strip kvs) k = none := by
      cases e : valV (strip kvs) k with
      | none => rfl
      | some v0 =>
        rw [e] at q
        exact (show False from q).elim
    obtain ⟨ep', ok⟩ := raw_ok (P := X.prog) (H := upd H a (.ext (RawD X.w a (putE kvs k kv x) 0))) dm' (rel_put rk rx pr)
    refine h2 e _ _ _ _ (at_put d n hz hl) (Tups.mut (by rw [d.at_]; trivial)) (d_write (t' := s.toks + k.draws) I (by rw [d.at_]; trivial) hs ?_ ok) rx
    obtain ⟨o, _, _, ho, _⟩ := dm'
    exact ⟨o, ho⟩
end
/-! ### readings -/
def rSetR (w : World) : TSet := fun o y v H Q => ∃ a kvs ep k, o = .ref a ∧ DRaw w H a kvs ep ∧ Nk H k y ∧ k.depth ≤ 8 ∧ kvs.length < sizeLine ∧ ∀ ob ep', DRaw w (upd H a ob) a (putE kvs k y v) ep' → Tups H (upd H a ob) → Q (upd H a ob)
def tSetDefR (w : World) (td ty tx : TE) : TE := fun σ H Q => td σ H fun x H1 => ∃ a l, x = .ref a ∧ DAt w H1 a l ∧ ty σ H1 fun y H2 => tx σ H2 fun z H3 => ∃ kvs ep k, DRaw w H3 a kvs ep ∧ Nk H3 k y ∧ k.depth ≤ 8 ∧ kvs.length < sizeLine ∧
  (∀ v, valV (strip kvs) k = some v → Q v H3) ∧ (valV (strip kvs) k = none → ∀ ob ep', DRaw w (upd H3 a ob) a (putE kvs k y z) ep' → Tups H3 (upd H3 a ob) → Q z (upd H3 a ob))
def rDictR (w : World) : List V → Hp → VK → Prop := fun vs H Q => ∃ (a : Addr) (kvs : List KE) (ep : Nat), vs = [.ref a] ∧ DRaw w H a kvs ep ∧ (∀ x ∈ kvs, ∃ ks, x.1 = .tup ks) ∧ (kvs.map fun x => x.1.hash w).Nodup ∧ ∀ p ob ep', H p = none → DRaw w (upd H p ob) p kvs ep' → Q (.ref p) (upd H p ob)
section
variable {X : Cx}
theorem set_ndR (hu : X.A.units + 64 < cLine) : PSet X (rSetR X.w) := by
  intro pins s σ H o i v ov iv u Q I ro ri rv h
  obtain ⟨a, kvs, ep, k, rfl, d, n, hz, hl, q⟩ := h
  cases ro
  exact d_setR (hu1 hu) I d n hz hl ri rv fun ob ep' s' d' t' I' => ⟨_, I', q ob ep' d' t'⟩
variable {o e f : Expr} {apos cpos : Pos} {td ty tx : TE}
theorem pe_dsetdefR (hu : X.A.units + 64 < cLine) (ho : PE X o td) (he : PE X e ty) (hf : PE X f tx) (m : M2 X o "setdefault" apos e f cpos) : PE X (.Call (.Attribute o "setdefault" apos) [e, f] [] cpos) (tSetDefR X.w td ty tx) := by
  refine ⟨fun pins s σ H Q I h => ?_⟩
  refine wpAny_Call_method m.base m.few m.line PySem.F.plainAttrs_dict PySem.F.slot_dict_setdefault PySem.F.type_dict_setdefault (thn (ho.run pins s σ H _ I h) fun u s1 ⟨x, H1, I1, rx, a, l, ex, d, q1⟩ => ?_)
  subst ex
  obtain rfl : u = Value.ref a := rx
  obtain ⟨t1, t2⟩ := d_is I1 d
  refine ⟨t1, t2, ?_⟩
  rw [m.trees]
  refine Calls.callWith_builtin rfl (Calls.evalArgs_plain (Calls.spliced_cons (thn (he.run pins s1 σ H1 _ I1 q1) fun iv s2 ⟨y, H2, I2, ry, q2⟩ =>
    Calls.spliced_cons (thn (hf.run pins s2 σ H2 _ I2 q2) fun fv s3 ⟨z, H3, I3, rz, kvs, ep, k, d', n, hz, hl, q3, q4⟩ => Calls.spliced_nil ?_))))
  exact d_setdefR (hu1 hu) I3 d' n hz hl ry rz (fun v w' s4 hv I4 rw' => ⟨v, H3, I4, rw', q3 v hv⟩) fun hn ob ep' w' s4 d4 t4 I4 rw' => ⟨z, _, I4, rw', q4 hn ob ep' d4 t4⟩
theorem cr_dictR (hu : X.A.units + 64 < cLine) : CallR X (.type "dict") (rDictR X.w) := by
  intro pins s σ H xs us Q I r h
  obtain ⟨a, kvs, ep, rfl, d, ht, hh, q⟩ := h
  obtain ⟨u, rfl, rx⟩ := vals1 r
  cases rx
  obtain ⟨xs, dm, pr, hz⟩ := dm_of I d
  have ek := rel_keys pr
  refine dictCopyM (by omega) d.ns dm (fun x hx => ?_) ?_ hz fun h' dm' kp => ?_
  · have hm : x.1 ∈ kvs.map (·.1) := by rw [ek]; exact List.mem_map.mpr ⟨x, hx, rfl⟩
    obtain ⟨y, hy, e⟩ := List.mem_map.mp hm
    rw [← e]
    exact ht y hy
  · have e1 : (xs.map fun x => x.1.hash X.w) = (xs.map (·.1)).map fun k => k.hash X.w := by rw [List.map_map]; rfl
    have e2 : (kvs.map fun x => x.1.hash X.w) = (kvs.map (·.1)).map fun k => k.hash X.w := by rw [List.map_map]; rfl
    rw [e1, ← ek, ← e2]
    exact hh
  · obtain ⟨ep', ok⟩ := raw_ok (P := X.prog) (H := upd H s.heap.objs.size (.ext (RawD X.w s.heap.objs.size kvs 0))) dm' pr
    have hf := I.hok.fresh (Nat.le_refl s.heap.objs.size)
    exact ⟨.ref s.heap.objs.size, _, I.laid (t' := s.toks) kp (Nat.le_refl _) ok, rfl, q _ _ ep' hf ⟨upd_same, fun x hx => ⟨Nk.mono (Tups.new hf) _ _ (d.keys x hx).1, (d.keys x hx).2⟩, d.nd, d.sz, beq_eq_false_iff_ne.mpr (Ne.symm (Nat.ne_of_lt I.big))⟩⟩
end
/-! ### what they give -/
section
variable {κ : Type} [DecidableEq κ] {enc : κ → PyData} {w : World} {K : PySem.W.Frag} {σ : L2.St} {H H' : Hp} {a : Addr} {l : List (κ × V)} {ta tb te td ty tx : TE} {D : Ends} {k : κ} {R : HR}
theorem at_of (hk : KeyE enc) (h : TAt enc w H a l) : DAt w H a (l.map fun p => (keyDa (enc p.1), p.2)) := h.dat
/-- k in d -/
theorem gt_in (hk : KeyE enc) (hy : Gv ta σ H (IsV (enc k))) (hd : Gv tb σ H (EqV (.ref a))) (h : TAt enc w H a l) : EvT (tTest (tOp (rInD w) ta tb)) σ H (valV l k).isSome := fun H1 e1 Q q =>
  hy H1 e1 _ fun y H2 e2 ry => hd H2 (e1.trans e2) _ fun x H3 e3 rx => by
    have h3 := h.ex ((e1.trans e2).trans e3)
    refine ⟨a, _, _, rx, h3.dat, Is.nk _ _ (Is.mono e3.tups _ _ ry), hk.dp k, _, rfl, ?_⟩
    rw [valV_t hk]
    exact q _ (e2.trans e3)
/-- d[k] -/
theorem gv_ixD {v : V} (hk : KeyE enc) (hd : Gv ta σ H (EqV (.ref a))) (hy : Gv tb σ H (IsV (enc k))) (h : TAt enc w H a l) (hv : valV l k = some v) : Gv (tOp (rIxD w) ta tb) σ H (EqV v) := fun H1 e1 Q q =>
  hd H1 e1 _ fun x H2 e2 rx => hy H2 (e1.trans e2) _ fun y H3 e3 ry => by
    have h3 := h.ex ((e1.trans e2).trans e3)
    exact ⟨a, _, _, v, rx, h3.dat, Is.nk _ _ ry, hk.dp k, by rw [valV_t hk]; exact hv, q v H3 (e2.trans e3) rfl⟩
theorem gv_val {v : V} [m : Mono R] (h : Gv te σ H (EqV v)) (r : R H v) : Gv te σ H R := gv_imp h fun H1 u e (eu : u = v) => by rw [eu]; exact m.mo e r
/-- d.get(k, x): it is there -/
theorem gv_get {v : V} {R' : HR} (hk : KeyE enc) (hd : Gv td σ H (EqV (.ref a))) (hy : Gv ty σ H (IsV (enc k))) (hx : Gv tx σ H R') (h : TAt enc w H a l) (hv : valV l k = some v) : Gv (tDGetOr w td ty tx) σ H (EqV v) := fun H1 e1 Q q =>
  hd H1 e1 _ fun x H2 e2 rx => ⟨a, _, rx, (h.ex (e1.trans e2)).dat, hy H2 (e1.trans e2) _ fun y H3 e3 ry => hx H3 (e1.trans (e2.trans e3)) _ fun z H4 e4 rz => by
    have h4 := h.ex (e1.trans (e2.trans (e3.trans e4)))
    refine ⟨_, _, h4.dat, Is.nk _ _ (Is.mono e4.tups _ _ ry), hk.dp k, ?_⟩
    rw [valV_t hk, hv]
    exact q v H4 (e2.trans (e3.trans e4)) rfl⟩
/-- it is not there -/
theorem gv_getN (hk : KeyE enc) (hd : Gv td σ H (EqV (.ref a))) (hy : Gv ty σ H (IsV (enc k))) (hx : Gv tx σ H R) (h : TAt enc w H a l) (hv : valV l k = none) : Gv (tDGetOr w td ty tx) σ H R := fun H1 e1 Q q =>
  hd H1 e1 _ fun x H2 e2 rx => ⟨a, _, rx, (h.ex (e1.trans e2)).dat, hy H2 (e1.trans e2) _ fun y H3 e3 ry => hx H3 (e1.trans (e2.trans e3)) _ fun z H4 e4 rz => by
    have h4 := h.ex (e1.trans (e2.trans (e3.trans e4)))
    refine ⟨_, _, h4.dat, Is.nk _ _ (Is.mono e4.tups _ _ ry), hk.dp k, ?_⟩
    rw [valV_t hk, hv]
    exact q z H4 (e2.trans (e3.trans e4)) rz⟩
/-- d[k] = e -/
theorem st_setD (hk : KeyE enc) (he : Gv te σ H R) (hd : Gv ta σ H (EqV (.ref a))) (hy : Gv tb σ H (IsV (enc k))) (h : TAt enc w H a l) (hl : l.length < sizeLine) [m : Mono R]
    (q : ∀ v H1 ob, Ex H H1 → R H1 v → TAt enc w (upd H1 a ob) a (putK l k v) → Tups H1 (upd H1 a ob) → D.nx σ (upd H1 a ob)) : tAsg te (gSub ta tb (rSetR w)) D σ H := he H (Ex.refl _) _ fun v H1 e1 rv =>
  hd H1 e1 _ fun x H2 e2 rx => hy H2 (e1.trans e2) _ fun y H3 e3 ry => by
    obtain ⟨kvs, ep, d, p⟩ := h.ex ((e1.trans e2).trans e3)
    refine ⟨a, kvs, ep, _, rx, d, Is.nk _ _ ry, hk.dp k, by rw [Paired.length p]; exact hl, fun ob ep' d' t' => ?_⟩
    exact q v H3 ob ((e1.trans e2).trans e3) (m.mo (e2.trans e3) rv) ⟨_, _, d', put_t hk t' p ry⟩ t'
/-- {} -/
theorem st_newT (q : ∀ p ob, H p = none → TAt enc w (upd H p ob) p [] → D.nx (σ.set i (some (.ref p))) (upd H p ob)) : tAsg (tDNew w) (gName i) D σ H := fun p o np d => by
  obtain ⟨kvs, ep, d, e⟩ := d
  have e2 : kvs = [] := by cases kvs with | nil => rfl | cons _ _ => cases e
  subst e2
  exact q p o np ⟨[], ep, d, .nil⟩
/-- dict(d) -/
theorem gv_dict (hd : Gv ta σ H (EqV (.ref a))) (h : TAt enc w H a l) (ht : ∀ k, ∃ ks, keyDa (enc k) = .tup ks) (hh : (l.map fun x => (keyDa (enc x.1)).hash w).Nodup) : Gv (tCB (rDictR w) (tCons ta tNil)) σ H (fun H1 v => ∃ p, v = .ref p ∧ H p = none ∧ TAt enc w H1 p l) := fun H1 e1 Q q =>
  hd H1 e1 _ fun x H2 e2 rx => by
    obtain ⟨kvs, ep, d, p⟩ := h.ex (e1.trans e2)
    have es : kvs.map (·.1) = l.map fun x => keyDa (enc x.1) := by
      have := congrArg (List.map (·.1)) (strip_of p)
      rw [List.map_map, List.map_map] at this
      exact this
    refine ⟨a, kvs, ep, by rw [show x = .ref a from rx], d, fun x hx => ?_, ?_, fun p' ob ep' np d' => q _ _ (e2.trans (Ex.new np)) ⟨p', rfl, fresh_back (e1.trans e2) np, kvs, ep', d', paired_imp (fun _ _ q => ⟨q.1, Is.mono (Tups.new np) _ _ q.2.1, q.2.2⟩) p⟩⟩
    · have hm : x.1 ∈ l.map fun x => keyDa (enc x.1) := by rw [← es]; exact List.mem_map_of_mem hx
      obtain ⟨y, _, ey⟩ := List.mem_map.mp hm
      rw [← ey]
      exact ht y.1
    · have e3 : (kvs.map fun x => x.1.hash w) = (kvs.map (·.1)).map fun k => k.hash w := by rw [List.map_map]; rfl
      rw [e3, es, List.map_map]
      exact hh
/-- for k in d -/
theorem st_forD {β : Type} {l : List (κ × β)} (fv : β → V) {g : TG} {tb : TS} (hd : Gv td σ H (EqV (.ref a))) (h : TAt enc w H a (l.map fun p => (p.1, fv p.2))) (k : ∀ H1, Ex H H1 → ∃ Iv : List (κ × β) → L2.St → Hp → Prop, Iv [] σ H1 ∧ (∀ pre σ' H', Iv pre σ' H' → Tups H1 H' ∧ H' a = H1 a) ∧
      (∀ pre d post x σ' H', l = pre ++ d :: post → Iv pre σ' H' → Is H' (enc d.1) x → g x σ' H' fun σ2 H2 => tb { D with nx := Iv (pre ++ [d]), ct := Iv (pre ++ [d]), bk := D.nx } σ2 H2) ∧ ∀ σ' H', Iv l σ' H' → D.nx σ' H') :
    tFor (iDict w td) g tb D σ H := hd H (Ex.refl _) _ fun v H1 e rx => by
  obtain ⟨kvs, ep, d, p⟩ := h.ex e
  obtain ⟨Iv, h0, hT, hs, hd⟩ := k H1 e
  have len : kvs.length = l.length := by rw [Paired.length p, List.length_map]
  refine ⟨a, kvs, ep, rx, d, for_steps steps_dict len Iv h0 (fun pre σ' H' iv => by rw [(hT _ _ _ iv).2]; exact d.at_) (fun pre y post x σ' H' H'' el iv z => ?_) hd⟩
  obtain ⟨rfl, k', v', e2⟩ := z
  refine hs pre y post x σ' _ el iv ?_
  have p' := paired_imp (G := fun (x : KE) (p : κ × V) => x.1 = keyDa (enc p.1) ∧ Is H'' (enc p.1) x.2.1 ∧ x.2.2 = p.2) (fun _ _ q => ⟨q.1, Is.mono (hT _ _ _ iv).1 _ _ q.2.1, q.2.2⟩) p
  have at2 : ∀ {kvs : List KE} {l : List (κ × V)} {i : Nat} {x : KE} {y : κ × V}, Paired (fun (x : KE) (p : κ × V) => x.1 = keyDa (enc p.1) ∧ Is H'' (enc p.1) x.2.1 ∧ x.2.2 = p.2) kvs l → kvs[i]? = some x → l[i]? = some y → x.1 = keyDa (enc y.1) ∧ Is H'' (enc y.1) x.2.1 ∧ x.2.2 = y.2 := by
    intro kvs l i x y p
    induction p generalizing i with
    | nil => intro h; simp at h
    | cons q t ih =>
      intro h1 h2
      cases i with
      | zero =>
        simp at h1 h2
        subst h1 h2
        exact q
      | succ i => exact ih (by simpa using h1) (by simpa using h2)
  exact (at2 (y := (y.1, fv y.2)) p' e2 (by rw [List.getElem?_map, pre_get el]; rfl)).2.1
end
end NK

/-! ends; lists of keys with what belongs to them -/
namespace K31
open PySem PySem.Spec PyProof.Rows L2 NK Evl

section
variable {κ β γ : Type} [DecidableEq κ]
def getA (l : List (κ × β)) (k : κ) : Option β := (l.find? fun p => decide (p.1 = k)).map (·.2)
def putA (l : List (κ × β)) (k : κ) (v : β) : List (κ × β) := if (l.any fun p => decide (p.1 = k)) = true then l.map (fun p => if p.1 = k then (p.1, v) else p) else l ++ [(k, v)]
theorem getA_nil (k : κ) : getA ([] : List (κ × β)) k = none := rfl
theorem getA_pos {p : κ × β} {r : List (κ × β)} {k : κ} (e : p.1 = k) : getA (p :: r) k = some p.2 := by simp [getA, List.find?_cons, e]
theorem getA_neg {p : κ × β} {r : List (κ × β)} {k : κ} (e : ¬ p.1 = k) : getA (p :: r) k = getA r k := by simp [getA, List.find?_cons, e]
theorem getA_any (k : κ) : ∀ l : List (κ × β), (l.any fun p => decide (p.1 = k)) = (getA l k).isSome
  | [] => rfl
  | p :: r => by
    rw [List.any_cons]
    by_cases e : p.1 = k
    · rw [getA_pos e, decide_eq_true e]; rfl
    · rw [getA_neg e, decide_eq_false e, ← getA_any k r]; rfl
theorem getA_mapIf (k j : κ) (y : β) : ∀ l : List (κ × β), getA (l.map fun p => if p.1 = k then (p.1, y) else p) j = (getA l j).map fun x => if j = k then y else x
  | [] => rfl
  | p :: r => by
    have ih := getA_mapIf k j y r
    rw [List.map_cons]
    by_cases e : p.1 = k
    · rw [if_pos e]
      by_cases e2 : p.1 = j
      · rw [getA_pos (p := (p.1, y)) e2, getA_pos e2]
        simp [← e2, e]
      · rw [getA_neg (p := (p.1, y)) e2, getA_neg e2, ih]
    · rw [if_neg e]
      by_cases e2 : p.1 = j
      · rw [getA_pos e2, getA_pos e2]
        have : ¬ j = k := fun z => e (e2.trans z)
        simp [this]
      · rw [getA_neg e2, getA_neg e2, ih]
theorem getA_snoc (k j : κ) (y : β) : ∀ l : List (κ × β), getA l k = none → getA (l ++ [(k, y)]) j = if j = k then some y else getA l j
  | [], _ => by
    by_cases e : k = j
    · rw [if_pos e.symm]; exact getA_pos (p := (k, y)) e
    · rw [if_neg (fun z => e z.symm)]; exact getA_neg (p := (k, y)) e
  | p :: r, h => by
    have hp : ¬ p.1 = k := fun e => by rw [getA_pos e] at h; cases h
    rw [getA_neg hp] at h
    rw [List.cons_append]
    by_cases e : p.1 = j
    · rw [getA_pos e, getA_pos e, if_neg (fun z => hp (e.trans z))]
    · rw [getA_neg e, getA_neg e, getA_snoc k j y r h]
theorem getA_put (l : List (κ × β)) (k j : κ) (y : β) : getA (putA l k y) j = if j = k then some y else getA l j := by
  unfold putA
  by_cases a : (l.any fun p => decide (p.1 = k)) = true
  · rw [if_pos a, getA_mapIf]
    rw [getA_any] at a
    by_cases e : j = k
    · subst e
      rw [if_pos rfl]
      cases h : getA l j with
      | none => rw [h] at a; cases a
      | some v => simp
    · rw [if_neg e]
      cases getA l j <;> simp [e]
  · rw [if_neg a]
    rw [getA_any] at a
    exact getA_snoc k j y l (by cases h : getA l k with | none => rfl | some v => rw [h] at a; exact absurd rfl a)
theorem getA_mem {l : List (κ × β)} {k : κ} {v : β} (h : getA l k = some v) : (k, v) ∈ l := by
  unfold getA at h
  cases q : l.find? fun p => decide (p.1 = k) with
  | none => rw [q] at h; cases h
  | some p =>
    rw [q] at h
    have e0 := List.find?_some q
    have e1 : p.1 = k := of_decide_eq_true e0
    have e2 : p.2 = v := by simpa using h
    have := List.mem_of_find?_eq_some q
    rw [← e1, ← e2]
    exact this
theorem getA_of_mem {l : List (κ × β)} {k : κ} {v : β} (nd : (l.map (·.1)).Nodup) (h : (k, v) ∈ l) : getA l k = some v := by
  induction l with
  | nil => cases h
  | cons p r ih =>
    rw [List.map_cons, List.nodup_cons] at nd
    rcases List.mem_cons.mp h with e | h
    · subst e
      exact getA_pos rfl
    · have : ¬ p.1 = k := fun e => nd.1 (by rw [e]; exact List.mem_map.mpr ⟨_, h, rfl⟩)
      rw [getA_neg this, ih nd.2 h]
theorem getA_none {l : List (κ × β)} {k : κ} (h : getA l k = none) : ∀ v, (k, v) ∉ l := by
  intro v hv
  have : (l.any fun p => decide (p.1 = k)) = true := List.any_eq_true.mpr ⟨_, hv, by simp⟩
  rw [getA_any, h] at this
  cases this
theorem putA_keys (l : List (κ × β)) (k : κ) (v : β) : ((putA l k v).map (·.1)) = if (getA l k).isSome = true then l.map (·.1) else l.map (·.1) ++ [k] := by
  unfold putA
  rw [getA_any]
  split
  · rw [List.map_map]
    congr 1
    funext p
    show (if p.1 = k then (p.1, v) else p).1 = p.1
    split <;> rfl
  · simp
theorem putA_nodup {l : List (κ × β)} {k : κ} {v : β} (nd : (l.map (·.1)).Nodup) : ((putA l k v).map (·.1)).Nodup := by
  rw [putA_keys]
  split
  · exact nd
  · rename_i h
    rw [List.nodup_append]
    refine ⟨nd, by simp, fun a ha b hb => ?_⟩
    rw [List.mem_singleton] at hb
    subst hb
    intro e
    subst e
    obtain ⟨p, hp, e⟩ := List.mem_map.mp ha
    have : (l.any fun p => decide (p.1 = a)) = true := List.any_eq_true.mpr ⟨_, hp, decide_eq_true e⟩
    rw [getA_any] at this
    exact h this
theorem putA_length (l : List (κ × β)) (k : κ) (v : β) : (putA l k v).length ≤ l.length + 1 := by
  unfold putA
  split
  · rw [List.length_map]; omega
  · rw [List.length_append]; simp
theorem putA_mem {l : List (κ × β)} {k : κ} {v : β} {p : κ × β} (h : p ∈ putA l k v) : p = (k, v) ∨ (p ∈ l ∧ p.1 ≠ k) := by
  unfold putA at h
  split at h
  · obtain ⟨q, hq, e⟩ := List.mem_map.mp h
    by_cases e2 : q.1 = k
    · rw [if_pos e2] at e
      exact .inl (by rw [← e, e2])
    · rw [if_neg e2] at e
      exact .inr ⟨e ▸ hq, by rw [← e]; exact e2⟩
  · rename_i ha
    rcases List.mem_append.mp h with h | h
    · refine .inr ⟨h, fun e => ha (List.any_eq_true.mpr ⟨p, h, decide_eq_true e⟩)⟩
    · exact .inl (List.mem_singleton.mp h)
theorem valV_f (f : β → V) (k : κ) : ∀ l : List (κ × β), valV (l.map fun p => (p.1, f p.2)) k = (getA l k).map f
  | [] => rfl
  | p :: r => by
    rw [List.map_cons]
    by_cases e : p.1 = k
    · rw [getA_pos e, valV_pos (p := (p.1, f p.2)) e]; rfl
    · rw [getA_neg e, valV_neg (p := (p.1, f p.2)) e, valV_f f k r]
theorem putK_f (f : β → V) (l : List (κ × β)) (k : κ) (v : β) : putK (l.map fun p => (p.1, f p.2)) k (f v) = (putA l k v).map fun p => (p.1, f p.2) := by
  unfold putK putA
  rw [List.any_map]
  have e : ((fun kv : κ × V => decide (kv.1 = k)) ∘ fun p : κ × β => (p.1, f p.2)) = fun p => decide (p.1 = k) := rfl
  rw [e]
  split
  · rw [List.map_map, List.map_map]
    congr 1
    funext p
    show (if p.1 = k then (p.1, f v) else (p.1, f p.2)) = ((if p.1 = k then (p.1, v) else p).1, f (if p.1 = k then (p.1, v) else p).2)
    split <;> rfl
  · rw [List.map_append]; rfl
end
/-! ends -/
structure En where
  i : Nat
  f : Option (Nat × Nat)
  j : Nat
  deriving DecidableEq
def gA (f : Option (Nat × Nat)) : Int := match f with | none => -1 | some p => Int.ofNat p.1
def gB (f : Option (Nat × Nat)) : Int := match f with | none => -1 | some p => Int.ofNat p.2
def encE (e : En) : PyData := .tuple [.int (Int.ofNat e.i), .int (gA e.f), .int (gB e.f), .int (Int.ofNat e.j)]
theorem keyE : KeyE encE where
  inj := by
    rintro ⟨i, f, j⟩ ⟨i', f', j'⟩ h
    simp only [encE, keyDa, keysOf, NestedKey.tup.injEq, List.cons.injEq, NestedKey.num.injEq, and_true] at h
    obtain ⟨h1, h2, h3, h4⟩ := h
    have e1 : i = i' := Int.ofNat.inj h1
    have e4 : j = j' := Int.ofNat.inj h4
    subst e1 e4
    cases f with
    | none =>
      cases f' with
      | none => rfl
      | some p => simp only [gA] at h2; exact absurd h2 (by simp)
    | some p =>
      cases f' with
      | none => simp only [gA] at h2; exact absurd h2 (by simp)
      | some q =>
        simp only [gA, gB] at h2 h3
        have e2 : p.1 = q.1 := Int.ofNat.inj h2
        have e3 : p.2 = q.2 := Int.ofNat.inj h3
        obtain ⟨p1, p2⟩ := p
        obtain ⟨q1, q2⟩ := q
        simp only at e2 e3
        rw [e2, e3]
  dp := fun a => by simp [encE, keyDa, keysOf, NestedKey.depth, NestedKey.depthAll]
abbrev nI (n : Nat) : V := .int (Int.ofNat n)
/-- a dict of ends and numbers -/
def EAt (w : World) (H : Hp) (a : Addr) (l : List (En × Nat)) : Prop := TAt encE w H a (l.map fun p => (p.1, nI p.2))
def addL (l : List (En × Nat)) (e : En) (n : Nat) : List (En × Nat) := putA l e (match getA l e with | some m => m + n | none => n)
def laidOn (l : List (En × Nat)) (C : List (En × Nat)) : List (En × Nat) := C.foldl (fun l c => addL l c.1 c.2) l
theorem laidOn_snoc (l C : List (En × Nat)) (c : En × Nat) : laidOn l (C ++ [c]) = addL (laidOn l C) c.1 c.2 := by
  unfold laidOn; rw [List.foldl_append]; rfl
theorem laidOn_app (l C D : List (En × Nat)) : laidOn l (C ++ D) = laidOn (laidOn l C) D := by
  unfold laidOn; rw [List.foldl_append]
theorem addL_length (l : List (En × Nat)) (e : En) (n : Nat) : (addL l e n).length ≤ l.length + 1 := putA_length _ _ _
theorem laidOn_length (C : List (En × Nat)) : ∀ l, (laidOn l C).length ≤ l.length + C.length := by
  induction C with
  | nil => intro l; exact Nat.le_refl _
  | cons c C ih =>
    intro l
    have h1 := ih (addL l c.1 c.2)
    have h2 := addL_length l c.1 c.2
    show (laidOn (addL l c.1 c.2) C).length ≤ _
    rw [List.length_cons]
    omega
def joinE (a b : En) : En := ⟨a.i, (match b.f with | some p => some p | none => a.f), b.j⟩
def behindC (one other : List (En × Nat)) : List (En × Nat) := one.flatMap fun x => (other.filter fun y => decide (y.1.i = x.1.j)).map fun y => (joinE x.1 y.1, x.2 * y.2)
def roundE (o a : En) : En := ⟨o.i, a.f, o.j⟩
def roundC (outer inner : List (En × Nat)) : List (En × Nat) := outer.flatMap fun x => (inner.filter fun y => decide (x.1.f = some (y.1.i, y.1.j))).map fun y => (roundE x.1 y.1, x.2 * y.2)
end K31

namespace K31
open PySem PySem.Spec PyProof.Rows L2 NK Evl
/-! a dict of lists that grow -/
section
variable {κ : Type} [DecidableEq κ] {enc : κ → PyData} {w : World} {K : PySem.W.Frag} {σ : L2.St} {H H' H0 : Hp} {a : Addr} {ta tb te td ty tx : TE} {D : Ends} {k : κ} {R : HR}
structure GrpAt (H0 : Hp) (enc : κ → PyData) (w : World) (H : Hp) (a : Addr) (m : List (κ × List PyData)) (ps : List (κ × Addr)) : Prop where
  at_ : TAt enc w H a (ps.map fun p => (p.1, V.ref p.2))
  new : H0 a = none
  nd : (ps.map (·.2)).Nodup
  ls : Paired (fun (p : κ × Addr) (g : κ × List PyData) => p.1 = g.1 ∧ H0 p.2 = none ∧ ∃ xs, H p.2 = some (.lst xs) ∧ IsAll H g.2 xs) ps m
def addG (m : List (κ × List PyData)) (k : κ) (d : PyData) : List (κ × List PyData) := putA m k ((getA m k).getD [] ++ [d])
theorem GrpAt.ex {m : List (κ × List PyData)} {ps : List (κ × Addr)} (g : GrpAt H0 enc w H a m ps) (e : Ex H H') : GrpAt H0 enc w H' a m ps :=
  ⟨g.at_.ex e, g.new, g.nd, paired_imp (fun _ _ ⟨h1, h2, xs, h3, h4⟩ => ⟨h1, h2, xs, e _ _ h3, IsAll.mono e.tups _ _ h4⟩) g.ls⟩
theorem paired_get {α β : Type} {F : κ × α → κ × β → Prop} (hF : ∀ p g, F p g → p.1 = g.1) (k : κ) {l : List (κ × α)} {m : List (κ × β)} (p : Paired F l m) : (getA l k = none ∧ getA m k = none) ∨ ∃ u v, getA l k = some u ∧ getA m k = some v ∧ F (k, u) (k, v) ∧ (k, u) ∈ l := by
  induction p with
  | nil => exact .inl ⟨rfl, rfl⟩
  | @cons x y l m q t ih =>
    have e := hF _ _ q
    by_cases h : x.1 = k
    · refine .inr ⟨x.2, y.2, getA_pos h, getA_pos (e.symm.trans h), ?_, ?_⟩
      · have e1 : (k, x.2) = x := by rw [← h]
        have e2 : (k, y.2) = y := by rw [← h, e]
        rw [e1, e2]
        exact q
      · have e1 : (k, x.2) = x := by rw [← h]
        rw [e1]
        exact List.mem_cons_self
    · rcases ih with ⟨h1, h2⟩ | ⟨u, v, h1, h2, h3, h4⟩
      · exact .inl ⟨by rw [getA_neg h, h1], by rw [getA_neg (fun z => h (e.trans z)), h2]⟩
      · exact .inr ⟨u, v, by rw [getA_neg h, h1], by rw [getA_neg (fun z => h (e.trans z)), h2], h3, List.mem_cons_of_mem _ h4⟩
theorem paired_mem {α β : Type} {F : α → β → Prop} {l : List α} {m : List β} (p : Paired F l m) {x : α} (h : x ∈ l) : ∃ y ∈ m, F x y := by
  induction p with
  | nil => cases h
  | cons q t ih =>
    rcases List.mem_cons.mp h with rfl | h
    · exact ⟨_, List.mem_cons_self, q⟩
    · obtain ⟨y, hy, f⟩ := ih h
      exact ⟨y, List.mem_cons_of_mem _ hy, f⟩
theorem grp_put {m : List (κ × List PyData)} {ps : List (κ × Addr)} {u : Addr} {gl : List PyData} {xs : List V} {z : V} {d : PyData} (g : GrpAt H0 enc w H a m ps) (h1 : getA ps k = some u) (h2 : getA m k = some gl) (hxs : H u = some (.lst xs)) (iz : Is H d z) :
    Tups H (upd H u (.lst (xs ++ [z]))) ∧ GrpAt H0 enc w (upd H u (.lst (xs ++ [z]))) a (addG m k d) ps := by
  have tt : Tups H (upd H u (.lst (xs ++ [z]))) := Tups.mut (mut_at hxs)
  have ne : u ≠ a := fun z => by
    obtain ⟨kvs5, ep5, dr5, _⟩ := g.at_
    have := dr5.at_
    rw [← z, hxs] at this
    cases this
  refine ⟨tt, g.at_.mono (upd_ne (Ne.symm ne)) tt, g.new, g.nd, ?_⟩
  have ea : addG m k d = m.map fun p => if p.1 = k then (p.1, gl ++ [d]) else p := by
    unfold addG putA
    rw [getA_any, h2]
    rfl
  rw [ea]
  have nk : (ps.map (·.1)).Nodup := by
    have := g.at_.nodup
    rw [List.map_map] at this
    exact this
  have mk : (m.map (·.1)).Nodup := by
    have e8 : ∀ {ps : List (κ × Addr)} {m : List (κ × List PyData)}, Paired (fun (p : κ × Addr) (g : κ × List PyData) => p.1 = g.1 ∧ H0 p.2 = none ∧ ∃ xs, H p.2 = some (.lst xs) ∧ IsAll H g.2 xs) ps m → ps.map (·.1) = m.map (·.1) := by
      intro ps m P
      induction P with
      | nil => rfl
      | cons q t ih => rw [List.map_cons, List.map_cons, q.1, ih]
    rw [← e8 g.ls]
    exact nk
  have key : ∀ {ps : List (κ × Addr)} {m : List (κ × List PyData)}, (∀ p ∈ ps, p.1 = k → p.2 = u) → (∀ p ∈ ps, p.2 = u → p.1 = k) → (∀ g ∈ m, g.1 = k → g.2 = gl) → Paired (fun (p : κ × Addr) (g : κ × List PyData) => p.1 = g.1 ∧ H0 p.2 = none ∧ ∃ xs, H p.2 = some (.lst xs) ∧ IsAll H g.2 xs) ps m →
      Paired (fun (p : κ × Addr) (g : κ × List PyData) => p.1 = g.1 ∧ H0 p.2 = none ∧ ∃ xs', upd H u (.lst (xs ++ [z])) p.2 = some (.lst xs') ∧ IsAll (upd H u (.lst (xs ++ [z]))) g.2 xs') ps (m.map fun p => if p.1 = k then (p.1, gl ++ [d]) else p) := by
    intro ps m c1 c2 c3 P
    induction P with
    | nil => exact .nil
    | @cons x y l m q t ih =>
      obtain ⟨q1, q2, ys, q3, q4⟩ := q
      refine .cons ?_ (ih (fun p hp => c1 p (List.mem_cons_of_mem _ hp)) (fun p hp => c2 p (List.mem_cons_of_mem _ hp)) (fun p hp => c3 p (List.mem_cons_of_mem _ hp)))
      by_cases h : y.1 = k
      · have ey : (fun p : κ × List PyData => if p.1 = k then (p.1, gl ++ [d]) else p) y = (y.1, gl ++ [d]) := if_pos h
        rw [ey]
        have ex := c1 x List.mem_cons_self (q1.trans h)
        have eg := c3 y List.mem_cons_self h
        refine ⟨q1, q2, xs ++ [z], by rw [ex]; exact upd_same, ?_⟩
        rw [ex, hxs] at q3
        cases q3
        rw [eg] at q4
        exact (IsAll.mono tt _ _ q4).append (.cons (Is.mono tt _ _ iz) .nil)
      · have ey : (fun p : κ × List PyData => if p.1 = k then (p.1, gl ++ [d]) else p) y = y := if_neg h
        rw [ey]
        have ex : x.2 ≠ u := fun z => h (q1 ▸ c2 x List.mem_cons_self z)
        exact ⟨q1, q2, ys, by rw [upd_ne ex]; exact q3, IsAll.mono tt _ _ q4⟩
  refine key (fun p hp e => ?_) (fun p hp e => ?_) (fun p hp e => ?_) g.ls
  · have := getA_of_mem nk (show (k, p.2) ∈ ps by rw [← e]; exact hp)
    rw [h1] at this
    cases this
    rfl
  · have h7 : ∀ {ps : List (κ × Addr)} {p q : κ × Addr}, (ps.map (·.2)).Nodup → p ∈ ps → q ∈ ps → p.2 = q.2 → p = q := by
      intro ps
      induction ps with
      | nil => intro p q _ h; cases h
      | cons x l ih =>
        intro p q n hp hq e
        rw [List.map_cons, List.nodup_cons] at n
        rcases List.mem_cons.mp hp with e1 | hp1
        · rcases List.mem_cons.mp hq with e2 | hq1
          · rw [e1, e2]
          · exact (n.1 (List.mem_map.mpr ⟨q, hq1, by rw [← e, e1]⟩)).elim
        · rcases List.mem_cons.mp hq with e2 | hq1
          · exact (n.1 (List.mem_map.mpr ⟨p, hp1, by rw [e, e2]⟩)).elim
          · exact ih n.2 hp1 hq1 e
    have := h7 g.nd hp (getA_mem h1) e
    rw [this]
  · have := getA_of_mem mk (show (k, p.2) ∈ m by rw [← e]; exact hp)
    rw [h2] at this
    cases this
    rfl
theorem GrpAt.mono' {m : List (κ × List PyData)} {ps : List (κ × Addr)} {k' : κ} {p : Addr} {ob : HO} (g : GrpAt H0 enc w H a m ps) (n0 : H0 p = none) (hp : H p = some (.lst [])) (hn : ∀ x ∈ ps, x.2 ≠ p) (t' : Tups H (upd H a ob)) (d' : TAt enc w (upd H a ob) a (putK (ps.map fun p => (p.1, V.ref p.2)) k (.ref p))) (h1 : getA ps k = none) (h2 : getA m k = none) :
    GrpAt H0 enc w (upd H a ob) a (m ++ [(k, [])]) (ps ++ [(k, p)]) := by
  have pne : ∀ (x : Addr) (xs : List V), H x = some (.lst xs) → x ≠ a := fun x xs hx z => by
    obtain ⟨kvs5, ep5, dr5, _⟩ := g.at_
    have := dr5.at_
    rw [← z, hx] at this
    cases this
  refine ⟨?_, g.new, ?_, ?_⟩
  · rw [putK_f (f := V.ref)] at d'
    unfold putA at d'
    rw [getA_any, h1] at d'
    exact d'
  · rw [List.map_append, List.nodup_append]
    refine ⟨g.nd, by simp, fun x hx y hy => ?_⟩
    obtain ⟨q, hq, rfl⟩ := List.mem_map.mp hx
    simp only [List.map_cons, List.map_nil, List.mem_singleton] at hy
    subst hy
    exact hn q hq
  · refine paired_snoc (F := fun (p : κ × Addr) (g : κ × List PyData) => p.1 = g.1 ∧ H0 p.2 = none ∧ ∃ xs, upd H a ob p.2 = some (.lst xs) ∧ IsAll (upd H a ob) g.2 xs) (a := (k, p)) (b := (k, [])) ⟨rfl, n0, [], by rw [upd_ne (pne _ _ hp)]; exact hp, .nil⟩ (paired_imp (fun x y ⟨q1, q2, xs, q3, q4⟩ => ⟨q1, q2, xs, by rw [upd_ne (pne _ _ q3)]; exact q3, IsAll.mono t' _ _ q4⟩) g.ls)
/-- d.setdefault(k, []).append(x), x the slot j -/
theorem st_grp {j : Nat} {vx : V} (hk : KeyE enc) {m : List (κ × List PyData)} {ps : List (κ × Addr)} {d : PyData} (hd : Gv td σ H (EqV (.ref a))) (hy : Gv ty σ H (IsV (enc k))) (hx : σ[j]? = some (some vx)) (ix : Is H d vx) (e0 : Ex H0 H) (g : GrpAt H0 enc w H a m ps)
    (hl : m.length < 10000) (hg : ((getA m k).getD []).length < 10000)
    (q : ∀ H' ps', Ex H0 H' → Tups H H' → GrpAt H0 enc w H' a (addG m k d) ps' → D.nx σ H') : tDrop (tBM K "list" rAppend (tSetDefR w td ty (tLst tNil)) (tCons (tVar j) tNil)) D σ H := hd H (Ex.refl _) _ fun x H1 e1 rx => by
  have g1 := g.ex e1
  refine ⟨a, _, rx, g1.at_.dat, hy H1 e1 _ fun y H2 e2 ry => ⟨Nat.zero_le _, fun p np => ?_⟩⟩
  have e3 : Ex H2 (upd H2 p (.lst [])) := Ex.new np
  have g3 := (g1.ex e2).ex e3
  have e13 : Ex H0 (upd H2 p (.lst [])) := e0.trans (e1.trans (e2.trans e3))
  have eH : Ex H (upd H2 p (.lst [])) := e1.trans (e2.trans e3)
  have n0 : H0 p = none := fresh_back (e0.trans (e1.trans e2)) np
  have ry3 := Is.mono e3.tups _ _ ry
  obtain ⟨kvs, ep, dr, pr⟩ := g3.at_
  have hst : valV (strip kvs) (keyDa (enc k)) = (getA ps k).map V.ref := by
    rw [strip_of pr, valV_t hk, valV_f]
  have lk : kvs.length = ps.length := by rw [Paired.length pr, List.length_map]
  have lm : ps.length = m.length := Paired.length g.ls
  refine ⟨kvs, ep, _, dr, Is.nk _ _ ry3, hk.dp k, by rw [lk, lm]; show _ < 16777216; omega, fun v hv => ?_, fun hv ob ep' d' t' => ?_⟩
  · rcases paired_get (fun _ _ h => h.1) k g3.ls with ⟨h1, h2⟩ | ⟨u, gl, h1, h2, ⟨_, hn, xs, hxs, al⟩, hm⟩
    · rw [hst, h1] at hv; cases hv
    · rw [hst, h1] at hv
      cases hv
      have lx : xs.length < 10000 := by
        rw [h2] at hg
        rw [al.length]
        exact hg
      obtain ⟨tt, g5⟩ := grp_put (d := d) (z := vx) g3 h1 h2 hxs (Is.mono eH.tups _ _ ix)
      exact ⟨Or.inl ⟨rfl, xs, sq_of hxs⟩, vx, hx, u, xs, vx, rfl, rfl, hxs, by show _ < 16777216; omega, q _ ps (Ex.mut e13 hn) (eH.tups.trans tt) g5⟩
  · rcases paired_get (fun _ _ h => h.1) k g3.ls with ⟨h1, h2⟩ | ⟨u, gl, h1, h2, _, hm⟩
    · have pne : p ≠ a := fun z => by
        have := dr.at_
        rw [← z, upd_same] at this
        cases this
      have hp3 : upd (upd H2 p (.lst [])) a ob p = some (.lst []) := by rw [upd_ne pne, upd_same]
      have hnp : ∀ x ∈ ps, x.2 ≠ p := fun x hx z => by
        obtain ⟨y, _, _, _, xs, h5, _⟩ := paired_mem (g1.ex e2).ls hx
        rw [z, np] at h5
        cases h5
      have g4 := g3.mono' (k := k) (k' := k) n0 upd_same hnp t' ⟨_, _, d', put_t hk t' pr ry3⟩ h1 h2
      have g1' : getA (ps ++ [(k, p)]) k = some p := by rw [getA_snoc _ _ _ _ h1, if_pos rfl]
      have g2' : getA (m ++ [(k, ([] : List PyData))]) k = some [] := by rw [getA_snoc _ _ _ _ h2, if_pos rfl]
      obtain ⟨tt, g5⟩ := grp_put (d := d) (z := vx) g4 g1' g2' hp3 (Is.mono (eH.tups.trans t') _ _ ix)
      have ea : addG (m ++ [(k, [])]) k d = addG m k d := by
        unfold addG putA
        rw [getA_any, getA_any, g2', h2]
        show List.map _ _ = m ++ [(k, [] ++ [d])]
        rw [List.map_append]
        have : (m.map fun p : κ × List PyData => if p.1 = k then (p.1, ((some ([] : List PyData)).getD [] ++ [d])) else p) = m := by
          have h9 := getA_none h2
          conv => rhs; rw [← List.map_id m]
          apply List.map_congr_left
          intro x hx
          have : ¬ x.1 = k := fun e => h9 x.2 (by rw [← e]; exact hx)
          simp [this]
        rw [this]
        simp
      rw [ea] at g5
      exact ⟨Or.inl ⟨rfl, [], sq_of hp3⟩, vx, hx, p, [], vx, rfl, rfl, hp3, by decide, q _ _ (Ex.mut (Ex.mut e13 g.new) n0) ((eH.tups.trans t').trans tt) g5⟩
    · rw [hst, h1] at hv
      cases hv
/-- d.get(k, []) -/
theorem gv_grp (hk : KeyE enc) {m : List (κ × List PyData)} {ps : List (κ × Addr)} (hd : Gv td σ H (EqV (.ref a))) (hy : Gv ty σ H (IsV (enc k))) (g : GrpAt H0 enc w H a m ps) : Gv (tDGetOr w td ty (tLst tNil)) σ H (LsV ((getA m k).getD [])) := by
  rcases paired_get (fun _ _ h => h.1) k g.ls with ⟨h1, h2⟩ | ⟨u, gl, h1, h2, ⟨_, hn, xs, hxs, al⟩, hm⟩
  · rw [h2]
    exact gv_getN hk hd hy (gv_lst gi_nil) g.at_ (by rw [valV_f, h1]; rfl)
  · rw [h2]
    exact gv_val (gv_get hk hd hy (gv_lst gi_nil) g.at_ (by rw [valV_f, h1]; rfl)) ⟨u, xs, rfl, hxs, al⟩
end
end K31

namespace K31
open PySem PySem.Spec PyProof.Rows L2 NK Evl
section
variable {K : PySem.W.Frag} {σ : L2.St} {H : Hp} {ta te : TE} {R R' : HR} {D : Ends}
theorem gv_meth {C : Addr} {m : Str} {A : List V → Hp → HR → Prop} {E : XK} {t : TA} {RA : Hp → List V → Prop} [mo : Mono R] (ho : Gv ta σ H R) (hR : ∀ H v, R H v → ∃ a dx fs, v = .ref a ∧ H a = some (.ins C dx fs) ∧ fs.lookup m = none) (ha : GvA t σ H RA)
    (hs : ∀ o vs H1, Ex H H1 → R H1 o → RA H1 vs → A (o :: vs) H1 R') : Gv (tMeth C m (SpR A) [] E ta t) σ H R' := fun H1 e1 Q q => ho H1 e1 _ fun x H2 e2 rx => by
  obtain ⟨a, dx, fs, rfl, hi, hl⟩ := hR _ _ rx
  refine ⟨a, dx, fs, rfl, hi, hl, ha H2 (e1.trans e2) _ fun vs H3 e3 rs => ?_⟩
  rw [List.append_nil]
  exact ⟨R', hs _ vs H3 (e1.trans (e2.trans e3)) (mo.mo e3 rx) rs, fun v H' e4 r4 => q v H' (e2.trans (e3.trans e4)) r4⟩
/-- an instance without attributes -/
def Rck (C : Addr) : HR := fun H v => ∃ r dx, v = .ref r ∧ H r = some (.ins C dx [])
instance {C : Addr} : Mono (Rck C) := ⟨fun e ⟨r, dx, h1, h2⟩ => ⟨r, dx, h1, e _ _ h2⟩⟩
theorem Rck.mod {C : Addr} {H H' : Hp} {v : V} {ms : List Addr} (h : Rck C H v) (m : Mod ms H H') (n : ∀ r dx, H r = some (.ins C dx []) → r ∉ ms) : Rck C H' v := by
  obtain ⟨r, dx, e, h⟩ := h
  exact ⟨r, dx, e, m.1 _ _ h (n _ _ h)⟩
theorem rck_meth {C : Addr} {m : Str} (H : Hp) (v : V) (h : Rck C H v) : ∃ a dx fs, v = .ref a ∧ H a = some (.ins C dx fs) ∧ fs.lookup m = none := by
  obtain ⟨r, dx, e, h⟩ := h
  exact ⟨r, dx, [], e, h, rfl⟩
end
/-- numbers stay below it -/
def lim : Nat := 2 ^ 400000
theorem lim_pos : 1 < lim := by unfold lim; exact Nat.one_lt_pow (by decide) (by decide)
theorem lim_mul {a b : Nat} (ha : a < lim) (hb : b < lim) : CMulW (Int.ofNat a) (Int.ofNat b) := wide_mul (a := 400000) (b := 400000) (by simpa [lim] using ha) (by simpa [lim] using hb) (by decide) (by decide) (by decide)
section
variable {P : Program} {w : World} {K : PySem.W.Frag} {mg : Str → Option Value} {base : Heap} {CG CC : Addr}
def spUnit : List V → Hp → HR → Prop := fun vs H R => ∃ o, vs = [o] ∧ R = IsV (.int 1)
def spBoth : List V → Hp → HR → Prop := fun vs H R => ∃ o v u a b, vs = [o, v, u] ∧ Is H (.int (Int.ofNat a)) v ∧ Is H (.int (Int.ofNat b)) u ∧ a < lim ∧ b < lim ∧ R = IsV (.int (Int.ofNat (a * b)))
def spEither : List V → Hp → HR → Prop := fun vs H R => ∃ o v u a b, vs = [o, v, u] ∧ Is H (.int (Int.ofNat a)) v ∧ Is H (.int (Int.ofNat b)) u ∧ R = IsV (.int (Int.ofNat (a + b)))
def spOfTree : List V → Hp → HR → Prop := fun vs H R => ∃ o k v a, vs = [o, k, v] ∧ Is H (.int (Int.ofNat a)) v ∧ R = IsV (.int (Int.ofNat a))
theorem w_unit (T : Txt K mg CG CC) : Met P w K mg base 1 CC "unit" (SpR spUnit) := by
  refine met_of T.cC T.d_Counted_unit sc_Counted_unit b_Counted_unit (fun vs H Q E ⟨R, ⟨o, e, _⟩, _⟩ => by rw [e]; rfl) fun f cdv A outer s H vs Q E hr hq => ?_
  refine ⟨_, (pss_one (ps_ret pe_int)), ?_⟩
  obtain ⟨R, ⟨o, rfl, rfl⟩, hQ⟩ := hq
  exact st_ret gv_int hQ
theorem w_both (T : Txt K mg CG CC) : Met P w K mg base 1 CC "both" (SpR spBoth) := by
  refine met_of T.cC T.d_Counted_both sc_Counted_both b_Counted_both (fun vs H Q E ⟨R, ⟨o, _, _, _, _, e, _⟩, _⟩ => by rw [e]; rfl) fun f cdv A outer s H vs Q E hr hq => ?_
  refine ⟨_, (pss_one (ps_ret (pe_op op_mulW (pv 1) (pv 2)))), ?_⟩
  obtain ⟨R, ⟨o, v, u, a, b, rfl, hv, hu, la, lb, rfl⟩, hQ⟩ := hq
  exact st_ret (gv_mulW (gv_var rfl hv) (gv_var rfl hu) (lim_mul la lb)) hQ
theorem w_either (T : Txt K mg CG CC) : Met P w K mg base 1 CC "either" (SpR spEither) := by
  refine met_of T.cC T.d_Counted_either sc_Counted_either b_Counted_either (fun vs H Q E ⟨R, ⟨o, _, _, _, _, e, _⟩, _⟩ => by rw [e]; rfl) fun f cdv A outer s H vs Q E hr hq => ?_
  refine ⟨_, (pss_one (ps_ret (pe_op op_add (pv 1) (pv 2)))), ?_⟩
  obtain ⟨R, ⟨o, v, u, a, b, rfl, hv, hu, rfl⟩, hQ⟩ := hq
  exact st_ret (gv_add (gv_var rfl hv) (gv_var rfl hu)) hQ
theorem w_of_tree (T : Txt K mg CG CC) : Met P w K mg base 1 CC "of_tree" (SpR spOfTree) := by
  refine met_of T.cC T.d_Counted_of_tree sc_Counted_of_tree b_Counted_of_tree (fun vs H Q E ⟨R, ⟨o, _, _, _, e, _⟩, _⟩ => by rw [e]; rfl) fun f cdv A outer s H vs Q E hr hq => ?_
  refine ⟨_, (pss_one (ps_ret (pv 2))), ?_⟩
  obtain ⟨R, ⟨o, k, v, a, rfl, hv, rfl⟩, hQ⟩ := hq
  exact st_ret (gv_var rfl hv) hQ
/-- lay: it changes the dict -/
def spLay (w : World) (CC : Addr) : Sp := fun vs H Q _ => ∃ a en n l ve vn vr, vs = [.ref a, ve, vn, vr] ∧ EAt w H a l ∧ Is H (encE en) ve ∧ Is H (.int (Int.ofNat n)) vn ∧ Rck CC H vr ∧ l.length < 1000000 ∧
  ∀ H1 ob, Ex H H1 → EAt w (upd H1 a ob) a (addL l en n) → Tups H1 (upd H1 a ob) → Q .non (upd H1 a ob)
theorem EAt.ex {H H' : Hp} {a : Addr} {l : List (En × Nat)} (h : EAt w H a l) (e : Ex H H') : EAt w H' a l := TAt.ex h e
theorem w_lay (T : Txt K mg CG CC) : Cal P w K mg base 2 "lay" (spLay w CC) := by
  refine cal_of T.d_lay sc_lay b_lay (fun vs H Q E ⟨_, _, _, _, _, _, _, e, _⟩ => by rw [e]; rfl) fun f cdv A outer s H vs Q E hr hq => ?_
  have c_either := w_either (P := P) (w := w) (base := base) T
  refine ⟨_, (pss_cons (ps_if (pt_cmpR (op_in_nd hr.units) (pv 1) (pv 0) (by with_unfolding_all rfl))
      (pss_one (ps_set (i := 2) sc_lay.nd rfl (Or.inl rfl) (pe_mt c_either hr (by omega) (pv 3) (pa_cons (pe_ix (ix_nd hr.units) (pv 0) (pv 1) (fun _ _ => rfl)) (pa_cons (pv 2) pa_nil)))))
      pss_nil)
    (pss_one (ps_asg (pv 2) (pg_sub (pv 0) (pv 1) (set_ndR hr.units))))), ?_⟩
  obtain ⟨a, en, n, l, ve, vn, vr, rfl, hd, he, hn, hk, hl, hQ⟩ := hq
  have fin : ∀ (H1 : Hp) (x : V) (m : Nat), Ex H H1 → Is H1 (.int (Int.ofNat m)) x → addL l en n = putA l en m → 
      tAsg (tVar 2) (gSub (tVar 0) (tVar 1) (rSetR w)) { nx := fun _ H' => Q .non H', rt := Q } [some (.ref a), some ve, some x, some vr] H1 := by
    intro H1 x m e1 hx ea
    refine st_setD (k := en) keyE (gv_var (R := IsV (.int (Int.ofNat m))) rfl hx) (gv_ref rfl) (gv_var rfl (Is.mono e1.tups _ _ he)) (TAt.ex hd e1) ?_ fun v H2 ob e2 rv d2 t2 => ?_
    · rw [List.length_map]
      show _ < 16777216
      omega
    · rw [rv.int_inv, show V.int (Int.ofNat m) = nI m from rfl, putK_f (f := nI), ← ea] at d2
      exact hQ H2 ob (e1.trans e2) d2 t2
  refine sq (st_if (gt_in (k := en) keyE (gv_var rfl he) (gv_ref rfl) hd) (fun h H1 e1 => ?_) fun h H1 e1 => ?_)
  · rw [valV_f (f := nI)] at h
    cases hg : getA l en with
    | none => rw [hg] at h; cases h
    | some m =>
      refine st_asg (R := IsV (.int (Int.ofNat (m + n)))) (gv_meth (R := Rck CC) (gv_var rfl (Mono.mo e1 hk)) rck_meth (gi_cons (gv_val (gv_ixD (k := en) keyE (gv_ref rfl) (gv_var rfl (Is.mono e1.tups _ _ he)) (TAt.ex hd e1) (by rw [valV_f (f := nI), hg]; rfl)) (.int _)) (gi_cons (gv_var rfl (Is.mono e1.tups _ _ hn)) gi_nil)) fun o vs H2 e2 ro ra => ?_) fun x H2 e2 r2 => ?_
      · obtain ⟨y, z, rfl, h1, h2⟩ := two_inv ra
        exact ⟨o, y, z, m, n, rfl, h1, h2, rfl⟩
      · exact fin H2 x (m + n) (e1.trans e2) r2 (by unfold addL; rw [hg])
  · rw [valV_f (f := nI)] at h
    have hg : getA l en = none := by cases hg : getA l en with | none => rfl | some m => rw [hg] at h; cases h
    exact fin H1 vn n e1 (Is.mono e1.tups _ _ hn) (by unfold addL; rw [hg])
end
end K31

namespace K31
open PySem PySem.Spec PyProof.Rows L2 NK Evl
/-! groups -/
section
variable {κ : Type} [DecidableEq κ]
def grpOf (items : List (κ × PyData)) : List (κ × List PyData) := items.foldl (fun m x => addG m x.1 x.2) []
theorem grpOf_snoc (l : List (κ × PyData)) (x : κ × PyData) : grpOf (l ++ [x]) = addG (grpOf l) x.1 x.2 := by
  unfold grpOf; rw [List.foldl_append]; rfl
theorem snoc_ind {α : Type} {P : List α → Prop} (h0 : P []) (h1 : ∀ l x, P l → P (l ++ [x])) (l : List α) : P l := by
  have : ∀ l : List α, P l.reverse := by
    intro l
    induction l with
    | nil => exact h0
    | cons a l ih => rw [List.reverse_cons]; exact h1 _ _ ih
  have h := this l.reverse
  rwa [List.reverse_reverse] at h
theorem grpOf_get (k : κ) (l : List (κ × PyData)) : (getA (grpOf l) k).getD [] = (l.filter fun x => decide (x.1 = k)).map (·.2) := by
  induction l using snoc_ind with
  | h0 => rfl
  | h1 l x ih =>
    rw [grpOf_snoc]
    unfold addG
    rw [getA_put, List.filter_append, List.map_append]
    by_cases h : x.1 = k
    · rw [if_pos h.symm, ← ih, h]
      simp [h]
    · rw [if_neg (fun z => h z.symm), ih]
      simp [h]
theorem grpOf_length (l : List (κ × PyData)) : (grpOf l).length ≤ l.length := by
  induction l using snoc_ind with
  | h0 => exact Nat.le_refl _
  | h1 l x ih =>
    rw [grpOf_snoc, List.length_append]
    have := putA_length (grpOf l) x.1 ((getA (grpOf l) x.1).getD [] ++ [x.2])
    show (addG (grpOf l) x.1 x.2).length ≤ _
    unfold addG
    simp only [List.length_cons, List.length_nil]
    omega
end
def encI (i : Int) : PyData := .int i
theorem keyI : KeyE encI := ⟨fun a b h => by simpa [encI, keyDa] using h, fun a => by simp [encI, keyDa, NestedKey.depth]⟩
def encII (p : Int × Int) : PyData := .tuple [.int p.1, .int p.2]
theorem keyII : KeyE encII := ⟨fun a b h => by
  simp only [encII, keyDa, keysOf, NestedKey.tup.injEq, List.cons.injEq, NestedKey.num.injEq, and_true] at h
  exact Prod.ext h.1 h.2, fun a => by simp [encII, keyDa, keysOf, NestedKey.depth, NestedKey.depthAll]⟩
/-- a new dict of ends and numbers -/
def EdV (w : World) (H0 : Hp) (l : List (En × Nat)) : HR := fun H v => ∃ f, v = .ref f ∧ H0 f = none ∧ EAt w H f l
instance {w : World} {H0 : Hp} {l : List (En × Nat)} : Mono (EdV w H0 l) := ⟨fun e ⟨f, h1, h0, h2⟩ => ⟨f, h1, h0, h2.ex e⟩⟩
section
variable {P : Program} {w : World} {K : PySem.W.Frag} {mg : Str → Option Value} {base : Heap} {CG CC : Addr}
def Small (l : List (En × Nat)) : Prop := l.length ≤ 100 ∧ ∀ p ∈ l, p.2 < lim
def spBehind (w : World) (CC : Addr) : List V → Hp → HR → Prop := fun vs H R => ∃ a b vr one other, vs = [.ref a, .ref b, vr] ∧ EAt w H a one ∧ EAt w H b other ∧ Rck CC H vr ∧ Small one ∧ Small other ∧ R = EdV w H (laidOn [] (behindC one other))
theorem e0 {K : PySem.W.Frag} {σ : L2.St} {H : Hp} {ta : TE} {e : En} (h : Gv ta σ H (IsV (encE e))) : Gv (tOp (rIxT K) ta (tC (.int 0))) σ H (IsV (.int (Int.ofNat e.i))) := gv_ixT h gv_int rfl
theorem e1 {K : PySem.W.Frag} {σ : L2.St} {H : Hp} {ta : TE} {e : En} (h : Gv ta σ H (IsV (encE e))) : Gv (tOp (rIxT K) ta (tC (.int 1))) σ H (IsV (.int (gA e.f))) := gv_ixT h gv_int rfl
theorem e2 {K : PySem.W.Frag} {σ : L2.St} {H : Hp} {ta : TE} {e : En} (h : Gv ta σ H (IsV (encE e))) : Gv (tOp (rIxT K) ta (tC (.int 2))) σ H (IsV (.int (gB e.f))) := gv_ixT h gv_int rfl
theorem e3 {K : PySem.W.Frag} {σ : L2.St} {H : Hp} {ta : TE} {e : En} (h : Gv ta σ H (IsV (encE e))) : Gv (tOp (rIxT K) ta (tC (.int 3))) σ H (IsV (.int (Int.ofNat e.j))) := gv_ixT h gv_int rfl
theorem eat_keep {H H' : Hp} {a : Addr} {l : List (En × Nat)} (h : EAt w H a l) {H1 : Hp} (e : Ex H H1) (e' : Ex H H') : H' a = H1 a := by
  obtain ⟨o, ho, _⟩ := TAt.at_ h
  rw [e _ _ ho, e' _ _ ho]
/-- f(..); as a statement -/
theorem st_call {sp : Sp} {E : XK} {t : TA} {RA : Hp → List V → Prop} {σ : L2.St} {H : Hp} {D : Ends} (h : GvA t σ H RA) (q : ∀ vs H1, Ex H H1 → RA H1 vs → sp vs H1 (fun _ H2 => D.nx σ H2) E) : tDrop (tCall sp [] E t) D σ H :=
  h H (Ex.refl _) _ fun vs H1 e r => by
    rw [List.append_nil]
    exact q vs H1 e r
theorem lst_ne {κ : Type} [DecidableEq κ] {enc : κ → PyData} {H : Hp} {p a : Addr} {xs : List V} {l : List (κ × V)} (h : H p = some (.lst xs)) (d : TAt enc w H a l) : p ≠ a := fun z => by
  obtain ⟨kvs5, ep5, dr5, _⟩ := d
  have := dr5.at_
  rw [← z, h] at this
  cases this
theorem behindC_length (one other : List (En × Nat)) : (behindC one other).length ≤ one.length * other.length := by
  induction one with
  | nil => simp [behindC]
  | cons x l ih =>
    have h1 := List.length_filter_le (fun y : En × Nat => decide (y.1.i = x.1.j)) other
    have h2 : (behindC (x :: l) other).length = (other.filter fun y => decide (y.1.i = x.1.j)).length + (behindC l other).length := by
      simp [behindC]
    rw [h2, List.length_cons, Nat.succ_mul]
    omega
theorem w_behind (T : Txt K mg CG CC) : Cal P w K mg base 3 "behind_one_another" (SpR (spBehind w CC)) := by
  refine cal_of T.d_behind_one_another sc_behind_one_another b_behind_one_another (fun vs H Q E ⟨_, ⟨_, _, _, _, _, e, _⟩, _⟩ => by rw [e]; rfl) fun f cdv A outer s H vs Q E hr hq => ?_
  have c_both := w_both (P := P) (w := w) (base := base) T
  have c_lay := w_lay (P := P) (w := w) (base := base) T
  refine ⟨_, (pss_cons (ps_set (i := 3) sc_behind_one_another.nd rfl (Or.inl rfl) pe_dnew)
    (pss_cons (ps_for PassesOwn.never rfl (pi_dict (pv 1)) (pg_name (i := 4) sc_behind_one_another.nd rfl (Or.inl rfl))
      (pss_one (ps_expr (pe_bm PySem.F.plainAttrs_list PySem.F.slot_list_append PySem.F.type_list_append mt_append (pe_dsetdefR hr.units (pv 3) (pe_ix ix_tup (pv 4) pe_int (fun _ _ => rfl)) (pe_lst pa_nil) (by constructor <;> rfl)) (pa_cons (pv 4) pa_nil)))))
    (pss_cons (ps_set (i := 5) sc_behind_one_another.nd rfl (Or.inl rfl) pe_dnew)
    (pss_cons (ps_for PassesOwn.never rfl (pi_dict (pv 0)) (pg_name (i := 4) sc_behind_one_another.nd rfl (Or.inl rfl))
      (pss_one (ps_for PassesOwn.never rfl (pi_list (pe_dgetOr hr.units (pv 3) (pe_ix ix_tup (pv 4) pe_int (fun _ _ => rfl)) (pe_lst pa_nil) (by constructor <;> rfl))) (pg_name (i := 6) sc_behind_one_another.nd rfl (Or.inl rfl))
        (pss_cons (ps_set (i := 7) sc_behind_one_another.nd rfl (Or.inl rfl) (pe_ifExp (pt_cmpR op_ge (pe_ix ix_tup (pv 6) pe_int (fun _ _ => rfl)) pe_int (nomark _)) (pv 6) (pv 4)))
        (pss_cons (ps_set (i := 8) sc_behind_one_another.nd rfl (Or.inl rfl) (pe_tupP (pa_cons (pe_ix ix_tup (pv 4) pe_int (fun _ _ => rfl)) (pa_cons (pe_ix ix_tup (pv 7) pe_int (fun _ _ => rfl)) (pa_cons (pe_ix ix_tup (pv 7) pe_int (fun _ _ => rfl)) (pa_cons (pe_ix ix_tup (pv 6) pe_int (fun _ _ => rfl)) pa_nil))))))
        (pss_one (ps_expr (pe_c c_lay hr (by omega) rfl (pa_cons (pv 5) (pa_cons (pv 8) (pa_cons (pe_mt c_both hr (by omega) (pv 2) (pa_cons (pe_ix (ix_nd hr.units) (pv 0) (pv 4) (fun _ _ => rfl)) (pa_cons (pe_ix (ix_nd hr.units) (pv 1) (pv 6) (fun _ _ => rfl)) pa_nil))) (pa_cons (pv 2) pa_nil))))))))))))
    (pss_one (ps_ret (pv 5))))))), ?_⟩
  obtain ⟨R, ⟨a, b, vr, one, other, rfl, ha, hb, hk, ⟨l1', b1⟩, ⟨l2', b2⟩, rfl⟩, hQ⟩ := hq
  have l1 : one.length ≤ 1000 := by omega
  have l2 : other.length ≤ 1000 := by omega
  refine st_newT (enc := encI) fun ad ob nad dad => ?_
  dsimp only
  have x1 := Ex.new (o := ob) nad
  have hnd := TAt.nodup ha
  have hnd2 := TAt.nodup hb
  refine sq (st_forD (enc := encE) nI (gv_ref rfl) (TAt.ex hb x1) fun H1 y1 => ?_)
  have x2 := x1.trans y1
  refine ⟨fun pre σ' H' => (∃ c1 c2 c3 c4 c5, σ' = [some (.ref a), some (.ref b), some vr, some (.ref ad), c1, c2, c3, c4, c5]) ∧ Ex H H' ∧ Tups H1 H' ∧ ∃ ps, GrpAt H encI w H' ad (grpOf (pre.map fun p => (Int.ofNat p.1.i, encE p.1))) ps, ?_, fun pre σ' H' h => ⟨h.2.2.1, eat_keep hb x2 h.2.1⟩, ?_, ?_⟩
  · exact ⟨⟨_, _, _, _, _, rfl⟩, x2, Tups.refl _, [], ⟨TAt.ex dad y1, nad, List.nodup_nil, .nil⟩⟩
  · rintro pre ⟨e, n⟩ post x σ' H' el ⟨⟨c1, c2, c3, c4, c5, rfl⟩, z1, z2, ps, g⟩ hx
    have hlen : pre.length < 1000 := by
      have := congrArg List.length el
      simp at this
      omega
    refine st_grp (d := encE e) keyI (k := Int.ofNat e.i) (gv_ref rfl) (e0 (gv_var rfl hx)) rfl hx z1 g ?_ ?_ fun H2 ps' z3 z4 g2 => ?_
    · have := grpOf_length (pre.map fun p => (Int.ofNat p.1.i, encE p.1))
      rw [List.length_map] at this
      omega
    · rw [grpOf_get, List.length_map]
      have := List.length_filter_le (fun x : Int × PyData => decide (x.1 = Int.ofNat e.i)) (pre.map fun p => (Int.ofNat p.1.i, encE p.1))
      rw [List.length_map] at this
      omega
    · refine ⟨⟨_, _, _, _, _, rfl⟩, z3, z2.trans z4, ps', ?_⟩
      rw [List.map_append, show List.map (fun p : En × Nat => (Int.ofNat p.1.i, encE p.1)) [(e, n)] = [(Int.ofNat e.i, encE e)] from rfl, grpOf_snoc]
      exact g2
  · rintro σ' Hg ⟨⟨c1, c2, c3, c4, c5, rfl⟩, z1, z2, ps, g⟩
    refine st_newT (enc := encE) fun fd ob2 nfd dfd => ?_
    dsimp only
    have y2 := Ex.new (o := ob2) nfd
    have nfd0 : H fd = none := fresh_back z1 nfd
    have hag := TAt.ex ha z1
    have hbg := TAt.ex hb z1
    have hkg := Mono.mo z1 hk
    refine sq (st_forD (enc := encE) nI (gv_ref rfl) (TAt.ex hag y2) fun H3 y3 => ?_)
    refine ⟨fun pre σ' H' => (∃ c1 c2 c3 c4, σ' = [some (.ref a), some (.ref b), some vr, some (.ref ad), c1, some (.ref fd), c2, c3, c4]) ∧ Ex Hg H' ∧ Tups H3 H' ∧ EAt w H' fd (laidOn [] (behindC pre other)), ?_, fun pre σ' H' h => ⟨h.2.2.1, eat_keep hag (y2.trans y3) h.2.1⟩, ?_, ?_⟩
    · exact ⟨⟨_, _, _, _, rfl⟩, y2.trans y3, Tups.refl _, TAt.ex dfd y3⟩
    · rintro pre ⟨e, n⟩ post x σ' H' el ⟨⟨c1, c2, c3, c4, rfl⟩, z3, z4, dd⟩ hx
      have hget : getA one e = some n := getA_of_mem (by rw [List.map_map] at hnd; exact hnd) (by rw [el]; simp)
      have hn : n < lim := b1 (e, n) (by rw [el]; simp)
      have lpre : pre.length ≤ 999 := by
        have := congrArg List.length el
        simp at this
        omega
      refine st_forL (l := other.filter fun y => decide (y.1.i = e.j)) (f := fun y => encE y.1) ?_ fun p xs H5 e5 hp => ?_
      · refine gv_imp (gv_grp (k := Int.ofNat e.j) keyI (gv_ref rfl) (e3 (gv_var rfl hx)) (g.ex z3)) fun H7 v7 _ r7 => ?_
        rw [grpOf_get, List.filter_map, List.map_map] at r7
        have e6 : ((fun x : Int × PyData => decide (x.1 = Int.ofNat e.j)) ∘ fun p : En × Nat => (Int.ofNat p.1.i, encE p.1)) = fun y => decide (y.1.i = e.j) := by
          funext y
          show decide (Int.ofNat y.1.i = Int.ofNat e.j) = _
          congr 1
          simp
          exact Int.ofNat_inj
        rw [e6] at r7
        exact r7
      · refine ⟨fun pre2 σ' H' => (∃ c2 c3 c4, σ' = [some (.ref a), some (.ref b), some vr, some (.ref ad), some x, some (.ref fd), c2, c3, c4]) ∧ Ex Hg H' ∧ Tups H5 H' ∧ H' p = some (.lst xs) ∧ EAt w H' fd (laidOn (laidOn [] (behindC pre other)) (pre2.map fun y => (joinE e y.1, n * y.2))), ?_, fun _ _ _ h => ⟨h.2.2.1, h.2.2.2.1⟩, ?_, ?_⟩
        · exact ⟨⟨_, _, _, rfl⟩, z3.trans e5, Tups.refl _, hp, TAt.ex dd e5⟩
        · rintro pre2 ⟨e', n'⟩ post2 y σ' H6 el2 ⟨⟨c2, c3, c4, rfl⟩, z5, z6, hp6, dd6⟩ hy
          have hmem : (e', n') ∈ other := by
            have : (e', n') ∈ other.filter fun y => decide (y.1.i = e.j) := by rw [el2]; simp
            exact (List.mem_filter.mp this).1
          have hget2 : getA other e' = some n' := getA_of_mem (by rw [List.map_map] at hnd2; exact hnd2) hmem
          have hn2 : n' < lim := b2 (e', n') hmem
          have hx6 := Is.mono z6 _ _ (Is.mono e5.tups _ _ hx)
          refine st_asg (R := IsV (encE (match e'.f with | some _ => e' | none => e))) (gv_if (gt_test (gv_ge (e1 (gv_var rfl hy)) gv_int)) (fun h => ?_) fun h => ?_) fun vf H7 e7 r7 => ?_
          · cases hf : e'.f with
            | some q => exact gv_var rfl hy
            | none => rw [hf] at h; exact absurd (of_decide_eq_true h) (by decide)
          · cases hf : e'.f with
            | none => exact gv_var rfl hx6
            | some q => rw [hf] at h; exact absurd (Int.natCast_nonneg q.1) (of_decide_eq_false h)
          · dsimp only
            refine sq (st_asg (R := IsV (encE (joinE e e'))) (gv_is (gv_tup (gi_cons (e0 (gv_var rfl (Is.mono e7.tups _ _ hx6))) (gi_cons (e1 (gv_var rfl r7)) (gi_cons (e2 (gv_var rfl r7)) (gi_cons (e3 (gv_var rfl (Is.mono e7.tups _ _ hy))) gi_nil))))) ?_) fun vw H8 e8 r8 => ?_)
            · cases hf : e'.f <;> simp [encE, joinE, hf]
            · dsimp only
              have e78 := e7.trans e8
              have ha8 := TAt.ex hag ((z5.trans e78))
              have hb8 := TAt.ex hbg ((z5.trans e78))
              have hk8 := Mono.mo (z5.trans e78) hkg
              refine st_call (RA := ConsR (EqV (.ref fd)) (ConsR (IsV (encE (joinE e e'))) (ConsR (IsV (.int (Int.ofNat (n * n')))) (ConsR (Rck CC) NilR)))) (ga_cons (gv_ref rfl) (ga_cons (gv_var rfl r8) (ga_cons (gv_meth (R := Rck CC) (gv_var rfl hk8) rck_meth (gi_cons (gv_val (gv_ixD (k := e) (enc := encE) keyE (gv_ref rfl) (gv_var rfl (Is.mono e78.tups _ _ hx6)) ha8 (by rw [valV_f (f := nI), hget]; rfl)) (.int _)) (gi_cons (gv_val (gv_ixD (k := e') (enc := encE) keyE (gv_ref rfl) (gv_var rfl (Is.mono e78.tups _ _ hy)) hb8 (by rw [valV_f (f := nI), hget2]; rfl)) (.int _)) gi_nil)) fun o vs H9 e9 ro ra => ?_) (ga_cons (gv_var rfl hk8) ga_nil)))) fun vs H9 e9 ra => ?_
              · obtain ⟨y1, y2, rfl, h1, h2⟩ := two_inv ra
                exact ⟨o, y1, y2, n, n', rfl, h1, h2, hn, hn2, rfl⟩
              · obtain ⟨q1, _, rfl, rfl, q2, _, rfl, i2, q3, _, rfl, i3, q4, _, rfl, i4, rfl⟩ := ra
                have e79 := e78.trans e9
                refine ⟨fd, joinE e e', n * n', _, q2, q3, q4, rfl, TAt.ex dd6 e79, i2, i3, i4, ?_, fun H10 ob3 e10 d10 t10 => ?_⟩
                · have h1 := laidOn_length (behindC pre other) []
                  have h2 := laidOn_length (pre2.map fun y => (joinE e y.1, n * y.2)) (laidOn [] (behindC pre other))
                  have h3 := behindC_length pre other
                  have h4 : pre2.length ≤ 999 := by
                    have h5 := congrArg List.length el2
                    have h6 := List.length_filter_le (fun y : En × Nat => decide (y.1.i = e.j)) other
                    simp only [List.length_append, List.length_cons] at h5
                    omega
                  rw [List.length_map] at h2
                  have h5 : pre.length * other.length ≤ 999 * 1000 := Nat.mul_le_mul lpre l2
                  simp only [List.length_nil] at h1
                  omega
                · have ep := e79.trans e10
                  have hp10 := ep _ _ hp6
                  refine ⟨⟨_, _, _, rfl⟩, Ex.mut (z5.trans ep) nfd, (z6.trans ep.tups).trans t10, ?_, ?_⟩
                  · rw [upd_ne (lst_ne hp10 (TAt.ex dd6 ep))]
                    exact hp10
                  · rw [List.map_append, show List.map (fun y : En × Nat => (joinE e y.1, n * y.2)) [(e', n')] = [(joinE e e', n * n')] from rfl, laidOn_snoc]
                    exact d10
        · rintro σ' H6 ⟨⟨c2, c3, c4, rfl⟩, z5, z6, hp6, dd6⟩
          refine ⟨⟨_, _, _, _, rfl⟩, z5, (z4.trans e5.tups).trans z6, ?_⟩
          unfold behindC
          rw [List.flatMap_append, laidOn_app]
          simpa [behindC] using dd6
    · rintro σ' H4 ⟨⟨c1, c2, c3, c4, rfl⟩, z3, z4, dd⟩
      exact st_ret (gv_ref rfl) fun v H5 e5 r5 => hQ v H5 ((z1.trans z3).trans e5) ⟨fd, r5, nfd0, dd.ex e5⟩
end
end K31

namespace K31
open PySem PySem.Spec PyProof.Rows L2 NK Evl
section
variable {P : Program} {w : World} {K : PySem.W.Frag} {mg : Str → Option Value} {base : Heap} {CG CC : Addr}
theorem roundC_length (outer inner : List (En × Nat)) : (roundC outer inner).length ≤ outer.length * inner.length := by
  induction outer with
  | nil => simp [roundC]
  | cons x l ih =>
    have h1 := List.length_filter_le (fun y : En × Nat => decide (x.1.f = some (y.1.i, y.1.j))) inner
    have h2 : (roundC (x :: l) inner).length = (inner.filter fun y => decide (x.1.f = some (y.1.i, y.1.j))).length + (roundC l inner).length := by
      simp [roundC]
    rw [h2, List.length_cons, Nat.succ_mul]
    omega
def spRound (w : World) (CC : Addr) : List V → Hp → HR → Prop := fun vs H R => ∃ a b vr one other, vs = [.ref a, .ref b, vr] ∧ EAt w H a one ∧ EAt w H b other ∧ Rck CC H vr ∧ Small one ∧ Small other ∧ R = EdV w H (laidOn [] (roundC one other))
theorem w_round (T : Txt K mg CG CC) : Cal P w K mg base 3 "put_round" (SpR (spRound w CC)) := by
  refine cal_of T.d_put_round sc_put_round b_put_round (fun vs H Q E ⟨_, ⟨_, _, _, _, _, e, _⟩, _⟩ => by rw [e]; rfl) fun f cdv A outer s H vs Q E hr hq => ?_
  have c_both := w_both (P := P) (w := w) (base := base) T
  have c_lay := w_lay (P := P) (w := w) (base := base) T
  refine ⟨_, (pss_cons (ps_set (i := 3) sc_put_round.nd rfl (Or.inl rfl) pe_dnew)
    (pss_cons (ps_for PassesOwn.never rfl (pi_dict (pv 1)) (pg_name (i := 4) sc_put_round.nd rfl (Or.inl rfl))
      (pss_one (ps_expr (pe_bm PySem.F.plainAttrs_list PySem.F.slot_list_append PySem.F.type_list_append mt_append (pe_dsetdefR hr.units (pv 3) (pe_tupP (pa_cons (pe_ix ix_tup (pv 4) pe_int (fun _ _ => rfl)) (pa_cons (pe_ix ix_tup (pv 4) pe_int (fun _ _ => rfl)) pa_nil))) (pe_lst pa_nil) (by constructor <;> rfl)) (pa_cons (pv 4) pa_nil)))))
    (pss_cons (ps_set (i := 5) sc_put_round.nd rfl (Or.inl rfl) pe_dnew)
    (pss_cons (ps_for PassesOwn.never rfl (pi_dict (pv 0)) (pg_name (i := 4) sc_put_round.nd rfl (Or.inl rfl))
      (pss_one (ps_for PassesOwn.never rfl (pi_list (pe_dgetOr hr.units (pv 3) (pe_slice sl_tupP (pv 4) (po_some pe_int) (po_some pe_int)) (pe_lst pa_nil) (by constructor <;> rfl))) (pg_name (i := 6) sc_put_round.nd rfl (Or.inl rfl))
        (pss_cons (ps_set (i := 7) sc_put_round.nd rfl (Or.inl rfl) (pe_tupP (pa_cons (pe_ix ix_tup (pv 4) pe_int (fun _ _ => rfl)) (pa_cons (pe_ix ix_tup (pv 6) pe_int (fun _ _ => rfl)) (pa_cons (pe_ix ix_tup (pv 6) pe_int (fun _ _ => rfl)) (pa_cons (pe_ix ix_tup (pv 4) pe_int (fun _ _ => rfl)) pa_nil))))))
        (pss_one (ps_expr (pe_c c_lay hr (by omega) rfl (pa_cons (pv 5) (pa_cons (pv 7) (pa_cons (pe_mt c_both hr (by omega) (pv 2) (pa_cons (pe_ix (ix_nd hr.units) (pv 0) (pv 4) (fun _ _ => rfl)) (pa_cons (pe_ix (ix_nd hr.units) (pv 1) (pv 6) (fun _ _ => rfl)) pa_nil))) (pa_cons (pv 2) pa_nil)))))))))))
    (pss_one (ps_ret (pv 5))))))), ?_⟩
  obtain ⟨R, ⟨a, b, vr, one, other, rfl, ha, hb, hk, ⟨l1', b1⟩, ⟨l2', b2⟩, rfl⟩, hQ⟩ := hq
  have l1 : one.length ≤ 1000 := by omega
  have l2 : other.length ≤ 1000 := by omega
  refine st_newT (enc := encII) fun ad ob nad dad => ?_
  dsimp only
  have x1 := Ex.new (o := ob) nad
  have hnd := TAt.nodup ha
  have hnd2 := TAt.nodup hb
  refine sq (st_forD (enc := encE) nI (gv_ref rfl) (TAt.ex hb x1) fun H1 y1 => ?_)
  have x2 := x1.trans y1
  refine ⟨fun pre σ' H' => (∃ c1 c2 c3 c4, σ' = [some (.ref a), some (.ref b), some vr, some (.ref ad), c1, c2, c3, c4]) ∧ Ex H H' ∧ Tups H1 H' ∧ ∃ ps, GrpAt H encII w H' ad (grpOf (pre.map fun p => ((Int.ofNat p.1.i, Int.ofNat p.1.j), encE p.1))) ps, ?_, fun pre σ' H' h => ⟨h.2.2.1, eat_keep hb x2 h.2.1⟩, ?_, ?_⟩
  · exact ⟨⟨_, _, _, _, rfl⟩, x2, Tups.refl _, [], ⟨TAt.ex dad y1, nad, List.nodup_nil, .nil⟩⟩
  · rintro pre ⟨e, n⟩ post x σ' H' el ⟨⟨c1, c2, c3, c4, rfl⟩, z1, z2, ps, g⟩ hx
    have hlen : pre.length < 1000 := by
      have := congrArg List.length el
      simp at this
      omega
    refine st_grp (d := encE e) keyII (k := (Int.ofNat e.i, Int.ofNat e.j)) (gv_ref rfl) (gv_tup (gi_cons (e0 (gv_var rfl hx)) (gi_cons (e3 (gv_var rfl hx)) gi_nil))) rfl hx z1 g ?_ ?_ fun H2 ps' z3 z4 g2 => ?_
    · have := grpOf_length (pre.map fun p => ((Int.ofNat p.1.i, Int.ofNat p.1.j), encE p.1))
      rw [List.length_map] at this
      omega
    · rw [grpOf_get, List.length_map]
      have := List.length_filter_le (fun x : (Int × Int) × PyData => decide (x.1 = (Int.ofNat e.i, Int.ofNat e.j))) (pre.map fun p => ((Int.ofNat p.1.i, Int.ofNat p.1.j), encE p.1))
      rw [List.length_map] at this
      omega
    · refine ⟨⟨_, _, _, _, rfl⟩, z3, z2.trans z4, ps', ?_⟩
      rw [List.map_append, show List.map (fun p : En × Nat => ((Int.ofNat p.1.i, Int.ofNat p.1.j), encE p.1)) [(e, n)] = [((Int.ofNat e.i, Int.ofNat e.j), encE e)] from rfl, grpOf_snoc]
      exact g2
  · rintro σ' Hg ⟨⟨c1, c2, c3, c4, rfl⟩, z1, z2, ps, g⟩
    refine st_newT (enc := encE) fun fd ob2 nfd dfd => ?_
    dsimp only
    have y2 := Ex.new (o := ob2) nfd
    have nfd0 : H fd = none := fresh_back z1 nfd
    have hag := TAt.ex ha z1
    have hbg := TAt.ex hb z1
    have hkg := Mono.mo z1 hk
    refine sq (st_forD (enc := encE) nI (gv_ref rfl) (TAt.ex hag y2) fun H3 y3 => ?_)
    refine ⟨fun pre σ' H' => (∃ c1 c2 c3, σ' = [some (.ref a), some (.ref b), some vr, some (.ref ad), c1, some (.ref fd), c2, c3]) ∧ Ex Hg H' ∧ Tups H3 H' ∧ EAt w H' fd (laidOn [] (roundC pre other)), ?_, fun pre σ' H' h => ⟨h.2.2.1, eat_keep hag (y2.trans y3) h.2.1⟩, ?_, ?_⟩
    · exact ⟨⟨_, _, _, rfl⟩, y2.trans y3, Tups.refl _, TAt.ex dfd y3⟩
    · rintro pre ⟨e, n⟩ post x σ' H' el ⟨⟨c1, c2, c3, rfl⟩, z3, z4, dd⟩ hx
      have hget : getA one e = some n := getA_of_mem (by rw [List.map_map] at hnd; exact hnd) (by rw [el]; simp)
      have hn : n < lim := b1 (e, n) (by rw [el]; simp)
      have lpre : pre.length ≤ 999 := by
        have := congrArg List.length el
        simp at this
        omega
      refine st_forL (l := other.filter fun y => decide (e.f = some (y.1.i, y.1.j))) (f := fun y => encE y.1) ?_ fun p xs H5 e5 hp => ?_
      · refine gv_imp (gv_grp (k := (gA e.f, gB e.f)) keyII (gv_ref rfl) (gv_is (gv_slT (ds := [.int (Int.ofNat e.i), .int (gA e.f), .int (gB e.f), .int (Int.ofNat e.j)]) (gv_var rfl hx) (go_some gv_int) (go_some gv_int)) rfl) (g.ex z3)) fun H7 v7 _ r7 => ?_
        rw [grpOf_get, List.filter_map, List.map_map] at r7
        have e6 : ((fun x : (Int × Int) × PyData => decide (x.1 = (gA e.f, gB e.f))) ∘ fun p : En × Nat => ((Int.ofNat p.1.i, Int.ofNat p.1.j), encE p.1)) = fun y => decide (e.f = some (y.1.i, y.1.j)) := by
          funext y
          show decide ((Int.ofNat y.1.i, Int.ofNat y.1.j) = (gA e.f, gB e.f)) = _
          congr 1
          cases hf : e.f with
          | none => simp [gA, gB]
          | some q =>
            simp only [gA, gB, Option.some.injEq, eq_iff_iff]
            constructor
            · intro h
              have h1 : Int.ofNat y.1.i = Int.ofNat q.1 := congrArg Prod.fst h
              have h2 : Int.ofNat y.1.j = Int.ofNat q.2 := congrArg Prod.snd h
              exact (Prod.ext (Int.ofNat.inj h1) (Int.ofNat.inj h2)).symm
            · intro h
              rw [h]
        rw [e6] at r7
        exact r7
      · refine ⟨fun pre2 σ' H' => (∃ c2 c3, σ' = [some (.ref a), some (.ref b), some vr, some (.ref ad), some x, some (.ref fd), c2, c3]) ∧ Ex Hg H' ∧ Tups H5 H' ∧ H' p = some (.lst xs) ∧ EAt w H' fd (laidOn (laidOn [] (roundC pre other)) (pre2.map fun y => (roundE e y.1, n * y.2))), ?_, fun _ _ _ h => ⟨h.2.2.1, h.2.2.2.1⟩, ?_, ?_⟩
        · exact ⟨⟨_, _, rfl⟩, z3.trans e5, Tups.refl _, hp, TAt.ex dd e5⟩
        · rintro pre2 ⟨e', n'⟩ post2 y σ' H6 el2 ⟨⟨c2, c3, rfl⟩, z5, z6, hp6, dd6⟩ hy
          have hmem : (e', n') ∈ other := by
            have : (e', n') ∈ other.filter fun y => decide (e.f = some (y.1.i, y.1.j)) := by rw [el2]; simp
            exact (List.mem_filter.mp this).1
          have hget2 : getA other e' = some n' := getA_of_mem (by rw [List.map_map] at hnd2; exact hnd2) hmem
          have hn2 : n' < lim := b2 (e', n') hmem
          have hx6 := Is.mono z6 _ _ (Is.mono e5.tups _ _ hx)
          refine st_asg (R := IsV (encE (roundE e e'))) (gv_is (gv_tup (gi_cons (e0 (e := e) (gv_var rfl hx6)) (gi_cons (e1 (e := e') (gv_var rfl hy)) (gi_cons (e2 (e := e') (gv_var rfl hy)) (gi_cons (e3 (e := e) (gv_var rfl hx6)) gi_nil))))) rfl) fun vw H8 e8 r8 => ?_
          · dsimp only
            · have e78 := e8
              have ha8 := TAt.ex hag ((z5.trans e78))
              have hb8 := TAt.ex hbg ((z5.trans e78))
              have hk8 := Mono.mo (z5.trans e78) hkg
              refine st_call (RA := ConsR (EqV (.ref fd)) (ConsR (IsV (encE (roundE e e'))) (ConsR (IsV (.int (Int.ofNat (n * n')))) (ConsR (Rck CC) NilR)))) (ga_cons (gv_ref rfl) (ga_cons (gv_var rfl r8) (ga_cons (gv_meth (R := Rck CC) (gv_var rfl hk8) rck_meth (gi_cons (gv_val (gv_ixD (k := e) (enc := encE) keyE (gv_ref rfl) (gv_var rfl (Is.mono e78.tups _ _ hx6)) ha8 (by rw [valV_f (f := nI), hget]; rfl)) (.int _)) (gi_cons (gv_val (gv_ixD (k := e') (enc := encE) keyE (gv_ref rfl) (gv_var rfl (Is.mono e78.tups _ _ hy)) hb8 (by rw [valV_f (f := nI), hget2]; rfl)) (.int _)) gi_nil)) fun o vs H9 e9 ro ra => ?_) (ga_cons (gv_var rfl hk8) ga_nil)))) fun vs H9 e9 ra => ?_
              · obtain ⟨y1, y2, rfl, h1, h2⟩ := two_inv ra
                exact ⟨o, y1, y2, n, n', rfl, h1, h2, hn, hn2, rfl⟩
              · obtain ⟨q1, _, rfl, rfl, q2, _, rfl, i2, q3, _, rfl, i3, q4, _, rfl, i4, rfl⟩ := ra
                have e79 := e78.trans e9
                refine ⟨fd, roundE e e', n * n', _, q2, q3, q4, rfl, TAt.ex dd6 e79, i2, i3, i4, ?_, fun H10 ob3 e10 d10 t10 => ?_⟩
                · have h1 := laidOn_length (roundC pre other) []
                  have h2 := laidOn_length (pre2.map fun y => (roundE e y.1, n * y.2)) (laidOn [] (roundC pre other))
                  have h3 := roundC_length pre other
                  have h4 : pre2.length ≤ 999 := by
                    have h5 := congrArg List.length el2
                    have h6 := List.length_filter_le (fun y : En × Nat => decide (e.f = some (y.1.i, y.1.j))) other
                    simp only [List.length_append, List.length_cons] at h5
                    omega
                  rw [List.length_map] at h2
                  have h5 : pre.length * other.length ≤ 999 * 1000 := Nat.mul_le_mul lpre l2
                  simp only [List.length_nil] at h1
                  omega
                · have ep := e79.trans e10
                  have hp10 := ep _ _ hp6
                  refine ⟨⟨_, _, rfl⟩, Ex.mut (z5.trans ep) nfd, (z6.trans ep.tups).trans t10, ?_, ?_⟩
                  · rw [upd_ne (lst_ne hp10 (TAt.ex dd6 ep))]
                    exact hp10
                  · rw [List.map_append, show List.map (fun y : En × Nat => (roundE e y.1, n * y.2)) [(e', n')] = [(roundE e e', n * n')] from rfl, laidOn_snoc]
                    exact d10
        · rintro σ' H6 ⟨⟨c2, c3, rfl⟩, z5, z6, hp6, dd6⟩
          refine ⟨⟨_, _, _, rfl⟩, z5, (z4.trans e5.tups).trans z6, ?_⟩
          unfold roundC
          rw [List.flatMap_append, laidOn_app]
          simpa [roundC] using dd6
    · rintro σ' H4 ⟨⟨c1, c2, c3, rfl⟩, z3, z4, dd⟩
      exact st_ret (gv_ref rfl) fun v H5 e5 r5 => hQ v H5 ((z1.trans z3).trans e5) ⟨fd, r5, nfd0, dd.ex e5⟩
end
end K31

/-! the ground: its pieces, what they call, its table -/
namespace K31
open PySem PySem.Spec PyProof.Rows L2 NK Evl

structure Bk where
  top : Str
  trees : List (Str × Tr)
def encB (bk : Bk) : PyData := .tuple [.str bk.top, .tuple (bk.trees.map fun p => .tuple [.str p.1, encT p.2])]
abbrev KP := Str × Place
def encKP (p : KP) : PyData := .tuple [.str p.1, encP p.2]
structure Seat where
  key : Str
  place : Place
  done : Bool
  deriving DecidableEq
def encSeat (s : Seat) : PyData := .tuple [.str s.key, encP s.place, .bool s.done]
abbrev TK := Option Seat
def encTK : TK → PyData
  | none => .str "reckoner"
  | some s => encSeat s
abbrev NK1 := Option (Bool × Str)
def encNK : NK1 → PyData
  | none => .none
  | some p => .tuple [.bool p.1, .str p.2]
theorem keysOf_ints : ∀ p : Place, keysOf (p.map fun k => PyData.int (Int.ofNat k)) = p.map fun k => NestedKey.num (Int.ofNat k)
  | [] => rfl
  | k :: p => by rw [List.map_cons, keysOf, keysOf_ints p, keyDa]; rfl
theorem keyP_inj {p q : Place} (h : keyDa (encP p) = keyDa (encP q)) : p = q := by
  simp only [encP, keyDa, keysOf_ints, NestedKey.tup.injEq] at h
  exact List.map_inj_right (fun a b h => by simpa using Int.ofNat_inj.mp (by simpa using h)) |>.mp h
theorem depthAll_ints : ∀ p : Place, NestedKey.depthAll (p.map fun k => NestedKey.num (Int.ofNat k)) ≤ 1
  | [] => by simp [NestedKey.depthAll]
  | k :: p => by have := depthAll_ints p; simp only [List.map_cons, NestedKey.depthAll, NestedKey.depth]; omega
theorem dpP (p : Place) : (keyDa (encP p)).depth ≤ 2 := by
  have := depthAll_ints p
  simp only [encP, keyDa, keysOf_ints, NestedKey.depth]
  omega
theorem keyKP : KeyE encKP := ⟨fun a b h => by
  simp only [encKP, keyDa, keysOf, NestedKey.tup.injEq, List.cons.injEq, NestedKey.text.injEq, and_true] at h
  exact Prod.ext h.1 (keyP_inj h.2), fun a => by
  have := dpP a.2
  simp only [encKP, keyDa, keysOf, NestedKey.depth, NestedKey.depthAll]
  omega⟩
theorem b01 {a b : Bool} (h : (if a = true then (1 : Int) else 0) = if b = true then 1 else 0) : a = b := by cases a <;> cases b <;> first | rfl | cases h
theorem seat_inj {a b : Seat} (h : keyDa (encSeat a) = keyDa (encSeat b)) : a = b := by
  simp only [encSeat, keyDa, keysOf, NestedKey.tup.injEq, List.cons.injEq, NestedKey.text.injEq, NestedKey.num.injEq, and_true] at h
  obtain ⟨h1, h2, h3⟩ := h
  cases a; cases b
  simp only at h1 h2 h3
  rw [h1, keyP_inj h2, b01 h3]
theorem keySeat : KeyE encSeat := ⟨fun _ _ => seat_inj, fun a => by
  have := dpP a.place
  simp only [encSeat, keyDa, keysOf, NestedKey.depth, NestedKey.depthAll]
  omega⟩
theorem keyTK : KeyE encTK := ⟨fun a b h => by
  cases a with
  | none =>
    cases b with
    | none => rfl
    | some s => simp [encTK, encSeat, keyDa] at h
  | some t =>
    cases b with
    | none => simp [encTK, encSeat, keyDa] at h
    | some s => rw [seat_inj h], fun a => by
  cases a with
  | none => simp [encTK, keyDa, NestedKey.depth]
  | some t => exact keySeat.dp t⟩
theorem keyNK : KeyE encNK := ⟨fun a b h => by
  cases a with
  | none =>
    cases b with
    | none => rfl
    | some s => simp [encNK, keyDa] at h
  | some t =>
    cases b with
    | none => simp [encNK, keyDa] at h
    | some s =>
      simp only [encNK, keyDa, keysOf, NestedKey.tup.injEq, List.cons.injEq, NestedKey.text.injEq, NestedKey.num.injEq, and_true] at h
      rw [show t = s from Prod.ext (b01 h.1) h.2], fun a => by
  cases a with
  | none => simp [encNK, keyDa, NestedKey.depth]
  | some t => simp [encNK, keyDa, keysOf, NestedKey.depth, NestedKey.depthAll]⟩
/-! dicts with values of some kind -/
def TAtR {κ β : Type} (enc : κ → PyData) (RV : β → HR) (w : World) (H : Hp) (a : Addr) (l : List (κ × β)) : Prop :=
  ∃ vl : List (κ × V), TAt enc w H a vl ∧ Paired (fun (x : κ × V) (p : κ × β) => x.1 = p.1 ∧ RV p.2 H x.2) vl l
section
variable {κ β : Type} [DecidableEq κ] {enc : κ → PyData} {RV : β → HR} {w : World} {K : PySem.W.Frag} {σ : L2.St} {H H' : Hp} {a : Addr} {l : List (κ × β)} {ta tb te : TE} {D : Ends} {k : κ}
theorem TAtR.ex (m : ∀ b, Mono (RV b)) (h : TAtR enc RV w H a l) (e : Ex H H') : TAtR enc RV w H' a l := by
  obtain ⟨vl, d, p⟩ := h
  exact ⟨vl, d.ex e, paired_imp (fun _ _ q => ⟨q.1, (m _).mo e q.2⟩) p⟩
theorem TAtR.len (h : TAtR enc RV w H a l) : l.length ≤ sizeLine := by
  obtain ⟨vl, d, p⟩ := h
  rw [← Paired.length p]
  exact d.len
theorem valV_get (k : κ) : ∀ l : List (κ × V), valV l k = getA l k := fun l => rfl
theorem TAtR.get (h : TAtR enc RV w H a l) {b : β} (e : getA l k = some b) : ∃ vl v, TAt enc w H a vl ∧ valV vl k = some v ∧ RV b H v := by
  obtain ⟨vl, d, p⟩ := h
  rcases paired_get (fun _ _ q => q.1) k p with ⟨h1, h2⟩ | ⟨u, v, h1, h2, h3, _⟩
  · rw [h2] at e; cases e
  · rw [h2] at e
    cases e
    exact ⟨vl, u, d, h1, h3.2⟩
theorem gv_ixR' {b : β} (hk : KeyE enc) (m : ∀ b, Mono (RV b)) (hd : Gv ta σ H (EqV (.ref a))) (hy : Gv tb σ H (IsV (enc k))) (h : TAtR enc RV w H a l) (e : getA l k = some b) : Gv (tOp (rIxD w) ta tb) σ H (RV b) := by
  obtain ⟨vl, v, d, hv, r⟩ := h.get e
  have := m b
  exact gv_val (gv_ixD hk hd hy d hv) r
theorem gt_inR (hk : KeyE enc) (hy : Gv ta σ H (IsV (enc k))) (hd : Gv tb σ H (EqV (.ref a))) (h : TAtR enc RV w H a l) : EvT (tTest (tOp (rInD w) ta tb)) σ H (getA l k).isSome := by
  obtain ⟨vl, d, p⟩ := h
  have e : (valV vl k).isSome = (getA l k).isSome := by
    rcases paired_get (fun _ _ q => q.1) k p with ⟨h1, h2⟩ | ⟨u, v, h1, h2, h3, _⟩
    · rw [valV_get, h1, h2]; rfl
    · rw [valV_get, h1, h2]; rfl
  rw [← e]
  exact gt_in hk hy hd d
theorem paired_put {v : V} {b : β} {vl : List (κ × V)} (p : Paired (fun (x : κ × V) (p : κ × β) => x.1 = p.1 ∧ RV p.2 H x.2) vl l) (r : RV b H v) : Paired (fun (x : κ × V) (p : κ × β) => x.1 = p.1 ∧ RV p.2 H x.2) (putK vl k v) (putA l k b) := by
  have ea : (vl.any fun p => decide (p.1 = k)) = l.any fun p => decide (p.1 = k) := by
    induction p with
    | nil => rfl
    | cons q t ih => rw [List.any_cons, List.any_cons, ih, q.1]
  unfold putK putA
  rw [ea]
  split
  · refine paired_map (fun x y q => ?_) p
    by_cases e : y.1 = k
    · rw [if_pos (q.1.trans e), if_pos e]
      exact ⟨q.1, r⟩
    · rw [if_neg (fun z => e (q.1.symm.trans z)), if_neg e]
      exact q
  · exact paired_snoc (F := fun (x : κ × V) (p : κ × β) => x.1 = p.1 ∧ RV p.2 H x.2) (a := (k, v)) (b := (k, b)) ⟨rfl, r⟩ p
end
/-! the ground -/
def pieceOf (bk : Bk) (p : KP) : Option Tr := (getA bk.trees p.1).bind fun t => pieceAt t p.2
def namK (t : Tr) : NK1 := some (isGraft t, nameOf t)
def atK : Tr → NK1
  | .hole n => some (false, n)
  | .knot _ (some (g, _)) _ => some (true, g)
  | _ => none
theorem encNK_at (t : Tr) : encNK (atK t) = nameAt t := by
  cases t with
  | knot n tk ks => cases tk with
    | none => rfl
    | some p => rfl
  | _ => rfl
def calledOf (bk : Bk) (u : Tr) : List Str := (bk.trees.filter fun p => decide (namK p.2 = atK u)).map (·.1)
def seatsT (key : Str) (t : Tr) : List Seat := (placesT t).reverse.flatMap fun p => match pieceAt t p with
  | some (.knot ..) => [⟨key, p, false⟩, ⟨key, p, true⟩]
  | _ => [⟨key, p, true⟩]
def seatsOf (bk : Bk) : List Seat := bk.trees.flatMap fun p => seatsT p.1 p.2
def rowD (row : List Str) : PyData := .tuple (dStrs row)
def GMs : List Str := ["is_top", "has_foot", "goals", "leaf", "prefixes", "bare", "knot", "hole", "concluded", "filled", "listed"]
/-- the instance at g is the ground of that book and row -/
structure GrAt (CG : Addr) (w : World) (H : Hp) (g : Addr) (bk : Bk) (row : List Str) (dx : Addr) (fs : List (Str × V)) (vs vt : V) (pa ca : Addr) (pl : List (KP × Tr)) (cl : List (KP × List Str)) : Prop where
  at_ : H g = some (.ins CG dx fs)
  ms : ∀ m ∈ GMs, fs.lookup m = none
  f1 : fs.lookup ("signs" : Str) = some vs
  i1 : Is H (rowD row) vs
  f2 : fs.lookup ("pieces" : Str) = some (.ref pa)
  i2 : TAtR encKP (fun t => IsV (encT t)) w H pa pl
  f3 : fs.lookup ("called" : Str) = some (.ref ca)
  i3 : TAtR encKP (fun l => LsV (dStrs l)) w H ca cl
  f4 : fs.lookup ("seats" : Str) = some vt
  i4 : LsV ((seatsOf bk).map encSeat) H vt
  p2 : ∀ p u, pieceOf bk p = some u → getA pl p = some u
  p3 : ∀ p u, pieceOf bk p = some u → getA cl p = some (calledOf bk u)
theorem GrAt.ex {CG : Addr} {w : World} {H H' : Hp} {g : Addr} {bk : Bk} {row : List Str} {dx : Addr} {fs : List (Str × V)} {vs vt : V} {pa ca : Addr} {pl : List (KP × Tr)} {cl : List (KP × List Str)} (G : GrAt CG w H g bk row dx fs vs vt pa ca pl cl) (e : Ex H H') : GrAt CG w H' g bk row dx fs vs vt pa ca pl cl :=
  ⟨e _ _ G.at_, G.ms, G.f1, Is.mono e.tups _ _ G.i1, G.f2, G.i2.ex (fun _ => inferInstance) e, G.f3, G.i3.ex (fun _ => inferInstance) e, G.f4, Mono.mo e G.i4, G.p2, G.p3⟩
def GrV (CG : Addr) (w : World) (bk : Bk) (row : List Str) : HR := fun H v => ∃ g dx fs vs vt pa ca pl cl, v = .ref g ∧ GrAt CG w H g bk row dx fs vs vt pa ca pl cl
instance {CG : Addr} {w : World} {bk : Bk} {row : List Str} : Mono (GrV CG w bk row) := ⟨fun e ⟨g, dx, fs, vs, vt, pa, ca, pl, cl, h1, h2⟩ => ⟨g, dx, fs, vs, vt, pa, ca, pl, cl, h1, h2.ex e⟩⟩
/-! the table -/
abbrev Tab := Seat → List (En × Nat)
def TVal (CC : Addr) (w : World) : Option (List (En × Nat)) → HR
  | none => Rck CC
  | some l => fun H v => ∃ f, v = .ref f ∧ EAt w H f l
theorem tvalMono {CC : Addr} {w : World} (b : Option (List (En × Nat))) : Mono (TVal CC w b) := by
  cases b with
  | none => exact (inferInstance : Mono (Rck CC))
  | some l => exact ⟨fun e ⟨f, h1, h2⟩ => ⟨f, h1, h2.ex e⟩⟩
structure TbAt (CC : Addr) (w : World) (H : Hp) (a : Addr) (ss : List Seat) (T : Tab) (tl : List (TK × Option (List (En × Nat)))) : Prop where
  at_ : TAtR encTK (TVal CC w) w H a tl
  r : getA tl none = some none
  s : ∀ s ∈ ss, getA tl (some s) = some (some (T s))
  len : tl.length ≤ 10000
def TbV (CC : Addr) (w : World) (ss : List Seat) (T : Tab) : HR := fun H v => ∃ a tl, v = .ref a ∧ TbAt CC w H a ss T tl
theorem TbAt.ex {CC : Addr} {w : World} {H H' : Hp} {a : Addr} {ss : List Seat} {T : Tab} {tl : List (TK × Option (List (En × Nat)))} (h : TbAt CC w H a ss T tl) (e : Ex H H') : TbAt CC w H' a ss T tl :=
  ⟨h.at_.ex tvalMono e, h.r, h.s, h.len⟩
instance {CC : Addr} {w : World} {ss : List Seat} {T : Tab} : Mono (TbV CC w ss T) := ⟨fun e ⟨a, tl, h1, h2⟩ => ⟨a, tl, h1, h2.ex e⟩⟩
end K31

namespace K31
open PySem PySem.Spec PyProof.Rows L2 NK Evl
section
variable {P : Program} {w : World} {K : PySem.W.Frag} {mg : Str → Option Value} {base : Heap} {CG CC : Addr}
def InsG (CG : Addr) : HR := fun H v => ∃ a dx fs, v = .ref a ∧ H a = some (.ins CG dx fs) ∧ ∀ m ∈ GMs, fs.lookup m = none
instance {CG : Addr} : Mono (InsG CG) := ⟨fun e ⟨a, dx, fs, h1, h2, h3⟩ => ⟨a, dx, fs, h1, e _ _ h2, h3⟩⟩
theorem insG_meth {m : Str} (hm : m ∈ GMs) (H : Hp) (v : V) (h : InsG CG H v) : ∃ a dx fs, v = .ref a ∧ H a = some (.ins CG dx fs) ∧ fs.lookup m = none := by
  obtain ⟨a, dx, fs, h1, h2, h3⟩ := h
  exact ⟨a, dx, fs, h1, h2, h3 m hm⟩
theorem GrAt.ins {H : Hp} {g : Addr} {bk : Bk} {row : List Str} {dx : Addr} {fs : List (Str × V)} {vs vt : V} {pa ca : Addr} {pl : List (KP × Tr)} {cl : List (KP × List Str)} (G : GrAt CG w H g bk row dx fs vs vt pa ca pl cl) : InsG CG H (.ref g) := ⟨g, dx, fs, rfl, G.at_, G.ms⟩
theorem gv_fld {σ : L2.St} {H : Hp} {ta : TE} {g dx : Addr} {fs : List (Str × V)} {f : Str} {v : V} (T : Txt K mg CG CC) (hf : f ∈ (["top", "signs", "pieces", "called", "seats", "tops"] : List Str)) (h : Gv ta σ H (EqV (.ref g))) (hg : H g = some (.ins CG dx fs)) (hl : fs.lookup f = some v) : Gv (tFld K ta f) σ H (EqV v) := fun H1 e1 Q q =>
  h H1 e1 _ fun x H2 e2 rx => ⟨g, CG, dx, fs, v, rx, (e1.trans e2) _ _ hg, T.cG, T.na f hf, hl, q v H2 e2 rfl⟩
def hasFoot (t : Tr) : Bool := !(feetT t).isEmpty
def spHasFoot (CG : Addr) (n : Nat) : List V → Hp → HR → Prop := fun vs H R => ∃ o v t, vs = [o, v] ∧ InsG CG H o ∧ Is H (encT t) v ∧ htT t < n ∧ R = IsV (.bool (hasFoot t))
theorem feetTs_app : ∀ l m : List Tr, feetTs (l ++ m) = feetTs l ++ feetTs m
  | [], m => rfl
  | t :: l, m => by rw [List.cons_append, feetTs, feetTs, feetTs_app l m, List.append_assoc]
theorem w_has_foot_step (T : Txt K mg CG CC) (n : Nat) (c_has_foot : Met P w K mg base (n + 1) CG "has_foot" (SpR (spHasFoot CG n))) : Met P w K mg base (n + 2) CG "has_foot" (SpR (spHasFoot CG (n + 1))) := by
  refine met_of T.cG T.d_Ground_has_foot sc_Ground_has_foot b_Ground_has_foot (fun vs H Q E ⟨R, ⟨o, v, t, e, _⟩, _⟩ => by rw [e]; rfl) fun f cdv A outer s H vs Q E hr hq => ?_
  refine ⟨_, (pss_cons (ps_if (pt_cmpR op_eq (pe_ix ix_tup (pv 1) pe_int (fun _ _ => rfl)) pe_str (nomark _))
      (pss_one (ps_ret pe_bl))
      pss_nil)
    (pss_cons (ps_if (pt_cmpR op_eq (pe_ix ix_tup (pv 1) pe_int (fun _ _ => rfl)) pe_str (nomark _))
      (pss_one (ps_for PassesOwn.never rfl (pi_tup (pe_ix ix_tup (pv 1) pe_int (fun _ _ => rfl))) (pg_name (i := 2) sc_Ground_has_foot.nd rfl (Or.inl rfl))
        (pss_one (ps_if (pt_val (pe_mt c_has_foot hr (by omega) (pv 0) (pa_cons (pv 2) pa_nil)))
          (pss_one (ps_ret pe_bl))
          pss_nil))))
      pss_nil)
    (pss_one (ps_ret pe_bl)))), ?_⟩
  obtain ⟨R, ⟨o, v, t, rfl, ho, hv, hn, rfl⟩, hQ⟩ := hq
  refine sq (st_if (gt_tag (gv_var rfl hv)) (fun h H1 e1 => ?_) fun h H1 e1 => ?_)
  · have ht := of_decide_eq_true h
    have : hasFoot t = true := by
      cases t with
      | foot n => rfl
      | _ => exact absurd ht (by simp only [tagT]; decide)
    rw [this] at hQ
    exact st_ret gv_bl fun v2 H2 e2 r2 => hQ v2 H2 (e1.trans e2) r2
  · have hf := of_decide_eq_false h
    dsimp only [tNext]
    have hv1 := Is.mono e1.tups _ _ hv
    have ho1 := Mono.mo e1 ho
    refine sq (st_if (gt_tag (gv_var rfl hv1)) (fun h2 H2 e2 => ?_) fun h2 H2 e2 => ?_)
    · have hk := of_decide_eq_true h2
      have hv2 := Is.mono e2.tups _ _ hv1
      refine st_forT (l := kidsT t) (gv_kids (gv_var rfl hv2) hk) fun H3 e3 => ?_
      have e03 := (e1.trans e2).trans e3
      refine ⟨fun pre σ' H' => (∃ c, σ' = [some o, some v, c]) ∧ Ex H H' ∧ Tups H3 H' ∧ feetTs pre = [], ⟨⟨_, rfl⟩, e03, Tups.refl _, rfl⟩, fun _ _ _ h => h.2.2.1, ?_, ?_⟩
      · rintro pre d post x σ' H' el ⟨⟨c, rfl⟩, x1, x2, hp⟩ hx
        have hd : d ∈ kidsT t := by rw [el]; simp
        refine st_if (b := hasFoot d) (gt_B (gv_meth (R := InsG CG) (gv_var rfl (Mono.mo x1 ho)) (insG_meth (by decide)) (gi_cons (gv_var rfl hx) gi_nil) fun o' vs H4 e4 ro ra => ?_)) (fun h H4 e4 => ?_) fun h H4 e4 => ?_
        · obtain ⟨y, rfl, hy⟩ := one_inv ra
          exact ⟨o', y, d, rfl, ro, hy, by have := htT_kid hd; omega, rfl⟩
        · have : hasFoot t = true := by
            have h5 : feetT t = feetTs (kidsT t) := by
              cases t with
              | knot a b c => rw [feetT]; rfl
              | _ => exact absurd hk (by simp only [tagT]; decide)
            unfold hasFoot at h ⊢
            rw [h5, el, feetTs_app, feetTs]
            cases h6 : feetT d with
            | nil => rw [h6] at h; cases h
            | cons a b => simp
          rw [this] at hQ
          exact st_ret gv_bl fun v2 H5 e5 r2 => hQ v2 H5 ((x1.trans e4).trans e5) r2
        · refine ⟨⟨_, rfl⟩, x1.trans e4, x2.trans e4.tups, ?_⟩
          unfold hasFoot at h
          rw [feetTs_app, hp, feetTs, feetTs]
          cases h6 : feetT d with
          | nil => rfl
          | cons a b => rw [h6] at h; cases h
      · rintro σ' H' ⟨⟨c, rfl⟩, x1, x2, hp⟩
        have : hasFoot t = false := by
          have h5 : feetT t = feetTs (kidsT t) := by
            cases t with
            | knot a b c => rw [feetT]; rfl
            | _ => exact absurd hk (by simp only [tagT]; decide)
          unfold hasFoot
          rw [h5, hp]
          rfl
        rw [this] at hQ
        dsimp only
        exact st_ret gv_bl fun v2 H5 e5 r2 => hQ v2 H5 (x1.trans e5) r2
    · have hk := of_decide_eq_false h2
      have : hasFoot t = false := by
        cases t with
        | knot a b c => exact absurd rfl hk
        | foot n => exact absurd rfl hf
        | _ => rfl
      rw [this] at hQ
      dsimp only [tNext]
      exact st_ret gv_bl fun v2 H5 e5 r2 => hQ v2 H5 ((e1.trans e2).trans e5) r2
theorem w_has_foot (T : Txt K mg CG CC) : ∀ n, Met P w K mg base (n + 1) CG "has_foot" (SpR (spHasFoot CG n))
  | 0 => met_none 1 (fun vs H Q E ⟨R, ⟨_, _, t, _, _, _, h, _⟩, _⟩ => by omega) T.cG T.d_Ground_has_foot b_Ground_has_foot
  | n + 1 => w_has_foot_step T n (w_has_foot T n)
/-- the leaf's ends -/
def leafI (t : Tr) (row : List Str) (i : Nat) : List (En × Nat) := match t with
  | .void => [(⟨i, none, i⟩, 1)]
  | .foot _ => (List.range (row.length + 1 - i)).map fun k => (⟨i, some (i, i + k), i + k⟩, 1)
  | t => if row[i]? = some (nameT t) then [(⟨i, none, i + 1⟩, 1)] else []
def putsL (l C : List (En × Nat)) : List (En × Nat) := C.foldl (fun l c => putA l c.1 c.2) l
theorem putsL_snoc (l C : List (En × Nat)) (c : En × Nat) : putsL l (C ++ [c]) = putA (putsL l C) c.1 c.2 := by unfold putsL; rw [List.foldl_append]; rfl
theorem putsL_app (l C D : List (En × Nat)) : putsL l (C ++ D) = putsL (putsL l C) D := by unfold putsL; rw [List.foldl_append]
theorem putsL_length (C : List (En × Nat)) : ∀ l, (putsL l C).length ≤ l.length + C.length := by
  induction C with
  | nil => intro l; exact Nat.le_refl _
  | cons c C ih =>
    intro l
    have h1 := ih (putA l c.1 c.2)
    have h2 := putA_length l c.1 c.2
    show (putsL (putA l c.1 c.2) C).length ≤ _
    rw [List.length_cons]
    omega
def leafL (t : Tr) (row : List Str) : List (En × Nat) := putsL [] ((List.range (row.length + 1)).flatMap (leafI t row))
theorem st_putE {σ : L2.St} {H : Hp} {ta tb te : TE} {D : Ends} {a : Addr} {l : List (En × Nat)} {e : En} {n : Nat} (he : Gv te σ H (IsV (.int (Int.ofNat n)))) (hd : Gv ta σ H (EqV (.ref a))) (hy : Gv tb σ H (IsV (encE e))) (h : EAt w H a l) (hl : l.length < 1000000)
    (q : ∀ H1 ob, Ex H H1 → EAt w (upd H1 a ob) a (putA l e n) → Tups H1 (upd H1 a ob) → D.nx σ (upd H1 a ob)) : tAsg te (gSub ta tb (rSetR w)) D σ H :=
  st_setD keyE he hd hy h (by rw [List.length_map]; show _ < 16777216; omega) fun v H1 ob e1 rv d1 t1 => q H1 ob e1 (by rw [rv.int_inv, show V.int (Int.ofNat n) = nI n from rfl, putK_f (f := nI)] at d1; exact d1) t1
theorem gv_unit {σ : L2.St} {H : Hp} {i : Nat} {v : V} {E : XK} (hσ : σ[i]? = some (some v)) (hv : Rck CC H v) : Gv (tMeth CC "unit" (SpR spUnit) [] E (tVar i) tNil) σ H (IsV (.int (Int.ofNat 1))) :=
  gv_meth (R := Rck CC) (gv_var hσ hv) rck_meth gi_nil fun o vs H1 _ _ ra => by
    cases ra
    exact ⟨o, rfl, rfl⟩
def spLeaf (w : World) (CG CC : Addr) : List V → Hp → HR → Prop := fun vs H R => ∃ o v r bk row t, vs = [o, v, r] ∧ GrV CG w bk row H o ∧ Is H (encT t) v ∧ Rck CC H r ∧ row.length ≤ 100 ∧ tagT t ≠ "hole" ∧ tagT t ≠ "knot" ∧ R = EdV w H (leafL t row)
theorem leafI_len (t : Tr) (row : List Str) (i : Nat) : (leafI t row i).length ≤ row.length + 1 := by
  cases t with
  | void => simp [leafI]
  | foot => simp [leafI]
  | sign s => simp only [leafI]; split <;> simp
  | hole s => simp only [leafI]; split <;> simp
  | knot a b c => simp only [leafI]; split <;> simp
theorem leafs_len (t : Tr) (row : List Str) (n : Nat) : ((List.range n).flatMap (leafI t row)).length ≤ n * (row.length + 1) := by
  induction n with
  | zero => simp
  | succ n ih =>
    rw [List.range_succ, List.flatMap_append, List.length_append, Nat.succ_mul]
    have := leafI_len t row n
    simp only [List.flatMap_cons, List.flatMap_nil, List.append_nil]
    omega
theorem w_leaf (T : Txt K mg CG CC) : Met P w K mg base 2 CG "leaf" (SpR (spLeaf w CG CC)) := by
  refine met_of T.cG T.d_Ground_leaf sc_Ground_leaf b_Ground_leaf (fun vs H Q E ⟨R, ⟨_, _, _, _, _, _, e, _⟩, _⟩ => by rw [e]; rfl) fun f cdv A outer s H vs Q E hr hq => ?_
  have c_unit := w_unit (P := P) (w := w) (base := base) T
  refine ⟨_, (pss_cons (ps_set (i := 3) sc_Ground_leaf.nd rfl (Or.inl rfl) (pe_callB cr_len rfl (T.fr "len" (by decide)) (by decide +kernel) (pa_cons (pe_fld (pv 0) rfl) pa_nil)))
    (pss_cons (ps_set (i := 4) sc_Ground_leaf.nd rfl (Or.inl rfl) pe_dnew)
    (pss_cons (ps_for PassesOwn.never rfl (pi_range1 (by rfl) (T.fr "range" (by decide)) (pa_cons (pe_op op_add (pv 3) pe_int) pa_nil)) (pg_name (i := 5) sc_Ground_leaf.nd rfl (Or.inl rfl))
      (pss_one (ps_if (pt_cmpR op_eq (pe_ix ix_tup (pv 1) pe_int (fun _ _ => rfl)) pe_str (nomark _))
        (pss_one (ps_asg (pe_mt0 c_unit hr (by omega) (pv 2)) (pg_sub (pv 4) (pe_tupP (pa_cons (pv 5) (pa_cons (pe_un un_neg pe_int) (pa_cons (pe_un un_neg pe_int) (pa_cons (pv 5) pa_nil))))) (set_ndR hr.units))))
        (pss_one (ps_if (pt_cmpR op_eq (pe_ix ix_tup (pv 1) pe_int (fun _ _ => rfl)) pe_str (nomark _))
          (pss_one (ps_for PassesOwn.never rfl (pi_range2 (by rfl) (T.fr "range" (by decide)) (pa_cons (pv 5) (pa_cons (pe_op op_add (pv 3) pe_int) pa_nil))) (pg_name (i := 6) sc_Ground_leaf.nd rfl (Or.inl rfl))
            (pss_one (ps_asg (pe_mt0 c_unit hr (by omega) (pv 2)) (pg_sub (pv 4) (pe_tupP (pa_cons (pv 5) (pa_cons (pv 5) (pa_cons (pv 6) (pa_cons (pv 6) pa_nil))))) (set_ndR hr.units))))))
          (pss_one (ps_if (pw_and (pt_cmpR op_lt (pv 5) (pv 3) (nomark _)) (pw_and1 (pt_cmpR op_eq (pe_ix ix_tup (pe_fld (pv 0) rfl) (pv 5) (fun _ _ => rfl)) (pe_ix ix_tup (pv 1) pe_int (fun _ _ => rfl)) (nomark _)))).pt
            (pss_one (ps_asg (pe_mt0 c_unit hr (by omega) (pv 2)) (pg_sub (pv 4) (pe_tupP (pa_cons (pv 5) (pa_cons (pe_un un_neg pe_int) (pa_cons (pe_un un_neg pe_int) (pa_cons (pe_op op_add (pv 5) pe_int) pa_nil))))) (set_ndR hr.units))))
            pss_nil)))))))
    (pss_one (ps_ret (pv 4)))))), ?_⟩
  obtain ⟨R, ⟨o, v, r, bk, row, t, rfl, ⟨g, dx, fs, vs', vt, pa, ca, pl, cl, rfl, G⟩, hv, hk, hrow, nh, nk, rfl⟩, hQ⟩ := hq
  refine st_asg (gv_lenT (ds := dStrs row) (gv_val (gv_fld T (by decide) (gv_ref rfl) G.at_ G.f1) G.i1)) fun vm H1 e1 r1 => ?_
  refine st_newT (enc := encE) fun fd ob nfd dfd => ?_
  dsimp only
  have x2 := Ex.new (o := ob) nfd
  have x02 := e1.trans x2
  have nf0 : H fd = none := fresh_back e1 nfd
  have lr : (dStrs row).length = row.length := by simp [dStrs]
  rw [lr] at r1
  refine sq (st_forR (n := row.length + 1) (gv_is (gv_add (gv_var rfl (Is.mono x2.tups _ _ r1)) gv_int) rfl) (by omega) fun H3 e3 => ?_)
  refine ⟨fun i σ' H' => (∃ c1 c2, σ' = [some (.ref g), some v, some r, some vm, some (.ref fd), c1, c2]) ∧ Ex H H' ∧ Ex H1 H' ∧ EAt w H' fd (putsL [] ((List.range i).flatMap (leafI t row))), ⟨⟨_, _, rfl⟩, x02.trans e3, x2.trans e3, TAt.ex dfd e3⟩, ?_, ?_⟩
  · rintro i σ' H' hi ⟨⟨c1, c2, rfl⟩, z1, z2, dd⟩
    have hv' := Is.mono z1.tups _ _ hv
    have hk' := Mono.mo z1 hk
    have hm' := Is.mono z2.tups _ _ r1
    have hlen := putsL_length ((List.range i).flatMap (leafI t row)) []
    have hlen2 := leafs_len t row i
    have hlen3 : i * (row.length + 1) ≤ 101 * 101 := Nat.mul_le_mul (by omega) (by omega)
    simp only [List.length_nil] at hlen
    have er : (List.range (i + 1)).flatMap (leafI t row) = (List.range i).flatMap (leafI t row) ++ leafI t row i := by
      rw [List.range_succ, List.flatMap_append]; simp
    refine st_if (gt_tag (gv_var rfl hv')) (fun h H4 e4 => ?_) fun h H4 e4 => ?_
    · have ht := of_decide_eq_true h
      have e5 : leafI t row i = [(⟨i, none, i⟩, 1)] := by
        cases t with
        | void => rfl
        | _ => exact absurd ht (by simp only [tagT]; decide)
      refine st_putE (e := ⟨i, none, i⟩) (gv_unit rfl (Mono.mo e4 hk')) (gv_ref rfl) (gv_tup (gi_cons (gv_var rfl (Is.int _)) (gi_cons (gv_neg gv_int) (gi_cons (gv_neg gv_int) (gi_cons (gv_var rfl (Is.int _)) gi_nil))))) (dd.ex e4) (by omega) fun H5 ob5 e5' d5 t5 => ?_
      refine ⟨⟨_, _, rfl⟩, Ex.mut (z1.trans (e4.trans e5')) nf0, Ex.mut (z2.trans (e4.trans e5')) nfd, ?_⟩
      rw [er, e5, putsL_snoc]
      exact d5
    · have ht := of_decide_eq_false h
      refine st_if (gt_tag (gv_var rfl (Is.mono e4.tups _ _ hv'))) (fun h2 H5 e5 => ?_) fun h2 H5 e5 => ?_
      · have ht2 := of_decide_eq_true h2
        have e6 : leafI t row i = (List.range (row.length + 1 - i)).map fun k => (⟨i, some (i, i + k), i + k⟩, 1) := by
          cases t with
          | foot => rfl
          | _ => exact absurd ht2 (by simp only [tagT]; decide)
        have z45 := e4.trans e5
        refine st_forR2 (m := i) (n := row.length + 1) (gv_var rfl (Is.int _)) (gv_is (gv_add (gv_var rfl (Is.mono z45.tups _ _ hm')) gv_int) rfl) (by omega) (by omega) fun H6 e6' => ?_
        refine ⟨fun k σ' H' => (∃ c2, σ' = [some (.ref g), some v, some r, some vm, some (.ref fd), some (.int (Int.ofNat i)), c2]) ∧ Ex H H' ∧ Ex H1 H' ∧ EAt w H' fd (putsL [] ((List.range i).flatMap (leafI t row) ++ (List.range k).map fun k => (⟨i, some (i, i + k), i + k⟩, 1))), ⟨⟨_, rfl⟩, z1.trans (z45.trans e6'), z2.trans (z45.trans e6'), by simpa using dd.ex (z45.trans e6')⟩, ?_, ?_⟩
        · rintro k σ' H7 hk7 ⟨⟨c3, rfl⟩, y1, y2, d7⟩
          have hl7 := putsL_length ((List.range i).flatMap (leafI t row) ++ (List.range k).map fun k => (⟨i, some (i, i + k), i + k⟩, 1)) []
          simp only [List.length_append, List.length_map, List.length_range, List.length_nil] at hl7
          refine st_putE (e := ⟨i, some (i, i + k), i + k⟩) (gv_unit rfl (Mono.mo y1 hk)) (gv_ref rfl) (gv_tup (gi_cons (gv_var rfl (Is.int _)) (gi_cons (gv_var rfl (Is.int _)) (gi_cons (gv_var rfl (Is.int _)) (gi_cons (gv_var rfl (Is.int _)) gi_nil))))) d7 (by omega) fun H8 ob8 e8 d8 t8 => ?_
          refine ⟨⟨_, rfl⟩, Ex.mut (y1.trans e8) nf0, Ex.mut (y2.trans e8) nfd, ?_⟩
          rw [List.range_succ, List.map_append, ← List.append_assoc, List.map_singleton, putsL_snoc]
          exact d8
        · rintro σ' H7 ⟨⟨c3, rfl⟩, y1, y2, d7⟩
          refine ⟨⟨_, _, rfl⟩, y1, y2, ?_⟩
          rw [er, e6]
          exact d7
      · have ht2 := of_decide_eq_false h2
        have hv5 := Is.mono (e4.trans e5).tups _ _ hv'
        have z5 := z1.trans (e4.trans e5)
        have e6 : leafI t row i = if row[i]? = some (nameT t) then [(⟨i, none, i + 1⟩, 1)] else [] := by
          cases t with
          | foot => exact absurd rfl ht2
          | void => exact absurd rfl ht
          | _ => rfl
        have G5 := G.ex z5
        refine st_if (b := decide (row[i]? = some (nameT t))) ?_ (fun h3 H6 e7 => ?_) fun h3 H6 e7 => ?_
        · have hlt : decide (Int.ofNat i < Int.ofNat row.length) = decide (i < row.length) := by congr 1; simp
          have hm5 := Is.mono (e4.trans e5).tups _ _ hm'
          refine et_is (et_and (a := decide (i < row.length)) (b := decide (row[i]? = some (nameT t))) (gt_test (gv_is (gv_lt (gv_var rfl (Is.int _)) (gv_var rfl hm5)) (by rw [hlt]))) fun h4 => ?_) ?_
          · have h5 := of_decide_eq_true h4
            have hg : row[i]? = some row[i] := List.getElem?_eq_getElem h5
            refine gt_test (gv_is (gv_eqS (a := row[i]) (gv_ixT (ds := dStrs row) (i := Int.ofNat i) (gv_val (gv_fld T (by decide) (gv_ref rfl) G5.at_ G5.f1) G5.i1) (gv_var rfl (Is.int _)) (atI_nat (by simp [dStrs, hg]))) (gv_nm (gv_var rfl hv5) ht)) ?_)
            rw [hg]
            simp
          · by_cases h5 : i < row.length
            · simp [h5]
            · simp [h5]
        · have h4 := of_decide_eq_true h3
          rw [if_pos h4] at e6
          refine st_putE (e := ⟨i, none, i + 1⟩) (gv_unit rfl (Mono.mo (z5.trans e7) hk)) (gv_ref rfl) (gv_tup (gi_cons (gv_var rfl (Is.int _)) (gi_cons (gv_neg gv_int) (gi_cons (gv_neg gv_int) (gi_cons (gv_is (gv_add (gv_var rfl (Is.int (Int.ofNat i))) gv_int) rfl) gi_nil))))) (dd.ex ((e4.trans e5).trans e7)) (by omega) fun H8 ob8 e8 d8 t8 => ?_
          refine ⟨⟨_, _, rfl⟩, Ex.mut ((z5.trans e7).trans e8) nf0, Ex.mut (z2.trans (((e4.trans e5).trans e7).trans e8)) nfd, ?_⟩
          rw [er, e6, putsL_snoc]
          exact d8
        · have h4 := of_decide_eq_false h3
          rw [if_neg h4] at e6
          refine ⟨⟨_, _, rfl⟩, z5.trans e7, z2.trans ((e4.trans e5).trans e7), ?_⟩
          rw [er, e6, List.append_nil]
          exact dd.ex ((e4.trans e5).trans e7)
  · rintro σ' H' ⟨⟨c1, c2, rfl⟩, z1, z2, dd⟩
    exact st_ret (gv_ref rfl) fun v5 H5 e5 r5 => hQ v5 H5 (z1.trans e5) ⟨fd, r5, nf0, dd.ex e5⟩
end
end K31

namespace K31
open PySem PySem.Spec PyProof.Rows L2 NK Evl
def prefL : List (List (En × Nat)) → List (En × Nat)
  | [] => []
  | d :: ds => ds.foldl (fun acc x => laidOn [] (behindC acc x)) d
theorem prefL_snoc {ds : List (List (En × Nat))} (h : ds ≠ []) (x : List (En × Nat)) : prefL (ds ++ [x]) = laidOn [] (behindC (prefL ds) x) := by
  cases ds with
  | nil => exact absurd rfl h
  | cons d ds => simp [prefL, List.foldl_append]
def kidTabs (T : Tab) (key : Str) (place : Place) (n : Nat) : List (List (En × Nat)) := (List.range n).map fun k => T ⟨key, place ++ [k], true⟩
theorem kidTabs_succ (T : Tab) (key : Str) (place : Place) (n : Nat) : kidTabs T key place (n + 1) = kidTabs T key place n ++ [T ⟨key, place ++ [n], true⟩] := by
  unfold kidTabs; rw [List.range_succ, List.map_append]; rfl
theorem kidTabs_ne {T : Tab} {key : Str} {place : Place} {n : Nat} (h : 0 < n) : kidTabs T key place n ≠ [] := by
  unfold kidTabs
  intro e
  have := congrArg List.length e
  simp at this
  omega
section
variable {P : Program} {w : World} {K : PySem.W.Frag} {mg : Str → Option Value} {base : Heap} {CG CC : Addr}
theorem gv_seat {σ : L2.St} {H : Hp} {ta tb tc : TE} {key : Str} {place : Place} {b : Bool} (h1 : Gv ta σ H (IsV (.str key))) (h2 : Gv tb σ H (IsV (encP place))) (h3 : Gv tc σ H (IsV (.bool b))) : Gv (tTupP (tCons ta (tCons tb (tCons tc tNil)))) σ H (IsV (encTK (some ⟨key, place, b⟩))) := gv_tup (gi_cons h1 (gi_cons h2 (gi_cons h3 gi_nil)))
theorem gv_kp {σ : L2.St} {H : Hp} {ta tb : TE} {key : Str} {place : Place} (h1 : Gv ta σ H (IsV (.str key))) (h2 : Gv tb σ H (IsV (encP place))) : Gv (tTupP (tCons ta (tCons tb tNil))) σ H (IsV (encKP (key, place))) := gv_tup (gi_cons h1 (gi_cons h2 gi_nil))
theorem gv_tab {σ : L2.St} {H : Hp} {ta tb : TE} {a : Addr} {ss : List Seat} {T : Tab} {tl : List (TK × Option (List (En × Nat)))} {s : Seat} (hd : Gv ta σ H (EqV (.ref a))) (hy : Gv tb σ H (IsV (encTK (some s)))) (h : TbAt CC w H a ss T tl) (hs : s ∈ ss) : Gv (tOp (rIxD w) ta tb) σ H (TVal CC w (some (T s))) :=
  gv_ixR' keyTK tvalMono hd hy h.at_ (h.s s hs)
theorem gv_rck {σ : L2.St} {H : Hp} {ta tb : TE} {a : Addr} {ss : List Seat} {T : Tab} {tl : List (TK × Option (List (En × Nat)))} (hd : Gv ta σ H (EqV (.ref a))) (hy : Gv tb σ H (IsV (encTK none))) (h : TbAt CC w H a ss T tl) : Gv (tOp (rIxD w) ta tb) σ H (Rck CC) :=
  gv_ixR' (b := none) keyTK tvalMono hd hy h.at_ h.r
theorem gv_pcat {σ : L2.St} {H : Hp} {ta tb : TE} {place : Place} {k : Nat} (h1 : Gv ta σ H (IsV (encP place))) (h2 : Gv tb σ H (IsV (.int (Int.ofNat k)))) (hz : place.length ≤ 1000) : Gv (tOp (rCatP K) ta (tTupP (tCons tb tNil))) σ H (IsV (encP (place ++ [k]))) :=
  gv_is (gv_cat h1 (gv_tup (gi_cons h2 gi_nil)) (by simp; show _ ≤ 16777216; omega)) (by simp [encP])
def LastV (w : World) (l : List (En × Nat)) : HR := fun H v => ∃ p xs f, v = .ref p ∧ H p = some (.lst xs) ∧ atI xs (-1) = some (.ref f) ∧ EAt w H f l
instance {w : World} {l : List (En × Nat)} : Mono (LastV w l) := ⟨fun e ⟨p, xs, f, h1, h2, h3, h4⟩ => ⟨p, xs, f, h1, e _ _ h2, h3, h4.ex e⟩⟩
structure PrefOk (bk : Bk) (ss : List Seat) (T : Tab) (key : Str) (place : Place) (ks : List Tr) : Prop where
  pl : place.length ≤ 100
  n0 : 0 < ks.length
  n1 : ks.length ≤ 100
  ss : ∀ k, k < ks.length → ⟨key, place ++ [k], true⟩ ∈ ss
  sm : ∀ k, k < ks.length → Small (T ⟨key, place ++ [k], true⟩)
  sp : ∀ k, 0 < k → k < ks.length → Small (prefL (kidTabs T key place k))
def spPref (w : World) (CG CC : Addr) : List V → Hp → HR → Prop := fun vs H R => ∃ o vt vk vp bk row ss T key place n tk ks, vs = [o, vt, vk, vp] ∧ GrV CG w bk row H o ∧ TbV CC w ss T H vt ∧ Is H (.str key) vk ∧ Is H (encP place) vp ∧ pieceOf bk (key, place) = some (.knot n tk ks) ∧ PrefOk bk ss T key place ks ∧ R = LastV w (prefL (kidTabs T key place ks.length))
theorem w_prefixes (T : Txt K mg CG CC) : Met P w K mg base 4 CG "prefixes" (SpR (spPref w CG CC)) := by
  refine met_of T.cG T.d_Ground_prefixes sc_Ground_prefixes b_Ground_prefixes (fun vs H Q E ⟨R, ⟨_, _, _, _, _, _, _, _, _, _, _, _, _, e, _⟩, _⟩ => by rw [e]; rfl) fun f cdv A outer s H vs Q E hr hq => ?_
  have c_behind_one_another := w_behind (P := P) (w := w) (base := base) T
  refine ⟨_, (pss_cons (ps_set (i := 4) sc_Ground_prefixes.nd rfl (Or.inl rfl) (pe_ix ix_tup (pe_ix (ix_nd hr.units) (pe_fld (pv 0) rfl) (pe_tupP (pa_cons (pv 2) (pa_cons (pv 3) pa_nil))) (fun _ _ => rfl)) pe_int (fun _ _ => rfl)))
    (pss_cons (ps_set (i := 5) sc_Ground_prefixes.nd rfl (Or.inl rfl) (pe_lst pa_nil))
    (pss_cons (ps_set (i := 6) sc_Ground_prefixes.nd rfl (Or.inl rfl) (pe_ix (ix_nd hr.units) (pv 1) pe_str (fun _ _ => rfl)))
    (pss_cons (ps_for PassesOwn.never rfl (pi_range1 (by rfl) (T.fr "range" (by decide)) (pa_cons (pe_callB cr_len rfl (T.fr "len" (by decide)) (by decide +kernel) (pa_cons (pv 4) pa_nil)) pa_nil)) (pg_name (i := 7) sc_Ground_prefixes.nd rfl (Or.inl rfl))
      (pss_cons (ps_set (i := 8) sc_Ground_prefixes.nd rfl (Or.inl rfl) (pe_ix (ix_nd hr.units) (pv 1) (pe_tupP (pa_cons (pv 2) (pa_cons (pe_op op_catP (pv 3) (pe_tupP (pa_cons (pv 7) pa_nil))) (pa_cons pe_bl pa_nil)))) (fun _ _ => rfl)))
      (pss_cons (ps_if (pt_cmpR op_gt (pv 7) pe_int (nomark _))
        (pss_one (ps_set (i := 8) sc_Ground_prefixes.nd rfl (Or.inl rfl) (pe_c c_behind_one_another hr (by omega) rfl (pa_cons (pe_ix ix_list (pv 5) (pe_un un_neg pe_int) (fun _ _ => rfl)) (pa_cons (pv 8) (pa_cons (pv 6) pa_nil))))))
        pss_nil)
      (pss_one (ps_expr (pe_bm PySem.F.plainAttrs_list PySem.F.slot_list_append PySem.F.type_list_append mt_append (pv 5) (pa_cons (pv 8) pa_nil)))))))
    (pss_one (ps_ret (pv 5))))))), ?_⟩
  obtain ⟨R, ⟨o, vt, vk, vp, bk, row, ss, Tb, key, place, n, tk, ks, rfl, ⟨g, dx, fs, vs', vt', pa, ca, pl, cl, rfl, G⟩, ⟨ta, tl, rfl, TB⟩, hk, hp, hpc, ok, rfl⟩, hQ⟩ := hq
  refine st_asg (R := IsV (.tuple (ks.map encT))) (gv_kids (t := .knot n tk ks) (gv_ixR' (b := Tr.knot n tk ks) keyKP (fun _ => inferInstance) (gv_fld T (by decide) (gv_ref rfl) G.at_ G.f2) (gv_kp (gv_var rfl hk) (gv_var rfl hp)) G.i2 (G.p2 _ _ hpc)) rfl) fun v4 H1 e1 r1 => ?_
  refine st_new0 fun fp nfp => ?_
  dsimp only
  have x2 := Ex.new (o := .lst []) nfp
  have x02 := e1.trans x2
  have nf0 := fresh_back e1 nfp
  refine sq (st_asg (gv_rck (gv_ref rfl) gv_str (TB.ex x02)) fun vr H3 e3 r3 => ?_)
  dsimp only
  have x03 := x02.trans e3
  have x13 := x2.trans e3
  refine sq (st_forR (n := ks.length) (gv_is (gv_lenT (gv_var rfl (Is.mono x13.tups _ _ r1))) (by simp)) (by have := ok.n1; omega) fun H4 e4 => ?_)
  refine ⟨fun i σ' H' => (∃ c1 c2, σ' = [some (.ref g), some (.ref ta), some vk, some vp, some v4, some (.ref fp), some vr, c1, c2]) ∧ Ex H H' ∧ Rck CC H' vr ∧ ∃ xs, H' fp = some (.lst xs) ∧ xs.length = i ∧ (0 < i → ∃ f, atI xs (-1) = some (.ref f) ∧ EAt w H' f (prefL (kidTabs Tb key place i))), ⟨⟨_, _, rfl⟩, x03.trans e4, Mono.mo e4 r3, [], e4 _ _ (e3 _ _ upd_same), rfl, fun h => absurd h (by omega)⟩, ?_, ?_⟩
  · rintro i σ' H' hi ⟨⟨c1, c2, rfl⟩, z1, hrk, xs, hxs, hxl, hl⟩
    have TB' := TB.ex z1
    refine st_asg (gv_tab (s := ⟨key, place ++ [i], true⟩) (gv_ref rfl) (gv_seat (gv_var rfl (Is.mono z1.tups _ _ hk)) (gv_pcat (gv_var rfl (Is.mono z1.tups _ _ hp)) (gv_var rfl (Is.int _)) (by have := ok.pl; omega)) gv_bl) TB' (ok.ss i hi)) fun ve H5 e5 r5 => ?_
    dsimp only
    obtain ⟨f5, rfl, d5⟩ := r5
    have hxs5 := e5 _ _ hxs
    have fin : ∀ H6 f6, Ex H5 H6 → EAt w H6 f6 (prefL (kidTabs Tb key place (i + 1))) → tDrop (tBM K "list" rAppend (tVar 5) (tCons (tVar 8) tNil)) { nx := fun σ' H' => (∃ c1 c2, σ' = [some (.ref g), some (.ref ta), some vk, some vp, some v4, some (.ref fp), some vr, c1, c2]) ∧ Ex H H' ∧ Rck CC H' vr ∧ ∃ xs, H' fp = some (.lst xs) ∧ xs.length = i + 1 ∧ (0 < i + 1 → ∃ f, atI xs (-1) = some (.ref f) ∧ EAt w H' f (prefL (kidTabs Tb key place (i + 1)))), rt := Q } [some (.ref g), some (.ref ta), some vk, some vp, some v4, some (.ref fp), some vr, some (.int (Int.ofNat i)), some (.ref f6)] H6 := by
      intro H6 f6 e6 d6
      have hxs6 := e6 _ _ hxs5
      refine st_app (R := EqV (.ref f6)) hxs6 (ev_var rfl) (gv_ref rfl) ?_ fun z H7 e7 r7 => ?_
      · rw [hxl]
        have := ok.n1
        show _ < 16777216
        omega
      · have z7 := (z1.trans e5).trans (e6.trans e7)
        have hxs7 := e7 _ _ hxs6
        have d7 := d6.ex e7
        rw [show z = .ref f6 from r7]
        refine ⟨⟨_, _, rfl⟩, Ex.mut z7 nf0, ?_, _, upd_same, by simp [hxl], fun _ => ⟨f6, atI_last _ _, ?_⟩⟩
        · obtain ⟨r, dr, e, h⟩ := Mono.mo ((e5.trans e6).trans e7) hrk
          refine ⟨r, dr, e, ?_⟩
          have : r ≠ fp := fun z => by rw [z, hxs7] at h; cases h
          rw [upd_ne this]
          exact h
        · refine d7.mono ?_ (Tups.mut (mut_at hxs7))
          rw [upd_ne (Ne.symm (lst_ne hxs7 d7))]
    refine sq (st_if (gt_test (gv_gt (gv_var rfl (Is.int _)) gv_int)) (fun h H6 e6 => ?_) fun h H6 e6 => ?_)
    · have h0 : 0 < i := by have := of_decide_eq_true h; simpa using this
      obtain ⟨fl, hfl, dl⟩ := hl h0
      have e56 := e5.trans e6
      refine st_asg (R := EdV w H6 (laidOn [] (behindC (prefL (kidTabs Tb key place i)) (Tb ⟨key, place ++ [i], true⟩)))) ?_ fun ve H7 e7 r7 => ?_
      · refine fun H7 e7 Q7 q7 => ?_
        have : Gv (tCall (SpR (spBehind w CC)) [] E0 (tCons (tOp (rIxL K) (tVar 5) (tUn (rU fun i => .int (-i)) (tC (.int 1)))) (tCons (tVar 8) (tCons (tVar 6) tNil)))) [some (.ref g), some (.ref ta), some vk, some vp, some v4, some (.ref fp), some vr, some (.int (Int.ofNat i)), some (.ref f5)] H7 (EdV w H7 (laidOn [] (behindC (prefL (kidTabs Tb key place i)) (Tb ⟨key, place ++ [i], true⟩)))) := by
          intro H8 e8 Q8 q8
          have e58 := e56.trans (e7.trans e8)
          refine ⟨.ref fp, rfl, 1, rfl, fp, xs, -1, .ref fl, rfl, rfl, sq_of (e58 _ _ hxs), hfl, .ref f5, rfl, vr, rfl, ?_⟩
          refine ⟨_, ⟨fl, f5, vr, _, _, rfl, dl.ex e58, d5.ex (e6.trans (e7.trans e8)), Mono.mo e58 hrk, ok.sp i h0 hi, ok.sm i hi, rfl⟩, fun v H9 e9 r9 => q8 v H9 e9 ?_⟩
          obtain ⟨f9, h1, h2, h3⟩ := r9
          exact ⟨f9, h1, fresh_back e8 h2, h3⟩
        refine this H7 (Ex.refl _) Q7 fun v H8 e8 r8 => q7 v H8 e8 ?_
        obtain ⟨f9, h1, h2, h3⟩ := r8
        exact ⟨f9, h1, fresh_back e7 h2, h3⟩
      · obtain ⟨f7, rfl, _, d7⟩ := r7
        refine fin H7 f7 (e6.trans e7) ?_
        rw [kidTabs_succ, prefL_snoc (kidTabs_ne h0)]
        exact d7
    · have h0 : i = 0 := by have := of_decide_eq_false h; simp at this; omega
      subst h0
      refine fin H6 f5 e6 ?_
      exact d5.ex e6
  · rintro σ' H' ⟨⟨c1, c2, rfl⟩, z1, hrk, xs, hxs, hxl, hl⟩
    obtain ⟨fl, hfl, dl⟩ := hl ok.n0
    exact st_ret (gv_ref rfl) fun v5 H5 e5 r5 => hQ v5 H5 (z1.trans e5) ⟨fp, xs, fl, r5, e5 _ _ hxs, hfl, dl.ex e5⟩
end
end K31

namespace K31
open PySem PySem.Spec PyProof.Rows L2 NK Evl
section
variable {P : Program} {w : World} {K : PySem.W.Frag} {mg : Str → Option Value} {base : Heap} {CG CC : Addr}
def HashOk (w : World) (l : List (En × Nat)) : Prop := (l.map fun x => (keyDa (encE x.1)).hash w).Nodup
theorem gv_listD {κ : Type} [DecidableEq κ] {enc : κ → PyData} {σ : L2.St} {H : Hp} {ta : TE} {a : Addr} {l : List (κ × V)} (hd : Gv ta σ H (EqV (.ref a))) (h : TAt enc w H a l) : Gv (tCB (rListD w) (tCons ta tNil)) σ H (FrV H (l.map fun p => enc p.1)) := fun H1 e1 Q q =>
  hd H1 e1 _ fun x H2 e2 rx => by
    obtain ⟨kvs, ep, d, p⟩ := h.ex (e1.trans e2)
    refine ⟨a, kvs, ep, by rw [show x = .ref a from rx], d, fun p' np => q _ _ (e2.trans (Ex.new np)) ⟨p', _, rfl, fresh_back (e1.trans e2) np, upd_same, ?_⟩⟩
    have t := Tups.new (o := .lst (kvs.map (·.2.1))) np
    revert t
    generalize upd H2 p' (.lst (kvs.map (·.2.1))) = H9
    intro t
    clear d q h
    induction p with
    | nil => exact .nil
    | cons q t' ih => exact .cons (Is.mono t _ _ q.2.1) ih
theorem gv_dictE {σ : L2.St} {H : Hp} {ta : TE} {a : Addr} {l : List (En × Nat)} (hd : Gv ta σ H (EqV (.ref a))) (h : EAt w H a l) (hh : HashOk w l) : Gv (tCB (rDictR w) (tCons ta tNil)) σ H (EdV w H l) :=
  gv_imp (gv_dict hd h (fun k => ⟨_, by simp only [encE, keyDa]; rfl⟩) (by rw [List.map_map]; exact hh)) fun H1 v _ ⟨p, h1, h2, h3⟩ => ⟨p, h1, h2, h3⟩
theorem putA_same {κ β : Type} [DecidableEq κ] {l : List (κ × β)} {k : κ} {v : β} (nd : (l.map (·.1)).Nodup) (h : (k, v) ∈ l) : putA l k v = l := by
  unfold putA
  rw [if_pos (List.any_eq_true.mpr ⟨_, h, by simp⟩)]
  conv => rhs; rw [← List.map_id l]
  apply List.map_congr_left
  intro x hx
  by_cases e : x.1 = k
  · rw [if_pos e]
    have h1 := getA_of_mem nd h
    have h2 := getA_of_mem nd (show (k, x.2) ∈ l by rw [← e]; exact hx)
    rw [h1] at h2
    cases h2
    rfl
  · rw [if_neg e]; rfl
theorem eqv_emp (place : Place) : PyData.eqv (encP place) (.tuple []) = decide (place = []) := by
  cases place with
  | nil => simp [encP, PyData.eqv, PyData.eqvAll]
  | cons k p => simp [encP, PyData.eqv, PyData.eqvAll]
theorem plainP (place : Place) : (encP place).plain = true := by
  simp only [encP, PyData.plain]
  induction place with
  | nil => rfl
  | cons k p ih => rw [List.map_cons, PyData.plainAll, ih]; rfl
theorem depthP (place : Place) : (encP place).depth ≤ 40 := by
  have : ∀ p : Place, PyData.depthAll (p.map fun k => PyData.int (Int.ofNat k)) ≤ 1 := by
    intro p
    induction p with
    | nil => simp [PyData.depthAll]
    | cons k p ih => simp only [List.map_cons, PyData.depthAll, PyData.depth]; omega
  have := this place
  simp only [encP, PyData.depth]
  omega
def spBare (w : World) (CG CC : Addr) : List V → Hp → HR → Prop := fun vs H R => ∃ o vt vk vp bk row ss T key place n tk ks, vs = [o, vt, vk, vp] ∧ GrV CG w bk row H o ∧ TbV CC w ss T H vt ∧ Is H (.str key) vk ∧ Is H (encP place) vp ∧ pieceOf bk (key, place) = some (.knot n tk ks) ∧ PrefOk bk ss T key place ks ∧ HashOk w (prefL (kidTabs T key place ks.length)) ∧ (prefL (kidTabs T key place ks.length)).length ≤ 100 ∧ R = EdV w H (prefL (kidTabs T key place ks.length))
theorem EAt.nodup {H : Hp} {a : Addr} {l : List (En × Nat)} (h : EAt w H a l) : (l.map (·.1)).Nodup := by
  have := TAt.nodup h
  rw [List.map_map] at this
  exact this
theorem w_bare (T : Txt K mg CG CC) : Met P w K mg base 5 CG "bare" (SpR (spBare w CG CC)) := by
  refine met_of T.cG T.d_Ground_bare sc_Ground_bare b_Ground_bare (fun vs H Q E ⟨R, ⟨_, _, _, _, _, _, _, _, _, _, _, _, _, e, _⟩, _⟩ => by rw [e]; rfl) fun f cdv A outer s H vs Q E hr hq => ?_
  have c_prefixes := w_prefixes (P := P) (w := w) (base := base) T
  have c_of_tree := w_of_tree (P := P) (w := w) (base := base) T
  refine ⟨_, (pss_cons (ps_set (i := 4) sc_Ground_bare.nd rfl (Or.inl rfl) (pe_callTy (cr_dictR hr.units) rfl (T.fr "dict" (by decide)) (by decide +kernel) (pa_cons (pe_ix ix_list (pe_mt c_prefixes hr (by omega) (pv 0) (pa_cons (pv 1) (pa_cons (pv 2) (pa_cons (pv 3) pa_nil)))) (pe_un un_neg pe_int) (fun _ _ => rfl)) pa_nil)))
    (pss_cons (ps_if (pt_cmpR (op_eqP hr.units) (pv 3) (pe_tupP pa_nil) (nomark _))
      (pss_one (ps_for PassesOwn.never rfl (pi_list (pe_callTy (cr_listD rfl) rfl (T.fr "list" (by decide)) (by decide +kernel) (pa_cons (pv 4) pa_nil))) (pg_name (i := 5) sc_Ground_bare.nd rfl (Or.inl rfl))
        (pss_one (ps_asg (pe_mt c_of_tree hr (by omega) (pe_ix (ix_nd hr.units) (pv 1) pe_str (fun _ _ => rfl)) (pa_cons (pv 2) (pa_cons (pe_ix (ix_nd hr.units) (pv 4) (pv 5) (fun _ _ => rfl)) pa_nil))) (pg_sub (pv 4) (pv 5) (set_ndR hr.units))))))
      pss_nil)
    (pss_one (ps_ret (pv 4))))), ?_⟩
  obtain ⟨R, ⟨o, vt, vk, vp, bk, row, ss, Tb, key, place, n, tk, ks, rfl, hG, ⟨ta, tl, rfl, TB⟩, hk, hp, hpc, ok, hh, hl, rfl⟩, hQ⟩ := hq
  have hG' := hG
  obtain ⟨g, dx, fs, vs', vt', pa, ca, pl, cl, rfl, G⟩ := hG'
  refine st_asg (R := EdV w H (prefL (kidTabs Tb key place ks.length))) ?_ fun v4 H1 e1 r1 => ?_
  · intro H1 e1 Q1 q1
    refine gv_meth (R' := LastV w (prefL (kidTabs Tb key place ks.length))) (R := GrV CG w bk row) (A := spPref w CG CC) (gv_var rfl hG) (fun H v h => ?_) (ga_cons (gv_var (R := TbV CC w ss Tb) rfl ⟨ta, tl, rfl, TB⟩) (ga_cons (gv_var (R := IsV (.str key)) rfl hk) (ga_cons (gv_var (R := IsV (encP place)) rfl hp) ga_nil))) (fun o vs H2 e2 ro ra => ?_) H1 e1 _ fun v H2 e2 r2 => ?_
    · obtain ⟨g, dx, fs, vs', vt', pa, ca, pl, cl, rfl, G⟩ := h
      exact ⟨g, dx, fs, rfl, G.at_, G.ms _ (by decide)⟩
    · obtain ⟨v1, _, rfl, i1, v2, _, rfl, i2, v3, _, rfl, i3, rfl⟩ := ra
      exact ⟨o, v1, v2, v3, bk, row, ss, Tb, key, place, n, tk, ks, rfl, ro, i1, i2, i3, hpc, ok, rfl⟩
    · obtain ⟨p, xs, fl, rfl, hxs, hla, d⟩ := r2
      refine ⟨1, rfl, p, xs, -1, .ref fl, rfl, rfl, sq_of hxs, hla, ?_⟩
      refine gv_dictE (σ := []) (ta := tC (.ref fl)) (H := H2) (fun H3 e3 Q3 q3 => q3 _ H3 (Ex.refl _) rfl) d hh H2 (Ex.refl _) _ fun v H3 e3 r3 => q1 v H3 (e2.trans e3) ?_
      obtain ⟨p, h1, h2, h3⟩ := r3
      exact ⟨p, h1, fresh_back (e1.trans e2) h2, h3⟩
  · obtain ⟨fd, rfl, nfd, dfd⟩ := r1
    generalize prefL (kidTabs Tb key place ks.length) = L at hh hl hQ dfd
    have ret : ∀ H', Ex H H' → EAt w H' fd L → ∀ c, tRet (tVar 4) { nx := fun _ H' => Q .non H', rt := Q } [some (.ref g), some (.ref ta), some vk, some vp, some (.ref fd), c] H' := fun H' e d c =>
      st_ret (gv_ref rfl) fun v5 H5 e5 r5 => hQ v5 H5 (e.trans e5) ⟨fd, r5, nfd, d.ex e5⟩
    have hp1 := Is.mono e1.tups _ _ hp
    dsimp only
    refine sq (st_if (b := decide (place = [])) (gt_test (gv_is (gv_eqP (RA := IsV (encP place)) (RB := IsV (.tuple [])) (gv_var rfl hp1) (gv_tup gi_nil) (fun H v h => Is.dp _ _ h) (fun H v h => Is.dp _ _ h) (plainP _) rfl (depthP _)) (by rw [eqv_emp]))) (fun h H2 e2 => ?_) fun h H2 e2 => ?_)
    · refine st_forF (l := L) (f := fun p => encE p.1) (gv_imp (gv_listD (gv_ref rfl) (TAt.ex dfd e2)) fun H3 v _ h3 => ?_) fun p xs H3 np e3 hxs => ?_
      · rw [List.map_map] at h3
        exact h3
      refine ⟨fun pre σ' H' => (∃ c, σ' = [some (.ref g), some (.ref ta), some vk, some vp, some (.ref fd), c]) ∧ Ex H H' ∧ Tups H3 H' ∧ H' p = some (.lst xs) ∧ EAt w H' fd L, ⟨⟨_, rfl⟩, e1.trans (e2.trans e3), Tups.refl _, hxs, TAt.ex dfd (e2.trans e3)⟩, fun _ _ _ h => ⟨h.2.2.1, h.2.2.2.1⟩, ?_, ?_⟩
      · rintro pre ⟨e, n'⟩ post x σ' H' el ⟨⟨c, rfl⟩, z1, z2, hp', dd⟩ hx
        have hm : (e, n') ∈ L := by rw [el]; simp
        have hg := getA_of_mem dd.nodup hm
        refine st_putE (e := e) (n := n') (gv_meth (R := Rck CC) (gv_rck (gv_ref rfl) gv_str (TB.ex z1)) rck_meth (gi_cons (gv_var rfl (Is.mono z1.tups _ _ hk)) (gi_cons (gv_val (gv_ixD (k := e) (enc := encE) keyE (gv_ref rfl) (gv_var rfl hx) dd (by rw [valV_f (f := nI), hg]; rfl)) (.int _)) gi_nil)) fun o vs H5 e5 ro ra => ?_) (gv_ref rfl) (gv_var rfl hx) dd (by omega) fun H5 ob e5 d5 t5 => ?_
        · obtain ⟨y1, y2, rfl, h1, h2⟩ := two_inv ra
          exact ⟨o, y1, y2, n', rfl, h2, rfl⟩
        · rw [putA_same dd.nodup hm] at d5
          refine ⟨⟨_, rfl⟩, Ex.mut (z1.trans e5) nfd, (z2.trans e5.tups).trans t5, ?_, d5⟩
          rw [upd_ne (lst_ne (e5 _ _ hp') (TAt.ex dd e5))]
          exact e5 _ _ hp'
      · rintro σ' H' ⟨⟨c, rfl⟩, z1, z2, hp', dd⟩
        exact ret H' z1 dd _
    · exact ret H2 (e1.trans e2) (TAt.ex dfd e2) _
end
end K31

namespace K31
open PySem PySem.Spec PyProof.Rows L2 NK Evl
section
variable {P : Program} {w : World} {K : PySem.W.Frag} {mg : Str → Option Value} {base : Heap} {CG CC : Addr}
def mustOf : Option (Str × Bool) → Bool
  | none => false
  | some p => p.2
def holeL (T : Tab) (gs : List Str) : List (En × Nat) := laidOn [] (gs.flatMap fun g => T ⟨g, [], true⟩)
def knotL (T : Tab) (must : Bool) (inner : List (En × Nat)) (gs : List Str) : List (En × Nat) := laidOn (if must then [] else inner) (gs.flatMap fun g => laidOn [] (roundC (T ⟨g, [], true⟩) inner))
structure CalledOk (bk : Bk) (ss : List Seat) (T : Tab) (u : Tr) : Prop where
  n : (calledOf bk u).length ≤ 20
  ss : ∀ g ∈ calledOf bk u, ⟨g, [], true⟩ ∈ ss
  sm : ∀ g ∈ calledOf bk u, Small (T ⟨g, [], true⟩)
def spHole (w : World) (CG CC : Addr) : List V → Hp → HR → Prop := fun vs H R => ∃ o vt vk vp bk row ss T key place u, vs = [o, vt, vk, vp] ∧ GrV CG w bk row H o ∧ TbV CC w ss T H vt ∧ Is H (.str key) vk ∧ Is H (encP place) vp ∧ pieceOf bk (key, place) = some u ∧ CalledOk bk ss T u ∧ R = EdV w H (holeL T (calledOf bk u))
theorem flat_len {α β : Type} {l pre : List α} {f : α → List β} {n : Nat} (h : ∀ x ∈ pre, (f x).length ≤ n) : (pre.flatMap f).length ≤ pre.length * n := by
  clear l
  induction pre with
  | nil => simp
  | cons x l ih =>
    rw [List.flatMap_cons, List.length_append, List.length_cons, Nat.succ_mul]
    have h1 := h x List.mem_cons_self
    have h2 := ih fun y hy => h y (List.mem_cons_of_mem _ hy)
    omega
theorem w_hole (T : Txt K mg CG CC) : Met P w K mg base 3 CG "hole" (SpR (spHole w CG CC)) := by
  refine met_of T.cG T.d_Ground_hole sc_Ground_hole b_Ground_hole (fun vs H Q E ⟨R, ⟨_, _, _, _, _, _, _, _, _, _, _, e, _⟩, _⟩ => by rw [e]; rfl) fun f cdv A outer s H vs Q E hr hq => ?_
  have c_lay := w_lay (P := P) (w := w) (base := base) T
  refine ⟨_, (pss_cons (ps_set (i := 4) sc_Ground_hole.nd rfl (Or.inl rfl) pe_dnew)
    (pss_cons (ps_for PassesOwn.never rfl (pi_list (pe_ix (ix_nd hr.units) (pe_fld (pv 0) rfl) (pe_tupP (pa_cons (pv 2) (pa_cons (pv 3) pa_nil))) (fun _ _ => rfl))) (pg_name (i := 5) sc_Ground_hole.nd rfl (Or.inl rfl))
      (pss_cons (ps_set (i := 6) sc_Ground_hole.nd rfl (Or.inl rfl) (pe_ix (ix_nd hr.units) (pv 1) (pe_tupP (pa_cons (pv 5) (pa_cons (pe_tupP pa_nil) (pa_cons pe_bl pa_nil)))) (fun _ _ => rfl)))
      (pss_one (ps_for PassesOwn.never rfl (pi_dict (pv 6)) (pg_name (i := 7) sc_Ground_hole.nd rfl (Or.inl rfl))
        (pss_one (ps_expr (pe_c c_lay hr (by omega) rfl (pa_cons (pv 4) (pa_cons (pv 7) (pa_cons (pe_ix (ix_nd hr.units) (pv 6) (pv 7) (fun _ _ => rfl)) (pa_cons (pe_ix (ix_nd hr.units) (pv 1) pe_str (fun _ _ => rfl)) pa_nil)))))))))))
    (pss_one (ps_ret (pv 4))))), ?_⟩
  obtain ⟨R, ⟨o, vt, vk, vp, bk, row, ss, Tb, key, place, u, rfl, ⟨g, dx, fs, vs', vt', pa, ca, pl, cl, rfl, G⟩, ⟨ta, tl, rfl, TB⟩, hk, hp, hpc, ok, rfl⟩, hQ⟩ := hq
  refine st_newT (enc := encE) fun fd ob nfd dfd => ?_
  dsimp only
  have x2 := Ex.new (o := ob) nfd
  have G2 := G.ex x2
  refine sq (st_forL (l := calledOf bk u) (f := PyData.str) (gv_ixR' (b := calledOf bk u) keyKP (fun _ => inferInstance) (gv_fld T (by decide) (gv_ref rfl) G2.at_ G2.f3) (gv_kp (gv_var rfl (Is.mono x2.tups _ _ hk)) (gv_var rfl (Is.mono x2.tups _ _ hp))) G2.i3 (G2.p3 _ _ hpc)) fun p xs H3 e3 hxs => ?_)
  refine ⟨fun pre σ' H' => (∃ c1 c2 c3, σ' = [some (.ref g), some (.ref ta), some vk, some vp, some (.ref fd), c1, c2, c3]) ∧ Ex H H' ∧ Tups H3 H' ∧ H' p = some (.lst xs) ∧ EAt w H' fd (holeL Tb pre), ⟨⟨_, _, _, rfl⟩, x2.trans e3, Tups.refl _, hxs, TAt.ex dfd e3⟩, fun _ _ _ h => ⟨h.2.2.1, h.2.2.2.1⟩, ?_, ?_⟩
  · rintro pre d post x σ' H' el ⟨⟨c1, c2, c3, rfl⟩, z1, z2, hp', dd⟩ hx
    have hd : d ∈ calledOf bk u := by rw [el]; simp
    obtain ⟨sl, sb⟩ := ok.sm d hd
    obtain ⟨vl, v, dv, hv, rv⟩ := TB.at_.get (TB.s ⟨d, [], true⟩ (ok.ss d hd))
    obtain ⟨fw, rfl, dw⟩ := rv
    refine st_asg (gv_ixD (k := some ⟨d, [], true⟩) keyTK (gv_ref rfl) (gv_seat (place := []) (gv_var rfl hx) (gv_tup gi_nil) gv_bl) (TAt.ex dv z1) hv) fun vw H4 e4 r4 => ?_
    rw [show vw = .ref fw from r4]
    have dd4 := dd.ex e4
    have hp4 := e4 _ _ hp'
    have dlen : (holeL Tb pre).length ≤ 2000 := by
      have h1 := laidOn_length (pre.flatMap fun g => Tb ⟨g, [], true⟩) []
      have h2 : (pre.flatMap fun g => Tb ⟨g, [], true⟩).length ≤ pre.length * 100 := flat_len (l := pre) fun x hx => (ok.sm x (by rw [el]; exact List.mem_append_left _ hx)).1
      have h3 := congrArg List.length el
      have h4 := ok.n
      simp only [List.length_append, List.length_cons, List.length_nil] at h1 h3
      unfold holeL
      omega
    have z4 := z1.trans e4
    dsimp only
    refine st_forD (enc := encE) (l := Tb ⟨d, [], true⟩) nI (gv_ref rfl) (TAt.ex dw z4) fun H5 e5 => ?_
    refine ⟨fun pre2 σ' H' => (∃ c3, σ' = [some (.ref g), some (.ref ta), some vk, some vp, some (.ref fd), some x, some (.ref fw), c3]) ∧ Ex H H' ∧ Tups H5 H' ∧ H' p = some (.lst xs) ∧ EAt w H' fd (laidOn (holeL Tb pre) pre2), ⟨⟨_, rfl⟩, z4.trans e5, Tups.refl _, e5 _ _ hp4, TAt.ex dd4 e5⟩, fun _ _ _ h => ⟨h.2.2.1, eat_keep dw (z4.trans e5) h.2.1⟩, ?_, ?_⟩
    · rintro pre2 ⟨e, n⟩ post2 y σ' H6 el2 ⟨⟨c3, rfl⟩, y1, y2, hp6, d6⟩ hy
      have hge : getA (Tb ⟨d, [], true⟩) e = some n := getA_of_mem dw.nodup (by rw [el2]; simp)
      refine st_call (RA := ConsR (EqV (.ref fd)) (ConsR (IsV (encE e)) (ConsR (IsV (.int (Int.ofNat n))) (ConsR (Rck CC) NilR)))) (ga_cons (gv_ref rfl) (ga_cons (gv_var rfl hy) (ga_cons (gv_val (gv_ixD (k := e) (enc := encE) keyE (gv_ref rfl) (gv_var rfl hy) (TAt.ex dw y1) (by rw [valV_f (f := nI), hge]; rfl)) (.int _)) (ga_cons (gv_rck (gv_ref rfl) gv_str (TB.ex y1)) ga_nil)))) fun vs H9 e9 ra => ?_
      obtain ⟨q1, _, rfl, rfl, q2, _, rfl, i2, q3, _, rfl, i3, q4, _, rfl, i4, rfl⟩ := ra
      refine ⟨fd, e, n, _, q2, q3, q4, rfl, d6.ex e9, i2, i3, i4, ?_, fun H10 ob3 e10 d10 t10 => ?_⟩
      · have h1 := laidOn_length pre2 (holeL Tb pre)
        have h3 := congrArg List.length el2
        simp only [List.length_append, List.length_cons] at h3
        omega
      · have ep := e9.trans e10
        have hp10 := ep _ _ hp6
        refine ⟨⟨_, rfl⟩, Ex.mut (y1.trans ep) nfd, (y2.trans ep.tups).trans t10, ?_, ?_⟩
        · rw [upd_ne (lst_ne hp10 (TAt.ex d6 ep))]
          exact hp10
        · rw [laidOn_snoc]
          exact d10
    · rintro σ' H6 ⟨⟨c3, rfl⟩, y1, y2, hp6, d6⟩
      refine ⟨⟨_, _, _, rfl⟩, y1, (z2.trans e4.tups).trans (e5.tups.trans y2), hp6, ?_⟩
      unfold holeL
      rw [List.flatMap_append, laidOn_app]
      simpa [holeL] using d6
  · rintro σ' H' ⟨⟨c1, c2, c3, rfl⟩, z1, z2, hp', dd⟩
    exact st_ret (gv_ref rfl) fun v5 H5 e5 r5 => hQ v5 H5 (z1.trans e5) ⟨fd, r5, nfd, dd.ex e5⟩
def spKnot (w : World) (CG CC : Addr) : List V → Hp → HR → Prop := fun vs H R => ∃ o vt vk vp bk row ss T key place n tk ks, vs = [o, vt, vk, vp] ∧ GrV CG w bk row H o ∧ TbV CC w ss T H vt ∧ Is H (.str key) vk ∧ Is H (encP place) vp ∧ pieceOf bk (key, place) = some (.knot n tk ks) ∧ CalledOk bk ss T (.knot n tk ks) ∧ ⟨key, place, false⟩ ∈ ss ∧ Small (T ⟨key, place, false⟩) ∧ HashOk w (T ⟨key, place, false⟩) ∧ (∀ g ∈ calledOf bk (.knot n tk ks), (laidOn [] (roundC (T ⟨g, [], true⟩) (T ⟨key, place, false⟩))).length ≤ 100) ∧
  R = EdV w H (knotL T (mustOf tk) (T ⟨key, place, false⟩) (calledOf bk (.knot n tk ks)))
theorem w_knot (T : Txt K mg CG CC) : Met P w K mg base 4 CG "knot" (SpR (spKnot w CG CC)) := by
  refine met_of T.cG T.d_Ground_knot sc_Ground_knot b_Ground_knot (fun vs H Q E ⟨R, ⟨_, _, _, _, _, _, _, _, _, _, _, _, _, e, _⟩, _⟩ => by rw [e]; rfl) fun f cdv A outer s H vs Q E hr hq => ?_
  have c_lay := w_lay (P := P) (w := w) (base := base) T
  have c_put_round := w_round (P := P) (w := w) (base := base) T
  refine ⟨_, (pss_cons (ps_set (i := 4) sc_Ground_knot.nd rfl (Or.inl rfl) (pe_ix ix_tup (pe_ix (ix_nd hr.units) (pe_fld (pv 0) rfl) (pe_tupP (pa_cons (pv 2) (pa_cons (pv 3) pa_nil))) (fun _ _ => rfl)) pe_int (fun _ _ => rfl)))
    (pss_cons (ps_set (i := 5) sc_Ground_knot.nd rfl (Or.inl rfl) (pe_ix (ix_nd hr.units) (pv 1) (pe_tupP (pa_cons (pv 2) (pa_cons (pv 3) (pa_cons pe_bl pa_nil)))) (fun _ _ => rfl)))
    (pss_cons (ps_set (i := 6) sc_Ground_knot.nd rfl (Or.inl rfl) pe_dnew)
    (pss_cons (ps_if (pw_or (pt_cmp (pc_isN (pv 4))) (pw_or1 (pt_not (pt_val (pe_ix ix_tup (pv 4) pe_int (fun _ _ => rfl)))))).pt
      (pss_one (ps_set (i := 6) sc_Ground_knot.nd rfl (Or.inl rfl) (pe_callTy (cr_dictR hr.units) rfl (T.fr "dict" (by decide)) (by decide +kernel) (pa_cons (pv 5) pa_nil))))
      pss_nil)
    (pss_cons (ps_for PassesOwn.never rfl (pi_list (pe_ix (ix_nd hr.units) (pe_fld (pv 0) rfl) (pe_tupP (pa_cons (pv 2) (pa_cons (pv 3) pa_nil))) (fun _ _ => rfl))) (pg_name (i := 7) sc_Ground_knot.nd rfl (Or.inl rfl))
      (pss_cons (ps_set (i := 8) sc_Ground_knot.nd rfl (Or.inl rfl) (pe_c c_put_round hr (by omega) rfl (pa_cons (pe_ix (ix_nd hr.units) (pv 1) (pe_tupP (pa_cons (pv 7) (pa_cons (pe_tupP pa_nil) (pa_cons pe_bl pa_nil)))) (fun _ _ => rfl)) (pa_cons (pv 5) (pa_cons (pe_ix (ix_nd hr.units) (pv 1) pe_str (fun _ _ => rfl)) pa_nil)))))
      (pss_one (ps_for PassesOwn.never rfl (pi_dict (pv 8)) (pg_name (i := 9) sc_Ground_knot.nd rfl (Or.inl rfl))
        (pss_one (ps_expr (pe_c c_lay hr (by omega) rfl (pa_cons (pv 6) (pa_cons (pv 9) (pa_cons (pe_ix (ix_nd hr.units) (pv 8) (pv 9) (fun _ _ => rfl)) (pa_cons (pe_ix (ix_nd hr.units) (pv 1) pe_str (fun _ _ => rfl)) pa_nil)))))))))))
    (pss_one (ps_ret (pv 6)))))))), ?_⟩
  obtain ⟨R, ⟨o, vt, vk, vp, bk, row, ss, Tb, key, place, nm, tk, ks, rfl, ⟨g, dx, fs, vs', vt', pa, ca, pl, cl, rfl, G⟩, ⟨ta, tl, rfl, TB⟩, hk, hp, hpc, ok, his, hsm, hh, hrl, rfl⟩, hQ⟩ := hq
  have htk : Gv (tOp (rIxT K) (tOp (rIxD w) (tFld K (tVar 0) "pieces") (tTupP (tCons (tVar 2) (tCons (tVar 3) tNil)))) (tC (.int 2))) [some (.ref g), some (.ref ta), some vk, some vp, none, none, none, none, none, none] H (IsV (encTk tk)) :=
    gv_tk (t := .knot nm tk ks) (gv_ixR' (b := Tr.knot nm tk ks) keyKP (fun _ => inferInstance) (gv_fld T (by decide) (gv_ref rfl) G.at_ G.f2) (gv_kp (gv_var rfl hk) (gv_var rfl hp)) G.i2 (G.p2 _ _ hpc)) rfl
  refine st_asg htk fun v4 H1 e1 r1 => ?_
  obtain ⟨vl, v, dv, hv, rv⟩ := TB.at_.get (TB.s _ his)
  obtain ⟨fi, rfl, di⟩ := rv
  dsimp only
  refine sq (st_asg (gv_ixD (k := some ⟨key, place, false⟩) keyTK (gv_ref rfl) (gv_seat (gv_var rfl (Is.mono e1.tups _ _ hk)) (gv_var rfl (Is.mono e1.tups _ _ hp)) gv_bl) (TAt.ex dv e1) hv) fun vi H2 e2 r2 => ?_)
  rw [show vi = .ref fi from r2]
  dsimp only
  have x02 := e1.trans e2
  refine sq (st_newT (enc := encE) fun fd0 ob nfd0 dfd0 => ?_)
  dsimp only
  have x3 := Ex.new (o := ob) nfd0
  have nf00 := fresh_back x02 nfd0
  have r13 := Is.mono (e2.trans x3).tups _ _ r1
  generalize hmust : mustOf tk = must at hQ
  have main : ∀ (H4 : Hp) (fd : Addr), Ex H H4 → H fd = none → EAt w H4 fd (if must then [] else Tb ⟨key, place, false⟩) → ∀ c1 c2 c3, tSeq (tFor
      (iList K (tOp (rIxD w) (tFld K (tVar 0) "called") (tTupP (tCons (tVar 2) (tCons (tVar 3) tNil))))) (gName 7)
      (tSeq (tAsg (tCall (SpR (spRound w CC)) [] E0 (tCons (tOp (rIxD w) (tVar 1) (tTupP (tCons (tVar 7) (tCons (tTupP tNil) (tCons (tC (.bl true)) tNil))))) (tCons (tVar 5) (tCons (tOp (rIxD w) (tVar 1) (tC (.str "reckoner"))) tNil)))) (gName 8))
        (tFor (iDict w (tVar 8)) (gName 9) (tDrop (tCall (spLay w CC) [] E0 (tCons (tVar 6) (tCons (tVar 9) (tCons (tOp (rIxD w) (tVar 8) (tVar 9)) (tCons (tOp (rIxD w) (tVar 1) (tC (.str "reckoner"))) tNil))))))))) (tRet (tVar 6)) { nx := fun _ H' => Q .non H', rt := Q } [some (.ref g), some (.ref ta), some vk, some vp, some v4, some (.ref fi), some (.ref fd), c1, c2, c3] H4 := by
    intro H4 fd x04 nfd dfd c1 c2 c3
    have G4 := G.ex x04
    refine sq (st_forL (l := calledOf bk (.knot nm tk ks)) (f := PyData.str) (gv_ixR' (b := calledOf bk (.knot nm tk ks)) keyKP (fun _ => inferInstance) (gv_fld T (by decide) (gv_ref rfl) G4.at_ G4.f3) (gv_kp (gv_var rfl (Is.mono x04.tups _ _ hk)) (gv_var rfl (Is.mono x04.tups _ _ hp))) G4.i3 (G4.p3 _ _ hpc)) fun p xs H3 e3 hxs => ?_)
    refine ⟨fun pre σ' H' => (∃ c1 c2 c3, σ' = [some (.ref g), some (.ref ta), some vk, some vp, some v4, some (.ref fi), some (.ref fd), c1, c2, c3]) ∧ Ex H H' ∧ Tups H3 H' ∧ H' p = some (.lst xs) ∧ EAt w H' fd (knotL Tb must (Tb ⟨key, place, false⟩) pre), ⟨⟨_, _, _, rfl⟩, x04.trans e3, Tups.refl _, hxs, TAt.ex dfd e3⟩, fun _ _ _ h => ⟨h.2.2.1, h.2.2.2.1⟩, ?_, ?_⟩
    · rintro pre d post x σ' H' el ⟨⟨c1, c2, c3, rfl⟩, z1, z2, hp', dd⟩ hx
      have hd : d ∈ calledOf bk (.knot nm tk ks) := by rw [el]; simp
      have hsd := ok.sm d hd
      have TB' := TB.ex z1
      obtain ⟨vl2, v2, dv2, hv2, rv2⟩ := TB'.at_.get (TB'.s ⟨d, [], true⟩ (ok.ss d hd))
      obtain ⟨fo, rfl, dof⟩ := rv2
      refine st_asg (R := EdV w H' (laidOn [] (roundC (Tb ⟨d, [], true⟩) (Tb ⟨key, place, false⟩)))) ?_ fun vr H5 e5 r5 => ?_
      · intro H5 e5 Q5 q5
        have : Gv (tCall (SpR (spRound w CC)) [] E0 (tCons (tOp (rIxD w) (tVar 1) (tTupP (tCons (tVar 7) (tCons (tTupP tNil) (tCons (tC (.bl true)) tNil))))) (tCons (tVar 5) (tCons (tOp (rIxD w) (tVar 1) (tC (.str "reckoner"))) tNil)))) [some (.ref g), some (.ref ta), some vk, some vp, some v4, some (.ref fi), some (.ref fd), some x, c2, c3] H' (EdV w H' (laidOn [] (roundC (Tb ⟨d, [], true⟩) (Tb ⟨key, place, false⟩)))) := by
          intro H6 e6 Q6 q6
          refine (ga_cons (gv_ixD (k := some ⟨d, [], true⟩) keyTK (gv_ref rfl) (gv_seat (place := []) (gv_var rfl hx) (gv_tup gi_nil) gv_bl) dv2 hv2) (ga_cons (gv_ref rfl) (ga_cons (gv_rck (gv_ref rfl) gv_str TB') ga_nil))) H6 e6 _ fun vs H7 e7 ra => ?_
          obtain ⟨q1, _, rfl, rfl, q2, _, rfl, rfl, q3, _, rfl, i3, rfl⟩ := ra
          refine ⟨_, ⟨fo, fi, q3, _, _, rfl, dof.ex (e6.trans e7), di.ex (z1.trans (e6.trans e7)), i3, hsd, hsm, rfl⟩, fun v H8 e8 r8 => q6 v H8 (e7.trans e8) ?_⟩
          obtain ⟨f9, h1, h2, h3⟩ := r8
          exact ⟨f9, h1, fresh_back (e6.trans e7) h2, h3⟩
        exact this H5 e5 Q5 q5
      obtain ⟨fr, rfl, nfr, dr⟩ := r5
      have nrd : fr ≠ fd := fun z => by
        obtain ⟨o, ho, _⟩ := TAt.at_ dd
        rw [← z, nfr] at ho
        cases ho
      have z5 := z1.trans e5
      have dd5 := dd.ex e5
      have hp5 := e5 _ _ hp'
      have dlen : (knotL Tb must (Tb ⟨key, place, false⟩) pre).length ≤ 2100 := by
        have h1 := laidOn_length (pre.flatMap fun g => laidOn [] (roundC (Tb ⟨g, [], true⟩) (Tb ⟨key, place, false⟩))) (if must then [] else Tb ⟨key, place, false⟩)
        have h2 : (pre.flatMap fun g => laidOn [] (roundC (Tb ⟨g, [], true⟩) (Tb ⟨key, place, false⟩))).length ≤ pre.length * 100 := flat_len (l := pre) fun x hx => hrl x (by rw [el]; exact List.mem_append_left _ hx)
        have h3 := congrArg List.length el
        have h4 := ok.n
        have h5 : (if must then [] else Tb ⟨key, place, false⟩).length ≤ 100 := by
          cases must with
          | true => exact Nat.zero_le _
          | false => exact hsm.1
        simp only [List.length_append, List.length_cons] at h3
        unfold knotL
        omega
      have hrl' := hrl d hd
      generalize hLr : laidOn [] (roundC (Tb ⟨d, [], true⟩) (Tb ⟨key, place, false⟩)) = Lr at dr hrl'
      dsimp only
      refine st_forD (enc := encE) (l := Lr) nI (gv_ref rfl) dr fun H6 e6 => ?_
      refine ⟨fun pre2 σ' H' => (∃ c3, σ' = [some (.ref g), some (.ref ta), some vk, some vp, some v4, some (.ref fi), some (.ref fd), some x, some (.ref fr), c3]) ∧ Ex H H' ∧ Tups H6 H' ∧ H' p = some (.lst xs) ∧ EAt w H' fr Lr ∧ H' fr = H6 fr ∧ EAt w H' fd (laidOn (knotL Tb must (Tb ⟨key, place, false⟩) pre) pre2), ⟨⟨_, rfl⟩, z5.trans e6, Tups.refl _, e6 _ _ hp5, dr.ex e6, rfl, TAt.ex dd5 e6⟩, fun _ _ _ h => ⟨h.2.2.1, h.2.2.2.2.2.1⟩, ?_, ?_⟩
      · rintro pre2 ⟨e, n⟩ post2 y σ' H7 el2 ⟨⟨c3, rfl⟩, y1, y2, hp7, dr7, ke7, d7⟩ hy
        have hge : getA Lr e = some n := getA_of_mem dr.nodup (by rw [el2]; simp)
        refine st_call (RA := ConsR (EqV (.ref fd)) (ConsR (IsV (encE e)) (ConsR (IsV (.int (Int.ofNat n))) (ConsR (Rck CC) NilR)))) (ga_cons (gv_ref rfl) (ga_cons (gv_var rfl hy) (ga_cons (gv_val (gv_ixD (k := e) (enc := encE) keyE (gv_ref rfl) (gv_var rfl hy) dr7 (by rw [valV_f (f := nI), hge]; rfl)) (.int _)) (ga_cons (gv_rck (gv_ref rfl) gv_str (TB.ex y1)) ga_nil)))) fun vs H9 e9 ra => ?_
        obtain ⟨q1, _, rfl, rfl, q2, _, rfl, i2, q3, _, rfl, i3, q4, _, rfl, i4, rfl⟩ := ra
        refine ⟨fd, e, n, _, q2, q3, q4, rfl, d7.ex e9, i2, i3, i4, ?_, fun H10 ob3 e10 d10 t10 => ?_⟩
        · have h1 := laidOn_length pre2 (knotL Tb must (Tb ⟨key, place, false⟩) pre)
          have h3 := congrArg List.length el2
          simp only [List.length_append, List.length_cons] at h3
          omega
        · have ep := e9.trans e10
          have hp10 := ep _ _ hp7
          have dr10 := dr7.ex ep
          refine ⟨⟨_, rfl⟩, Ex.mut (y1.trans ep) nfd, (y2.trans ep.tups).trans t10, ?_, dr10.mono (upd_ne nrd) t10, ?_, ?_⟩
          · rw [upd_ne (lst_ne hp10 (TAt.ex d7 ep))]
            exact hp10
          · rw [upd_ne nrd, ← ke7]
            obtain ⟨o, ho, _⟩ := TAt.at_ dr7
            rw [ho, ep _ _ ho]
          · rw [laidOn_snoc]
            exact d10
      · rintro σ' H7 ⟨⟨c3, rfl⟩, y1, y2, hp7, dr7, ke7, d7⟩
        refine ⟨⟨_, _, _, rfl⟩, y1, (z2.trans e5.tups).trans (e6.tups.trans y2), hp7, ?_⟩
        unfold knotL
        rw [List.flatMap_append, laidOn_app]
        simp only [List.flatMap_cons, List.flatMap_nil, List.append_nil]
        rw [hLr]
        exact d7
    · rintro σ' H' ⟨⟨c1, c2, c3, rfl⟩, z1, z2, hp', dd⟩
      exact st_ret (gv_ref rfl) fun v5 H5 e5 r5 => hQ v5 H5 (z1.trans e5) ⟨fd, r5, nfd, dd.ex e5⟩
  refine sq (st_if (b := !must) ?_ (fun h H4 e4 => ?_) fun h H4 e4 => ?_)
  · subst hmust
    cases tk with
    | none =>
      exact et_is (et_or (a := true) (b := true) (gt_B (gv_isND (d := encTk none) (gv_var rfl r13))) (fun h => by cases h)) rfl
    | some p =>
      obtain ⟨gn, b⟩ := p
      refine et_is (et_or (a := false) (b := !b) (gt_B (gv_isND (d := encTk (some (gn, b))) (gv_var rfl r13))) (fun _ => et_not (gt_B (gv_ixT (ds := [.str gn, .bool b]) (gv_var rfl r13) gv_int rfl)))) ?_
      rfl
  · have e34 := x3.trans e4
    refine st_asg (gv_dictE (gv_ref rfl) (TAt.ex di (x02.trans e34)) hh) fun vd H5 e5 r5 => ?_
    obtain ⟨fd, rfl, nfd, dfd⟩ := r5
    have hm : must = false := by simpa using h
    rw [hm] at main
    subst hm
    exact main H5 fd ((x02.trans e34).trans e5) (fresh_back (x02.trans e34) nfd) dfd _ _ _
  · have hm : must = true := by simpa using h
    subst hm
    exact main H4 fd0 (x02.trans (x3.trans e4)) nf00 (TAt.ex dfd0 e4) _ _ _
end
end K31

namespace K31
open PySem PySem.Spec PyProof.Rows L2 NK Evl
section
variable {P : Program} {w : World} {K : PySem.W.Frag} {mg : Str → Option Value} {base : Heap} {CG CC : Addr}
def concl (bk : Bk) (row : List Str) (T : Tab) (s : Seat) : List (En × Nat) := match pieceOf bk (s.key, s.place) with
  | some (.hole n) => holeL T (calledOf bk (.hole n))
  | some (.knot n tk ks) => if s.done then knotL T (mustOf tk) (T ⟨s.key, s.place, false⟩) (calledOf bk (.knot n tk ks)) else prefL (kidTabs T s.key s.place ks.length)
  | some t => leafL t row
  | none => []
structure KnotOk (w : World) (bk : Bk) (ss : List Seat) (T : Tab) (key : Str) (place : Place) (n : Str) (tk : Option (Str × Bool)) (ks : List Tr) : Prop where
  pf : PrefOk bk ss T key place ks
  h1 : HashOk w (prefL (kidTabs T key place ks.length))
  l1 : (prefL (kidTabs T key place ks.length)).length ≤ 100
  co : CalledOk bk ss T (.knot n tk ks)
  is : ⟨key, place, false⟩ ∈ ss
  sm : Small (T ⟨key, place, false⟩)
  h2 : HashOk w (T ⟨key, place, false⟩)
  rl : ∀ g ∈ calledOf bk (.knot n tk ks), (laidOn [] (roundC (T ⟨g, [], true⟩) (T ⟨key, place, false⟩))).length ≤ 100
structure ConclOk (w : World) (bk : Bk) (row : List Str) (ss : List Seat) (T : Tab) (s : Seat) : Prop where
  pc : ∃ u, pieceOf bk (s.key, s.place) = some u
  row : row.length ≤ 100
  ho : ∀ n, pieceOf bk (s.key, s.place) = some (.hole n) → CalledOk bk ss T (.hole n)
  kn : ∀ n tk ks, pieceOf bk (s.key, s.place) = some (.knot n tk ks) → KnotOk w bk ss T s.key s.place n tk ks
def spConcl (w : World) (CG CC : Addr) : List V → Hp → HR → Prop := fun vs H R => ∃ o vt vz bk row ss T z, vs = [o, vt, vz] ∧ GrV CG w bk row H o ∧ TbV CC w ss T H vt ∧ Is H (encSeat z) vz ∧ ConclOk w bk row ss T z ∧ R = EdV w H (concl bk row T z)
theorem edv_back {H H1 : Hp} {l : List (En × Nat)} {σ : L2.St} {te : TE} (h : ∀ H1, Ex H H1 → Gv te σ H1 (EdV w H1 l)) : Gv te σ H (EdV w H l) := fun H1 e1 Q q => h H1 e1 H1 (Ex.refl _) Q fun v H2 e2 r2 => q v H2 e2 (by
  obtain ⟨f9, h1, h2, h3⟩ := r2
  exact ⟨f9, h1, fresh_back e1 h2, h3⟩)
theorem gv_methE {C : Addr} {m : Str} {A : List V → Hp → HR → Prop} {E : XK} {t : TA} {RA : Hp → List V → Prop} {R : HR} {σ : L2.St} {H : Hp} {ta : TE} {l : List (En × Nat)} [mo : Mono R] (ho : Gv ta σ H R) (hR : ∀ H v, R H v → ∃ a dx fs, v = .ref a ∧ H a = some (.ins C dx fs) ∧ fs.lookup m = none) (ha : GvA t σ H RA)
    (hs : ∀ o vs H1, Ex H H1 → R H1 o → RA H1 vs → A (o :: vs) H1 (EdV w H1 l)) : Gv (tMeth C m (SpR A) [] E ta t) σ H (EdV w H l) := fun H1 e1 Q q => ho H1 e1 _ fun x H2 e2 rx => by
  obtain ⟨a, dx, fs, rfl, hi, hl⟩ := hR _ _ rx
  refine ⟨a, dx, fs, rfl, hi, hl, ha H2 (e1.trans e2) _ fun vs H3 e3 rs => ?_⟩
  rw [List.append_nil]
  refine ⟨_, hs _ vs H3 (e1.trans (e2.trans e3)) (mo.mo e3 rx) rs, fun v H' e4 r4 => q v H' (e2.trans (e3.trans e4)) ?_⟩
  obtain ⟨f9, h1, h2, h3⟩ := r4
  exact ⟨f9, h1, fresh_back (e1.trans (e2.trans e3)) h2, h3⟩
theorem grV_meth {bk : Bk} {row : List Str} {m : Str} (hm : m ∈ GMs) (H : Hp) (v : V) (h : GrV CG w bk row H v) : ∃ a dx fs, v = .ref a ∧ H a = some (.ins CG dx fs) ∧ fs.lookup m = none := by
  obtain ⟨g, dx, fs, vs', vt', pa, ca, pl, cl, rfl, G⟩ := h
  exact ⟨g, dx, fs, rfl, G.at_, G.ms _ hm⟩
theorem w_concluded (T : Txt K mg CG CC) : Met P w K mg base 6 CG "concluded" (SpR (spConcl w CG CC)) := by
  refine met_of T.cG T.d_Ground_concluded sc_Ground_concluded b_Ground_concluded (fun vs H Q E ⟨R, ⟨_, _, _, _, _, _, _, _, e, _⟩, _⟩ => by rw [e]; rfl) fun f cdv A outer s H vs Q E hr hq => ?_
  have c_hole := w_hole (P := P) (w := w) (base := base) T
  have c_knot := w_knot (P := P) (w := w) (base := base) T
  have c_bare := w_bare (P := P) (w := w) (base := base) T
  have c_leaf := w_leaf (P := P) (w := w) (base := base) T
  refine ⟨_, (pss_cons (ps_asg (pv 2) (pg_tup rfl (pgs_cons (pg_name (i := 3) sc_Ground_concluded.nd rfl (Or.inl rfl)) (pgs_cons (pg_name (i := 4) sc_Ground_concluded.nd rfl (Or.inl rfl)) (pgs_cons (pg_name (i := 5) sc_Ground_concluded.nd rfl (Or.inl rfl)) pgs_nil)))))
    (pss_cons (ps_set (i := 6) sc_Ground_concluded.nd rfl (Or.inl rfl) (pe_ix (ix_nd hr.units) (pe_fld (pv 0) rfl) (pe_tupP (pa_cons (pv 3) (pa_cons (pv 4) pa_nil))) (fun _ _ => rfl)))
    (pss_cons (ps_if (pt_cmpR op_eq (pe_ix ix_tup (pv 6) pe_int (fun _ _ => rfl)) pe_str (nomark _))
      (pss_one (ps_ret (pe_mt c_hole hr (by omega) (pv 0) (pa_cons (pv 1) (pa_cons (pv 3) (pa_cons (pv 4) pa_nil))))))
      pss_nil)
    (pss_cons (ps_if (pt_cmpR op_ne (pe_ix ix_tup (pv 6) pe_int (fun _ _ => rfl)) pe_str (nomark _))
      (pss_one (ps_ret (pe_mt c_leaf hr (by omega) (pv 0) (pa_cons (pv 6) (pa_cons (pe_ix (ix_nd hr.units) (pv 1) pe_str (fun _ _ => rfl)) pa_nil)))))
      pss_nil)
    (pss_cons (ps_if (pt_val (pv 5))
      (pss_one (ps_ret (pe_mt c_knot hr (by omega) (pv 0) (pa_cons (pv 1) (pa_cons (pv 3) (pa_cons (pv 4) pa_nil))))))
      pss_nil)
    (pss_one (ps_ret (pe_mt c_bare hr (by omega) (pv 0) (pa_cons (pv 1) (pa_cons (pv 3) (pa_cons (pv 4) pa_nil))))))))))), ?_⟩
  obtain ⟨R, ⟨o, vt, vz, bk, row, ss, Tb, z, rfl, hG, hT, hz, ok, rfl⟩, hQ⟩ := hq
  have hG' := hG
  obtain ⟨g, dx, fs, vs', vt', pa, ca, pl, cl, rfl, G⟩ := hG'
  have hT' := hT
  obtain ⟨ta, tl, rfl, TB⟩ := hT'
  obtain ⟨az, xz, rfl, pz, iz⟩ := Is.tup_inv (ds := [.str z.key, encP z.place, .bool z.done]) hz
  obtain ⟨vk, vp, vd, rfl, hk, hp, hd⟩ := three_inv iz
  obtain ⟨u, hu⟩ := ok.pc
  refine ⟨_, rfl, gtup3 pz.sq ?_⟩
  dsimp only
  refine sq (st_asg (R := IsV (encT u)) (gv_ixR' (b := u) keyKP (fun _ => inferInstance) (gv_fld T (by decide) (gv_ref rfl) G.at_ G.f2) (gv_kp (gv_var rfl hk) (gv_var rfl hp)) G.i2 (G.p2 _ _ hu)) fun vu H1 e1 r1 => ?_)
  dsimp only
  refine sq (st_if (gt_tag (gv_var rfl r1)) (fun h H2 e2 => ?_) fun h H2 e2 => ?_)
  · have ht := of_decide_eq_true h
    cases u with
    | hole n =>
      have e02 := e1.trans e2
      have ec : concl bk row Tb z = holeL Tb (calledOf bk (.hole n)) := by unfold concl; rw [hu]
      rw [ec] at hQ
      refine st_ret (R := EdV w H2 (holeL Tb (calledOf bk (.hole n)))) (gv_methE (R := GrV CG w bk row) (A := spHole w CG CC) (gv_var rfl (Mono.mo e02 hG)) (grV_meth (by decide)) (ga_cons (gv_var (R := TbV CC w ss Tb) rfl (Mono.mo e02 hT)) (ga_cons (gv_var (R := IsV (.str z.key)) rfl (Is.mono e02.tups _ _ hk)) (ga_cons (gv_var (R := IsV (encP z.place)) rfl (Is.mono e02.tups _ _ hp)) ga_nil))) fun o vs H3 e3 ro ra => ?_) fun v H3 e3 r3 => hQ v H3 (e02.trans e3) (by
        obtain ⟨f9, h1, h2, h3⟩ := r3
        exact ⟨f9, h1, fresh_back e02 h2, h3⟩)
      obtain ⟨q1, _, rfl, i1, q2, _, rfl, i2, q3, _, rfl, i3, rfl⟩ := ra
      exact ⟨o, q1, q2, q3, bk, row, ss, Tb, z.key, z.place, .hole n, rfl, ro, i1, i2, i3, hu, ok.ho n hu, rfl⟩
    | _ => exact absurd ht (by simp only [tagT]; decide)
  · have nh := of_decide_eq_false h
    dsimp only [tNext]
    refine sq (st_if (et_is (gt_test (gv_neS (gv_tag (gv_var rfl (Is.mono e2.tups _ _ r1))) gv_str)) rfl) (fun h2 H3 e3 => ?_) fun h2 H3 e3 => ?_)
    · have nk : tagT u ≠ "knot" := by
        intro e
        rw [e] at h2
        simp at h2
      have e03 := e1.trans (e2.trans e3)
      have ec : concl bk row Tb z = leafL u row := by
        unfold concl
        rw [hu]
        cases u with
        | hole n => exact absurd rfl nh
        | knot a b c => exact absurd rfl nk
        | _ => rfl
      rw [ec] at hQ
      refine st_ret (R := EdV w H3 (leafL u row)) (gv_methE (R := GrV CG w bk row) (A := spLeaf w CG CC) (gv_var rfl (Mono.mo e03 hG)) (grV_meth (by decide)) (ga_cons (gv_var (R := IsV (encT u)) rfl (Is.mono (e2.trans e3).tups _ _ r1)) (ga_cons (gv_rck (gv_ref rfl) gv_str (TB.ex e03)) ga_nil)) fun o vs H4 e4 ro ra => ?_) fun v H4 e4 r4 => hQ v H4 (e03.trans e4) (by
        obtain ⟨f9, h1, h2, h3⟩ := r4
        exact ⟨f9, h1, fresh_back e03 h2, h3⟩)
      obtain ⟨q1, _, rfl, i1, q2, _, rfl, i2, rfl⟩ := ra
      exact ⟨o, q1, q2, bk, row, u, rfl, ro, i1, i2, ok.row, nh, nk, rfl⟩
    · have hk' : tagT u = "knot" := by
        by_cases e : tagT u = "knot"
        · exact e
        · rw [decide_eq_false e] at h2; cases h2
      dsimp only [tNext]
      cases u with
      | knot n tk ks =>
        have e03 := e1.trans (e2.trans e3)
        have kn := ok.kn n tk ks hu
        refine sq (st_if (gt_B (gv_var rfl (Is.mono e03.tups _ _ hd))) (fun h4 H4 e4 => ?_) fun h4 H4 e4 => ?_)
        · have e04 := e03.trans e4
          have ec : concl bk row Tb z = knotL Tb (mustOf tk) (Tb ⟨z.key, z.place, false⟩) (calledOf bk (.knot n tk ks)) := by unfold concl; rw [hu]; simp [h4]
          rw [ec] at hQ
          refine st_ret (R := EdV w H4 (knotL Tb (mustOf tk) (Tb ⟨z.key, z.place, false⟩) (calledOf bk (.knot n tk ks)))) (gv_methE (R := GrV CG w bk row) (A := spKnot w CG CC) (gv_var rfl (Mono.mo e04 hG)) (grV_meth (by decide)) (ga_cons (gv_var (R := TbV CC w ss Tb) rfl (Mono.mo e04 hT)) (ga_cons (gv_var (R := IsV (.str z.key)) rfl (Is.mono e04.tups _ _ hk)) (ga_cons (gv_var (R := IsV (encP z.place)) rfl (Is.mono e04.tups _ _ hp)) ga_nil))) fun o vs H5 e5 ro ra => ?_) fun v H5 e5 r5 => hQ v H5 (e04.trans e5) (by
            obtain ⟨f9, h1, h2, h3⟩ := r5
            exact ⟨f9, h1, fresh_back e04 h2, h3⟩)
          obtain ⟨q1, _, rfl, i1, q2, _, rfl, i2, q3, _, rfl, i3, rfl⟩ := ra
          exact ⟨o, q1, q2, q3, bk, row, ss, Tb, z.key, z.place, n, tk, ks, rfl, ro, i1, i2, i3, hu, kn.co, kn.is, kn.sm, kn.h2, kn.rl, rfl⟩
        · have e04 := e03.trans e4
          have ec : concl bk row Tb z = prefL (kidTabs Tb z.key z.place ks.length) := by unfold concl; rw [hu]; simp [h4]
          rw [ec] at hQ
          dsimp only [tNext]
          refine st_ret (R := EdV w H4 (prefL (kidTabs Tb z.key z.place ks.length))) (gv_methE (R := GrV CG w bk row) (A := spBare w CG CC) (gv_var rfl (Mono.mo e04 hG)) (grV_meth (by decide)) (ga_cons (gv_var (R := TbV CC w ss Tb) rfl (Mono.mo e04 hT)) (ga_cons (gv_var (R := IsV (.str z.key)) rfl (Is.mono e04.tups _ _ hk)) (ga_cons (gv_var (R := IsV (encP z.place)) rfl (Is.mono e04.tups _ _ hp)) ga_nil))) fun o vs H5 e5 ro ra => ?_) fun v H5 e5 r5 => hQ v H5 (e04.trans e5) (by
            obtain ⟨f9, h1, h2, h3⟩ := r5
            exact ⟨f9, h1, fresh_back e04 h2, h3⟩)
          obtain ⟨q1, _, rfl, i1, q2, _, rfl, i2, q3, _, rfl, i3, rfl⟩ := ra
          exact ⟨o, q1, q2, q3, bk, row, ss, Tb, z.key, z.place, n, tk, ks, rfl, ro, i1, i2, i3, hu, kn.pf, kn.h1, kn.l1, rfl⟩
      | _ => exact absurd hk' (by simp only [tagT]; decide)
end
end K31

namespace K31
open PySem PySem.Spec PyProof.Rows L2 NK Evl
def updT (T : Tab) (s : Seat) (l : List (En × Nat)) : Tab := fun s' => if s' = s then l else T s'
def nkE (l : List (En × Nat)) : List (NestedKey × Int) := l.map fun p => (keyDa (encE p.1), Int.ofNat p.2)
def sameE (l l' : List (En × Nat)) : Bool := sameD (nkE l) (nkE l')
section
variable {P : Program} {w : World} {K : PySem.W.Frag} {mg : Str → Option Value} {base : Heap} {CG CC : Addr}
theorem EAt.nums {H : Hp} {a : Addr} {l : List (En × Nat)} (h : EAt w H a l) : DAt w H a (nums (nkE l)) := by
  have := TAt.dat h
  rw [List.map_map] at this
  unfold nkE NK.nums
  rw [List.map_map]
  exact this
theorem gt_neE {σ : L2.St} {H : Hp} {ta tb : TE} {a b : Addr} {l l' : List (En × Nat)} (ha : Gv ta σ H (EqV (.ref a))) (hb : Gv tb σ H (EqV (.ref b))) (h1 : EAt w H a l) (h2 : EAt w H b l') : EvT (tTest (tOp (rNeDict w) ta tb)) σ H (!sameE l l') := fun H1 e1 Q q =>
  ha H1 e1 _ fun x H2 e2 rx => hb H2 (e1.trans e2) _ fun y H3 e3 ry =>
    ⟨a, b, _, _, rx, ry, (h1.ex (e1.trans (e2.trans e3))).nums, (h2.ex (e1.trans (e2.trans e3))).nums, _, rfl, q _ (e2.trans e3)⟩
theorem gv_newE {σ : L2.St} {H : Hp} : Gv (tDNew w) σ H (EdV w H []) := fun H1 e1 Q q p o np d => by
  obtain ⟨kvs, ep, d, e⟩ := d
  have e2 : kvs = [] := by cases kvs with | nil => rfl | cons _ _ => cases e
  subst e2
  exact q _ _ (Ex.new np) ⟨p, rfl, fresh_back e1 np, [], ep, d, .nil⟩
structure TbW (CC : Addr) (w : World) (H : Hp) (a : Addr) (ss : List Seat) (T : Tab) (vl : List (TK × V)) (tl : List (TK × Option (List (En × Nat)))) : Prop where
  at_ : TAt encTK w H a vl
  pr : Paired (fun (x : TK × V) (p : TK × Option (List (En × Nat))) => x.1 = p.1 ∧ TVal CC w p.2 H x.2) vl tl
  ne : ∀ p ∈ vl, p.2 ≠ .ref a
  r : getA tl none = some none
  s : ∀ s ∈ ss, getA tl (some s) = some (some (T s))
  len : tl.length ≤ 10000
theorem TbW.tb {H : Hp} {a : Addr} {ss : List Seat} {T : Tab} {vl : List (TK × V)} {tl : List (TK × Option (List (En × Nat)))} (h : TbW CC w H a ss T vl tl) : TbAt CC w H a ss T tl := ⟨⟨vl, h.at_, h.pr⟩, h.r, h.s, h.len⟩
theorem TbW.ex {H H' : Hp} {a : Addr} {ss : List Seat} {T : Tab} {vl : List (TK × V)} {tl : List (TK × Option (List (En × Nat)))} (h : TbW CC w H a ss T vl tl) (e : Ex H H') : TbW CC w H' a ss T vl tl :=
  ⟨h.at_.ex e, paired_imp (fun _ _ q => ⟨q.1, (tvalMono _).mo e q.2⟩) h.pr, h.ne, h.r, h.s, h.len⟩
theorem tval_upd {H : Hp} {a : Addr} {ob : HO} {b : Option (List (En × Nat))} {v : V} (h : TVal CC w b H v) (ne : v ≠ .ref a) (t : Tups H (upd H a ob)) : TVal CC w b (upd H a ob) v := by
  cases b with
  | none =>
    obtain ⟨r, dx, rfl, h⟩ := h
    have : r ≠ a := fun z => ne (by rw [z])
    exact ⟨r, dx, rfl, by rw [upd_ne this]; exact h⟩
  | some l =>
    obtain ⟨f, rfl, h⟩ := h
    have : f ≠ a := fun z => ne (by rw [z])
    exact ⟨f, rfl, h.mono (upd_ne this) t⟩
theorem TbW.set {H : Hp} {a f : Addr} {ss ss' : List Seat} {T : Tab} {vl : List (TK × V)} {tl : List (TK × Option (List (En × Nat)))} {s : Seat} {l : List (En × Nat)} {ob : HO} (h : TbW CC w H a ss T vl tl) (d : EAt w H f l) (nf : f ≠ a) (ha : TAt encTK w (upd H a ob) a (putK vl (some s) (.ref f))) (t : Tups H (upd H a ob)) (hs : ∀ s' ∈ ss', s' = s ∨ s' ∈ ss) (hl : (putA tl (some s) (some l)).length ≤ 10000) :
    TbW CC w (upd H a ob) a ss' (updT T s l) (putK vl (some s) (.ref f)) (putA tl (some s) (some l)) := by
  refine ⟨ha, ?_, ?_, ?_, ?_, hl⟩
  · have p2 : Paired (fun (x : TK × V) (p : TK × Option (List (En × Nat))) => x.1 = p.1 ∧ TVal CC w p.2 (upd H a ob) x.2) vl tl := by
      have ne := h.ne
      have pr := h.pr
      clear ha h hl hs
      induction pr with
      | nil => exact .nil
      | cons q t' ih => exact .cons ⟨q.1, tval_upd q.2 (ne _ List.mem_cons_self) t⟩ (ih (fun p hp => ne p (List.mem_cons_of_mem _ hp)))
    exact paired_put (RV := TVal CC w) p2 ⟨f, rfl, d.mono (upd_ne nf) t⟩
  · intro p hp
    have : putK vl (some s) (.ref f) = putA vl (some s) (.ref f) := rfl
    rw [this] at hp
    rcases putA_mem hp with e | ⟨hp, _⟩
    · rw [e]
      intro z
      cases z
      exact nf rfl
    · exact h.ne p hp
  · rw [getA_put, if_neg (by intro z; cases z)]
    exact h.r
  · intro s' hs'
    rw [getA_put]
    unfold updT
    by_cases e : s' = s
    · subst e
      rw [if_pos rfl, if_pos rfl]
    · rw [if_neg (fun z => e (Option.some.inj z)), if_neg e]
      rcases hs s' hs' with z | z
      · exact absurd z e
      · exact h.s s' z
/-- what is known of the filling -/
structure FillP (w : World) (bk : Bk) (row : List Str) (ss : List Seat) (Iv : Tab → Prop) (μ : Tab → Nat) : Prop where
  z : Iv fun _ => []
  ok : ∀ T s, Iv T → s ∈ ss → ConclOk w bk row ss T s
  st : ∀ T s, Iv T → s ∈ ss → sameE (concl bk row T s) (T s) = false → Iv (updT T s (concl bk row T s)) ∧ μ (updT T s (concl bk row T s)) < μ T
def spFill (w : World) (CG CC : Addr) : List V → Hp → HR → Prop := fun vs H R => ∃ o r bk row Iv μ, vs = [o, r] ∧ GrV CG w bk row H o ∧ Rck CC H r ∧ FillP w bk row (seatsOf bk) Iv μ ∧ (seatsOf bk).length ≤ 9000 ∧
  R = fun H1 v => ∃ T, Iv T ∧ (∀ s ∈ seatsOf bk, sameE (concl bk row T s) (T s) = true) ∧ TbV CC w (seatsOf bk) T H1 v
theorem disp_t {H : Hp} {p : Addr} {u : HO} {v : V} (d : DAt w (upd H p u) p [(.text "reckoner", v)]) : TAt encTK w (upd H p u) p [(none, v)] := by
  obtain ⟨kvs, ep, d, e⟩ := d
  match kvs, e with
  | [(k, x, v')], e =>
    simp only [NK.strip, List.map_cons, List.map_nil, List.cons.injEq, and_true, Prod.mk.injEq] at e
    obtain ⟨rfl, rfl⟩ := e
    have h := (d.keys _ List.mem_cons_self).1
    cases h
    exact ⟨_, ep, d, .cons ⟨rfl, .str _, rfl⟩ .nil⟩
theorem putA_len_some {κ β : Type} [DecidableEq κ] {l : List (κ × β)} {k : κ} {v b : β} (h : getA l k = some b) : (putA l k v).length = l.length := by
  unfold putA
  rw [getA_any, h]
  simp
theorem w_filled (T : Txt K mg CG CC) : Met P w K mg base 7 CG "filled" (SpR (spFill w CG CC)) := by
  refine met_of T.cG T.d_Ground_filled sc_Ground_filled b_Ground_filled (fun vs H Q E ⟨R, ⟨_, _, _, _, _, _, e, _⟩, _⟩ => by rw [e]; rfl) fun f cdv A outer s H vs Q E hr hq => ?_
  have c_concluded := w_concluded (P := P) (w := w) (base := base) T
  refine ⟨_, (pss_cons (ps_set (i := 2) sc_Ground_filled.nd rfl (Or.inl rfl) (pe_disp1 (pv 1)))
    (pss_cons (ps_for PassesOwn.never rfl (pi_list (pe_fld (pv 0) rfl)) (pg_name (i := 3) sc_Ground_filled.nd rfl (Or.inl rfl))
      (pss_one (ps_asg pe_dnew (pg_sub (pv 2) (pv 3) (set_ndR hr.units)))))
    (pss_cons (ps_set (i := 4) sc_Ground_filled.nd rfl (Or.inl rfl) pe_bl)
    (pss_cons (ps_while PassesOwn.never (pt_val (pv 4))
      (pss_cons (ps_set (i := 4) sc_Ground_filled.nd rfl (Or.inl rfl) pe_bl)
      (pss_one (ps_for PassesOwn.never rfl (pi_list (pe_fld (pv 0) rfl)) (pg_name (i := 3) sc_Ground_filled.nd rfl (Or.inl rfl))
        (pss_cons (ps_set (i := 5) sc_Ground_filled.nd rfl (Or.inl rfl) (pe_mt c_concluded hr (by omega) (pv 0) (pa_cons (pv 2) (pa_cons (pv 3) pa_nil))))
        (pss_one (ps_if (pt_cmpR (op_ne_nd hr.units) (pv 5) (pe_ix (ix_nd hr.units) (pv 2) (pv 3) (fun _ _ => rfl)) (nomark _))
          (pss_cons (ps_asg (pv 5) (pg_sub (pv 2) (pv 3) (set_ndR hr.units)))
          (pss_one (ps_set (i := 4) sc_Ground_filled.nd rfl (Or.inl rfl) pe_bl)))
          pss_nil)))))))
    (pss_one (ps_ret (pv 2))))))), ?_⟩
  obtain ⟨R, ⟨o, r, bk, row, Iv, μ, rfl, hG, hR, F, hlen, rfl⟩, hQ⟩ := hq
  have hG' := hG
  obtain ⟨g, dx, fs, vs', vt', pa, ca, pl, cl, rfl, G⟩ := hG'
  intro ta u nta dta
  refine ⟨r, rfl, rfl, upd_same, fun u' du' => ?_⟩
  have t0 := disp_t du'
  have x1 : Ex H (upd (upd H ta u) ta u') := Ex.mut (Ex.new nta) nta
  have hR1 := Mono.mo x1 hR
  have ner : r ≠ .ref ta := fun z => by
    obtain ⟨r', dx', e, h⟩ := hR
    rw [z] at e
    cases e
    rw [nta] at h
    cases h
  have W0 : TbW CC w (upd (upd H ta u) ta u') ta [] (fun _ => []) [(none, r)] [(none, none)] :=
    ⟨t0, .cons ⟨rfl, hR1⟩ .nil, fun p hp => by rw [List.mem_singleton.mp hp]; exact ner, rfl, fun s hs => (nomatch hs), by decide⟩
  have G1 := G.ex x1
  generalize upd (upd H ta u) ta u' = Ha at x1 W0 G1
  dsimp only
  refine sq (st_forL (l := seatsOf bk) (f := encSeat) (gv_val (gv_fld T (by decide) (gv_ref rfl) G1.at_ G1.f4) G1.i4) fun p xs H2 e2 hxs => ?_)
  have hsz : ∀ {pre post : List Seat} {d : Seat}, seatsOf bk = pre ++ d :: post → pre.length < 9000 := fun el => by
    have := congrArg List.length el
    simp at this
    omega
  refine ⟨fun pre σ' H' => (∃ c1 c2 c3, σ' = [some (.ref g), some r, some (.ref ta), c1, c2, c3]) ∧ Ex H H' ∧ Tups H2 H' ∧ H' p = some (.lst xs) ∧ ∃ vl tl, TbW CC w H' ta pre (fun _ => []) vl tl ∧ tl.length ≤ pre.length + 1, ⟨⟨_, _, _, rfl⟩, x1.trans e2, Tups.refl _, hxs, _, _, W0.ex e2, by simp⟩, fun _ _ _ h => ⟨h.2.2.1, h.2.2.2.1⟩, ?_, ?_⟩
  · rintro pre d post x σ' H' el ⟨⟨c1, c2, c3, rfl⟩, z1, z2, hp', vl, tl, W, lw⟩ hx
    have hpre := hsz el
    have lvl : vl.length = tl.length := Paired.length W.pr
    refine st_setD (k := some d) (R := EdV w H' []) keyTK gv_newE (gv_ref rfl) (gv_var rfl hx) W.at_ (by rw [lvl]; show _ < 16777216; omega) fun v H5 ob e5 rv d5 t5 => ?_
    obtain ⟨fv, rfl, nfv, dfv⟩ := rv
    have nfa : fv ≠ ta := fun z => by
      obtain ⟨o, ho, _⟩ := TAt.at_ W.at_
      rw [← z, nfv] at ho
      cases ho
    have lp := putA_length tl (some d) (some ([] : List (En × Nat)))
    have W5 := (W.ex e5).set (ss' := pre ++ [d]) (s := d) dfv nfa d5 t5 (fun s' hs' => by
      rcases List.mem_append.mp hs' with h | h
      · exact .inr h
      · exact .inl (List.mem_singleton.mp h)) (by omega)
    have eT : updT (fun _ => []) d [] = fun _ => [] := by funext s'; unfold updT; split <;> rfl
    rw [eT] at W5
    refine ⟨⟨_, _, _, rfl⟩, Ex.mut (z1.trans e5) nta, (z2.trans e5.tups).trans t5, ?_, _, _, W5, ?_⟩
    · rw [upd_ne (lst_ne (e5 _ _ hp') (W.at_.ex e5))]
      exact e5 _ _ hp'
    · rw [List.length_append]
      simp
      omega
  · rintro σ' Hb ⟨⟨c1, c2, c3, rfl⟩, z1, z2, hp', vl, tl, W, lw⟩
    dsimp only
    refine sq (st_asg (R := IsV (.bool true)) gv_bl fun v3 H3 e3 r3 => ?_)
    rw [Is.bl_inv r3]
    dsimp only
    let Wm : Nat → L2.St → Hp → Prop := fun m σ' H' => ∃ c1 c3 ch Tb vl tl, σ' = [some (.ref g), some r, some (.ref ta), c1, some (.bl ch), c3] ∧ Ex H H' ∧ TbW CC w H' ta (seatsOf bk) Tb vl tl ∧ Iv Tb ∧ (ch = false → ∀ s ∈ seatsOf bk, sameE (concl bk row Tb s) (Tb s) = true) ∧ m = 2 * μ Tb + (if ch = true then 1 else 0)
    refine sq (show tWhile _ _ _ _ _ from ⟨Wm, ⟨_, _, _, true, fun _ => [], vl, tl, rfl, z1.trans e3, W.ex e3, F.z, (fun h => by cases h), rfl⟩, ?_⟩)
    rintro m σ' H4 ⟨c1, c3, ch, Tb, vl, tl, rfl, y1, W4, iv, hch, rfl⟩
    refine ⟨_, rfl, ch, rfl, ?_⟩
    cases ch with
    | false =>
      rw [if_neg Bool.false_ne_true]
      exact st_ret (gv_ref rfl) fun v5 H5 e5 r5 => hQ v5 H5 (y1.trans e5) ⟨Tb, iv, hch rfl, ta, tl, r5, (W4.ex e5).tb⟩
    | true =>
      rw [if_pos rfl]
      refine ⟨fun σ' H' => ∃ m', m' < 2 * μ Tb + 1 ∧ Wm m' σ' H', fun _ _ h => h, ?_⟩
      refine sq (st_asg (R := IsV (.bool false)) gv_bl fun v6 H6 e6 r6 => ?_)
      rw [Is.bl_inv r6]
      dsimp only
      have y6 := y1.trans e6
      have G6 := G.ex y6
      refine st_forL (l := seatsOf bk) (f := encSeat) (gv_val (gv_fld T (by decide) (gv_ref rfl) G6.at_ G6.f4) G6.i4) fun p2 xs2 H7 e7 hxs2 => ?_
      have hxsH : Ex H H7 := y6.trans e7
      refine ⟨fun pre σ' H' => (∃ c1 c3 ch' Tb' vl' tl', σ' = [some (.ref g), some r, some (.ref ta), c1, some (.bl ch'), c3] ∧ TbW CC w H' ta (seatsOf bk) Tb' vl' tl' ∧ Iv Tb' ∧ (ch' = false → Tb' = Tb ∧ ∀ s ∈ pre, sameE (concl bk row Tb s) (Tb s) = true) ∧ (ch' = true → μ Tb' < μ Tb)) ∧ Ex H H' ∧ Tups H7 H' ∧ H' p2 = some (.lst xs2), ⟨⟨_, _, false, Tb, vl, tl, rfl, W4.ex (e6.trans e7), iv, fun _ => ⟨rfl, fun s hs => (nomatch hs)⟩, fun h => by cases h⟩, hxsH, Tups.refl _, hxs2⟩, fun _ _ _ h => ⟨h.2.2.1, h.2.2.2⟩, ?_, ?_⟩
      · rintro pre d post x σ' H8 el ⟨⟨c1, c3, ch', Tb', vl', tl', rfl, W8, iv8, hf8, ht8⟩, q1, q2, q3⟩ hx
        have hd : d ∈ seatsOf bk := by rw [el]; simp
        refine st_asg (R := EdV w H8 (concl bk row Tb' d)) (gv_methE (R := GrV CG w bk row) (A := spConcl w CG CC) (gv_var rfl (Mono.mo q1 hG)) (grV_meth (by decide)) (ga_cons (gv_var (R := TbV CC w (seatsOf bk) Tb') rfl ⟨ta, tl', rfl, W8.tb⟩) (ga_cons (gv_var (R := IsV (encSeat d)) rfl hx) ga_nil)) fun o vs H9 e9 ro ra => ?_) fun v9 H9 e9 r9 => ?_
        · obtain ⟨a1, _, rfl, i1, a2, _, rfl, i2, rfl⟩ := ra
          exact ⟨o, a1, a2, bk, row, seatsOf bk, Tb', d, rfl, ro, i1, i2, F.ok Tb' d iv8 hd, rfl⟩
        obtain ⟨ff, rfl, nff, dff⟩ := r9
        have W9 := W8.ex e9
        have nfa : ff ≠ ta := fun z => by
          obtain ⟨o, ho, _⟩ := TAt.at_ W8.at_
          rw [← z, nff] at ho
          cases ho
        obtain ⟨vl9, v9', dv9, hv9, rv9⟩ := W9.tb.at_.get (W9.s d hd)
        obtain ⟨fo, rfl, dfo⟩ := rv9
        have q19 := q1.trans e9
        have q39 := e9 _ _ q3
        dsimp only
        refine st_if (gt_neE (gv_ref rfl) (gv_ixD (k := some d) keyTK (gv_ref rfl) (gv_var rfl (Is.mono e9.tups _ _ hx)) dv9 hv9) dff dfo) (fun h H10 e10 => ?_) fun h H10 e10 => ?_
        · have hne : sameE (concl bk row Tb' d) (Tb' d) = false := by simpa using h
          obtain ⟨iv', lt'⟩ := F.st Tb' d iv8 hd hne
          have W10 := W9.ex e10
          have lvl : vl'.length = tl'.length := Paired.length W10.pr
          have ltl := W10.len
          refine sq (st_setD (k := some d) (R := EqV (.ref ff)) keyTK (gv_ref rfl) (gv_ref rfl) (gv_var rfl (Is.mono (e9.trans e10).tups _ _ hx)) W10.at_ (by rw [lvl]; show _ < 16777216; omega) fun v H11 ob e11 rv d11 t11 => ?_)
          rw [show v = .ref ff from rv] at d11
          have W11 := (W10.ex e11).set (ss' := seatsOf bk) (dff.ex (e10.trans e11)) nfa d11 t11 (fun s' hs' => .inr hs') (by rw [putA_len_some (W10.s d hd)]; exact ltl)
          dsimp only
          refine st_asg (R := IsV (.bool true)) gv_bl fun v12 H12 e12 r12 => ?_
          rw [Is.bl_inv r12]
          have q11 := e10.trans e11
          refine ⟨⟨_, _, true, _, _, _, rfl, W11.ex e12, iv', (fun h => by cases h), fun _ => ?_⟩, (Ex.mut (q19.trans q11) nta).trans e12, (((q2.trans e9.tups).trans q11.tups).trans t11).trans e12.tups, ?_⟩
          · cases ch' with
            | true => exact Nat.lt_trans lt' (ht8 rfl)
            | false =>
              obtain ⟨e, _⟩ := hf8 rfl
              rw [e] at lt'
              rw [e]
              exact lt'
          · refine e12 _ _ ?_
            rw [upd_ne (lst_ne (q11 _ _ q39) (W10.at_.ex e11))]
            exact q11 _ _ q39
        · have hsm : sameE (concl bk row Tb' d) (Tb' d) = true := by simpa using h
          refine ⟨⟨_, _, ch', _, _, _, rfl, W9.ex e10, iv8, fun hc => ?_, ht8⟩, q19.trans e10, (q2.trans e9.tups).trans e10.tups, e10 _ _ q39⟩
          obtain ⟨e, hh⟩ := hf8 hc
          refine ⟨e, fun s hs => ?_⟩
          rcases List.mem_append.mp hs with h | h
          · exact hh s h
          · rw [List.mem_singleton.mp h, ← e]
            exact hsm
      · rintro σ' H8 ⟨⟨c1, c3, ch', Tb', vl', tl', rfl, W8, iv8, hf8, ht8⟩, q1, q2, q3⟩
        refine ⟨2 * μ Tb' + (if ch' = true then 1 else 0), ?_, _, _, ch', Tb', vl', tl', rfl, q1, W8, iv8, fun hc => ?_, rfl⟩
        · cases ch' with
          | true =>
            have := ht8 rfl
            simp
            omega
          | false =>
            obtain ⟨e, _⟩ := hf8 rfl
            rw [e]
            simp
        · obtain ⟨e, hh⟩ := hf8 hc
          rw [e]
          exact hh
end
end K31

namespace K31
open PySem PySem.Spec PyProof.Rows L2 NK Evl
section
variable {α β κ : Type} [DecidableEq κ] {enc : κ → PyData} {w : World} {K : PySem.W.Frag} {σ : L2.St} {H : Hp} {ta td te tl : TE} {tt : TT} {a : Addr} {i : Nat} {D : Ends}
theorem gv_lcD {l : List (κ × β)} (fv : β → V) (e : κ × β → PyData) (hd : Gv td σ H (EqV (.ref a))) (h : TAt enc w H a (l.map fun p => (p.1, fv p.2)))
    (hs : ∀ d x H1, d ∈ l → Ex H H1 → Is H1 (enc d.1) x → EvT tt ((wipe σ [i]).set i (some x)) H1 true ∧ Gv te ((wipe σ [i]).set i (some x)) H1 (IsV (e d))) :
    Gv (tLc (iDict w td) (gName i) tt te [i]) σ H (FrV H (l.map e)) := fun H1 e1 Q q => hd H1 e1 _ fun v H2 e2 rx => by
  obtain ⟨kvs, ep, d, p⟩ := h.ex (e1.trans e2)
  have len : kvs.length = l.length := by rw [Paired.length p, List.length_map]
  refine ⟨a, kvs, ep, rx, d, fun D hD => lc_steps steps_dict len e (fun _ => true) hD (by rw [← len]; exact d.sz) (fun H' ex => ex _ _ d.at_) (fun pre y post x H' H'' el ex z => ?_) fun acc H' ex hd al' => q _ _ (e2.trans ex) ⟨D, acc, rfl, fresh_back (e1.trans e2) hD, hd, by rw [List.filter_eq_self.mpr (by simp)] at al'; exact al'⟩⟩
  obtain ⟨rfl, k', v', e3⟩ := z
  have at2 : ∀ {kvs : List KE} {l : List (κ × V)} {i : Nat} {x : KE} {y : κ × V}, Paired (fun (x : KE) (p : κ × V) => x.1 = keyDa (enc p.1) ∧ Is H2 (enc p.1) x.2.1 ∧ x.2.2 = p.2) kvs l → kvs[i]? = some x → l[i]? = some y → x.1 = keyDa (enc y.1) ∧ Is H2 (enc y.1) x.2.1 ∧ x.2.2 = y.2 := by
    intro kvs l i x y p
    induction p generalizing i with
    | nil => intro h; simp at h
    | cons q t ih =>
      intro h1 h2
      cases i with
      | zero =>
        simp at h1 h2
        subst h1 h2
        exact q
      | succ i => exact ih (by simpa using h1) (by simpa using h2)
  have hi := (at2 (y := (y.1, fv y.2)) p e3 (by rw [List.getElem?_map, pre_get el]; rfl)).2.1
  obtain ⟨h1, h2⟩ := hs y x _ (by rw [el]; simp) ((e1.trans e2).trans ex) (Is.mono ex.tups _ _ hi)
  exact ⟨Ex.refl _, _, fun Q q => q, wipe_one, h1, fun _ => h2⟩
/-- l.extend(e), e a new list -/
theorem st_ext {l : Addr} {xs : List V} {ds : List PyData} (hl : H l = some (.lst xs)) (ha : Ev ta σ H (.ref l)) (h : Gv te σ H (FrV H ds)) (hz : xs.length + ds.length ≤ sizeLine) (k : ∀ zs H1, Ex H H1 → IsAll H1 ds zs → D.nx σ (upd H1 l (.lst (xs ++ zs)))) :
    tDrop (tBM K "list" rExtend ta (tCons te tNil)) D σ H := ha H (Ex.refl _) _ fun H1 e => ⟨Or.inl ⟨rfl, xs, sq_of (e _ _ hl)⟩, h H1 e _ fun v H2 e2 r => by
  obtain ⟨p, zs, rfl, np, hp, al⟩ := r
  exact ⟨l, p, xs, zs, rfl, rfl, e2 _ _ (e _ _ hl), hp, by rw [al.length]; exact hz, k zs H2 (e.trans e2) al⟩⟩
theorem perm_lift {f : α → PyData} {bs cs : List PyData} (p : bs.Perm cs) : ∀ L : List α, cs = L.map f → ∃ M : List α, M.Perm L ∧ bs = M.map f := by
  induction p with
  | nil =>
    intro L e
    cases L with
    | nil => exact ⟨[], List.Perm.nil, rfl⟩
    | cons _ _ => cases e
  | cons x p ih =>
    intro L e
    cases L with
    | nil => cases e
    | cons y L =>
      rw [List.map_cons, List.cons.injEq] at e
      obtain ⟨M, h1, h2⟩ := ih L e.2
      exact ⟨y :: M, h1.cons y, by rw [List.map_cons, h2, e.1]⟩
  | swap x y l =>
    intro L e
    match L, e with
    | a :: b :: L, e =>
      simp only [List.map_cons, List.cons.injEq] at e
      exact ⟨b :: a :: L, List.Perm.swap a b L, by simp [e.1, e.2.1, e.2.2]⟩
  | trans p q ih1 ih2 =>
    intro L e
    obtain ⟨M, h1, h2⟩ := ih2 L e
    obtain ⟨M', h3, h4⟩ := ih1 M h2
    exact ⟨M', h3.trans h1, h4⟩
/-- a sorted list of what is in L -/
def SorV (L : List α) (f : α → PyData) : HR := fun H v => ∃ M : List α, M.Perm L ∧ (M.map f).Pairwise (fun x y => PySem.W.dataLe false id x y = true) ∧ LsV (M.map f) H v
instance {L : List α} {f : α → PyData} : Mono (SorV L f) := ⟨fun e ⟨M, h1, h2, h3⟩ => ⟨M, h1, h2, Mono.mo e h3⟩⟩
structure SortOk (L : List α) (f : α → PyData) : Prop where
  al : PySem.W.AllAlike (L.map f)
  so : PySem.W.Sortable (L.map f)
  dp : ∀ x ∈ L, (f x).depth ≤ 40
  sz : L.length ≤ sizeLine
theorem zip_fst : ∀ {xs : List V} {ds : List PyData}, xs.length = ds.length → (xs.zip ds).map Prod.fst = xs := fun {xs ds} h => by rw [List.map_fst_zip (by omega)]
theorem zip_snd : ∀ {xs : List V} {ds : List PyData}, xs.length = ds.length → (xs.zip ds).map Prod.snd = ds := fun {xs ds} h => by rw [List.map_snd_zip (by omega)]
theorem isAll_zip {H : Hp} : ∀ {ds : List PyData} {xs : List V}, IsAll H ds xs → ∀ p ∈ xs.zip ds, Is H p.2 p.1
  | [], _, h, p, hp => by cases h; cases hp
  | d :: ds, _, h, p, hp => by
    cases h with
    | cons h1 h2 =>
      rw [List.zip_cons_cons] at hp
      rcases List.mem_cons.mp hp with rfl | hp
      · exact h1
      · exact isAll_zip h2 p hp
theorem isAll_of {H : Hp} : ∀ {ps : List (V × PyData)}, (∀ p ∈ ps, Is H p.2 p.1) → IsAll H (ps.map Prod.snd) (ps.map Prod.fst)
  | [], _ => .nil
  | p :: ps, h => .cons (h p List.mem_cons_self) (isAll_of fun q hq => h q (List.mem_cons_of_mem _ hq))
theorem sorD_pair (ps : List (V × PyData)) : ((sortD ps).map Prod.snd).Pairwise fun x y => PySem.W.dataLe false id x y = true := by
  rw [List.pairwise_map]
  have T := PySem.W.sortLe_total (PyProof.Rows.listOrd PyProof.Rows.itemOrd) false (fun b : V × PyData => PySem.W.keyToks b.2)
  exact List.pairwise_mergeSort (fun a b c => T.trans a b c) (fun a b => by rcases T.total a b with h | h <;> simp [PySem.W.dataLe, h]) ps
theorem sorted_out {L : List α} {f : α → PyData} {xs : List V} (S : SortOk L f) (al : IsAll H (L.map f) xs) : Sorty H (xs.zip (L.map f)) ∧ ∀ p, H p = none → SorV L f (upd H p (.lst ((sortD (xs.zip (L.map f))).map Prod.fst))) (.ref p) := by
  have hl := al.length
  refine ⟨⟨isAll_zip al, ?_, ?_, ?_, ?_⟩, fun p np => ?_⟩
  · rw [zip_snd hl]; exact S.al
  · rw [zip_snd hl]; exact S.so
  · intro p hp
    have : p.2 ∈ L.map f := by rw [← zip_snd hl]; exact List.mem_map_of_mem hp
    obtain ⟨x, hx, e⟩ := List.mem_map.mp this
    rw [← e]
    exact S.dp x hx
  · rw [List.length_zip, hl, Nat.min_self, List.length_map]
    exact S.sz
  · have pm : ((sortD (xs.zip (L.map f))).map Prod.snd).Perm (L.map f) := by
      have := (List.mergeSort_perm (xs.zip (L.map f)) (PySem.W.dataLe false Prod.snd)).map Prod.snd
      rw [zip_snd hl] at this
      exact this
    obtain ⟨M, h1, h2⟩ := perm_lift pm L rfl
    refine ⟨M, h1, by rw [← h2]; exact sorD_pair _, p, _, rfl, upd_same, ?_⟩
    rw [← h2]
    refine isAll_of fun q hq => ?_
    have : q ∈ xs.zip (L.map f) := (List.mergeSort_perm _ _).mem_iff.mp hq
    exact Is.mono (Tups.new np) _ _ (isAll_zip al q this)
theorem gv_sortL {L : List α} {f : α → PyData} (h : Gv ta σ H (LsV (L.map f))) (S : SortOk L f) : Gv (tCB (rSortL K) (tCons ta tNil)) σ H (SorV L f) := fun H1 e1 Q q => h H1 e1 _ fun v H2 e2 r => by
  obtain ⟨p, xs, rfl, hp, al⟩ := r
  obtain ⟨h1, h2⟩ := sorted_out S al
  exact ⟨p, xs.zip (L.map f), rfl, by rw [zip_fst al.length]; exact sq_of hp, h1, fun p' np => q _ _ (e2.trans (Ex.new np)) (h2 p' np)⟩
/-- sorted(d) -/
theorem gv_sortD {l : List (κ × V)} (hd : Gv ta σ H (EqV (.ref a))) (h : TAt enc w H a l) (S : SortOk (l.map Prod.fst) enc) : Gv (tCB (rSortD w) (tCons ta tNil)) σ H (SorV (l.map Prod.fst) enc) := fun H1 e1 Q q => hd H1 e1 _ fun v H2 e2 r => by
  obtain ⟨kvs, ep, d, p⟩ := h.ex (e1.trans e2)
  have al : IsAll H2 ((l.map Prod.fst).map enc) (kvs.map (·.2.1)) := by
    clear d q h S
    induction p with
    | nil => exact .nil
    | cons q t ih => exact .cons q.2.1 ih
  obtain ⟨h1, h2⟩ := sorted_out S al
  exact ⟨a, kvs, ep, _, by rw [show v = .ref a from r], d, zip_fst al.length, h1, fun p' np => q _ _ (e2.trans (Ex.new np)) (h2 p' np)⟩
end
section
variable {α : Type} {K : PySem.W.Frag} {σ : L2.St} {H : Hp} {tl : TE} {g : TG} {tb : TS} {D : Ends}
/-- for x in that list -/
theorem st_forA {l : List α} {f : α → PyData} {p : Addr} {xs : List V} (h : Gv tl σ H (EqV (.ref p))) (hp : H p = some (.lst xs)) (al0 : IsAll H (l.map f) xs) (k : ∀ H1, Ex H H1 → ∃ Iv : List α → L2.St → Hp → Prop, Iv [] σ H1 ∧ (∀ pre σ' H', Iv pre σ' H' → Tups H1 H' ∧ H' p = some (.lst xs)) ∧
      (∀ pre d post x σ' H', l = pre ++ d :: post → Iv pre σ' H' → Is H' (f d) x → g x σ' H' fun σ2 H2 => tb { D with nx := Iv (pre ++ [d]), ct := Iv (pre ++ [d]), bk := D.nx } σ2 H2) ∧ ∀ σ' H', Iv l σ' H' → D.nx σ' H') :
    tFor (iList K tl) g tb D σ H := h H (Ex.refl _) _ fun v H1 e r => by
  have r : v = .ref p := r
  subst r
  have pt := e _ _ hp
  have al := IsAll.mono e.tups _ _ al0
  obtain ⟨Iv, h0, hT, hs, hd⟩ := k H1 e
  have len : xs.length = l.length := by rw [al.length, List.length_map]
  refine ⟨p, rfl, ⟨xs, sq_of pt⟩, for_steps steps_list len Iv h0 (fun pre σ' H' iv => sq_of (hT _ _ _ iv).2) (fun pre d post x σ' H' H'' el iv y => ?_) hd⟩
  obtain ⟨rfl, ex⟩ := y
  refine hs pre d post x σ' _ el iv ?_
  obtain ⟨v, e1, e2⟩ := (IsAll.mono (hT _ _ _ iv).1 _ _ al).get (i := pre.length) (d := f d) (by rw [List.getElem?_map, pre_get el]; rfl)
  rw [ex] at e1
  cases e1
  exact e2
end
def encEnt (x : Seat × En) : PyData := .tuple [.str x.1.key, encP x.1.place, .bool x.1.done, encE x.2]
theorem alike_ints : ∀ p q : Place, PySem.W.alikeAll (p.map fun k => PyData.int (Int.ofNat k)) (q.map fun k => PyData.int (Int.ofNat k)) = true
  | [], _ => by simp [PySem.W.alikeAll]
  | _ :: _, [] => by simp [PySem.W.alikeAll]
  | a :: p, b :: q => by simp only [List.map_cons, PySem.W.alikeAll, PySem.W.alike, alike_ints p q]; rfl
theorem alike_ent (x y : Seat × En) : PySem.W.alike (encEnt x) (encEnt y) = true := by
  simp only [encEnt, encP, encE, PySem.W.alike, PySem.W.alikeAll, alike_ints]
  rfl
theorem depth_ints : ∀ p : Place, PyData.depthAll (p.map fun k => PyData.int (Int.ofNat k)) ≤ 1
  | [] => by simp [PyData.depthAll]
  | k :: p => by have := depth_ints p; simp only [List.map_cons, PyData.depthAll, PyData.depth]; omega
theorem sortOk_ent {L : List (Seat × En)} (h : L.length ≤ sizeLine) : SortOk L encEnt where
  al := by
    intro d hd d' hd'
    obtain ⟨x, _, rfl⟩ := List.mem_map.mp hd
    obtain ⟨y, _, rfl⟩ := List.mem_map.mp hd'
    exact alike_ent x y
  so := .inl fun d hd => by
    obtain ⟨x, _, rfl⟩ := List.mem_map.mp hd
    exact ⟨_, _, rfl⟩
  dp := fun x _ => by
    have := depth_ints x.1.place
    simp only [encEnt, encP, encE, PyData.depth, PyData.depthAll]
    omega
  sz := h
def listT (ss : List Seat) (T : Tab) : List (Seat × En) := ss.flatMap fun s => (T s).map fun p => (s, p.1)
section
variable {P : Program} {w : World} {K : PySem.W.Frag} {mg : Str → Option Value} {base : Heap} {CG CC : Addr}
def spListed (w : World) (CG CC : Addr) : List V → Hp → HR → Prop := fun vs H R => ∃ o vt bk row T, vs = [o, vt] ∧ GrV CG w bk row H o ∧ TbV CC w (seatsOf bk) T H vt ∧ (seatsOf bk).length ≤ 9000 ∧ (∀ s ∈ seatsOf bk, (T s).length ≤ 100) ∧ R = SorV (listT (seatsOf bk) T) encEnt
theorem w_listed (T : Txt K mg CG CC) : Met P w K mg base 2 CG "listed" (SpR (spListed w CG CC)) := by
  refine met_of T.cG T.d_Ground_listed sc_Ground_listed b_Ground_listed (fun vs H Q E ⟨R, ⟨_, _, _, _, _, e, _⟩, _⟩ => by rw [e]; rfl) fun f cdv A outer s H vs Q E hr hq => ?_
  refine ⟨_, (pss_cons (ps_set (i := 2) sc_Ground_listed.nd rfl (Or.inl rfl) (pe_lst pa_nil))
    (pss_cons (ps_for PassesOwn.never rfl (pi_list (pe_fld (pv 0) rfl)) (pg_name (i := 3) sc_Ground_listed.nd rfl (Or.inr rfl))
      (pss_one (ps_expr (pe_bm PySem.F.plainAttrs_list PySem.F.slot_list_extend PySem.F.type_list_extend mt_extend (pv 2) (pa_cons (pe_lc rfl sc_Ground_listed.nd (pi_dict (pe_ix (ix_nd hr.units) (pv 1) (pv 3) (fun _ _ => rfl))) (blkOk_by (own := [("ends", 4)]) (N := N_Ground_listed) (sc := defScope s_Ground_listed) (by decide +kernel)) (fun _ _ _ _ _ => (pg_name (i := 4) sc_Ground_listed.nd rfl (Or.inl rfl))) (fun _ _ _ _ _ => pts_nil) (fun _ _ _ _ _ => (pe_op (show OpR _ _ (rCatP K) from op_catP) (pv 3) (pe_tupP (pa_cons (pv 4) pa_nil))))) pa_nil)))))
    (pss_one (ps_ret (pe_callB (cr_sortL hr.units) rfl (T.fr "sorted" (by decide)) (by decide +kernel) (pa_cons (pv 2) pa_nil)))))), ?_⟩
  obtain ⟨R, ⟨o, vt, bk, row, Tb, rfl, hG, ⟨ta, tl, rfl, TB⟩, hlen, hsz, rfl⟩, hQ⟩ := hq
  obtain ⟨g, dx, fs, vs', vt', pa, ca, pl, cl, rfl, G⟩ := hG
  obtain ⟨p, xs, rfl, hp0, al0⟩ := G.i4
  refine st_new0 fun fp nfp => ?_
  dsimp only
  have x1 := Ex.new (o := .lst []) nfp
  have G1 := G.ex x1
  refine sq (st_forA (l := seatsOf bk) (f := encSeat) (gv_fld T (by decide) (gv_ref rfl) G1.at_ G1.f4) (x1 _ _ hp0) (IsAll.mono x1.tups _ _ al0) fun H2 e2 => ?_)
  have hxs := e2 _ _ (x1 _ _ hp0)
  have hszl : ∀ {pre post : List Seat}, seatsOf bk = pre ++ post → (listT pre Tb).length ≤ 900000 := fun {pre post} el => by
    have h1 : (listT pre Tb).length ≤ pre.length * 100 := flat_len (l := pre) fun x hx => by
      rw [List.length_map]
      exact hsz x (by rw [el]; exact List.mem_append_left _ hx)
    have h2 := congrArg List.length el
    rw [List.length_append] at h2
    omega
  refine ⟨fun pre σ' H' => (∃ c1 c2, σ' = [some (.ref g), some (.ref ta), some (.ref fp), c1, c2]) ∧ Ex H H' ∧ Tups H2 H' ∧ H' p = some (.lst xs) ∧ ∃ ys, H' fp = some (.lst ys) ∧ IsAll H' ((listT pre Tb).map encEnt) ys, ⟨⟨_, _, rfl⟩, x1.trans e2, Tups.refl _, hxs, [], e2 _ _ upd_same, .nil⟩, fun _ _ _ h => ⟨h.2.2.1, h.2.2.2.1⟩, ?_, ?_⟩
  · rintro pre d post x σ' H' el ⟨⟨c1, c2, rfl⟩, z1, z2, hp', ys, hys, al⟩ hx
    have hd : d ∈ seatsOf bk := by rw [el]; simp
    have TB' := TB.ex z1
    obtain ⟨vl, v, dv, hv, rv⟩ := TB'.at_.get (TB'.s d hd)
    obtain ⟨fo, rfl, dfo⟩ := rv
    have hl1 : (listT (pre ++ [d]) Tb).length ≤ 900000 := hszl (post := post) (by rw [List.append_assoc]; exact el)
    have elt : listT (pre ++ [d]) Tb = listT pre Tb ++ (Tb d).map fun p => (d, p.1) := by unfold listT; rw [List.flatMap_append]; simp
    refine st_ext (ds := (Tb d).map fun p : En × Nat => encEnt (d, p.1)) hys (ev_var rfl) (gv_lcD (enc := encE) (l := Tb d) nI (fun p : En × Nat => encEnt (d, p.1)) (gv_ixD (k := some d) keyTK (gv_ref rfl) (gv_var rfl hx) dv hv) dfo fun e y H4 he e4 hy => ⟨ev_yes, gv_is (gv_cat (ds := [.str d.key, encP d.place, .bool d.done]) (gv_var rfl (Is.mono e4.tups _ _ hx)) (gv_tup (gi_cons (gv_var rfl hy) gi_nil)) (by show _ ≤ 16777216; simp)) rfl⟩) ?_ fun zs H4 e4 al4 => ?_
    · rw [al.length, List.length_map, List.length_map]
      rw [elt, List.length_append, List.length_map] at hl1
      show _ ≤ 16777216
      omega
    · have hys4 := e4 _ _ hys
      have tt : Tups H4 (upd H4 fp (.lst (ys ++ zs))) := Tups.mut (mut_at hys4)
      have nfp4 : p ≠ fp := ne_at hp0 nfp
      refine ⟨⟨_, _, rfl⟩, Ex.mut (z1.trans e4) nfp, (z2.trans e4.tups).trans tt, ?_, _, upd_same, ?_⟩
      · rw [upd_ne nfp4]
        exact e4 _ _ hp'
      · rw [elt, List.map_append, List.map_map]
        exact (IsAll.mono tt _ _ (IsAll.mono e4.tups _ _ al)).append (IsAll.mono tt _ _ al4)
  · rintro σ' H' ⟨⟨c1, c2, rfl⟩, z1, z2, hp', ys, hys, al⟩
    refine st_ret (gv_sortL (L := listT (seatsOf bk) Tb) (gv_var rfl ⟨fp, ys, rfl, hys, al⟩) (sortOk_ent (Nat.le_trans (hszl (post := []) (by simp)) (by show _ ≤ 16777216; omega)))) fun v5 H5 e5 r5 => hQ v5 H5 (z1.trans e5) r5
end
end K31

namespace K31
open PySem PySem.Spec PyProof.Rows L2 NK Evl
section
variable {α : Type} {K : PySem.W.Frag} {σ : L2.St} {H : Hp} {tl : TE} {g : TG} {tb : TS} {D : Ends}
/-- for x in reversed(new list) -/
theorem st_forVF {l : List α} {f : α → PyData} {te : TE} (h : Gv te σ H (FrV H (l.map f))) (k : ∀ p xs H1, H p = none → Ex H H1 → H1 p = some (.lst xs) → ∃ Iv : List α → L2.St → Hp → Prop, Iv [] σ H1 ∧ (∀ pre σ' H', Iv pre σ' H' → Tups H1 H' ∧ H' p = some (.lst xs)) ∧
      (∀ pre d post x σ' H', l.reverse = pre ++ d :: post → Iv pre σ' H' → Is H' (f d) x → g x σ' H' fun σ2 H2 => tb { D with nx := Iv (pre ++ [d]), ct := Iv (pre ++ [d]), bk := D.nx } σ2 H2) ∧ ∀ σ' H', Iv l.reverse σ' H' → D.nx σ' H') :
    tFor (iRev K (tCons te tNil)) g tb D σ H := h H (Ex.refl _) _ fun v H1 e r => by
  obtain ⟨a, xs, rfl, np, pt, al⟩ := r
  obtain ⟨Iv, h0, hT, hs, hd⟩ := k a xs H1 np e pt
  have len : xs.length = l.length := by rw [al.length, List.length_map]
  refine ⟨a, xs, rfl, sq_of pt, for_steps (l := l.reverse) steps_rev (by rw [List.length_reverse]; exact len) Iv h0 (fun pre σ' H' iv => sq_of (hT _ _ _ iv).2) (fun pre d post x σ' H' H'' el iv y => ?_) hd⟩
  obtain ⟨rfl, ex⟩ := y
  refine hs pre d post x σ' _ el iv ?_
  have hlt : pre.length < l.length := by
    have := congrArg List.length el
    simp at this
    omega
  rw [List.getElem?_reverse (by omega)] at ex
  have g1 := pre_get el
  rw [List.getElem?_reverse hlt, ← len] at g1
  obtain ⟨v, e1, e2⟩ := (IsAll.mono (hT _ _ _ iv).1 _ _ al).get (i := xs.length - 1 - pre.length) (d := f d) (by rw [List.getElem?_map, g1]; rfl)
  rw [ex] at e1
  cases e1
  exact e2
end
theorem ev_of {te : TE} {σ : L2.St} {H : Hp} {v : V} (h : Gv te σ H (EqV v)) : Ev te σ H v := fun H1 e Q q => h H1 e _ fun u H2 e2 (r : u = v) => by rw [r]; exact q H2 e2
section
variable {κ β : Type} [DecidableEq κ] {enc : κ → PyData} {RV : β → HR} {w : World} {K : PySem.W.Frag} {σ : L2.St} {H H' H0 : Hp} {a : Addr} {l : List (κ × β)} {ta tb te td ty : TE} {D : Ends} {k : κ}
/-- the values stand while a dict changes -/
def Trd (RV : β → HR) : Prop := ∀ b v (H : Hp) a ob, RV b H v → (∃ x, H a = some (.ext x)) → Tups H (upd H a ob) → RV b (upd H a ob) v
theorem TAt.ext (h : TAt enc w H a vl) : ∃ x, H a = some (.ext x) := by
  obtain ⟨kvs, ep, d, _⟩ := h
  exact ⟨_, d.at_⟩
theorem paired_tr {vl : List (κ × V)} (f : ∀ b v, RV b H v → RV b H' v) (p : Paired (fun (x : κ × V) (p : κ × β) => x.1 = p.1 ∧ RV p.2 H x.2) vl l) : Paired (fun (x : κ × V) (p : κ × β) => x.1 = p.1 ∧ RV p.2 H' x.2) vl l := paired_imp (fun _ _ q => ⟨q.1, f _ _ q.2⟩) p
theorem st_setR {b : β} (hk : KeyE enc) (m : ∀ b, Mono (RV b)) (tr : Trd RV) (he : Gv te σ H (RV b)) (hd : Gv ta σ H (EqV (.ref a))) (hy : Gv tb σ H (IsV (enc k))) (h : TAtR enc RV w H a l) (hl : l.length < 1000000)
    (q : ∀ H1 ob, Ex H H1 → TAtR enc RV w (upd H1 a ob) a (putA l k b) → Tups H1 (upd H1 a ob) → D.nx σ (upd H1 a ob)) : tAsg te (gSub ta tb (rSetR w)) D σ H := by
  obtain ⟨vl, d, p⟩ := h
  have := m b
  refine st_setD hk he hd hy d (by rw [Paired.length p]; show _ < 16777216; omega) fun v H1 ob e1 rv d1 t1 => q H1 ob e1 ⟨_, d1, ?_⟩ t1
  have ex := TAt.ext (d.ex e1)
  exact paired_put (paired_tr (fun b v r => tr b v H1 a ob ((m b).mo e1 r) ex t1) p) (tr b v H1 a ob rv ex t1)
theorem TAtR.tr (tr : ∀ b v, RV b H v → RV b H' v) (h : TAtR enc RV w H a l) (e : H' a = H a) (t : Tups H H') : TAtR enc RV w H' a l := by
  obtain ⟨vl, d, p⟩ := h
  exact ⟨vl, d.mono e t, paired_tr tr p⟩
theorem gv_grpF (hk : KeyE enc) {m : List (κ × List PyData)} {ps : List (κ × Addr)} (hd : Gv td σ H (EqV (.ref a))) (hy : Gv ty σ H (IsV (enc k))) (g : GrpAt H0 enc w H a m ps) (dom : ∀ b, H b = none → H0 b = none) : Gv (tDGetOr w td ty (tLst tNil)) σ H (FrV H0 ((getA m k).getD [])) := by
  rcases paired_get (fun _ _ h => h.1) k g.ls with ⟨h1, h2⟩ | ⟨u, gl, h1, h2, ⟨_, hn, xs, hxs, al⟩, hm⟩
  · rw [h2]
    refine gv_getN hk hd hy (gv_imp (gv_lstF gi_nil (Nat.zero_le _)) fun H1 v _ ⟨p, xs, e, n, h3, h4⟩ => ⟨p, xs, e, dom _ n, h3, h4⟩) g.at_ (by rw [valV_f, h1]; rfl)
  · rw [h2]
    exact gv_val (gv_get hk hd hy (gv_lst gi_nil) g.at_ (by rw [valV_f, h1]; rfl)) ⟨u, xs, rfl, hn, hxs, al⟩
theorem trd_is : Trd (fun t : Tr => IsV (encT t)) := fun b v H a ob r _ t => Is.mono t _ _ r
theorem trd_fr {f : β → List PyData} : Trd (fun b : β => FrV H0 (f b)) := fun b v H a ob r ex t => by
  obtain ⟨p, xs, rfl, n, h1, h2⟩ := r
  obtain ⟨x, hx⟩ := ex
  have : p ≠ a := fun z => by rw [z, hx] at h1; cases h1
  exact ⟨p, xs, rfl, n, by rw [upd_ne this]; exact h1, IsAll.mono t _ _ h2⟩
end
theorem putF_len (f : Str) (v : V) : ∀ fs : List (Str × V), (putF f v fs).length ≤ fs.length + 1
  | [] => Nat.le_refl _
  | (g, x) :: r => by
    unfold putF
    split
    · simp
    · have := putF_len f v r
      simp
      omega
def NewT {κ : Type} (enc : κ → PyData) (w : World) (H0 : Hp) : HR := fun H v => ∃ p, v = .ref p ∧ H0 p = none ∧ TAt enc w H p []
instance {κ : Type} [DecidableEq κ] {enc : κ → PyData} {w : World} {H0 : Hp} : Mono (NewT enc w H0) := ⟨fun e ⟨p, h1, h2, h3⟩ => ⟨p, h1, h2, h3.ex e⟩⟩
theorem gv_newT' {κ : Type} {enc : κ → PyData} {w : World} {σ : L2.St} {H : Hp} : Gv (tDNew w) σ H (NewT enc w H) := fun H1 e1 Q q p o np d => by
  obtain ⟨kvs, ep, d, e⟩ := d
  have e2 : kvs = [] := by cases kvs with | nil => rfl | cons _ _ => cases e
  subst e2
  exact q _ _ (Ex.new np) ⟨p, rfl, fresh_back e1 np, [], ep, d, .nil⟩
theorem placesTs_mem {k i : Nat} {p : Place} : ∀ {ts : List Tr} {t : Tr}, ts[i]? = some t → p ∈ placesT t → (k + i) :: p ∈ placesTs k ts
  | [], t, h, _ => by simp at h
  | u :: ts, t, h, hp => by
    rw [placesTs]
    cases i with
    | zero =>
      simp at h
      subst h
      exact List.mem_append_left _ (List.mem_map.mpr ⟨p, hp, rfl⟩)
    | succ i =>
      refine List.mem_append_right _ ?_
      have := placesTs_mem (k := k + 1) (i := i) (p := p) (ts := ts) (by simpa using h) hp
      rw [show k + (i + 1) = k + 1 + i by omega]
      exact this
theorem places_of : ∀ {p : Place} {t u : Tr}, pieceAt t p = some u → p ∈ placesT t
  | [], t, u, h => by rw [placesT_eq]; exact List.mem_cons_self
  | i :: p, t, u, h => by
    rw [pieceAt] at h
    cases hk : (kidsT t)[i]? with
    | none => rw [hk] at h; cases h
    | some t' =>
      rw [hk] at h
      rw [placesT_eq]
      have := placesTs_mem (k := 0) hk (places_of h)
      rw [Nat.zero_add] at this
      exact List.mem_cons_of_mem _ this
theorem lkF {fs : List (Str × V)} {f : Str} {v : V} : (putF f v fs).lookup f = some v := by rw [lookup_putF, if_pos rfl]
theorem lkN {fs : List (Str × V)} {f g : Str} {v : V} (h : g ≠ f) : (putF f v fs).lookup g = fs.lookup g := by rw [lookup_putF, if_neg h]
section
variable {P : Program} {w : World} {K : PySem.W.Frag} {mg : Str → Option Value} {base : Heap} {CG CC : Addr}
/-- the book is such as the law makes -/
structure BkOk (bk : Bk) : Prop where
  nd : (bk.trees.map (·.1)).Nodup
  n : bk.trees.length ≤ 10
  ok : ∀ p ∈ bk.trees, Okt p.2
  kn : ∀ p ∈ bk.trees, tagT p.2 = "knot"
/-- an instance with its top -/
def InsTop (CG : Addr) (top : Str) : HR := fun H v => ∃ a dx fs v2, v = .ref a ∧ H a = some (.ins CG dx fs) ∧ (∀ m ∈ GMs, fs.lookup m = none) ∧ fs.lookup ("top" : Str) = some v2 ∧ Is H (.str top) v2
instance {top : Str} : Mono (InsTop CG top) := ⟨fun e ⟨a, dx, fs, v2, h1, h2, h3, h4, h5⟩ => ⟨a, dx, fs, v2, h1, e _ _ h2, h3, h4, Is.mono e.tups _ _ h5⟩⟩
def spIsTop (CG : Addr) : List V → Hp → HR → Prop := fun vs H R => ∃ o v t top, vs = [o, v] ∧ InsTop CG top H o ∧ Is H (encT t) v ∧ htT t < 8 ∧ tagT t ≠ "void" ∧ R = IsV (.bool (decide (nameT t = top) && !hasFoot t))
theorem w_is_top (T : Txt K mg CG CC) : Met P w K mg base 10 CG "is_top" (SpR (spIsTop CG)) := by
  refine met_of T.cG T.d_Ground_is_top sc_Ground_is_top b_Ground_is_top (fun vs H Q E ⟨R, ⟨_, _, _, _, e, _⟩, _⟩ => by rw [e]; rfl) fun f cdv A outer s H vs Q E hr hq => ?_
  have c_has_foot := w_has_foot (P := P) (w := w) (base := base) T 8
  refine ⟨_, (pss_one (ps_ret (pe_and (pe_cmpR op_eq (pe_ix ix_tup (pv 1) pe_int (fun _ _ => rfl)) (pe_fld (pv 0) rfl) (nomark _)) (pe_one (pe_not (pe_mt c_has_foot hr (by omega) (pv 0) (pa_cons (pv 1) pa_nil))))))), ?_⟩
  obtain ⟨R, ⟨o, v, t, top, rfl, ⟨a, dx, fs, v2, rfl, h2, h3, h4, h5⟩, hv, hn, nv, rfl⟩, hQ⟩ := hq
  refine st_ret (gv_andV (gv_eqS (gv_nm (gv_var rfl hv) nv) (gv_val (gv_fld T (by decide) (gv_ref rfl) h2 h4) h5)) fun _ => gv_notV (gv_meth (R := InsG CG) (gv_var rfl ⟨a, dx, fs, rfl, h2, h3⟩) (insG_meth (by decide)) (gi_cons (gv_var rfl hv) gi_nil) fun o vs H1 _ ro ra => ?_)) hQ
  obtain ⟨y, rfl, hy⟩ := one_inv ra
  exact ⟨o, y, t, rfl, ro, hy, hn, rfl⟩
def seatsP (key : Str) (t : Tr) (ps : List Place) : List Seat := ps.flatMap fun p => match pieceAt t p with
  | some (.knot ..) => [⟨key, p, false⟩, ⟨key, p, true⟩]
  | _ => [⟨key, p, true⟩]
def spInit (w : World) (CG : Addr) : Sp := fun vs H Q _ => ∃ g dx vb vr bk row, vs = [.ref g, vb, vr] ∧ H g = some (.ins CG dx []) ∧ Is H (encB bk) vb ∧ Is H (rowD row) vr ∧ BkOk bk ∧
  ∀ H', (∀ a u, H a = some u → a ≠ g → H' a = some u) → Tups H H' → GrV CG w bk row H' (.ref g) → Q .non H'
/-- what is not in H0 stays -/
def Keep (H0 H H' : Hp) : Prop := (∀ b u, H b = some u → H0 b = none → H' b = some u) ∧ Tups H H'
theorem GrpAt.keep {κ : Type} [DecidableEq κ] {enc : κ → PyData} {H0 H H' : Hp} {a : Addr} {m : List (κ × List PyData)} {ps : List (κ × Addr)} (g : GrpAt H0 enc w H a m ps) (k : Keep H0 H H') : GrpAt H0 enc w H' a m ps := by
  obtain ⟨o, ho, _⟩ := g.at_.at_
  exact ⟨g.at_.mono (by rw [ho]; exact k.1 _ _ ho g.new) k.2, g.new, g.nd, paired_imp (fun _ _ ⟨h1, h2, xs, h3, h4⟩ => ⟨h1, h2, xs, k.1 _ _ h3 h2, IsAll.mono k.2 _ _ h4⟩) g.ls⟩
theorem encPr (p : Str × Tr) : PyData.tuple [.str p.1, encT p.2] = (fun p : Str × Tr => PyData.tuple [.str p.1, encT p.2]) p := rfl
theorem st_setF {σ : L2.St} {H : Hp} {ta te : TE} {D : Ends} {g dx : Addr} {fs : List (Str × V)} {f : Str} {R : HR} (T : Txt K mg CG CC) (hf : f ∈ (["top", "signs", "pieces", "called", "seats", "tops"] : List Str)) (he : Gv te σ H R) (hg : Gv ta σ H (EqV (.ref g))) (ha : H g = some (.ins CG dx fs)) (hl : fs.length < 1000) (q : ∀ v H1, Ex H H1 → R H1 v → D.nx σ (upd H1 g (.ins CG dx (putF f v fs)))) (m : Mono R) : sFld K ta te f D σ H :=
  he H (Ex.refl _) _ fun v H1 e1 r1 => hg H1 e1 _ fun x H2 e2 r2 => ⟨g, CG, dx, fs, r2, (e1.trans e2) _ _ ha, T.cG, T.na f hf, hl, q v H2 (e1.trans e2) (m.mo e2 r1)⟩
theorem w_init1 (T : Txt K mg CG CC) : ∀ (f : Addr) (fd : FuncData), FunD K "__init__" "Ground.__init__" (defArgs s_Ground_init) (defBody s_Ground_init) (defScope s_Ground_init) [] [] f fd → FnOk P w K mg base CX0 13 f fd ["self", "book", "row"] (spInit w CG) := by
  intro f fd F
  refine F.ok sc_Ground_init (fun vs H Q E ⟨_, _, _, _, _, _, e, _⟩ => by rw [e]; rfl) fun cdv A outer s H vs Q E hr hq => ?_
  have c_is_graft := w_is_graft (P := P) (w := w) (base := base) T
  have c_name_of := w_name_of (P := P) (w := w) (base := base) T
  have c_places := w_places (P := P) (w := w) (base := base) T 8
  have c_piece_at := w_piece_at (P := P) (w := w) (base := base) T
  have c_name_at := w_name_at (P := P) (w := w) (base := base) T
  have c_is_top := w_is_top (P := P) (w := w) (base := base) T
  refine ⟨_, PSs.nox (pss_cons (ps_fld (pv 0) (pe_ix ix_tup (pv 1) pe_int (fun _ _ => rfl)) rfl)
    (pss_cons (ps_fld (pv 0) (pv 2) rfl)
    (pss_cons (ps_fld (pv 0) pe_dnew rfl)
    (pss_cons (ps_fld (pv 0) pe_dnew rfl)
    (pss_cons (ps_fld (pv 0) (pe_lst pa_nil) rfl)
    (pss_cons (ps_set (i := 3) sc_Ground_init.nd rfl (Or.inl rfl) pe_dnew)
    (pss_cons (ps_for PassesOwn.never rfl (pi_tup (pe_ix ix_tup (pv 1) pe_int (fun _ _ => rfl))) (pg_tup rfl (pgs_cons (pg_name (i := 4) sc_Ground_init.nd rfl (Or.inl rfl)) (pgs_cons (pg_name (i := 5) sc_Ground_init.nd rfl (Or.inl rfl)) pgs_nil)))
      (pss_one (ps_expr (pe_bm PySem.F.plainAttrs_list PySem.F.slot_list_append PySem.F.type_list_append mt_append (pe_dsetdefR hr.units (pv 3) (pe_tupP (pa_cons (pe_c c_is_graft hr (by omega) rfl (pa_cons (pv 5) pa_nil)) (pa_cons (pe_c c_name_of hr (by omega) rfl (pa_cons (pv 5) pa_nil)) pa_nil))) (pe_lst pa_nil) (by constructor <;> rfl)) (pa_cons (pv 4) pa_nil)))))
    (pss_cons (ps_for PassesOwn.never rfl (pi_tup (pe_ix ix_tup (pv 1) pe_int (fun _ _ => rfl))) (pg_tup rfl (pgs_cons (pg_name (i := 4) sc_Ground_init.nd rfl (Or.inl rfl)) (pgs_cons (pg_name (i := 5) sc_Ground_init.nd rfl (Or.inl rfl)) pgs_nil)))
      (pss_one (ps_for PassesOwn.never rfl (pi_reversed (by rfl) (T.fr "reversed" (by decide)) (pa_cons (pe_c c_places hr (by omega) rfl (pa_cons (pv 5) pa_nil)) pa_nil)) (pg_name (i := 6) sc_Ground_init.nd rfl (Or.inl rfl))
        (pss_cons (ps_set (i := 7) sc_Ground_init.nd rfl (Or.inl rfl) (pe_c c_piece_at hr (by omega) rfl (pa_cons (pv 5) (pa_cons (pv 6) pa_nil))))
        (pss_cons (ps_asg (pv 7) (pg_sub (pe_fld (pv 0) rfl) (pe_tupP (pa_cons (pv 4) (pa_cons (pv 6) pa_nil))) (set_ndR hr.units)))
        (pss_cons (ps_asg (pe_dgetOr hr.units (pv 3) (pe_c c_name_at hr (by omega) rfl (pa_cons (pv 7) pa_nil)) (pe_lst pa_nil) (by constructor <;> rfl)) (pg_sub (pe_fld (pv 0) rfl) (pe_tupP (pa_cons (pv 4) (pa_cons (pv 6) pa_nil))) (set_ndR hr.units)))
        (pss_cons (ps_if (pt_cmpR op_eq (pe_ix ix_tup (pv 7) pe_int (fun _ _ => rfl)) pe_str (nomark _))
          (pss_one (ps_expr (pe_bm PySem.F.plainAttrs_list PySem.F.slot_list_append PySem.F.type_list_append mt_append (pe_fld (pv 0) rfl) (pa_cons (pe_tupP (pa_cons (pv 4) (pa_cons (pv 6) (pa_cons pe_bl pa_nil)))) pa_nil))))
          pss_nil)
        (pss_one (ps_expr (pe_bm PySem.F.plainAttrs_list PySem.F.slot_list_append PySem.F.type_list_append mt_append (pe_fld (pv 0) rfl) (pa_cons (pe_tupP (pa_cons (pv 4) (pa_cons (pv 6) (pa_cons pe_bl pa_nil)))) pa_nil)))))))))))
    (pss_one (ps_fld (pv 0) (pe_lc rfl sc_Ground_init.nd (pi_tup (pe_ix ix_tup (pv 1) pe_int (fun _ _ => rfl))) (blkOk_by (own := [("key", 4), ("tree", 5)]) (N := N_Ground_init) (sc := defScope s_Ground_init) (by decide +kernel)) (fun _ _ _ _ _ => (show PG _ _ (gTup K 2 _) from pg_tup rfl (pgs_cons (pg_name (i := 4) sc_Ground_init.nd rfl (Or.inl rfl)) (pgs_cons (pg_name (i := 5) sc_Ground_init.nd rfl (Or.inl rfl)) pgs_nil)))) (fun _ _ _ _ _ => (pts_one (pt_val (pe_mt c_is_top hr (by omega) (pv 0) (pa_cons (pv 5) pa_nil))))) (fun _ _ _ _ _ => (pv 4))) rfl)))))))))), ?_⟩
  obtain ⟨g, dx, vb, vr, bk, row, rfl, hg, hb, hrow, ok, hQ⟩ := hq
  have eB : encB bk = .tuple [.str bk.top, .tuple (bk.trees.map fun p => .tuple [.str p.1, encT p.2])] := rfl
  have mstep : ∀ {H0 H1 : Hp} {fs fs' : List (Str × V)}, Mod [g] H H0 → Ex H0 H1 → H0 g = some (.ins CG dx fs) → Mod [g] H (upd H1 g (.ins CG dx fs')) := fun m e h => (m.trans e.mod).updM (by simp) (by rw [e _ _ h]; trivial)
  refine st_setF T (by decide) (gv_ixT (gv_is (gv_var rfl hb) eB) gv_int rfl) (gv_ref rfl) hg (by decide) (fun v1 Ha e1 r1 => ?_) inferInstance
  have m1 := mstep (fs' := putF "top" v1 []) (Mod.refl _ H) e1 hg
  have h1g : upd Ha g (.ins CG dx (putF "top" v1 [])) g = _ := upd_same
  have r1' := Is.mono (Tups.mut (a := g) (o := .ins CG dx (putF "top" v1 [])) (H := Ha) (by rw [e1 _ _ hg]; trivial)) _ _ r1
  have l1 : (putF "top" v1 []).length ≤ 1 := putF_len _ _ _
  generalize upd Ha g (.ins CG dx (putF "top" v1 [])) = H1 at m1 h1g r1'
  dsimp only
  refine sq (st_setF (R := EqV vr) T (by decide) (gv_ref rfl) (gv_ref rfl) h1g (by omega) (fun v2 Hb e2 r2 => ?_) inferInstance)
  rw [show v2 = vr from r2]
  clear r2 v2
  have m2 := mstep (fs' := putF "signs" vr (putF "top" v1 [])) m1 e2 h1g
  have h2g : upd Hb g (.ins CG dx (putF "signs" vr (putF "top" v1 []))) g = _ := upd_same
  have t12 : Tups H1 (upd Hb g (.ins CG dx (putF "signs" vr (putF "top" v1 [])))) := e2.tups.trans (Tups.mut (by rw [e2 _ _ h1g]; trivial))
  have r2' := Is.mono t12 _ _ r1'
  have l2 : (putF "signs" vr (putF "top" v1 [])).length ≤ 2 := Nat.le_trans (putF_len _ _ _) (by omega)
  generalize upd Hb g (.ins CG dx (putF "signs" vr (putF "top" v1 []))) = H2 at m2 h2g r2' t12
  dsimp only
  refine sq (st_setF (R := NewT encKP w H2) T (by decide) gv_newT' (gv_ref rfl) h2g (by omega) (fun v3 Hc e3 r3 => ?_) inferInstance)
  obtain ⟨pa, rfl, npa, dpa⟩ := r3
  have m3 := mstep (fs' := putF "pieces" (.ref pa) (putF "signs" vr (putF "top" v1 []))) m2 e3 h2g
  have h3g : upd Hc g (.ins CG dx (putF "pieces" (.ref pa) (putF "signs" vr (putF "top" v1 [])))) g = _ := upd_same
  have t23 : Tups H2 (upd Hc g (.ins CG dx (putF "pieces" (.ref pa) (putF "signs" vr (putF "top" v1 []))))) := e3.tups.trans (Tups.mut (by rw [e3 _ _ h2g]; trivial))
  have npag : pa ≠ g := Ne.symm (ne_at h2g npa)
  have d3 := dpa.mono (upd_ne (o := .ins CG dx (putF "pieces" (.ref pa) (putF "signs" vr (putF "top" v1 [])))) npag) (Tups.mut (by rw [e3 _ _ h2g]; trivial))
  have l3 : (putF "pieces" (.ref pa) (putF "signs" vr (putF "top" v1 []))).length ≤ 3 := Nat.le_trans (putF_len _ _ _) (by omega)
  generalize upd Hc g (.ins CG dx (putF "pieces" (.ref pa) (putF "signs" vr (putF "top" v1 [])))) = H3 at m3 h3g t23 d3
  dsimp only
  refine sq (st_setF (R := NewT encKP w H3) T (by decide) gv_newT' (gv_ref rfl) h3g (by omega) (fun v4 Hd e4 r4 => ?_) inferInstance)
  obtain ⟨ca, rfl, nca, dca⟩ := r4
  have m4 := mstep (fs' := putF "called" (.ref ca) (putF "pieces" (.ref pa) (putF "signs" vr (putF "top" v1 [])))) m3 e4 h3g
  have h4g : upd Hd g (.ins CG dx (putF "called" (.ref ca) (putF "pieces" (.ref pa) (putF "signs" vr (putF "top" v1 []))))) g = _ := upd_same
  have tm4 : Tups Hd (upd Hd g (.ins CG dx (putF "called" (.ref ca) (putF "pieces" (.ref pa) (putF "signs" vr (putF "top" v1 [])))))) := Tups.mut (by rw [e4 _ _ h3g]; trivial)
  have t34 := e4.tups.trans tm4
  have ncag : ca ≠ g := Ne.symm (ne_at h3g nca)
  have npc : pa ≠ ca := by
    obtain ⟨o, ho, _⟩ := d3.at_
    exact ne_at ho nca
  have d4c := dca.mono (upd_ne (o := .ins CG dx (putF "called" (.ref ca) (putF "pieces" (.ref pa) (putF "signs" vr (putF "top" v1 []))))) ncag) tm4
  have d4p := (d3.ex e4).mono (upd_ne (o := .ins CG dx (putF "called" (.ref ca) (putF "pieces" (.ref pa) (putF "signs" vr (putF "top" v1 []))))) npag) tm4
  have l4 : (putF "called" (.ref ca) (putF "pieces" (.ref pa) (putF "signs" vr (putF "top" v1 [])))).length ≤ 4 := Nat.le_trans (putF_len _ _ _) (by omega)
  generalize upd Hd g (.ins CG dx (putF "called" (.ref ca) (putF "pieces" (.ref pa) (putF "signs" vr (putF "top" v1 []))))) = H4 at m4 h4g t34 d4c d4p tm4
  dsimp only
  refine sq (st_setF (R := FrV H4 []) T (by decide) (gv_lstF gi_nil (Nat.zero_le _)) (gv_ref rfl) h4g (by omega) (fun v5 He e5 r5 => ?_) inferInstance)
  obtain ⟨sa, ys0, rfl, nsa, hsa, al5⟩ := r5
  have ey : ys0 = [] := by cases al5; rfl
  subst ey
  have m5 := mstep (fs' := putF "seats" (.ref sa) (putF "called" (.ref ca) (putF "pieces" (.ref pa) (putF "signs" vr (putF "top" v1 []))))) m4 e5 h4g
  have nsg : sa ≠ g := Ne.symm (ne_at h4g nsa)
  have h5g : upd He g (.ins CG dx (putF "seats" (.ref sa) (putF "called" (.ref ca) (putF "pieces" (.ref pa) (putF "signs" vr (putF "top" v1 [])))))) g = _ := upd_same
  have h5s : upd He g (.ins CG dx (putF "seats" (.ref sa) (putF "called" (.ref ca) (putF "pieces" (.ref pa) (putF "signs" vr (putF "top" v1 [])))))) sa = some (.lst []) := by rw [upd_ne nsg]; exact hsa
  have tm5 : Tups He (upd He g (.ins CG dx (putF "seats" (.ref sa) (putF "called" (.ref ca) (putF "pieces" (.ref pa) (putF "signs" vr (putF "top" v1 []))))))) := Tups.mut (by rw [e5 _ _ h4g]; trivial)
  have t45 := e5.tups.trans tm5
  have d5p := (d4p.ex e5).mono (upd_ne (o := .ins CG dx (putF "seats" (.ref sa) (putF "called" (.ref ca) (putF "pieces" (.ref pa) (putF "signs" vr (putF "top" v1 [])))))) npag) tm5
  have d5c := (d4c.ex e5).mono (upd_ne (o := .ins CG dx (putF "seats" (.ref sa) (putF "called" (.ref ca) (putF "pieces" (.ref pa) (putF "signs" vr (putF "top" v1 [])))))) ncag) tm5
  have nps : pa ≠ sa := by
    obtain ⟨o, ho, _⟩ := d4p.at_
    exact ne_at ho nsa
  have ncs : ca ≠ sa := by
    obtain ⟨o, ho, _⟩ := d4c.at_
    exact ne_at ho nsa
  have l5 : (putF "seats" (.ref sa) (putF "called" (.ref ca) (putF "pieces" (.ref pa) (putF "signs" vr (putF "top" v1 []))))).length ≤ 5 := Nat.le_trans (putF_len _ _ _) (by omega)
  -- what is looked up
  have k1 : (putF "seats" (.ref sa) (putF "called" (.ref ca) (putF "pieces" (.ref pa) (putF "signs" vr (putF "top" v1 []))))).lookup ("top" : Str) = some v1 := by rw [lkN (by decide), lkN (by decide), lkN (by decide), lkN (by decide), lkF]
  have k2 : (putF "seats" (.ref sa) (putF "called" (.ref ca) (putF "pieces" (.ref pa) (putF "signs" vr (putF "top" v1 []))))).lookup ("signs" : Str) = some vr := by rw [lkN (by decide), lkN (by decide), lkN (by decide), lkF]
  have k3 : (putF "seats" (.ref sa) (putF "called" (.ref ca) (putF "pieces" (.ref pa) (putF "signs" vr (putF "top" v1 []))))).lookup ("pieces" : Str) = some (.ref pa) := by rw [lkN (by decide), lkN (by decide), lkF]
  have k4 : (putF "seats" (.ref sa) (putF "called" (.ref ca) (putF "pieces" (.ref pa) (putF "signs" vr (putF "top" v1 []))))).lookup ("called" : Str) = some (.ref ca) := by rw [lkN (by decide), lkF]
  have k5 : (putF "seats" (.ref sa) (putF "called" (.ref ca) (putF "pieces" (.ref pa) (putF "signs" vr (putF "top" v1 []))))).lookup ("seats" : Str) = some (.ref sa) := lkF
  have k0 : ∀ m ∈ GMs, (putF "seats" (.ref sa) (putF "called" (.ref ca) (putF "pieces" (.ref pa) (putF "signs" vr (putF "top" v1 []))))).lookup m = none := fun m hm => by
    have h : ∀ m ∈ GMs, m ≠ "seats" ∧ m ≠ "called" ∧ m ≠ "pieces" ∧ m ≠ "signs" ∧ m ≠ "top" := by decide
    obtain ⟨a1, a2, a3, a4, a5⟩ := h m hm
    rw [lkN a1, lkN a2, lkN a3, lkN a4, lkN a5]
    rfl
  have q1 : ∀ a u, H a = some u → a ≠ g → a ≠ pa := fun a u h n => ne_at (m2.1 a u h (by simpa using n)) npa
  have q2 : ∀ a u, H a = some u → a ≠ g → a ≠ ca := fun a u h n => ne_at (m3.1 a u h (by simpa using n)) nca
  have q3 : ∀ a u, H a = some u → a ≠ g → a ≠ sa := fun a u h n => ne_at (m4.1 a u h (by simpa using n)) nsa
  have r5' := Is.mono ((t12.trans t23).trans (t34.trans t45)) _ _ r1'
  clear r1 r2' t12 t23 t34 t45 tm4 tm5 h1g h2g h3g h4g m1 m2 m3 m4 l1 l2 l3 l4 d3 d4c d4p e1 e2 e3 e4 dpa dca hsa al5 e5
  generalize upd He g (.ins CG dx (putF "seats" (.ref sa) (putF "called" (.ref ca) (putF "pieces" (.ref pa) (putF "signs" vr (putF "top" v1 [])))))) = H5 at *
  generalize putF "seats" (.ref sa) (putF "called" (.ref ca) (putF "pieces" (.ref pa) (putF "signs" vr (putF "top" v1 [])))) = fs at *
  dsimp only
  refine sq (st_newT (enc := encNK) fun nm ob nnm dnm => ?_)
  have x6 := Ex.new (o := ob) nnm
  generalize upd H5 nm ob = H6 at dnm x6
  dsimp only
  -- the book
  have hb6 : Is H6 (encB bk) vb := Is.mono x6.tups _ _ (Is.mono m5.2 _ _ hb)
  have gtrees : ∀ (σ' : L2.St) (H' : Hp), σ'[1]? = some (some vb) → Tups H6 H' → Gv (tOp (rIxT K) (tVar 1) (tC (.int 1))) σ' H' (IsV (.tuple (bk.trees.map fun p => .tuple [.str p.1, encT p.2]))) := fun σ' H' h t => gv_ixT (gv_is (gv_var h (Is.mono t _ _ hb6)) eB) gv_int rfl
  refine sq (st_forT (l := bk.trees) (f := fun p => .tuple [.str p.1, encT p.2]) (gtrees _ _ rfl (Tups.refl _)) fun H7 e7 => ?_)
  refine ⟨fun pre σ' H' => (∃ c1 c2 c3 c4, σ' = [some (.ref g), some vb, some vr, some (.ref nm), c1, c2, c3, c4]) ∧ Ex H5 H' ∧ Tups H7 H' ∧ ∃ ps, GrpAt H5 encNK w H' nm (grpOf (pre.map fun p => (namK p.2, PyData.str p.1))) ps, ⟨⟨_, _, _, _, rfl⟩, x6.trans e7, Tups.refl _, [], ⟨dnm.ex e7, nnm, List.nodup_nil, .nil⟩⟩, fun _ _ _ h => h.2.2.1, ?_, ?_⟩
  · rintro pre d post x σ' H' el ⟨⟨c1, c2, c3, c4, rfl⟩, z1, z2, ps, gr⟩ hx
    have hd : d ∈ bk.trees := by rw [el]; simp
    obtain ⟨ax, xx, rfl, px, ix⟩ := hx.tup_inv
    obtain ⟨vk, vt, rfl, hk, ht⟩ := two_inv ix
    have lpre : pre.length < 10 := by
      have := congrArg List.length el
      have := ok.n
      simp at *
      omega
    refine gtup2 px.sq ?_
    refine st_grp (enc := encNK) (k := namK d.2) (d := .str d.1) keyNK (gv_ref rfl) (gv_is (gv_tup (gi_cons (gv_call (R := IsV (.bool (isGraft d.2))) (gi_cons (gv_var rfl ht) gi_nil) fun vs H1 _ ha => ⟨d.2, ha, ok.ok d hd, rfl⟩) (gi_cons (gv_call (R := IsV (.str (nameOf d.2))) (gi_cons (gv_var rfl ht) gi_nil) fun vs H1 _ ha => ⟨d.2, ha, ok.ok d hd, not_void (ok.kn d hd), rfl⟩) gi_nil))) rfl) rfl hk z1 gr ?_ ?_ fun H2 ps' z3 z4 g2 => ?_
    · have := grpOf_length (pre.map fun p => (namK p.2, PyData.str p.1))
      rw [List.length_map] at this
      omega
    · rw [grpOf_get, List.length_map]
      have := List.length_filter_le (fun x : NK1 × PyData => decide (x.1 = namK d.2)) (pre.map fun p => (namK p.2, PyData.str p.1))
      rw [List.length_map] at this
      omega
    · refine ⟨⟨_, _, _, _, rfl⟩, z3, z2.trans z4, ps', ?_⟩
      rw [List.map_append, show List.map (fun p : Str × Tr => (namK p.2, PyData.str p.1)) [d] = [(namK d.2, PyData.str d.1)] from rfl, grpOf_snoc]
      exact g2
  · rintro σ' Hs ⟨⟨c1, c2, c3, c4, rfl⟩, z1, z2, ps, gr⟩
    dsimp only
    have t6s : Tups H6 Hs := e7.tups.trans z2
    have hsg := z1 _ _ h5g
    have called_eq : ∀ u : Tr, (getA (grpOf (bk.trees.map fun p => (namK p.2, PyData.str p.1))) (atK u)).getD [] = dStrs (calledOf bk u) := fun u => by
      rw [grpOf_get, List.filter_map, List.map_map]
      unfold calledOf dStrs
      rw [List.map_map]
      rfl
    have mut3 : ∀ b, b ∈ [pa, ca, sa] → H5 b ≠ none := by
      intro b hb
      obtain ⟨o1, h1, _⟩ := d5p.at_
      obtain ⟨o2, h2, _⟩ := d5c.at_
      simp only [List.mem_cons, List.mem_singleton, List.not_mem_nil, or_false] at hb
      rcases hb with rfl | rfl | rfl
      · rw [h1]; simp
      · rw [h2]; simp
      · rw [h5s]; simp
    -- what holds in the second loop
    let InvB : List KP → List Seat → Hp → Prop := fun done sts H' => Mod [pa, ca, sa] Hs H' ∧ (∀ b, H' b = none → Hs b = none) ∧
      (∃ pl, TAtR encKP (fun t => IsV (encT t)) w H' pa pl ∧ pl.length ≤ done.length ∧ ∀ p ∈ done, ∀ u, pieceOf bk p = some u → getA pl p = some u) ∧
      (∃ cl, TAtR encKP (fun l => FrV H5 (dStrs l)) w H' ca cl ∧ cl.length ≤ done.length ∧ ∀ p ∈ done, ∀ u, pieceOf bk p = some u → getA cl p = some (calledOf bk u)) ∧
      ∃ ys, H' sa = some (.lst ys) ∧ IsAll H' (sts.map encSeat) ys
    have invG : ∀ {done sts H'}, InvB done sts H' → H' g = some (.ins CG dx fs) := fun h => h.1.1 _ _ hsg (by simp [Ne.symm npag, Ne.symm ncag, Ne.symm nsg])
    have invN : ∀ {done sts H'}, InvB done sts H' → GrpAt H5 encNK w H' nm (grpOf (bk.trees.map fun p => (namK p.2, PyData.str p.1))) ps := fun h => gr.keep ⟨fun b u hb h0 => h.1.1 b u hb fun hm => mut3 b hm h0, h.1.2⟩
    have invE : ∀ {done sts H' H''}, InvB done sts H' → Ex H' H'' → InvB done sts H'' := by
      rintro done sts H' H'' ⟨a1, a2, ⟨pl, a3, a4, a5⟩, ⟨cl, b3, b4, b5⟩, ys, c3, c4⟩ e
      exact ⟨a1.trans e.mod, fun b h => a2 b (fresh_back e h), ⟨pl, a3.ex (fun _ => inferInstance) e, a4, a5⟩, ⟨cl, b3.ex (fun _ => inferInstance) e, b4, b5⟩, ys, e _ _ c3, IsAll.mono e.tups _ _ c4⟩
    have inv0 : InvB [] [] Hs := ⟨Mod.refl _ _, fun _ h => h, ⟨[], ⟨[], d5p.ex z1, .nil⟩, Nat.le_refl _, fun p hp => by cases hp⟩, ⟨[], ⟨[], d5c.ex z1, .nil⟩, Nat.le_refl _, fun p hp => by cases hp⟩, [], z1 _ _ h5s, .nil⟩
    have lenOk : ∀ {pre post : List (Str × Tr)}, bk.trees = pre ++ post → (pre.flatMap fun x => (placesT x.2).reverse.map fun p => (x.1, p)).length ≤ 1000 := fun {pre post} el => by
      have h1 : (pre.flatMap fun x => (placesT x.2).reverse.map fun p => (x.1, p)).length ≤ pre.length * 100 := flat_len (l := pre) fun x hx => by
        rw [List.length_map, List.length_reverse, placesT_len]
        exact (ok.ok x (by rw [el]; exact List.mem_append_left _ hx)).2
      have h2 := congrArg List.length el
      have := ok.n
      rw [List.length_append] at h2
      omega
    have seatsP_len : ∀ k t ps, (seatsP k t ps).length ≤ 2 * ps.length := fun k t ps => by
      unfold seatsP
      have := flat_len (l := ps) (pre := ps) (n := 2) (f := fun p => match pieceAt t p with | some (.knot ..) => [(⟨k, p, false⟩ : Seat), ⟨k, p, true⟩] | _ => [⟨k, p, true⟩]) fun x _ => by split <;> simp
      omega
    refine sq (st_forT (l := bk.trees) (f := fun p => .tuple [.str p.1, encT p.2]) (gtrees _ _ rfl t6s) fun H8 e8 => ?_)
    refine ⟨fun pre σ' H' => (∃ c1 c2 c3 c4, σ' = [some (.ref g), some vb, some vr, some (.ref nm), c1, c2, c3, c4]) ∧ Tups H8 H' ∧ InvB (pre.flatMap fun x => (placesT x.2).reverse.map fun p => (x.1, p)) (pre.flatMap fun x => seatsT x.1 x.2) H', ⟨⟨_, _, _, _, rfl⟩, Tups.refl _, invE inv0 e8⟩, fun _ _ _ h => h.2.1, ?_, ?_⟩
    · rintro pre ⟨k, t⟩ post x σ' H' el ⟨⟨c1, c2, c3, c4, rfl⟩, y2, iv⟩ hx
      have hd : (k, t) ∈ bk.trees := by rw [el]; simp
      obtain ⟨ax, xx, rfl, px, ix⟩ := hx.tup_inv
      obtain ⟨vk, vt, rfl, hk, ht⟩ := two_inv ix
      have okt := ok.ok _ hd
      have okt2 : szT t ≤ 100 := okt.2
      have lpre := lenOk el
      have lpre2 : (pre.flatMap fun x => seatsT x.1 x.2).length ≤ 2000 := by
        have h1 : (pre.flatMap fun x => seatsT x.1 x.2).length ≤ pre.length * 200 := flat_len (l := pre) fun x hx => by
          have h3 := seatsP_len x.1 x.2 (placesT x.2).reverse
          rw [List.length_reverse, placesT_len] at h3
          have h4 := (ok.ok x (by rw [el]; exact List.mem_append_left _ hx)).2
          show (seatsP x.1 x.2 (placesT x.2).reverse).length ≤ 200
          omega
        have h2 := congrArg List.length el
        have := ok.n
        simp only [List.length_append, List.length_cons] at h2
        omega
      have pcOf : ∀ p, pieceOf bk (k, p) = pieceAt t p := fun p => by
        unfold pieceOf
        rw [getA_of_mem ok.nd hd]
        rfl
      refine gtup2 px.sq ?_
      refine st_forVF (l := placesT t) (f := encP) (gv_callF (gi_cons (gv_var rfl ht) gi_nil) fun vs H1 _ ha => ⟨t, ha, okt.1, by omega, rfl⟩) fun p xs H9 np e9 hxs => ?_
      have hnp : ∀ b, b ∈ [pa, ca, sa] → p ≠ b := fun b hb z => by
        have h1 := mut3 b hb
        rw [← z] at h1
        exact h1 (by
          have h2 := iv.2.1 p np
          cases h3 : H5 p with
          | none => rfl
          | some u => rw [z1 _ _ h3] at h2; cases h2)
      have hxt : ∀ {H'}, Tups H9 H' → Is H' (encT t) vt := fun tt => Is.mono tt _ _ (Is.mono e9.tups _ _ ht)
      have hxk : ∀ {H'}, Tups H9 H' → Is H' (.str k) vk := fun tt => Is.mono tt _ _ (Is.mono e9.tups _ _ hk)
      -- one seat more
      have app : ∀ (D : Ends) (c : Option V) (H' : Hp) (done : List KP) (sts : List Seat) (b : Bool) (pl : Place) (vp : V), InvB done sts H' → Tups H9 H' → Is H' (encP pl) vp → sts.length ≤ 10000 →
          (∀ H'', Tups H' H'' → (∀ a u, H' a = some u → a ≠ sa → H'' a = some u) → InvB done (sts ++ [⟨k, pl, b⟩]) H'' → D.nx [some (.ref g), some vb, some vr, some (.ref nm), some vk, some vt, some vp, c] H'') →
          tDrop (tBM K "list" rAppend (tFld K (tVar 0) "seats") (tCons (tTupP (tCons (tVar 4) (tCons (tVar 6) (tCons (tC (.bl b)) tNil)))) tNil)) D [some (.ref g), some vb, some vr, some (.ref nm), some vk, some vt, some vp, c] H' := by
        intro D c H' done sts b pl vp iv' tt hp hl q
        obtain ⟨a1, a2, ⟨pl', a3, a4, a5⟩, ⟨cl, b3, b4, b5⟩, ys, c3, c4⟩ := id iv'
        refine st_app (R := IsV (encSeat ⟨k, pl, b⟩)) c3 (ev_of (gv_fld T (by decide) (gv_ref rfl) (invG iv') k5)) (gv_tup (gi_cons (gv_var rfl (hxk tt)) (gi_cons (gv_var rfl hp) (gi_cons gv_bl gi_nil)))) ?_ fun z H2 e2 r2 => ?_
        · rw [c4.length, List.length_map]
          show _ < 16777216
          omega
        · have c3' := e2 _ _ c3
          have t2 : Tups H2 (upd H2 sa (.lst (ys ++ [z]))) := Tups.mut (mut_at c3')
          refine q _ (e2.tups.trans t2) (fun a u h n => by rw [upd_ne n]; exact e2 _ _ h) ⟨?_, ?_, ⟨pl', ?_, a4, a5⟩, ⟨cl, ?_, b4, b5⟩, _, upd_same, ?_⟩
          · exact (a1.trans e2.mod).updM (by simp) (mut_at c3')
          · intro b' hb'
            by_cases z' : b' = sa
            · rw [z', upd_same] at hb'; cases hb'
            · rw [upd_ne z'] at hb'
              exact a2 _ (fresh_back e2 hb')
          · exact (a3.ex (fun _ => inferInstance) e2).tr (fun b' v r => Is.mono t2 _ _ r) (upd_ne nps) t2
          · refine (b3.ex (fun _ => inferInstance) e2).tr (fun b' v r => ?_) (upd_ne ncs) t2
            obtain ⟨p1, xs1, e, n, h1, h2⟩ := r
            have : p1 ≠ sa := fun z => by rw [z, h5s] at n; cases n
            exact ⟨p1, xs1, e, n, by rw [upd_ne this]; exact h1, IsAll.mono t2 _ _ h2⟩
          · rw [List.map_append]
            exact (IsAll.mono t2 _ _ (IsAll.mono e2.tups _ _ c4)).append (.cons (Is.mono t2 _ _ r2) .nil)
      have snocP : ∀ (l : List Place) (x : Place), seatsP k t (l ++ [x]) = seatsP k t l ++ seatsP k t [x] := fun l x => by unfold seatsP; rw [List.flatMap_append]
      refine ⟨fun pre2 σ' H' => (∃ c3 c4, σ' = [some (.ref g), some vb, some vr, some (.ref nm), some vk, some vt, c3, c4]) ∧ Tups H9 H' ∧ H' p = some (.lst xs) ∧ InvB ((pre.flatMap fun x => (placesT x.2).reverse.map fun p => (x.1, p)) ++ pre2.map fun p => (k, p)) ((pre.flatMap fun x => seatsT x.1 x.2) ++ seatsP k t pre2) H', ⟨⟨_, _, rfl⟩, Tups.refl _, hxs, by simpa [seatsP] using invE iv e9⟩, fun _ _ _ h => ⟨h.2.1, h.2.2.1⟩, ?_, ?_⟩
      · rintro pre2 d2 post2 y σ2 H10 el2 ⟨⟨c3, c4, rfl⟩, u1, u2, iv2⟩ hy
        have hd2 : d2 ∈ placesT t := by
          have : d2 ∈ (placesT t).reverse := by rw [el2]; simp
          simpa using this
        have lp2 : pre2.length < 100 := by
          have := congrArg List.length el2
          rw [List.length_reverse, placesT_len] at this
          simp at this
          omega
        obtain ⟨u, hu, _⟩ := pieceAt_places hd2
        have hu' : pieceOf bk (k, d2) = some u := by rw [pcOf]; exact hu
        refine sq (st_asg (R := IsV (encT u)) (gv_call (gi_cons (gv_var rfl (hxt u1)) (gi_cons (gv_var rfl hy) gi_nil)) fun vs H1 _ ha => ⟨t, d2, u, ha, hu, rfl⟩) fun v7 H11 e11 r11 => ?_)
        dsimp only
        have iv3 := invE iv2 e11
        have u3 := u1.trans e11.tups
        have hy3 := Is.mono e11.tups _ _ hy
        obtain ⟨a1, a2, ⟨pl, a3, a4, a5⟩, ⟨cl, b3, b4, b5⟩, ys, c3', c4'⟩ := id iv3
        simp only [List.length_append, List.length_map] at a4 b4
        refine sq (st_setR (k := (k, d2)) (b := u) keyKP (fun _ => inferInstance) trd_is (gv_var rfl r11) (gv_fld T (by decide) (gv_ref rfl) (invG iv3) k3) (gv_kp (gv_var rfl (hxk u3)) (gv_var rfl hy3)) a3 (by omega) fun H12 ob12 e12 d12 t12 => ?_)
        dsimp only
        have expa : ∃ x, H12 pa = some (.ext x) := by
          obtain ⟨vl, dd, _⟩ := a3.ex (fun _ => inferInstance) e12
          exact TAt.ext dd
        have mpa : Mut (H12 pa) := by obtain ⟨x, hx⟩ := expa; rw [hx]; trivial
        have b3' : TAtR encKP (fun l => FrV H5 (dStrs l)) w (upd H12 pa ob12) ca cl := (b3.ex (fun _ => inferInstance) e12).tr (fun b v r => trd_fr (f := dStrs) b v _ _ _ r expa t12) (upd_ne (Ne.symm npc)) t12
        have m12 : Mod [pa, ca, sa] Hs (upd H12 pa ob12) := (a1.trans e12.mod).updM (by simp) mpa
        have dom12 : ∀ b, upd H12 pa ob12 b = none → Hs b = none := fun b hb => by
          by_cases z : b = pa
          · rw [z, upd_same] at hb; cases hb
          · rw [upd_ne z] at hb
            exact a2 _ (fresh_back e12 hb)
        have u4 := (u3.trans e12.tups).trans t12
        have g12 : upd H12 pa ob12 g = some (.ins CG dx fs) := by rw [upd_ne (Ne.symm npag)]; exact e12 _ _ (invG iv3)
        have gr12 : GrpAt H5 encNK w (upd H12 pa ob12) nm (grpOf (bk.trees.map fun p => (namK p.2, PyData.str p.1))) ps := gr.keep ⟨fun b u hb h0 => m12.1 b u hb fun hm => mut3 b hm h0, m12.2⟩
        refine sq (st_setR (RV := fun l => FrV H5 (dStrs l)) (k := (k, d2)) (b := calledOf bk u) keyKP (fun _ => inferInstance) trd_fr ?_ (gv_fld T (by decide) (gv_ref rfl) g12 k4) (gv_kp (gv_var rfl (hxk u4)) (gv_var rfl (Is.mono (e12.tups.trans t12) _ _ hy3))) b3' (by omega) fun H13 ob13 e13 d13 t13 => ?_)
        · rw [← called_eq]
          exact gv_grpF keyNK (gv_ref rfl) (gv_is (gv_call (R := IsV (nameAt u)) (gi_cons (gv_var rfl (Is.mono (e12.tups.trans t12) _ _ r11)) gi_nil) fun vs H1 _ ha => ⟨u, ha, rfl⟩) (encNK_at u).symm) gr12 (fun b hb => by
            have := dom12 b hb
            cases h3 : H5 b with
            | none => rfl
            | some u => rw [z1 _ _ h3] at this; cases this)
        dsimp only
        have exca : ∃ x, H13 ca = some (.ext x) := by
          obtain ⟨vl, dd, _⟩ := b3'.ex (fun _ => inferInstance) e13
          exact TAt.ext dd
        have mca : Mut (H13 ca) := by obtain ⟨x, hx⟩ := exca; rw [hx]; trivial
        have t1013 : Tups H11 (upd H13 ca ob13) := (e12.tups.trans t12).trans (e13.tups.trans t13)
        have iv4 : InvB ((pre.flatMap fun x => (placesT x.2).reverse.map fun p => (x.1, p)) ++ (pre2 ++ [d2]).map fun p => (k, p)) ((pre.flatMap fun x => seatsT x.1 x.2) ++ seatsP k t pre2) (upd H13 ca ob13) := by
          refine ⟨(m12.trans e13.mod).updM (by simp) mca, fun b hb => ?_, ⟨_, (d12.ex (fun _ => inferInstance) e13).tr (fun b v r => Is.mono t13 _ _ r) (upd_ne npc) t13, ?_, fun p' hp' u' hu'' => ?_⟩, ⟨_, d13, ?_, fun p' hp' u' hu'' => ?_⟩, ys, ?_, IsAll.mono t1013 _ _ c4'⟩
          · by_cases z : b = ca
            · rw [z, upd_same] at hb; cases hb
            · rw [upd_ne z] at hb
              exact dom12 _ (fresh_back e13 hb)
          · have := putA_length pl (k, d2) u
            simp only [List.length_append, List.length_map, List.length_cons, List.length_nil]
            omega
          · rw [getA_put]
            by_cases z : p' = (k, d2)
            · rw [if_pos z]
              rw [z, hu'] at hu''
              exact hu''
            · rw [if_neg z]
              refine a5 p' ?_ u' hu''
              rw [List.map_append, ← List.append_assoc] at hp'
              rcases List.mem_append.mp hp' with h | h
              · exact h
              · exact absurd (by simpa using h) z
          · have := putA_length cl (k, d2) (calledOf bk u)
            simp only [List.length_append, List.length_map, List.length_cons, List.length_nil]
            omega
          · rw [getA_put]
            by_cases z : p' = (k, d2)
            · rw [if_pos z]
              rw [z, hu'] at hu''
              cases hu''
              rfl
            · rw [if_neg z]
              refine b5 p' ?_ u' hu''
              rw [List.map_append, ← List.append_assoc] at hp'
              rcases List.mem_append.mp hp' with h | h
              · exact h
              · exact absurd (by simpa using h) z
          · rw [upd_ne (Ne.symm ncs)]
            refine e13 _ _ ?_
            rw [upd_ne (Ne.symm nps)]
            exact e12 _ _ c3'
        have u5 := u4.trans (e13.tups.trans t13)
        have hp5 : upd H13 ca ob13 p = some (.lst xs) := by
          rw [upd_ne (hnp ca (by simp))]
          refine e13 _ _ ?_
          rw [upd_ne (hnp pa (by simp))]
          exact e12 _ _ (e11 _ _ u2)
        have hy5 := Is.mono t1013 _ _ hy3
        have r5 := Is.mono t1013 _ _ r11
        have l8 := seatsP_len k t pre2
        generalize upd H13 ca ob13 = H14 at iv4 u5 hp5 hy5 r5
        have hps : p ≠ sa := hnp sa (by simp)
        refine sq (st_if (gt_tag (gv_var rfl r5)) (fun h H15 e15 => ?_) fun h H15 e15 => ?_)
        · have hkn := of_decide_eq_true h
          have es : seatsP k t [d2] = [⟨k, d2, false⟩, ⟨k, d2, true⟩] := by
            cases u with
            | knot n tk ks => simp [seatsP, hu]
            | _ => exact absurd hkn (by simp only [tagT]; decide)
          refine app _ _ H15 _ _ false d2 y (invE iv4 e15) (u5.trans e15.tups) (Is.mono e15.tups _ _ hy5) (by rw [List.length_append]; omega) fun H16 t16 k16 iv16 => ?_
          refine app _ _ H16 _ _ true d2 y iv16 ((u5.trans e15.tups).trans t16) (Is.mono t16 _ _ (Is.mono e15.tups _ _ hy5)) (by simp only [List.length_append, List.length_cons, List.length_nil]; omega) fun H17 t17 k17 iv17 => ?_
          refine ⟨⟨_, _, rfl⟩, ((u5.trans e15.tups).trans t16).trans t17, k17 _ _ (k16 _ _ (e15 _ _ hp5) hps) hps, ?_⟩
          rw [snocP, es]
          simpa [List.append_assoc] using iv17
        · have hkn := of_decide_eq_false h
          have es : seatsP k t [d2] = [⟨k, d2, true⟩] := by
            cases u with
            | knot n tk ks => exact absurd rfl hkn
            | _ => simp [seatsP, hu]
          refine app _ _ H15 _ _ true d2 y (invE iv4 e15) (u5.trans e15.tups) (Is.mono e15.tups _ _ hy5) (by rw [List.length_append]; omega) fun H16 t16 k16 iv16 => ?_
          refine ⟨⟨_, _, rfl⟩, (u5.trans e15.tups).trans t16, k16 _ _ (e15 _ _ hp5) hps, ?_⟩
          rw [snocP, es, ← List.append_assoc]
          exact iv16
      · rintro σ2 H10 ⟨⟨c3, c4, rfl⟩, u1, u2, iv2⟩
        refine ⟨⟨_, _, _, _, rfl⟩, (y2.trans e9.tups).trans u1, ?_⟩
        rw [List.flatMap_append, List.flatMap_append]
        simp only [List.flatMap_cons, List.flatMap_nil, List.append_nil]
        exact iv2
    · rintro σ' H' ⟨⟨c1, c2, c3, c4, rfl⟩, y2, iv⟩
      dsimp only
      have t8 := (t6s.trans e8.tups).trans y2
      have hg' := invG iv
      have r8 : Is H' (.str bk.top) v1 := Is.mono ((e7.tups.trans z2).trans (e8.tups.trans y2)) _ _ (Is.mono x6.tups _ _ r5')
      refine st_setF (R := LsV ((bk.trees.filter fun p => decide (nameT p.2 = bk.top) && !hasFoot p.2).map fun p => .str p.1)) T (by decide) (gv_lcT (f := fun p => .tuple [.str p.1, encT p.2]) (fun p : Str × Tr => .str p.1) (fun p : Str × Tr => decide (nameT p.2 = bk.top) && !hasFoot p.2) (gtrees _ _ rfl t8) (by have := ok.n; show _ ≤ 16777216; omega) fun d x H9 hd e9 hx => ?_) (gv_ref rfl) hg' (by omega) (fun v6 H9 e9 r9 => ?_) inferInstance
      · obtain ⟨ax, xx, rfl, px, ix⟩ := hx.tup_inv
        obtain ⟨vk, vt, rfl, hk, ht⟩ := two_inv ix
        have okd := ok.ok d hd
        refine ⟨_, fun Q q => gtup2 px.sq q, ?_, ?_, fun _ => gv_var rfl hk⟩
        · rfl
        · refine gt_B (gv_meth (R := InsTop CG bk.top) (gv_var rfl (Mono.mo e9 ⟨g, dx, fs, v1, rfl, hg', k0, k1, r8⟩)) (fun H v h => ?_) (gi_cons (gv_var rfl ht) gi_nil) fun o vs H1 _ ro ra => ?_)
          · obtain ⟨a, dx, fs, v2, h1, h2, h3, _⟩ := h
            exact ⟨a, dx, fs, h1, h2, h3 _ (by decide)⟩
          · obtain ⟨y, rfl, hy⟩ := one_inv ra
            exact ⟨o, y, d.2, bk.top, rfl, ro, hy, okd.1, not_void (ok.kn d hd), rfl⟩
      · have iv9 := invE iv e9
        have h9g := invG iv9
        have t9 : Tups H9 (upd H9 g (.ins CG dx (putF "tops" v6 fs))) := Tups.mut (by rw [h9g]; trivial)
        obtain ⟨a1, a2, ⟨pl, a3, a4, a5⟩, ⟨cl, b3, b4, b5⟩, ys, c3', c4'⟩ := id iv9
        have h5none : ∀ a u, H a = some u → a ≠ g → a ∉ [pa, ca, sa] := by
          intro a u h n hm
          simp only [List.mem_cons, List.not_mem_nil, or_false] at hm
          rcases hm with e | e | e
          · exact q1 a u h n e
          · exact q2 a u h n e
          · exact q3 a u h n e
        have h5g' : H5 g ≠ none := by rw [h5g]; simp
        refine hQ _ (fun a u h n => ?_) ?_ ⟨g, dx, putF "tops" v6 fs, vr, .ref sa, pa, ca, pl, cl, rfl, ?_⟩
        · rw [upd_ne n]
          exact a1.1 _ _ (z1 _ _ (m5.1 _ _ h (by simpa using n))) (h5none a u h n)
        · exact (m5.2.trans (z1.tups.trans a1.2)).trans t9
        · have lk : ∀ f : Str, f ≠ "tops" → (putF "tops" v6 fs).lookup f = fs.lookup f := fun f h => lkN h
          refine ⟨upd_same, fun m hm => ?_, ?_, ?_, ?_, ?_, ?_, ?_, ?_, ?_, ?_, ?_⟩
          · rw [lk m (by
              have h : ∀ m ∈ GMs, m ≠ "tops" := by decide
              exact h m hm)]
            exact k0 m hm
          · rw [lk _ (by decide)]; exact k2
          · exact Is.mono ((m5.2.trans (z1.tups.trans a1.2)).trans t9) _ _ hrow
          · rw [lk _ (by decide)]; exact k3
          · exact a3.tr (fun b v r => Is.mono t9 _ _ r) (upd_ne npag) t9
          · rw [lk _ (by decide)]; exact k4
          · obtain ⟨vl, dd, pp⟩ := b3
            refine ⟨vl, dd.mono (upd_ne ncag) t9, paired_imp (fun x y q => ⟨q.1, ?_⟩) pp⟩
            obtain ⟨p1, xs1, e, n, h1, h2⟩ := q.2
            have : p1 ≠ g := fun z => by rw [z] at n; exact h5g' n
            exact ⟨p1, xs1, e, by rw [upd_ne this]; exact h1, IsAll.mono t9 _ _ h2⟩
          · rw [lk _ (by decide)]; exact k5
          · exact ⟨sa, ys, rfl, by rw [upd_ne nsg]; exact c3', IsAll.mono t9 _ _ c4'⟩
          · intro p u hp
            refine a5 p ?_ u hp
            unfold pieceOf at hp
            cases ht : getA bk.trees p.1 with
            | none => rw [ht] at hp; cases hp
            | some t =>
              rw [ht] at hp
              refine List.mem_flatMap.mpr ⟨_, getA_mem ht, List.mem_map.mpr ⟨p.2, ?_, rfl⟩⟩
              rw [List.mem_reverse]
              exact places_of hp
          · intro p u hp
            refine b5 p ?_ u hp
            unfold pieceOf at hp
            cases ht : getA bk.trees p.1 with
            | none => rw [ht] at hp; cases hp
            | some t =>
              rw [ht] at hp
              refine List.mem_flatMap.mpr ⟨_, getA_mem ht, List.mem_map.mpr ⟨p.2, ?_, rfl⟩⟩
              rw [List.mem_reverse]
              exact places_of hp
end
end K31

namespace K31
open PySem PySem.Spec PyProof.Rows L2 NK Evl
section
variable {P : Program} {w : World} {K : PySem.W.Frag} {mg : Str → Option Value} {base : Heap} {CG CC : Addr}
theorem c_ground (T : Txt K mg CG CC) : Mak P w K mg base 13 "Ground" CG (spInit w CG) := by
  obtain ⟨f, fd, F, M⟩ := T.mkG
  exact ⟨f, fd, _, M, w_init1 T f fd F, T.gG, F.bindsN b_Ground_init⟩
theorem gv_makeG {σ : L2.St} {H : Hp} {ta tb : TE} {E : XK} {bk : Bk} {row : List Str} (h1 : Gv ta σ H (IsV (encB bk))) (h2 : Gv tb σ H (IsV (rowD row))) (ok : BkOk bk) : Gv (tMake CG (spInit w CG) [] E (tCons ta (tCons tb tNil))) σ H (GrV CG w bk row) := fun H1 e1 Q q =>
  (gi_cons h1 (gi_cons h2 gi_nil)) H1 e1 _ fun vs H2 e2 ra x dx nx ndx nxd => by
    obtain ⟨v, u, rfl, hv, hu⟩ := two_inv ra
    have x3 : Ex H2 (upd (upd H2 dx (.own x)) x (.ins CG dx [])) := Ex.mut (Ex.new ndx) nx
    refine ⟨x, dx, v, u, bk, row, rfl, upd_same, Is.mono x3.tups _ _ hv, Is.mono x3.tups _ _ hu, ok, fun H' h t g => ⟨rfl, q _ _ (e2.trans fun a u ha => ?_) g⟩⟩
    exact h a u (x3 a u ha) (ne_at ha nx)
theorem gv_makeC {σ : L2.St} {H : Hp} : Gv (tMakeO CC) σ H (Rck CC) := fun H1 e1 Q q x dx nx ndx nxd => q _ _ (Ex.mut (Ex.new ndx) nx) ⟨x, dx, rfl, upd_same⟩
theorem gv_methX {σ : L2.St} {H : Hp} {ta : TE} {R R' : HR} {C : Addr} {m : Str} {A : List V → Hp → HR → Prop} {E : XK} {t : TA} {RA : Hp → List V → Prop} [mo : Mono R] (ho : Gv ta σ H R) (hR : ∀ H v, R H v → ∃ a dx fs, v = .ref a ∧ H a = some (.ins C dx fs) ∧ fs.lookup m = none) (ha : GvA t σ H RA)
    (hs : ∀ o vs H1, Ex H H1 → R H1 o → RA H1 vs → ∃ R'', A (o :: vs) H1 R'' ∧ ∀ H2 v, R'' H2 v → R' H2 v) : Gv (tMeth C m (SpR A) [] E ta t) σ H R' := fun H1 e1 Q q => ho H1 e1 _ fun x H2 e2 rx => by
  obtain ⟨a, dx, fs, rfl, hi, hl⟩ := hR _ _ rx
  refine ⟨a, dx, fs, rfl, hi, hl, ha H2 (e1.trans e2) _ fun vs H3 e3 rs => ?_⟩
  rw [List.append_nil]
  obtain ⟨R'', h1, h2⟩ := hs _ vs H3 (e1.trans (e2.trans e3)) (mo.mo e3 rx) rs
  exact ⟨R'', h1, fun v H' e4 r4 => q v H' (e2.trans (e3.trans e4)) (h2 _ _ r4)⟩
/-- the table at the end -/
def FixV (CC : Addr) (w : World) (bk : Bk) (row : List Str) (Iv : Tab → Prop) : HR := fun H1 v => ∃ T, Iv T ∧ (∀ s ∈ seatsOf bk, sameE (concl bk row T s) (T s) = true) ∧ TbV CC w (seatsOf bk) T H1 v
instance {CC : Addr} {w : World} {bk : Bk} {row : List Str} {Iv : Tab → Prop} : Mono (FixV CC w bk row Iv) := ⟨fun e ⟨T, h1, h2, h3⟩ => ⟨T, h1, h2, Mono.mo e h3⟩⟩
theorem seats_len {bk : Bk} (ok : BkOk bk) : (seatsOf bk).length ≤ 9000 := by
  have h1 : (seatsOf bk).length ≤ bk.trees.length * 200 := flat_len (l := bk.trees) fun x hx => by
    show (seatsP x.1 x.2 (placesT x.2).reverse).length ≤ 200
    have h3 : (seatsP x.1 x.2 (placesT x.2).reverse).length ≤ (placesT x.2).reverse.length * 2 := by
      unfold seatsP
      exact flat_len (l := (placesT x.2).reverse) fun y _ => by split <;> simp
    rw [List.length_reverse, placesT_len] at h3
    have h4 := (ok.ok x hx).2
    omega
  have := ok.n
  omega
def spEntries (w : World) : List V → Hp → HR → Prop := fun vs H R => ∃ vb vr bk row Iv μ, vs = [vb, vr] ∧ Is H (encB bk) vb ∧ Is H (rowD row) vr ∧ BkOk bk ∧ FillP w bk row (seatsOf bk) Iv μ ∧ (∀ T, Iv T → ∀ s ∈ seatsOf bk, (T s).length ≤ 100) ∧
  R = fun H1 v => ∃ T, Iv T ∧ (∀ s ∈ seatsOf bk, sameE (concl bk row T s) (T s) = true) ∧ SorV (listT (seatsOf bk) T) encEnt H1 v
theorem w_entries (T : Txt K mg CG CC) : Cal P w K mg base 15 "entries" (SpR (spEntries w)) := by
  refine cal_of T.d_entries sc_entries b_entries (fun vs H Q E ⟨R, ⟨_, _, _, _, _, _, e, _⟩, _⟩ => by rw [e]; rfl) fun f cdv A outer s H vs Q E hr hq => ?_
  have c_Ground := c_ground (P := P) (w := w) (base := base) T
  have c_listed := w_listed (P := P) (w := w) (base := base) T
  have c_filled := w_filled (P := P) (w := w) (base := base) T
  refine ⟨_, (pss_cons (ps_set (i := 2) sc_entries.nd rfl (Or.inl rfl) (pe_mk c_Ground hr (by omega) rfl (pa_cons (pv 0) (pa_cons (pv 1) pa_nil))))
    (pss_one (ps_ret (pe_mt c_listed hr (by omega) (pv 2) (pa_cons (pe_mt c_filled hr (by omega) (pv 2) (pa_cons (pe_makeO T.mkC rfl T.gC) pa_nil)) pa_nil))))), ?_⟩
  obtain ⟨R, ⟨vb, vr, bk, row, Iv, μ, rfl, hb, hr', ok, F, hl, rfl⟩, hQ⟩ := hq
  refine st_asg (gv_makeG (gv_var rfl hb) (gv_var rfl hr') ok) fun vg H1 e1 r1 => ?_
  dsimp only
  refine st_ret (R := fun H1 v => ∃ T, Iv T ∧ (∀ s ∈ seatsOf bk, sameE (concl bk row T s) (T s) = true) ∧ SorV (listT (seatsOf bk) T) encEnt H1 v) (gv_methX (R := GrV CG w bk row) (gv_var rfl r1) (grV_meth (by decide)) (ga_cons (R := FixV CC w bk row Iv) (gv_methX (R := GrV CG w bk row) (gv_var rfl r1) (grV_meth (by decide)) (ga_cons (R := Rck CC) gv_makeC ga_nil) fun o vs H2 _ ro ra => ?_) ga_nil) fun o vs H2 _ ro ra => ?_) fun v H2 e2 r2 => hQ v H2 (e1.trans e2) r2
  · obtain ⟨q1, _, rfl, i1, rfl⟩ := ra
    exact ⟨_, ⟨o, q1, bk, row, Iv, μ, rfl, ro, i1, F, seats_len ok, rfl⟩, fun H2 v h => h⟩
  · obtain ⟨q1, _, rfl, ⟨Tb, i1, i2, i3⟩, rfl⟩ := ra
    exact ⟨_, ⟨o, q1, bk, row, Tb, rfl, ro, i3, seats_len ok, hl Tb i1, rfl⟩, fun H2 v h => ⟨Tb, i1, i2, h⟩⟩
end
end K31

namespace K31
open PySem PySem.Spec PyProof.Rows L2 NK Evl
section
variable {P : Program} {w : World} {K : PySem.W.Frag} {mg : Str → Option Value} {base : Heap} {CG CC : Addr}
/-- the feed: the script and a count; Hb: the heap ahead of it -/
structure Feed (K : PySem.W.Frag) (Hb H : Hp) (fa sa : Addr) (ns : List Int) (c : Nat) : Prop where
  at_ : H fa = some (.lst [.ref sa, nI c])
  ex_ : Ex Hb H
  nb : Hb fa = none
  sc : SqL K Hb sa (ns.map V.int)
theorem Feed.ex {Hb H H' : Hp} {fa sa : Addr} {ns : List Int} {c : Nat} (f : Feed K Hb H fa sa ns c) (e : Ex H H') : Feed K Hb H' fa sa ns c := ⟨e _ _ f.at_, f.ex_.trans e, f.nb, f.sc⟩
theorem Feed.mod {Hb H H' : Hp} {fa sa : Addr} {ns : List Int} {c c' : Nat} {ms : List Addr} (f : Feed K Hb H fa sa ns c) (m : Mod ms H H') (hm : ∀ a ∈ ms, Hb a = none) (h : H' fa = some (.lst [.ref sa, nI c'])) : Feed K Hb H' fa sa ns c' :=
  ⟨h, fun a u ha => m.1 _ _ (f.ex_ a u ha) (fun z => by rw [hm a z] at ha; cases ha), f.nb, f.sc⟩
theorem Feed.set {Hb H H' : Hp} {fa sa : Addr} {ns : List Int} {c c' : Nat} (f : Feed K Hb H fa sa ns c) (m : Mod [fa] H H') (h : H' fa = some (.lst [.ref sa, nI c'])) : Feed K Hb H' fa sa ns c' := f.mod m (fun a ha => by rw [List.mem_singleton.mp ha]; exact f.nb) h
def NatV : HR := fun _ v => ∃ m : Nat, v = nI m
instance : Mono NatV := ⟨fun _ h => h⟩
def spMixed (K : PySem.W.Frag) : List V → Hp → HR → Prop := fun vs H R => ∃ (sa : Addr) (ns : List Int) (k : Nat), vs = [.ref sa, nI k] ∧ SqL K H sa (ns.map V.int) ∧ k < 2 ^ 40 ∧ R = NatV
theorem gv_lenQ {σ : L2.St} {H : Hp} {ta : TE} {a : Addr} {xs : List V} (h : Gv ta σ H (EqV (.ref a))) (hs : SqL K H a xs) : Gv (tCB (rLn K) (tCons ta tNil)) σ H (IsV (.int (Int.ofNat xs.length))) := fun H1 e1 Q q =>
  h H1 e1 _ fun v H2 e2 r => ⟨a, xs, by rw [show v = .ref a from r], .inl (ex_l (e1.trans e2) hs), q _ _ e2 (.int _)⟩
theorem gv_ixQ {σ : L2.St} {H : Hp} {ta tb : TE} {a : Addr} {xs : List V} {i : Int} {v : V} (h : Gv ta σ H (EqV (.ref a))) (hi : Gv tb σ H (IsV (.int i))) (hs : SqL K H a xs) (e : atI xs i = some v) : Gv (tOp (rIxL K) ta tb) σ H (EqV v) := fun H1 e1 Q q =>
  h H1 e1 _ fun x H2 e2 r => hi H2 (e1.trans e2) _ fun y H3 e3 ry => ⟨a, xs, i, v, r, ry.int_inv, ex_l (e1.trans (e2.trans e3)) hs, e, q _ _ (e2.trans e3) rfl⟩
theorem w_mixed (T : Txt K mg CG CC) : Cal P w K mg base 1 "_law_mixed" (SpR (spMixed K)) := by
  refine cal_of T.d_law_mixed sc__law_mixed b__law_mixed (fun vs H Q E ⟨R, ⟨_, _, _, e, _⟩, _⟩ => by rw [e]; rfl) fun f cdv A outer s H vs Q E hr hq => ?_
  refine ⟨_, (pss_cons (ps_set (i := 2) sc__law_mixed.nd rfl (Or.inl rfl) pe_int)
    (pss_cons (ps_if (pt_cmpR op_gt (pe_callB cr_len rfl (T.fr "len" (by decide)) (by decide +kernel) (pa_cons (pv 0) pa_nil)) pe_int (nomark _))
      (pss_one (ps_set (i := 2) sc__law_mixed.nd rfl (Or.inl rfl) (pe_ix ix_list (pv 0) (pe_op op_mod (pv 1) (pe_callB cr_len rfl (T.fr "len" (by decide)) (by decide +kernel) (pa_cons (pv 0) pa_nil))) (fun _ _ => rfl))))
      pss_nil)
    (pss_cons (ps_set (i := 3) sc__law_mixed.nd rfl (Or.inl rfl) (pe_op op_mod (pe_op op_mul (pe_op op_add (pe_op op_add (pv 2) (pe_op op_mul (pe_op op_mul pe_int (pv 1)) (pv 1))) pe_int) pe_int) pe_int))
    (pss_one (ps_ret (pe_op op_mod (pe_op op_add (pe_op op_add (pe_op op_mul (pv 3) (pv 3)) (pe_op op_mul pe_int (pv 3))) (pe_op op_mul pe_int (pv 1))) pe_int)))))), ?_⟩
  obtain ⟨R, ⟨sa, ns, k, rfl, hs, hk, rfl⟩, hQ⟩ := hq
  refine st_asg (R := IsV (.int 0)) gv_int fun v1 H1 e1 r1 => ?_
  rw [r1.int_inv]
  dsimp only
  have fin : ∀ (H2 : Hp) (cell : Int), Ex H H2 → tSeq (tAsg (tOp (rI (fun _ j => 0 < j) fun i j => .int (i % j)) (tOp (rI CMul fun i j => .int (i * j)) (tOp (rI0 fun i j => .int (i + j)) (tOp (rI0 fun i j => .int (i + j)) (tVar 2) (tOp (rI CMul fun i j => .int (i * j)) (tOp (rI CMul fun i j => .int (i * j)) (tC (.int 7919)) (tVar 1)) (tVar 1))) (tC (.int 1))) (tC (.int 1357913579135791357))) (tC (.int 2305843009213693951))) (gName 3))
      (tRet (tOp (rI (fun _ j => 0 < j) fun i j => .int (i % j)) (tOp (rI0 fun i j => .int (i + j)) (tOp (rI0 fun i j => .int (i + j)) (tOp (rI CMul fun i j => .int (i * j)) (tVar 3) (tVar 3)) (tOp (rI CMul fun i j => .int (i * j)) (tC (.int 48271)) (tVar 3))) (tOp (rI CMul fun i j => .int (i * j)) (tC (.int 104729)) (tVar 1))) (tC (.int 2305843009213693951)))) { nx := fun _ H' => Q .non H', rt := Q } [some (.ref sa), some (nI k), some (.int cell), none] H2 := by
    intro H2 cell e2
    have hkI : Int.ofNat k < 2 ^ 40 := by simpa using Int.ofNat_lt.mpr hk
    have hk0 : (0 : Int) ≤ Int.ofNat k := Int.natCast_nonneg k
    refine sq (st_asg (gv_mod (gv_mul (gv_add (gv_add (gv_var rfl (Is.int _)) (gv_mul (gv_mul gv_int (gv_var rfl (Is.int _)) (.inl ⟨by decide, by decide⟩)) (gv_var rfl (Is.int _)) (.inr ⟨?_, ?_⟩))) gv_int) gv_int (.inr ⟨by decide, by decide⟩)) gv_int (by decide)) fun v3 H3 e3 r3 => ?_)
    · omega
    · omega
    · have rv := r3.int_inv
      generalize hm : (cell + 7919 * Int.ofNat k * Int.ofNat k + 1) * 1357913579135791357 % 2305843009213693951 = m at rv
      have m0 : 0 ≤ m := by rw [← hm]; exact Int.emod_nonneg _ (by decide)
      have m1 : m < 2305843009213693951 := by rw [← hm]; exact Int.emod_lt_of_pos _ (by decide)
      subst rv
      dsimp only
      refine st_ret (gv_mod (gv_add (gv_add (gv_mul (gv_var rfl (Is.int m)) (gv_var rfl (Is.int m)) (.inl ⟨by omega, by omega⟩)) (gv_mul gv_int (gv_var rfl (Is.int m)) (.inl ⟨by decide, by decide⟩))) (gv_mul gv_int (gv_var rfl (Is.int (Int.ofNat k))) (.inl ⟨by decide, by decide⟩))) gv_int (by decide)) fun v4 H4 e4 r4 => hQ v4 H4 (e2.trans (e3.trans e4)) ?_
      have n0 := Int.emod_nonneg (m * m + 48271 * m + 104729 * Int.ofNat k) (show (2305843009213693951 : Int) ≠ 0 by decide)
      exact ⟨((m * m + 48271 * m + 104729 * Int.ofNat k) % 2305843009213693951).toNat, by rw [r4.int_inv]; exact congrArg V.int (Int.toNat_of_nonneg n0).symm⟩
  refine sq (st_if (gt_test (gv_gt (gv_lenQ (gv_ref rfl) (ex_l e1 hs)) gv_int)) (fun h H2 e2 => ?_) fun h H2 e2 => ?_)
  · have h0 : 0 < (ns.map V.int).length := by have := of_decide_eq_true h; simpa using this
    have hi : k % (ns.map V.int).length < (ns.map V.int).length := Nat.mod_lt _ h0
    obtain ⟨x, hx⟩ : ∃ x, ns[k % (ns.map V.int).length]? = some x := ⟨ns[k % (ns.map V.int).length]'(by simpa using hi), List.getElem?_eq_getElem _⟩
    refine st_asg (gv_ixQ (i := Int.ofNat (k % (ns.map V.int).length)) (v := .int x) (gv_ref rfl) (gv_is (gv_mod (gv_var rfl (Is.int (Int.ofNat k))) (gv_lenQ (gv_ref rfl) (ex_l (e1.trans e2) hs)) (by simpa using h0)) (by simp)) (ex_l (e1.trans e2) hs) (atI_nat (by rw [List.getElem?_map, hx]; rfl))) fun v3 H3 e3 r3 => ?_
    rw [show v3 = .int x from r3]
    exact fin H3 x (e1.trans (e2.trans e3))
  · exact fin H2 0 (e1.trans e2)
def LtV (n : Nat) : HR := fun _ v => ∃ r : Nat, r < n ∧ v = nI r
instance {n : Nat} : Mono (LtV n) := ⟨fun _ h => h⟩
theorem gv_divN {σ : L2.St} {H : Hp} {ta : TE} (h : Gv ta σ H NatV) : Gv (tOp (rI CDiv fun i j => .int (i / j)) ta (tC (.int 3))) σ H NatV := fun H1 e1 Q q =>
  h H1 e1 _ fun v H2 e2 ⟨m, e⟩ => ⟨Int.ofNat m, 3, e, rfl, ⟨by decide, by decide⟩, q _ _ e2 ⟨m / 3, rfl⟩⟩
theorem gv_modN {σ : L2.St} {H : Hp} {ta tb : TE} {n : Nat} (h : Gv ta σ H NatV) (hb : Gv tb σ H (IsV (.int (Int.ofNat n)))) (hn : 0 < n) : Gv (tOp (rI (fun _ j => 0 < j) fun i j => .int (i % j)) ta tb) σ H (LtV n) := fun H1 e1 Q q =>
  h H1 e1 _ fun v H2 e2 ⟨m, e⟩ => hb H2 (e1.trans e2) _ fun y H3 e3 ry => ⟨Int.ofNat m, Int.ofNat n, e, ry.int_inv, by simpa using hn, q _ _ (e2.trans e3) ⟨m % n, Nat.mod_lt _ hn, rfl⟩⟩
def spNext (K : PySem.W.Frag) : Sp := fun vs H Q _ => ∃ Hb fa sa ns c n, vs = [.ref fa, nI n] ∧ Feed K Hb H fa sa ns c ∧ 0 < n ∧ c + 1 < 2 ^ 40 ∧ ∀ r H', r < n → Feed K Hb H' fa sa ns (c + 1) → Mod [fa] H H' → Q (nI r) H'
theorem w_next (T : Txt K mg CG CC) : Cal P w K mg base 2 "_law_next" (spNext K) := by
  refine cal_of T.d_law_next sc__law_next b__law_next (fun vs H Q E ⟨_, _, _, _, _, _, e, _⟩ => by rw [e]; rfl) fun f cdv A outer s H vs Q E hr hq => ?_
  have c__law_mixed := w_mixed (P := P) (w := w) (base := base) T
  refine ⟨_, (pss_cons (ps_asg (pe_op op_add (pe_ix ix_list (pv 0) pe_int (fun _ _ => rfl)) pe_int) (pg_sub (pv 0) pe_int set_list))
    (pss_one (ps_ret (pe_op op_mod (pe_op op_fdiv (pe_c c__law_mixed hr (by omega) rfl (pa_cons (pe_ix ix_list (pv 0) pe_int (fun _ _ => rfl)) (pa_cons (pe_ix ix_list (pv 0) pe_int (fun _ _ => rfl)) pa_nil))) pe_int) (pv 1))))), ?_⟩
  obtain ⟨Hb, fa, sa, ns, c, n, rfl, F, hn, hc, hQ⟩ := hq
  have h1 : Gv (tOp (rIxL K) (tVar 0) (tC (.int 1))) [some (.ref fa), some (nI n)] H (IsV (.int (Int.ofNat c))) := gv_imp (gv_ixQ (v := nI c) (gv_ref rfl) gv_int (sq_of F.at_) rfl) fun H1 v _ (r : v = nI c) => by rw [r]; exact .int _
  refine (gv_is (gv_add h1 gv_int) rfl : Gv _ _ _ (IsV (.int (Int.ofNat (c + 1))))) H (Ex.refl _) _ fun v1 H1 e1 r1 => ?_
  have F1 := F.ex e1
  refine ⟨.ref fa, rfl, fa, _, 1, 1, rfl, rfl, F1.at_, rfl, ?_⟩
  have m2 : Mod [fa] H (upd H1 fa (.lst ([V.ref sa, nI c].set 1 v1))) := e1.mod.updM (by simp) (mut_at F1.at_)
  have F2 : Feed K Hb (upd H1 fa (.lst ([V.ref sa, nI c].set 1 v1))) fa sa ns (c + 1) := F.set m2 (by rw [upd_same, r1.int_inv]; rfl)
  generalize upd H1 fa (.lst ([V.ref sa, nI c].set 1 v1)) = H2 at m2 F2
  dsimp only
  refine st_ret (R := LtV n) (gv_modN (gv_divN (gv_call (R := NatV) (RA := ConsR (EqV (.ref sa)) (ConsR (EqV (nI (c + 1))) NilR)) (ga_cons (gv_ixQ (v := .ref sa) (gv_ref rfl) gv_int (sq_of F2.at_) rfl) (ga_cons (gv_ixQ (v := nI (c + 1)) (gv_ref rfl) gv_int (sq_of F2.at_) rfl) ga_nil)) fun vs H3 e3 ra => ?_)) (gv_var rfl (Is.int (Int.ofNat n))) hn) fun v H3 e3 r3 => ?_
  · obtain ⟨q1, _, rfl, rfl, q2, _, rfl, rfl, rfl⟩ := ra
    exact ⟨sa, ns, c + 1, rfl, ex_l (F2.ex_.trans e3) F2.sc, hc, rfl⟩
  · obtain ⟨r, hr3, rfl⟩ := r3
    exact hQ r H3 hr3 (F2.ex e3) (m2.trans e3.mod)
end
end K31

namespace K31
open PySem PySem.Spec PyProof.Rows L2 NK Evl
/-! what draws from the feed -/
class MonoM (ms : List Addr) (R : HR) : Prop where
  mo : ∀ {H H' v}, Mod ms H H' → R H v → R H' v
instance {ms : List Addr} {d : PyData} : MonoM ms (IsV d) := ⟨fun m h => Is.mono m.2 _ _ h⟩
instance {ms : List Addr} {n : Nat} : MonoM ms (LtV n) := ⟨fun _ h => h⟩
instance {ms : List Addr} {v : V} : MonoM ms (EqV v) := ⟨fun _ h => h⟩
/-- one of the data -/
def OneOf (ds : List PyData) : HR := fun H v => ∃ d ∈ ds, Is H d v
instance {ms : List Addr} {ds : List PyData} : MonoM ms (OneOf ds) := ⟨fun m ⟨d, h1, h2⟩ => ⟨d, h1, Is.mono m.2 _ _ h2⟩⟩
/-- a tree with P -/
def TrV (P : Tr → Prop) : HR := fun H v => ∃ t, P t ∧ Is H (encT t) v
instance {P : Tr → Prop} : Mono (TrV P) := ⟨fun e ⟨t, h1, h2⟩ => ⟨t, h1, Is.mono e.tups _ _ h2⟩⟩
instance {ms : List Addr} {P : Tr → Prop} : MonoM ms (TrV P) := ⟨fun m ⟨t, h1, h2⟩ => ⟨t, h1, Is.mono m.2 _ _ h2⟩⟩
/-- a list out of ms -/
def LsO (ms : List Addr) (ds : List PyData) : HR := fun H v => ∃ p xs, v = .ref p ∧ p ∉ ms ∧ H p = some (.lst xs) ∧ IsAll H ds xs
instance {ms : List Addr} {ds : List PyData} : Mono (LsO ms ds) := ⟨fun e ⟨p, xs, h1, n, h2, h3⟩ => ⟨p, xs, h1, n, e _ _ h2, IsAll.mono e.tups _ _ h3⟩⟩
instance {ms : List Addr} {ds : List PyData} : MonoM ms (LsO ms ds) := ⟨fun m ⟨p, xs, h1, n, h2, h3⟩ => ⟨p, xs, h1, n, m.1 _ _ h2 n, IsAll.mono m.2 _ _ h3⟩⟩
theorem LsO.ls {ms : List Addr} {ds : List PyData} {H : Hp} {v : V} (h : LsO ms ds H v) : LsV ds H v := by
  obtain ⟨p, xs, h1, n, h2, h3⟩ := h
  exact ⟨p, xs, h1, h2, h3⟩
theorem LsO.sub {ms ns : List Addr} {ds : List PyData} {H : Hp} {v : V} (h : LsO ms ds H v) (s : ∀ a ∈ ns, a ∈ ms) : LsO ns ds H v := by
  obtain ⟨p, xs, h1, n, h2, h3⟩ := h
  exact ⟨p, xs, h1, fun z => n (s _ z), h2, h3⟩
structure Fd where
  K : PySem.W.Frag
  Hb : Hp
  fa : Addr
  sa : Addr
  ns : List Int
def FdAt (F : Fd) (H : Hp) (c : Nat) : Prop := Feed F.K F.Hb H F.fa F.sa F.ns c
theorem FdAt.ex {F : Fd} {H H' : Hp} {c : Nat} (f : FdAt F H c) (e : Ex H H') : FdAt F H' c := Feed.ex f e
/-- te draws at most n times; it changes ms alone -/
def GF (F : Fd) (ms : List Addr) (te : TE) (σ : L2.St) (H : Hp) (n : Nat) (R : HR) : Prop := ∀ H1 c1, Mod ms H H1 → FdAt F H1 c1 → c1 + n < 2 ^ 40 → ∀ Q : VK, (∀ v H2 c2, Mod ms H1 H2 → FdAt F H2 c2 → c2 ≤ c1 + n → R H2 v → Q v H2) → te σ H1 Q
def GFA (F : Fd) (ms : List Addr) (ta : TA) (σ : L2.St) (H : Hp) (n : Nat) (R : Hp → List V → Prop) : Prop := ∀ H1 c1, Mod ms H H1 → FdAt F H1 c1 → c1 + n < 2 ^ 40 → ∀ Q : List V → Hp → Prop, (∀ v H2 c2, Mod ms H1 H2 → FdAt F H2 c2 → c2 ≤ c1 + n → R H2 v → Q v H2) → ta σ H1 Q
section
variable {F : Fd} {ms : List Addr} {K : PySem.W.Frag} {σ : L2.St} {H H' : Hp} {ta tb te : TE} {R R' : HR} {D : Ends} {m n : Nat} {tr : TA}
theorem gf_pure (h : ∀ H1 c1, Mod ms H H1 → FdAt F H1 c1 → Gv te σ H1 R) : GF F ms te σ H 0 R := fun H1 c1 m1 f1 _ Q q => h H1 c1 m1 f1 H1 (Ex.refl _) Q fun v H2 e2 r2 => q v H2 c1 e2.mod (f1.ex e2) (Nat.le_refl _) r2
theorem gf_imp (h : GF F ms te σ H n R) (i : ∀ H1 v, R H1 v → R' H1 v) : GF F ms te σ H n R' := fun H1 c1 m1 f1 l Q q => h H1 c1 m1 f1 l Q fun v H2 c2 m2 f2 l2 r => q v H2 c2 m2 f2 l2 (i _ _ r)
theorem gf_le (h : GF F ms te σ H m R) (l : m ≤ n) : GF F ms te σ H n R := fun H1 c1 m1 f1 l1 Q q => h H1 c1 m1 f1 (by omega) Q fun v H2 c2 m2 f2 l2 r => q v H2 c2 m2 f2 (by omega) r
theorem gf_next {i : Nat} {k : Nat} {E : XK} (hF : F.K = K) (hm : F.fa ∈ ms) (hσ : σ[i]? = some (some (.ref F.fa))) (hb : ∀ H1 c1, Mod ms H H1 → FdAt F H1 c1 → Gv tb σ H1 (IsV (.int (Int.ofNat k)))) (hk : 0 < k) : GF F ms (tCall (spNext K) [] E (tCons (tVar i) (tCons tb tNil))) σ H 1 (LtV k) := fun H1 c1 m1 f1 l Q q =>
  ⟨.ref F.fa, hσ, hb H1 c1 m1 f1 H1 (Ex.refl _) _ fun y H2 e2 ry => by
    subst hF
    refine ⟨F.Hb, F.fa, F.sa, F.ns, c1, k, by rw [ry.int_inv]; rfl, f1.ex e2, hk, l, fun r H3 hr f3 m3 => q _ H3 (c1 + 1) (e2.mod.trans (m3.wide (by simpa using hm))) f3 (Nat.le_refl _) ⟨r, hr, rfl⟩⟩⟩
/-- list[..] -/
theorem gf_ix {ds : List PyData} (ha : ∀ H1 c1, Mod ms H H1 → FdAt F H1 c1 → Gv ta σ H1 (LsO ms ds)) (hb : GF F ms tb σ H n (LtV ds.length)) : GF F ms (tOp (rIxL K) ta tb) σ H n (OneOf ds) := fun H1 c1 m1 f1 l Q q =>
  ha H1 c1 m1 f1 H1 (Ex.refl _) _ fun x H2 e2 rx => hb H2 c1 (m1.trans e2.mod) (f1.ex e2) l _ fun y H3 c3 m3 f3 l3 ⟨r, hr, ey⟩ => by
    obtain ⟨p, xs, rfl, hp, hxs, al⟩ := MonoM.mo m3 rx
    obtain ⟨v, ev, iv⟩ := al.get (List.getElem?_eq_getElem hr)
    exact ⟨p, xs, Int.ofNat r, v, rfl, ey, sq_of hxs, atI_nat ev, q v H3 c3 (e2.mod.trans m3) f3 l3 ⟨_, List.getElem_mem hr, iv⟩⟩
/-! arguments; a tuple -/
theorem gfa_nil : GFA F ms tNil σ H 0 NilR := fun H1 c1 m1 f1 _ Q q => q [] H1 c1 (Mod.refl _ _) f1 (Nat.le_refl _) rfl
theorem gfa_cons {RA : Hp → List V → Prop} [mo : MonoM ms R] (h : GF F ms ta σ H m R) (hr : GFA F ms tr σ H n RA) : GFA F ms (tCons ta tr) σ H (m + n) (ConsR R RA) := fun H1 c1 m1 f1 l Q q =>
  h H1 c1 m1 f1 (by omega) _ fun v H2 c2 m2 f2 l2 r2 => hr H2 c2 (m1.trans m2) f2 (by omega) _ fun vs H3 c3 m3 f3 l3 r3 => q _ H3 c3 (m2.trans m3) f3 (by omega) ⟨v, vs, rfl, mo.mo m3 r2, r3⟩
/-- statements -/
theorem sf_asg {i : Nat} {c : Nat} (h : GF F ms te σ H n R) (f : FdAt F H c) (l : c + n < 2 ^ 40) (k : ∀ v H1 c1, Mod ms H H1 → FdAt F H1 c1 → c1 ≤ c + n → R H1 v → D.nx (σ.set i (some v)) H1) : tAsg te (gName i) D σ H := h H c (Mod.refl _ _) f l _ k
theorem sf_ret {c : Nat} (h : GF F ms te σ H n R) (f : FdAt F H c) (l : c + n < 2 ^ 40) (k : ∀ v H1 c1, Mod ms H H1 → FdAt F H1 c1 → c1 ≤ c + n → R H1 v → D.rt v H1) : tRet te D σ H := h H c (Mod.refl _ _) f l _ k
end
/-- the promise of a def that draws -/
def SpF (K : PySem.W.Frag) (A : Addr → List V → Hp → List Addr → Nat → HR → Prop) : Sp := fun vs H Q _ => ∃ F c n ms R, F.K = K ∧ F.fa ∈ ms ∧ A F.fa vs H ms n R ∧ FdAt F H c ∧ c + n < 2 ^ 40 ∧ ∀ v H' c', Mod ms H H' → FdAt F H' c' → c' ≤ c + n → R H' v → Q v H'
theorem gf_call {F : Fd} {ms ms' : List Addr} {K : PySem.W.Frag} {σ : L2.St} {H : Hp} {R : HR} {m n : Nat} {t : TA} {E : XK} {A : Addr → List V → Hp → List Addr → Nat → HR → Prop} {RA : Hp → List V → Prop} (hF : F.K = K) (hm : F.fa ∈ ms') (sub : ∀ a ∈ ms', a ∈ ms) (h : GFA F ms t σ H m RA) (hs : ∀ vs H1 c1, Mod ms H H1 → FdAt F H1 c1 → RA H1 vs → A F.fa vs H1 ms' n R) : GF F ms (tCall (SpF K A) [] E t) σ H (m + n) R := fun H1 c1 m1 f1 l Q q =>
  h H1 c1 m1 f1 (by omega) _ fun vs H2 c2 m2 f2 l2 r2 => by
    rw [List.append_nil]
    exact ⟨F, c2, n, ms', R, hF, hm, hs vs H2 c2 (m1.trans m2) f2 r2, f2, by omega, fun v H3 c3 m3 f3 l3 r3 => q v H3 c3 (m2.trans (m3.wide sub)) f3 (by omega) r3⟩
section
variable {P : Program} {w : World} {K : PySem.W.Frag} {mg : Str → Option Value} {base : Heap} {CG CC : Addr}
def LeafOk (names signs : List Str) (t : Tr) : Prop := (∃ s ∈ signs, t = .sign s) ∨ t = .void ∨ ∃ n ∈ names, t = .hole n
def spLeafF (fa : Addr) : List V → Hp → List Addr → Nat → HR → Prop := fun vs H ms n R => ∃ vn vs' names signs, vs = [.ref fa, vn, vs'] ∧ LsO ms (dStrs names) H vn ∧ LsO ms (dStrs signs) H vs' ∧ 0 < names.length ∧ 0 < signs.length ∧ n = 2 ∧ R = TrV (LeafOk names signs)
theorem oneOf_str {H : Hp} {l : List Str} {v : V} (h : OneOf (dStrs l) H v) : ∃ s ∈ l, Is H (.str s) v := by
  obtain ⟨d, hd, hi⟩ := h
  obtain ⟨s, hs, rfl⟩ := List.mem_map.mp hd
  exact ⟨s, hs, hi⟩
theorem gv_lenO {σ : L2.St} {H : Hp} {ta : TE} {l : List Str} {ms : List Addr} (h : Gv ta σ H (LsO ms (dStrs l))) : Gv (tCB (rLn K) (tCons ta tNil)) σ H (IsV (.int (Int.ofNat l.length))) := gv_lenS (gv_imp h fun _ _ _ r => r.ls)
/-- a tuple of two: a written text and something drawn -/
theorem gf_tup2 {F : Fd} {ms : List Addr} {σ : L2.St} {H : Hp} {tb : TE} {x : Str} {n : Nat} {R R' : HR} (h : GF F ms tb σ H n R) (i : ∀ H1 v, R H1 v → ∃ d, Is H1 d v ∧ ∀ H2 u, Is H2 (.tuple [.str x, d]) u → R' H2 u) : GF F ms (tTupP (tCons (tC (.str x)) (tCons tb tNil))) σ H n R' := fun H1 c1 m1 f1 l Q q =>
  h H1 c1 m1 f1 l _ fun v H2 c2 m2 f2 l2 r2 => ⟨by show 2 ≤ 16777216; omega, fun p u np pu => by
    obtain ⟨d, h1, h2⟩ := i _ _ r2
    exact q _ _ c2 (m2.trans (Ex.new np).mod) (f2.ex (Ex.new np)) l2 (h2 _ _ (.tup (PtO.mk pu) (.cons (.str x) (.cons (Is.mono (Tups.new np) _ _ h1) .nil))))⟩
theorem w_leafF (T : Txt K mg CG CC) : Cal P w K mg base 3 "_law_leaf" (SpF K spLeafF) := by
  refine cal_of T.d_law_leaf sc__law_leaf b__law_leaf (fun vs H Q E ⟨_, _, _, _, _, _, _, ⟨_, _, _, _, e, _⟩, _⟩ => by rw [e]; rfl) fun f cdv A outer s H vs Q E hr hq => ?_
  have c__law_next := w_next (P := P) (w := w) (base := base) T
  refine ⟨_, (pss_cons (ps_set (i := 3) sc__law_leaf.nd rfl (Or.inl rfl) (pe_c c__law_next hr (by omega) rfl (pa_cons (pv 0) (pa_cons pe_int pa_nil))))
    (pss_cons (ps_if (pt_cmpR op_lt (pv 3) pe_int (nomark _))
      (pss_one (ps_ret (pe_tupP (pa_cons pe_str (pa_cons (pe_ix ix_list (pv 2) (pe_c c__law_next hr (by omega) rfl (pa_cons (pv 0) (pa_cons (pe_callB cr_len rfl (T.fr "len" (by decide)) (by decide +kernel) (pa_cons (pv 2) pa_nil)) pa_nil))) (fun _ _ => rfl)) pa_nil)))))
      pss_nil)
    (pss_cons (ps_if (pt_cmpR op_eq (pv 3) pe_int (nomark _))
      (pss_one (ps_ret (pe_tupP (pa_cons pe_str pa_nil))))
      pss_nil)
    (pss_one (ps_ret (pe_tupP (pa_cons pe_str (pa_cons (pe_ix ix_list (pv 1) (pe_c c__law_next hr (by omega) rfl (pa_cons (pv 0) (pa_cons (pe_callB cr_len rfl (T.fr "len" (by decide)) (by decide +kernel) (pa_cons (pv 1) pa_nil)) pa_nil))) (fun _ _ => rfl)) pa_nil)))))))), ?_⟩
  obtain ⟨F, c, n, ms, R, hF, hm, ⟨vn, vs', names, signs, rfl, hn, hs, n0, s0, rfl, rfl⟩, fc, lc, hQ⟩ := hq
  refine sf_asg (n := 1) (gf_next (k := 9) hF hm rfl (fun H1 c1 m1 f1 => gv_int) (by decide)) fc (by omega) fun v3 H1 c1 m1 f1 l1 ⟨r, hr', e3⟩ => ?_
  subst e3
  dsimp only
  refine sq (st_if (gt_test (gv_lt (gv_var rfl (Is.int (Int.ofNat r))) gv_int)) (fun h H2 e2 => ?_) fun h H2 e2 => ?_)
  · have m2 := m1.trans e2.mod
    refine sf_ret (F := F) (ms := ms) (n := 1) (R := TrV (LeafOk names signs)) (gf_tup2 (gf_ix (ds := dStrs signs) (fun H1 c1 mm _ => gv_var rfl (MonoM.mo (m2.trans mm) hs)) (gf_imp (gf_next (k := signs.length) hF hm rfl (fun H1 c1 mm f1 => gv_lenO (gv_var (R := LsO ms (dStrs signs)) rfl (MonoM.mo (m2.trans mm) hs))) s0) fun H1 v h => by simpa [dStrs] using h)) fun H1 v h => ?_) (f1.ex e2) (by omega) fun v H3 c3 m3 f3 l3 r3 => hQ v H3 c3 (m2.trans m3) f3 (by omega) r3
    obtain ⟨x, hx, ix⟩ := oneOf_str h
    exact ⟨.str x, ix, fun H2 u hu => ⟨.sign x, .inl ⟨x, hx, rfl⟩, by rw [encT]; exact hu⟩⟩
  · dsimp only [tNext]
    refine sq (st_if (gt_test (gv_eqI (gv_var rfl (Is.int (Int.ofNat r))) gv_int)) (fun h3 H3 e3 => ?_) fun h3 H3 e3 => ?_)
    · refine st_ret (R := TrV (LeafOk names signs)) (gv_imp (gv_tup (gi_cons gv_str gi_nil)) fun H4 v _ h4 => ⟨.void, .inr (.inl rfl), by rw [encT]; exact h4⟩) fun v H4 e4 r4 => hQ v H4 c1 (m1.trans ((e2.trans (e3.trans e4)).mod)) (f1.ex (e2.trans (e3.trans e4))) (by omega) r4
    · have m3 := m1.trans ((e2.trans e3).mod)
      dsimp only [tNext]
      refine sf_ret (F := F) (ms := ms) (n := 1) (R := TrV (LeafOk names signs)) (gf_tup2 (gf_ix (ds := dStrs names) (fun H1 c1 mm _ => gv_var rfl (MonoM.mo (m3.trans mm) hn)) (gf_imp (gf_next (k := names.length) hF hm rfl (fun H1 c1 mm f1 => gv_lenO (gv_var (R := LsO ms (dStrs names)) rfl (MonoM.mo (m3.trans mm) hn))) n0) fun H1 v h => by simpa [dStrs] using h)) fun H1 v h => ?_) (f1.ex (e2.trans e3)) (by omega) fun v H4 c3 m4 f3 l3 r3 => hQ v H4 c3 (m3.trans m4) f3 (by omega) r3
      obtain ⟨x, hx, ix⟩ := oneOf_str h
      exact ⟨.str x, ix, fun H2 u hu => ⟨.hole x, .inr (.inr ⟨x, hx, rfl⟩), by rw [encT]; exact hu⟩⟩
end
end K31

namespace K31
open PySem PySem.Spec PyProof.Rows L2 NK Evl
section
variable {P : Program} {w : World} {K : PySem.W.Frag} {mg : Str → Option Value} {base : Heap} {CG CC : Addr}
theorem gf_tupR {F : Fd} {ms : List Addr} {σ : L2.St} {H : Hp} {t : TA} {n : Nat} {RA : Hp → List V → Prop} {R' : HR} (h : GFA F ms t σ H n RA) (i : ∀ H1 vs, RA H1 vs → ∃ ds, IsAll H1 ds vs ∧ ds.length ≤ 100 ∧ ∀ H2 u, Is H2 (.tuple ds) u → R' H2 u) : GF F ms (tTupP t) σ H n R' := fun H1 c1 m1 f1 l Q q =>
  h H1 c1 m1 f1 l _ fun vs H2 c2 m2 f2 l2 r2 => by
    obtain ⟨ds, h1, h3, h2⟩ := i _ _ r2
    exact ⟨by rw [h1.length]; show _ ≤ 16777216; omega, fun p u np pu => q _ _ c2 (m2.trans (Ex.new np).mod) (f2.ex (Ex.new np)) l2 (h2 _ _ (.tup (PtO.mk pu) (IsAll.mono (Tups.new np) _ _ h1)))⟩
def TkV : HR := fun H v => ∃ tk, Is H (encTk tk) v
instance {ms : List Addr} : MonoM ms TkV := ⟨fun m ⟨t, h⟩ => ⟨t, Is.mono m.2 _ _ h⟩⟩
def spTakes (fa : Addr) : List V → Hp → List Addr → Nat → HR → Prop := fun vs H ms n R => ∃ vn names, vs = [.ref fa, vn] ∧ LsO ms (dStrs names) H vn ∧ 0 < names.length ∧ n = 2 ∧ R = TkV
instance {ms : List Addr} {b : Bool} : MonoM ms (EqV (.bl b)) := inferInstance
theorem w_takes (T : Txt K mg CG CC) : Cal P w K mg base 3 "_law_takes" (SpF K spTakes) := by
  refine cal_of T.d_law_takes sc__law_takes b__law_takes (fun vs H Q E ⟨_, _, _, _, _, _, _, ⟨_, _, e, _⟩, _⟩ => by rw [e]; rfl) fun f cdv A outer s H vs Q E hr hq => ?_
  have c__law_next := w_next (P := P) (w := w) (base := base) T
  refine ⟨_, (pss_cons (ps_set (i := 2) sc__law_takes.nd rfl (Or.inl rfl) (pe_c c__law_next hr (by omega) rfl (pa_cons (pv 0) (pa_cons pe_int pa_nil))))
    (pss_cons (ps_if (pt_cmpR op_lt (pv 2) pe_int (nomark _))
      (pss_one (ps_ret pe_non))
      pss_nil)
    (pss_one (ps_ret (pe_tupP (pa_cons (pe_ix ix_list (pv 1) (pe_c c__law_next hr (by omega) rfl (pa_cons (pv 0) (pa_cons (pe_callB cr_len rfl (T.fr "len" (by decide)) (by decide +kernel) (pa_cons (pv 1) pa_nil)) pa_nil))) (fun _ _ => rfl)) (pa_cons (pe_cmpR op_eq (pv 2) pe_int (nomark _)) pa_nil))))))), ?_⟩
  obtain ⟨F, c, n, ms, R, hF, hm, ⟨vn, names, rfl, hn, n0, rfl, rfl⟩, fc, lc, hQ⟩ := hq
  refine sf_asg (n := 1) (gf_next (k := 5) hF hm rfl (fun H1 c1 m1 f1 => gv_int) (by decide)) fc (by omega) fun v3 H1 c1 m1 f1 l1 ⟨r, hr', e3⟩ => ?_
  subst e3
  dsimp only
  refine sq (st_if (gt_test (gv_lt (gv_var rfl (Is.int (Int.ofNat r))) gv_int)) (fun h H2 e2 => ?_) fun h H2 e2 => ?_)
  · exact st_ret (R := TkV) (gv_imp gv_non fun H v _ h => ⟨none, h⟩) fun v H4 e4 r4 => hQ v H4 c1 (m1.trans ((e2.trans e4).mod)) (f1.ex (e2.trans e4)) (by omega) r4
  · have m2 := m1.trans e2.mod
    dsimp only [tNext]
    refine sf_ret (F := F) (ms := ms) (n := 1) (R := TkV) (gf_tupR (n := 1 + 0) (gfa_cons (R := OneOf (dStrs names)) (gf_ix (fun H1 c1 mm _ => gv_var rfl (MonoM.mo (m2.trans mm) hn)) (gf_imp (gf_next (k := names.length) hF hm rfl (fun H1 c1 mm f1 => gv_lenO (gv_var (R := LsO ms (dStrs names)) rfl (MonoM.mo (m2.trans mm) hn))) n0) fun H1 v h => by simpa [dStrs] using h)) (gfa_cons (m := 0) (n := 0) (R := IsV (.bool (decide (Int.ofNat r = 4)))) (gf_pure fun H1 c1 _ _ => gv_eqI (gv_var rfl (Is.int _)) gv_int) gfa_nil)) fun H1 vs h => ?_) (f1.ex e2) (by omega) fun v H4 c3 m4 f3 l3 r3 => hQ v H4 c3 (m2.trans m4) f3 (by omega) r3
    obtain ⟨q1, _, rfl, h1, q2, _, rfl, h2, rfl⟩ := h
    obtain ⟨x, hx, ix⟩ := oneOf_str h1
    exact ⟨[.str x, .bool (decide (Int.ofNat r = 4))], .cons ix (.cons h2 .nil), by simp, fun H2 u hu => ⟨some (x, decide (Int.ofNat r = 4)), hu⟩⟩
mutual
/-- each knot has a kid -/
def fullT : Tr → Bool
  | .knot _ _ ks => !ks.isEmpty && fullTs ks
  | .sign _ => true
  | .void => true
  | .hole _ => true
  | .foot _ => true
def fullTs : List Tr → Bool
  | [] => true
  | t :: ts => fullT t && fullTs ts
end
theorem fullTs_app : ∀ l m : List Tr, fullTs (l ++ m) = (fullTs l && fullTs m)
  | [], m => by simp [fullTs]
  | t :: l, m => by rw [List.cons_append, fullTs, fullTs, fullTs_app l m, Bool.and_assoc]
/-- what a drawn knot is -/
structure KnotP (signs : List Str) (foot : Str) (t : Tr) : Prop where
  kn : tagT t = "knot"
  ft : feetT t = if foot = "" then [] else [foot]
  sg : ∀ s ∈ signsT t, s ∈ signs
  fu : fullT t = true
def spKnotF (K : PySem.W.Frag) (n : Nat) : Sp := fun vs H Q _ => ∃ F la vn vs' deep foot names signs c m, F.K = K ∧ vs = [.ref F.fa, vn, vs', nI deep, .str foot, .ref la] ∧ deep < n ∧ la ≠ F.fa ∧ F.Hb la = none ∧ LsO [F.fa, la] (dStrs names) H vn ∧ LsO [F.fa, la] (dStrs signs) H vs' ∧ 0 < names.length ∧ 0 < signs.length ∧ H la = some (.lst [nI m]) ∧ FdAt F H c ∧ c + 30 * (m + 1) < 2 ^ 40 ∧
  ∀ v H' c' m' t, Mod [F.fa, la] H H' → FdAt F H' c' → H' la = some (.lst [nI m']) → m' ≤ m → c' + 30 * m' ≤ c + 30 * (m + 1) → KnotP signs foot t → szT t + 8 * m' ≤ 8 * (m + 1) → htT t ≤ deep + 1 → Is H' (encT t) v → Q v H'
theorem gf_addC {F : Fd} {ms : List Addr} {σ : L2.St} {H : Hp} {te : TE} {n k : Nat} (h : GF F ms te σ H n (LtV k)) : GF F ms (tOp (rI0 fun i j => .int (i + j)) (tC (.int 1)) te) σ H n (fun _ v => ∃ r, r < k ∧ v = nI (r + 1)) := fun H1 c1 m1 f1 l Q q =>
  h H1 c1 m1 f1 l _ fun v H2 c2 m2 f2 l2 ⟨r, hr, e⟩ => ⟨1, Int.ofNat r, rfl, e, q _ _ c2 m2 f2 l2 ⟨r, hr, by show V.int (1 + Int.ofNat r) = V.int (Int.ofNat (r + 1)); congr 1; simp; omega⟩⟩
theorem feetTs_snoc (l : List Tr) (t : Tr) : feetTs (l ++ [t]) = feetTs l ++ feetT t := by rw [feetTs_app]; simp [feetTs]
theorem signsTs_app : ∀ l m : List Tr, signsTs (l ++ m) = signsTs l ++ signsTs m
  | [], m => rfl
  | t :: l, m => by rw [List.cons_append, signsTs, signsTs, signsTs_app l m, List.append_assoc]
theorem szTs_app : ∀ l m : List Tr, szTs (l ++ m) = szTs l + szTs m
  | [], m => by simp [szTs]
  | t :: l, m => by rw [List.cons_append, szTs, szTs, szTs_app l m]; omega
theorem htTs_app : ∀ l m : List Tr, htTs (l ++ m) = max (htTs l) (htTs m)
  | [], m => by simp [htTs]
  | t :: l, m => by rw [List.cons_append, htTs, htTs, htTs_app l m]; omega
theorem leaf_facts {names signs : List Str} {t : Tr} (h : LeafOk names signs t) : feetT t = [] ∧ szT t = 1 ∧ htT t = 0 ∧ (∀ s ∈ signsT t, s ∈ signs) ∧ fullT t = true := by
  rcases h with ⟨s, hs, rfl⟩ | rfl | ⟨n, hn, rfl⟩
  · exact ⟨rfl, rfl, rfl, fun s' h => by simp [signsT] at h; rw [h]; exact hs, rfl⟩
  · exact ⟨rfl, rfl, rfl, fun s' h => by simp [signsT] at h, rfl⟩
  · exact ⟨rfl, rfl, rfl, fun s' h => by simp [signsT] at h, rfl⟩
theorem not_app {ms : List Addr} {a p : Addr} (h1 : a ∉ ms) (h2 : a ≠ p) : a ∉ ms ++ [p] := fun z => by
  rcases List.mem_append.mp z with z | z
  · exact h1 z
  · exact h2 (List.mem_singleton.mp z)
theorem Mod.drop {ms : List Addr} {H H1 H' : Hp} {p : Addr} (m : Mod (ms ++ [p]) H1 H') (e : Ex H H1) (n : H p = none) : Mod ms H H' :=
  ⟨fun a u h hn => m.1 a u (e a u h) (not_app hn (ne_at h n)), e.tups.trans m.2⟩
theorem LsO.more {ms : List Addr} {ds : List PyData} {H : Hp} {v : V} {p : Addr} (h : LsO ms ds H v) (n : H p = none) : LsO (ms ++ [p]) ds H v := by
  obtain ⟨q, xs, h1, h2, h3, h4⟩ := h
  exact ⟨q, xs, h1, not_app h2 (ne_at h3 n), h3, h4⟩
def BoolIf (p : Prop) : HR := fun _ v => ∃ b : Bool, v = .bl b ∧ (b = true → p)
theorem gf_and {F : Fd} {ms : List Addr} {σ : L2.St} {H : Hp} {ta tb : TE} {n : Nat} {a : Bool} {p : Prop} (h1 : ∀ H1 c1, Mod ms H H1 → FdAt F H1 c1 → Gv ta σ H1 (IsV (.bool a))) (h2 : a = true → GF F ms tb σ H n (BoolIf p)) : GF F ms (tAndV ta tb) σ H n (BoolIf (a = true ∧ p)) := fun H1 c1 m1 f1 l Q q =>
  h1 H1 c1 m1 f1 H1 (Ex.refl _) _ fun v H2 e2 r2 => ⟨a, r2.bl_inv, by
    cases a with
    | true =>
      rw [if_pos rfl]
      exact h2 rfl H2 c1 (m1.trans e2.mod) (f1.ex e2) l _ fun v H3 c3 m3 f3 l3 ⟨b, hb, hp⟩ => q v H3 c3 (e2.mod.trans m3) f3 l3 ⟨b, hb, fun h => ⟨rfl, hp h⟩⟩
    | false =>
      rw [if_neg Bool.false_ne_true]
      exact q _ _ c1 e2.mod (f1.ex e2) (by omega) ⟨false, rfl, fun h => by cases h⟩⟩
theorem gf_ltN {F : Fd} {ms : List Addr} {σ : L2.St} {H : Hp} {ta tb : TE} {n k : Nat} {j : Int} (h1 : GF F ms ta σ H n (LtV k)) (h2 : ∀ H1 c1, Mod ms H H1 → FdAt F H1 c1 → Gv tb σ H1 (IsV (.int j))) : GF F ms (tOp (rI0 fun i j => .bl (decide (i < j))) ta tb) σ H n (BoolIf True) := fun H1 c1 m1 f1 l Q q =>
  h1 H1 c1 m1 f1 l _ fun v H2 c2 m2 f2 l2 ⟨r, hr, e⟩ => h2 H2 c2 (m1.trans m2) f2 H2 (Ex.refl _) _ fun y H3 e3 ry => ⟨Int.ofNat r, j, e, ry.int_inv, q _ _ c2 (m2.trans e3.mod) (f2.ex e3) l2 ⟨_, rfl, fun _ => trivial⟩⟩
/-- left[0] -/
theorem gv_ixN {σ : L2.St} {H : Hp} {ta : TE} {a : Addr} {m : Nat} (h : Gv ta σ H (EqV (.ref a))) (hl : H a = some (.lst [nI m])) : Gv (tOp (rIxL K) ta (tC (.int 0))) σ H (IsV (.int (Int.ofNat m))) := gv_imp (gv_ixQ (v := nI m) h gv_int (sq_of hl) rfl) fun H1 v _ (r : v = nI m) => by rw [r]; exact .int _
theorem ms_upd {H : Hp} {fa la : Addr} {o u : HO} (h : H fa = some u) (ne : la ≠ fa) (t : Mut (H la)) : Mod [la] H (upd H la o) := (Mod.refl _ _).updM (by simp) t
theorem call_run {σ : L2.St} {H : Hp} {sp : Sp} {E : XK} {t : TA} {RA : Hp → List V → Prop} {Q : VK} (h : GvA t σ H RA) (q : ∀ vs H1, Ex H H1 → RA H1 vs → sp vs H1 Q E) : tCall sp [] E t σ H Q := h H (Ex.refl _) _ fun vs H1 e r => by
  rw [List.append_nil]
  exact q vs H1 e r
theorem gv_tupOf {σ : L2.St} {H : Hp} {ta : TE} {ds : List PyData} (h : Gv ta σ H (LsV ds)) : Gv (tCB (rTupOf K) (tCons ta tNil)) σ H (IsV (.tuple ds)) := fun H1 e1 Q q =>
  h H1 e1 _ fun v H2 e2 r => by
    obtain ⟨p, xs, rfl, hp, al⟩ := r
    exact ⟨p, xs, rfl, sq_of hp, fun l u np pu => q _ _ (e2.trans (Ex.new np)) (.tup (PtO.mk pu) (IsAll.mono (Tups.new np) _ _ al))⟩
theorem w_knotF_step (T : Txt K mg CG CC) (n : Nat) (c__law_knot : Cal P w K mg base (n + 4) "_law_knot" (spKnotF K n)) : Cal P w K mg base (n + 5) "_law_knot" (spKnotF K (n + 1)) := by
  refine cal_of T.d_law_knot sc__law_knot b__law_knot (fun vs H Q E ⟨_, _, _, _, _, _, _, _, _, _, _, e, _⟩ => by rw [e]; rfl) fun f cdv A outer s H vs Q E hr hq => ?_
  have c__law_next := w_next (P := P) (w := w) (base := base) T
  have c__law_leaf := w_leafF (P := P) (w := w) (base := base) T
  have c__law_takes := w_takes (P := P) (w := w) (base := base) T
  refine ⟨_, (pss_cons (ps_set (i := 6) sc__law_knot.nd rfl (Or.inl rfl) (pe_lst pa_nil))
    (pss_cons (ps_set (i := 7) sc__law_knot.nd rfl (Or.inl rfl) (pe_op op_add pe_int (pe_c c__law_next hr (by omega) rfl (pa_cons (pv 0) (pa_cons pe_int pa_nil)))))
    (pss_cons (ps_if (pt_cmpR op_eq (pe_c c__law_next hr (by omega) rfl (pa_cons (pv 0) (pa_cons pe_int pa_nil))) pe_int (nomark _))
      (pss_one (ps_set (i := 7) sc__law_knot.nd rfl (Or.inl rfl) (pe_op op_add (pv 7) pe_int)))
      pss_nil)
    (pss_cons (ps_set (i := 8) sc__law_knot.nd rfl (Or.inl rfl) (pe_c c__law_next hr (by omega) rfl (pa_cons (pv 0) (pa_cons (pv 7) pa_nil))))
    (pss_cons (ps_for PassesOwn.never rfl (pi_range1 (by rfl) (T.fr "range" (by decide)) (pa_cons (pv 7) pa_nil)) (pg_name (i := 9) sc__law_knot.nd rfl (Or.inl rfl))
      (pss_cons (ps_set (i := 10) sc__law_knot.nd rfl (Or.inl rfl) (pe_and (pe_cmpR op_ne (pv 4) pe_str (nomark _)) (pe_one (pe_cmpR op_eq (pv 9) (pv 8) (nomark _)))))
      (pss_cons (ps_set (i := 11) sc__law_knot.nd rfl (Or.inl rfl) (pe_and (pe_cmpR op_gt (pv 3) pe_int (nomark _)) (pe_and (pe_cmpR op_gt (pe_ix ix_list (pv 5) pe_int (fun _ _ => rfl)) pe_int (nomark _)) (pe_one (pe_cmpR op_lt (pe_c c__law_next hr (by omega) rfl (pa_cons (pv 0) (pa_cons pe_int pa_nil))) (pe_op op_add pe_int (pe_callTy cr_int rfl (T.fr "int" (by decide)) (by decide +kernel) (pa_cons (pv 10) pa_nil))) (nomark _))))))
      (pss_one (ps_if (pt_val (pv 11))
        (pss_cons (ps_asg (pe_op op_sub (pe_ix ix_list (pv 5) pe_int (fun _ _ => rfl)) pe_int) (pg_sub (pv 5) pe_int set_list))
        (pss_one (ps_expr (pe_bm PySem.F.plainAttrs_list PySem.F.slot_list_append PySem.F.type_list_append mt_append (pv 6) (pa_cons (pe_c c__law_knot hr (by omega) rfl (pa_cons (pv 0) (pa_cons (pv 1) (pa_cons (pv 2) (pa_cons (pe_op op_sub (pv 3) pe_int) (pa_cons (pe_ix ix_list (pe_lst (pa_cons pe_str (pa_cons (pv 4) pa_nil))) (pe_callTy cr_int rfl (T.fr "int" (by decide)) (by decide +kernel) (pa_cons (pv 10) pa_nil)) (fun _ _ => rfl)) (pa_cons (pv 5) pa_nil))))))) pa_nil)))))
        (pss_one (ps_if (pt_val (pv 10))
          (pss_one (ps_expr (pe_bm PySem.F.plainAttrs_list PySem.F.slot_list_append PySem.F.type_list_append mt_append (pv 6) (pa_cons (pe_tupP (pa_cons pe_str (pa_cons (pv 4) pa_nil))) pa_nil))))
          (pss_one (ps_expr (pe_bm PySem.F.plainAttrs_list PySem.F.slot_list_append PySem.F.type_list_append mt_append (pv 6) (pa_cons (pe_c c__law_leaf hr (by omega) rfl (pa_cons (pv 0) (pa_cons (pv 1) (pa_cons (pv 2) pa_nil)))) pa_nil)))))))))))
    (pss_one (ps_ret (pe_tupP (pa_cons pe_str (pa_cons (pe_ix ix_list (pv 1) (pe_c c__law_next hr (by omega) rfl (pa_cons (pv 0) (pa_cons (pe_callB cr_len rfl (T.fr "len" (by decide)) (by decide +kernel) (pa_cons (pv 1) pa_nil)) pa_nil))) (fun _ _ => rfl)) (pa_cons (pe_c c__law_takes hr (by omega) rfl (pa_cons (pv 0) (pa_cons (pv 1) pa_nil))) (pa_cons (pe_callTy cr_tupOf rfl (T.fr "tuple" (by decide)) (by decide +kernel) (pa_cons (pv 6) pa_nil)) pa_nil)))))))))))), ?_⟩
  obtain ⟨F, la, vn, vs', deep, foot, names, signs, c, m, hF, rfl, hdp, hla, hbl, hn, hs, n0, s0, hl, fc, lc, hQ⟩ := hq
  refine st_new0 fun kp nkp => ?_
  dsimp only
  have x1 := Ex.new (o := .lst []) nkp
  have hfa : F.fa ∈ [F.fa] := by simp
  have nkf : kp ≠ F.fa := Ne.symm (ne_at fc.at_ nkp)
  have nkl : kp ≠ la := Ne.symm (ne_at hl nkp)
  have hn1 := Mono.mo x1 (LsO.more hn nkp)
  have hs1 := Mono.mo x1 (LsO.more hs nkp)
  have hl1 := x1 _ _ hl
  have fc1 := fc.ex x1
  have hbk : F.Hb kp = none := fresh_back fc.ex_ nkp
  have hk1 : upd H kp (.lst []) kp = some (.lst []) := upd_same
  generalize upd H kp (.lst []) = Ha at x1 hn1 hs1 hl1 fc1 hk1
  have wide : ∀ {H1 H2 : Hp}, Mod [F.fa] H1 H2 → Mod ([F.fa, la] ++ [kp]) H1 H2 := fun mm => mm.wide (by simp)
  have subf : ∀ {ds : List PyData} {H' : Hp} {v : V}, LsO ([F.fa, la] ++ [kp]) ds H' v → LsO [F.fa] ds H' v := fun h => h.sub (by simp)
  refine sq (sf_asg (F := F) (ms := [F.fa]) (n := 1) (gf_addC (gf_next (k := 3) hF hfa rfl (fun H1 c1 m1 f1 => gv_int) (by decide))) fc1 (by omega) fun v7 H1 c1 m1 f1 l1 ⟨r, hr', e7⟩ => ?_)
  subst e7
  dsimp only
  -- after the draw of a size
  have body : ∀ (H2 : Hp) (c2 sz : Nat) (hsz : 0 < sz) (hsz7 : sz ≤ 7), Mod [F.fa] Ha H2 → FdAt F H2 c2 → c2 ≤ c + 2 → ∀ (z8 z9 z10 z11 : Option V), tSeq (tAsg (tCall (spNext K) [] E0 (tCons (tVar 0) (tCons (tVar 7) tNil))) (gName 8))
      (tSeq (tFor (iRng1 (tCons (tVar 7) tNil)) (gName 9)
        (tSeq (tAsg (tAndV (tOp rNe (tVar 4) (tC (.str ""))) (tOp rEq (tVar 9) (tVar 8))) (gName 10))
          (tSeq (tAsg (tAndV (tOp (rI0 fun i j => .bl (decide (j < i))) (tVar 3) (tC (.int 0))) (tAndV (tOp (rI0 fun i j => .bl (decide (j < i))) (tOp (rIxL K) (tVar 5) (tC (.int 0))) (tC (.int 0))) (tOp (rI0 fun i j => .bl (decide (i < j))) (tCall (spNext K) [] E0 (tCons (tVar 0) (tCons (tC (.int 3)) tNil))) (tOp (rI0 fun i j => .int (i + j)) (tC (.int 1)) (tCB rIntB (tCons (tVar 10) tNil)))))) (gName 11))
            (tIfS (tB (tVar 11))
              (tSeq (tAsg (tOp (rI0 fun i j => .int (i - j)) (tOp (rIxL K) (tVar 5) (tC (.int 0))) (tC (.int 1))) (gSub (tVar 5) (tC (.int 0)) rSetL))
                (tDrop (tBM K "list" rAppend (tVar 6) (tCons (tCall (spKnotF K n) [] E0 (tCons (tVar 0) (tCons (tVar 1) (tCons (tVar 2) (tCons (tOp (rI0 fun i j => .int (i - j)) (tVar 3) (tC (.int 1))) (tCons (tOp (rIxL K) (tLst (tCons (tC (.str "")) (tCons (tVar 4) tNil))) (tCB rIntB (tCons (tVar 10) tNil))) (tCons (tVar 5) tNil))))))) tNil))))
              (tIfS (tB (tVar 10)) (tDrop (tBM K "list" rAppend (tVar 6) (tCons (tTupP (tCons (tC (.str "foot")) (tCons (tVar 4) tNil))) tNil)))
                (tDrop (tBM K "list" rAppend (tVar 6) (tCons (tCall (SpF K spLeafF) [] E0 (tCons (tVar 0) (tCons (tVar 1) (tCons (tVar 2) tNil)))) tNil))))))))
        (tRet (tTupP (tCons (tC (.str "knot")) (tCons (tOp (rIxL K) (tVar 1) (tCall (spNext K) [] E0 (tCons (tVar 0) (tCons (tCB (rLn K) (tCons (tVar 1) tNil)) tNil)))) (tCons (tCall (SpF K spTakes) [] E0 (tCons (tVar 0) (tCons (tVar 1) tNil))) (tCons (tCB (rTupOf K) (tCons (tVar 6) tNil)) tNil)))))))
      { nx := fun _ H' => Q .non H', rt := Q } [some (.ref F.fa), some vn, some vs', some (nI deep), some (.str foot), some (.ref la), some (.ref kp), some (nI sz), z8, z9, z10, z11] H2 := by
    intro H2 c2 sz hsz hsz7 m2 f2 l2 z8 z9 z10 z11
    refine sq (sf_asg (F := F) (ms := [F.fa]) (n := 1) (gf_next (k := sz) hF hfa rfl (fun H1 c1 m1 f1 => gv_var rfl (Is.int _)) hsz) f2 (by omega) fun v8 H3 c3 m3 f3 l3 ⟨spot, hspot, e8⟩ => ?_)
    subst e8
    have m03 := m2.trans m3
    have k3 : ∀ {H' : Hp} {a : Addr} {u : HO}, Mod [F.fa] Ha H' → a ≠ F.fa → Ha a = some u → H' a = some u := fun mm ne h => mm.1 _ _ h (by simpa using ne)
    dsimp only
    refine sq (st_forR (n := sz) (gv_var rfl (Is.int _)) (by omega) fun H4 e4 => ?_)
    let Iv : Nat → L2.St → Hp → Prop := fun i σ' H' => ∃ z9 z10 z11 ci mi ts xs, σ' = [some (.ref F.fa), some vn, some vs', some (nI deep), some (.str foot), some (.ref la), some (.ref kp), some (nI sz), some (nI spot), z9, z10, z11] ∧
      Mod ([F.fa, la] ++ [kp]) Ha H' ∧ FdAt F H' ci ∧ H' la = some (.lst [nI mi]) ∧ H' kp = some (.lst xs) ∧ IsAll H' (ts.map encT) xs ∧ ts.length = i ∧ mi ≤ m ∧ ci + 30 * mi ≤ c + 3 + 3 * i + 30 * m ∧ szTs ts + 8 * mi ≤ i + 8 * m ∧ htTs ts ≤ deep ∧
      feetTs ts = (if foot = "" then [] else if spot < i then [foot] else []) ∧ (∀ s ∈ signsTs ts, s ∈ signs) ∧ fullTs ts = true
    refine ⟨Iv, ⟨_, _, _, c3, m, [], [], rfl, (wide m03).trans e4.mod, f3.ex e4, e4 _ _ (k3 m03 hla hl1), e4 _ _ (k3 m03 nkf hk1), .nil, rfl, Nat.le_refl _, by omega, by simp [szTs], by simp [htTs], by simp [feetTs], by simp [signsTs], rfl⟩, ?_, ?_⟩
    · rintro i σ' H5 hi ⟨z9, z10, z11, ci, mi, ts, xs, rfl, m5, f5, l5, k5, al5, len5, q1, q2, q3, q4, q5, q6, q7⟩
      have hn5 := MonoM.mo m5 hn1
      have hs5 := MonoM.mo m5 hs1
      -- one kid more
      have fin : ∀ (H6 : Hp) (c6 m6 : Nat) (t : Tr) (v : V) (y10 y11 : Option V), Mod ([F.fa, la] ++ [kp]) H5 H6 → FdAt F H6 c6 → H6 la = some (.lst [nI m6]) → H6 kp = some (.lst xs) → Is H6 (encT t) v → m6 ≤ m → c6 + 30 * m6 ≤ c + 3 + 3 * (i + 1) + 30 * m → szTs ts + szT t + 8 * m6 ≤ (i + 1) + 8 * m → htT t ≤ deep → feetT t = (if foot = "" then [] else if i = spot then [foot] else []) → (∀ s ∈ signsT t, s ∈ signs) → fullT t = true →
          Iv (i + 1) [some (.ref F.fa), some vn, some vs', some (nI deep), some (.str foot), some (.ref la), some (.ref kp), some (nI sz), some (nI spot), some (.int (Int.ofNat i)), y10, y11] (upd H6 kp (.lst (xs ++ [v]))) := by
        intro H6 c6 m6 t v y10 y11 m56 f6 l6 k6 it r1 r2 r3 r4 r5 r6 r7
        have t6 : Tups H6 (upd H6 kp (.lst (xs ++ [v]))) := Tups.mut (mut_at k6)
        have m6' : Mod ([F.fa, la] ++ [kp]) H6 (upd H6 kp (.lst (xs ++ [v]))) := (Mod.refl _ _).updM (by simp) (mut_at k6)
        refine ⟨_, _, _, c6, m6, ts ++ [t], xs ++ [v], rfl, (m5.trans m56).trans m6', ?_, by rw [upd_ne (Ne.symm nkl)]; exact l6, upd_same, ?_, by simp [len5], r1, r2, ?_, ?_, ?_, ?_, by rw [fullTs_app, q7, fullTs, r7]; rfl⟩
        · exact Feed.mod f6 (ms := [kp]) ((Mod.refl _ _).updM (by simp) (mut_at k6)) (fun a ha => by rw [List.mem_singleton.mp ha]; exact hbk) (by rw [upd_ne (Ne.symm nkf)]; exact f6.at_)
        · rw [List.map_append]
          exact (IsAll.mono t6 _ _ (IsAll.mono m56.2 _ _ al5)).append (.cons (Is.mono t6 _ _ it) .nil)
        · rw [szTs_app, szTs, szTs]; omega
        · rw [htTs_app, htTs, htTs]; omega
        · rw [feetTs_snoc, q5, r5]
          by_cases hf : foot = ""
          · simp [hf]
          · simp only [if_neg hf]
            by_cases h1 : spot < i
            · rw [if_pos h1, if_neg (by omega), if_pos (by omega)]; rfl
            · rw [if_neg h1]
              by_cases h2 : i = spot
              · rw [if_pos h2, if_pos (by omega)]; rfl
              · rw [if_neg h2, if_neg (by omega)]; rfl
        · intro s hs
          rw [signsTs_app] at hs
          rcases List.mem_append.mp hs with h | h
          · exact q6 s h
          · simp only [signsTs, List.append_nil] at h
            exact r6 s h
      -- footed
      refine sq (st_asg (R := IsV (.bool (!decide (foot = "") && decide (i = spot)))) (gv_is (gv_andV (gv_neS (gv_var rfl (Is.str foot)) gv_str) fun _ => gv_eqI (gv_var rfl (Is.int (Int.ofNat i))) (gv_var rfl (Is.int (Int.ofNat spot)))) (by congr 2; exact decide_eq_decide.mpr Int.ofNat_inj)) fun v10 H6 e6 r10 => ?_)
      rw [r10.bl_inv]
      have f6 := f5.ex e6
      have l6 := e6 _ _ l5
      have k6 := e6 _ _ k5
      generalize hft : (!decide (foot = "") && decide (i = spot)) = ft at r10
      dsimp only
      -- kid_in
      refine sq (sf_asg (F := F) (ms := [F.fa]) (n := 1) (R := BoolIf (0 < deep ∧ 0 < mi)) (gf_imp (gf_and (a := decide ((0 : Int) < Int.ofNat deep)) (fun H1 c1 mm _ => gv_gt (gv_var rfl (Is.int (Int.ofNat deep))) gv_int) fun _ => gf_and (a := decide ((0 : Int) < Int.ofNat mi)) (fun H1 c1 mm _ => gv_gt (gv_ixN (gv_ref rfl) (mm.1 _ _ l6 (by simpa using hla))) gv_int) fun _ => gf_ltN (k := 3) (gf_next hF hfa rfl (fun H1 c1 m1 f1 => gv_int) (by decide)) fun H1 c1 mm _ => gv_add gv_int (gv_intB (gv_var rfl (Is.bl ft)))) fun H1 v ⟨b, hb, hb2⟩ => ⟨b, hb, fun hbt => ?_⟩) f6 (by omega) fun v11 H7 c7 m7 f7 l7 ⟨ki, e11, hki⟩ => ?_)
      · obtain ⟨h1, h2, _⟩ := hb2 hbt
        have h1 := of_decide_eq_true h1
        have h2 := of_decide_eq_true h2
        simp at h1 h2
        omega
      subst e11
      have l7' := m7.1 _ _ l6 (by simpa using hla)
      have k7 := m7.1 _ _ k6 (by simpa using nkf)
      have m57 : Mod ([F.fa, la] ++ [kp]) H5 H7 := e6.mod.trans (wide m7)
      dsimp only
      refine st_if (gt_B (gv_var rfl (Is.bl ki))) (fun h H8 e8 => ?_) fun h H8 e8 => ?_
      · obtain ⟨hd0, hm0⟩ := hki h
        have l8 := e8 _ _ l7'
        refine sq ?_
        refine (gv_is (gv_sub (gv_ixN (gv_ref rfl) l8) gv_int) (show PyData.int (Int.ofNat mi - 1) = .int (Int.ofNat (mi - 1)) by congr 1; simp; omega) : Gv _ _ _ _) H8 (Ex.refl _) _ fun v9 H9 e9 r9 => ?_
        have l9 := e9 _ _ l8
        refine ⟨.ref la, rfl, la, _, 0, 0, rfl, rfl, l9, rfl, ?_⟩
        rw [r9.int_inv]
        have el : [nI mi].set 0 (V.int (Int.ofNat (mi - 1))) = [nI (mi - 1)] := rfl
        rw [el]
        have f9 := (f7.ex e8).ex e9
        have m9 : Mod ([F.fa, la] ++ [kp]) H9 (upd H9 la (.lst [nI (mi - 1)])) := (Mod.refl _ _).updM (by simp) (mut_at l9)
        have f10 : FdAt F (upd H9 la (.lst [nI (mi - 1)])) c7 := Feed.mod f9 (ms := [la]) (ms_upd f9.at_ hla (mut_at l9)) (fun a ha => by rw [List.mem_singleton.mp ha]; exact hbl) (by rw [upd_ne (Ne.symm hla)]; exact f9.at_)
        have l10 : upd H9 la (.lst [nI (mi - 1)]) la = some (.lst [nI (mi - 1)]) := upd_same
        have k10 : upd H9 la (.lst [nI (mi - 1)]) kp = some (.lst xs) := by rw [upd_ne nkl]; exact e9 _ _ (e8 _ _ k7)
        have m10 := m57.trans ((e8.trans e9).mod.trans m9)
        generalize upd H9 la (.lst [nI (mi - 1)]) = H10 at f10 l10 k10 m10
        dsimp only
        refine ⟨.ref kp, rfl, Or.inl ⟨rfl, xs, sq_of k10⟩, ?_⟩
        have hdI : Int.ofNat deep - 1 = Int.ofNat (deep - 1) := by simp; omega
        refine call_run (ga_cons (R := EqV (.ref F.fa)) (gv_ref rfl) (ga_cons (R := LsO [F.fa, la] (dStrs names)) (gv_var rfl (LsO.sub (MonoM.mo m10 hn5) (by simp))) (ga_cons (R := LsO [F.fa, la] (dStrs signs)) (gv_var rfl (LsO.sub (MonoM.mo m10 hs5) (by simp))) (ga_cons (R := IsV (.int (Int.ofNat (deep - 1)))) (gv_is (gv_sub (gv_var rfl (Is.int (Int.ofNat deep))) gv_int) (by rw [hdI])) (ga_cons (R := IsV (.str (if ft then foot else ""))) (gv_ixL (ds := [.str "", .str foot]) (gv_lst (gi_cons gv_str (gi_cons (gv_var rfl (Is.str foot)) gi_nil))) (gv_intB (gv_var rfl (Is.bl ft))) (by cases ft <;> rfl)) (ga_cons (R := EqV (.ref la)) (gv_ref rfl) ga_nil)))))) fun vs H11 e11 ra => ?_
        obtain ⟨a1, _, rfl, rfl, a2, _, rfl, i2, a3, _, rfl, i3, a4, _, rfl, i4, a5, _, rfl, i5, a6, _, rfl, rfl, rfl⟩ := ra
        rw [i4.int_inv, i5.str_inv]
        refine ⟨F, la, a2, a3, deep - 1, if ft then foot else "", names, signs, c7, mi - 1, hF, rfl, by omega, hla, hbl, i2, i3, n0, s0, e11 _ _ l10, f10.ex e11, by omega, fun v H12 c12 m12 t mm f12 l12 g1 g2 kt g3 g4 it => ?_⟩
        have k12 := mm.1 _ _ (e11 _ _ k10) (by simp [nkf, nkl])
        refine ⟨kp, xs, v, rfl, rfl, k12, ?_, fin H12 c12 m12 t v _ _ (m10.trans (e11.mod.trans (mm.wide (by simp)))) f12 l12 k12 it (by omega) (by omega) (by omega) (by omega) ?_ kt.sg kt.fu⟩
        · rw [al5.length, List.length_map]
          show _ < 16777216
          omega
        · rw [kt.ft, ← hft]
          by_cases hf : foot = ""
          · simp [hf]
          · by_cases h2 : i = spot
            · simp [hf, h2]
            · simp [hf, h2]
      · have m58 := m57.trans (e8.mod : Mod ([F.fa, la] ++ [kp]) H7 H8)
        have f8 := f7.ex e8
        have l8 := e8 _ _ l7'
        have k8 := e8 _ _ k7
        refine st_if (gt_B (gv_var rfl (Is.bl ft))) (fun h2 H9 e9 => ?_) fun h2 H9 e9 => ?_
        · have hfs : ¬ foot = "" ∧ i = spot := by
            rw [← hft] at h2
            simpa using h2
          refine st_app (R := IsV (encT (.foot foot))) (e9 _ _ k8) (ev_var rfl) (gv_is (gv_tup (gi_cons gv_str (gi_cons (gv_var rfl (Is.str foot)) gi_nil))) (by rw [encT])) ?_ fun v H10 e10 r10' => ?_
          · rw [al5.length, List.length_map]
            show _ < 16777216
            omega
          · have e810 := e9.trans e10
            refine fin H10 c7 mi (.foot foot) v _ _ (m58.trans e810.mod) (f8.ex e810) (e810 _ _ l8) (e810 _ _ k8) r10' q1 (by omega) (by rw [szT]; omega) (by rw [htT]; omega) ?_ (by simp [signsT]) rfl
            rw [feetT, if_neg hfs.1, if_pos hfs.2]
        · have hfs : foot = "" ∨ i ≠ spot := by
            rw [← hft] at h2
            by_cases h3 : foot = ""
            · exact .inl h3
            · exact .inr fun h4 => by simp [h3, h4] at h2
          have k9 := e9 _ _ k8
          refine ⟨.ref kp, rfl, Or.inl ⟨rfl, xs, sq_of k9⟩, ?_⟩
          have m59 := m58.trans (e9.mod : Mod ([F.fa, la] ++ [kp]) H8 H9)
          refine gf_call (F := F) (ms := [F.fa]) (m := 0 + (0 + (0 + 0))) (n := 2) (RA := ConsR (EqV (.ref F.fa)) (ConsR (LsO [F.fa] (dStrs names)) (ConsR (LsO [F.fa] (dStrs signs)) NilR))) (R := TrV (LeafOk names signs)) hF hfa (by simp) (gfa_cons (m := 0) (gf_pure fun _ _ _ _ => gv_ref rfl) (gfa_cons (m := 0) (gf_pure fun H1 c1 mm _ => gv_var rfl (MonoM.mo mm (subf (MonoM.mo m59 hn5)))) (gfa_cons (m := 0) (n := 0) (gf_pure fun H1 c1 mm _ => gv_var rfl (MonoM.mo mm (subf (MonoM.mo m59 hs5)))) gfa_nil))) (fun vs H1 c1 mm f1 ra => ?_) H9 c7 (Mod.refl _ _) (f8.ex e9) (by omega) _ fun v H10 c10 m10 f10 l10 r10' => ?_
          · obtain ⟨a1, _, rfl, rfl, a2, _, rfl, i2, a3, _, rfl, i3, rfl⟩ := ra
            exact ⟨a2, a3, names, signs, rfl, i2, i3, n0, s0, rfl, rfl⟩
          · obtain ⟨t, lt, it⟩ := r10'
            obtain ⟨g1, g2, g3, g4, g5⟩ := leaf_facts lt
            have k10 := m10.1 _ _ k9 (by simpa using nkf)
            refine ⟨kp, xs, v, rfl, rfl, k10, ?_, fin H10 c10 mi t v _ _ (m59.trans (wide m10)) f10 (m10.1 _ _ (e9 _ _ l8) (by simpa using hla)) k10 it q1 (by omega) (by omega) (by omega) ?_ g4 g5⟩
            · rw [al5.length, List.length_map]
              show _ < 16777216
              omega
            · rw [g1]
              rcases hfs with h | h
              · rw [if_pos h]
              · by_cases h3 : foot = ""
                · rw [if_pos h3]
                · rw [if_neg h3, if_neg h]
    · rintro σ' H5 ⟨z9, z10, z11, ci, mi, ts, xs, rfl, m5, f5, l5, k5, al5, len5, q1, q2, q3, q4, q5, q6, q7⟩
      dsimp only
      have hn5 := MonoM.mo m5 hn1
      refine sf_ret (F := F) (ms := [F.fa]) (n := 0 + (1 + (2 + (0 + 0)))) (R := fun H1 v => ∃ nm tk, Is H1 (encT (.knot nm tk ts)) v) (gf_tupR (gfa_cons (m := 0) (R := IsV (.str "knot")) (gf_pure fun _ _ _ _ => gv_str) (gfa_cons (m := 1) (R := OneOf (dStrs names)) (gf_ix (fun H1 c1 mm _ => gv_var rfl (MonoM.mo mm (subf hn5))) (gf_imp (gf_next (k := names.length) hF hfa rfl (fun H1 c1 mm f1 => gv_lenO (gv_var (R := LsO [F.fa] (dStrs names)) rfl (MonoM.mo mm (subf hn5)))) n0) fun H1 v h => by simpa [dStrs] using h)) (gfa_cons (m := 2) (R := TkV) (gf_call (m := 0 + (0 + 0)) (n := 2) (RA := ConsR (EqV (.ref F.fa)) (ConsR (LsO [F.fa] (dStrs names)) NilR)) hF hfa (by simp) (gfa_cons (m := 0) (gf_pure fun _ _ _ _ => gv_ref rfl) (gfa_cons (m := 0) (n := 0) (gf_pure fun H1 c1 mm _ => gv_var rfl (MonoM.mo mm (subf hn5))) gfa_nil)) fun vs H1 c1 mm f1 ra => ?_) (gfa_cons (m := 0) (n := 0) (R := IsV (.tuple (ts.map encT))) (gf_pure fun H1 c1 mm f1 => gv_tupOf (gv_var (R := LsV (ts.map encT)) rfl ⟨kp, xs, rfl, mm.1 _ _ k5 (by simpa using nkf), IsAll.mono mm.2 _ _ al5⟩)) gfa_nil)))) fun H1 vs h => ?_) f5 (by omega) fun v H6 c6 m6 f6 l6 r6 => ?_
      · obtain ⟨a1, _, rfl, rfl, a2, _, rfl, i2, rfl⟩ := ra
        exact ⟨a2, names, rfl, i2, n0, rfl, rfl⟩
      · obtain ⟨a1, _, rfl, i1, a2, _, rfl, i2, a3, _, rfl, ⟨tk, i3⟩, a4, _, rfl, i4, rfl⟩ := h
        obtain ⟨nm, hnm, i2⟩ := oneOf_str i2
        exact ⟨[.str "knot", .str nm, encTk tk, .tuple (ts.map encT)], .cons i1 (.cons i2 (.cons i3 (.cons i4 .nil))), by simp, fun H2 u hu => ⟨nm, tk, by rw [encT, encTs_map]; exact hu⟩⟩
      · obtain ⟨nm, tk, r6⟩ := r6
        · have m56 := m5.trans (wide m6)
          refine hQ v H6 c6 mi (.knot nm tk ts) (Mod.drop m56 x1 nkp) f6 (m6.1 _ _ l5 (by simpa using hla)) q1 (by omega) ⟨rfl, ?_, ?_, ?_⟩ ?_ ?_ r6
          · rw [feetT, q5]
            by_cases hf : foot = ""
            · rw [if_pos hf, if_pos hf]
            · rw [if_neg hf, if_neg hf, if_pos hspot]
          · rw [signsT]; exact q6
          · rw [fullT, q7]
            cases ts with
            | nil => exact absurd len5 (by show ¬ 0 = sz; omega)
            | cons _ _ => rfl
          · rw [szT]; omega
          · rw [htT]; omega
  -- next(feed, 16) == 0
  refine gf_next (F := F) (ms := [F.fa]) (k := 16) hF hfa rfl (fun H1 c1 m1 f1 => gv_int) (by decide) H1 c1 (Mod.refl _ _) f1 (by omega) _ fun v2 H2 c2 m2 f2 l2 ⟨r2, hr2, e2⟩ => ?_
  subst e2
  refine ⟨rfl, _, rfl, ite2 (fun _ => ?_) (fun _ => ?_)⟩
  · refine st_asg (R := IsV (.int (Int.ofNat (r + 1 + 4)))) (gv_is (gv_add (gv_var rfl (Is.int (Int.ofNat (r + 1)))) gv_int) rfl) fun v3 H3 e3 r3 => ?_
    rw [r3.int_inv]
    exact body H3 c2 (r + 1 + 4) (by omega) (by omega) ((m1.trans m2).trans e3.mod) (f2.ex e3) (by omega) _ _ _ _
  · exact body H2 c2 (r + 1) (by omega) (by omega) (m1.trans m2) f2 (by omega) _ _ _ _
end
end K31

namespace K31
open PySem PySem.Spec PyProof.Rows L2 NK Evl
section
variable {P : Program} {w : World} {K : PySem.W.Frag} {mg : Str → Option Value} {base : Heap} {CG CC : Addr}
theorem w_knotF (T : Txt K mg CG CC) : ∀ n, Cal P w K mg base (n + 4) "_law_knot" (spKnotF K n)
  | 0 => cal_none 4 (fun vs H Q E ⟨_, _, _, _, _, _, _, _, _, _, _, _, h, _⟩ => by omega) T.d_law_knot b__law_knot
  | n + 1 => w_knotF_step T n (w_knotF T n)
def spSigns (n : Nat) : List V → Hp → HR → Prop := fun vs H R => ∃ t, IsAll H [encT t] vs ∧ htT t < n ∧ szT t ≤ 10000 ∧ R = LsV (dStrs (signsT t))
def spFeetF (n : Nat) : List V → Hp → HR → Prop := fun vs H R => ∃ t, IsAll H [encT t] vs ∧ htT t < n ∧ szT t ≤ 10000 ∧ R = LsV (dStrs (feetT t))
theorem signsTs_len' {ts pre post : List Tr} {d : Tr} (e : ts = pre ++ d :: post) : (signsTs pre).length + (signsT d).length ≤ szTs ts := by
  have h := signsTs_len ts
  rw [e, signsTs_app, signsTs] at h
  rw [List.length_append, List.length_append] at h
  rw [e]
  omega
theorem feetTs_len' {ts pre post : List Tr} {d : Tr} (e : ts = pre ++ d :: post) : (feetTs pre).length + (feetT d).length ≤ szTs ts := by
  have h := feetTs_len ts
  rw [e, feetTs_app, feetTs] at h
  rw [List.length_append, List.length_append] at h
  rw [e]
  omega
theorem w_signs_step (T : Txt K mg CG CC) (n : Nat) (c__law_signs : Cal P w K mg base (n + 1) "_law_signs" (SpR (spSigns n))) : Cal P w K mg base (n + 2) "_law_signs" (SpR (spSigns (n + 1))) := by
  refine cal_of T.d_law_signs sc__law_signs b__law_signs (fun vs H Q E ⟨R, ⟨t, ha, _⟩, _⟩ => ha.length) fun f cdv A outer s H vs Q E hr hq => ?_
  refine ⟨_, (pss_cons (ps_if (pt_cmpR op_eq (pe_ix ix_tup (pv 0) pe_int (fun _ _ => rfl)) pe_str (nomark _))
      (pss_one (ps_ret (pe_lst (pa_cons (pe_ix ix_tup (pv 0) pe_int (fun _ _ => rfl)) pa_nil))))
      pss_nil)
    (pss_cons (ps_set (i := 1) sc__law_signs.nd rfl (Or.inl rfl) (pe_lst pa_nil))
    (pss_cons (ps_if (pt_cmpR op_eq (pe_ix ix_tup (pv 0) pe_int (fun _ _ => rfl)) pe_str (nomark _))
      (pss_one (ps_for PassesOwn.never rfl (pi_tup (pe_ix ix_tup (pv 0) pe_int (fun _ _ => rfl))) (pg_name (i := 2) sc__law_signs.nd rfl (Or.inl rfl))
        (pss_one (ps_set (i := 1) sc__law_signs.nd rfl (Or.inl rfl) (pe_op op_cat (pv 1) (pe_c c__law_signs hr (by omega) rfl (pa_cons (pv 2) pa_nil)))))))
      pss_nil)
    (pss_one (ps_ret (pv 1)))))), ?_⟩
  obtain ⟨R, ⟨t, ha, hn, hz, rfl⟩, hQ⟩ := hq
  obtain ⟨v, rfl, hv⟩ := one_inv ha
  refine sq (st_if (gt_tag (gv_var rfl hv)) (fun h H1 e1 => ?_) fun h H1 e1 => ?_)
  · have ht := of_decide_eq_true h
    cases t with
    | sign x =>
      refine st_ret (R := LsV (dStrs (signsT (.sign x)))) (gv_lst (ds := [.str x]) (gi_cons (gv_nm (t := .sign x) (gv_var rfl (Is.mono e1.tups _ _ hv)) (by simp only [tagT]; decide)) gi_nil)) fun v2 H2 e2 r2 => hQ v2 H2 (e1.trans e2) r2
    | _ => exact absurd ht (by simp only [tagT]; decide)
  · have hs := of_decide_eq_false h
    dsimp only [tNext]
    refine sq (st_asg (R := LsV (dStrs [])) (gv_lst gi_nil) fun v1 H2 e2 r2 => ?_)
    have e02 := e1.trans e2
    dsimp only
    refine sq (st_if (gt_tag (gv_var rfl (Is.mono e02.tups _ _ hv))) (fun h2 H3 e3 => ?_) fun h2 H3 e3 => ?_)
    · have hk := of_decide_eq_true h2
      have e03 := e02.trans e3
      have hsz : szTs (kidsT t) ≤ 10000 := Nat.le_trans (szTs_kids t) hz
      refine st_forT (l := kidsT t) (gv_kids (gv_var rfl (Is.mono e03.tups _ _ hv)) hk) fun H4 e4 => ?_
      refine ⟨fun pre σ' H' => (∃ y c, σ' = [some v, some y, c] ∧ LsV (dStrs (signsTs pre)) H' y) ∧ Ex H H' ∧ Tups H4 H', ⟨⟨_, _, rfl, Mono.mo (e3.trans e4) r2⟩, e03.trans e4, Tups.refl _⟩, fun _ _ _ h => h.2.2, ?_, ?_⟩
      · rintro pre d post x σ' H' el ⟨⟨y, c, rfl, hy⟩, x1, x2⟩ hx
        have hd : d ∈ kidsT t := by rw [el]; simp
        have lz := signsTs_len' el
        refine st_asg (R := LsV (dStrs (signsTs pre) ++ dStrs (signsT d))) (gv_catL (gv_var rfl hy) (gv_call (gi_cons (gv_var rfl hx) gi_nil) fun vs H1 _ ha => ⟨d, ha, by have := htT_kid hd; omega, by have := szTs_mem hd; omega, rfl⟩) (by rw [List.length_map, List.length_map]; show _ ≤ 16777216; omega)) fun v5 H5 e5 r5 => ?_
        refine ⟨⟨_, _, rfl, ?_⟩, x1.trans e5, x2.trans e5.tups⟩
        rw [signsTs_app, signsTs, signsTs, List.append_nil]
        simpa [dStrs] using r5
      · rintro σ' H' ⟨⟨y, c, rfl, hy⟩, x1, x2⟩
        have ek : signsT t = signsTs (kidsT t) := by
          cases t with
          | knot a b c => rw [signsT]; rfl
          | _ => exact absurd hk (by simp only [tagT]; decide)
        rw [ek] at hQ
        exact st_ret (gv_var rfl hy) fun v2 H5 e5 r5 => hQ v2 H5 (x1.trans e5) r5
    · have hk := of_decide_eq_false h2
      have ek : signsT t = [] := by
        cases t with
        | sign x => exact absurd rfl hs
        | knot a b c => exact absurd rfl hk
        | _ => rfl
      rw [ek] at hQ
      dsimp only [tNext]
      exact st_ret (gv_var rfl (Mono.mo e3 r2)) fun v2 H5 e5 r5 => hQ v2 H5 ((e02.trans e3).trans e5) r5
theorem w_signs (T : Txt K mg CG CC) : ∀ n, Cal P w K mg base (n + 1) "_law_signs" (SpR (spSigns n))
  | 0 => cal_none 1 (fun vs H Q E ⟨R, ⟨t, _, h, _⟩, _⟩ => by omega) T.d_law_signs b__law_signs
  | n + 1 => w_signs_step T n (w_signs T n)
theorem w_feetF_step (T : Txt K mg CG CC) (n : Nat) (c__law_feet : Cal P w K mg base (n + 1) "_law_feet" (SpR (spFeetF n))) : Cal P w K mg base (n + 2) "_law_feet" (SpR (spFeetF (n + 1))) := by
  refine cal_of T.d_law_feet sc__law_feet b__law_feet (fun vs H Q E ⟨R, ⟨t, ha, _⟩, _⟩ => ha.length) fun f cdv A outer s H vs Q E hr hq => ?_
  refine ⟨_, (pss_cons (ps_if (pt_cmpR op_eq (pe_ix ix_tup (pv 0) pe_int (fun _ _ => rfl)) pe_str (nomark _))
      (pss_one (ps_ret (pe_lst (pa_cons (pe_ix ix_tup (pv 0) pe_int (fun _ _ => rfl)) pa_nil))))
      pss_nil)
    (pss_cons (ps_set (i := 1) sc__law_feet.nd rfl (Or.inl rfl) (pe_lst pa_nil))
    (pss_cons (ps_if (pt_cmpR op_eq (pe_ix ix_tup (pv 0) pe_int (fun _ _ => rfl)) pe_str (nomark _))
      (pss_one (ps_for PassesOwn.never rfl (pi_tup (pe_ix ix_tup (pv 0) pe_int (fun _ _ => rfl))) (pg_name (i := 2) sc__law_feet.nd rfl (Or.inl rfl))
        (pss_one (ps_set (i := 1) sc__law_feet.nd rfl (Or.inl rfl) (pe_op op_cat (pv 1) (pe_c c__law_feet hr (by omega) rfl (pa_cons (pv 2) pa_nil)))))))
      pss_nil)
    (pss_one (ps_ret (pv 1)))))), ?_⟩
  obtain ⟨R, ⟨t, ha, hn, hz, rfl⟩, hQ⟩ := hq
  obtain ⟨v, rfl, hv⟩ := one_inv ha
  refine sq (st_if (gt_tag (gv_var rfl hv)) (fun h H1 e1 => ?_) fun h H1 e1 => ?_)
  · have ht := of_decide_eq_true h
    cases t with
    | foot x =>
      refine st_ret (R := LsV (dStrs (feetT (.foot x)))) (gv_lst (ds := [.str x]) (gi_cons (gv_nm (t := .foot x) (gv_var rfl (Is.mono e1.tups _ _ hv)) (by simp only [tagT]; decide)) gi_nil)) fun v2 H2 e2 r2 => hQ v2 H2 (e1.trans e2) r2
    | _ => exact absurd ht (by simp only [tagT]; decide)
  · have hs := of_decide_eq_false h
    dsimp only [tNext]
    refine sq (st_asg (R := LsV (dStrs [])) (gv_lst gi_nil) fun v1 H2 e2 r2 => ?_)
    have e02 := e1.trans e2
    dsimp only
    refine sq (st_if (gt_tag (gv_var rfl (Is.mono e02.tups _ _ hv))) (fun h2 H3 e3 => ?_) fun h2 H3 e3 => ?_)
    · have hk := of_decide_eq_true h2
      have e03 := e02.trans e3
      have hsz : szTs (kidsT t) ≤ 10000 := Nat.le_trans (szTs_kids t) hz
      refine st_forT (l := kidsT t) (gv_kids (gv_var rfl (Is.mono e03.tups _ _ hv)) hk) fun H4 e4 => ?_
      refine ⟨fun pre σ' H' => (∃ y c, σ' = [some v, some y, c] ∧ LsV (dStrs (feetTs pre)) H' y) ∧ Ex H H' ∧ Tups H4 H', ⟨⟨_, _, rfl, Mono.mo (e3.trans e4) r2⟩, e03.trans e4, Tups.refl _⟩, fun _ _ _ h => h.2.2, ?_, ?_⟩
      · rintro pre d post x σ' H' el ⟨⟨y, c, rfl, hy⟩, x1, x2⟩ hx
        have hd : d ∈ kidsT t := by rw [el]; simp
        have lz := feetTs_len' el
        refine st_asg (R := LsV (dStrs (feetTs pre) ++ dStrs (feetT d))) (gv_catL (gv_var rfl hy) (gv_call (gi_cons (gv_var rfl hx) gi_nil) fun vs H1 _ ha => ⟨d, ha, by have := htT_kid hd; omega, by have := szTs_mem hd; omega, rfl⟩) (by rw [List.length_map, List.length_map]; show _ ≤ 16777216; omega)) fun v5 H5 e5 r5 => ?_
        refine ⟨⟨_, _, rfl, ?_⟩, x1.trans e5, x2.trans e5.tups⟩
        rw [feetTs_app, feetTs, feetTs, List.append_nil]
        simpa [dStrs] using r5
      · rintro σ' H' ⟨⟨y, c, rfl, hy⟩, x1, x2⟩
        have ek : feetT t = feetTs (kidsT t) := by
          cases t with
          | knot a b c => rw [feetT]; rfl
          | _ => exact absurd hk (by simp only [tagT]; decide)
        rw [ek] at hQ
        exact st_ret (gv_var rfl hy) fun v2 H5 e5 r5 => hQ v2 H5 (x1.trans e5) r5
    · have hk := of_decide_eq_false h2
      have ek : feetT t = [] := by
        cases t with
        | foot x => exact absurd rfl hs
        | knot a b c => exact absurd rfl hk
        | _ => rfl
      rw [ek] at hQ
      dsimp only [tNext]
      exact st_ret (gv_var rfl (Mono.mo e3 r2)) fun v2 H5 e5 r5 => hQ v2 H5 ((e02.trans e3).trans e5) r5
theorem w_feetF (T : Txt K mg CG CC) : ∀ n, Cal P w K mg base (n + 1) "_law_feet" (SpR (spFeetF n))
  | 0 => cal_none 1 (fun vs H Q E ⟨R, ⟨t, _, h, _⟩, _⟩ => by omega) T.d_law_feet b__law_feet
  | n + 1 => w_feetF_step T n (w_feetF T n)
/-! sites -/
structure Site where
  pl : Place
  gr : Bool
  nm : Str
  must : Bool
def kindS (b : Bool) : Str := if b then "graft" else "start"
def encSite (s : Site) : PyData := .tuple [encP s.pl, .str (kindS s.gr), .str s.nm, .bool s.must]
def tkSite (tk : Option (Str × Bool)) (p : Place) : List Site := match tk with
  | none => []
  | some g => [⟨p, true, g.1, g.2⟩]
mutual
def sitesT : Tr → Place → List Site
  | .hole n, p => [⟨p, false, n, true⟩]
  | .knot _ tk ks, p => tkSite tk p ++ sitesTs ks p 0
  | .sign _, _ => []
  | .void, _ => []
  | .foot _, _ => []
def sitesTs : List Tr → Place → Nat → List Site
  | [], _, _ => []
  | t :: ts, p, k => sitesT t (p ++ [k]) ++ sitesTs ts p (k + 1)
end
mutual
theorem sitesT_len : ∀ (t : Tr) (p : Place), (sitesT t p).length ≤ szT t
  | .hole n, p => by rw [sitesT, szT]; simp
  | .knot _ tk ks, p => by
    have := sitesTs_len ks p 0
    rw [sitesT, szT, List.length_append]
    cases tk <;> simp [tkSite] <;> omega
  | .sign _, _ => by rw [sitesT, szT]; simp
  | .void, _ => by rw [sitesT, szT]; simp
  | .foot _, _ => by rw [sitesT, szT]; simp
theorem sitesTs_len : ∀ (ts : List Tr) (p : Place) (k : Nat), (sitesTs ts p k).length ≤ szTs ts
  | [], _, _ => Nat.le_refl _
  | t :: ts, p, k => by
    have := sitesT_len t (p ++ [k])
    have := sitesTs_len ts p (k + 1)
    rw [sitesTs, szTs, List.length_append]
    omega
end
theorem sitesTs_app : ∀ (l m : List Tr) (p : Place) (k : Nat), sitesTs (l ++ m) p k = sitesTs l p k ++ sitesTs m p (k + l.length)
  | [], m, p, k => by simp [sitesTs]
  | t :: l, m, p, k => by
    rw [List.cons_append, sitesTs, sitesTs, sitesTs_app l m p (k + 1), List.append_assoc, List.length_cons, show k + 1 + l.length = k + (l.length + 1) by omega]
end
end K31

namespace K31
open PySem PySem.Spec PyProof.Rows L2 NK Evl
section
variable {P : Program} {w : World} {K : PySem.W.Frag} {mg : Str → Option Value} {base : Heap} {CG CC : Addr}
def spSites (n : Nat) : List V → Hp → HR → Prop := fun vs H R => ∃ t p, IsAll H [encT t, encP p] vs ∧ htT t < n ∧ szT t ≤ 10000 ∧ p.length + n ≤ 1000 ∧ R = LsV ((sitesT t p).map encSite)
theorem szTs_pre {ts pre post : List Tr} {d : Tr} (e : ts = pre ++ d :: post) : szTs pre + szT d ≤ szTs ts := by
  rw [e, szTs_app, szTs]; omega
theorem w_sites_step (T : Txt K mg CG CC) (n : Nat) (c__law_sites : Cal P w K mg base (n + 1) "_law_sites" (SpR (spSites n))) : Cal P w K mg base (n + 2) "_law_sites" (SpR (spSites (n + 1))) := by
  refine cal_of T.d_law_sites sc__law_sites b__law_sites (fun vs H Q E ⟨R, ⟨t, p, ha, _⟩, _⟩ => ha.length) fun f cdv A outer s H vs Q E hr hq => ?_
  refine ⟨_, (pss_cons (ps_if (pt_cmpR op_eq (pe_ix ix_tup (pv 0) pe_int (fun _ _ => rfl)) pe_str (nomark _))
      (pss_one (ps_ret (pe_lst (pa_cons (pe_tupP (pa_cons (pv 1) (pa_cons pe_str (pa_cons (pe_ix ix_tup (pv 0) pe_int (fun _ _ => rfl)) (pa_cons pe_bl pa_nil))))) pa_nil))))
      pss_nil)
    (pss_cons (ps_set (i := 2) sc__law_sites.nd rfl (Or.inl rfl) (pe_lst pa_nil))
    (pss_cons (ps_if (pt_cmpR op_eq (pe_ix ix_tup (pv 0) pe_int (fun _ _ => rfl)) pe_str (nomark _))
      (pss_cons (ps_if (pt_cmp (pc_notN (pe_ix ix_tup (pv 0) pe_int (fun _ _ => rfl))))
        (pss_one (ps_expr (pe_bm PySem.F.plainAttrs_list PySem.F.slot_list_append PySem.F.type_list_append mt_append (pv 2) (pa_cons (pe_tupP (pa_cons (pv 1) (pa_cons pe_str (pa_cons (pe_ix ix_tup (pe_ix ix_tup (pv 0) pe_int (fun _ _ => rfl)) pe_int (fun _ _ => rfl)) (pa_cons (pe_ix ix_tup (pe_ix ix_tup (pv 0) pe_int (fun _ _ => rfl)) pe_int (fun _ _ => rfl)) pa_nil))))) pa_nil))))
        pss_nil)
      (pss_one (ps_for PassesOwn.never rfl (pi_range1 (by rfl) (T.fr "range" (by decide)) (pa_cons (pe_callB cr_len rfl (T.fr "len" (by decide)) (by decide +kernel) (pa_cons (pe_ix ix_tup (pv 0) pe_int (fun _ _ => rfl)) pa_nil)) pa_nil)) (pg_name (i := 3) sc__law_sites.nd rfl (Or.inl rfl))
        (pss_one (ps_set (i := 2) sc__law_sites.nd rfl (Or.inl rfl) (pe_op op_cat (pv 2) (pe_c c__law_sites hr (by omega) rfl (pa_cons (pe_ix ix_tup (pe_ix ix_tup (pv 0) pe_int (fun _ _ => rfl)) (pv 3) (fun _ _ => rfl)) (pa_cons (pe_op op_catP (pv 1) (pe_tupP (pa_cons (pv 3) pa_nil))) pa_nil)))))))))
      pss_nil)
    (pss_one (ps_ret (pv 2)))))), ?_⟩
  obtain ⟨R, ⟨t, p, ha, hn, hz, hpl, rfl⟩, hQ⟩ := hq
  obtain ⟨v, vp, rfl, hv, hp⟩ := two_inv ha
  refine sq (st_if (gt_tag (gv_var rfl hv)) (fun h H1 e1 => ?_) fun h H1 e1 => ?_)
  · have ht := of_decide_eq_true h
    cases t with
    | hole x =>
      refine st_ret (R := LsV ((sitesT (.hole x) p).map encSite)) (gv_lst (ds := [encSite ⟨p, false, x, true⟩]) (gi_cons (gv_tup (gi_cons (gv_var rfl (Is.mono e1.tups _ _ hp)) (gi_cons gv_str (gi_cons (gv_nm (t := .hole x) (gv_var rfl (Is.mono e1.tups _ _ hv)) (by simp only [tagT]; decide)) (gi_cons gv_bl gi_nil))))) gi_nil)) fun v2 H2 e2 r2 => hQ v2 H2 (e1.trans e2) r2
    | _ => exact absurd ht (by simp only [tagT]; decide)
  · have hs := of_decide_eq_false h
    dsimp only [tNext]
    refine sq (st_new0 fun fp nfp => ?_)
    have x2 := Ex.new (o := .lst []) nfp
    have hfp : upd H1 fp (.lst []) fp = some (.lst []) := upd_same
    have nf0 := fresh_back e1 nfp
    generalize upd H1 fp (.lst []) = H2 at x2 hfp
    have e02 := e1.trans x2
    have hv2 := Is.mono e02.tups _ _ hv
    dsimp only
    refine sq (st_if (gt_tag (gv_var rfl hv2)) (fun h2 H3 e3 => ?_) fun h2 H3 e3 => ?_)
    · have hk := of_decide_eq_true h2
      cases t with
      | knot nm tk ks =>
        have e03 := e02.trans e3
        have hv3 := Is.mono e03.tups _ _ hv
        have hp3 := Is.mono e03.tups _ _ hp
        have hfp3 := e3 _ _ hfp
        -- the loop
        have loop : ∀ (H4 : Hp) (y : V) (c : Option V), Ex H H4 → LsV ((tkSite tk p).map encSite) H4 y → tFor (iRng1 (tCons (tCB (rLn K) (tCons (tOp (rIxT K) (tVar 0) (tC (.int 3))) tNil)) tNil)) (gName 3) (tAsg (tOp rCat (tVar 2) (tCall (SpR (spSites n)) [] E0 (tCons (tOp (rIxT K) (tOp (rIxT K) (tVar 0) (tC (.int 3))) (tVar 3)) (tCons (tOp (rCatP K) (tVar 1) (tTupP (tCons (tVar 3) tNil))) tNil)))) (gName 2))
            { nx := tRet (tVar 2) { nx := fun _ H' => Q .non H', rt := Q }, rt := Q } [some v, some vp, some y, c] H4 := by
          intro H4 y c e4 hy
          have hsz : szTs ks ≤ 10000 := by rw [szT] at hz; omega
          refine st_forR (n := ks.length) (gv_is (gv_lenT (gv_kids (t := .knot nm tk ks) (gv_var rfl (Is.mono e4.tups _ _ hv)) rfl)) (by simp [kidsT])) (by have := szTs_len ks; omega) fun H5 e5 => ?_
          refine ⟨fun i σ' H' => (∃ y c, σ' = [some v, some vp, some y, c] ∧ LsV ((tkSite tk p ++ sitesTs (ks.take i) p 0).map encSite) H' y) ∧ Ex H H', ⟨⟨_, _, rfl, by simpa [sitesTs] using Mono.mo (R := LsV ((tkSite tk p).map encSite)) e5 hy⟩, e4.trans e5⟩, ?_, ?_⟩
          · rintro i σ' H6 hi ⟨⟨y, c, rfl, hy6⟩, x1⟩
            obtain ⟨t1, t2⟩ := take_next hi
            have hd : ks[i] ∈ ks := List.getElem_mem hi
            have lz := szTs_pre t2
            have l1 := sitesTs_len (ks.take i) p 0
            have l2 := sitesT_len ks[i] (p ++ [i])
            have l3 : (tkSite tk p).length ≤ 1 := by cases tk <;> simp [tkSite]
            refine st_asg (R := LsV ((tkSite tk p ++ sitesTs (ks.take i) p 0).map encSite ++ (sitesT ks[i] (p ++ [i])).map encSite)) (gv_catL (gv_var rfl hy6) (gv_call (gi_cons (gv_ixT (d := encT ks[i]) (i := Int.ofNat i) (gv_kids (t := .knot nm tk ks) (gv_var rfl (Is.mono x1.tups _ _ hv)) rfl) (gv_var rfl (Is.int _)) (atI_nat (by simp [kidsT, hi]))) (gi_cons (gv_pcat (gv_var rfl (Is.mono x1.tups _ _ hp)) (gv_var rfl (Is.int _)) (by omega)) gi_nil)) fun vs H1 _ ha => ⟨ks[i], p ++ [i], ha, by have := htTs_mem hd; rw [htT] at hn; omega, by omega, by simp; omega, rfl⟩) (by rw [List.length_map, List.length_map, List.length_append]; show _ ≤ 16777216; omega)) fun v7 H7 e7 r7 => ?_
            refine ⟨⟨_, _, rfl, ?_⟩, x1.trans e7⟩
            rw [t1, sitesTs_app, sitesTs, sitesTs, List.append_nil]
            have el : (ks.take i).length = i := by rw [List.length_take]; omega
            rw [el, Nat.zero_add, ← List.append_assoc, List.map_append]
            exact r7
          · rintro σ' H6 ⟨⟨y, c, rfl, hy6⟩, x1⟩
            rw [List.take_length] at hy6
            have ek : sitesT (.knot nm tk ks) p = tkSite tk p ++ sitesTs ks p 0 := by rw [sitesT]
            rw [ek] at hQ
            exact st_ret (gv_var rfl hy6) fun v2 H7 e7 r7 => hQ v2 H7 (x1.trans e7) r7
        refine sq (st_if (gt_B (gv_notND (gv_tk (t := .knot nm tk ks) (gv_var rfl hv3) rfl))) (fun h4 H4 e4 => ?_) fun h4 H4 e4 => ?_)
        · rw [isN_tk] at h4
          cases tk with
          | none => cases h4
          | some gb =>
            obtain ⟨g, b⟩ := gb
            have hv4 := Is.mono e4.tups _ _ hv3
            have htk := fun σ H (hσ : σ[0]? = some (some v)) (hh : Is H (encT (.knot nm (some (g, b)) ks)) v) => gv_tk (K := K) (σ := σ) (t := .knot nm (some (g, b)) ks) (gv_var (i := 0) hσ hh) rfl
            refine st_app (R := IsV (encSite ⟨p, true, g, b⟩)) (e4 _ _ hfp3) (ev_var rfl) (gv_tup (gi_cons (gv_var rfl (Is.mono e4.tups _ _ hp3)) (gi_cons gv_str (gi_cons (gv_ixT (htk _ _ rfl hv4) gv_int rfl) (gi_cons (gv_ixT (htk _ _ rfl hv4) gv_int rfl) gi_nil))))) (by decide) fun z H5 e5 r5 => ?_
            have h5 := e5 _ _ (e4 _ _ hfp3)
            exact loop _ _ _ (Ex.mut (e03.trans (e4.trans e5)) nf0) ⟨fp, [z], rfl, upd_same, .cons (Is.mono (Tups.mut (mut_at h5)) _ _ r5) .nil⟩
        · rw [isN_tk] at h4
          cases tk with
          | some gb => cases h4
          | none => exact loop _ _ _ (e03.trans e4) ⟨fp, [], rfl, e4 _ _ hfp3, .nil⟩
      | _ => exact absurd hk (by simp only [tagT]; decide)
    · have hk := of_decide_eq_false h2
      have ek : sitesT t p = [] := by
        cases t with
        | hole x => exact absurd rfl hs
        | knot a b c => exact absurd rfl hk
        | sign x => rw [sitesT]
        | void => rw [sitesT]
        | foot x => rw [sitesT]
      rw [ek] at hQ
      dsimp only [tNext]
      exact st_ret (gv_var rfl ⟨fp, [], rfl, e3 _ _ hfp, .nil⟩) fun v2 H5 e5 r5 => hQ v2 H5 ((e02.trans e3).trans e5) r5
theorem w_sites (T : Txt K mg CG CC) : ∀ n, Cal P w K mg base (n + 1) "_law_sites" (SpR (spSites n))
  | 0 => cal_none 1 (fun vs H Q E ⟨R, ⟨t, p, _, h, _⟩, _⟩ => by omega) T.d_law_sites b__law_sites
  | n + 1 => w_sites_step T n (w_sites T n)
/-! who is called -/
def calledL (bk : Bk) (gr : Bool) (nm : Str) : List Str := (bk.trees.filter fun p => if gr then decide (feetT p.2 = [nm]) else decide (feetT p.2 = []) && decide (nameT p.2 = nm)).map (·.1)
def spCalled : List V → Hp → HR → Prop := fun vs H R => ∃ bk gr nm, IsAll H [encB bk, .str (kindS gr), .str nm] vs ∧ BkOk bk ∧ R = LsV (dStrs (calledL bk gr nm))
theorem eqv_strs : ∀ l m : List Str, PyData.eqv (.list (dStrs l)) (.list (dStrs m)) = decide (l = m)
  | [], [] => by simp [dStrs, PyData.eqv, PyData.eqvAll]
  | [], _ :: _ => by simp [dStrs, PyData.eqv, PyData.eqvAll]
  | _ :: _, [] => by simp [dStrs, PyData.eqv, PyData.eqvAll]
  | a :: l, b :: m => by
    have ih := eqv_strs l m
    simp only [dStrs, List.map_cons, PyData.eqv, PyData.eqvAll] at ih ⊢
    rw [ih]
    by_cases h : a = b
    · subst h; simp
    · simp [h]
theorem plain_strs (l : List Str) : (PyData.list (dStrs l)).plain = true := by
  simp only [PyData.plain, dStrs]
  induction l with
  | nil => rfl
  | cons a l ih => rw [List.map_cons, PyData.plainAll, ih]; rfl
theorem depth_strs (l : List Str) : (PyData.list (dStrs l)).depth ≤ 40 := by
  have : PyData.depthAll (dStrs l) ≤ 1 := by
    induction l with
    | nil => simp [dStrs, PyData.depthAll]
    | cons a l ih => simp only [dStrs, List.map_cons, PyData.depthAll, PyData.depth] at ih ⊢; omega
  simp only [PyData.depth]
  omega
theorem gt_eqL {σ : L2.St} {H : Hp} {ta tb : TE} {l m : List Str} (h : Gv ta σ H (LsV (dStrs l))) (hb : Gv tb σ H (LsV (dStrs m))) : Gv (tOp (rEqP K) ta tb) σ H (IsV (.bool (decide (l = m)))) := gv_is (gv_eqP h hb (fun _ _ r => r.dp) (fun _ _ r => r.dp) (plain_strs _) (plain_strs _) (depth_strs _)) (by rw [eqv_strs])
theorem w_called (T : Txt K mg CG CC) : Cal P w K mg base 10 "_law_called" (SpR spCalled) := by
  refine cal_of T.d_law_called sc__law_called b__law_called (fun vs H Q E ⟨R, ⟨_, _, _, ha, _⟩, _⟩ => ha.length) fun f cdv A outer s H vs Q E hr hq => ?_
  have c__law_feet := w_feetF (P := P) (w := w) (base := base) T 8
  refine ⟨_, (pss_cons (ps_set (i := 3) sc__law_called.nd rfl (Or.inl rfl) (pe_lst pa_nil))
    (pss_cons (ps_for PassesOwn.never rfl (pi_tup (pe_ix ix_tup (pv 0) pe_int (fun _ _ => rfl))) (pg_tup rfl (pgs_cons (pg_name (i := 4) sc__law_called.nd rfl (Or.inl rfl)) (pgs_cons (pg_name (i := 5) sc__law_called.nd rfl (Or.inl rfl)) pgs_nil)))
      (pss_cons (ps_set (i := 6) sc__law_called.nd rfl (Or.inl rfl) (pe_c c__law_feet hr (by omega) rfl (pa_cons (pv 5) pa_nil)))
      (pss_one (ps_if (pw_or (pw_and (pt_cmpR op_eq (pv 1) pe_str (nomark _)) (pw_and1 (pt_cmpR (op_eqP hr.units) (pv 6) (pe_lst (pa_cons (pv 2) pa_nil)) (nomark _)))).pt (pw_or1 (pw_and (pt_cmpR op_eq (pv 1) pe_str (nomark _)) (pw_and (pt_cmpR (op_eqP hr.units) (pv 6) (pe_lst pa_nil) (nomark _)) (pw_and1 (pt_cmpR op_eq (pe_ix ix_tup (pv 5) pe_int (fun _ _ => rfl)) (pv 2) (nomark _))))).pt)).pt
        (pss_one (ps_expr (pe_bm PySem.F.plainAttrs_list PySem.F.slot_list_append PySem.F.type_list_append mt_append (pv 3) (pa_cons (pv 4) pa_nil))))
        pss_nil))))
    (pss_one (ps_ret (pv 3))))), ?_⟩
  obtain ⟨R, ⟨bk, gr, nm, ha, ok, rfl⟩, hQ⟩ := hq
  obtain ⟨vb, vk, vn, rfl, hb, hk, hn⟩ := three_inv ha
  rw [hk.str_inv, hn.str_inv]
  have eB : encB bk = .tuple [.str bk.top, .tuple (bk.trees.map fun p => .tuple [.str p.1, encT p.2])] := rfl
  refine st_new0 fun fp nfp => ?_
  have x2 := Ex.new (o := .lst []) nfp
  have hfp : upd H fp (.lst []) fp = some (.lst []) := upd_same
  generalize upd H fp (.lst []) = H2 at x2 hfp
  dsimp only
  refine sq (st_forT (l := bk.trees) (f := fun p => .tuple [.str p.1, encT p.2]) (gv_ixT (gv_is (gv_var rfl (Is.mono x2.tups _ _ hb)) eB) gv_int rfl) fun H3 e3 => ?_)
  refine ⟨fun pre σ' H' => (∃ c1 c2 c3, σ' = [some vb, some (.str (kindS gr)), some (.str nm), some (.ref fp), c1, c2, c3]) ∧ Ex H H' ∧ Tups H3 H' ∧ ∃ xs, H' fp = some (.lst xs) ∧ IsAll H' (dStrs ((pre.filter fun p => if gr then decide (feetT p.2 = [nm]) else decide (feetT p.2 = []) && decide (nameT p.2 = nm)).map (·.1))) xs, ⟨⟨_, _, _, rfl⟩, x2.trans e3, Tups.refl _, [], e3 _ _ hfp, .nil⟩, fun _ _ _ h => h.2.2.1, ?_, ?_⟩
  · rintro pre d post x σ' H' el ⟨⟨c1, c2, c3, rfl⟩, z1, z2, xs, hxs, al⟩ hx
    have hd : d ∈ bk.trees := by rw [el]; simp
    have okd := ok.ok d hd
    have okd2 : szT d.2 ≤ 100 := okd.2
    obtain ⟨ax, xx, rfl, px, ix⟩ := hx.tup_inv
    obtain ⟨vk', vt, rfl, hk', ht⟩ := two_inv ix
    have lpre : pre.length < 10 := by
      have := congrArg List.length el
      have := ok.n
      simp at *
      omega
    refine gtup2 px.sq ?_
    refine sq (st_asg (R := LsV (dStrs (feetT d.2))) (gv_call (gi_cons (gv_var rfl ht) gi_nil) fun vs H1 _ ha => ⟨d.2, ha, okd.1, by omega, rfl⟩) fun v6 H6 e6 r6 => ?_)
    dsimp only
    have ht6 := Is.mono e6.tups _ _ ht
    have r6' : LsV (dStrs (feetT d.2)) H6 v6 := r6
    refine st_if (b := if gr then decide (feetT d.2 = [nm]) else decide (feetT d.2 = []) && decide (nameT d.2 = nm)) ?_ (fun h H7 e7 => ?_) fun h H7 e7 => ?_
    · cases gr with
      | true =>
        refine et_is (et_or (a := decide (feetT d.2 = [nm])) (b := false) (et_is (et_and (a := true) (b := decide (feetT d.2 = [nm])) (gt_test (gv_is (gv_eqS (gv_var rfl (Is.str _)) gv_str) rfl)) fun _ => gt_test (gt_eqL (m := [nm]) (gv_var rfl r6') (gv_lst (gi_cons (gv_var rfl (Is.str nm)) gi_nil)))) (by simp)) fun _ => et_is (et_and (a := false) (b := false) (gt_test (gv_is (gv_eqS (gv_var rfl (Is.str _)) gv_str) rfl)) fun h => by cases h) rfl) (by simp)
      | false =>
        refine et_is (et_or (a := false) (b := decide (feetT d.2 = []) && decide (nameT d.2 = nm)) (et_is (et_and (a := false) (b := false) (gt_test (gv_is (gv_eqS (gv_var rfl (Is.str _)) gv_str) rfl)) fun h => by cases h) rfl) fun _ => et_is (et_and (a := true) (b := decide (feetT d.2 = []) && decide (nameT d.2 = nm)) (gt_test (gv_is (gv_eqS (gv_var rfl (Is.str _)) gv_str) rfl)) fun _ => et_and (gt_test (gt_eqL (m := []) (gv_var rfl r6') (gv_lst gi_nil))) fun _ => gt_test (gv_eqS (gv_nm (gv_var rfl ht6) (not_void (ok.kn d hd))) (gv_var rfl (Is.str nm)))) (by simp)) (by simp)
    · refine st_app (R := IsV (.str d.1)) (e7 _ _ (e6 _ _ hxs)) (ev_var rfl) (gv_var rfl (Is.mono (e6.trans e7).tups _ _ hk')) ?_ fun z H8 e8 r8 => ?_
      · rw [al.length]
        have := List.length_filter_le (fun p : Str × Tr => if gr then decide (feetT p.2 = [nm]) else decide (feetT p.2 = []) && decide (nameT p.2 = nm)) pre
        simp only [dStrs, List.length_map]
        show _ < 16777216
        omega
      · have h8 := e8 _ _ (e7 _ _ (e6 _ _ hxs))
        have t8 : Tups H8 (upd H8 fp (.lst (xs ++ [z]))) := Tups.mut (mut_at h8)
        have e68 := e6.trans (e7.trans e8)
        refine ⟨⟨_, _, _, rfl⟩, Ex.mut (z1.trans e68) nfp, (z2.trans e68.tups).trans t8, _, upd_same, ?_⟩
        rw [List.filter_append, List.map_append]
        have e1 : (if gr then decide (feetT d.2 = [nm]) else decide (feetT d.2 = []) && decide (nameT d.2 = nm)) = true := h
        have e2 : [d].filter (fun p => if gr then decide (feetT p.2 = [nm]) else decide (feetT p.2 = []) && decide (nameT p.2 = nm)) = [d] := by rw [List.filter_cons, if_pos e1]; rfl
        rw [e2]
        simp only [dStrs, List.map_append]
        exact (IsAll.mono t8 _ _ (IsAll.mono e68.tups _ _ al)).append (.cons (Is.mono t8 _ _ r8) .nil)
    · have e67 := e6.trans e7
      refine ⟨⟨_, _, _, rfl⟩, z1.trans e67, z2.trans e67.tups, xs, e67 _ _ hxs, ?_⟩
      have e1 : (if gr then decide (feetT d.2 = [nm]) else decide (feetT d.2 = []) && decide (nameT d.2 = nm)) = false := h
      have e2 : [d].filter (fun p => if gr then decide (feetT p.2 = [nm]) else decide (feetT p.2 = []) && decide (nameT p.2 = nm)) = [] := by rw [List.filter_cons, if_neg (by rw [e1]; simp)]; rfl
      rw [List.filter_append, e2, List.append_nil]
      exact IsAll.mono e67.tups _ _ al
  · rintro σ' H' ⟨⟨c1, c2, c3, rfl⟩, z1, z2, xs, hxs, al⟩
    exact st_ret (gv_var rfl ⟨fp, xs, rfl, hxs, al⟩) fun v2 H5 e5 r5 => hQ v2 H5 (z1.trans e5) r5
end
end K31

namespace K31
open PySem PySem.Spec PyProof.Rows L2 NK Evl
section
variable {P : Program} {w : World} {K : PySem.W.Frag} {mg : Str → Option Value} {base : Heap} {CG CC : Addr}
theorem gv_lstO {F : Fd} {σ : L2.St} {H : Hp} {c : Nat} {ta : TA} {ds : List PyData} (f : FdAt F H c) (h : GvA ta σ H (IsA ds)) (hl : ds.length ≤ sizeLine := by show _ ≤ 16777216; simp) : Gv (tLst ta) σ H (LsO [F.fa] ds) := gv_imp (gv_lstF h hl) fun H1 v _ ⟨p, xs, e, n, h1, h2⟩ => ⟨p, xs, e, by simpa using Ne.symm (ne_at f.at_ n), h1, h2⟩
/-- what a drawn tree is -/
structure TreeP (signs : List Str) (foot : Str) (t : Tr) : Prop where
  kn : tagT t = "knot"
  ft : feetT t = if foot = "" then [] else [foot]
  sg : ∀ s ∈ signsT t, s ∈ signs
  ne : signsT t ≠ []
  sz : szT t ≤ 50
  ht : htT t ≤ 4
  fu : fullT t = true
def spTree (fa : Addr) : List V → Hp → List Addr → Nat → HR → Prop := fun vs H ms n R => ∃ vn vs' foot name names signs, vs = [.ref fa, vn, vs', .str foot, .str name] ∧ ms = [fa] ∧ LsO [fa] (dStrs names) H vn ∧ LsO [fa] (dStrs signs) H vs' ∧ 0 < names.length ∧ 0 < signs.length ∧ n = 200 ∧ R = TrV (TreeP signs foot)
theorem w_tree (T : Txt K mg CG CC) : Cal P w K mg base 9 "_law_tree" (SpF K spTree) := by
  refine cal_of T.d_law_tree sc__law_tree b__law_tree (fun vs H Q E ⟨_, _, _, _, _, _, _, ⟨_, _, _, _, _, _, e, _⟩, _⟩ => by rw [e]; rfl) fun f cdv A outer s H vs Q E hr hq => ?_
  have c__law_next := w_next (P := P) (w := w) (base := base) T
  have c__law_knot := w_knotF (P := P) (w := w) (base := base) T 4
  have c__law_signs := w_signs (P := P) (w := w) (base := base) T 6
  refine ⟨_, (pss_cons (ps_set (i := 5) sc__law_tree.nd rfl (Or.inl rfl) (pe_c c__law_knot hr (by omega) rfl (pa_cons (pv 0) (pa_cons (pv 1) (pa_cons (pv 2) (pa_cons (pe_ix ix_list (pe_lst (pa_cons pe_int (pa_cons pe_int (pa_cons pe_int (pa_cons pe_int pa_nil))))) (pe_c c__law_next hr (by omega) rfl (pa_cons (pv 0) (pa_cons pe_int pa_nil))) (fun _ _ => rfl)) (pa_cons (pv 3) (pa_cons (pe_lst (pa_cons pe_int pa_nil)) pa_nil))))))))
    (pss_cons (ps_if (pt_cmpR op_eq (pv 3) pe_str (nomark _))
      (pss_one (ps_set (i := 5) sc__law_tree.nd rfl (Or.inl rfl) (pe_tupP (pa_cons pe_str (pa_cons (pv 4) (pa_cons (pe_ix ix_tup (pv 5) pe_int (fun _ _ => rfl)) (pa_cons (pe_ix ix_tup (pv 5) pe_int (fun _ _ => rfl)) pa_nil)))))))
      pss_nil)
    (pss_cons (ps_if (pt_cmpR (op_eqP hr.units) (pe_c c__law_signs hr (by omega) rfl (pa_cons (pv 5) pa_nil)) (pe_lst pa_nil) (nomark _))
      (pss_cons (ps_set (i := 6) sc__law_tree.nd rfl (Or.inl rfl) (pe_tupP (pa_cons pe_str (pa_cons (pe_ix ix_list (pv 2) (pe_c c__law_next hr (by omega) rfl (pa_cons (pv 0) (pa_cons (pe_callB cr_len rfl (T.fr "len" (by decide)) (by decide +kernel) (pa_cons (pv 2) pa_nil)) pa_nil))) (fun _ _ => rfl)) pa_nil))))
      (pss_cons (ps_set (i := 7) sc__law_tree.nd rfl (Or.inl rfl) (pe_ix ix_list (pe_lst (pa_cons (pe_op op_catP (pe_tupP (pa_cons (pv 6) pa_nil)) (pe_ix ix_tup (pv 5) pe_int (fun _ _ => rfl))) (pa_cons (pe_op op_catP (pe_ix ix_tup (pv 5) pe_int (fun _ _ => rfl)) (pe_tupP (pa_cons (pv 6) pa_nil))) pa_nil))) (pe_c c__law_next hr (by omega) rfl (pa_cons (pv 0) (pa_cons pe_int pa_nil))) (fun _ _ => rfl)))
      (pss_one (ps_set (i := 5) sc__law_tree.nd rfl (Or.inl rfl) (pe_tupP (pa_cons pe_str (pa_cons (pe_ix ix_tup (pv 5) pe_int (fun _ _ => rfl)) (pa_cons (pe_ix ix_tup (pv 5) pe_int (fun _ _ => rfl)) (pa_cons (pv 7) pa_nil)))))))))
      pss_nil)
    (pss_one (ps_ret (pv 5)))))), ?_⟩
  obtain ⟨F, c, n, ms, R, hF, hm, ⟨vn, vs', foot, name, names, signs, rfl, rfl, hn, hs, n0, s0, rfl, rfl⟩, fc, lc, hQ⟩ := hq
  have hfa : F.fa ∈ [F.fa] := by simp
  -- the knot
  refine sq ?_
  refine ⟨.ref F.fa, rfl, vn, rfl, vs', rfl, ?_⟩
  refine gf_ix (F := F) (ms := [F.fa]) (ds := [.int 1, .int 1, .int 2, .int 3]) (fun H1 c1 mm f1 => gv_lstO f1 (gi_cons gv_int (gi_cons gv_int (gi_cons gv_int (gi_cons gv_int gi_nil))))) (gf_next (k := 4) hF hfa rfl (fun H1 c1 m1 f1 => gv_int) (by decide)) H c (Mod.refl _ _) fc (by omega) _ fun v4 H1 c1 m1 f1 l1 r4 => ?_
  obtain ⟨dp, hdp, rfl⟩ : ∃ k : Nat, k ≤ 3 ∧ v4 = nI k := by
    obtain ⟨d, hd, hi⟩ := r4
    simp only [List.mem_cons, List.not_mem_nil, or_false] at hd
    rcases hd with rfl | rfl | rfl | rfl
    · exact ⟨1, by omega, hi.int_inv⟩
    · exact ⟨1, by omega, hi.int_inv⟩
    · exact ⟨2, by omega, hi.int_inv⟩
    · exact ⟨3, by omega, hi.int_inv⟩
  refine ⟨.str foot, rfl, by show 1 ≤ 16777216; omega, fun la nla => ?_⟩
  have x2 := Ex.new (o := .lst [V.int 5]) nla
  have hl2 : upd H1 la (.lst [V.int 5]) la = some (.lst [nI 5]) := upd_same
  have nlf : la ≠ F.fa := Ne.symm (ne_at f1.at_ nla)
  have hbl : F.Hb la = none := fresh_back f1.ex_ nla
  have hn2 := MonoM.mo m1 hn
  have hs2 := MonoM.mo m1 hs
  have hn3 := Mono.mo x2 (LsO.more hn2 nla)
  have hs3 := Mono.mo x2 (LsO.more hs2 nla)
  have f2 := f1.ex x2
  have m2 := m1.trans (x2.mod : Mod [F.fa] H1 _)
  generalize upd H1 la (.lst [V.int 5]) = H2 at x2 hl2 hn3 hs3 f2 m2
  refine ⟨F, la, vn, vs', dp, foot, names, signs, c1, 5, hF, rfl, by omega, nlf, hbl, hn3, hs3, n0, s0, hl2, f2, by omega, fun v H3 c3 m' t mm f3 l3 g1 g2 kt g3 g4 it => ?_⟩
  have m3 : Mod [F.fa] H H3 := m1.trans (Mod.drop (ms := [F.fa]) mm x2 nla)
  have hz : szT t ≤ 48 := by omega
  have hht : htT t ≤ 4 := by omega
  dsimp only
  -- the end, from a tree
  have rest : ∀ (H4 : Hp) (c4 : Nat) (t : Tr) (v : V) (z6 z7 : Option V), Mod [F.fa] H H4 → FdAt F H4 c4 → c4 ≤ c + 190 → KnotP signs foot t → szT t ≤ 48 → htT t ≤ 4 → Is H4 (encT t) v →
      tSeq (tIfS (tTest (tOp (rEqP K) (tCall (SpR (spSigns 6)) [] E0 (tCons (tVar 5) tNil)) (tLst tNil)))
        (tSeq (tAsg (tTupP (tCons (tC (.str "sign")) (tCons (tOp (rIxL K) (tVar 2) (tCall (spNext K) [] E0 (tCons (tVar 0) (tCons (tCB (rLn K) (tCons (tVar 2) tNil)) tNil)))) tNil))) (gName 6))
          (tSeq (tAsg (tOp (rIxL K) (tLst (tCons (tOp (rCatP K) (tTupP (tCons (tVar 6) tNil)) (tOp (rIxT K) (tVar 5) (tC (.int 3)))) (tCons (tOp (rCatP K) (tOp (rIxT K) (tVar 5) (tC (.int 3))) (tTupP (tCons (tVar 6) tNil))) tNil))) (tCall (spNext K) [] E0 (tCons (tVar 0) (tCons (tC (.int 2)) tNil)))) (gName 7))
            (tAsg (tTupP (tCons (tC (.str "knot")) (tCons (tOp (rIxT K) (tVar 5) (tC (.int 1))) (tCons (tOp (rIxT K) (tVar 5) (tC (.int 2))) (tCons (tVar 7) tNil))))) (gName 5)))) tNext)
        (tRet (tVar 5)) { nx := fun _ H' => Q .non H', rt := Q } [some (.ref F.fa), some vn, some vs', some (.str foot), some (.str name), some v, z6, z7] H4 := by
    intro H4 c4 t v z6 z7 m4 f4 l4 kt hz hht it
    have hkn := kt.kn
    refine sq (st_if (gt_test (gt_eqL (l := signsT t) (m := []) (gv_call (gi_cons (gv_var rfl it) gi_nil) fun vs H1 _ ha => ⟨t, ha, by omega, by omega, rfl⟩) (gv_lst gi_nil))) (fun h H5 e5 => ?_) fun h H5 e5 => ?_)
    · have hs0 := of_decide_eq_true h
      have m5 := m4.trans (e5.mod : Mod [F.fa] H4 H5)
      refine sq (sf_asg (F := F) (ms := [F.fa]) (n := 1) (R := TrV (fun u => ∃ x ∈ signs, u = .sign x)) (gf_tup2 (gf_ix (ds := dStrs signs) (fun H1 c1 mm _ => gv_var rfl (MonoM.mo (m5.trans mm) hs)) (gf_imp (gf_next (k := signs.length) hF hfa rfl (fun H1 c1 mm f1 => gv_lenO (gv_var (R := LsO [F.fa] (dStrs signs)) rfl (MonoM.mo (m5.trans mm) hs))) s0) fun H1 v h => by simpa [dStrs] using h)) fun H1 v h => by
        obtain ⟨x, hx, ix⟩ := oneOf_str h
        exact ⟨.str x, ix, fun H2 u hu => ⟨.sign x, ⟨x, hx, rfl⟩, by rw [encT]; exact hu⟩⟩) (f4.ex e5) (by omega) fun v6 H6 c6 m6 f6 l6 ⟨u, ⟨x, hx, eu⟩, iu⟩ => ?_)
      subst eu
      have t46 := e5.tups.trans m6.2
      cases t with
      | knot nm tk ks =>
        dsimp only
        have it6 := Is.mono t46 _ _ it
        have hlen := szTs_len ks
        have hz' : szTs ks ≤ 47 := by rw [szT] at hz; omega
        refine sq (sf_asg (F := F) (ms := [F.fa]) (n := 1) (R := OneOf [.tuple ([encT (.sign x)] ++ ks.map encT), .tuple (ks.map encT ++ [encT (.sign x)])]) (gf_ix (fun H1 c1 mm f1 => gv_lstO f1 (gi_cons (gv_cat (gv_tup (gi_cons (gv_var rfl (Is.mono mm.2 _ _ iu)) gi_nil)) (gv_kids (t := .knot nm tk ks) (gv_var rfl (Is.mono mm.2 _ _ it6)) rfl) (by simp [kidsT]; show _ ≤ 16777216; omega)) (gi_cons (gv_cat (gv_kids (t := .knot nm tk ks) (gv_var rfl (Is.mono mm.2 _ _ it6)) rfl) (gv_tup (gi_cons (gv_var rfl (Is.mono mm.2 _ _ iu)) gi_nil)) (by simp [kidsT]; show _ ≤ 16777216; omega)) gi_nil))) (gf_next (k := 2) hF hfa rfl (fun H1 c1 m1 f1 => gv_int) (by decide))) f6 (by omega) fun v7 H7 c7 m7 f7 l7 r7 => ?_)
        obtain ⟨ks', hks', ik'⟩ : ∃ ks', (ks' = [Tr.sign x] ++ ks ∨ ks' = ks ++ [Tr.sign x]) ∧ Is H7 (.tuple (ks'.map encT)) v7 := by
          obtain ⟨d, hd, hi⟩ := r7
          simp only [List.mem_cons, List.not_mem_nil, or_false] at hd
          rcases hd with rfl | rfl
          · exact ⟨_, .inl rfl, by simpa using hi⟩
          · exact ⟨_, .inr rfl, by simpa using hi⟩
        have it7 := Is.mono m7.2 _ _ it6
        dsimp only
        refine st_asg (R := IsV (encT (.knot nm tk ks'))) (gv_is (gv_tup (gi_cons gv_str (gi_cons (gv_nm (t := .knot nm tk ks) (gv_var rfl it7) (by simp only [tagT]; decide)) (gi_cons (gv_tk (t := .knot nm tk ks) (gv_var rfl it7) rfl) (gi_cons (gv_var rfl ik') gi_nil))))) (by rw [encT, encTs_map]; rfl)) fun v8 H8 e8 r8 => ?_
        have hft : feetTs ks' = feetTs ks := by
          rcases hks' with rfl | rfl
          · rw [feetTs_app]; simp [feetTs, feetT]
          · rw [feetTs_app]; simp [feetTs, feetT]
        have hsg : signsTs ks = [] := by rw [signsT] at hs0; exact hs0
        have hsg' : signsTs ks' = [x] := by
          rcases hks' with rfl | rfl
          · rw [signsTs_app, hsg]; simp [signsTs, signsT]
          · rw [signsTs_app, hsg]; simp [signsTs, signsT]
        have hsz' : szTs ks' = szTs ks + 1 := by
          rcases hks' with rfl | rfl
          · rw [szTs_app]; simp [szTs, szT]; omega
          · rw [szTs_app]; simp [szTs, szT]
        have hht' : htTs ks' = htTs ks := by
          rcases hks' with rfl | rfl
          · rw [htTs_app]; simp [htTs, htT]
          · rw [htTs_app]; simp [htTs, htT]
        have hfu' : fullT (.knot nm tk ks') = true := by
          have h := kt.fu
          rw [fullT, Bool.and_eq_true] at h
          rcases hks' with rfl | rfl
          · rw [fullT, fullTs_app, h.2]; rfl
          · rw [fullT, fullTs_app, h.2]; simp [fullTs, fullT]
        have kf := kt.ft
        rw [feetT] at kf
        dsimp only
        refine st_ret (R := TrV (TreeP signs foot)) (gv_var rfl ⟨.knot nm tk ks', ⟨rfl, by rw [feetT, hft]; exact kf, fun s hs => ?_, ?_, ?_, ?_, hfu'⟩, r8⟩) fun v9 H9 e9 r9 => hQ v9 H9 c7 (m5.trans (m6.trans (m7.trans (e8.trans e9).mod))) (f7.ex (e8.trans e9)) (by omega) r9
        · rw [signsT, hsg'] at hs
          rw [List.mem_singleton.mp hs]
          exact hx
        · rw [signsT, hsg']; simp
        · rw [szT] at hz ⊢; omega
        · rw [htT] at hht ⊢; omega
      | _ => exact absurd hkn (by simp only [tagT]; decide)
    · have hs0 := of_decide_eq_false h
      dsimp only [tNext]
      exact st_ret (R := TrV (TreeP signs foot)) (gv_var rfl ⟨t, ⟨kt.kn, kt.ft, kt.sg, hs0, by omega, hht, kt.fu⟩, Is.mono e5.tups _ _ it⟩) fun v9 H9 e9 r9 => hQ v9 H9 c4 (m4.trans (e5.trans e9).mod) (f4.ex (e5.trans e9)) (by omega) r9
  refine sq (st_if (gt_test (gv_eqS (gv_var rfl (Is.str foot)) gv_str)) (fun h H4 e4 => ?_) fun h H4 e4 => ?_)
  · have hf := of_decide_eq_true h
    cases t with
    | knot nm tk ks =>
      have it4 := Is.mono e4.tups _ _ it
      refine st_asg (R := IsV (encT (.knot name tk ks))) (gv_is (gv_tup (gi_cons gv_str (gi_cons (gv_var rfl (Is.str name)) (gi_cons (gv_tk (t := .knot nm tk ks) (gv_var rfl it4) rfl) (gi_cons (gv_kids (t := .knot nm tk ks) (gv_var rfl it4) rfl) gi_nil))))) (by rw [encT, encTs_map]; rfl)) fun v8 H8 e8 r8 => ?_
      have kf := kt.ft
      have ks' := kt.sg
      exact rest H8 c3 (.knot name tk ks) v8 _ _ (m3.trans (e4.trans e8).mod) (f3.ex (e4.trans e8)) (by omega) ⟨rfl, by rw [feetT] at kf ⊢; exact kf, fun s hs => ks' s (by rw [signsT] at hs ⊢; exact hs), by have h := kt.fu; rw [fullT] at h ⊢; exact h⟩ (by rw [szT] at hz ⊢; omega) (by rw [htT] at hht ⊢; omega) r8
    | _ => exact absurd kt.kn (by simp only [tagT]; decide)
  · exact rest H4 c3 t v _ _ (m3.trans e4.mod) (f3.ex e4) (by omega) kt hz hht (Is.mono e4.tups _ _ it)
end
end K31

namespace K31
open PySem PySem.Spec PyProof.Rows L2 NK Evl
section
variable {F : Fd} {ms : List Addr} {K : PySem.W.Frag} {σ : L2.St} {H : Hp} {ta tb te : TE} {R R' : HR} {D : Ends} {m n : Nat} {tr : TA}
theorem allR_mod {H H' : Hp} (e : Mod ms H H') : ∀ {lls : List (List Str)} {vs : List V}, AllR H (lls.map fun l => LsO ms (dStrs l)) vs → AllR H' (lls.map fun l => LsO ms (dStrs l)) vs
  | [], _, h => by cases h; exact .nil
  | l :: lls, _, h => by
    cases h with
    | cons h1 h2 => exact .cons (MonoM.mo e h1) (allR_mod e h2)
def LLO (ms : List Addr) (lls : List (List Str)) : HR := fun H v => ∃ p xs, v = .ref p ∧ p ∉ ms ∧ H p = some (.lst xs) ∧ AllR H (lls.map fun l => LsO ms (dStrs l)) xs
instance {lls : List (List Str)} : MonoM ms (LLO ms lls) := ⟨fun m ⟨p, xs, h1, n, h2, h3⟩ => ⟨p, xs, h1, n, m.1 _ _ h2 n, allR_mod m h3⟩⟩
instance {lls : List (List Str)} : Mono (LLO ms lls) := ⟨fun e h => MonoM.mo (ms := ms) e.mod h⟩
def OneL (ms : List Addr) (lls : List (List Str)) : HR := fun H v => ∃ l ∈ lls, LsO ms (dStrs l) H v
theorem gf_ixLL {lls : List (List Str)} (ha : ∀ H1 c1, Mod ms H H1 → FdAt F H1 c1 → Gv ta σ H1 (LLO ms lls)) (hb : GF F ms tb σ H n (LtV lls.length)) : GF F ms (tOp (rIxL K) ta tb) σ H n (OneL ms lls) := fun H1 c1 m1 f1 l Q q =>
  ha H1 c1 m1 f1 H1 (Ex.refl _) _ fun x H2 e2 rx => hb H2 c1 (m1.trans e2.mod) (f1.ex e2) l _ fun y H3 c3 m3 f3 l3 ⟨r, hr, ey⟩ => by
    obtain ⟨p, xs, rfl, hp, hxs, al⟩ := MonoM.mo m3 rx
    obtain ⟨v, ev, iv⟩ := al.get (i := r) (R := LsO ms (dStrs lls[r])) (by rw [List.getElem?_map, List.getElem?_eq_getElem hr]; rfl)
    exact ⟨p, xs, Int.ofNat r, v, rfl, ey, sq_of hxs, atI_nat ev, q v H3 c3 (e2.mod.trans m3) f3 l3 ⟨_, List.getElem_mem hr, iv⟩⟩
theorem gv_LLO {c : Nat} {ta : TA} {lls : List (List Str)} (f : FdAt F H c) (h : GvA ta σ H (fun H vs => AllR H (lls.map fun l => LsO [F.fa] (dStrs l)) vs)) (hl : lls.length ≤ sizeLine := by show _ ≤ 16777216; simp) : Gv (tLst ta) σ H (LLO [F.fa] lls) := fun H1 e Q q =>
  h H1 e _ fun vs H2 e2 r => ⟨by rw [r.length, List.length_map]; exact hl, fun p np => q _ _ (e2.trans (Ex.new np)) ⟨p, vs, rfl, by simpa using Ne.symm (ne_at ((f.ex (e.trans e2)).at_) np), upd_same, allR_mod (Ex.new np).mod r⟩⟩
def StrV : HR := fun _ v => ∃ x : Str, v = .str x
instance : MonoM ms StrV := ⟨fun _ h => h⟩
theorem gf_mulL {b : Bool} {k : Nat} (ha : ∀ H1 c1, Mod ms H H1 → FdAt F H1 c1 → Gv ta σ H1 (IsV (.int (if b then 1 else 0)))) (hb : GF F ms tb σ H n (LtV k)) : GF F ms (tOp (rI CMul fun i j => .int (i * j)) ta tb) σ H n (LtV k) := fun H1 c1 m1 f1 l Q q =>
  ha H1 c1 m1 f1 H1 (Ex.refl _) _ fun x H2 e2 rx => hb H2 c1 (m1.trans e2.mod) (f1.ex e2) l _ fun y H3 c3 m3 f3 l3 ⟨r, hr, ey⟩ => by
    rw [rx.int_inv, ey]
    refine ⟨_, Int.ofNat r, rfl, rfl, .inl (by cases b <;> decide), q _ H3 c3 (e2.mod.trans m3) f3 l3 ?_⟩
    cases b with
    | true => exact ⟨r, hr, by simp⟩
    | false => exact ⟨0, by omega, by simp⟩
theorem gf_mulR {b : Bool} {k : Nat} (ha : GF F ms ta σ H n (LtV k)) (hb : ∀ H1 c1, Mod ms H H1 → FdAt F H1 c1 → Gv tb σ H1 (IsV (.int (if b then 1 else 0)))) : GF F ms (tOp (rI CMul fun i j => .int (i * j)) ta tb) σ H n (LtV k) := fun H1 c1 m1 f1 l Q q =>
  ha H1 c1 m1 f1 l _ fun x H2 c2 m2 f2 l2 ⟨r, hr, ey⟩ => hb H2 c2 (m1.trans m2) f2 H2 (Ex.refl _) _ fun y H3 e3 ry => by
    rw [ry.int_inv, ey]
    refine ⟨Int.ofNat r, _, rfl, rfl, .inr (by cases b <;> decide), q _ H3 c2 (m2.trans e3.mod) (f2.ex e3) l2 ?_⟩
    cases b with
    | true => exact ⟨r, hr, by simp⟩
    | false => exact ⟨0, by omega, by simp⟩
theorem gf_modR {k j : Nat} (ha : GF F ms ta σ H n (LtV k)) (hb : ∀ H1 c1, Mod ms H H1 → FdAt F H1 c1 → Gv tb σ H1 (IsV (.int (Int.ofNat j)))) (hj : 0 < j) : GF F ms (tOp (rI (fun _ j => 0 < j) fun i j => .int (i % j)) ta tb) σ H n (LtV j) := fun H1 c1 m1 f1 l Q q =>
  ha H1 c1 m1 f1 l _ fun x H2 c2 m2 f2 l2 ⟨r, hr, ey⟩ => hb H2 c2 (m1.trans m2) f2 H2 (Ex.refl _) _ fun y H3 e3 ry => ⟨Int.ofNat r, Int.ofNat j, ey, ry.int_inv, by simpa using hj, q _ H3 c2 (m2.trans e3.mod) (f2.ex e3) l2 ⟨r % j, Nat.mod_lt _ hj, rfl⟩⟩
/-- ['', e][i], e drawn, i drawn -/
theorem gf_two {l : List Str} (he : GF F [F.fa] te σ H m (OneOf (dStrs l))) (hb : GF F [F.fa] tb σ H n (LtV 2)) : GF F [F.fa] (tOp (rIxL K) (tLst (tCons (tC (.str "")) (tCons te tNil))) tb) σ H (m + n) StrV := fun H1 c1 m1 f1 l Q q =>
  he H1 c1 m1 f1 (by omega) _ fun v H2 c2 m2 f2 l2 r2 => ⟨by show 2 ≤ 16777216; omega, fun p np => hb (upd H2 p (.lst [.str "", v])) c2 (m1.trans (m2.trans (Ex.new np).mod)) (f2.ex (Ex.new np)) (by omega) _ fun y H3 c3 m3 f3 l3 ⟨r, hr, ey⟩ => by
    obtain ⟨x, hx, ix⟩ := oneOf_str r2
    have npf : p ∉ [F.fa] := by simpa using Ne.symm (ne_at f2.at_ np)
    have h3 := m3.1 _ _ (upd_same (H := H2) (a := p) (o := .lst [.str "", v])) npf
    have hm := m2.trans ((Ex.new np).mod.trans m3)
    rw [ix.str_inv] at h3
    have hr2 : r = 0 ∨ r = 1 := by omega
    rcases hr2 with rfl | rfl
    · exact ⟨p, _, 0, .str "", rfl, ey, sq_of h3, rfl, q _ H3 c3 hm f3 (by omega) ⟨_, rfl⟩⟩
    · exact ⟨p, _, 1, .str x, rfl, ey, sq_of h3, rfl, q _ H3 c3 hm f3 (by omega) ⟨_, rfl⟩⟩⟩
theorem sf_app {l : Addr} {xs : List V} {c : Nat} (hl : H l = some (.lst xs)) (nl : l ∉ ms) (ha : Ev ta σ H (.ref l)) (h : GF F ms te σ H n R) (f : FdAt F H c) (lc : c + n < 2 ^ 40) (hz : xs.length < sizeLine) (hb : F.Hb l = none) (nf : l ≠ F.fa) (k : ∀ v H1 c1, Mod (ms ++ [l]) H (upd H1 l (.lst (xs ++ [v]))) → FdAt F (upd H1 l (.lst (xs ++ [v]))) c1 → c1 ≤ c + n → Mod ms H H1 → R H1 v → D.nx σ (upd H1 l (.lst (xs ++ [v])))) :
    tDrop (tBM K "list" rAppend ta (tCons te tNil)) D σ H := ha H (Ex.refl _) _ fun H1 e => ⟨Or.inl ⟨rfl, xs, sq_of (e _ _ hl)⟩, h H1 c e.mod (f.ex e) lc _ fun v H2 c2 m2 f2 l2 r => by
  have h2 := m2.1 _ _ (e _ _ hl) nl
  have mm := (e.mod.trans m2 : Mod ms H H2)
  refine ⟨l, xs, v, rfl, rfl, h2, hz, k v H2 c2 ?_ ?_ l2 mm r⟩
  · exact (mm.wide fun a ha => List.mem_append_left _ ha).updM (by simp) (mut_at h2)
  · exact Feed.mod f2 (ms := [l]) ((Mod.refl _ _).updM (by simp) (mut_at h2)) (fun a ha => by rw [List.mem_singleton.mp ha]; exact hb) (by rw [upd_ne (Ne.symm nf)]; exact f2.at_)⟩
end
def mN : List (List Str) := [["S", "X"], ["A", "AA", "A1"], ["NP", "N"], ["S", "S1", "SS"], ["B"]]
def mS : List (List Str) := [["a", "b"], ["a", "aa", "b"], ["x"], ["on", "o"], ["top", "t", "to"]]
def mK : List (List Str) := [["a", "aa", "b", "ab", "ba"], ["k1", "k", "k11", "k2", "k12"], ["t3", "t2", "t1", "t", "t11"]]
theorem mN_pos : ∀ l ∈ mN, 0 < l.length := by decide
theorem mS_pos : ∀ l ∈ mS, 0 < l.length := by decide
theorem mS_star : ∀ l ∈ mS, ∀ s ∈ l, s ≠ "*" := by decide +kernel
theorem mK_nd : ∀ l ∈ mK, l.Nodup ∧ l.length = 5 := by decide +kernel
/-- the book that the law makes -/
structure BkG (bk : Bk) : Prop where
  ok : BkOk bk
  sg : ∀ p ∈ bk.trees, ∀ s ∈ signsT p.2, s ≠ "*"
  ne : ∀ p ∈ bk.trees, signsT p.2 ≠ []
  ft : ∀ p ∈ bk.trees, (feetT p.2).length ≤ 1
  sz : ∀ p ∈ bk.trees, szT p.2 ≤ 50
  n : bk.trees.length ≤ 5
  fu : ∀ p ∈ bk.trees, fullT p.2 = true
  n0 : 0 < bk.trees.length
def encTr (p : Str × Tr) : PyData := .tuple [.str p.1, encT p.2]
structure TreeQ (t : Tr) : Prop where
  kn : tagT t = "knot"
  sg : ∀ s ∈ signsT t, s ≠ "*"
  ne : signsT t ≠ []
  ft : (feetT t).length ≤ 1
  sz : szT t ≤ 50
  ht : htT t ≤ 4
  fu : fullT t = true
theorem gf_add2 {F : Fd} {ms : List Addr} {σ : L2.St} {H : Hp} {te : TE} {n k : Nat} (h : GF F ms te σ H n (LtV k)) : GF F ms (tOp (rI0 fun i j => .int (i + j)) (tC (.int 2)) te) σ H n (fun _ v => ∃ r, r < k ∧ v = nI (r + 2)) := fun H1 c1 m1 f1 l Q q =>
  h H1 c1 m1 f1 l _ fun v H2 c2 m2 f2 l2 ⟨r, hr, e⟩ => ⟨2, Int.ofNat r, rfl, e, q _ _ c2 m2 f2 l2 ⟨r, hr, by show V.int (2 + Int.ofNat r) = V.int (Int.ofNat (r + 2)); congr 1; simp; omega⟩⟩
def BkV : HR := fun H v => ∃ bk, BkG bk ∧ Is H (encB bk) v
def spBook (fa : Addr) : List V → Hp → List Addr → Nat → HR → Prop := fun vs H ms n R => vs = [.ref fa] ∧ ms = [fa] ∧ n = 2000 ∧ R = BkV
section
variable {P : Program} {w : World} {K : PySem.W.Frag} {mg : Str → Option Value} {base : Heap} {CG CC : Addr}
theorem w_book (T : Txt K mg CG CC) : Cal P w K mg base 10 "_law_book" (SpF K spBook) := by
  refine cal_of T.d_law_book sc__law_book b__law_book (fun vs H Q E ⟨_, _, _, _, _, _, _, ⟨e, _⟩, _⟩ => by rw [e]; rfl) fun f cdv A outer s H vs Q E hr hq => ?_
  have c__law_next := w_next (P := P) (w := w) (base := base) T
  have c__law_tree := w_tree (P := P) (w := w) (base := base) T
  refine ⟨_, (pss_cons (ps_set (i := 1) sc__law_book.nd rfl (Or.inl rfl) (pe_ix ix_list (pe_lst (pa_cons (pe_lst (pa_cons pe_str (pa_cons pe_str pa_nil))) (pa_cons (pe_lst (pa_cons pe_str (pa_cons pe_str (pa_cons pe_str pa_nil)))) (pa_cons (pe_lst (pa_cons pe_str (pa_cons pe_str pa_nil))) (pa_cons (pe_lst (pa_cons pe_str (pa_cons pe_str (pa_cons pe_str pa_nil)))) (pa_cons (pe_lst (pa_cons pe_str pa_nil)) pa_nil)))))) (pe_c c__law_next hr (by omega) rfl (pa_cons (pv 0) (pa_cons pe_int pa_nil))) (fun _ _ => rfl)))
    (pss_cons (ps_set (i := 2) sc__law_book.nd rfl (Or.inl rfl) (pe_ix ix_list (pe_lst (pa_cons (pe_lst (pa_cons pe_str (pa_cons pe_str pa_nil))) (pa_cons (pe_lst (pa_cons pe_str (pa_cons pe_str (pa_cons pe_str pa_nil)))) (pa_cons (pe_lst (pa_cons pe_str pa_nil)) (pa_cons (pe_lst (pa_cons pe_str (pa_cons pe_str pa_nil))) (pa_cons (pe_lst (pa_cons pe_str (pa_cons pe_str (pa_cons pe_str pa_nil)))) pa_nil)))))) (pe_c c__law_next hr (by omega) rfl (pa_cons (pv 0) (pa_cons pe_int pa_nil))) (fun _ _ => rfl)))
    (pss_cons (ps_set (i := 3) sc__law_book.nd rfl (Or.inl rfl) (pe_lst (pa_cons (pe_lst (pa_cons pe_str (pa_cons pe_str (pa_cons pe_str (pa_cons pe_str (pa_cons pe_str pa_nil)))))) (pa_cons (pe_lst (pa_cons pe_str (pa_cons pe_str (pa_cons pe_str (pa_cons pe_str (pa_cons pe_str pa_nil)))))) (pa_cons (pe_lst (pa_cons pe_str (pa_cons pe_str (pa_cons pe_str (pa_cons pe_str (pa_cons pe_str pa_nil)))))) pa_nil)))))
    (pss_cons (ps_set (i := 4) sc__law_book.nd rfl (Or.inl rfl) (pe_ix ix_list (pv 3) (pe_c c__law_next hr (by omega) rfl (pa_cons (pv 0) (pa_cons pe_int pa_nil))) (fun _ _ => rfl)))
    (pss_cons (ps_set (i := 5) sc__law_book.nd rfl (Or.inl rfl) (pe_lst pa_nil))
    (pss_cons (ps_for PassesOwn.never rfl (pi_range1 (by rfl) (T.fr "range" (by decide)) (pa_cons (pe_op op_add pe_int (pe_c c__law_next hr (by omega) rfl (pa_cons (pv 0) (pa_cons pe_int pa_nil)))) pa_nil)) (pg_name (i := 6) sc__law_book.nd rfl (Or.inl rfl))
      (pss_cons (ps_set (i := 7) sc__law_book.nd rfl (Or.inl rfl) (pe_ix ix_list (pe_lst (pa_cons pe_str (pa_cons (pe_ix ix_list (pv 1) (pe_c c__law_next hr (by omega) rfl (pa_cons (pv 0) (pa_cons (pe_callB cr_len rfl (T.fr "len" (by decide)) (by decide +kernel) (pa_cons (pv 1) pa_nil)) pa_nil))) (fun _ _ => rfl)) pa_nil))) (pe_op op_mul (pe_callTy cr_int rfl (T.fr "int" (by decide)) (by decide +kernel) (pa_cons (pe_cmpR op_gt (pv 6) pe_int (nomark _)) pa_nil)) (pe_c c__law_next hr (by omega) rfl (pa_cons (pv 0) (pa_cons pe_int pa_nil)))) (fun _ _ => rfl)))
      (pss_cons (ps_set (i := 8) sc__law_book.nd rfl (Or.inl rfl) (pe_ix ix_list (pv 1) (pe_op op_mul (pe_c c__law_next hr (by omega) rfl (pa_cons (pv 0) (pa_cons (pe_callB cr_len rfl (T.fr "len" (by decide)) (by decide +kernel) (pa_cons (pv 1) pa_nil)) pa_nil))) (pe_callTy cr_int rfl (T.fr "int" (by decide)) (by decide +kernel) (pa_cons (pe_cmpR op_gt (pv 6) pe_int (nomark _)) pa_nil))) (fun _ _ => rfl)))
      (pss_one (ps_expr (pe_bm PySem.F.plainAttrs_list PySem.F.slot_list_append PySem.F.type_list_append mt_append (pv 5) (pa_cons (pe_tupP (pa_cons (pe_ix ix_list (pv 4) (pv 6) (fun _ _ => rfl)) (pa_cons (pe_c c__law_tree hr (by omega) rfl (pa_cons (pv 0) (pa_cons (pv 1) (pa_cons (pv 2) (pa_cons (pv 7) (pa_cons (pv 8) pa_nil)))))) pa_nil))) pa_nil)))))))
    (pss_cons (ps_if (pt_cmpR op_gt (pe_c c__law_next hr (by omega) rfl (pa_cons (pv 0) (pa_cons pe_int pa_nil))) pe_int (nomark _))
      (pss_cons (ps_set (i := 9) sc__law_book.nd rfl (Or.inl rfl) (pe_tupP (pa_cons pe_str (pa_cons (pe_ix ix_list (pv 2) (pe_c c__law_next hr (by omega) rfl (pa_cons (pv 0) (pa_cons (pe_callB cr_len rfl (T.fr "len" (by decide)) (by decide +kernel) (pa_cons (pv 2) pa_nil)) pa_nil))) (fun _ _ => rfl)) pa_nil))))
      (pss_one (ps_expr (pe_bm PySem.F.plainAttrs_list PySem.F.slot_list_append PySem.F.type_list_append mt_append (pv 5) (pa_cons (pe_tupP (pa_cons (pe_ix ix_list (pv 4) pe_int (fun _ _ => rfl)) (pa_cons (pe_tupP (pa_cons pe_str (pa_cons (pe_ix ix_list (pv 1) (pe_op op_mod (pe_c c__law_next hr (by omega) rfl (pa_cons (pv 0) (pa_cons pe_int pa_nil))) (pe_callB cr_len rfl (T.fr "len" (by decide)) (by decide +kernel) (pa_cons (pv 1) pa_nil))) (fun _ _ => rfl)) (pa_cons pe_non (pa_cons (pe_tupP (pa_cons (pv 9) pa_nil)) pa_nil))))) pa_nil))) pa_nil)))))
      pss_nil)
    (pss_one (ps_ret (pe_tupP (pa_cons (pe_ix ix_list (pv 1) pe_int (fun _ _ => rfl)) (pa_cons (pe_callTy cr_tupOf rfl (T.fr "tuple" (by decide)) (by decide +kernel) (pa_cons (pv 5) pa_nil)) pa_nil)))))))))))), ?_⟩
  obtain ⟨F, c, n, ms, R, hF, hm, ⟨rfl, rfl, rfl, rfl⟩, fc, lc, hQ⟩ := hq
  have hfa : F.fa ∈ [F.fa] := by simp
  refine sq (sf_asg (F := F) (ms := [F.fa]) (n := 1) (R := OneL [F.fa] mN) (gf_ixLL (fun H1 c1 mm f1 => gv_LLO f1 (gr_cons (gv_lstO f1 (gi_cons gv_str (gi_cons gv_str gi_nil))) (gr_cons (gv_lstO f1 (gi_cons gv_str (gi_cons gv_str (gi_cons gv_str gi_nil)))) (gr_cons (gv_lstO f1 (gi_cons gv_str (gi_cons gv_str gi_nil))) (gr_cons (gv_lstO f1 (gi_cons gv_str (gi_cons gv_str (gi_cons gv_str gi_nil)))) (gr_cons (gv_lstO f1 (gi_cons gv_str gi_nil)) gr_nil))))) (show mN.length ≤ 16777216 by decide)) (gf_next (k := 5) hF hfa rfl (fun H1 c1 m1 f1 => gv_int) (by decide))) fc (by omega) fun v1 H1 c1 m1 f1 l1 ⟨names, hnm, r1⟩ => ?_)
  have n0 := mN_pos names hnm
  dsimp only
  refine sq (sf_asg (F := F) (ms := [F.fa]) (n := 1) (R := OneL [F.fa] mS) (gf_ixLL (fun H1 c1 mm f1 => gv_LLO f1 (gr_cons (gv_lstO f1 (gi_cons gv_str (gi_cons gv_str gi_nil))) (gr_cons (gv_lstO f1 (gi_cons gv_str (gi_cons gv_str (gi_cons gv_str gi_nil)))) (gr_cons (gv_lstO f1 (gi_cons gv_str gi_nil)) (gr_cons (gv_lstO f1 (gi_cons gv_str (gi_cons gv_str gi_nil))) (gr_cons (gv_lstO f1 (gi_cons gv_str (gi_cons gv_str (gi_cons gv_str gi_nil)))) gr_nil))))) (show mS.length ≤ 16777216 by decide)) (gf_next (k := 5) hF hfa rfl (fun H1 c1 m1 f1 => gv_int) (by decide))) f1 (by omega) fun v2 H2 c2 m2 f2 l2 ⟨signs, hsg, r2⟩ => ?_)
  have s0 := mS_pos signs hsg
  have hstar := mS_star signs hsg
  dsimp only
  refine sq (st_asg (R := LLO [F.fa] mK) (gv_LLO f2 (gr_cons (gv_lstO f2 (gi_cons gv_str (gi_cons gv_str (gi_cons gv_str (gi_cons gv_str (gi_cons gv_str gi_nil)))))) (gr_cons (gv_lstO f2 (gi_cons gv_str (gi_cons gv_str (gi_cons gv_str (gi_cons gv_str (gi_cons gv_str gi_nil)))))) (gr_cons (gv_lstO f2 (gi_cons gv_str (gi_cons gv_str (gi_cons gv_str (gi_cons gv_str (gi_cons gv_str gi_nil)))))) gr_nil))) (show mK.length ≤ 16777216 by decide)) fun v3 H3 e3 r3 => ?_)
  have f3 := f2.ex e3
  dsimp only
  refine sq (sf_asg (F := F) (ms := [F.fa]) (n := 1) (R := OneL [F.fa] mK) (gf_ixLL (fun H1 c1 mm f1 => gv_var rfl (MonoM.mo mm r3)) (gf_next (k := 3) hF hfa rfl (fun H1 c1 m1 f1 => gv_int) (by decide))) f3 (by omega) fun v4 H4 c4 m4 f4 l4 ⟨keys, hks, r4⟩ => ?_)
  obtain ⟨knd, klen⟩ := mK_nd keys hks
  dsimp only
  refine sq (st_new0 fun tp ntp => ?_)
  have x5 := Ex.new (o := .lst []) ntp
  have htp : upd H4 tp (.lst []) tp = some (.lst []) := upd_same
  have ntf : tp ≠ F.fa := Ne.symm (ne_at f4.at_ ntp)
  have hbt : F.Hb tp = none := fresh_back f4.ex_ ntp
  have f5 := f4.ex x5
  have m04 := m1.trans (m2.trans ((e3.mod : Mod [F.fa] H2 H3).trans m4))
  have htH : H tp = none := by
    cases h : H tp with
    | none => rfl
    | some u => have := m04.1 _ _ h (by simpa using ntf); rw [ntp] at this; cases this
  have nm5 := Mono.mo x5 (LsO.more (MonoM.mo (m2.trans ((e3.mod : Mod [F.fa] H2 H3).trans m4)) r1) ntp)
  have sg5 := Mono.mo x5 (LsO.more (MonoM.mo ((e3.mod : Mod [F.fa] H2 H3).trans m4) r2) ntp)
  have ks5 := Mono.mo x5 (LsO.more r4 ntp)
  generalize upd H4 tp (.lst []) = H5 at x5 htp f5 nm5 sg5 ks5
  have m05 : Mod [F.fa] H H5 := m04.trans x5.mod
  have wide : ∀ {H1 H2 : Hp}, Mod [F.fa] H1 H2 → Mod ([F.fa] ++ [tp]) H1 H2 := fun mm => mm.wide (by simp)
  have subf : ∀ {ds : List PyData} {H' : Hp} {v : V}, LsO ([F.fa] ++ [tp]) ds H' v → LsO [F.fa] ds H' v := fun h => h.sub (by simp)
  dsimp only
  have l5 : c4 ≤ c + 3 := by omega
  -- the end
  have fin : ∀ (H' : Hp) (c' : Nat) (ts : List (Str × Tr)) (xs : List V) (z6 z7 z8 z9 : Option V), Mod ([F.fa] ++ [tp]) H5 H' → FdAt F H' c' → c' ≤ c + 2000 → H' tp = some (.lst xs) → IsAll H' (ts.map encTr) xs → (ts.map (·.1)).Nodup → ts.length ≤ 5 → 0 < ts.length → (∀ p ∈ ts, TreeQ p.2) →
      tRet (tTupP (tCons (tOp (rIxL K) (tVar 1) (tC (.int 0))) (tCons (tCB (rTupOf K) (tCons (tVar 5) tNil)) tNil))) { nx := fun _ H' => Q .non H', rt := Q } [some (.ref F.fa), some v1, some v2, some v3, some v4, some (.ref tp), z6, z7, z8, z9] H' := by
    intro H' c' ts xs z6 z7 z8 z9 mm f' l' hxs al nd len len0 tq
    have nm' := MonoM.mo mm nm5
    obtain ⟨nmx, hnx⟩ : ∃ x, names[0]? = some x := ⟨names[0], List.getElem?_eq_getElem n0⟩
    refine st_ret (R := BkV) (gv_imp (gv_tup (gi_cons (gv_ixL (d := .str nmx) (gv_imp (gv_var (R := LsO ([F.fa] ++ [tp]) (dStrs names)) rfl nm') fun _ _ _ r => r.ls) gv_int (atI_nat (j := 0) (by simp [dStrs, hnx]))) (gi_cons (gv_tupOf (gv_var (R := LsV (ts.map encTr)) rfl ⟨tp, xs, rfl, hxs, al⟩)) gi_nil))) fun H2 v _ h => ⟨⟨nmx, ts⟩, ⟨⟨nd, by show ts.length ≤ 10; omega, fun p hp => ⟨by have := (tq p hp).ht; omega, by have := (tq p hp).sz; omega⟩, fun p hp => (tq p hp).kn⟩, fun p hp => (tq p hp).sg, fun p hp => (tq p hp).ne, fun p hp => (tq p hp).ft, fun p hp => (tq p hp).sz, len, fun p hp => (tq p hp).fu, len0⟩, h⟩) fun v H2 e2 r2 => hQ v H2 c' ?_ (f'.ex e2) (by omega) r2
    refine (m04.trans ?_).trans e2.mod
    exact Mod.drop (ms := [F.fa]) mm x5 ntp
  -- one of the trees
  have keyAt : ∀ {H' : Hp} {σ' : L2.St} {te : TE} (j : Nat), j < 5 → σ'[4]? = some (some v4) → Mod ([F.fa] ++ [tp]) H5 H' → Gv te σ' H' (IsV (.int (Int.ofNat j))) → ∃ x, keys[j]? = some x ∧ Gv (tOp (rIxL K) (tVar 4) te) σ' H' (IsV (.str x)) := fun j hj hσ mm ht => by
    obtain ⟨x, hx⟩ : ∃ x, keys[j]? = some x := ⟨keys[j], List.getElem?_eq_getElem (by omega)⟩
    exact ⟨x, hx, gv_ixL (d := .str x) (gv_imp (gv_var (R := LsO ([F.fa] ++ [tp]) (dStrs keys)) hσ (MonoM.mo mm ks5)) fun _ _ _ r => r.ls) ht (atI_nat (by simp [dStrs, hx]))⟩
  refine sq ?_
  refine (gf_add2 (gf_next (k := 3) hF hfa rfl (fun H1 c1 m1 f1 => gv_int) (by decide)) : GF F [F.fa] _ _ H5 1 _) H5 c4 (Mod.refl _ _) f5 (by omega) _ fun v6 H6 c6 m6 f6 l6 ⟨r, hr, e6⟩ => ?_
  subst e6
  refine (st_forR (te := tC (nI (r + 2))) (n := r + 2) (fun H1 e Q q => q _ H1 (Ex.refl _) (.int _)) (by omega) fun H7 e7 => ?_ : tFor (iRng1 (tCons (tC (nI (r + 2))) tNil)) _ _ _ _ H6)
  refine ⟨fun i σ' H' => ∃ z6 z7 z8 z9 ci ts xs, σ' = [some (.ref F.fa), some v1, some v2, some v3, some v4, some (.ref tp), z6, z7, z8, z9] ∧ Mod ([F.fa] ++ [tp]) H5 H' ∧ FdAt F H' ci ∧ ci ≤ c + 4 + 203 * i ∧ H' tp = some (.lst xs) ∧ IsAll H' (ts.map encTr) xs ∧ ts.map (·.1) = keys.take i ∧ ts.length = i ∧ ∀ p ∈ ts, TreeQ p.2,
    ⟨_, _, _, _, c6, [], [], rfl, (wide m6).trans e7.mod, f6.ex e7, by omega, e7 _ _ (m6.1 _ _ htp (by simpa using ntf)), .nil, by simp, rfl, fun p hp => (nomatch hp)⟩, ?_, ?_⟩
  · rintro i σ' H' hi ⟨z6, z7, z8, z9, ci, ts, xs, rfl, mm, fi, li, hxs, al, hk, hlen, tq⟩
    have nm' := subf (MonoM.mo mm nm5)
    have sg' := subf (MonoM.mo mm sg5)
    have drawN : ∀ {σ' : L2.St} {H'' : Hp}, σ'[0]? = some (some (.ref F.fa)) → σ'[1]? = some (some v1) → Mod [F.fa] H' H'' → GF F [F.fa] (tCall (spNext K) [] E0 (tCons (tVar 0) (tCons (tCB (rLn K) (tCons (tVar 1) tNil)) tNil))) σ' H'' 1 (LtV (dStrs names).length) := fun h0 h1 m => gf_imp (gf_next (k := names.length) hF hfa h0 (fun H1 c1 mm f1 => gv_lenO (gv_var (R := LsO [F.fa] (dStrs names)) h1 (MonoM.mo (m.trans mm) nm'))) n0) fun H1 v h => by simpa [dStrs] using h
    refine sq (sf_asg (F := F) (ms := [F.fa]) (n := 1 + 1) (R := StrV) (gf_two (l := names) (gf_ix (fun H1 c1 mm f1 => gv_var rfl (MonoM.mo mm nm')) (drawN rfl rfl (Mod.refl _ _))) (gf_mulL (b := decide ((0 : Int) < Int.ofNat i)) (fun H1 c1 mm f1 => gv_intB (gv_gt (gv_var rfl (Is.int _)) gv_int)) (gf_next (k := 2) hF hfa rfl (fun H1 c1 m1 f1 => gv_int) (by decide)))) fi (by omega) fun v7 H8 c8 m8 f8 l8 ⟨foot, e8⟩ => ?_)
    subst e8
    dsimp only
    refine sq (sf_asg (F := F) (ms := [F.fa]) (n := 1) (R := StrV) (gf_imp (gf_ix (fun H1 c1 mm f1 => gv_var rfl (MonoM.mo (m8.trans mm) nm')) (gf_mulR (b := decide ((0 : Int) < Int.ofNat i)) (drawN rfl rfl m8) (fun H1 c1 mm f1 => gv_intB (gv_gt (gv_var rfl (Is.int _)) gv_int)))) fun H1 v h => by
      obtain ⟨x, hx, ix⟩ := oneOf_str h
      exact ⟨x, ix.str_inv⟩) f8 (by omega) fun v9 H9 c9 m9 f9 l9 ⟨name, e9⟩ => ?_)
    subst e9
    dsimp only
    have m89 := m8.trans m9
    have hi5 : i < 5 := by omega
    obtain ⟨ky, hky⟩ : ∃ x, keys[i]? = some x := ⟨keys[i], List.getElem?_eq_getElem (by omega)⟩
    refine sf_app (F := F) (ms := [F.fa]) (n := 0 + ((0 + (0 + (0 + (0 + (0 + 0))))) + 200 + 0)) (R := fun H1 v => ∃ t, TreeP signs foot t ∧ Is H1 (encTr (ky, t)) v) (m89.1 _ _ hxs (by simpa using ntf)) (by simpa using ntf) (ev_var rfl) (gf_tupR (RA := ConsR (IsV (.str ky)) (ConsR (TrV (TreeP signs foot)) NilR)) (gfa_cons (m := 0) (gf_pure fun H1 c1 m1 f1 => by
        obtain ⟨x, hx, h⟩ := keyAt (te := tVar 6) (σ' := (([some (.ref F.fa), some v1, some v2, some v3, some v4, some (.ref tp), z6, z7, z8, z9].set 6 (some (.int (Int.ofNat i)))).set 7 (some (.str foot))).set 8 (some (.str name))) i hi5 rfl (mm.trans (wide (m89.trans m1))) (gv_var rfl (Is.int _))
        rw [hky] at hx
        cases hx
        exact h) (gfa_cons (m := (0 + (0 + (0 + (0 + (0 + 0))))) + 200) (n := 0) (gf_call (m := 0 + (0 + (0 + (0 + (0 + 0))))) (n := 200) (RA := ConsR (EqV (.ref F.fa)) (ConsR (LsO [F.fa] (dStrs names)) (ConsR (LsO [F.fa] (dStrs signs)) (ConsR (EqV (.str foot)) (ConsR (EqV (.str name)) NilR))))) hF hfa (by simp) (gfa_cons (m := 0) (gf_pure fun _ _ _ _ => gv_ref rfl) (gfa_cons (m := 0) (gf_pure fun H1 c1 m1 _ => gv_var rfl (MonoM.mo (m89.trans m1) nm')) (gfa_cons (m := 0) (gf_pure fun H1 c1 m1 _ => gv_var rfl (MonoM.mo (m89.trans m1) sg')) (gfa_cons (m := 0) (gf_pure fun _ _ _ _ => gv_ref rfl) (gfa_cons (m := 0) (n := 0) (gf_pure fun _ _ _ _ => gv_ref rfl) gfa_nil))))) fun vs H1 c1 m1 f1 ra => ?_) gfa_nil)) fun H1 vs h => ?_) f9 (by omega) ?_ hbt ntf fun v H10 c10 mA fA lA mB ⟨t, tP, it⟩ => ?_
    · obtain ⟨a1, _, rfl, rfl, a2, _, rfl, i2, a3, _, rfl, i3, a4, _, rfl, rfl, a5, _, rfl, rfl, rfl⟩ := ra
      exact ⟨a2, a3, foot, name, names, signs, rfl, rfl, i2, i3, n0, s0, rfl, rfl⟩
    · obtain ⟨a1, _, rfl, i1, a2, _, rfl, ⟨t, tP, i2⟩, rfl⟩ := h
      exact ⟨[.str ky, encT t], .cons i1 (.cons i2 .nil), by simp, fun H2 u hu => ⟨t, tP, hu⟩⟩
    · rw [al.length, List.length_map]
      show _ < 16777216
      omega
    · have mC := mm.trans ((wide m89).trans mA)
      have tt : Tups H10 (upd H10 tp (.lst (xs ++ [v]))) := Tups.mut (mut_at (mB.1 _ _ (m89.1 _ _ hxs (by simpa using ntf)) (by simpa using ntf)))
      refine ⟨_, _, _, _, c10, ts ++ [(ky, t)], xs ++ [v], rfl, mC, fA, by omega, upd_same, ?_, ?_, by simp [hlen], ?_⟩
      · rw [List.map_append]
        exact (IsAll.mono ((m89.trans mB).2.trans tt) _ _ al).append (.cons (Is.mono tt _ _ it) .nil)
      · rw [List.map_append, hk, List.take_succ, hky]
        rfl
      · intro p hp
        rcases List.mem_append.mp hp with h | h
        · exact tq p h
        · rw [List.mem_singleton.mp h]
          refine ⟨tP.kn, fun s hs => hstar s (tP.sg s hs), tP.ne, ?_, tP.sz, tP.ht, tP.fu⟩
          rw [tP.ft]
          split <;> simp
  · rintro σ' H' ⟨z6, z7, z8, z9, ci, ts, xs, rfl, mm, fi, li, hxs, al, hk, hlen, tq⟩
    have nm' := subf (MonoM.mo mm nm5)
    have sg' := subf (MonoM.mo mm sg5)
    dsimp only
    have nd1 : (ts.map (·.1)).Nodup := by rw [hk]; exact knd.sublist (List.take_sublist _ _)
    refine sq ?_
    refine gf_next (F := F) (ms := [F.fa]) (k := 3) hF hfa rfl (fun H1 c1 m1 f1 => gv_int) (by decide) H' ci (Mod.refl _ _) fi (by omega) _ fun v2' H8 c8 m8 f8 l8 ⟨r2, hr2, e8⟩ => ?_
    subst e8
    refine ⟨Int.ofNat r2, 0, rfl, rfl, _, rfl, ite2 (fun _ => ?_) (fun _ => ?_)⟩
    · refine sq (sf_asg (F := F) (ms := [F.fa]) (n := 1) (R := TrV (fun u => ∃ x ∈ signs, u = .sign x)) (gf_tup2 (gf_ix (ds := dStrs signs) (fun H1 c1 mm _ => gv_var rfl (MonoM.mo (m8.trans mm) sg')) (gf_imp (gf_next (k := signs.length) hF hfa rfl (fun H1 c1 mm f1 => gv_lenO (gv_var (R := LsO [F.fa] (dStrs signs)) rfl (MonoM.mo (m8.trans mm) sg'))) s0) fun H1 v h => by simpa [dStrs] using h)) fun H1 v h => by
        obtain ⟨x, hx, ix⟩ := oneOf_str h
        exact ⟨.str x, ix, fun H2 u hu => ⟨.sign x, ⟨x, hx, rfl⟩, by rw [encT]; exact hu⟩⟩) f8 (by omega) fun v9 H9 c9 m9 f9 l9 ⟨u, ⟨x, hx, eu⟩, iu⟩ => ?_)
      subst eu
      dsimp only
      have m89 := m8.trans m9
      obtain ⟨ky, hky⟩ : ∃ x, keys[4]? = some x := ⟨keys[4], List.getElem?_eq_getElem (by omega)⟩
      refine sf_app (F := F) (ms := [F.fa]) (n := 0 + (0 + (1 + (0 + (0 + 0))) + 0)) (R := fun H1 v => ∃ nm, Is H1 (encTr (ky, .knot nm none [.sign x])) v) (m89.1 _ _ hxs (by simpa using ntf)) (by simpa using ntf) (ev_var rfl) (gf_tupR (RA := ConsR (IsV (.str ky)) (ConsR (TrV fun u => ∃ nm, u = .knot nm none [.sign x]) NilR)) (gfa_cons (m := 0) (gf_pure fun H1 c1 m1 f1 => by
          obtain ⟨x', hx', h⟩ := keyAt (te := tC (.int 4)) (σ' := [some (.ref F.fa), some v1, some v2, some v3, some v4, some (.ref tp), z6, z7, z8, z9].set 9 (some v9)) 4 (by omega) rfl (mm.trans (wide (m89.trans m1))) gv_int
          rw [hky] at hx'
          cases hx'
          exact h) (gfa_cons (m := 0 + (1 + (0 + (0 + 0)))) (n := 0) (gf_tupR (RA := ConsR (IsV (.str "knot")) (ConsR (OneOf (dStrs names)) (ConsR (IsV .none) (ConsR (IsV (.tuple [encT (.sign x)])) NilR)))) (gfa_cons (m := 0) (gf_pure fun _ _ _ _ => gv_str) (gfa_cons (m := 1) (gf_ix (fun H1 c1 m1 _ => gv_var rfl (MonoM.mo (m89.trans m1) nm')) (gf_imp (gf_modR (k := 2) (j := names.length) (gf_next (k := 2) hF hfa rfl (fun H1 c1 m1 f1 => gv_int) (by decide)) (fun H1 c1 m1 f1 => gv_lenO (gv_var (R := LsO [F.fa] (dStrs names)) rfl (MonoM.mo (m89.trans m1) nm'))) n0) fun H1 v h => by simpa [dStrs] using h)) (gfa_cons (m := 0) (gf_pure fun _ _ _ _ => gv_non) (gfa_cons (m := 0) (n := 0) (gf_pure fun H1 c1 m1 _ => gv_tup (gi_cons (gv_var rfl (Is.mono m1.2 _ _ iu)) gi_nil)) gfa_nil)))) fun H1 vs h => ?_) gfa_nil)) fun H1 vs h => ?_) f9 (by omega) ?_ hbt ntf fun v H10 c10 mA fA lA mB ⟨nm, it⟩ => ?_
      · obtain ⟨a1, _, rfl, i1, a2, _, rfl, i2, a3, _, rfl, i3, a4, _, rfl, i4, rfl⟩ := h
        obtain ⟨nm, _, i2⟩ := oneOf_str i2
        exact ⟨[.str "knot", .str nm, .none, .tuple [encT (.sign x)]], .cons i1 (.cons i2 (.cons i3 (.cons i4 .nil))), by simp, fun H2 u hu => ⟨_, ⟨nm, rfl⟩, by rw [encT]; exact hu⟩⟩
      · obtain ⟨a1, _, rfl, i1, a2, _, rfl, ⟨u, ⟨nm, rfl⟩, i2⟩, rfl⟩ := h
        exact ⟨[.str ky, encT (.knot nm none [.sign x])], .cons i1 (.cons i2 .nil), by simp, fun H2 u hu => ⟨nm, hu⟩⟩
      · rw [al.length, List.length_map]
        show _ < 16777216
        omega
      · have mC := mm.trans ((wide m89).trans mA)
        have tt : Tups H10 (upd H10 tp (.lst (xs ++ [v]))) := Tups.mut (mut_at (mB.1 _ _ (m89.1 _ _ hxs (by simpa using ntf)) (by simpa using ntf)))
        refine fin _ c10 (ts ++ [(ky, .knot nm none [.sign x])]) (xs ++ [v]) _ _ _ _ mC fA (by omega) upd_same ?_ ?_ (by simp [hlen]; omega) (by simp) ?_
        · rw [List.map_append]
          exact (IsAll.mono ((m89.trans mB).2.trans tt) _ _ al).append (.cons (Is.mono tt _ _ it) .nil)
        · rw [List.map_append, hk]
          show (keys.take (r + 2) ++ [ky]).Nodup
          rw [List.nodup_append]
          refine ⟨knd.sublist (List.take_sublist _ _), by simp, fun a ha b hb => ?_⟩
          rw [List.mem_singleton.mp hb]
          intro e
          subst e
          obtain ⟨j, hj, ej⟩ := List.mem_take_iff_getElem.mp ha
          have h4 : keys[4]'(by omega) = a := by
            rw [List.getElem?_eq_getElem (by omega)] at hky
            exact Option.some.inj hky
          have hj2 : j < keys.length := by omega
          exact (List.pairwise_iff_getElem.mp knd) j 4 hj2 (by omega) (by omega) (ej.trans h4.symm)
        · intro p hp
          rcases List.mem_append.mp hp with h | h
          · exact tq p h
          · rw [List.mem_singleton.mp h]
            refine ⟨rfl, fun s hs => ?_, by simp [signsT, signsTs], by simp [feetT, feetTs], by simp [szT, szTs], by simp [htT, htTs], by simp [fullT, fullTs]⟩
            simp [signsT, signsTs] at hs
            rw [hs]
            exact hstar x hx
    · exact fin H8 c8 ts xs _ _ _ _ (mm.trans (wide m8)) f8 (by omega) (m8.1 _ _ hxs (by simpa using ntf)) (IsAll.mono m8.2 _ _ al) nd1 (by omega) (by omega) tq
end
end K31

/-! plans -/
namespace K31
open PySem PySem.Spec PyProof.Rows L2 NK Evl
mutual
inductive Plan where
  | mk (key : Str) (fill : Fill)
inductive Fill where
  | nil
  | cons (pl : Place) (p : Plan) (rest : Fill)
end
mutual
def encPl : Plan → PyData
  | .mk k f => .tuple [.str k, .tuple (encFl f)]
def encFl : Fill → List PyData
  | .nil => []
  | .cons pl p r => .tuple [encP pl, encPl p] :: encFl r
end
def encFill (f : Fill) : PyData := .tuple (encFl f)
abbrev PTab := Str → Nat → List Plan
def someL (bk : Bk) (PT : PTab) (s : Site) (c : Nat) : List Plan := (calledL bk s.gr s.nm).flatMap fun k => PT k c
def fillL (bk : Bk) (PT : PTab) : List Site → Nat → List Fill
  | [], left => if left = 0 then [.nil] else []
  | s :: ss, left => (if s.must then [] else fillL bk PT ss left) ++ (List.range left).flatMap fun i => (fillL bk PT ss (left - (i + 1))).flatMap fun rest => (someL bk PT s (i + 1)).map fun p => Fill.cons s.pl p rest
/-- how many: bounds -/
def bnd : Nat → Nat
  | 1 => 5
  | _ => 150
def gB3 : Nat → Nat × Nat × Nat × Nat
  | 0 => (1, 0, 0, 0)
  | m + 1 => match gB3 m with
    | (a, b, c, d) => (a, b + 5 * a, c + 5 * b + 150 * a, d + 5 * c + 150 * b + 150 * a)
def gBd (m left : Nat) : Nat := match left with
  | 0 => (gB3 m).1
  | 1 => (gB3 m).2.1
  | 2 => (gB3 m).2.2.1
  | _ => (gB3 m).2.2.2
theorem gBd_max : ∀ m, m ≤ 50 → ∀ l, gBd m l ≤ 10000000 := by
  have h : ∀ m : Fin 51, (gB3 m.1).1 ≤ 10000000 ∧ (gB3 m.1).2.1 ≤ 10000000 ∧ (gB3 m.1).2.2.1 ≤ 10000000 ∧ (gB3 m.1).2.2.2 ≤ 10000000 := by decide +kernel
  intro m hm l
  obtain ⟨h1, h2, h3, h4⟩ := h ⟨m, by omega⟩
  match l with
  | 0 => exact h1
  | 1 => exact h2
  | 2 => exact h3
  | l + 3 => exact h4
theorem gBd_succ0 (m : Nat) : gBd (m + 1) 0 = gBd m 0 := rfl
theorem gBd_succ1 (m : Nat) : gBd (m + 1) 1 = gBd m 1 + 5 * gBd m 0 := rfl
theorem gBd_succ2 (m : Nat) : gBd (m + 1) 2 = gBd m 2 + 5 * gBd m 1 + 150 * gBd m 0 := rfl
theorem gBd_succ3 (m : Nat) : gBd (m + 1) 3 = gBd m 3 + 5 * gBd m 2 + 150 * gBd m 1 + 150 * gBd m 0 := rfl
/-- the part of the fills with a plan at the first site, of i counts -/
def fillPart (bk : Bk) (PT : PTab) (s : Site) (ss : List Site) (left i : Nat) : List Fill := (fillL bk PT ss (left - (i + 1))).flatMap fun rest => (someL bk PT s (i + 1)).map fun p => Fill.cons s.pl p rest
theorem fillPart_len {bk : Bk} {PT : PTab} (hb : ∀ s c, (someL bk PT s c).length ≤ bnd c) (s : Site) (ss : List Site) (left i : Nat) : (fillPart bk PT s ss left i).length ≤ (fillL bk PT ss (left - (i + 1))).length * bnd (i + 1) := by
  unfold fillPart
  exact flat_len (l := fillL bk PT ss (left - (i + 1))) fun x _ => by rw [List.length_map]; exact hb s (i + 1)
theorem fillL_len {bk : Bk} {PT : PTab} (hb : ∀ s c, (someL bk PT s c).length ≤ bnd c) : ∀ (ss : List Site) (left : Nat), left ≤ 3 → (fillL bk PT ss left).length ≤ gBd ss.length left
  | [], left, h => by
    rw [fillL]
    match left, h with
    | 0, _ => simp [gBd, gB3]
    | 1, _ => simp [gBd, gB3]
    | 2, _ => simp [gBd, gB3]
    | 3, _ => simp [gBd, gB3]
  | s :: ss, left, h => by
    have ih := fillL_len hb ss
    have i0 := ih 0 (by omega)
    have i1 := ih 1 (by omega)
    have i2 := ih 2 (by omega)
    have i3 := ih 3 (by omega)
    have e : fillL bk PT (s :: ss) left = (if s.must then [] else fillL bk PT ss left) ++ (List.range left).flatMap fun i => fillPart bk PT s ss left i := by rw [fillL]; rfl
    have hm : (if s.must then [] else fillL bk PT ss left).length ≤ (fillL bk PT ss left).length := by split <;> simp
    rw [e, List.length_append, List.length_cons]
    match left, h with
    | 0, _ => simp at hm ⊢; rw [gBd_succ0]; omega
    | 1, _ =>
      have p0 := fillPart_len hb s ss 1 0
      simp only [Nat.zero_add, Nat.sub_self, bnd] at p0
      have : (List.range 1).flatMap (fun i => fillPart bk PT s ss 1 i) = fillPart bk PT s ss 1 0 := by simp [List.range_succ]
      rw [this, gBd_succ1]
      have := Nat.mul_le_mul_right 5 i0
      omega
    | 2, _ =>
      have p0 := fillPart_len hb s ss 2 0
      have p1 := fillPart_len hb s ss 2 1
      simp only [bnd, Nat.reduceAdd, Nat.reduceSub] at p0 p1
      have : (List.range 2).flatMap (fun i => fillPart bk PT s ss 2 i) = fillPart bk PT s ss 2 0 ++ fillPart bk PT s ss 2 1 := by simp [List.range_succ]
      rw [this, gBd_succ2, List.length_append]
      have := Nat.mul_le_mul_right 5 i1
      have := Nat.mul_le_mul_right 150 i0
      omega
    | 3, _ =>
      have p0 := fillPart_len hb s ss 3 0
      have p1 := fillPart_len hb s ss 3 1
      have p2 := fillPart_len hb s ss 3 2
      simp only [bnd, Nat.reduceAdd, Nat.reduceSub] at p0 p1 p2
      have : (List.range 3).flatMap (fun i => fillPart bk PT s ss 3 i) = fillPart bk PT s ss 3 0 ++ fillPart bk PT s ss 3 1 ++ fillPart bk PT s ss 3 2 := by simp [List.range_succ]
      rw [this, gBd_succ3, List.length_append, List.length_append]
      have := Nat.mul_le_mul_right 5 i2
      have := Nat.mul_le_mul_right 150 i1
      have := Nat.mul_le_mul_right 150 i0
      omega
/-! the table of plans -/
def encN (n : Nat) : PyData := .int (Int.ofNat n)
theorem keyN : KeyE encN := ⟨fun a b h => Int.ofNat.inj (by simpa [encN, keyDa] using h), fun a => by simp [encN, keyDa, NestedKey.depth]⟩
def encS (s : Str) : PyData := .str s
theorem keyS : KeyE encS := ⟨fun a b h => by simpa [encS, keyDa] using h, fun a => by simp [encS, keyDa, NestedKey.depth]⟩
def LsP (ps : List Plan) : HR := LsV (ps.map encPl)
instance {ps : List Plan} : Mono (LsP ps) := (inferInstance : Mono (LsV (ps.map encPl)))
def InnV (w : World) (cs : List Nat) (f : Nat → List Plan) : HR := fun H v => ∃ b, v = .ref b ∧ TAtR encN LsP w H b (cs.map fun c => (c, f c))
instance {w : World} {cs : List Nat} {f : Nat → List Plan} : Mono (InnV w cs f) := ⟨fun e ⟨b, h1, h2⟩ => ⟨b, h1, h2.ex (fun _ => inferInstance) e⟩⟩
def PlnV (w : World) (bk : Bk) (cs : List Nat) (PT : PTab) : HR := fun H v => ∃ a, v = .ref a ∧ TAtR encS (fun f => InnV w cs f) w H a (bk.trees.map fun p => (p.1, PT p.1))
instance {w : World} {bk : Bk} {cs : List Nat} {PT : PTab} : Mono (PlnV w bk cs PT) := ⟨fun e ⟨b, h1, h2⟩ => ⟨b, h1, h2.ex (fun _ => inferInstance) e⟩⟩
theorem getA_map {κ β γ : Type} [DecidableEq κ] {l : List (κ × β)} {f : κ → γ} {k : κ} (h : k ∈ l.map (·.1)) : getA (l.map fun p => (p.1, f p.1)) k = some (f k) := by
  induction l with
  | nil => cases h
  | cons p r ih =>
    rw [List.map_cons]
    by_cases e : p.1 = k
    · rw [getA_pos (p := (p.1, f p.1)) e, e]
    · rw [getA_neg (p := (p.1, f p.1)) e]
      rw [List.map_cons] at h
      rcases List.mem_cons.mp h with h | h
      · exact absurd h.symm e
      · exact ih h
theorem getA_cs {cs : List Nat} {f : Nat → List Plan} {c : Nat} : getA (cs.map fun c => (c, f c)) c = if c ∈ cs then some (f c) else none := by
  induction cs with
  | nil => simp [getA]
  | cons d r ih =>
    rw [List.map_cons]
    by_cases e : d = c
    · rw [getA_pos (p := (d, f d)) e, e]; simp
    · rw [getA_neg (p := (d, f d)) e, ih]
      have : c ≠ d := fun z => e z.symm
      simp [this]
/-- plans[key].get(count, []) -/
theorem gv_plan {w : World} {σ : L2.St} {H : Hp} {ta tb tc : TE} {bk : Bk} {cs : List Nat} {PT : PTab} {k : Str} {c : Nat} {v : V} (hp : PlnV w bk cs PT H v) (hk : k ∈ bk.trees.map (·.1)) (hn : c ∉ cs → PT k c = []) (ha : Gv ta σ H (EqV v)) (hb : Gv tb σ H (IsV (encS k))) (hc : Gv tc σ H (IsV (encN c))) :
    Gv (tDGetOr w (tOp (rIxD w) ta tb) tc (tLst tNil)) σ H (LsP (PT k c)) := by
  obtain ⟨a, rfl, h⟩ := hp
  obtain ⟨vl, u, d, hv, ⟨b, rfl, hb'⟩⟩ := h.get (k := k) (b := PT k) (getA_map hk)
  have h1 := gv_ixD keyS ha hb d hv
  by_cases hcs : c ∈ cs
  · obtain ⟨vl2, u2, d2, hv2, r2⟩ := hb'.get (k := c) (b := PT k c) (by rw [getA_cs, if_pos hcs])
    exact gv_val (gv_get keyN h1 hc (gv_lst gi_nil) d2 hv2) r2
  · rw [hn hcs]
    obtain ⟨vl2, d2, p2⟩ := hb'
    refine gv_getN keyN h1 hc (gv_lst gi_nil) d2 ?_
    rcases paired_get (fun _ _ q => q.1) c p2 with ⟨h3, h4⟩ | ⟨u, v, h3, h4, _, _⟩
    · exact h3
    · rw [getA_cs, if_neg hcs] at h4; cases h4
end K31

namespace K31
open PySem PySem.Spec PyProof.Rows L2 NK Evl
theorem cut_tail (x : PyData) (l : List PyData) : cutD (x :: l) (some 1) none = l := by
  unfold cutD
  have e1 : HT.sIx (x :: l).length 0 (some 1) = 1 := by
    have := HT.sIx_nat (x :: l).length 0 1
    simpa using this
  have e2 : HT.sIx (x :: l).length (x :: l).length none = (x :: l).length := rfl
  rw [e1, e2]
  simp
theorem eqv_nil (l : List PyData) : PyData.eqv (.list l) (.list []) = decide (l = []) := by
  cases l <;> simp [PyData.eqv, PyData.eqvAll]
mutual
theorem plainPl : ∀ p : Plan, (encPl p).plain = true
  | .mk k f => by rw [encPl]; simp only [PyData.plain, PyData.plainAll, plainFl f]; rfl
theorem plainFl : ∀ f : Fill, PyData.plainAll (encFl f) = true
  | .nil => by rw [encFl]; rfl
  | .cons pl p r => by
    have h := plainP pl
    rw [encFl]
    simp only [PyData.plain, PyData.plainAll, plainPl p, plainFl r, h]
    rfl
end
theorem plainAll_map {α : Type} {f : α → PyData} (h : ∀ x, (f x).plain = true) : ∀ l : List α, PyData.plainAll (l.map f) = true
  | [] => rfl
  | x :: l => by rw [List.map_cons, PyData.plainAll, h x, plainAll_map h l]; rfl
theorem depthAll_map {α : Type} {f : α → PyData} {n : Nat} {l : List α} (h : ∀ x ∈ l, (f x).depth ≤ n) : PyData.depthAll (l.map f) ≤ n := by
  induction l with
  | nil => simp [PyData.depthAll]
  | cons x l ih =>
    have h1 := h x List.mem_cons_self
    have h2 := ih fun y hy => h y (List.mem_cons_of_mem _ hy)
    simp only [List.map_cons, PyData.depthAll]
    omega
theorem fl_len {bk : Bk} {PT : PTab} : ∀ (ss : List Site) (left : Nat), ∀ f ∈ fillL bk PT ss left, (encFl f).length ≤ ss.length
  | [], left, f, h => by
    rw [fillL] at h
    split at h
    · rw [List.mem_singleton.mp h, encFl]; simp
    · cases h
  | s :: ss, left, f, h => by
    rw [fillL] at h
    rcases List.mem_append.mp h with h | h
    · split at h
      · cases h
      · have := fl_len ss left f h
        rw [List.length_cons]
        omega
    · obtain ⟨i, _, h⟩ := List.mem_flatMap.mp h
      obtain ⟨r, hr, h⟩ := List.mem_flatMap.mp h
      obtain ⟨p, _, rfl⟩ := List.mem_map.mp h
      have := fl_len ss _ r hr
      rw [encFl, List.length_cons, List.length_cons]
      omega
section
variable {P : Program} {w : World} {K : PySem.W.Frag} {mg : Str → Option Value} {base : Heap} {CG CC : Addr}
structure FillOk (bk : Bk) (cs : List Nat) (PT : PTab) : Prop where
  ok : BkOk bk
  hn : ∀ k c, c ∉ cs → PT k c = []
  hb : ∀ s c, (someL bk PT s c).length ≤ bnd c
  hd : ∀ k c, ∀ p ∈ PT k c, (encPl p).depth ≤ 30
def spFillL (w : World) (n : Nat) : List V → Hp → HR → Prop := fun vs H R => ∃ vb vs' vp bk ss left cs PT, vs = [vb, vs', nI left, vp] ∧ Is H (encB bk) vb ∧ LsV (ss.map encSite) H vs' ∧ PlnV w bk cs PT H vp ∧ ss.length < n ∧ ss.length ≤ 50 ∧ left ≤ 3 ∧ FillOk bk cs PT ∧ R = LsV ((fillL bk PT ss left).map encFill)
theorem calledL_mem {bk : Bk} {gr : Bool} {nm k : Str} (h : k ∈ calledL bk gr nm) : k ∈ bk.trees.map (·.1) := by
  obtain ⟨p, hp, rfl⟩ := List.mem_map.mp h
  exact List.mem_map_of_mem (List.mem_filter.mp hp).1
theorem range_flat_le {α : Type} (f : Nat → List α) {i n : Nat} (h : i ≤ n) : ((List.range i).flatMap f).length ≤ ((List.range n).flatMap f).length := by
  induction n with
  | zero => rw [show i = 0 by omega]; exact Nat.le_refl _
  | succ n ih =>
    by_cases e : i = n + 1
    · rw [e]; exact Nat.le_refl _
    · have := ih (by omega)
      rw [List.range_succ, List.flatMap_append, List.length_append]
      omega
theorem fillL_cons (bk : Bk) (PT : PTab) (s : Site) (ss : List Site) (left : Nat) : fillL bk PT (s :: ss) left = (if s.must then [] else fillL bk PT ss left) ++ (List.range left).flatMap (fillPart bk PT s ss left) := by rw [fillL]; rfl
theorem w_fill_step (T : Txt K mg CG CC) (n : Nat) (c__law_fill : Cal P w K mg base (n + 11) "_law_fill" (SpR (spFillL w n))) : Cal P w K mg base (n + 12) "_law_fill" (SpR (spFillL w (n + 1))) := by
  refine cal_of T.d_law_fill sc__law_fill b__law_fill (fun vs H Q E ⟨R, ⟨_, _, _, _, _, _, _, _, e, _⟩, _⟩ => by rw [e]; rfl) fun f cdv A outer s H vs Q E hr hq => ?_
  have c__law_called := w_called (P := P) (w := w) (base := base) T
  refine ⟨_, (pss_cons (ps_if (pt_cmpR (op_eqP hr.units) (pv 1) (pe_lst pa_nil) (nomark _))
      (pss_one (ps_ret (pe_ifExp (pt_cmpR op_eq (pv 2) pe_int (nomark _)) (pe_lst (pa_cons (pe_tupP pa_nil) pa_nil)) (pe_lst pa_nil))))
      pss_nil)
    (pss_cons (ps_asg (pe_ix ix_list (pv 1) pe_int (fun _ _ => rfl)) (pg_tup rfl (pgs_cons (pg_name (i := 4) sc__law_fill.nd rfl (Or.inr rfl)) (pgs_cons (pg_name (i := 5) sc__law_fill.nd rfl (Or.inl rfl)) (pgs_cons (pg_name (i := 6) sc__law_fill.nd rfl (Or.inl rfl)) (pgs_cons (pg_name (i := 7) sc__law_fill.nd rfl (Or.inl rfl)) pgs_nil))))))
    (pss_cons (ps_set (i := 8) sc__law_fill.nd rfl (Or.inl rfl) (pe_lst pa_nil))
    (pss_cons (ps_if (pt_not (pt_val (pv 7)))
      (pss_one (ps_set (i := 8) sc__law_fill.nd rfl (Or.inl rfl) (pe_c c__law_fill hr (by omega) rfl (pa_cons (pv 0) (pa_cons (pe_slice sl_list (pv 1) (po_some pe_int) po_none) (pa_cons (pv 2) (pa_cons (pv 3) pa_nil)))))))
      pss_nil)
    (pss_cons (ps_for PassesOwn.never rfl (pi_range2 (by rfl) (T.fr "range" (by decide)) (pa_cons pe_int (pa_cons (pe_op op_add (pv 2) pe_int) pa_nil))) (pg_name (i := 9) sc__law_fill.nd rfl (Or.inl rfl))
      (pss_cons (ps_set (i := 10) sc__law_fill.nd rfl (Or.inl rfl) (pe_lst pa_nil))
      (pss_cons (ps_for PassesOwn.never rfl (pi_list (pe_c c__law_called hr (by omega) rfl (pa_cons (pv 0) (pa_cons (pv 5) (pa_cons (pv 6) pa_nil))))) (pg_name (i := 11) sc__law_fill.nd rfl (Or.inl rfl))
        (pss_one (ps_set (i := 10) sc__law_fill.nd rfl (Or.inl rfl) (pe_op op_cat (pv 10) (pe_dgetOr hr.units (pe_ix (ix_nd hr.units) (pv 3) (pv 11) (fun _ _ => rfl)) (pv 9) (pe_lst pa_nil) (by constructor <;> rfl))))))
      (pss_one (ps_if (pt_cmpR (op_neP hr.units) (pv 10) (pe_lst pa_nil) (nomark _))
        (pss_one (ps_for PassesOwn.never rfl (pi_list (pe_c c__law_fill hr (by omega) rfl (pa_cons (pv 0) (pa_cons (pe_slice sl_list (pv 1) (po_some pe_int) po_none) (pa_cons (pe_op op_sub (pv 2) (pv 9)) (pa_cons (pv 3) pa_nil)))))) (pg_name (i := 12) sc__law_fill.nd rfl (Or.inr rfl))
          (pss_one (ps_set (i := 8) sc__law_fill.nd rfl (Or.inl rfl) (pe_op op_cat (pv 8) (pe_lc rfl sc__law_fill.nd (pi_list (pv 10)) (blkOk_by (own := [("plan", 13)]) (N := N__law_fill) (sc := defScope s__law_fill) (by decide +kernel)) (fun _ _ _ _ _ => (pg_name (i := 13) sc__law_fill.nd rfl (Or.inl rfl))) (fun _ _ _ _ _ => pts_nil) (fun _ _ _ _ _ => (pe_op (show OpR _ _ (rCatP K) from op_catP) (pe_tupP (pa_cons (pe_tupP (pa_cons (pv 4) (pa_cons (pv 13) pa_nil))) pa_nil)) (pv 12)))))))))
        pss_nil)))))
    (pss_one (ps_ret (pv 8)))))))), ?_⟩
  obtain ⟨R, ⟨vb, vs', vp, bk, ss, left, cs, PT, rfl, hb, hs, hp, hn, hn50, hl3, ok, rfl⟩, hQ⟩ := hq
  have plS : ∀ s : Site, (encSite s).plain = true := fun s => by
    have h := plainP s.pl
    simp only [encSite, PyData.plain, PyData.plainAll, h]
    rfl
  have dpS : ∀ s : Site, (encSite s).depth ≤ 39 := fun s => by
    have h := depth_ints s.pl
    simp only [encSite, encP, PyData.depth, PyData.depthAll]
    omega
  refine sq (st_if (gt_test (gv_is (gv_eqP (K := K) (d := .list (ss.map encSite)) (e := .list []) (gv_var rfl hs) (gv_lst gi_nil) (fun _ _ r => r.dp) (fun _ _ r => r.dp) (by simp only [PyData.plain]; exact plainAll_map plS ss) rfl (by have := depthAll_map (l := ss) (f := encSite) (n := 39) fun x _ => dpS x; simp only [PyData.depth]; omega)) (by rw [eqv_nil]))) (fun h H1 e1 => ?_) fun h H1 e1 => ?_)
  · have hss : ss = [] := by have := of_decide_eq_true h; simpa using this
    subst hss
    refine st_ret (R := LsV ((fillL bk PT [] left).map encFill)) (gv_if (gt_test (gv_eqI (gv_var rfl (Is.int (Int.ofNat left))) gv_int)) (fun h => ?_) fun h => ?_) fun v H2 e2 r2 => hQ v H2 (e1.trans e2) r2
    · have h0 : left = 0 := by have := of_decide_eq_true h; simp at this; omega
      subst h0
      rw [fillL, if_pos rfl]
      exact gv_lst (ds := [encFill .nil]) (gi_cons (gv_tup (ds := []) gi_nil) gi_nil)
    · have h0 : left ≠ 0 := by have := of_decide_eq_false h; simp at this; omega
      rw [fillL, if_neg h0]
      exact gv_lst gi_nil
  · cases ss with
    | nil => exact absurd h (by simp)
    | cons st ss =>
      dsimp only [tNext]
      have hs1 := Mono.mo e1 hs
      have hlen : ss.length < n := by rw [List.length_cons] at hn; omega
      have hlen50 : ss.length ≤ 50 := by rw [List.length_cons] at hn50; omega
      have hfull := Nat.le_trans (fillL_len ok.hb (st :: ss) left hl3) (gBd_max _ hn50 left)
      rw [fillL_cons, List.length_append] at hfull
      have hsl : ∀ {H' : Hp} {σ' : L2.St}, σ'[1]? = some (some vs') → Ex H H' → Gv (tSl (rSlL K) (tVar 1) (tPart (tC (.int 1))) tNoPart) σ' H' (LsV (ss.map encSite)) := fun h e => by
        have := gv_slL (K := K) (lo := some 1) (hi := none) (gv_var (R := LsV ((st :: ss).map encSite)) h (Mono.mo e hs)) (go_some gv_int) go_none
        rw [List.map_cons, cut_tail] at this
        exact this
      -- the site
      refine sq ?_
      refine (gv_ixL (K := K) (ds := encSite st :: ss.map encSite) (i := 0) (gv_var (i := 1) rfl hs1) gv_int (atI_nat (j := 0) rfl) : Gv _ _ _ _) H1 (Ex.refl _) _ fun v4 H2 e2 r4 => ?_
      obtain ⟨a4, x4, rfl, p4, i4⟩ := Is.tup_inv (ds := [encP st.pl, .str (kindS st.gr), .str st.nm, .bool st.must]) r4
      obtain ⟨vpl, vk, vn, vm, rfl, ipl, ik, inm, im⟩ : ∃ a b c d, x4 = [a, b, c, d] ∧ Is H2 (encP st.pl) a ∧ Is H2 (.str (kindS st.gr)) b ∧ Is H2 (.str st.nm) c ∧ Is H2 (.bool st.must) d := by
        cases i4 with
        | cons h1 h2 =>
          obtain ⟨b, c, d, rfl, h3, h4, h5⟩ := three_inv h2
          exact ⟨_, b, c, d, rfl, h1, h3, h4, h5⟩
      refine gtup4 p4.sq ?_
      dsimp only
      refine sq (st_asg (R := LsV []) (gv_lst gi_nil) fun v8 H3 e3 r8 => ?_)
      have e03 := e1.trans (e2.trans e3)
      dsimp only
      -- the loops
      have main : ∀ (H4 : Hp) (y : V) (c9 c10 c11 c12 c13 : Option V), Ex H2 H4 → LsV ((if st.must then [] else fillL bk PT ss left).map encFill) H4 y → tSeq (tFor (iRng2 (tCons (tC (.int 1)) (tCons (tOp (rI0 fun i j => .int (i + j)) (tVar 2) (tC (.int 1))) tNil))) (gName 9)
          (tSeq (tAsg (tLst tNil) (gName 10))
            (tSeq (tFor (iList K (tCall (SpR spCalled) [] E0 (tCons (tVar 0) (tCons (tVar 5) (tCons (tVar 6) tNil))))) (gName 11) (tAsg (tOp rCat (tVar 10) (tDGetOr w (tOp (rIxD w) (tVar 3) (tVar 11)) (tVar 9) (tLst tNil))) (gName 10)))
              (tIfS (tTest (tOp (rNeP K) (tVar 10) (tLst tNil)))
                (tFor (iList K (tCall (SpR (spFillL w n)) [] E0 (tCons (tVar 0) (tCons (tSl (rSlL K) (tVar 1) (tPart (tC (.int 1))) tNoPart) (tCons (tOp (rI0 fun i j => .int (i - j)) (tVar 2) (tVar 9)) (tCons (tVar 3) tNil)))))) (gName 12)
                  (tAsg (tOp rCat (tVar 8) (tLc (iList K (tVar 10)) (gName 13) tYes (tOp (rCatP K) (tTupP (tCons (tTupP (tCons (tVar 4) (tCons (tVar 13) tNil))) tNil)) (tVar 12)) [13])) (gName 8)))
                tNext)))) (tRet (tVar 8)) { nx := fun _ H' => Q .non H', rt := Q } [some vb, some vs', some (nI left), some vp, some vpl, some vk, some vn, some vm, some y, c9, c10, c11, c12, c13] H4 := by
        intro H4 y c9 c10 c11 c12 c13 e24 hy
        have e04 := e1.trans (e2.trans e24)
        have ipl4 := Is.mono e24.tups _ _ ipl
        have ik4 := Is.mono e24.tups _ _ ik
        have inm4 := Is.mono e24.tups _ _ inm
        refine sq (st_forR2 (m := 1) (n := left + 1) (gv_is gv_int rfl) (gv_is (gv_add (gv_var rfl (Is.int (Int.ofNat left))) gv_int) rfl) (by decide) (by omega) fun H5 e5 => ?_)
        refine ⟨fun i σ' H' => (∃ z c9 c10 c11 c12 c13, σ' = [some vb, some vs', some (nI left), some vp, some vpl, some vk, some vn, some vm, some z, c9, c10, c11, c12, c13] ∧ LsV (((if st.must then [] else fillL bk PT ss left) ++ (List.range i).flatMap (fillPart bk PT st ss left)).map encFill) H' z) ∧ Ex H4 H', ⟨⟨_, _, _, _, _, _, rfl, by simpa using Mono.mo e5 hy⟩, e5⟩, ?_, ?_⟩
        · rintro i σ' H6 hi ⟨⟨z, c9, c10, c11, c12, c13, rfl, hz⟩, x6⟩
          have hil : i < left := by omega
          have e16 : (1 + i) = i + 1 := by omega
          rw [e16]
          have hpart := range_flat_le (fillPart bk PT st ss left) (show i + 1 ≤ left by omega)
          rw [List.range_succ, List.flatMap_append, List.length_append] at hpart
          simp only [List.flatMap_cons, List.flatMap_nil, List.append_nil] at hpart
          have hsm := ok.hb st (i + 1)
          have hsm2 : (someL bk PT st (i + 1)).length ≤ 150 := Nat.le_trans hsm (by unfold bnd; split <;> omega)
          refine sq (st_asg (R := LsP []) (gv_lst gi_nil) fun v10 H7 e7 r10 => ?_)
          have x7 := x6.trans e7
          dsimp only
          refine sq (st_forL (l := calledL bk st.gr st.nm) (f := PyData.str) (gv_call (gi_cons (gv_var rfl (Is.mono (e04.trans x7).tups _ _ hb)) (gi_cons (gv_var rfl (Is.mono x7.tups _ _ ik4)) (gi_cons (gv_var rfl (Is.mono x7.tups _ _ inm4)) gi_nil))) fun vs H1 _ ha => ⟨bk, st.gr, st.nm, ha, ok.ok, rfl⟩) fun p xs H8 e8 hxs => ?_)
          refine ⟨fun pre σ' H' => (∃ z10 c11 c12 c13, σ' = [some vb, some vs', some (nI left), some vp, some vpl, some vk, some vn, some vm, some z, some (nI (i + 1)), some z10, c11, c12, c13] ∧ LsP (pre.flatMap fun k => PT k (i + 1)) H' z10) ∧ Ex H8 H', ⟨⟨_, _, _, _, rfl, Mono.mo e8 r10⟩, Ex.refl _⟩, fun _ _ _ h => ⟨h.2.tups, h.2 _ _ hxs⟩, ?_, ?_⟩
          · rintro pre d post x σ' H9 el ⟨⟨z10, c11, c12, c13, rfl, hz10⟩, x9⟩ hx
            have hd : d ∈ calledL bk st.gr st.nm := by rw [el]; simp
            have hlen2 : (pre.flatMap fun k => PT k (i + 1)).length + (PT d (i + 1)).length ≤ 150 := by
              have : (someL bk PT st (i + 1)).length = (pre.flatMap fun k => PT k (i + 1)).length + ((PT d (i + 1)).length + (post.flatMap fun k => PT k (i + 1)).length) := by
                unfold someL
                rw [el, List.flatMap_append, List.flatMap_cons, List.length_append, List.length_append]
              omega
            have x79 := (x7.trans e8).trans x9
            refine st_asg (R := LsV ((pre.flatMap fun k => PT k (i + 1)).map encPl ++ (PT d (i + 1)).map encPl)) (gv_catL (gv_var (R := LsV ((pre.flatMap fun k => PT k (i + 1)).map encPl)) rfl hz10) (gv_plan (bk := bk) (cs := cs) (PT := PT) (k := d) (c := i + 1) (Mono.mo (e04.trans x79) hp) (calledL_mem hd) (fun h => ok.hn d (i + 1) h) (gv_ref rfl) (gv_var rfl hx) (gv_var rfl (Is.int _))) (by rw [List.length_map, List.length_map]; show _ ≤ 16777216; omega)) fun v11 H10 e10 r11 => ?_
            refine ⟨⟨_, _, _, _, rfl, ?_⟩, x9.trans e10⟩
            show LsV _ _ _
            rw [List.flatMap_append, List.map_append]
            simpa using r11
          · rintro σ' H9 ⟨⟨z10, c11, c12, c13, rfl, hz10⟩, x9⟩
            have x79 := (x7.trans e8).trans x9
            have hz10' : LsV ((someL bk PT st (i + 1)).map encPl) H9 z10 := hz10
            have e8' := e8
            have hz9 := Mono.mo ((e7.trans e8).trans x9) hz
            have next : (List.range (i + 1)).flatMap (fillPart bk PT st ss left) = (List.range i).flatMap (fillPart bk PT st ss left) ++ fillPart bk PT st ss left i := by rw [List.range_succ, List.flatMap_append]; simp
            dsimp only
            refine st_if (gt_test (gv_is (gv_neP (K := K) (d := .list ((someL bk PT st (i + 1)).map encPl)) (e := .list []) (gv_var (R := LsV ((someL bk PT st (i + 1)).map encPl)) rfl hz10') (gv_lst gi_nil) (fun _ _ r => r.dp) (fun _ _ r => r.dp) (by simp only [PyData.plain]; exact plainAll_map plainPl _) rfl (by
              have := depthAll_map (l := someL bk PT st (i + 1)) (f := encPl) (n := 30) fun x hx => by
                obtain ⟨k, _, hk⟩ := List.mem_flatMap.mp hx
                exact ok.hd k _ x hk
              simp only [PyData.depth]
              omega)) (by rw [eqv_nil]))) (fun h H10 e10 => ?_) fun h H10 e10 => ?_
            · have x10 := x79.trans e10
              refine st_forL (l := fillL bk PT ss (left - (i + 1))) (f := encFill) (gv_call (RA := ConsR (IsV (encB bk)) (ConsR (LsV (ss.map encSite)) (ConsR (EqV (nI (left - (i + 1)))) (ConsR (PlnV w bk cs PT) NilR)))) (ga_cons (gv_var rfl (Is.mono (e04.trans x10).tups _ _ hb)) (ga_cons (hsl rfl (e04.trans x10)) (ga_cons (gv_imp (gv_sub (gv_var rfl (Is.int (Int.ofNat left))) (gv_var rfl (Is.int (Int.ofNat (i + 1))))) fun H1 v _ r => by
                rw [r.int_inv]
                show V.int _ = V.int _
                congr 1
                simp
                omega) (ga_cons (gv_var rfl (Mono.mo (e04.trans x10) hp)) ga_nil)))) fun vs H1 _ ra => ?_) fun p2 xs2 H11 e11 hxs2 => ?_
              · obtain ⟨a1, _, rfl, i1, a2, _, rfl, i2, a3, _, rfl, rfl, a4, _, rfl, i4, rfl⟩ := ra
                exact ⟨a1, a2, a4, bk, ss, left - (i + 1), cs, PT, rfl, i1, i2, i4, hlen, hlen50, by omega, ok, rfl⟩
              · refine ⟨fun pre σ' H' => (∃ z8 c12 c13, σ' = [some vb, some vs', some (nI left), some vp, some vpl, some vk, some vn, some vm, some z8, some (nI (i + 1)), some z10, c11, c12, c13] ∧ LsV (((if st.must then [] else fillL bk PT ss left) ++ (List.range i).flatMap (fillPart bk PT st ss left) ++ pre.flatMap fun rest => (someL bk PT st (i + 1)).map fun p => Fill.cons st.pl p rest).map encFill) H' z8) ∧ Ex H11 H', ⟨⟨_, _, _, rfl, by simpa using Mono.mo (e10.trans e11) hz9⟩, Ex.refl _⟩, fun _ _ _ h => ⟨h.2.tups, h.2 _ _ hxs2⟩, ?_, ?_⟩
                · rintro pre d post x σ' H12 el ⟨⟨z8, c12, c13, rfl, hz8⟩, x12⟩ hx
                  have hd : d ∈ fillL bk PT ss (left - (i + 1)) := by rw [el]; simp
                  have hfl := fl_len _ _ d hd
                  have hpl : (pre.flatMap fun rest => (someL bk PT st (i + 1)).map fun p => Fill.cons st.pl p rest).length ≤ (fillPart bk PT st ss left i).length := by
                    unfold fillPart
                    rw [el, List.flatMap_append, List.length_append]
                    omega
                  have x11 := e11.trans x12
                  refine st_asg (R := LsV (((if st.must then [] else fillL bk PT ss left) ++ (List.range i).flatMap (fillPart bk PT st ss left) ++ pre.flatMap fun rest => (someL bk PT st (i + 1)).map fun p => Fill.cons st.pl p rest).map encFill ++ (someL bk PT st (i + 1)).map fun p => encFill (.cons st.pl p d))) (gv_catL (gv_var rfl hz8) (gv_imp (gv_lcL (l := someL bk PT st (i + 1)) (f := encPl) (fun p => encFill (.cons st.pl p d)) (fun _ => true) (gv_var rfl (Mono.mo (e10.trans x11) hz10')) (by show _ ≤ 16777216; omega) fun p y H13 hp13 e13 hy13 => ⟨ev_yes, fun _ => gv_is (gv_cat (gv_tup (ds := [.tuple [encP st.pl, encPl p]]) (gi_cons (gv_tup (gi_cons (gv_var rfl (Is.mono ((x10.trans x11).trans e13).tups _ _ ipl4)) (gi_cons (gv_var rfl hy13) gi_nil))) gi_nil)) (gv_var (R := IsV (.tuple (encFl d))) rfl (Is.mono e13.tups _ _ hx)) (by simp; show _ ≤ 16777216; omega)) (by rw [encFill, encFl]; rfl)⟩) fun H1 v _ r => by rw [List.filter_eq_self.mpr (by simp)] at r; exact r) (by
                    rw [List.length_map, List.length_map, List.length_append, List.length_append]
                    show _ ≤ 16777216
                    omega)) fun v13 H13 e13 r13 => ?_
                  refine ⟨⟨_, _, _, rfl, ?_⟩, x12.trans e13⟩
                  rw [List.flatMap_append]
                  simpa [List.map_append, List.append_assoc, Function.comp_def] using r13
                · rintro σ' H12 ⟨⟨z8, c12, c13, rfl, hz8⟩, x12⟩
                  refine ⟨⟨_, _, _, _, _, _, rfl, ?_⟩, (x6.trans e7).trans ((e8.trans x9).trans ((e10.trans e11).trans x12))⟩
                  rw [next, ← List.append_assoc]
                  exact hz8
            · have hnil : someL bk PT st (i + 1) = [] := by
                have h' : (!decide ((someL bk PT st (i + 1)).map encPl = [])) = false := h
                simpa using h'
              have hpn : fillPart bk PT st ss left i = [] := by unfold fillPart; rw [hnil]; simp
              refine ⟨⟨_, _, _, _, _, _, rfl, ?_⟩, (x6.trans e7).trans ((e8.trans x9).trans e10)⟩
              rw [next, hpn, List.append_nil]
              exact Mono.mo e10 hz9
        · rintro σ' H6 ⟨⟨z, c9, c10, c11, c12, c13, rfl, hz⟩, x6⟩
          rw [fillL_cons] at hQ
          exact st_ret (gv_var rfl hz) fun v14 H14 e14 r14 => hQ v14 H14 (e04.trans (x6.trans e14)) r14
      refine sq (st_if (et_not (gt_B (gv_var rfl (Is.mono e3.tups _ _ im)))) (fun h4 H4 e4 => ?_) fun h4 H4 e4 => ?_)
      · have hm : st.must = false := by simpa using h4
        have e04 := e03.trans e4
        refine st_asg (R := LsV ((fillL bk PT ss left).map encFill)) (gv_call (RA := ConsR (IsV (encB bk)) (ConsR (LsV (ss.map encSite)) (ConsR (EqV (nI left)) (ConsR (PlnV w bk cs PT) NilR)))) (ga_cons (gv_var rfl (Is.mono e04.tups _ _ hb)) (ga_cons (hsl rfl e04) (ga_cons (gv_ref rfl) (ga_cons (gv_var rfl (Mono.mo e04 hp)) ga_nil)))) fun vs H1 _ ra => ?_) fun v9 H5 e5 r9 => ?_
        · obtain ⟨a1, _, rfl, i1, a2, _, rfl, i2, a3, _, rfl, rfl, a4, _, rfl, i4, rfl⟩ := ra
          exact ⟨a1, a2, a4, bk, ss, left, cs, PT, rfl, i1, i2, i4, hlen, hlen50, hl3, ok, rfl⟩
        · exact main H5 v9 _ _ _ _ _ (e3.trans (e4.trans e5)) (by rw [hm]; exact r9)
      · have hm : st.must = true := by simpa using h4
        exact main H4 v8 _ _ _ _ _ (e3.trans e4) (by rw [hm]; exact Mono.mo e4 r8)
end
end K31

/-! the table of plans, count by count -/
namespace K31
open PySem PySem.Spec PyProof.Rows L2 NK Evl
def ownT (t : Tr) : Nat := (signsT t).length
def freshT (bk : Bk) (PT : PTab) (k : Str) (t : Tr) (c : Nat) : List Plan := if ownT t ≤ c then (fillL bk PT (sitesT t []) (c - ownT t)).map (Plan.mk k) else []
def freshL (bk : Bk) (PT : PTab) (k : Str) (c : Nat) : List Plan := match getA bk.trees k with
  | none => []
  | some t => freshT bk PT k t c
def PTn (bk : Bk) : Nat → PTab
  | 0 => fun _ _ => []
  | n + 1 => fun k c => if c = n + 1 then freshL bk (PTn bk n) k (n + 1) else PTn bk n k c
theorem PTn_succ (bk : Bk) (n : Nat) (k : Str) (c : Nat) : PTn bk (n + 1) k c = if c = n + 1 then freshL bk (PTn bk n) k (n + 1) else PTn bk n k c := rfl
def cnts (n : Nat) : List Nat := (List.range n).map (· + 1)
theorem cnts_succ (n : Nat) : cnts (n + 1) = cnts n ++ [n + 1] := by unfold cnts; rw [List.range_succ, List.map_append]; rfl
theorem mem_cnts {n c : Nat} : c ∈ cnts n ↔ 1 ≤ c ∧ c ≤ n := by
  unfold cnts
  constructor
  · intro h
    obtain ⟨i, hi, rfl⟩ := List.mem_map.mp h
    have := List.mem_range.mp hi
    omega
  · rintro ⟨h1, h2⟩
    exact List.mem_map.mpr ⟨c - 1, List.mem_range.mpr (by omega), by omega⟩
theorem PTn_out (bk : Bk) : ∀ n k c, c ∉ cnts n → PTn bk n k c = []
  | 0, _, _, _ => rfl
  | n + 1, k, c, h => by
    rw [PTn_succ, if_neg (fun e => h (by rw [e]; exact mem_cnts.mpr ⟨by omega, by omega⟩))]
    exact PTn_out bk n k c fun z => h (by rw [cnts_succ]; exact List.mem_append_left _ z)
theorem PTn_le (bk : Bk) {n k c} (h : c ≤ n) : PTn bk (n + 1) k c = PTn bk n k c := by
  rw [PTn_succ, if_neg (by omega)]
/-- all that is made by count n -/
def sumN (l : List Nat) : Nat := l.foldr (· + ·) 0
theorem sumN_app : ∀ l m : List Nat, sumN (l ++ m) = sumN l + sumN m
  | [], m => by simp [sumN]
  | a :: l, m => by have := sumN_app l m; simp only [sumN, List.cons_append, List.foldr_cons] at this ⊢; omega
theorem sumN_le {l : List Nat} {x : Nat} (h : x ∈ l) : x ≤ sumN l := by
  induction l with
  | nil => cases h
  | cons a l ih =>
    rcases List.mem_cons.mp h with rfl | h
    · simp [sumN]
    · have := ih h
      simp only [sumN, List.foldr_cons] at this ⊢
      omega
def rowSum (bk : Bk) (PT : PTab) (c : Nat) : Nat := sumN (bk.trees.map fun p => (freshT bk PT p.1 p.2 c).length)
def total (bk : Bk) : Nat → Nat
  | 0 => 0
  | n + 1 => total bk n + rowSum bk (PTn bk n) (n + 1)
theorem freshL_at {bk : Bk} (nd : (bk.trees.map (·.1)).Nodup) {PT : PTab} {k : Str} {t : Tr} {c : Nat} (h : (k, t) ∈ bk.trees) : freshL bk PT k c = freshT bk PT k t c := by
  unfold freshL
  rw [getA_of_mem nd h]
theorem flat_sum {α β : Type} (f : α → List β) : ∀ l : List α, (l.flatMap f).length = sumN (l.map fun x => (f x).length)
  | [] => rfl
  | a :: l => by have := flat_sum f l; rw [List.flatMap_cons, List.length_append, this]; rfl
theorem sum_filter {α : Type} (f : α → Nat) (p : α → Bool) : ∀ l : List α, sumN ((l.filter p).map f) ≤ sumN (l.map f)
  | [] => Nat.le_refl _
  | a :: l => by
    have := sum_filter f p l
    rw [List.filter_cons]
    split
    · simp only [List.map_cons, sumN, List.foldr_cons] at this ⊢; omega
    · simp only [List.map_cons, sumN, List.foldr_cons] at this ⊢; omega
theorem total_ge (bk : Bk) (nd : (bk.trees.map (·.1)).Nodup) : ∀ n c, sumN (bk.trees.map fun p => (PTn bk n p.1 c).length) ≤ total bk n
  | 0, c => by
    have : ∀ l : List (Str × Tr), sumN (l.map fun p => (PTn bk 0 p.1 c).length) = 0 := by
      intro l
      induction l with
      | nil => rfl
      | cons a l ih => simp only [List.map_cons, sumN, List.foldr_cons, PTn, List.length_nil] at ih ⊢; omega
    rw [this]; exact Nat.zero_le _
  | n + 1, c => by
    rw [total]
    by_cases h : c = n + 1
    · subst h
      have : (bk.trees.map fun p => (PTn bk (n + 1) p.1 (n + 1)).length) = bk.trees.map fun p => (freshT bk (PTn bk n) p.1 p.2 (n + 1)).length := by
        apply List.map_congr_left
        intro p hp
        rw [PTn_succ, if_pos rfl, freshL_at nd hp]
      rw [this]
      unfold rowSum
      omega
    · have : (bk.trees.map fun p => (PTn bk (n + 1) p.1 c).length) = bk.trees.map fun p => (PTn bk n p.1 c).length := by
        apply List.map_congr_left
        intro p hp
        rw [PTn_succ, if_neg h]
      rw [this]
      have := total_ge bk nd n c
      omega
theorem someL_total {bk : Bk} (nd : (bk.trees.map (·.1)).Nodup) (n : Nat) (s : Site) (c : Nat) : (someL bk (PTn bk n) s c).length ≤ total bk n := by
  unfold someL calledL
  rw [flat_sum, List.map_map]
  exact Nat.le_trans (sum_filter (fun p : Str × Tr => (PTn bk n p.1 c).length) _ bk.trees) (total_ge bk nd n c)
theorem PTn_one {bk : Bk} (G : BkG bk) : ∀ n k, (PTn bk n k 1).length ≤ 1
  | 0, k => by simp [PTn]
  | n + 1, k => by
    by_cases h : 1 = n + 1
    · have : n = 0 := by omega
      subst this
      rw [PTn_succ, if_pos rfl]
      unfold freshL
      cases ht : getA bk.trees k with
      | none => simp
      | some t =>
        have hm := getA_mem ht
        have ho : 0 < ownT t := by
          have := G.ne _ hm
          unfold ownT
          cases h : signsT t with
          | nil => exact absurd h this
          | cons a b => simp
        show (freshT bk (PTn bk 0) k t 1).length ≤ 1
        unfold freshT
        split
        · rw [List.length_map, show 1 - ownT t = 0 by omega]
          have := fillL_len (bk := bk) (PT := PTn bk 0) (fun s c => by
            have h0 : (someL bk (PTn bk 0) s c).length ≤ (calledL bk s.gr s.nm).length * 0 := flat_len (l := calledL bk s.gr s.nm) fun _ _ => by simp [PTn]
            omega) (sitesT t []) 0 (by omega)
          have g0 : ∀ m, gBd m 0 = 1 := by
            intro m
            induction m with
            | zero => rfl
            | succ m ih => rw [gBd_succ0]; exact ih
          rw [g0] at this
          exact this
        · simp
    · rw [PTn_succ, if_neg h]
      exact PTn_one G n k
theorem encPl_depth : ∀ (k : Str) (f : Fill), (encPl (.mk k f)).depth ≤ 2 + PyData.depthAll (encFl f) := fun k f => by
  rw [encPl]
  simp only [PyData.depth, PyData.depthAll]
  omega
theorem fl_depth {bk : Bk} {PT : PTab} {d : Nat} (hd : ∀ k c, ∀ p ∈ PT k c, (encPl p).depth ≤ d) (h2 : 2 ≤ d) : ∀ (ss : List Site) (left : Nat), ∀ f ∈ fillL bk PT ss left, PyData.depthAll (encFl f) ≤ d + 1 ∧ (left = 0 → encFl f = [])
  | [], left, f, h => by
    rw [fillL] at h
    split at h
    · rw [List.mem_singleton.mp h, encFl]; simp [PyData.depthAll]
    · cases h
  | s :: ss, left, f, h => by
    rw [fillL] at h
    rcases List.mem_append.mp h with h | h
    · split at h
      · cases h
      · exact fl_depth hd h2 ss left f h
    · obtain ⟨i, hi, h⟩ := List.mem_flatMap.mp h
      obtain ⟨r, hr, h⟩ := List.mem_flatMap.mp h
      obtain ⟨p, hp, rfl⟩ := List.mem_map.mp h
      obtain ⟨h3, _⟩ := fl_depth hd h2 ss _ r hr
      obtain ⟨k, _, hk⟩ := List.mem_flatMap.mp hp
      have h4 := hd k _ p hk
      have h5 := depth_ints s.pl
      have := List.mem_range.mp hi
      refine ⟨?_, fun e => by omega⟩
      rw [encFl]
      simp only [encP, PyData.depth, PyData.depthAll]
      omega
theorem PTn_depth {bk : Bk} (n : Nat) : ∀ k c, ∀ p ∈ PTn bk n k c, (encPl p).depth ≤ 3 * n + 2 := by
  induction n with
  | zero => intro k c p hp; cases hp
  | succ n ih =>
    intro k c p hp
    rw [PTn_succ] at hp
    split at hp
    · unfold freshL at hp
      cases ht : getA bk.trees k with
      | none => rw [ht] at hp; cases hp
      | some t =>
        rw [ht] at hp
        have hp : p ∈ freshT bk (PTn bk n) k t (n + 1) := hp
        unfold freshT at hp
        split at hp
        · obtain ⟨f, hf, rfl⟩ := List.mem_map.mp hp
          have h1 := encPl_depth k f
          obtain ⟨h2, h3⟩ := fl_depth (d := 3 * n + 2) ih (by omega) _ _ f hf
          omega
        · cases hp
    · have := ih k c p hp
      omega
theorem fillOk_n {bk : Bk} (G : BkG bk) {n : Nat} (hn : n ≤ 4) (ht : total bk n ≤ 150) : FillOk bk (cnts n) (PTn bk n) where
  ok := G.ok
  hn := PTn_out bk n
  hb := fun s c => by
    by_cases h : c = 1
    · subst h
      unfold bnd someL
      have h1 : ((calledL bk s.gr s.nm).flatMap fun k => PTn bk n k 1).length ≤ (calledL bk s.gr s.nm).length * 1 := flat_len (l := calledL bk s.gr s.nm) fun k _ => PTn_one G n k
      have h2 : (calledL bk s.gr s.nm).length ≤ 5 := by
        unfold calledL
        rw [List.length_map]
        exact Nat.le_trans (List.length_filter_le _ _) G.n
      show _ ≤ 5
      omega
    · have h1 := someL_total G.ok.nd n s c
      have h2 : bnd c = 150 := by unfold bnd; split <;> simp_all
      omega
  hd := fun k c p hp => by have := PTn_depth n k c p hp; omega
end K31

namespace K31
open PySem PySem.Spec PyProof.Rows L2 NK Evl
theorem putA_new {κ β : Type} [DecidableEq κ] {l : List (κ × β)} {k : κ} {v : β} (h : k ∉ l.map (·.1)) : putA l k v = l ++ [(k, v)] := by
  unfold putA
  rw [if_neg]
  intro z
  obtain ⟨p, hp, e⟩ := List.any_eq_true.mp z
  exact h (List.mem_map.mpr ⟨p, hp, of_decide_eq_true e⟩)
theorem putA_last {κ β : Type} [DecidableEq κ] {l : List (κ × β)} {k : κ} {u v : β} (h : k ∉ l.map (·.1)) : putA (l ++ [(k, u)]) k v = l ++ [(k, v)] := by
  unfold putA
  rw [if_pos (by simp), List.map_append]
  have : (l.map fun p : κ × β => if p.1 = k then (p.1, v) else p) = l := by
    conv => rhs; rw [← List.map_id l]
    apply List.map_congr_left
    intro p hp
    have : ¬ p.1 = k := fun e => h (List.mem_map.mpr ⟨p, hp, e⟩)
    simp [this]
  rw [this]
  simp
section
variable {P : Program} {w : World} {K : PySem.W.Frag} {mg : Str → Option Value} {base : Heap} {CG CC : Addr}
theorem trd_ls {β : Type} {f : β → List PyData} : Trd (fun b : β => LsV (f b)) := fun b v H a ob r ex t => by
  obtain ⟨p, xs, rfl, h1, h2⟩ := r
  obtain ⟨x, hx⟩ := ex
  have : p ≠ a := fun z => by rw [z, hx] at h1; cases h1
  exact ⟨p, xs, rfl, by rw [upd_ne this]; exact h1, IsAll.mono t _ _ h2⟩
structure PlnW (w : World) (H0 H : Hp) (bk : Bk) (pa : Addr) (bs : List (Str × Addr)) (f : Str → List (Nat × List Plan)) : Prop where
  at_ : TAt encS w H pa (bs.map fun p => (p.1, V.ref p.2))
  ks : bs.map (·.1) = bk.trees.map (·.1)
  nd : (bs.map (·.2)).Nodup
  ne : ∀ p ∈ bs, p.2 ≠ pa ∧ H0 p.2 = none
  inn : ∀ p ∈ bs, TAtR encN LsP w H p.2 (f p.1)
  nw : H0 pa = none
theorem PlnW.ex {H0 H H' : Hp} {bk : Bk} {pa : Addr} {bs : List (Str × Addr)} {f : Str → List (Nat × List Plan)} (h : PlnW w H0 H bk pa bs f) (e : Ex H H') : PlnW w H0 H' bk pa bs f :=
  ⟨h.at_.ex e, h.ks, h.nd, h.ne, fun p hp => (h.inn p hp).ex (fun _ => inferInstance) e, h.nw⟩
theorem PlnW.v {H0 H : Hp} {bk : Bk} {pa : Addr} {bs : List (Str × Addr)} {cs : List Nat} {PT : PTab} (h : PlnW w H0 H bk pa bs (fun k => cs.map fun c => (c, PT k c))) : PlnV w bk cs PT H (.ref pa) := by
  refine ⟨pa, rfl, _, h.at_, ?_⟩
  have key : ∀ {bs : List (Str × Addr)} {ts : List (Str × Tr)}, bs.map (·.1) = ts.map (·.1) → (∀ p ∈ bs, TAtR encN LsP w H p.2 (cs.map fun c => (c, PT p.1 c))) → Paired (fun (x : Str × V) (p : Str × (Nat → List Plan)) => x.1 = p.1 ∧ InnV w cs p.2 H x.2) (bs.map fun p => (p.1, V.ref p.2)) (ts.map fun p => (p.1, PT p.1)) := by
    intro bs
    induction bs with
    | nil => intro ts e _; cases ts with | nil => exact .nil | cons _ _ => cases e
    | cons b bs ih =>
      intro ts e hi
      cases ts with
      | nil => cases e
      | cons t ts =>
        rw [List.map_cons, List.map_cons, List.cons.injEq] at e
        refine .cons ⟨e.1, b.2, rfl, ?_⟩ (ih e.2 fun p hp => hi p (List.mem_cons_of_mem _ hp))
        have := hi b List.mem_cons_self
        rw [e.1] at this
        exact this
  exact key h.ks h.inn
def AllV (w : World) (bk : Bk) : HR := fun H v => ∃ n p vp, n ≤ 4 ∧ total bk n ≤ 150 ∧ v = .ref p ∧ H p = some (.lst [vp, nI n]) ∧ PlnV w bk (cnts n) (PTn bk n) H vp
def spAll (w : World) : List V → Hp → HR → Prop := fun vs H R => ∃ vb bk, vs = [vb, nI 4, nI 150] ∧ Is H (encB bk) vb ∧ BkG bk ∧ R = AllV w bk
theorem w_fillAll (T : Txt K mg CG CC) : ∀ n, Cal P w K mg base (n + 11) "_law_fill" (SpR (spFillL w n))
  | 0 => cal_none 11 (fun vs H Q E ⟨R, ⟨_, _, _, _, _, _, _, _, _, _, _, _, h, _⟩, _⟩ => by omega) T.d_law_fill b__law_fill
  | n + 1 => w_fill_step T n (w_fillAll T n)
theorem w_all (T : Txt K mg CG CC) : Cal P w K mg base 63 "_law_all" (SpR (spAll w)) := by
  refine cal_of T.d_law_all sc__law_all b__law_all (fun vs H Q E ⟨R, ⟨_, _, e, _⟩, _⟩ => by rw [e]; rfl) fun f cdv A outer s H vs Q E hr hq => ?_
  have c__law_signs := w_signs (P := P) (w := w) (base := base) T 8
  have c__law_sites := w_sites (P := P) (w := w) (base := base) T 8
  have c__law_fill := w_fillAll (P := P) (w := w) (base := base) T 51
  refine ⟨_, (pss_cons (ps_set (i := 3) sc__law_all.nd rfl (Or.inl rfl) pe_dnew)
    (pss_cons (ps_for PassesOwn.never rfl (pi_tup (pe_ix ix_tup (pv 0) pe_int (fun _ _ => rfl))) (pg_tup rfl (pgs_cons (pg_name (i := 4) sc__law_all.nd rfl (Or.inr rfl)) (pgs_cons (pg_name (i := 5) sc__law_all.nd rfl (Or.inl rfl)) pgs_nil)))
      (pss_one (ps_asg pe_dnew (pg_sub (pv 3) (pv 4) (set_ndR hr.units)))))
    (pss_cons (ps_set (i := 6) sc__law_all.nd rfl (Or.inl rfl) pe_int)
    (pss_cons (ps_for PassesOwn.never rfl (pi_range2 (by rfl) (T.fr "range" (by decide)) (pa_cons pe_int (pa_cons (pe_op op_add (pv 1) pe_int) pa_nil))) (pg_name (i := 7) sc__law_all.nd rfl (Or.inl rfl))
      (pss_cons (ps_set (i := 8) sc__law_all.nd rfl (Or.inl rfl) pe_dnew)
      (pss_cons (ps_for PassesOwn.never rfl (pi_tup (pe_ix ix_tup (pv 0) pe_int (fun _ _ => rfl))) (pg_tup rfl (pgs_cons (pg_name (i := 4) sc__law_all.nd rfl (Or.inr rfl)) (pgs_cons (pg_name (i := 5) sc__law_all.nd rfl (Or.inl rfl)) pgs_nil)))
        (pss_cons (ps_set (i := 9) sc__law_all.nd rfl (Or.inl rfl) (pe_callB cr_len rfl (T.fr "len" (by decide)) (by decide +kernel) (pa_cons (pe_c c__law_signs hr (by omega) rfl (pa_cons (pv 5) pa_nil)) pa_nil)))
        (pss_cons (ps_asg (pe_lst pa_nil) (pg_sub (pv 8) (pv 4) (set_ndR hr.units)))
        (pss_cons (ps_if (pt_cmpR op_le (pv 9) (pv 7) (nomark _))
          (pss_cons (ps_set (i := 10) sc__law_all.nd rfl (Or.inl rfl) (pe_c c__law_fill hr (by omega) rfl (pa_cons (pv 0) (pa_cons (pe_c c__law_sites hr (by omega) rfl (pa_cons (pv 5) (pa_cons (pe_tupP pa_nil) pa_nil))) (pa_cons (pe_op op_sub (pv 7) (pv 9)) (pa_cons (pv 3) pa_nil))))))
          (pss_one (ps_asg (pe_lc rfl sc__law_all.nd (pi_list (pv 10)) (blkOk_by (own := [("one", 11)]) (N := N__law_all) (sc := defScope s__law_all) (by decide +kernel)) (fun _ _ _ _ _ => (pg_name (i := 11) sc__law_all.nd rfl (Or.inl rfl))) (fun _ _ _ _ _ => pts_nil) (fun _ _ _ _ _ => (pe_tupP (pa_cons (pv 4) (pa_cons (pv 11) pa_nil))))) (pg_sub (pv 8) (pv 4) (set_ndR hr.units)))))
          pss_nil)
        (pss_one (ps_set (i := 6) sc__law_all.nd rfl (Or.inl rfl) (pe_op op_add (pv 6) (pe_callB cr_len rfl (T.fr "len" (by decide)) (by decide +kernel) (pa_cons (pe_ix (ix_nd hr.units) (pv 8) (pv 4) (fun _ _ => rfl)) pa_nil)))))))))
      (pss_cons (ps_if (pt_cmpR op_gt (pv 6) (pv 2) (nomark _))
        (pss_one (ps_ret (pe_lst (pa_cons (pv 3) (pa_cons (pe_op op_sub (pv 7) pe_int) pa_nil)))))
        pss_nil)
      (pss_one (ps_for PassesOwn.never rfl (pi_dict (pv 8)) (pg_name (i := 4) sc__law_all.nd rfl (Or.inr rfl))
        (pss_one (ps_asg (pe_ix (ix_nd hr.units) (pv 8) (pv 4) (fun _ _ => rfl)) (pg_sub (pe_ix (ix_nd hr.units) (pv 3) (pv 4) (fun _ _ => rfl)) (pv 7) (set_ndR hr.units))))))))))
    (pss_one (ps_ret (pe_lst (pa_cons (pv 3) (pa_cons (pv 1) pa_nil))))))))), ?_⟩
  obtain ⟨R, ⟨vb, bk, rfl, hb, G, rfl⟩, hQ⟩ := hq
  have eB : encB bk = .tuple [.str bk.top, .tuple (bk.trees.map fun p => .tuple [.str p.1, encT p.2])] := rfl
  refine st_newT (enc := encS) fun pa ob npa dpa => ?_
  dsimp only
  have x1 := Ex.new (o := ob) npa
  generalize upd H pa ob = H1 at dpa x1
  have gtrees : ∀ (σ' : L2.St) (H' : Hp), σ'[0]? = some (some vb) → Ex H H' → Gv (tOp (rIxT K) (tVar 0) (tC (.int 1))) σ' H' (IsV (.tuple (bk.trees.map fun p => .tuple [.str p.1, encT p.2]))) := fun σ' H' h e => gv_ixT (gv_is (gv_var h (Is.mono e.tups _ _ hb)) eB) gv_int rfl
  have nd := G.ok.nd
  refine sq (st_forT (l := bk.trees) (f := fun p => .tuple [.str p.1, encT p.2]) (gtrees _ _ rfl x1) fun H2 e2 => ?_)
  refine ⟨fun pre σ' H' => (∃ c4 c5 c6 c7 c8 c9 c10 c11, σ' = [some vb, some (nI 4), some (nI 150), some (.ref pa), c4, c5, c6, c7, c8, c9, c10, c11]) ∧ Ex H H' ∧ Tups H2 H' ∧ ∃ bs : List (Str × Addr), TAt encS w H' pa (bs.map fun p => (p.1, V.ref p.2)) ∧ bs.map (·.1) = pre.map (·.1) ∧ (bs.map (·.2)).Nodup ∧ (∀ p ∈ bs, p.2 ≠ pa ∧ H p.2 = none) ∧ ∀ p ∈ bs, TAtR encN LsP w H' p.2 [], ⟨⟨_, _, _, _, _, _, _, _, rfl⟩, x1.trans e2, Tups.refl _, [], dpa.ex e2, rfl, List.nodup_nil, fun p hp => (nomatch hp), fun p hp => (nomatch hp)⟩, fun _ _ _ h => h.2.2.1, ?_, ?_⟩
  · rintro pre d post x σ' H' el ⟨⟨c4, c5, c6, c7, c8, c9, c10, c11, rfl⟩, z1, z2, bs, hd, hk, hn, hne, hin⟩ hx
    obtain ⟨ax, xx, rfl, px, ix⟩ := hx.tup_inv
    obtain ⟨vk, vt, rfl, ik, it⟩ := two_inv ix
    have lpre : pre.length < 10 := by
      have := congrArg List.length el
      have := G.ok.n
      simp at *
      omega
    have lbs : bs.length = pre.length := by have := congrArg List.length hk; simpa using this
    have hnew : d.1 ∉ bs.map (·.1) := by
      rw [hk]
      intro hm
      rw [el, List.map_append, List.map_cons, List.nodup_append] at nd
      exact nd.2.2 _ hm _ List.mem_cons_self rfl
    refine gtup2 px.sq ?_
    refine st_setD (k := d.1) (R := NewT encN w H') keyS gv_newT' (gv_ref rfl) (gv_var (R := IsV (encS d.1)) rfl ik) hd (by rw [List.length_map]; show _ < 16777216; omega) fun v H3 ob3 e3 rv d3 t3 => ?_
    obtain ⟨b, rfl, nb, db⟩ := rv
    rw [putK_f (f := V.ref), putA_new hnew] at d3
    have nba : b ≠ pa := by
      obtain ⟨o, ho, _⟩ := hd.at_
      exact (Ne.symm (ne_at ho nb))
    refine ⟨⟨_, _, _, _, _, _, _, _, rfl⟩, Ex.mut (z1.trans e3) npa, (z2.trans e3.tups).trans t3, bs ++ [(d.1, b)], d3, by rw [List.map_append, List.map_append, hk]; rfl, ?_, ?_, ?_⟩
    · rw [List.map_append, List.nodup_append]
      refine ⟨hn, by simp, fun a ha b' hb' => ?_⟩
      rw [List.mem_singleton.mp hb']
      obtain ⟨p, hp, rfl⟩ := List.mem_map.mp ha
      obtain ⟨vl, dd, _⟩ := hin p hp
      obtain ⟨o, ho, _⟩ := dd.at_
      exact ne_at ho nb
    · intro p hp
      rcases List.mem_append.mp hp with h | h
      · exact hne p h
      · rw [List.mem_singleton.mp h]
        exact ⟨nba, fresh_back z1 nb⟩
    · intro p hp
      rcases List.mem_append.mp hp with h | h
      · exact ((hin p h).ex (fun _ => inferInstance) e3).tr (fun b v r => trd_ls (f := fun ps : List Plan => ps.map encPl) b v _ _ _ r (TAt.ext (hd.ex e3)) t3) (upd_ne (hne p h).1) t3
      · rw [List.mem_singleton.mp h]
        exact ⟨[], db.mono (upd_ne nba) t3, .nil⟩
  · rintro σ' H3 ⟨⟨c4, c5, c6, c7, c8, c9, c10, c11, rfl⟩, z1, z2, bs, hd, hk, hn, hne, hin⟩
    have W0 : PlnW w H H3 bk pa bs (fun k => (cnts 0).map fun c => (c, PTn bk 0 k c)) := ⟨hd, hk, hn, hne, hin, npa⟩
    dsimp only
    refine sq (st_asg (R := IsV (.int 0)) gv_int fun v6 H4 e4 r6 => ?_)
    rw [r6.int_inv]
    dsimp only
    refine sq (st_forR2 (m := 1) (n := 5) (gv_is gv_int rfl) (gv_is (gv_add (gv_var rfl (Is.int (Int.ofNat 4))) gv_int) rfl) (by decide) (by decide) fun H5 e5 => ?_)
    refine ⟨fun i σ' H' => (∃ c4 c5 c7 c8 c9 c10 c11, σ' = [some vb, some (nI 4), some (nI 150), some (.ref pa), c4, c5, some (nI (total bk i)), c7, c8, c9, c10, c11]) ∧ Ex H H' ∧ PlnW w H H' bk pa bs (fun k => (cnts i).map fun c => (c, PTn bk i k c)) ∧ total bk i ≤ 150, ⟨⟨_, _, _, _, _, _, _, rfl⟩, z1.trans (e4.trans e5), W0.ex (e4.trans e5), Nat.zero_le _⟩, ?_, ?_⟩
    · rintro i σ' H6 hi ⟨⟨c4, c5, c7, c8, c9, c10, c11, rfl⟩, y1, Wi, ti⟩
      rw [show 1 + i = i + 1 by omega]
      refine sq (st_newT (enc := encS) fun fa ob nfa dfa => ?_)
      have x7 := Ex.new (o := ob) nfa
      have nfa0 := fresh_back y1 nfa
      generalize upd H6 fa ob = H7 at dfa x7
      dsimp only
      have hi4 : i < 4 := by omega
      have FO := fillOk_n G (n := i) (by omega) ti
      refine sq (st_forT (l := bk.trees) (f := fun p => .tuple [.str p.1, encT p.2]) (gtrees _ _ rfl (y1.trans x7)) fun H8 e8 => ?_)
      refine ⟨fun pre σ' H' => (∃ c4 c5 c9 c10 c11, σ' = [some vb, some (nI 4), some (nI 150), some (.ref pa), c4, c5, some (nI (total bk i + sumN (pre.map fun p => (freshT bk (PTn bk i) p.1 p.2 (i + 1)).length))), some (nI (i + 1)), some (.ref fa), c9, c10, c11]) ∧ Ex H6 H' ∧ Tups H8 H' ∧ TAtR encS LsP w H' fa (pre.map fun p => (p.1, freshT bk (PTn bk i) p.1 p.2 (i + 1))), ⟨⟨_, _, _, _, _, rfl⟩, x7.trans e8, Tups.refl _, [], dfa.ex e8, .nil⟩, fun _ _ _ h => h.2.2.1, ?_, ?_⟩
      · rintro pre ⟨k, t⟩ post x σ' H' el ⟨⟨c4, c5, c9, c10, c11, rfl⟩, u1, u2, hf⟩ hx
        have hd : (k, t) ∈ bk.trees := by rw [el]; simp
        have okt := G.ok.ok _ hd
        have okt1 : htT t < 8 := okt.1
        have okt2 : szT t ≤ 50 := G.sz _ hd
        obtain ⟨ax, xx, rfl, px, ix⟩ := hx.tup_inv
        obtain ⟨vk, vt, rfl, ik, it⟩ := two_inv ix
        have lpre : pre.length < 10 := by
          have := congrArg List.length el
          have := G.ok.n
          simp at *
          omega
        have hnew : k ∉ (pre.map fun p => (p.1, freshT bk (PTn bk i) p.1 p.2 (i + 1))).map (·.1) := by
          rw [List.map_map]
          intro hm
          have nd' := nd
          rw [el, List.map_append, List.map_cons, List.nodup_append] at nd'
          exact nd'.2.2 _ hm _ List.mem_cons_self rfl
        have elast : (pre ++ [(k, t)]).map (fun p : Str × Tr => (p.1, freshT bk (PTn bk i) p.1 p.2 (i + 1))) = (pre.map fun p => (p.1, freshT bk (PTn bk i) p.1 p.2 (i + 1))) ++ [(k, freshT bk (PTn bk i) k t (i + 1))] := by rw [List.map_append]; rfl
        have hlen : (freshT bk (PTn bk i) k t (i + 1)).length ≤ 10000000 ∨ True := .inr trivial
        -- the end of a turn
        have fin : ∀ (H11 : Hp) (y9 y10 y11 : Option V), Ex H6 H11 → Tups H8 H11 → Is H11 (encS k) vk → TAtR encS LsP w H11 fa ((pre ++ [(k, t)]).map fun p => (p.1, freshT bk (PTn bk i) p.1 p.2 (i + 1))) →
            tAsg (tOp (rI0 fun i j => .int (i + j)) (tVar 6) (tCB (rLn K) (tCons (tOp (rIxD w) (tVar 8) (tVar 4)) tNil))) (gName 6)
              { nx := fun σ' H' => (∃ c4 c5 c9 c10 c11, σ' = [some vb, some (nI 4), some (nI 150), some (.ref pa), c4, c5, some (nI (total bk i + sumN ((pre ++ [(k, t)]).map fun p => (freshT bk (PTn bk i) p.1 p.2 (i + 1)).length))), some (nI (i + 1)), some (.ref fa), c9, c10, c11]) ∧ Ex H6 H' ∧ Tups H8 H' ∧ TAtR encS LsP w H' fa ((pre ++ [(k, t)]).map fun p => (p.1, freshT bk (PTn bk i) p.1 p.2 (i + 1))), rt := Q }
              [some vb, some (nI 4), some (nI 150), some (.ref pa), some vk, some vt, some (nI (total bk i + sumN (pre.map fun p => (freshT bk (PTn bk i) p.1 p.2 (i + 1)).length))), some (nI (i + 1)), some (.ref fa), y9, y10, y11] H11 := by
          intro H11 y9 y10 y11 e611 t811 ik11 hf11
          have hget : getA ((pre ++ [(k, t)]).map fun p : Str × Tr => (p.1, freshT bk (PTn bk i) p.1 p.2 (i + 1))) k = some (freshT bk (PTn bk i) k t (i + 1)) := by
            rw [elast, getA_snoc _ _ _ _ (by
              cases h : getA (pre.map fun p => (p.1, freshT bk (PTn bk i) p.1 p.2 (i + 1))) k with
              | none => rfl
              | some v => exact absurd (List.mem_map.mpr ⟨_, getA_mem h, rfl⟩) hnew), if_pos rfl]
          refine st_asg (R := IsV (.int (Int.ofNat (total bk i + sumN ((pre ++ [(k, t)]).map fun p => (freshT bk (PTn bk i) p.1 p.2 (i + 1)).length))))) (gv_is (gv_add (gv_var rfl (Is.int (Int.ofNat (total bk i + sumN (pre.map fun p => (freshT bk (PTn bk i) p.1 p.2 (i + 1)).length))))) (gv_lenL (gv_ixR' (RV := LsP) (k := k) keyS (fun _ => inferInstance) (gv_ref rfl) (gv_var rfl ik11) hf11 hget))) ?_) fun v12 H12 e12 r12 => ?_
          · rw [List.map_append, sumN_app, List.length_map]
            congr 1
            simp [sumN]
            omega
          · rw [r12.int_inv]
            exact ⟨⟨_, _, _, _, _, rfl⟩, e611.trans e12, t811.trans e12.tups, hf11.ex (fun _ => inferInstance) e12⟩
        refine gtup2 px.sq ?_
        refine sq (st_asg (R := IsV (.int (Int.ofNat (ownT t)))) (gv_lenS (gv_call (gi_cons (gv_var rfl it) gi_nil) fun vs H1 _ ha => ⟨t, ha, okt1, by omega, rfl⟩)) fun v9 H9 e9 r9 => ?_)
        rw [r9.int_inv]
        dsimp only
        have u9 := u1.trans e9
        refine sq (st_setR (RV := LsP) (k := k) (b := []) keyS (fun _ => inferInstance) (trd_ls (f := fun ps : List Plan => ps.map encPl)) (gv_lst (ds := []) gi_nil) (gv_ref rfl) (gv_var (R := IsV (encS k)) rfl (Is.mono e9.tups _ _ ik)) (hf.ex (fun _ => inferInstance) e9) (by rw [List.length_map]; omega) fun H10 ob10 e10 d10 t10 => ?_)
        rw [putA_new hnew] at d10
        have u10 : Ex H6 (upd H10 fa ob10) := Ex.mut (u9.trans e10) nfa
        have t8 : Tups H' (upd H10 fa ob10) := (e9.tups.trans e10.tups).trans t10
        generalize upd H10 fa ob10 = H11 at d10 u10 t8
        dsimp only
        refine sq (st_if (gt_test (gv_le (gv_var rfl (Is.int (Int.ofNat (ownT t)))) (gv_var rfl (Is.int (Int.ofNat (i + 1)))))) (fun h H12 e12 => ?_) fun h H12 e12 => ?_)
        · have hle : ownT t ≤ i + 1 := by have := of_decide_eq_true h; simp at this; omega
          have ho : 0 < ownT t := by
            have := G.ne _ hd
            unfold ownT
            cases h : signsT t with
            | nil => exact absurd h this
            | cons a b => simp
          have u12 := u10.trans e12
          have hsl := sitesT_len t []
          refine sq (st_asg (R := LsV ((fillL bk (PTn bk i) (sitesT t []) (i + 1 - ownT t)).map encFill)) (gv_call (RA := ConsR (IsV (encB bk)) (ConsR (LsV ((sitesT t []).map encSite)) (ConsR (EqV (nI (i + 1 - ownT t))) (ConsR (PlnV w bk (cnts i) (PTn bk i)) NilR)))) (ga_cons (gv_var rfl (Is.mono (y1.trans u12).tups _ _ hb)) (ga_cons (gv_call (gi_cons (gv_var rfl (Is.mono (t8.trans e12.tups) _ _ it)) (gi_cons (gv_tup (ds := []) gi_nil) gi_nil)) fun vs H1 _ ha => ⟨t, [], ha, okt1, by omega, by simp, rfl⟩) (ga_cons (gv_imp (gv_sub (gv_var rfl (Is.int (Int.ofNat (i + 1)))) (gv_var rfl (Is.int (Int.ofNat (ownT t))))) fun H1 v _ r => by
              rw [r.int_inv]
              show V.int _ = V.int _
              congr 1
              simp
              omega) (ga_cons (gv_var rfl (Wi.ex u12).v) ga_nil)))) fun vs H1 _ ra => ?_) fun v13 H13 e13 r13 => ?_)
          · obtain ⟨a1, _, rfl, i1, a2, _, rfl, i2, a3, _, rfl, rfl, a4, _, rfl, i4, rfl⟩ := ra
            exact ⟨a1, a2, a4, bk, sitesT t [], i + 1 - ownT t, cnts i, PTn bk i, rfl, i1, i2, i4, by omega, by omega, by omega, FO, rfl⟩
          · dsimp only
            have hfl := Nat.le_trans (fillL_len FO.hb (sitesT t []) (i + 1 - ownT t) (by omega)) (gBd_max _ (by omega) _)
            have efr : freshT bk (PTn bk i) k t (i + 1) = (fillL bk (PTn bk i) (sitesT t []) (i + 1 - ownT t)).map (Plan.mk k) := by unfold freshT; rw [if_pos hle]
            refine sq (st_setR (RV := LsP) (k := k) (b := freshT bk (PTn bk i) k t (i + 1)) keyS (fun _ => inferInstance) (trd_ls (f := fun ps : List Plan => ps.map encPl)) (gv_imp (gv_lcL (l := fillL bk (PTn bk i) (sitesT t []) (i + 1 - ownT t)) (f := encFill) (fun f => encPl (.mk k f)) (fun _ => true) (gv_var rfl r13) (by show _ ≤ 16777216; omega) fun fl y H14 hfl14 e14 hy14 => ⟨ev_yes, fun _ => gv_is (gv_tup (gi_cons (gv_var (R := IsV (.str k)) rfl (Is.mono ((t8.trans e12.tups).trans (e13.tups.trans e14.tups)) _ _ ik)) (gi_cons (gv_var rfl hy14) gi_nil))) (by rw [encPl]; rfl)⟩) fun H1 v _ r => ?_) (gv_ref rfl) (gv_var (R := IsV (encS k)) rfl (Is.mono ((t8.trans e12.tups).trans e13.tups) _ _ ik)) (d10.ex (fun _ => inferInstance) (e12.trans e13)) (by rw [List.length_append, List.length_map]; simp; omega) fun H14 ob14 e14 d14 t14 => ?_)
            · show LsV _ H1 v
              rw [efr, List.map_map]
              rw [List.filter_eq_self.mpr (by simp)] at r
              exact r
            · rw [putA_last hnew, ← elast] at d14
              exact fin _ _ _ _ (Ex.mut ((u12.trans e13).trans e14) nfa) ((u2.trans ((t8.trans e12.tups).trans (e13.tups.trans e14.tups))).trans t14) (Is.mono (((t8.trans e12.tups).trans (e13.tups.trans e14.tups)).trans t14) _ _ ik) d14
        · have hle : ¬ ownT t ≤ i + 1 := by have := of_decide_eq_false h; simp at this; omega
          have efr : freshT bk (PTn bk i) k t (i + 1) = [] := by unfold freshT; rw [if_neg hle]
          dsimp only [tNext]
          refine fin _ _ _ _ (u10.trans e12) (u2.trans (t8.trans e12.tups)) (Is.mono (t8.trans e12.tups) _ _ ik) ?_
          rw [elast, efr]
          exact d10.ex (fun _ => inferInstance) e12
      · rintro σ' H9 ⟨⟨c4, c5, c9, c10, c11, rfl⟩, u1, u2, hf⟩
        have etot : total bk i + sumN (bk.trees.map fun p => (freshT bk (PTn bk i) p.1 p.2 (i + 1)).length) = total bk (i + 1) := rfl
        rw [etot]
        have W9 := Wi.ex u1
        have y9 := y1.trans u1
        dsimp only
        refine sq (st_if (gt_test (gv_gt (gv_var rfl (Is.int (Int.ofNat (total bk (i + 1))))) (gv_var rfl (Is.int (Int.ofNat 150))))) (fun h H10 e10 => ?_) fun h H10 e10 => ?_)
        · refine st_ret (R := AllV w bk) (gv_imp (gv_lstR (Rs := [PlnV w bk (cnts i) (PTn bk i), EqV (nI i)]) (gr_cons (gv_var rfl (W9.ex e10).v) (gr_cons (gv_imp (gv_sub (gv_var rfl (Is.int (Int.ofNat (i + 1)))) gv_int) fun H1 v _ r => by
              rw [r.int_inv]
              show V.int _ = V.int _
              congr 1
              simp) gr_nil)) (fun R hR => by
              simp only [List.mem_cons, List.not_mem_nil, or_false] at hR
              rcases hR with rfl | rfl
              · exact inferInstance
              · exact inferInstance)) fun H1 v _ ⟨p, xs, e, hp, al⟩ => ?_) fun v H11 e11 r11 => hQ v H11 (y9.trans (e10.trans e11)) r11
          cases al with
          | cons h1 h2 => cases h2 with
            | cons h3 h4 =>
              cases h4
              rw [show _ = nI i from h3] at hp
              exact ⟨i, p, _, by omega, ti, e, hp, h1⟩
        · have ti1 : total bk (i + 1) ≤ 150 := by
            have := of_decide_eq_false h
            simp at this
            omega
          have W10 := W9.ex e10
          have hf10 := hf.ex (fun _ => inferInstance) e10
          have y10 := y9.trans e10
          obtain ⟨vl, dvl, pvl⟩ := id hf10
          have vks : vl.map (·.1) = bk.trees.map (·.1) := by
            have key : ∀ {vl : List (Str × V)} {l : List (Str × List Plan)}, Paired (fun (x : Str × V) (p : Str × List Plan) => x.1 = p.1 ∧ LsP p.2 H10 x.2) vl l → vl.map (·.1) = l.map (·.1) := by
              intro vl l p
              induction p with
              | nil => rfl
              | cons q t ih => rw [List.map_cons, List.map_cons, q.1, ih]
            rw [key pvl, List.map_map]
            rfl
          have vnd : (vl.map (·.1)).Nodup := by rw [vks]; exact nd
          have nfb : ∀ p ∈ bs, p.2 ≠ fa := fun p hp => by
            obtain ⟨vl2, d2, _⟩ := Wi.inn p hp
            obtain ⟨o, ho, _⟩ := d2.at_
            exact ne_at ho nfa
          have dvl' : TAt encS w H10 fa (vl.map fun p => (p.1, (fun v : V => v) p.2)) := by simpa using dvl
          dsimp only [tNext]
          refine st_forD (enc := encS) (l := vl) (fun v : V => v) (gv_ref rfl) dvl' fun H11 e11 => ?_
          refine ⟨fun pre σ' H' => (∃ c4 c5 c9 c10 c11, σ' = [some vb, some (nI 4), some (nI 150), some (.ref pa), c4, c5, some (nI (total bk (i + 1))), some (nI (i + 1)), some (.ref fa), c9, c10, c11]) ∧ Ex H H' ∧ Tups H11 H' ∧ H' fa = H11 fa ∧ TAtR encS LsP w H' fa (bk.trees.map fun p => (p.1, freshT bk (PTn bk i) p.1 p.2 (i + 1))) ∧ PlnW w H H' bk pa bs (fun k => if k ∈ pre.map (·.1) then (cnts (i + 1)).map fun c => (c, PTn bk (i + 1) k c) else (cnts i).map fun c => (c, PTn bk i k c)), ⟨⟨_, _, _, _, _, rfl⟩, y10.trans e11, Tups.refl _, rfl, hf10.ex (fun _ => inferInstance) e11, by simpa using W10.ex e11⟩, fun _ _ _ h => ⟨h.2.2.1, h.2.2.2.1⟩, ?_, ?_⟩
          · rintro pre ⟨k, vv⟩ post x σ' H12 el ⟨⟨c4, c5, c9, c10, c11, rfl⟩, q1, q2, q3, q4, q5⟩ hx
            have hkv : k ∈ vl.map (·.1) := by rw [el]; simp
            have hkt : k ∈ bk.trees.map (·.1) := by rw [← vks]; exact hkv
            have hkb : k ∈ bs.map (·.1) := by rw [W10.ks]; exact hkt
            have knew : k ∉ pre.map (·.1) := by
              intro hm
              have vnd' := vnd
              rw [el, List.map_append, List.map_cons, List.nodup_append] at vnd'
              exact vnd'.2.2 _ hm _ List.mem_cons_self rfl
            obtain ⟨⟨k', b⟩, hbm, rfl⟩ := List.mem_map.mp hkb
            obtain ⟨⟨k2, t⟩, htm, hk2⟩ := List.mem_map.mp hkt
            have hk2 : k2 = k' := hk2
            subst hk2
            have bnd' : (bs.map (·.1)).Nodup := by rw [W10.ks]; exact nd
            have hgb : valV (bs.map fun p => (p.1, V.ref p.2)) k2 = some (.ref b) := by rw [valV_f, getA_of_mem bnd' hbm]; rfl
            have hgf : getA (bk.trees.map fun p => (p.1, freshT bk (PTn bk i) p.1 p.2 (i + 1))) k2 = some (freshT bk (PTn bk i) k2 t (i + 1)) := getA_of_mem (by rw [List.map_map]; exact nd) (List.mem_map.mpr ⟨_, htm, rfl⟩)
            have hinb := q5.inn _ hbm
            simp only [if_neg knew] at hinb
            have hxk : IsV (encS k2) H12 x := hx
            refine st_setR (RV := LsP) (enc := encN) (k := i + 1) (b := freshT bk (PTn bk i) k2 t (i + 1)) keyN (fun _ => inferInstance) (trd_ls (f := fun ps : List Plan => ps.map encPl)) (gv_ixR' (RV := LsP) (k := k2) keyS (fun _ => inferInstance) (gv_ref rfl) (gv_var rfl hxk) q4 hgf) (gv_ixD (k := k2) keyS (gv_ref rfl) (gv_var rfl hxk) q5.at_ hgb) (gv_var rfl (Is.int _)) hinb (by rw [List.length_map]; unfold cnts; rw [List.length_map, List.length_range]; omega) fun H13 ob e13 d13 t13 => ?_
            have exb : ∃ x, H13 b = some (.ext x) := by
              obtain ⟨vl2, dd, _⟩ := hinb.ex (fun _ => inferInstance) e13
              exact TAt.ext dd
            have nb0 := (W10.ne _ hbm).2
            have nbp := (W10.ne _ hbm).1
            have trl : ∀ (b' : List Plan) (v : V), LsP b' H13 v → LsP b' (upd H13 b ob) v := fun b' v r => trd_ls (f := fun ps : List Plan => ps.map encPl) b' v _ _ _ r exb t13
            rw [putA_new (by
              rw [List.map_map]
              intro hm
              obtain ⟨c, hc, e⟩ := List.mem_map.mp hm
              have := (mem_cnts.mp hc).2
              have e : c = i + 1 := e
              omega)] at d13
            have enew : ((cnts i).map fun c => (c, PTn bk i k2 c)) ++ [(i + 1, freshT bk (PTn bk i) k2 t (i + 1))] = (cnts (i + 1)).map fun c => (c, PTn bk (i + 1) k2 c) := by
              rw [cnts_succ, List.map_append]
              congr 1
              · apply List.map_congr_left
                intro c hc
                rw [PTn_le bk (mem_cnts.mp hc).2]
              · show [(i + 1, _)] = [(i + 1, PTn bk (i + 1) k2 (i + 1))]
                rw [PTn_succ, if_pos rfl, freshL_at nd htm]
            rw [enew] at d13
            refine ⟨⟨_, _, _, _, _, rfl⟩, Ex.mut (q1.trans e13) nb0, (q2.trans e13.tups).trans t13, ?_, (q4.ex (fun _ => inferInstance) e13).tr trl (upd_ne (Ne.symm (nfb _ hbm))) t13, ⟨(q5.at_.ex e13).mono (upd_ne (Ne.symm nbp)) t13, q5.ks, q5.nd, q5.ne, ?_, q5.nw⟩⟩
            · rw [upd_ne (Ne.symm (nfb _ hbm))]
              obtain ⟨vl3, d3, _⟩ := q4
              obtain ⟨o, ho, _⟩ := d3.at_
              rw [e13 _ _ ho, ← q3, ho]
            · rintro ⟨k3, b3⟩ hp3
              by_cases e3 : k3 = k2
              · subst e3
                have : b3 = b := by
                  have h1 := getA_of_mem bnd' hbm
                  have h2 := getA_of_mem bnd' hp3
                  rw [h1] at h2
                  exact (Option.some.inj h2).symm
                subst this
                simp only [List.map_append, List.map_cons, List.map_nil, List.mem_append, List.mem_singleton, or_true, if_true]
                exact d13
              · have nb3 : b3 ≠ b := fun z => by
                  subst z
                  have h7 : ∀ {l : List (Str × Addr)} {p q : Str × Addr}, (l.map (·.2)).Nodup → p ∈ l → q ∈ l → p.2 = q.2 → p = q := by
                    intro l
                    induction l with
                    | nil => intro p q _ h; cases h
                    | cons x l ih =>
                      intro p q n hp hq e
                      rw [List.map_cons, List.nodup_cons] at n
                      rcases List.mem_cons.mp hp with e1 | hp1
                      · rcases List.mem_cons.mp hq with e2 | hq1
                        · rw [e1, e2]
                        · exact (n.1 (List.mem_map.mpr ⟨q, hq1, by rw [← e, e1]⟩)).elim
                      · rcases List.mem_cons.mp hq with e2 | hq1
                        · exact (n.1 (List.mem_map.mpr ⟨p, hp1, by rw [e, e2]⟩)).elim
                        · exact ih n.2 hp1 hq1 e
                  have := h7 W10.nd hp3 hbm rfl
                  exact e3 (congrArg Prod.fst this)
                have hi3 := q5.inn _ hp3
                have em : (k3 ∈ (pre ++ [(k2, vv)]).map (·.1)) ↔ k3 ∈ pre.map (·.1) := by
                  rw [List.map_append, List.mem_append]
                  simp [e3]
                simp only [em]
                exact (hi3.ex (fun _ => inferInstance) e13).tr trl (upd_ne nb3) t13
          · rintro σ' H12 ⟨⟨c4, c5, c9, c10, c11, rfl⟩, q1, q2, q3, q4, q5⟩
            refine ⟨⟨_, _, _, _, _, _, _, rfl⟩, q1, ⟨q5.at_, q5.ks, q5.nd, q5.ne, fun p hp => ?_, q5.nw⟩, ti1⟩
            have := q5.inn p hp
            have hm : p.1 ∈ vl.map (·.1) := by rw [vks, ← W10.ks]; exact List.mem_map_of_mem hp
            simp only [if_pos hm] at this
            exact this
    · rintro σ' H6 ⟨⟨c4, c5, c7, c8, c9, c10, c11, rfl⟩, y1, Wi, ti⟩
      have ti : total bk 4 ≤ 150 := ti
      have Wi : PlnW w H H6 bk pa bs (fun k => (cnts 4).map fun c => (c, PTn bk 4 k c)) := Wi
      dsimp only
      refine st_ret (R := AllV w bk) (gv_imp (gv_lstR (Rs := [PlnV w bk (cnts 4) (PTn bk 4), EqV (nI 4)]) (gr_cons (gv_var rfl Wi.v) (gr_cons (gv_ref rfl) gr_nil)) (fun R hR => by
          simp only [List.mem_cons, List.not_mem_nil, or_false] at hR
          rcases hR with rfl | rfl
          · exact inferInstance
          · exact inferInstance)) fun H1 v _ ⟨p, xs, e, hp, al⟩ => ?_) fun v H11 e11 r11 => hQ v H11 (y1.trans e11) r11
      cases al with
      | cons h1 h2 => cases h2 with
        | cons h3 h4 =>
          cases h4
          rw [show _ = nI 4 from h3] at hp
          exact ⟨4, p, _, by omega, ti, e, hp, h1⟩
end
end K31

/-! lines that a piece can build -/
namespace K31
open PySem PySem.Spec PyProof.Rows L2 NK Evl
abbrev Ln := List Str
abbrev star : Str := "*"
mutual
inductive B (bk : Bk) : Tr → Ln → Prop
  | sign (s : Str) : B bk (.sign s) [s]
  | void : B bk .void []
  | foot (n : Str) : B bk (.foot n) [star]
  | hole (n k : Str) (t : Tr) (L : Ln) : (k, t) ∈ bk.trees → feetT t = [] → nameT t = n → B bk t L → B bk (.hole n) L
  | knot (n : Str) (tk : Option (Str × Bool)) (ks : List Tr) (L : Ln) : mustOf tk = false → Bs bk ks L → B bk (.knot n tk ks) L
  | wrap (n f : Str) (must : Bool) (ks : List Tr) (L l r : Ln) (k : Str) (t : Tr) : Bs bk ks L → (k, t) ∈ bk.trees → feetT t = [f] → B bk t (l ++ star :: r) → B bk (.knot n (some (f, must)) ks) (l ++ L ++ r)
inductive Bs (bk : Bk) : List Tr → Ln → Prop
  | nil : Bs bk [] []
  | cons (t : Tr) (ts : List Tr) (L M : Ln) : B bk t L → Bs bk ts M → Bs bk (t :: ts) (L ++ M)
end
def starN (L : Ln) : Nat := (L.filter fun x => decide (x = star)).length
def wt (L : Ln) : Nat := (L.filter fun x => decide (x ≠ star)).length
theorem starN_app (L M : Ln) : starN (L ++ M) = starN L + starN M := by unfold starN; rw [List.filter_append, List.length_append]
theorem wt_app (L M : Ln) : wt (L ++ M) = wt L + wt M := by unfold wt; rw [List.filter_append, List.length_append]
theorem starN_star : starN [star] = 1 := by unfold starN; simp
theorem wt_star : wt [star] = 0 := by unfold wt; simp
theorem starN_cons_star (r : Ln) : starN (star :: r) = 1 + starN r := by rw [← starN_star, ← starN_app]; rfl
theorem wt_cons_star (r : Ln) : wt (star :: r) = wt r := by
  have := wt_app [star] r
  rw [wt_star, Nat.zero_add] at this
  exact this
theorem starN_sign {s : Str} (h : s ≠ star) : starN [s] = 0 := by simp [starN, h]
theorem wt_sign {s : Str} (h : s ≠ star) : wt [s] = 1 := by simp [wt, h]
/-- no sign is a star -/
def NoStar (t : Tr) : Prop := ∀ s ∈ signsT t, s ≠ star
section
variable {bk : Bk} (hb : ∀ p ∈ bk.trees, NoStar p.2)
include hb
/-- stars are feet, weights are at least the own signs -/
theorem B_count : (∀ {t : Tr} {L : Ln}, B bk t L → NoStar t → starN L = (feetT t).length ∧ ownT t ≤ wt L) ∧ (∀ {ts : List Tr} {L : Ln}, Bs bk ts L → (∀ s ∈ signsTs ts, s ≠ star) → starN L = (feetTs ts).length ∧ (signsTs ts).length ≤ wt L) := by
  constructor
  · intro t L h
    refine B.rec (motive_1 := fun t L _ => NoStar t → starN L = (feetT t).length ∧ ownT t ≤ wt L) (motive_2 := fun ts L _ => (∀ s ∈ signsTs ts, s ≠ star) → starN L = (feetTs ts).length ∧ (signsTs ts).length ≤ wt L) ?_ ?_ ?_ ?_ ?_ ?_ ?_ ?_ h
    · intro s n
      have hs := n s (by simp [signsT])
      exact ⟨starN_sign hs, by rw [wt_sign hs]; simp [ownT, signsT]⟩
    · intro _; exact ⟨rfl, Nat.le_refl _⟩
    · intro n _; exact ⟨starN_star, by rw [wt_star]; simp [ownT, signsT]⟩
    · intro n k t L hm hf hn hB ih _
      obtain ⟨h1, h2⟩ := ih (hb _ hm)
      exact ⟨by rw [h1, hf]; rfl, Nat.zero_le _⟩
    · intro n tk ks L hm hB ih ns
      obtain ⟨h1, h2⟩ := ih (by unfold NoStar at ns; rw [signsT] at ns; exact ns)
      exact ⟨by rw [feetT]; exact h1, by unfold ownT; rw [signsT]; exact h2⟩
    · intro n f must ks L l r k t hB hm hf hBt ih ih2 ns
      obtain ⟨h1, h2⟩ := ih (by unfold NoStar at ns; rw [signsT] at ns; exact ns)
      obtain ⟨h3, h4⟩ := ih2 (hb _ hm)
      rw [hf, starN_app, starN_cons_star] at h3
      simp only [List.length_cons, List.length_nil] at h3
      refine ⟨?_, ?_⟩
      · rw [feetT, starN_app, starN_app, h1]; omega
      · unfold ownT; rw [signsT, wt_app, wt_app]; omega
    · intro _; exact ⟨rfl, Nat.le_refl _⟩
    · intro t ts L M hB hBs ih ih2 ns
      obtain ⟨h1, h2⟩ := ih fun s hs => ns s (by rw [signsTs]; exact List.mem_append_left _ hs)
      obtain ⟨h3, h4⟩ := ih2 fun s hs => ns s (by rw [signsTs]; exact List.mem_append_right _ hs)
      exact ⟨by rw [starN_app, feetTs, List.length_append, h1, h3], by rw [wt_app, signsTs, List.length_append]; unfold ownT at h2; omega⟩
  · intro ts L h
    refine Bs.rec (motive_1 := fun t L _ => NoStar t → starN L = (feetT t).length ∧ ownT t ≤ wt L) (motive_2 := fun ts L _ => (∀ s ∈ signsTs ts, s ≠ star) → starN L = (feetTs ts).length ∧ (signsTs ts).length ≤ wt L) ?_ ?_ ?_ ?_ ?_ ?_ ?_ ?_ h
    · intro s n
      have hs := n s (by simp [signsT])
      exact ⟨starN_sign hs, by rw [wt_sign hs]; simp [ownT, signsT]⟩
    · intro _; exact ⟨rfl, Nat.le_refl _⟩
    · intro n _; exact ⟨starN_star, by rw [wt_star]; simp [ownT, signsT]⟩
    · intro n k t L hm hf hn hB ih _
      obtain ⟨h1, h2⟩ := ih (hb _ hm)
      exact ⟨by rw [h1, hf]; rfl, Nat.zero_le _⟩
    · intro n tk ks L hm hB ih ns
      obtain ⟨h1, h2⟩ := ih (by unfold NoStar at ns; rw [signsT] at ns; exact ns)
      exact ⟨by rw [feetT]; exact h1, by unfold ownT; rw [signsT]; exact h2⟩
    · intro n f must ks L l r k t hB hm hf hBt ih ih2 ns
      obtain ⟨h1, h2⟩ := ih (by unfold NoStar at ns; rw [signsT] at ns; exact ns)
      obtain ⟨h3, h4⟩ := ih2 (hb _ hm)
      rw [hf, starN_app, starN_cons_star] at h3
      simp only [List.length_cons, List.length_nil] at h3
      refine ⟨?_, ?_⟩
      · rw [feetT, starN_app, starN_app, h1]; omega
      · unfold ownT; rw [signsT, wt_app, wt_app]; omega
    · intro _; exact ⟨rfl, Nat.le_refl _⟩
    · intro t ts L M hB hBs ih ih2 ns
      obtain ⟨h1, h2⟩ := ih fun s hs => ns s (by rw [signsTs]; exact List.mem_append_left _ hs)
      obtain ⟨h3, h4⟩ := ih2 fun s hs => ns s (by rw [signsTs]; exact List.mem_append_right _ hs)
      exact ⟨by rw [starN_app, feetTs, List.length_append, h1, h3], by rw [wt_app, signsTs, List.length_append]; unfold ownT at h2; omega⟩
end
/-! lines of plans -/
def wrapL (out inner : Ln) : Ln := out.takeWhile (fun x => decide (x ≠ star)) ++ inner ++ (out.dropWhile (fun x => decide (x ≠ star))).tail
mutual
def lineT (f : Place → Option Ln) : Tr → Place → Ln
  | .sign s, _ => [s]
  | .void, _ => []
  | .foot _, _ => [star]
  | .hole _, p => (f p).getD []
  | .knot _ _ ks, p => match f p with
    | none => lineTs f ks p 0
    | some out => wrapL out (lineTs f ks p 0)
def lineTs (f : Place → Option Ln) : List Tr → Place → Nat → Ln
  | [], _, _ => []
  | t :: ts, p, k => lineT f t (p ++ [k]) ++ lineTs f ts p (k + 1)
end
mutual
def rowP (bk : Bk) : Plan → Ln
  | .mk k f => match getA bk.trees k with
    | none => []
    | some t => lineT (rowsF bk f) t []
def rowsF (bk : Bk) : Fill → Place → Option Ln
  | .nil, _ => none
  | .cons pl p r, q => if q = pl then some (rowP bk p) else rowsF bk r q
end
/-- what stands at a site -/
def SiteOk (bk : Bk) (f : Place → Option Ln) (s : Site) : Prop :=
  (f s.pl = none ∧ s.must = false) ∨ ∃ k t L, (k, t) ∈ bk.trees ∧ (if s.gr then feetT t = [s.nm] else feetT t = [] ∧ nameT t = s.nm) ∧ B bk t L ∧ f s.pl = some L
theorem star_split {L : Ln} (h : 0 < starN L) : L = L.takeWhile (fun x => decide (x ≠ star)) ++ star :: (L.dropWhile (fun x => decide (x ≠ star))).tail := by
  induction L with
  | nil => simp [starN] at h
  | cons a L ih =>
    by_cases e : a = star
    · subst e; simp
    · have : 0 < starN L := by
        have h1 := starN_app [a] L
        rw [starN_sign e] at h1
        have : starN (a :: L) = 0 + starN L := h1
        omega
      have := ih this
      rw [List.takeWhile_cons_of_pos (by simpa using e), List.dropWhile_cons_of_pos (by simpa using e), List.cons_append, ← this]
/-- the knots that take nothing have nothing put -/
def Bare (f : Place → Option Ln) (root : Tr) : Prop := ∀ q n ks, pieceAt root q = some (.knot n none ks) → f q = none
theorem piece_kid {root : Tr} {p : Place} {n : Str} {tk : Option (Str × Bool)} {ks : List Tr} (h : pieceAt root p = some (.knot n tk ks)) {k : Nat} {t : Tr} (hk : ks[k]? = some t) : pieceAt root (p ++ [k]) = some t := by
  rw [pieceAt_snoc, h]
  exact hk
mutual
theorem line_B {bk : Bk} (hb : ∀ p ∈ bk.trees, NoStar p.2) (f : Place → Option Ln) (root : Tr) (ba : Bare f root) : ∀ (t : Tr) (p : Place), pieceAt root p = some t → (∀ s ∈ sitesT t p, SiteOk bk f s) → B bk t (lineT f t p)
  | .sign s, p, _, _ => by rw [lineT]; exact .sign s
  | .void, p, _, _ => by rw [lineT]; exact .void
  | .foot n, p, _, _ => by rw [lineT]; exact .foot n
  | .hole n, p, _, h => by
    have := h ⟨p, false, n, true⟩ (by rw [sitesT]; exact List.mem_singleton.mpr rfl)
    rcases this with ⟨_, h2⟩ | ⟨k, t, L, hm, hc, hB, hf⟩
    · cases h2
    · have hf : f p = some L := hf
      rw [lineT, hf]
      have hc : feetT t = [] ∧ nameT t = n := by simpa using hc
      exact .hole n k t L hm hc.1 hc.2 hB
  | .knot n tk ks, p, hp, h => by
    have hk := lines_B hb f root ba ks p 0 (fun i t hi => by rw [Nat.zero_add]; exact piece_kid hp hi) fun s hs => h s (by rw [sitesT]; exact List.mem_append_right _ hs)
    rw [lineT]
    cases tk with
    | none =>
      rw [ba _ _ _ hp]
      exact .knot n none ks _ rfl hk
    | some gb =>
      obtain ⟨g, b⟩ := gb
      have hs := h ⟨p, true, g, b⟩ (by rw [sitesT]; exact List.mem_append_left _ (by simp [tkSite]))
      rcases hs with ⟨h1, h2⟩ | ⟨k, t, L, hm, hc, hB, hf⟩
      · have h1 : f p = none := h1
        rw [h1]
        exact .knot n (some (g, b)) ks _ h2 hk
      · have hf : f p = some L := hf
        have hc : feetT t = [g] := by simpa using hc
        rw [hf]
        have hst : 0 < starN L := by
          have := ((B_count hb).1 hB (hb _ hm)).1
          rw [hc] at this
          rw [this]; simp
        have hsp := star_split hst
        rw [hsp] at hB
        exact .wrap n g b ks _ _ _ k t hk hm hc hB
theorem lines_B {bk : Bk} (hb : ∀ p ∈ bk.trees, NoStar p.2) (f : Place → Option Ln) (root : Tr) (ba : Bare f root) : ∀ (ts : List Tr) (p : Place) (k : Nat), (∀ i t, ts[i]? = some t → pieceAt root (p ++ [k + i]) = some t) → (∀ s ∈ sitesTs ts p k, SiteOk bk f s) → Bs bk ts (lineTs f ts p k)
  | [], p, k, _, _ => by rw [lineTs]; exact .nil
  | t :: ts, p, k, hp, h => by
    rw [lineTs]
    exact .cons t ts _ _ (line_B hb f root ba t (p ++ [k]) (by simpa using hp 0 t rfl) fun s hs => h s (by rw [sitesTs]; exact List.mem_append_left _ hs)) (lines_B hb f root ba ts p (k + 1) (fun i u hi => by have := hp (i + 1) u (by simpa using hi); rwa [show k + 1 + i = k + (i + 1) by omega]) fun s hs => h s (by rw [sitesTs]; exact List.mem_append_right _ hs))
end
end K31

/-! fills and their rows -/
namespace K31
open PySem PySem.Spec PyProof.Rows L2 NK Evl
def toL : Fill → List (Place × Plan)
  | .nil => []
  | .cons pl p r => (pl, p) :: toL r
theorem rowsF_get (bk : Bk) : ∀ (f : Fill) (q : Place), rowsF bk f q = (getA (toL f) q).map (rowP bk)
  | .nil, q => by rw [rowsF]; rfl
  | .cons pl p r, q => by
    rw [rowsF, toL]
    by_cases h : q = pl
    · rw [if_pos h, getA_pos (p := (pl, p)) h.symm]; rfl
    · rw [if_neg h, getA_neg (p := (pl, p)) (fun z => h z.symm), rowsF_get bk r q]
structure FillFacts (bk : Bk) (PT : PTab) (ss : List Site) (left : Nat) (f : Fill) : Prop where
  site : ∀ s ∈ ss, (getA (toL f) s.pl = none ∧ s.must = false) ∨ ∃ k ∈ calledL bk s.gr s.nm, ∃ c, ∃ p ∈ PT k c, getA (toL f) s.pl = some p
  dom : ∀ q p, (q, p) ∈ toL f → ∃ s ∈ ss, s.pl = q
  nd : ((toL f).map (·.1)).Nodup
  sum : ∀ W : Plan → Nat, (∀ k c, ∀ p ∈ PT k c, W p = c) → sumN ((toL f).map fun x => W x.2) = left
  pl : ∀ q p, (q, p) ∈ toL f → ∃ k c, p ∈ PT k c
theorem fill_facts {bk : Bk} {PT : PTab} : ∀ (ss : List Site) (left : Nat) (f : Fill), f ∈ fillL bk PT ss left → (ss.map (·.pl)).Nodup → FillFacts bk PT ss left f
  | [], left, f, h, _ => by
    rw [fillL] at h
    split at h
    · rename_i h0
      rw [List.mem_singleton.mp h]
      exact ⟨fun s hs => (nomatch hs), fun q p hp => (nomatch hp), List.nodup_nil, fun W _ => h0.symm, fun q p hp => (nomatch hp)⟩
    · cases h
  | s :: ss, left, f, h, nd => by
    rw [List.map_cons, List.nodup_cons] at nd
    rw [fillL] at h
    rcases List.mem_append.mp h with h | h
    · by_cases hm : s.must = true
      · rw [if_pos hm] at h; cases h
      · rw [if_neg hm] at h
        have F := fill_facts ss left f h nd.2
        refine ⟨fun s' hs' => ?_, fun q p hp => ?_, F.nd, F.sum, F.pl⟩
        · rcases List.mem_cons.mp hs' with rfl | hs'
          · refine .inl ⟨?_, by simpa using hm⟩
            cases hg : getA (toL f) s'.pl with
            | none => rfl
            | some p =>
              obtain ⟨s2, h2, e⟩ := F.dom _ _ (getA_mem hg)
              exact absurd (List.mem_map.mpr ⟨s2, h2, e⟩) nd.1
          · exact F.site s' hs'
        · obtain ⟨s2, h2, e⟩ := F.dom q p hp
          exact ⟨s2, List.mem_cons_of_mem _ h2, e⟩
    · obtain ⟨i, hi, h⟩ := List.mem_flatMap.mp h
      obtain ⟨r, hr, h⟩ := List.mem_flatMap.mp h
      obtain ⟨p, hp, rfl⟩ := List.mem_map.mp h
      have hi := List.mem_range.mp hi
      have F := fill_facts ss _ r hr nd.2
      obtain ⟨k, hk, hpk⟩ := List.mem_flatMap.mp hp
      have hnew : s.pl ∉ (toL r).map (·.1) := by
        intro hm
        obtain ⟨⟨q, p'⟩, hq, e⟩ := List.mem_map.mp hm
        obtain ⟨s2, h2, e2⟩ := F.dom _ _ hq
        exact nd.1 (List.mem_map.mpr ⟨s2, h2, e2.trans e⟩)
      refine ⟨fun s' hs' => ?_, fun q p' hp' => ?_, ?_, fun W hW => ?_, fun q p' hp' => ?_⟩
      · rcases List.mem_cons.mp hs' with rfl | hs'
        · exact .inr ⟨k, hk, i + 1, p, hpk, by rw [toL]; exact getA_pos rfl⟩
        · have ne : ¬ s.pl = s'.pl := fun e => nd.1 (List.mem_map.mpr ⟨s', hs', e.symm⟩)
          rw [toL, getA_neg (p := (s.pl, p)) ne]
          exact F.site s' hs'
      · rw [toL] at hp'
        rcases List.mem_cons.mp hp' with e | hp'
        · cases e
          exact ⟨s, List.mem_cons_self, rfl⟩
        · obtain ⟨s2, h2, e⟩ := F.dom q p' hp'
          exact ⟨s2, List.mem_cons_of_mem _ h2, e⟩
      · rw [toL, List.map_cons, List.nodup_cons]
        exact ⟨hnew, F.nd⟩
      · rw [toL, List.map_cons]
        have h1 := F.sum W hW
        have h2 := hW k (i + 1) p hpk
        simp only [sumN, List.foldr_cons] at h1 ⊢
        rw [h1, h2]
        omega
      · rw [toL] at hp'
        rcases List.mem_cons.mp hp' with e | hp'
        · cases e
          exact ⟨k, i + 1, hpk⟩
        · exact F.pl q p' hp'
/-! where sites are -/
mutual
theorem site_piece : ∀ (t : Tr) (p : Place) (s : Site), s ∈ sitesT t p → ∃ q u, s.pl = p ++ q ∧ pieceAt t q = some u ∧ ((u = .hole s.nm ∧ s.gr = false ∧ s.must = true) ∨ ∃ n ks, u = .knot n (some (s.nm, s.must)) ks ∧ s.gr = true)
  | .sign _, p, s, h => by rw [sitesT] at h; cases h
  | .void, p, s, h => by rw [sitesT] at h; cases h
  | .foot _, p, s, h => by rw [sitesT] at h; cases h
  | .hole n, p, s, h => by
    rw [sitesT] at h
    rw [List.mem_singleton.mp h]
    exact ⟨[], .hole n, by simp, rfl, .inl ⟨rfl, rfl, rfl⟩⟩
  | .knot n tk ks, p, s, h => by
    rw [sitesT] at h
    rcases List.mem_append.mp h with h | h
    · cases tk with
      | none => cases h
      | some gb =>
        obtain ⟨g, b⟩ := gb
        have := List.mem_singleton.mp h
        rw [this]
        exact ⟨[], _, by simp, rfl, .inr ⟨n, ks, rfl, rfl⟩⟩
    · obtain ⟨i, t', q, u, h1, h2, h3, h4⟩ := sites_piece ks p 0 s h
      refine ⟨i :: q, u, by rw [h2]; simp, ?_, h4⟩
      rw [pieceAt_cons (t' := t') (by rw [kidsT]; exact h1)]
      exact h3
theorem sites_piece : ∀ (ts : List Tr) (p : Place) (k : Nat) (s : Site), s ∈ sitesTs ts p k → ∃ i t' q u, ts[i]? = some t' ∧ s.pl = p ++ ((k + i) :: q) ∧ pieceAt t' q = some u ∧ ((u = .hole s.nm ∧ s.gr = false ∧ s.must = true) ∨ ∃ n ks, u = .knot n (some (s.nm, s.must)) ks ∧ s.gr = true)
  | [], p, k, s, h => by rw [sitesTs] at h; cases h
  | t :: ts, p, k, s, h => by
    rw [sitesTs] at h
    rcases List.mem_append.mp h with h | h
    · obtain ⟨q, u, h1, h2, h3⟩ := site_piece t (p ++ [k]) s h
      exact ⟨0, t, q, u, rfl, by rw [h1]; simp, h2, h3⟩
    · obtain ⟨i, t', q, u, h1, h2, h3, h4⟩ := sites_piece ts p (k + 1) s h
      exact ⟨i + 1, t', q, u, by simpa using h1, by rw [h2, show k + 1 + i = k + (i + 1) by omega], h3, h4⟩
end
mutual
theorem sites_nd : ∀ (t : Tr) (p : Place), ((sitesT t p).map (·.pl)).Nodup
  | .sign _, p => by rw [sitesT]; exact List.nodup_nil
  | .void, p => by rw [sitesT]; exact List.nodup_nil
  | .foot _, p => by rw [sitesT]; exact List.nodup_nil
  | .hole n, p => by rw [sitesT]; simp
  | .knot n tk ks, p => by
    rw [sitesT, List.map_append, List.nodup_append]
    refine ⟨by cases tk <;> simp [tkSite], sitess_nd ks p 0, fun a ha b hb => ?_⟩
    have ea : a = p := by
      cases tk with
      | none => cases ha
      | some gb => simpa [tkSite] using ha
    obtain ⟨s, hs, rfl⟩ := List.mem_map.mp hb
    obtain ⟨i, t', q, u, h1, h2, _, _⟩ := sites_piece ks p 0 s hs
    rw [ea, h2]
    intro e
    have := congrArg List.length e
    simp at this
theorem sitess_nd : ∀ (ts : List Tr) (p : Place) (k : Nat), ((sitesTs ts p k).map (·.pl)).Nodup
  | [], p, k => by rw [sitesTs]; exact List.nodup_nil
  | t :: ts, p, k => by
    rw [sitesTs, List.map_append, List.nodup_append]
    refine ⟨sites_nd t (p ++ [k]), sitess_nd ts p (k + 1), fun a ha b hb => ?_⟩
    obtain ⟨s, hs, rfl⟩ := List.mem_map.mp ha
    obtain ⟨s', hs', rfl⟩ := List.mem_map.mp hb
    obtain ⟨q, u, h1, _, _⟩ := site_piece t (p ++ [k]) s hs
    obtain ⟨i, t', q', u', _, h2, _, _⟩ := sites_piece ts p (k + 1) s' hs'
    rw [h1, h2, List.append_assoc]
    intro e
    have := List.append_cancel_left e
    simp at this
    omega
end
/-- a plan's row is a line of its tree, with as many signs -/
structure PlanOk (bk : Bk) (PT : PTab) (k : Str) (t : Tr) (f : Fill) (c : Nat) : Prop where
  mem : (k, t) ∈ bk.trees
  own : ownT t ≤ c
  ff : FillFacts bk PT (sitesT t []) (c - ownT t) f
theorem plan_inv {bk : Bk} : ∀ {n k c p}, p ∈ PTn bk n k c → ∃ m t f, m < n ∧ p = .mk k f ∧ PlanOk bk (PTn bk m) k t f c
  | 0, k, c, p, h => by cases h
  | n + 1, k, c, p, h => by
    rw [PTn_succ] at h
    split at h
    · rename_i hc
      unfold freshL at h
      cases ht : getA bk.trees k with
      | none => rw [ht] at h; cases h
      | some t =>
        rw [ht] at h
        have h : p ∈ freshT bk (PTn bk n) k t (n + 1) := h
        unfold freshT at h
        split at h
        · rename_i ho
          obtain ⟨f, hf, rfl⟩ := List.mem_map.mp h
          exact ⟨n, t, f, Nat.lt_succ_self n, rfl, getA_mem ht, by omega, by rw [hc]; exact fill_facts _ _ f hf (sites_nd t [])⟩
        · cases h
    · obtain ⟨m, t, f, h1, h2⟩ := plan_inv h
      exact ⟨m, t, f, by omega, h2⟩
theorem calledL_inv {bk : Bk} {gr : Bool} {nm k : Str} (h : k ∈ calledL bk gr nm) : ∃ t, (k, t) ∈ bk.trees ∧ (if gr then feetT t = [nm] else feetT t = [] ∧ nameT t = nm) := by
  unfold calledL at h
  obtain ⟨⟨k', t⟩, hp, rfl⟩ := List.mem_map.mp h
  obtain ⟨h1, h2⟩ := List.mem_filter.mp hp
  refine ⟨t, h1, ?_⟩
  cases gr with
  | true => simpa using h2
  | false => simpa using h2
theorem bare_of {bk : Bk} {PT : PTab} {t : Tr} {f : Fill} {left : Nat} (F : FillFacts bk PT (sitesT t []) left f) : Bare (rowsF bk f) t := fun q n ks hp => by
  rw [rowsF_get]
  cases hg : getA (toL f) q with
  | none => rfl
  | some p =>
    obtain ⟨s, hs, e⟩ := F.dom _ _ (getA_mem hg)
    obtain ⟨q', u, h1, h2, h3⟩ := site_piece t [] s hs
    rw [List.nil_append] at h1
    rw [← e, h1, h2] at hp
    rcases h3 with ⟨h3, _⟩ | ⟨n', ks', h3, _⟩
    · rw [h3] at hp; cases hp
    · rw [h3] at hp; cases hp
theorem row_B {bk : Bk} (hb : ∀ p ∈ bk.trees, NoStar p.2) (nd : (bk.trees.map (·.1)).Nodup) : ∀ (n : Nat) {k : Str} {c : Nat} {p : Plan}, p ∈ PTn bk n k c → ∀ t, (k, t) ∈ bk.trees → B bk t (rowP bk p) := by
  intro n
  induction n using Nat.strongRecOn with
  | _ n ih =>
    intro k c p hp t ht
    obtain ⟨m, t', f, hm, rfl, P⟩ := plan_inv hp
    have et : t' = t := by
      have h1 := getA_of_mem nd ht
      have h2 := getA_of_mem nd P.mem
      rw [h1] at h2
      exact (Option.some.inj h2).symm
    subst et
    rw [rowP, getA_of_mem nd ht]
    refine line_B hb (rowsF bk f) t' (bare_of P.ff) t' [] rfl fun s hs => ?_
    rcases P.ff.site s hs with ⟨h1, h2⟩ | ⟨k', hk', c', p', hp', hg⟩
    · exact .inl ⟨by rw [rowsF_get, h1]; rfl, h2⟩
    · obtain ⟨t2, h3, h4⟩ := calledL_inv hk'
      exact .inr ⟨k', t2, rowP bk p', h3, h4, ih m hm hp' t2 h3, by rw [rowsF_get, hg]; rfl⟩
end K31

/-! how many signs a plan's row has -/
namespace K31
open PySem PySem.Spec PyProof.Rows L2 NK Evl
def wO : Option Nat → Nat
  | none => 0
  | some n => n
theorem fill_sum {bk : Bk} {PT : PTab} (W : Plan → Nat) (hW : ∀ k c, ∀ p ∈ PT k c, W p = c) : ∀ (ss : List Site) (left : Nat) (f : Fill), f ∈ fillL bk PT ss left → (ss.map (·.pl)).Nodup → sumN (ss.map fun s => wO ((getA (toL f) s.pl).map W)) = left
  | [], left, f, h, _ => by
    rw [fillL] at h
    split at h
    · rename_i h0; exact h0.symm
    · cases h
  | s :: ss, left, f, h, nd => by
    rw [List.map_cons, List.nodup_cons] at nd
    rw [fillL] at h
    rw [List.map_cons]
    rcases List.mem_append.mp h with h | h
    · by_cases hm : s.must = true
      · rw [if_pos hm] at h; cases h
      · rw [if_neg hm] at h
        have F := fill_facts ss left f h nd.2
        have ih := fill_sum W hW ss left f h nd.2
        have : getA (toL f) s.pl = none := by
          cases hg : getA (toL f) s.pl with
          | none => rfl
          | some p =>
            obtain ⟨s2, h2, e⟩ := F.dom _ _ (getA_mem hg)
            exact absurd (List.mem_map.mpr ⟨s2, h2, e⟩) nd.1
        rw [this]
        simp only [sumN, List.foldr_cons, Option.map_none, wO, Nat.zero_add] at ih ⊢
        exact ih
    · obtain ⟨i, hi, h⟩ := List.mem_flatMap.mp h
      obtain ⟨r, hr, h⟩ := List.mem_flatMap.mp h
      obtain ⟨p, hp, rfl⟩ := List.mem_map.mp h
      have hi := List.mem_range.mp hi
      have ih := fill_sum W hW ss _ r hr nd.2
      obtain ⟨k, hk, hpk⟩ := List.mem_flatMap.mp hp
      have e1 : getA (toL (.cons s.pl p r)) s.pl = some p := by rw [toL]; exact getA_pos rfl
      have e2 : (ss.map fun s' => wO ((getA (toL (.cons s.pl p r)) s'.pl).map W)) = ss.map fun s' => wO ((getA (toL r) s'.pl).map W) := by
        apply List.map_congr_left
        intro s' hs'
        have ne : ¬ s.pl = s'.pl := fun e => nd.1 (List.mem_map.mpr ⟨s', hs', e.symm⟩)
        rw [toL, getA_neg (p := (s.pl, p)) ne]
      rw [e1, e2]
      have h2 := hW k (i + 1) p hpk
      simp only [sumN, List.foldr_cons, Option.map_some, wO] at ih ⊢
      rw [ih, h2]
      omega
theorem wt_drop (L : Ln) : wt (L.dropWhile fun x => decide (x ≠ star)).tail = wt (L.dropWhile fun x => decide (x ≠ star)) := by
  induction L with
  | nil => rfl
  | cons a L ih =>
    by_cases e : a = star
    · subst e
      rw [List.dropWhile_cons_of_neg (by simp)]
      exact (wt_cons_star L).symm
    · rw [List.dropWhile_cons_of_pos (by simpa using e)]
      exact ih
theorem wt_wrap (out inner : Ln) : wt (wrapL out inner) = wt out + wt inner := by
  have h : wt (out.takeWhile fun x => decide (x ≠ star)) + wt (out.dropWhile fun x => decide (x ≠ star)) = wt out := by rw [← wt_app, List.takeWhile_append_dropWhile]
  unfold wrapL
  rw [wt_app, wt_app, wt_drop]
  omega
def wF (f : Place → Option Ln) (s : Site) : Nat := wO ((f s.pl).map wt)
theorem sumN_cons (a : Nat) (l : List Nat) : sumN (a :: l) = a + sumN l := rfl
mutual
theorem wt_line (f : Place → Option Ln) (root : Tr) (ba : Bare f root) : ∀ (t : Tr) (p : Place), pieceAt root p = some t → NoStar t → wt (lineT f t p) = ownT t + sumN ((sitesT t p).map (wF f))
  | .sign s, p, _, n => by
    rw [lineT, sitesT, wt_sign (n s (by simp [signsT]))]
    simp [ownT, signsT, sumN]
  | .void, p, _, _ => by rw [lineT, sitesT]; rfl
  | .foot m, p, _, _ => by rw [lineT, sitesT, wt_star]; rfl
  | .hole m, p, _, _ => by
    rw [lineT, sitesT, List.map_singleton, sumN_cons]
    unfold wF
    cases f p <;> simp [ownT, signsT, sumN, wO, wt]
  | .knot m tk ks, p, hp, n => by
    have hk := wt_lines f root ba ks p 0 (fun i t hi => by rw [Nat.zero_add]; exact piece_kid hp hi) (by unfold NoStar at n; rw [signsT] at n; exact n)
    rw [lineT, sitesT, List.map_append, sumN_app]
    have eo : ownT (.knot m tk ks) = (signsTs ks).length := by unfold ownT; rw [signsT]
    rw [eo]
    cases tk with
    | none =>
      rw [ba _ _ _ hp]
      simp only [tkSite, List.map_nil, sumN, List.foldr_nil, Nat.zero_add]
      exact hk
    | some gb =>
      simp only [tkSite, List.map_cons, List.map_nil]
      have e : sumN [wF f ⟨p, true, gb.1, gb.2⟩] = wO ((f p).map wt) := by simp [sumN, wF]
      rw [e]
      cases hf : f p with
      | none => simp only [Option.map_none, wO, Nat.zero_add]; exact hk
      | some out =>
        simp only [Option.map_some, wO]
        rw [wt_wrap, hk]
        omega
theorem wt_lines (f : Place → Option Ln) (root : Tr) (ba : Bare f root) : ∀ (ts : List Tr) (p : Place) (k : Nat), (∀ i t, ts[i]? = some t → pieceAt root (p ++ [k + i]) = some t) → (∀ s ∈ signsTs ts, s ≠ star) → wt (lineTs f ts p k) = (signsTs ts).length + sumN ((sitesTs ts p k).map (wF f))
  | [], p, k, _, _ => by rw [lineTs, sitesTs]; rfl
  | t :: ts, p, k, hp, n => by
    have h1 := wt_line f root ba t (p ++ [k]) (by simpa using hp 0 t rfl) fun s hs => n s (by rw [signsTs]; exact List.mem_append_left _ hs)
    have h2 := wt_lines f root ba ts p (k + 1) (fun i u hi => by have := hp (i + 1) u (by simpa using hi); rwa [show k + 1 + i = k + (i + 1) by omega]) fun s hs => n s (by rw [signsTs]; exact List.mem_append_right _ hs)
    rw [lineTs, sitesTs, wt_app, h1, h2, List.map_append, sumN_app, signsTs, List.length_append]
    unfold ownT
    omega
end
mutual
theorem line_len (f : Place → Option Ln) (h : ∀ q L, f q = some L → L.length ≤ 5) : ∀ (t : Tr) (p : Place), (lineT f t p).length ≤ 5 * szT t
  | .sign s, p => by rw [lineT, szT]; simp
  | .void, p => by rw [lineT, szT]; simp
  | .foot m, p => by rw [lineT, szT]; simp
  | .hole m, p => by
    rw [lineT, szT]
    cases hf : f p with
    | none => simp
    | some L => have := h p L hf; simpa using this
  | .knot m tk ks, p => by
    have hk := lines_len f h ks p 0
    rw [lineT, szT]
    cases hf : f p with
    | none => show (lineTs f ks p 0).length ≤ _; omega
    | some out =>
      have h1 := h p out hf
      show (wrapL out (lineTs f ks p 0)).length ≤ _
      unfold wrapL
      have h2 : (out.takeWhile fun x => decide (x ≠ star)).length + (out.dropWhile fun x => decide (x ≠ star)).length = out.length := by rw [← List.length_append, List.takeWhile_append_dropWhile]
      simp only [List.length_append, List.length_tail]
      omega
theorem lines_len (f : Place → Option Ln) (h : ∀ q L, f q = some L → L.length ≤ 5) : ∀ (ts : List Tr) (p : Place) (k : Nat), (lineTs f ts p k).length ≤ 5 * szTs ts
  | [], p, k => by rw [lineTs]; simp
  | t :: ts, p, k => by
    have h1 := line_len f h t (p ++ [k])
    have h2 := lines_len f h ts p (k + 1)
    rw [lineTs, szTs, List.length_append]
    omega
end
theorem len_wt (L : Ln) : L.length = wt L + starN L := by
  induction L with
  | nil => rfl
  | cons a L ih =>
    by_cases e : a = star
    · subst e
      rw [wt_cons_star, starN_cons_star, List.length_cons]; omega
    · have h1 := wt_app [a] L
      have h2 := starN_app [a] L
      rw [wt_sign e] at h1
      rw [starN_sign e] at h2
      have h1 : wt (a :: L) = 1 + wt L := h1
      have h2 : starN (a :: L) = 0 + starN L := h2
      rw [List.length_cons]
      omega
theorem row_wt {bk : Bk} (hb : ∀ p ∈ bk.trees, NoStar p.2) (nd : (bk.trees.map (·.1)).Nodup) : ∀ (n : Nat) {k : Str} {c : Nat} {p : Plan}, p ∈ PTn bk n k c → wt (rowP bk p) = c := by
  intro n
  induction n using Nat.strongRecOn with
  | _ n ih =>
    intro k c p hp
    -- unfold by hand: the fill is needed
    have aux : ∀ {n k c p}, p ∈ PTn bk n k c → ∃ m t f, m < n ∧ p = .mk k f ∧ (k, t) ∈ bk.trees ∧ ownT t ≤ c ∧ f ∈ fillL bk (PTn bk m) (sitesT t []) (c - ownT t) := by
      intro n
      induction n with
      | zero => intro k c p h; cases h
      | succ n ih =>
        intro k c p h
        rw [PTn_succ] at h
        split at h
        · rename_i hc
          unfold freshL at h
          cases ht : getA bk.trees k with
          | none => rw [ht] at h; cases h
          | some t =>
            rw [ht] at h
            have h : p ∈ freshT bk (PTn bk n) k t (n + 1) := h
            unfold freshT at h
            split at h
            · rename_i ho
              obtain ⟨f, hf, rfl⟩ := List.mem_map.mp h
              exact ⟨n, t, f, Nat.lt_succ_self n, rfl, getA_mem ht, by omega, by rw [hc]; exact hf⟩
            · cases h
        · obtain ⟨m, t, f, h1, h2⟩ := ih h
          exact ⟨m, t, f, by omega, h2⟩
    obtain ⟨m, t, f, hm, rfl, ht, ho, hf⟩ := aux hp
    have F := fill_facts _ _ f hf (sites_nd t [])
    have hs := fill_sum (fun p => wt (rowP bk p)) (fun k c p hp => ih m hm hp) _ _ f hf (sites_nd t [])
    rw [rowP, getA_of_mem nd ht]
    show wt (lineT (rowsF bk f) t []) = c
    rw [wt_line (rowsF bk f) t (bare_of F) t [] rfl (hb _ ht)]
    have e : ((sitesT t []).map (wF (rowsF bk f))) = (sitesT t []).map fun s => wO ((getA (toL f) s.pl).map fun p => wt (rowP bk p)) := by
      apply List.map_congr_left
      intro s _
      unfold wF
      rw [rowsF_get, Option.map_map]
      rfl
    rw [e, hs]
    omega
theorem row_len {bk : Bk} (hb : ∀ p ∈ bk.trees, NoStar p.2) (nd : (bk.trees.map (·.1)).Nodup) (hf : ∀ p ∈ bk.trees, (feetT p.2).length ≤ 1) {n : Nat} (hn : n ≤ 4) {k : Str} {c : Nat} {p : Plan} (hp : p ∈ PTn bk n k c) : (rowP bk p).length ≤ 5 := by
  obtain ⟨m, t, f, hm, e, P⟩ := plan_inv hp
  have hB := row_B hb nd n hp t P.mem
  have hs := ((B_count hb).1 hB (hb _ P.mem)).1
  have hw := row_wt hb nd n hp
  have hc : c ≤ 4 := by
    by_cases h : c ∈ cnts n
    · have := (mem_cnts.mp h).2; omega
    · rw [PTn_out bk n k c h] at hp; cases hp
  have h1 : (feetT t).length ≤ 1 := hf _ P.mem
  rw [len_wt, hw, hs]
  omega
end K31

namespace K31
open PySem PySem.Spec PyProof.Rows L2 NK Evl
/-! dicts that are only looked into -/
def TDR {κ β : Type} (enc : κ → PyData) (RV : β → HR) (w : World) (H : Hp) (a : Addr) (l : List (κ × β)) : Prop :=
  ∃ vl : List (κ × V), DAt w H a (vl.map fun p => (keyDa (enc p.1), p.2)) ∧ Paired (fun (x : κ × V) (p : κ × β) => x.1 = p.1 ∧ RV p.2 H x.2) vl l
section
variable {κ β : Type} [DecidableEq κ] {enc : κ → PyData} {RV : β → HR} {w : World} {σ : L2.St} {H H' : Hp} {a : Addr} {l : List (κ × β)} {ta tb te : TE} {D : Ends} {k : κ}
theorem dat_ex {l : List (NestedKey × V)} (d : DAt w H a l) (e : Ex H H') : DAt w H' a l := by
  obtain ⟨kvs, ep, r, h⟩ := d
  exact ⟨kvs, ep, r.mono (by rw [r.at_]; exact e _ _ r.at_) e.tups, h⟩
theorem TDR.ex (m : ∀ b, Mono (RV b)) (h : TDR enc RV w H a l) (e : Ex H H') : TDR enc RV w H' a l := by
  obtain ⟨vl, d, p⟩ := h
  exact ⟨vl, dat_ex d e, paired_imp (fun _ _ q => ⟨q.1, (m _).mo e q.2⟩) p⟩
theorem TAtR.tdr (h : TAtR enc RV w H a l) : TDR enc RV w H a l := by
  obtain ⟨vl, d, p⟩ := h
  exact ⟨vl, d.dat, p⟩
theorem gv_ixRd {b : β} (hk : KeyE enc) (m : ∀ b, Mono (RV b)) (hd : Gv ta σ H (EqV (.ref a))) (hy : Gv tb σ H (IsV (enc k))) (h : TDR enc RV w H a l) (e : getA l k = some b) : Gv (tOp (rIxD w) ta tb) σ H (RV b) := fun H1 e1 Q q =>
  hd H1 e1 _ fun x H2 e2 rx => hy H2 (e1.trans e2) _ fun y H3 e3 ry => by
    obtain ⟨vl, d, p⟩ := h.ex m (e1.trans (e2.trans e3))
    rcases paired_get (fun _ _ q => q.1) k p with ⟨h1, h2⟩ | ⟨u, v, h1, h2, h3, _⟩
    · rw [h2] at e; cases e
    · rw [h2] at e
      cases e
      exact ⟨a, _, _, u, rx, d, Is.nk _ _ ry, hk.dp k, by rw [valV_t hk]; exact h1, q u H3 (e2.trans e3) h3.2⟩
theorem gt_inRd (hk : KeyE enc) (m : ∀ b, Mono (RV b)) (hy : Gv ta σ H (IsV (enc k))) (hd : Gv tb σ H (EqV (.ref a))) (h : TDR enc RV w H a l) : EvT (tTest (tOp (rInD w) ta tb)) σ H (getA l k).isSome := fun H1 e1 Q q =>
  hy H1 e1 _ fun y H2 e2 ry => hd H2 (e1.trans e2) _ fun x H3 e3 rx => by
    obtain ⟨vl, d, p⟩ := h.ex m (e1.trans (e2.trans e3))
    refine ⟨a, _, _, rx, d, Is.nk _ _ (Is.mono e3.tups _ _ ry), hk.dp k, _, rfl, ?_⟩
    rw [valV_t hk]
    have : (valV vl k).isSome = (getA l k).isSome := by
      rcases paired_get (fun _ _ q => q.1) k p with ⟨h1, h2⟩ | ⟨u, v, h1, h2, h3, _⟩
      · rw [valV_get, h1, h2]; rfl
      · rw [valV_get, h1, h2]; rfl
    rw [this]
    exact q _ (e2.trans e3)
/-- dict(pairs) -/
theorem gv_dictP {f : β → PyData} {ta : TE} (hk : KeyE enc) (h : Gv ta σ H (IsV (.tuple (l.map fun p => .tuple [enc p.1, f p.2])))) (nd : (l.map (·.1)).Nodup) : Gv (tCB (rDictP w) (tCons ta tNil)) σ H (fun H1 v => ∃ p, v = .ref p ∧ H p = none ∧ TDR enc (fun b => IsV (f b)) w H1 p l) := fun H1 e1 Q q => h H1 e1 _ fun v H2 e2 r => by
  obtain ⟨a, xs, rfl, pt, al⟩ := r.tup_inv
  have key : ∀ {l : List (κ × β)} {xs : List V}, IsAll H2 (l.map fun p => .tuple [enc p.1, f p.2]) xs → ∃ (ts : List Addr) (kvs : List KE), xs = ts.map V.ref ∧ Paired (fun t (x : KE) => Rd H2 t (.tup [x.2.1, x.2.2])) ts kvs ∧ Paired (fun (x : KE) (p : κ × β) => x.1 = keyDa (enc p.1) ∧ Is H2 (enc p.1) x.2.1 ∧ Is H2 (f p.2) x.2.2) kvs l := by
    intro l
    induction l with
    | nil => intro xs h; cases h; exact ⟨[], [], rfl, .nil, .nil⟩
    | cons p l ih =>
      intro xs h
      cases h with
      | cons h1 h2 =>
        obtain ⟨ts, kvs, rfl, p1, p2⟩ := ih h2
        obtain ⟨b, ys, rfl, pb, ib⟩ := h1.tup_inv
        obtain ⟨y1, y2, rfl, i1, i2⟩ := two_inv ib
        exact ⟨b :: ts, (keyDa (enc p.1), y1, y2) :: kvs, rfl, .cons pb.rd p1, .cons ⟨rfl, i1, i2⟩ p2⟩
  obtain ⟨ts, kvs, rfl, p1, p2⟩ := key al
  have ek : ∀ {kvs : List KE} {l : List (κ × β)}, Paired (fun (x : KE) (p : κ × β) => x.1 = keyDa (enc p.1) ∧ Is H2 (enc p.1) x.2.1 ∧ Is H2 (f p.2) x.2.2) kvs l → kvs.map (·.1) = (l.map (·.1)).map (fun k => keyDa (enc k)) ∧ (∀ x ∈ kvs, Nk H2 x.1 x.2.1 ∧ x.1.depth ≤ 8) ∧ ∃ vl : List (κ × V), NK.strip kvs = vl.map (fun p => (keyDa (enc p.1), p.2)) ∧ Paired (fun (x : κ × V) (p : κ × β) => x.1 = p.1 ∧ Is H2 (f p.2) x.2) vl l := by
    intro kvs l p
    induction p with
    | nil => exact ⟨rfl, fun x hx => (nomatch hx), [], rfl, .nil⟩
    | @cons x y kvs l q t ih =>
      obtain ⟨i1, i2, vl, i3, i4⟩ := ih
      refine ⟨by rw [List.map_cons, List.map_cons, List.map_cons, i1, q.1], fun z hz => ?_, (y.1, x.2.2) :: vl, ?_, .cons ⟨rfl, q.2.2⟩ i4⟩
      · rcases List.mem_cons.mp hz with e | hz
        · rw [e, q.1]
          exact ⟨Is.nk _ _ q.2.1, hk.dp _⟩
        · exact i2 z hz
      · show (x.1, x.2.2) :: NK.strip kvs = _
        rw [i3, q.1]
        rfl
  obtain ⟨k1, k2, vl, k3, k4⟩ := ek p2
  refine ⟨a, ts, kvs, rfl, pt, p1, k2, ?_, fun p ob np d => q _ _ (e2.trans (Ex.new np)) ⟨p, rfl, fresh_back (e1.trans e2) np, vl, by rw [← k3]; exact d, paired_imp (fun _ _ q => ⟨q.1, Is.mono (Tups.new np) _ _ q.2⟩) k4⟩⟩
  rw [k1]
  unfold List.Nodup at nd ⊢
  rw [List.pairwise_map]
  exact nd.imp fun h e => h (hk.inj _ _ e)
end
end K31

namespace K31
open PySem PySem.Spec PyProof.Rows L2 NK Evl
theorem keyP : KeyE encP := ⟨fun _ _ h => keyP_inj h, fun a => by have := dpP a; omega⟩
theorem cutD_take (xs : List PyData) {j : Nat} (h : j ≤ xs.length) : cutD xs none (some (Int.ofNat j)) = xs.take j := by
  unfold cutD
  have e1 : HT.sIx xs.length 0 none = 0 := rfl
  have e2 : HT.sIx xs.length xs.length (some (Int.ofNat j)) = j := by
    have := HT.sIx_nat xs.length xs.length j
    rw [Nat.min_eq_left h] at this
    exact this
  rw [e1, e2]
  simp
theorem cutD_drop (xs : List PyData) {j : Nat} (h : j ≤ xs.length) : cutD xs (some (Int.ofNat j)) none = xs.drop j := by
  unfold cutD
  have e1 : HT.sIx xs.length 0 (some (Int.ofNat j)) = j := by
    have := HT.sIx_nat xs.length 0 j
    rw [Nat.min_eq_left h] at this
    exact this
  have e2 : HT.sIx xs.length xs.length none = xs.length := rfl
  rw [e1, e2, List.take_of_length_le (by rw [List.length_drop]; exact Nat.le_refl _)]
/-- where a text stands first -/
def posL (x : Str) (l : List Str) : Nat := (l.takeWhile fun y => decide (y ≠ x)).length
theorem pos_at {x : Str} {l : List Str} (h : x ∈ l) : l[posL x l]? = some x ∧ ∀ m z, m < posL x l → l[m]? = some z → z ≠ x := by
  induction l with
  | nil => cases h
  | cons a l ih =>
    by_cases e : a = x
    · subst e
      have : posL a (a :: l) = 0 := by unfold posL; rw [List.takeWhile_cons_of_neg (by simp)]; rfl
      rw [this]
      exact ⟨rfl, fun m z hm => by omega⟩
    · have : posL x (a :: l) = posL x l + 1 := by unfold posL; rw [List.takeWhile_cons_of_pos (by simpa using e)]; rfl
      rw [this]
      obtain ⟨h1, h2⟩ := ih (by rcases List.mem_cons.mp h with h | h; exact absurd h.symm e; exact h)
      refine ⟨h1, fun m z hm hz => ?_⟩
      cases m with
      | zero => cases hz; exact e
      | succ m => exact h2 m z (by omega) hz
theorem take_pos (x : Str) (l : List Str) : l.take (posL x l) = l.takeWhile fun y => decide (y ≠ x) := by
  induction l with
  | nil => rfl
  | cons a l ih =>
    by_cases e : a = x
    · subst e
      unfold posL; rw [List.takeWhile_cons_of_neg (by simp)]; rfl
    · unfold posL at ih ⊢; rw [List.takeWhile_cons_of_pos (by simpa using e)]
      rw [List.length_cons, List.take_succ_cons, ih]
theorem drop_pos (x : Str) (l : List Str) : l.drop (posL x l + 1) = (l.dropWhile fun y => decide (y ≠ x)).tail := by
  induction l with
  | nil => rfl
  | cons a l ih =>
    by_cases e : a = x
    · subst e
      unfold posL; rw [List.takeWhile_cons_of_neg (by simp), List.dropWhile_cons_of_neg (by simp)]; rfl
    · unfold posL at ih ⊢; rw [List.takeWhile_cons_of_pos (by simpa using e), List.dropWhile_cons_of_pos (by simpa using e)]
      rw [List.length_cons, List.drop_succ_cons, ih]
theorem pos_lt {x : Str} {l : List Str} (h : x ∈ l) : posL x l < l.length := (List.getElem?_eq_some_iff.mp (pos_at h).1).1
section
variable {K : PySem.W.Frag} {σ : L2.St} {H : Hp} {ta tb : TE}
theorem strs_flat {H : Hp} : ∀ {l : List Str} {xs : List V}, IsAll H (dStrs l) xs → xs = l.map V.str
  | [], _, h => by cases h; rfl
  | a :: l, _, h => by
    cases h with
    | cons h1 h2 => rw [h1.str_inv, strs_flat h2]; rfl
theorem gv_indexS {l : List Str} {x : Str} (hl : Gv ta σ H (LsV (dStrs l))) (hx : Gv tb σ H (IsV (.str x))) (h : x ∈ l) : Gv (tBM K "list" (rIndex K) ta (tCons tb tNil)) σ H (IsV (.int (Int.ofNat (posL x l)))) := fun H1 e1 Q q =>
  hl H1 e1 _ fun v H2 e2 r => by
    obtain ⟨a, xs, rfl, pt, al⟩ := r
    refine ⟨.inl ⟨rfl, xs, sq_of pt⟩, hx H2 (e1.trans e2) _ fun y H3 e3 ry => ?_⟩
    have ey := ry.str_inv
    subst ey
    have ex := strs_flat al
    subst ex
    obtain ⟨h1, h2⟩ := pos_at h
    refine ⟨a, _, .str x, posL x l, .str x, rfl, rfl, ex_l e3 (sq_of pt), rfl, ?_, by rw [List.getElem?_map, h1]; rfl, by simp [eqV], fun m z' hm hz => ?_, q _ _ (e2.trans e3) (.int _)⟩
    · rw [List.all_map]
      exact List.all_eq_true.mpr fun _ _ => rfl
    · rw [List.getElem?_map] at hz
      cases hz' : l[m]? with
      | none => rw [hz'] at hz; cases hz
      | some z =>
        rw [hz'] at hz
        cases hz
        have := h2 m z hm hz'
        simp [eqV, this]
end
section
variable {P : Program} {w : World} {K : PySem.W.Frag} {mg : Str → Option Value} {base : Heap} {CG CC : Addr}
abbrev TreesD (w : World) (H : Hp) (a : Addr) (bk : Bk) : Prop := TDR encS (fun t => IsV (encT t)) w H a bk.trees
abbrev PutsD (w : World) (H : Hp) (a : Addr) (f : Fill) : Prop := TDR encP (fun p => IsV (encPl p)) w H a (toL f)
def PutV (w : World) (f : Fill) : HR := fun H v => ∃ q, v = .ref q ∧ PutsD w H q f
instance {f : Fill} : Mono (PutV w f) := ⟨fun e ⟨q, h, r⟩ => ⟨q, h, r.ex (fun _ => inferInstance) e⟩⟩
def spRow (w : World) (n : Nat) : List V → Hp → HR → Prop := fun vs H R => ∃ bk ad vp m k c p, vs = [.ref ad, vp] ∧ TreesD w H ad bk ∧ Is H (encPl p) vp ∧ BkG bk ∧ m < n ∧ m ≤ 4 ∧ p ∈ PTn bk m k c ∧ R = LsV (dStrs (rowP bk p))
def spLine (w : World) (n h : Nat) : List V → Hp → HR → Prop := fun vs H R => ∃ bk ad ap vt vp root t p f left m, vs = [.ref ad, vt, vp, .ref ap] ∧ TreesD w H ad bk ∧ PutsD w H ap f ∧ Is H (encT t) vt ∧ Is H (encP p) vp ∧ BkG bk ∧ m < n ∧ m ≤ 4 ∧ htT t < h ∧ p.length + h ≤ 1000 ∧ szT t ≤ 50 ∧ pieceAt root p = some t ∧ FillFacts bk (PTn bk m) (sitesT root []) left f ∧ (∀ s ∈ sitesT t p, s ∈ sitesT root []) ∧ R = LsV (dStrs (lineT (rowsF bk f) t p))
theorem lineTs_app (f : Place → Option Ln) : ∀ (l m : List Tr) (p : Place) (k : Nat), lineTs f (l ++ m) p k = lineTs f l p k ++ lineTs f m p (k + l.length)
  | [], m, p, k => by simp [lineTs]
  | t :: l, m, p, k => by
    rw [List.cons_append, lineTs, lineTs, lineTs_app f l m p (k + 1), List.append_assoc, List.length_cons, show k + 1 + l.length = k + (l.length + 1) by omega]
theorem gv_lsE {σ : L2.St} {H : Hp} {te : TE} {ds ds' : List PyData} (h : Gv te σ H (LsV ds)) (e : ds = ds') : Gv te σ H (LsV ds') := by rw [← e]; exact h
theorem encFl_toL : ∀ f : Fill, encFl f = (toL f).map fun x => .tuple [encP x.1, encPl x.2]
  | .nil => by rw [encFl]; rfl
  | .cons pl p r => by rw [encFl, encFl_toL r]; rfl
theorem fill_plan {bk : Bk} {PT : PTab} {ss : List Site} {left : Nat} {f : Fill} (F : FillFacts bk PT ss left f) {q : Place} {p : Plan} (h : getA (toL f) q = some p) : ∃ k c, p ∈ PT k c := F.pl q p (getA_mem h)
theorem fill_rows5 {bk : Bk} (G : BkG bk) {m : Nat} (hm : m ≤ 4) {ss : List Site} {left : Nat} {f : Fill} (F : FillFacts bk (PTn bk m) ss left f) : ∀ q L, rowsF bk f q = some L → L.length ≤ 5 := by
  intro q L h
  rw [rowsF_get] at h
  cases hg : getA (toL f) q with
  | none => rw [hg] at h; cases h
  | some p =>
    rw [hg] at h
    cases h
    obtain ⟨k, c, hp⟩ := fill_plan F hg
    exact row_len G.sg G.ok.nd G.ft hm hp
theorem w_line_step (T : Txt K mg CG CC) (n h L : Nat) (c__law_row : Cal P w K mg base L "_law_row" (SpR (spRow w n))) (c__law_line : Cal P w K mg base (L + 1 + h) "_law_line" (SpR (spLine w n h))) : Cal P w K mg base (L + 1 + h + 1) "_law_line" (SpR (spLine w n (h + 1))) := by
  refine cal_of T.d_law_line sc__law_line b__law_line (fun vs H Q E ⟨R, ⟨_, _, _, _, _, _, _, _, _, _, _, e, _⟩, _⟩ => by rw [e]; rfl) fun f cdv A outer s H vs Q E hr hq => ?_
  refine ⟨_, (pss_cons (ps_if (pt_cmpR op_eq (pe_ix ix_tup (pv 1) pe_int (fun _ _ => rfl)) pe_str (nomark _))
      (pss_one (ps_ret (pe_lst (pa_cons (pe_ix ix_tup (pv 1) pe_int (fun _ _ => rfl)) pa_nil))))
      pss_nil)
    (pss_cons (ps_if (pt_cmpR op_eq (pe_ix ix_tup (pv 1) pe_int (fun _ _ => rfl)) pe_str (nomark _))
      (pss_one (ps_ret (pe_lst (pa_cons pe_str pa_nil))))
      pss_nil)
    (pss_cons (ps_if (pt_cmpR op_eq (pe_ix ix_tup (pv 1) pe_int (fun _ _ => rfl)) pe_str (nomark _))
      (pss_one (ps_ret (pe_c c__law_row hr (by omega) rfl (pa_cons (pv 0) (pa_cons (pe_ix (ix_nd hr.units) (pv 3) (pv 2) (fun _ _ => rfl)) pa_nil)))))
      pss_nil)
    (pss_cons (ps_set (i := 4) sc__law_line.nd rfl (Or.inl rfl) (pe_lst pa_nil))
    (pss_cons (ps_if (pt_cmpR op_eq (pe_ix ix_tup (pv 1) pe_int (fun _ _ => rfl)) pe_str (nomark _))
      (pss_cons (ps_for PassesOwn.never rfl (pi_range1 (by rfl) (T.fr "range" (by decide)) (pa_cons (pe_callB cr_len rfl (T.fr "len" (by decide)) (by decide +kernel) (pa_cons (pe_ix ix_tup (pv 1) pe_int (fun _ _ => rfl)) pa_nil)) pa_nil)) (pg_name (i := 5) sc__law_line.nd rfl (Or.inl rfl))
        (pss_one (ps_set (i := 4) sc__law_line.nd rfl (Or.inl rfl) (pe_op op_cat (pv 4) (pe_c c__law_line hr (by omega) rfl (pa_cons (pv 0) (pa_cons (pe_ix ix_tup (pe_ix ix_tup (pv 1) pe_int (fun _ _ => rfl)) (pv 5) (fun _ _ => rfl)) (pa_cons (pe_op op_catP (pv 2) (pe_tupP (pa_cons (pv 5) pa_nil))) (pa_cons (pv 3) pa_nil)))))))))
      (pss_one (ps_if (pt_cmpR (op_in_nd hr.units) (pv 2) (pv 3) (by with_unfolding_all rfl))
        (pss_cons (ps_set (i := 6) sc__law_line.nd rfl (Or.inl rfl) (pe_c c__law_row hr (by omega) rfl (pa_cons (pv 0) (pa_cons (pe_ix (ix_nd hr.units) (pv 3) (pv 2) (fun _ _ => rfl)) pa_nil))))
        (pss_cons (ps_set (i := 7) sc__law_line.nd rfl (Or.inl rfl) (pe_bm PySem.F.plainAttrs_list PySem.F.slot_list_index PySem.F.type_list_index mt_index (pv 6) (pa_cons pe_str pa_nil)))
        (pss_one (ps_set (i := 4) sc__law_line.nd rfl (Or.inl rfl) (pe_op op_cat (pe_op op_cat (pe_slice sl_list (pv 6) po_none (po_some (pv 7))) (pv 4)) (pe_slice sl_list (pv 6) (po_some (pe_op op_add (pv 7) pe_int)) po_none))))))
        pss_nil)))
      pss_nil)
    (pss_one (ps_ret (pv 4)))))))), ?_⟩
  obtain ⟨R, ⟨bk, ad, ap, vt, vp, root, t, p, fl, left, m, rfl, hd, hf, ht, hp, G, hm, hm4, hth, hpl, hsz, hat, F, hss, rfl⟩, hQ⟩ := hq
  have m1 : ∀ b : Tr, Mono (IsV (encT b)) := fun _ => inferInstance
  have m2 : ∀ b : Plan, Mono (IsV (encPl b)) := fun _ => inferInstance
  have f5 := fill_rows5 G hm4 F
  -- what stands at a place
  have callRow : ∀ (σ' : L2.St) (H' : Hp) (q : Plan), Ex H H' → σ'[0]? = some (some (V.ref ad)) → σ'[2]? = some (some vp) → σ'[3]? = some (some (V.ref ap)) → getA (toL fl) p = some q → Gv (tCall (SpR (spRow w n)) [] E0 (tCons (tVar 0) (tCons (tOp (rIxD w) (tVar 3) (tVar 2)) tNil))) σ' H' (LsV (dStrs (rowP bk q))) := by
    intro σ' H' q e h0 h2 h3 hg
    obtain ⟨k, c, hq⟩ := fill_plan F hg
    refine gv_call (ga_cons (gv_ref h0) (ga_cons (gv_ixRd (RV := fun p => IsV (encPl p)) keyP m2 (gv_ref h3) (gv_var h2 (Is.mono e.tups _ _ hp)) (hf.ex m2 e) hg) ga_nil)) fun vs H1 e1 ra => ?_
    obtain ⟨_, _, rfl, rfl, _, _, rfl, r2, rfl⟩ := ra
    exact ⟨bk, ad, _, m, k, c, q, rfl, hd.ex m1 (e.trans e1), r2, G, hm, hm4, hq, rfl⟩
  refine sq (st_if (gt_tag (gv_var rfl ht)) (fun h1 H1 e1 => ?_) fun h1 H1 e1 => ?_)
  · have hk := of_decide_eq_true h1
    cases t with
    | sign x =>
      refine st_ret (R := LsV (dStrs (lineT (rowsF bk fl) (.sign x) p))) (gv_lst (ds := [.str x]) (gi_cons (gv_nm (t := .sign x) (gv_var rfl (Is.mono e1.tups _ _ ht)) (by simp only [tagT]; decide)) gi_nil)) fun v2 H2 e2 r2 => hQ v2 H2 (e1.trans e2) r2
    | _ => exact absurd hk (by simp only [tagT]; decide)
  · have n1 := of_decide_eq_false h1
    dsimp only [tNext]
    refine sq (st_if (gt_tag (gv_var rfl (Is.mono e1.tups _ _ ht))) (fun h2 H2 e2 => ?_) fun h2 H2 e2 => ?_)
    · have hk := of_decide_eq_true h2
      cases t with
      | foot x =>
        refine st_ret (R := LsV (dStrs (lineT (rowsF bk fl) (.foot x) p))) (gv_lsE (gv_lst (ds := [.str "*"]) (gi_cons gv_str gi_nil)) (by simp only [lineT]; rfl)) fun v2 H3 e3 r2 => hQ v2 H3 ((e1.trans e2).trans e3) r2
      | _ => exact absurd hk (by simp only [tagT]; decide)
    · have n2 := of_decide_eq_false h2
      have e02 := e1.trans e2
      dsimp only [tNext]
      refine sq (st_if (gt_tag (gv_var rfl (Is.mono e02.tups _ _ ht))) (fun h3 H3 e3 => ?_) fun h3 H3 e3 => ?_)
      · have hk := of_decide_eq_true h3
        cases t with
        | hole x =>
          have hs := hss ⟨p, false, x, true⟩ (by rw [sitesT]; exact List.mem_singleton.mpr rfl)
          rcases F.site _ hs with ⟨_, h⟩ | ⟨k, _, c, q, hq, hg⟩
          · cases h
          · have hg : getA (toL fl) p = some q := hg
            have el : lineT (rowsF bk fl) (.hole x) p = rowP bk q := by rw [lineT, rowsF_get, hg]; rfl
            rw [el] at hQ
            exact st_ret (callRow _ _ q (e02.trans e3) rfl rfl rfl hg) fun v2 H4 e4 r2 => hQ v2 H4 ((e02.trans e3).trans e4) r2
        | _ => exact absurd hk (by simp only [tagT]; decide)
      · have n3 := of_decide_eq_false h3
        have e03 := e02.trans e3
        dsimp only [tNext]
        refine sq (st_asg (R := LsV (dStrs [])) (gv_lst gi_nil) fun v1 H4 e4 r4 => ?_)
        have e04 := e03.trans e4
        dsimp only
        have ht4 := Is.mono e04.tups _ _ ht
        refine sq (st_if (gt_tag (gv_var rfl ht4)) (fun h5 H5 e5 => ?_) fun h5 H5 e5 => ?_)
        · have hk := of_decide_eq_true h5
          cases t with
          | knot nm tk ks =>
            have e05 := e04.trans e5
            have hszs : szTs ks ≤ 50 := by rw [szT] at hsz; omega
            have esit : sitesT (.knot nm tk ks) p = tkSite tk p ++ sitesTs ks p 0 := by rw [sitesT]
            refine sq (st_forR (n := ks.length) (gv_is (gv_lenT (gv_kids (t := .knot nm tk ks) (gv_var rfl (Is.mono e05.tups _ _ ht)) rfl)) (by simp [kidsT])) (by have := szTs_len ks; omega) fun H6 e6 => ?_)
            refine ⟨fun i σ' H' => (∃ y c5 c6 c7, σ' = [some (V.ref ad), some vt, some vp, some (V.ref ap), some y, c5, c6, c7] ∧ LsV (dStrs (lineTs (rowsF bk fl) (ks.take i) p 0)) H' y) ∧ Ex H H', ⟨⟨_, _, _, _, rfl, by rw [List.take_zero, lineTs]; exact Mono.mo (e5.trans e6) r4⟩, e05.trans e6⟩, ?_, ?_⟩
            · rintro i σ' H7 hi ⟨⟨y, c5, c6, c7, rfl, hy⟩, x1⟩
              obtain ⟨t1, t2⟩ := take_next hi
              have hd7 : ks[i] ∈ ks := List.getElem_mem hi
              have lz := szTs_pre t2
              have l1 := lines_len (rowsF bk fl) f5 (ks.take i) p 0
              have l2 := line_len (rowsF bk fl) f5 ks[i] (p ++ [i])
              refine st_asg (R := LsV (dStrs (lineTs (rowsF bk fl) (ks.take i) p 0) ++ dStrs (lineT (rowsF bk fl) ks[i] (p ++ [i])))) (gv_catL (gv_var rfl hy) (gv_call (ga_cons (gv_ref rfl) (ga_cons (R := IsV (encT ks[i])) (gv_ixT (i := Int.ofNat i) (gv_kids (t := .knot nm tk ks) (gv_var rfl (Is.mono x1.tups _ _ ht)) rfl) (gv_var rfl (Is.int _)) (atI_nat (by simp [kidsT, hi]))) (ga_cons (gv_pcat (gv_var rfl (Is.mono x1.tups _ _ hp)) (gv_var rfl (Is.int _)) (by omega)) (ga_cons (gv_ref rfl) ga_nil)))) fun vs H8 e8 ra => ?_) (by rw [List.length_map, List.length_map]; show _ ≤ 16777216; omega)) fun v8 H8 e8 r8 => ?_
              · obtain ⟨_, _, rfl, rfl, _, _, rfl, r2, _, _, rfl, r3, _, _, rfl, rfl, rfl⟩ := ra
                refine ⟨bk, ad, ap, _, _, root, ks[i], p ++ [i], fl, left, m, rfl, hd.ex m1 (x1.trans e8), hf.ex m2 (x1.trans e8), r2, r3, G, hm, hm4, by have := htTs_mem hd7; rw [htT] at hth; omega, by simp; omega, by omega, piece_kid hat (List.getElem?_eq_getElem hi), F, fun s hs => hss s ?_, rfl⟩
                rw [esit]
                refine List.mem_append_right _ ?_
                have el : (ks.take i).length = i := by rw [List.length_take]; omega
                rw [t2, sitesTs_app, sitesTs, el, Nat.zero_add]
                exact List.mem_append_right _ (List.mem_append_left _ hs)
              · refine ⟨⟨_, _, _, _, rfl, ?_⟩, x1.trans e8⟩
                rw [t1, lineTs_app, lineTs, lineTs, List.append_nil]
                have el : (ks.take i).length = i := by rw [List.length_take]; omega
                rw [el, Nat.zero_add]
                simpa [dStrs] using r8
            · rintro σ' H7 ⟨⟨y, c5, c6, c7, rfl, hy⟩, x1⟩
              rw [List.take_length] at hy
              dsimp only
              have l1 := lines_len (rowsF bk fl) f5 ks p 0
              refine sq (st_if ((gt_inRd keyP m2 (gv_var rfl (Is.mono x1.tups _ _ hp)) (gv_ref rfl) (hf.ex m2 x1))) (fun h8 H8 e8 => ?_) fun h8 H8 e8 => ?_)
              · cases hg : getA (toL fl) p with
                | none => rw [hg] at h8; cases h8
                | some q =>
                  have x2 := x1.trans e8
                  obtain ⟨k, c, hq⟩ := fill_plan F hg
                  have hfr : rowsF bk fl p = some (rowP bk q) := by rw [rowsF_get, hg]; rfl
                  have l5 := f5 p _ hfr
                  have hst : star ∈ rowP bk q := by
                    cases tk with
                    | none =>
                      have := bare_of F p _ _ hat
                      rw [this] at hfr; cases hfr
                    | some gb =>
                      obtain ⟨g, b⟩ := gb
                      have hs := hss ⟨p, true, g, b⟩ (by rw [esit]; exact List.mem_append_left _ (by simp [tkSite]))
                      rcases F.site _ hs with ⟨h, _⟩ | ⟨k', hk', c', q', hq', hg'⟩
                      · have h : getA (toL fl) p = none := h
                        rw [h] at hg; cases hg
                      · have hg' : getA (toL fl) p = some q' := hg'
                        rw [hg] at hg'
                        cases hg'
                        obtain ⟨t2, h3, h4⟩ := calledL_inv hk'
                        have h4 : feetT t2 = [g] := by simpa using h4
                        have hB := row_B G.sg G.ok.nd m hq' t2 h3
                        have hn := ((B_count G.sg).1 hB (G.sg _ h3)).1
                        rw [h4] at hn
                        rw [star_split (L := rowP bk q) (by rw [hn]; exact Nat.one_pos)]
                        simp
                  refine sq (st_asg (R := LsV (dStrs (rowP bk q))) (callRow _ _ q x2 rfl rfl rfl hg) fun v9 H9 e9 r9 => ?_)
                  dsimp only
                  refine sq (st_asg (R := IsV (.int (Int.ofNat (posL star (rowP bk q))))) (gv_indexS (gv_var rfl r9) gv_str hst) fun v10 H10 e10 r10 => ?_)
                  dsimp only
                  have r9' := Mono.mo e10 r9
                  have hps := pos_lt hst
                  have hlen : (dStrs (rowP bk q)).length = (rowP bk q).length := List.length_map _
                  have hlen2 : (dStrs (lineTs (rowsF bk fl) ks p 0)).length = (lineTs (rowsF bk fl) ks p 0).length := List.length_map _
                  have hmin := Nat.min_le_left (posL star (rowP bk q)) (rowP bk q).length
                  refine st_asg (R := LsV (dStrs (lineT (rowsF bk fl) (.knot nm tk ks) p))) (gv_lsE (gv_catL (gv_catL (gv_slL (lo := none) (hi := some (Int.ofNat (posL star (rowP bk q)))) (gv_var (R := LsV (dStrs (rowP bk q))) rfl r9') go_none (go_some (gv_var rfl r10))) (gv_var (R := LsV (dStrs (lineTs (rowsF bk fl) ks p 0))) rfl (Mono.mo ((e8.trans e9).trans e10) hy)) ?_) (gv_slL (lo := some (Int.ofNat (posL star (rowP bk q) + 1))) (hi := none) (gv_var (R := LsV (dStrs (rowP bk q))) rfl r9') (go_some (gv_is (gv_add (gv_var rfl r10) gv_int) rfl)) go_none) ?_) ?_) fun v11 H11 e11 r11 => ?_
                  · rw [cutD_take _ (by omega), List.length_take, hlen, hlen2]; show _ ≤ 16777216; omega
                  · rw [cutD_take _ (by omega), cutD_drop _ (by omega), List.length_append, List.length_take, List.length_drop, hlen, hlen2]; show _ ≤ 16777216; omega
                  · rw [cutD_take _ (by omega), cutD_drop _ (by omega), lineT, hfr]
                    show _ = dStrs (wrapL (rowP bk q) (lineTs (rowsF bk fl) ks p 0))
                    unfold wrapL
                    rw [← take_pos, ← drop_pos]
                    simp only [dStrs, List.map_append, List.map_take, List.map_drop]
                  · exact st_ret (gv_var rfl r11) fun v2 H12 e12 r12 => hQ v2 H12 (((x2.trans e9).trans e10).trans (e11.trans e12)) r12
              · have hfn : rowsF bk fl p = none := by
                  rw [rowsF_get]
                  cases hg : getA (toL fl) p with
                  | none => rfl
                  | some q => rw [hg] at h8; cases h8
                have el : lineT (rowsF bk fl) (.knot nm tk ks) p = lineTs (rowsF bk fl) ks p 0 := by rw [lineT, hfn]
                rw [el] at hQ
                dsimp only [tNext]
                exact st_ret (gv_var rfl (Mono.mo e8 hy)) fun v2 H9 e9 r9 => hQ v2 H9 ((x1.trans e8).trans e9) r9
          | _ => exact absurd hk (by simp only [tagT]; decide)
        · have n5 := of_decide_eq_false h5
          dsimp only [tNext]
          have el : lineT (rowsF bk fl) t p = [] := by
            cases t with
            | sign x => exact absurd rfl n1
            | foot x => exact absurd rfl n2
            | hole x => exact absurd rfl n3
            | knot a b c => exact absurd rfl n5
            | void => rw [lineT]
          rw [el] at hQ
          exact st_ret (gv_var rfl (Mono.mo e5 r4)) fun v2 H6 e6 r6 => hQ v2 H6 ((e04.trans e5).trans e6) r6
theorem w_row_step (T : Txt K mg CG CC) (n h L : Nat) (hh : 8 ≤ h) (hL : h ≤ 1000) (c__law_line : Cal P w K mg base (L + 1 + h) "_law_line" (SpR (spLine w n h))) : Cal P w K mg base (L + 1 + h + 1) "_law_row" (SpR (spRow w (n + 1))) := by
  refine cal_of T.d_law_row sc__law_row b__law_row (fun vs H Q E ⟨R, ⟨_, _, _, _, _, _, _, e, _⟩, _⟩ => by rw [e]; rfl) fun f cdv A outer s H vs Q E hr hq => ?_
  refine ⟨_, (pss_one (ps_ret (pe_c c__law_line hr (by omega) rfl (pa_cons (pv 0) (pa_cons (pe_ix (ix_nd hr.units) (pv 0) (pe_ix ix_tup (pv 1) pe_int (fun _ _ => rfl)) (fun _ _ => rfl)) (pa_cons (pe_tupP pa_nil) (pa_cons (pe_callTy (cr_dictP hr.units rfl) rfl (T.fr "dict" (by decide)) (by decide +kernel) (pa_cons (pe_ix ix_tup (pv 1) pe_int (fun _ _ => rfl)) pa_nil)) pa_nil))))))), ?_⟩
  obtain ⟨R, ⟨bk, ad, vp, m, k, c, p, rfl, hd, hp, G, hm, hm4, hpm, rfl⟩, hQ⟩ := hq
  obtain ⟨m', t, fl, hm', rfl, P⟩ := plan_inv hpm
  have hg := getA_of_mem G.ok.nd P.mem
  have eP : encPl (.mk k fl) = .tuple [.str k, .tuple (encFl fl)] := by rw [encPl]
  have eF : encFl fl = (toL fl).map fun x => .tuple [encP x.1, encPl x.2] := encFl_toL fl
  have er : rowP bk (.mk k fl) = lineT (rowsF bk fl) t [] := by rw [rowP, hg]
  rw [er] at hQ
  have hpl : Gv (tVar 1) [some (V.ref ad), some vp] H (IsV (.tuple [.str k, .tuple (encFl fl)])) := gv_is (gv_var rfl hp) eP
  refine st_ret (R := LsV (dStrs (lineT (rowsF bk fl) t []))) (gv_call (ga_cons (gv_ref rfl) (ga_cons (gv_ixRd (RV := fun t => IsV (encT t)) keyS (fun _ => inferInstance) (gv_ref rfl) (gv_ixT hpl gv_int rfl) hd hg) (ga_cons (R := IsV (encP [])) (gv_tup gi_nil) (ga_cons (R := PutV w fl) (gv_imp (gv_dictP (f := encPl) (l := toL fl) keyP (gv_is (gv_ixT (d := .tuple (encFl fl)) hpl gv_int rfl) (by rw [eF])) P.ff.nd) fun H1 v _ ⟨q, e, _, r⟩ => ⟨q, e, r⟩) ga_nil)))) fun vs H1 e1 ra => ?_) fun v H1 e r => hQ v H1 e r
  obtain ⟨_, _, rfl, rfl, _, _, rfl, r2, _, _, rfl, r3, _, _, rfl, ⟨q, rfl, r4⟩, rfl⟩ := ra
  exact ⟨bk, ad, q, _, _, t, t, [], fl, _, m', rfl, hd.ex (fun _ => inferInstance) e1, r4, r2, r3, G, by omega, by omega, Nat.lt_of_lt_of_le (G.ok.ok _ P.mem).1 hh, by simpa using hL, G.sz _ P.mem, rfl, P.ff, fun s hs => hs, rfl⟩
theorem w_lineAll (T : Txt K mg CG CC) (n L : Nat) (c__law_row : Cal P w K mg base L "_law_row" (SpR (spRow w n))) : ∀ h, Cal P w K mg base (L + 1 + h) "_law_line" (SpR (spLine w n h))
  | 0 => cal_none (L + 1) (fun vs H Q E ⟨R, ⟨_, _, _, _, _, _, _, _, _, _, _, _, _, _, _, _, _, _, _, h, _⟩, _⟩ => by omega) T.d_law_line b__law_line
  | h + 1 => w_line_step T n h L c__law_row (w_lineAll T n L c__law_row h)
theorem w_row (T : Txt K mg CG CC) : ∀ n, Cal P w K mg base (10 * n + 1) "_law_row" (SpR (spRow w n))
  | 0 => cal_none 1 (fun vs H Q E ⟨R, ⟨_, _, _, _, _, _, _, _, _, _, _, h, _⟩, _⟩ => by omega) T.d_law_row b__law_row
  | n + 1 => w_row_step T n 8 (10 * n + 1) (Nat.le_refl _) (by decide) (w_lineAll T n (10 * n + 1) (w_row T n) 8)
end
end K31

namespace K31
open PySem PySem.Spec PyProof.Rows L2 NK Evl
/-! where a line lies on the row -/
def atR (row : List Str) (i n : Nat) : List Str := (row.drop i).take n
def strN (row L : List Str) (i : Nat) : List En := if atR row i L.length = L then [⟨i, none, i + L.length⟩] else []
def strS (row l r : List Str) (i m : Nat) : List En := if atR row i l.length = l ∧ atR row (i + l.length + m) r.length = r then [⟨i, some (i + l.length, i + l.length + m), i + l.length + m + r.length⟩] else []
def strI (row l r : List Str) (i : Nat) : List En := (List.range (row.length + 1 - (i + l.length))).flatMap (strS row l r i)
def strL (row L : List Str) : List En := if star ∈ L then (List.range (row.length + 1)).flatMap (strI row (L.takeWhile fun x => decide (x ≠ star)) (L.dropWhile fun x => decide (x ≠ star)).tail) else (List.range (row.length + 1 - L.length)).flatMap (strN row L)
theorem strN_len (row L : List Str) (i : Nat) : (strN row L i).length ≤ 1 := by unfold strN; split <;> simp
theorem strS_len (row l r : List Str) (i m : Nat) : (strS row l r i m).length ≤ 1 := by unfold strS; split <;> simp
theorem strI_len (row l r : List Str) (i : Nat) : (strI row l r i).length ≤ row.length + 1 := by
  have := flat_len (l := []) (pre := List.range (row.length + 1 - (i + l.length))) (n := 1) (f := strS row l r i) fun x _ => strS_len row l r i x
  unfold strI
  rw [List.length_range] at this
  omega
theorem cutD_mid (xs : List PyData) (i n : Nat) : cutD xs (some (Int.ofNat i)) (some (Int.ofNat (i + n))) = (xs.drop i).take n := by
  unfold cutD
  have e1 : HT.sIx xs.length 0 (some (Int.ofNat i)) = min i xs.length := HT.sIx_nat xs.length 0 i
  have e2 : HT.sIx xs.length xs.length (some (Int.ofNat (i + n))) = min (i + n) xs.length := HT.sIx_nat xs.length xs.length (i + n)
  rw [e1, e2]
  by_cases h : i ≤ xs.length
  · rw [Nat.min_eq_left h]
    by_cases h2 : i + n ≤ xs.length
    · rw [Nat.min_eq_left h2, show i + n - i = n by omega]
    · rw [Nat.min_eq_right (by omega), List.take_of_length_le (by rw [List.length_drop]; exact Nat.le_refl _), List.take_of_length_le (by rw [List.length_drop]; omega)]
  · rw [List.drop_of_length_le (show xs.length ≤ min i xs.length by omega), List.drop_of_length_le (show xs.length ≤ i by omega)]
    simp
theorem dStrs_mid (row : List Str) (i n : Nat) : ((dStrs row).drop i).take n = dStrs (atR row i n) := by
  unfold atR dStrs
  rw [List.map_take, List.map_drop]
section
variable {P : Program} {w : World} {K : PySem.W.Frag} {mg : Str → Option Value} {base : Heap} {CG CC : Addr}
section
variable {σ : L2.St} {H : Hp} {ta tb te : TE} {D : Ends} {g : TG} {tl : TI} {tbd : TS}
abbrev rListOf (K : PySem.W.Frag) : List V → Hp → VK → Prop := fun xs H Q => ∃ p ys, xs = [.ref p] ∧ (SqL K H p ys ∨ SqT K H p ys) ∧ ∀ l, H l = none → Q (.ref l) (upd H l (.lst ys))
theorem gv_listT {ds : List PyData} (h : Gv ta σ H (IsV (.tuple ds))) : Gv (tCB (rListOf K) (tCons ta tNil)) σ H (LsV ds) := fun H1 e1 Q q =>
  h H1 e1 _ fun v H2 e2 r => by
    obtain ⟨a, xs, rfl, pt, al⟩ := r.tup_inv
    exact ⟨a, xs, rfl, .inr pt.sq, fun l nl => q _ _ (e2.trans (Ex.new nl)) ⟨l, xs, rfl, upd_same, IsAll.mono (Tups.new nl) _ _ al⟩⟩
theorem inV_strs (x : Str) : ∀ l : List Str, inV (.str x) (l.map V.str) = decide (x ∈ l)
  | [] => rfl
  | a :: l => by
    have ih := inV_strs x l
    unfold inV at ih ⊢
    rw [List.map_cons, List.any_cons, ih]
    by_cases h : a = x
    · subst h; simp [eqV]
    · have h' : ¬ x = a := fun e => h e.symm
      simp [eqV, h, h']
theorem gv_notinS {l : List Str} {x : Str} (hx : Gv ta σ H (IsV (.str x))) (hl : Gv tb σ H (LsV (dStrs l))) : Gv (tOp (rIn K true) ta tb) σ H (IsV (.bool (!decide (x ∈ l)))) := fun H1 e1 Q q =>
  hx H1 e1 _ fun v H2 e2 r => hl H2 (e1.trans e2) _ fun y H3 e3 ry => by
    obtain ⟨a, xs, rfl, pt, al⟩ := ry
    have ex := strs_flat al
    subst ex
    rw [r.str_inv]
    refine ⟨a, _, rfl, .inl (sq_of pt), rfl, by rw [List.all_map]; exact List.all_eq_true.mpr fun _ _ => rfl, q _ _ (e2.trans e3) ?_⟩
    rw [if_pos rfl, inV_strs]
    exact .bl _
theorem st_forRz {te : TE} {i : Int} {n : Nat} (h : Gv te σ H (IsV (.int i))) (hi : -(2 ^ 62) ≤ i ∧ i < 2 ^ 62) (en : i.toNat = n) (k : ∀ H1, Ex H H1 → ∃ Iv : Nat → L2.St → Hp → Prop, Iv 0 σ H1 ∧
      (∀ i σ' H', i < n → Iv i σ' H' → g (.int (Int.ofNat i)) σ' H' fun σ2 H2 => tbd { D with nx := Iv (i + 1), ct := Iv (i + 1), bk := D.nx } σ2 H2) ∧ ∀ σ' H', Iv n σ' H' → D.nx σ' H') :
    tFor (iRng1 (tCons te tNil)) g tbd D σ H := h H (Ex.refl _) _ fun v H1 e r => by
  obtain ⟨Iv, h0, hs, hd⟩ := k H1 e
  rw [r.int_inv]
  refine ⟨i, rfl, hi.1, hi.2, ?_⟩
  rw [en]
  refine for_range (lo := 0) Iv h0 (fun i σ' H' hi iv => ?_) hd
  rw [Int.zero_add]
  exact hs i σ' H' hi iv
end
/-- a heap without one place -/
def hide (p : Addr) (H : Hp) : Hp := fun a => if a = p then none else H a
theorem hide_none {p : Addr} {H : Hp} : hide p H p = none := if_pos rfl
theorem hide_ex {p : Addr} {H : Hp} : Ex (hide p H) H := fun a o h => by
  unfold hide at h
  split at h
  · cases h
  · exact h
theorem ex_hide {p : Addr} {H H' : Hp} (e : Ex H H') (n : H p = none) : Ex H (hide p H') := fun a o h => by
  unfold hide
  rw [if_neg (fun z => by rw [z, n] at h; cases h)]
  exact e _ _ h
theorem isAll_strs {H : Hp} : ∀ l : List Str, IsAll H (dStrs l) (l.map V.str)
  | [] => .nil
  | a :: l => .cons (.str a) (isAll_strs l)
theorem hide_ls {p : Addr} {H H0 : Hp} {l : List Str} {v : V} (h : FrV H0 (dStrs l) H v) (n : H0 p ≠ none) : LsV (dStrs l) (hide p H) v := by
  obtain ⟨q, xs, rfl, nq, h1, h2⟩ := h
  have e := strs_flat h2
  subst e
  refine ⟨q, _, rfl, ?_, isAll_strs l⟩
  show (if q = p then none else H q) = _
  rw [if_neg (fun z => n (by rw [← z]; exact nq))]
  exact h1
theorem gv_slLF {σ : L2.St} {H : Hp} {te : TE} {tl th : TO} {lo hi : Option Int} {ds : List PyData} (h : Gv te σ H (LsV ds)) (h1 : GvO tl σ H lo) (h2 : GvO th σ H hi) : Gv (tSl (rSlL K) te tl th) σ H (FrV H (cutD ds lo hi)) := fun H1 e1 Q q =>
  h H1 e1 _ fun v H2 e2 r => h1 H2 (e1.trans e2) _ fun H3 e3 => h2 H3 ((e1.trans e2).trans e3) _ fun H4 e4 => by
    obtain ⟨a, xs, rfl, pt, al⟩ := r
    have e5 := e3.trans e4
    have al' := IsAll.mono e5.tups _ _ al
    exact ⟨a, xs, rfl, sq_of (e5 _ _ pt), fun p np => q _ _ ((e2.trans e5).trans (Ex.new np)) ⟨p, _, rfl, fresh_back (e1.trans (e2.trans e5)) np, upd_same, IsAll.mono (Tups.new np) _ _ al'.cut⟩⟩
theorem gv_frE {σ : L2.St} {H H0 : Hp} {te : TE} {ds ds' : List PyData} (h : Gv te σ H (FrV H0 ds)) (e : ds = ds') : Gv te σ H (FrV H0 ds') := by rw [← e]; exact h
/-- a list of our own that grows -/
def GrL (H : Hp) (p : Addr) (ds : List PyData) : Prop := ∃ xs, H p = some (.lst xs) ∧ IsAll H ds xs
theorem GrL.ex {H H' : Hp} {p : Addr} {ds : List PyData} (h : GrL H p ds) (e : Ex H H') : GrL H' p ds := by
  obtain ⟨xs, h1, h2⟩ := h
  exact ⟨xs, e _ _ h1, IsAll.mono e.tups _ _ h2⟩
theorem st_appG {σ : L2.St} {H H0 : Hp} {i : Nat} {te : TE} {D : Ends} {p : Addr} {ds : List PyData} {d : PyData} (hσ : σ[i]? = some (some (V.ref p))) (hg : GrL H p ds) (np : H0 p = none) (h : Gv te σ H (IsV d)) (hz : ds.length < sizeLine) (x : Ex H0 H) (k : ∀ H1, Ex H0 H1 → GrL H1 p (ds ++ [d]) → D.nx σ H1) : tDrop (tBM K "list" rAppend (tVar i) (tCons te tNil)) D σ H := by
  obtain ⟨xs, h1, h2⟩ := hg
  refine st_app (R := IsV d) h1 (ev_var hσ) h (by rw [h2.length]; exact hz) fun v H1 e r => ?_
  have t : Tups H1 (upd H1 p (.lst (xs ++ [v]))) := Tups.mut (mut_at (e _ _ h1))
  exact k _ (Ex.mut (x.trans e) np) ⟨_, upd_same, IsAll.append (IsAll.mono (e.tups.trans t) _ _ h2) (.cons (Is.mono t _ _ r) .nil)⟩
def spStr : List V → Hp → HR → Prop := fun vs H R => ∃ row L v1 v2, vs = [v1, v2] ∧ Is H (rowD row) v1 ∧ LsV (dStrs L) H v2 ∧ row.length ≤ 1000 ∧ L.length ≤ 1000 ∧ R = LsV ((strL row L).map encE)
theorem flat_succ {α : Type} (f : Nat → List α) (i : Nat) : (List.range (i + 1)).flatMap f = (List.range i).flatMap f ++ f i := by
  rw [List.range_succ, List.flatMap_append]; simp
theorem w_stretches (T : Txt K mg CG CC) : Cal P w K mg base 10 "_law_stretches" (SpR spStr) := by
  refine cal_of T.d_law_stretches sc__law_stretches b__law_stretches (fun vs H Q E ⟨R, ⟨_, _, _, _, e, _⟩, _⟩ => by rw [e]; rfl) fun f cdv A outer s H vs Q E hr hq => ?_
  refine ⟨_, (pss_cons (ps_set (i := 2) sc__law_stretches.nd rfl (Or.inl rfl) (pe_callB cr_len rfl (T.fr "len" (by decide)) (by decide +kernel) (pa_cons (pv 0) pa_nil)))
    (pss_cons (ps_set (i := 3) sc__law_stretches.nd rfl (Or.inl rfl) (pe_lst pa_nil))
    (pss_cons (ps_if (pt_cmpR op_notIn_seq pe_str (pv 1) (by with_unfolding_all rfl))
      (pss_cons (ps_for PassesOwn.never rfl (pi_range1 (by rfl) (T.fr "range" (by decide)) (pa_cons (pe_op op_add (pe_op op_sub (pv 2) (pe_callB cr_len rfl (T.fr "len" (by decide)) (by decide +kernel) (pa_cons (pv 1) pa_nil))) pe_int) pa_nil)) (pg_name (i := 4) sc__law_stretches.nd rfl (Or.inl rfl))
        (pss_one (ps_if (pt_cmpR (op_eqP hr.units) (pe_callTy call_list_of rfl (T.fr "list" (by decide)) (by decide +kernel) (pa_cons (pe_slice sl_tupP (pv 0) (po_some (pv 4)) (po_some (pe_op op_add (pv 4) (pe_callB cr_len rfl (T.fr "len" (by decide)) (by decide +kernel) (pa_cons (pv 1) pa_nil))))) pa_nil)) (pv 1) (nomark _))
          (pss_one (ps_expr (pe_bm PySem.F.plainAttrs_list PySem.F.slot_list_append PySem.F.type_list_append mt_append (pv 3) (pa_cons (pe_tupP (pa_cons (pv 4) (pa_cons (pe_un un_neg pe_int) (pa_cons (pe_un un_neg pe_int) (pa_cons (pe_op op_add (pv 4) (pe_callB cr_len rfl (T.fr "len" (by decide)) (by decide +kernel) (pa_cons (pv 1) pa_nil))) pa_nil))))) pa_nil))))
          pss_nil)))
      (pss_one (ps_ret (pv 3))))
      pss_nil)
    (pss_cons (ps_set (i := 5) sc__law_stretches.nd rfl (Or.inl rfl) (pe_bm PySem.F.plainAttrs_list PySem.F.slot_list_index PySem.F.type_list_index mt_index (pv 1) (pa_cons pe_str pa_nil)))
    (pss_cons (ps_set (i := 6) sc__law_stretches.nd rfl (Or.inl rfl) (pe_slice sl_list (pv 1) po_none (po_some (pv 5))))
    (pss_cons (ps_set (i := 7) sc__law_stretches.nd rfl (Or.inl rfl) (pe_slice sl_list (pv 1) (po_some (pe_op op_add (pv 5) pe_int)) po_none))
    (pss_cons (ps_for PassesOwn.never rfl (pi_range1 (by rfl) (T.fr "range" (by decide)) (pa_cons (pe_op op_add (pv 2) pe_int) pa_nil)) (pg_name (i := 4) sc__law_stretches.nd rfl (Or.inl rfl))
      (pss_cons (ps_set (i := 8) sc__law_stretches.nd rfl (Or.inl rfl) (pe_op op_add (pv 4) (pe_callB cr_len rfl (T.fr "len" (by decide)) (by decide +kernel) (pa_cons (pv 6) pa_nil))))
      (pss_one (ps_for PassesOwn.never rfl (pi_range2 (by rfl) (T.fr "range" (by decide)) (pa_cons (pv 8) (pa_cons (pe_op op_add (pv 2) pe_int) pa_nil))) (pg_name (i := 9) sc__law_stretches.nd rfl (Or.inl rfl))
        (pss_one (ps_if (PW.pt (pw_and (pt_cmpR (op_eqP hr.units) (pe_callTy call_list_of rfl (T.fr "list" (by decide)) (by decide +kernel) (pa_cons (pe_slice sl_tupP (pv 0) (po_some (pv 4)) (po_some (pv 8))) pa_nil)) (pv 6) (nomark _)) (pw_and1 (pt_cmpR (op_eqP hr.units) (pe_callTy call_list_of rfl (T.fr "list" (by decide)) (by decide +kernel) (pa_cons (pe_slice sl_tupP (pv 0) (po_some (pv 9)) (po_some (pe_op op_add (pv 9) (pe_callB cr_len rfl (T.fr "len" (by decide)) (by decide +kernel) (pa_cons (pv 7) pa_nil))))) pa_nil)) (pv 7) (nomark _)))))
          (pss_one (ps_expr (pe_bm PySem.F.plainAttrs_list PySem.F.slot_list_append PySem.F.type_list_append mt_append (pv 3) (pa_cons (pe_tupP (pa_cons (pv 4) (pa_cons (pv 8) (pa_cons (pv 9) (pa_cons (pe_op op_add (pv 9) (pe_callB cr_len rfl (T.fr "len" (by decide)) (by decide +kernel) (pa_cons (pv 7) pa_nil))) pa_nil))))) pa_nil))))
          pss_nil))))))
    (pss_one (ps_ret (pv 3)))))))))), ?_⟩
  obtain ⟨R, ⟨row, L, vr, vl, rfl, hrow, hL, lr, lL, rfl⟩, hQ⟩ := hq
  have eR : rowD row = .tuple (dStrs row) := rfl
  have hlr : (dStrs row).length = row.length := List.length_map _
  refine sq (st_asg (R := IsV (.int (Int.ofNat row.length))) (gv_is (gv_lenT (gv_is (gv_var rfl hrow) eR)) (by rw [hlr])) fun v2 H1 e1 r2 => ?_)
  rw [r2.int_inv]
  dsimp only
  refine sq (st_new0 fun fp nfp => ?_)
  have x2 := Ex.new (o := .lst []) nfp
  have g0 : GrL (upd H1 fp (.lst [])) fp [] := ⟨[], upd_same, .nil⟩
  have nf0 := fresh_back e1 nfp
  generalize upd H1 fp (.lst []) = H2 at x2 g0
  have e02 := e1.trans x2
  dsimp only
  -- the parts of the row
  have part : ∀ {σ' : L2.St} {H' : Hp} {ti tj : TE} {i n : Nat}, σ'[0]? = some (some vr) → Ex H H' → Gv ti σ' H' (IsV (.int (Int.ofNat i))) → Gv tj σ' H' (IsV (.int (Int.ofNat (i + n)))) → Gv (tCB (rListOf K) (tCons (tSl (rSlP K) (tVar 0) (tPart ti) (tPart tj)) tNil)) σ' H' (LsV (dStrs (atR row i n))) := by
    intro σ' H' ti tj i n h0 e hi hj
    refine gv_lsE (gv_listT (gv_slT (gv_is (gv_var h0 (Is.mono e.tups _ _ hrow)) eR) (go_some hi) (go_some hj))) ?_
    rw [cutD_mid, dStrs_mid]
  refine sq (st_if (gt_test (gv_notinS (x := star) gv_str (gv_var rfl (Mono.mo e02 hL)))) (fun h H3 e3 => ?_) fun h H3 e3 => ?_)
  · have hs : ¬ star ∈ L := by simpa using h
    have e03 := e02.trans e3
    have eS : strL row L = (List.range (row.length + 1 - L.length)).flatMap (strN row L) := if_neg hs
    refine sq (st_forRz (i := Int.ofNat row.length - Int.ofNat L.length + 1) (n := row.length + 1 - L.length) (gv_add (gv_sub (gv_var rfl (Is.int _)) (gv_lenS (gv_var rfl (Mono.mo e03 hL)))) gv_int) ⟨by simp; omega, by simp; omega⟩ (by simp; omega) fun H4 e4 => ?_)
    refine ⟨fun i σ' H' => (∃ c4 c5 c6 c7 c8 c9, σ' = [some vr, some vl, some (nI row.length), some (.ref fp), c4, c5, c6, c7, c8, c9]) ∧ Ex H H' ∧ GrL H' fp (((List.range i).flatMap (strN row L)).map encE), ⟨⟨_, _, _, _, _, _, rfl⟩, e03.trans e4, g0.ex (e3.trans e4)⟩, ?_, ?_⟩
    · rintro i σ' H5 hi ⟨⟨c4, c5, c6, c7, c8, c9, rfl⟩, x1, hg⟩
      have hll : ∀ {σ' : L2.St} {H' : Hp}, σ'[4]? = some (some (nI i)) → σ'[1]? = some (some vl) → Ex H H' → Gv (tOp (rI0 fun i j => .int (i + j)) (tVar 4) (tCB (rLn K) (tCons (tVar 1) tNil))) σ' H' (IsV (.int (Int.ofNat (i + L.length)))) := fun h4 h1 e => gv_is (gv_add (gv_var h4 (Is.int (Int.ofNat i))) (gv_lenS (gv_var h1 (Mono.mo e hL)))) rfl
      have hlen := flat_len (l := []) (pre := List.range i) (n := 1) (f := strN row L) fun x _ => strN_len row L x
      rw [List.length_range] at hlen
      refine st_if (gt_test (gt_eqL (part rfl x1 (gv_var rfl (Is.int (Int.ofNat i))) (hll rfl rfl x1)) (gv_var rfl (Mono.mo x1 hL)))) (fun h5 H6 e6 => ?_) fun h5 H6 e6 => ?_
      · have h5 := of_decide_eq_true h5
        refine st_appG (d := encE ⟨i, none, i + L.length⟩) rfl (hg.ex e6) nf0 (gv_is (gv_tup (gi_cons (gv_var rfl (Is.int (Int.ofNat i))) (gi_cons (gv_neg gv_int) (gi_cons (gv_neg gv_int) (gi_cons (hll rfl rfl (x1.trans e6)) gi_nil))))) rfl) (by rw [List.length_map]; show _ < 16777216; omega) (x1.trans e6) fun H7 x7 g7 => ⟨⟨_, _, _, _, _, _, rfl⟩, x7, ?_⟩
        rw [flat_succ, List.map_append]
        have : strN row L i = [⟨i, none, i + L.length⟩] := if_pos h5
        rw [this]
        exact g7
      · have h5 := of_decide_eq_false h5
        refine ⟨⟨_, _, _, _, _, _, rfl⟩, x1.trans e6, ?_⟩
        rw [flat_succ, List.map_append]
        have : strN row L i = [] := if_neg h5
        rw [this]
        simpa using hg.ex e6
    · rintro σ' H5 ⟨⟨c4, c5, c6, c7, c8, c9, rfl⟩, x1, xs, g1, g2⟩
      rw [eS] at hQ
      exact st_ret (gv_var rfl ⟨fp, xs, rfl, g1, g2⟩) fun v H6 e6 r6 => hQ v H6 (x1.trans e6) r6
  · have hs : star ∈ L := by simpa using h
    have e03 := e02.trans e3
    dsimp only [tNext]
    have hps := pos_lt hs
    have hlL : (dStrs L).length = L.length := List.length_map _
    generalize hl : (L.takeWhile fun x => decide (x ≠ star)) = l
    generalize hr2 : (L.dropWhile fun x => decide (x ≠ star)).tail = r
    have el : l = L.take (posL star L) := by rw [take_pos, hl]
    have er : r = L.drop (posL star L + 1) := by rw [drop_pos, hr2]
    have ll : l.length ≤ 1000 := by rw [el, List.length_take]; omega
    have lr2 : r.length ≤ 1000 := by rw [er, List.length_drop]; omega
    refine sq (st_asg (R := IsV (.int (Int.ofNat (posL star L)))) (gv_indexS (gv_var rfl (Mono.mo e03 hL)) gv_str hs) fun v5 H4 e4 r5 => ?_)
    have e04 := e03.trans e4
    dsimp only
    refine sq (st_asg (R := FrV H4 (dStrs l)) (gv_frE (gv_slLF (lo := none) (hi := some (Int.ofNat (posL star L))) (gv_var rfl (Mono.mo e04 hL)) go_none (go_some (gv_var rfl r5))) (by rw [cutD_take _ (by omega), el]; simp only [dStrs, List.map_take])) fun v6 H5 e5 r6 => ?_)
    dsimp only
    have e05 := e04.trans e5
    refine sq (st_asg (R := FrV H5 (dStrs r)) (gv_frE (gv_slLF (lo := some (Int.ofNat (posL star L + 1))) (hi := none) (gv_var rfl (Mono.mo e05 hL)) (go_some (gv_is (gv_add (gv_var rfl (Is.mono e5.tups _ _ r5)) gv_int) rfl)) go_none) (by rw [cutD_drop _ (by omega), er]; simp only [dStrs, List.map_drop])) fun v7 H6 e6 r7 => ?_)
    dsimp only
    have e06 := e05.trans e6
    have g4 := g0.ex (e3.trans e4)
    have n4 : H4 fp ≠ none := by obtain ⟨_, h, _⟩ := g4; rw [h]; simp
    have n5 : H5 fp ≠ none := by obtain ⟨_, h, _⟩ := g4.ex e5; rw [h]; simp
    have r6' := hide_ls (p := fp) (Mono.mo e6 r6) n4
    have r7' := hide_ls (p := fp) r7 n5
    have eh : Ex H (hide fp H6) := ex_hide e06 nf0
    have nh : hide fp H6 fp = none := hide_none
    have eS : strL row L = (List.range (row.length + 1)).flatMap (strI row l r) := by rw [← hl, ← hr2]; exact if_pos hs
    refine sq (st_forR (n := row.length + 1) (gv_is (gv_add (gv_var rfl (Is.int (Int.ofNat row.length))) gv_int) rfl) (by omega) fun H7 e7 => ?_)
    refine ⟨fun i σ' H' => (∃ c4 c8 c9, σ' = [some vr, some vl, some (nI row.length), some (.ref fp), c4, some v5, some v6, some v7, c8, c9]) ∧ Ex (hide fp H6) H' ∧ GrL H' fp (((List.range i).flatMap (strI row l r)).map encE), ⟨⟨_, _, _, rfl⟩, hide_ex.trans e7, g0.ex (((e3.trans e4).trans (e5.trans e6)).trans e7)⟩, ?_, ?_⟩
    · rintro i σ' H8 hi ⟨⟨c4, c8, c9, rfl⟩, x1, hg⟩
      have hlen := flat_len (l := []) (pre := List.range i) (n := row.length + 1) (f := strI row l r) fun x _ => strI_len row l r x
      rw [List.length_range] at hlen
      have hlen1 : i * (row.length + 1) ≤ 1001 * 1001 := Nat.mul_le_mul (by omega) (by omega)
      refine sq (st_asg (R := IsV (.int (Int.ofNat (i + l.length)))) (gv_is (gv_add (gv_var rfl (Is.int (Int.ofNat i))) (gv_lenS (gv_var rfl (Mono.mo x1 r6')))) rfl) fun v8 H9 e9 r8 => ?_)
      rw [r8.int_inv]
      dsimp only
      refine st_forR2 (m := i + l.length) (n := row.length + 1) (gv_var rfl (Is.int _)) (gv_is (gv_add (gv_var rfl (Is.int (Int.ofNat row.length))) gv_int) rfl) (by omega) (by omega) fun H10 e10 => ?_
      refine ⟨fun m σ' H' => (∃ c9, σ' = [some vr, some vl, some (nI row.length), some (.ref fp), some (nI i), some v5, some v6, some v7, some (nI (i + l.length)), c9]) ∧ Ex (hide fp H6) H' ∧ GrL H' fp (((List.range i).flatMap (strI row l r)).map encE ++ ((List.range m).flatMap (strS row l r i)).map encE), ⟨⟨_, rfl⟩, x1.trans (e9.trans e10), by simpa using hg.ex (e9.trans e10)⟩, ?_, ?_⟩
      · rintro m σ' H11 hm ⟨⟨c9, rfl⟩, y1, hg1⟩
        have hlen2 := flat_len (l := []) (pre := List.range m) (n := 1) (f := strS row l r i) fun x _ => strS_len row l r i x
        rw [List.length_range] at hlen2
        have y0 := eh.trans y1
        have hkk : ∀ {σ' : L2.St} {H' : Hp}, σ'[9]? = some (some (nI (i + l.length + m))) → σ'[7]? = some (some v7) → Ex (hide fp H6) H' → Gv (tOp (rI0 fun i j => .int (i + j)) (tVar 9) (tCB (rLn K) (tCons (tVar 7) tNil))) σ' H' (IsV (.int (Int.ofNat (i + l.length + m + r.length)))) := fun h9 h7 e => gv_is (gv_add (gv_var h9 (Is.int (Int.ofNat (i + l.length + m)))) (gv_lenS (gv_var h7 (Mono.mo e r7')))) rfl
        refine st_if (et_and (gt_test (gt_eqL (part rfl y0 (gv_var rfl (Is.int (Int.ofNat i))) (gv_var rfl (Is.int (Int.ofNat (i + l.length))))) (gv_var rfl (Mono.mo y1 r6')))) fun _ => gt_test (gt_eqL (part rfl y0 (gv_var rfl (Is.int (Int.ofNat (i + l.length + m)))) (hkk rfl rfl y1)) (gv_var rfl (Mono.mo y1 r7')))) (fun h5 H12 e12 => ?_) fun h5 H12 e12 => ?_
        · have h5 : atR row i l.length = l ∧ atR row (i + l.length + m) r.length = r := by simpa using h5
          refine st_appG (d := encE ⟨i, some (i + l.length, i + l.length + m), i + l.length + m + r.length⟩) rfl (hg1.ex e12) (H0 := hide fp H6) nh (gv_is (gv_tup (gi_cons (gv_var rfl (Is.int (Int.ofNat i))) (gi_cons (gv_var rfl (Is.int (Int.ofNat (i + l.length)))) (gi_cons (gv_var rfl (Is.int (Int.ofNat (i + l.length + m)))) (gi_cons (hkk rfl rfl (y1.trans e12)) gi_nil))))) rfl) (by rw [List.length_append, List.length_map, List.length_map]; show _ < 16777216; omega) (y1.trans e12) fun H13 x13 g13 => ⟨⟨_, rfl⟩, x13, ?_⟩
          · rw [flat_succ, List.map_append, ← List.append_assoc]
            have : strS row l r i m = [⟨i, some (i + l.length, i + l.length + m), i + l.length + m + r.length⟩] := if_pos h5
            rw [this]
            exact g13
        · have h5 : ¬ (atR row i l.length = l ∧ atR row (i + l.length + m) r.length = r) := by simpa using h5
          refine ⟨⟨_, rfl⟩, y1.trans e12, ?_⟩
          rw [flat_succ, List.map_append]
          have : strS row l r i m = [] := if_neg h5
          rw [this]
          simpa using hg1.ex e12
      · rintro σ' H11 ⟨⟨c9, rfl⟩, y1, hg1⟩
        refine ⟨⟨_, _, _, rfl⟩, y1, ?_⟩
        rw [flat_succ, List.map_append]
        exact hg1
    · rintro σ' H8 ⟨⟨c4, c8, c9, rfl⟩, x1, xs, g1, g2⟩
      rw [eS] at hQ
      exact st_ret (gv_var rfl ⟨fp, xs, rfl, g1, g2⟩) fun v H9 e9 r9 => hQ v H9 ((eh.trans x1).trans e9) r9
end
end K31

namespace K31
open PySem PySem.Spec PyProof.Rows L2 NK Evl
theorem keysOf_strs : ∀ {l m : List Str}, keysOf (dStrs l) = keysOf (dStrs m) → l = m
  | [], [], _ => rfl
  | [], _ :: _, h => by simp [dStrs, keysOf] at h
  | _ :: _, [], h => by simp [dStrs, keysOf] at h
  | a :: l, b :: m, h => by
    simp only [dStrs, List.map_cons, keysOf, List.cons.injEq] at h
    have h1 : a = b := by simpa [keyDa] using h.1
    rw [h1, keysOf_strs h.2]
theorem depth_keys : ∀ l : List Str, NestedKey.depthAll (keysOf (dStrs l)) ≤ 1
  | [] => by simp [dStrs, keysOf, NestedKey.depthAll]
  | a :: l => by
    have := depth_keys l
    simp only [dStrs, List.map_cons, keysOf, NestedKey.depthAll, keyDa, NestedKey.depth] at this ⊢
    omega
theorem keyRow : KeyE rowD := ⟨fun a b h => by
  simp only [rowD, keyDa, NestedKey.tup.injEq] at h
  exact keysOf_strs h, fun a => by
  have := depth_keys a
  simp only [rowD, keyDa, NestedKey.depth]
  omega⟩
section
variable {P : Program} {w : World} {K : PySem.W.Frag} {mg : Str → Option Value} {base : Heap} {CG CC : Addr}
theorem gv_getP {κ : Type} [DecidableEq κ] {enc : κ → PyData} {σ : L2.St} {H : Hp} {td ty : TE} {a : Addr} {l : List (κ × List Plan)} {k : κ} (hk : KeyE enc) (hd : Gv td σ H (EqV (.ref a))) (hy : Gv ty σ H (IsV (enc k))) (h : TAtR enc LsP w H a l) : Gv (tDGetOr w td ty (tLst tNil)) σ H (LsP ((getA l k).getD [])) := by
  cases hg : getA l k with
  | some b =>
    obtain ⟨vl, v, d, hv, r⟩ := h.get hg
    exact gv_val (gv_get hk hd hy (gv_lst gi_nil) d hv) r
  | none =>
    obtain ⟨vl, d, p⟩ := h
    refine gv_getN hk hd hy (gv_lst (ds := []) gi_nil) d ?_
    rcases paired_get (fun _ _ q => q.1) k p with ⟨h1, h2⟩ | ⟨u, v, h1, h2, h3, _⟩
    · rw [valV_get, h1]
    · rw [h2] at hg; cases hg
/-- the rows and their plans -/
def FndV (w : World) : HR := fun H v => ∃ p l, v = .ref p ∧ TAtR rowD LsP w H p l ∧ (∀ x ∈ l, 0 < x.1.length ∧ x.1.length ≤ 5) ∧ l.length ≤ 10000
instance : Mono (FndV w) := ⟨fun e ⟨p, l, h1, h2, h3⟩ => ⟨p, l, h1, h2.ex (fun _ => inferInstance) e, h3⟩⟩
structure Fnd (w : World) (H : Hp) (fp : Addr) (n : Nat) (l : List (List Str × List Plan)) : Prop where
  at_ : TAtR rowD LsP w H fp l
  r5 : ∀ x ∈ l, 0 < x.1.length ∧ x.1.length ≤ 5
  n1 : l.length ≤ n
  n2 : ∀ x ∈ l, x.2.length ≤ n
def spWholes (w : World) : List V → Hp → HR → Prop := fun vs H R => ∃ vb vp bk n, vs = [vb, vp, nI n] ∧ Is H (encB bk) vb ∧ BkG bk ∧ n ≤ 4 ∧ total bk n ≤ 150 ∧ PlnV w bk (cnts n) (PTn bk n) H vp ∧ R = FndV w
theorem Fnd.ex {H H' : Hp} {fp : Addr} {n : Nat} {l : List (List Str × List Plan)} (h : Fnd w H fp n l) (e : Ex H H') : Fnd w H' fp n l := ⟨h.at_.ex (fun _ => inferInstance) e, h.r5, h.n1, h.n2⟩
theorem Fnd.le {H : Hp} {fp : Addr} {n m : Nat} {l : List (List Str × List Plan)} (h : Fnd w H fp n l) (e : n ≤ m) : Fnd w H fp m l := ⟨h.at_, h.r5, Nat.le_trans h.n1 e, fun x hx => Nat.le_trans (h.n2 x hx) e⟩
theorem calledL_len (bk : Bk) (gr : Bool) (nm : Str) : (calledL bk gr nm).length ≤ bk.trees.length := by
  unfold calledL
  rw [List.length_map]
  exact List.length_filter_le _ _
theorem PT_len {bk : Bk} (G : BkG bk) {n : Nat} (ht : total bk n ≤ 150) {k : Str} (hk : k ∈ bk.trees.map (·.1)) (c : Nat) : (PTn bk n k c).length ≤ 150 := by
  have h := total_ge bk G.ok.nd n c
  obtain ⟨p, hp, rfl⟩ := List.mem_map.mp hk
  have h2 : (PTn bk n p.1 c).length ≤ sumN (bk.trees.map fun p => (PTn bk n p.1 c).length) := sumN_le (List.mem_map.mpr ⟨p, hp, rfl⟩)
  omega
theorem lst_ne2 {H : Hp} {a p : Addr} {xs : List V} (h : H p = some (.lst xs)) (e : ∃ x, H a = some (.ext x)) : p ≠ a := fun z => by
  obtain ⟨x, hx⟩ := e
  rw [z, hx] at h
  cases h
theorem TAtR.ext2 {κ β : Type} [DecidableEq κ] {enc : κ → PyData} {RV : β → HR} {H : Hp} {a : Addr} {l : List (κ × β)} (h : TAtR enc RV w H a l) : ∃ x, H a = some (.ext x) := by
  obtain ⟨vl, d, _⟩ := h
  exact TAt.ext d
theorem w_wholes (T : Txt K mg CG CC) : Cal P w K mg base 60 "_law_wholes" (SpR (spWholes w)) := by
  refine cal_of T.d_law_wholes sc__law_wholes b__law_wholes (fun vs H Q E ⟨R, ⟨_, _, _, _, e, _⟩, _⟩ => by rw [e]; rfl) fun f cdv A outer s H vs Q E hr hq => ?_
  have c__law_called := w_called (P := P) (w := w) (base := base) T
  have c__law_row := w_row (P := P) (w := w) (base := base) T 5
  refine ⟨_, (pss_cons (ps_set (i := 3) sc__law_wholes.nd rfl (Or.inl rfl) (pe_callTy (cr_dictP hr.units rfl) rfl (T.fr "dict" (by decide)) (by decide +kernel) (pa_cons (pe_ix ix_tup (pv 0) pe_int (fun _ _ => rfl)) pa_nil)))
    (pss_cons (ps_set (i := 4) sc__law_wholes.nd rfl (Or.inl rfl) pe_dnew)
    (pss_cons (ps_for PassesOwn.never rfl (pi_list (pe_c c__law_called hr (by omega) rfl (pa_cons (pv 0) (pa_cons pe_str (pa_cons (pe_ix ix_tup (pv 0) pe_int (fun _ _ => rfl)) pa_nil))))) (pg_name (i := 5) sc__law_wholes.nd rfl (Or.inl rfl))
      (pss_one (ps_for PassesOwn.never rfl (pi_range2 (by rfl) (T.fr "range" (by decide)) (pa_cons pe_int (pa_cons (pe_op op_add (pv 2) pe_int) pa_nil))) (pg_name (i := 6) sc__law_wholes.nd rfl (Or.inl rfl))
        (pss_one (ps_for PassesOwn.never rfl (pi_list (pe_dgetOr hr.units (pe_ix (ix_nd hr.units) (pv 1) (pv 5) (fun _ _ => rfl)) (pv 6) (pe_lst pa_nil) (by constructor <;> rfl))) (pg_name (i := 7) sc__law_wholes.nd rfl (Or.inl rfl))
          (pss_cons (ps_set (i := 8) sc__law_wholes.nd rfl (Or.inl rfl) (pe_callTy cr_tupOf rfl (T.fr "tuple" (by decide)) (by decide +kernel) (pa_cons (pe_c c__law_row hr (by omega) rfl (pa_cons (pv 3) (pa_cons (pv 7) pa_nil))) pa_nil)))
          (pss_one (ps_asg (pe_op op_cat (pe_dgetOr hr.units (pv 4) (pv 8) (pe_lst pa_nil) (by constructor <;> rfl)) (pe_lst (pa_cons (pv 7) pa_nil))) (pg_sub (pv 4) (pv 8) (set_ndR hr.units))))))))))
    (pss_one (ps_ret (pv 4)))))), ?_⟩
  obtain ⟨R, ⟨vb, vp, bk, n, rfl, hb, G, hn, htot, hp, rfl⟩, hQ⟩ := hq
  have eB : encB bk = .tuple [.str bk.top, .tuple (bk.trees.map fun p => .tuple [encS p.1, encT p.2])] := rfl
  have m1 : ∀ b : Tr, Mono (IsV (encT b)) := fun _ => inferInstance
  refine sq (st_asg (R := fun H1 v => ∃ p, v = .ref p ∧ TreesD w H1 p bk) (gv_imp (gv_dictP (f := encT) (l := bk.trees) keyS (gv_ixT (gv_is (gv_var rfl hb) eB) gv_int rfl) G.ok.nd) fun H1 v _ ⟨q, e, _, r⟩ => ⟨q, e, r⟩) fun v3 H1 e1 r3 => ?_)
  obtain ⟨ad, rfl, hd⟩ := r3
  dsimp only
  refine st_newT (enc := rowD) fun fp ob nfp dfp => ?_
  have x2 := Ex.new (o := ob) nfp
  generalize upd H1 fp ob = H2 at dfp x2
  have F0 : Fnd w H2 fp 0 [] := ⟨⟨[], dfp, .nil⟩, fun x hx => (nomatch hx), Nat.le_refl _, fun x hx => (nomatch hx)⟩
  dsimp only
  refine sq (st_forL (l := calledL bk false bk.top) (f := PyData.str) (gv_call (gi_cons (gv_var rfl (Is.mono (e1.trans x2).tups _ _ hb)) (gi_cons gv_str (gi_cons (gv_ixT (gv_is (gv_var rfl (Is.mono (e1.trans x2).tups _ _ hb)) eB) gv_int rfl) gi_nil))) fun vs H3 _ ha => ⟨bk, false, bk.top, ha, G.ok, rfl⟩) fun p xs H3 e3 hxs => ?_)
  have x3 := x2.trans e3
  refine ⟨fun pre σ' H' => (∃ c5 c6 c7 c8, σ' = [some vb, some vp, some (nI n), some (.ref ad), some (.ref fp), c5, c6, c7, c8]) ∧ Ex H1 H' ∧ Tups H3 H' ∧ H' p = some (.lst xs) ∧ ∃ l, Fnd w H' fp (600 * pre.length) l, ⟨⟨_, _, _, _, rfl⟩, x3, Tups.refl _, hxs, [], F0.ex e3⟩, fun _ _ _ h => ⟨h.2.2.1, h.2.2.2.1⟩, ?_, ?_⟩
  · rintro pre k post x σ' H4 el ⟨⟨c5, c6, c7, c8, rfl⟩, y1, y2, y3, l, F⟩ hx
    have hk : k ∈ calledL bk false bk.top := by rw [el]; simp
    have hkt := calledL_mem hk
    have hpl : pre.length < 5 := by
      have h1 := congrArg List.length el
      have h2 := calledL_len bk false bk.top
      have := G.n
      simp at h1
      omega
    refine st_forR2 (m := 1) (n := n + 1) (gv_is gv_int rfl) (gv_is (gv_add (gv_var rfl (Is.int (Int.ofNat n))) gv_int) rfl) (by decide) (by omega) fun H5 e5 => ?_
    refine ⟨fun i σ' H' => (∃ c6 c7 c8, σ' = [some vb, some vp, some (nI n), some (.ref ad), some (.ref fp), some x, c6, c7, c8]) ∧ Ex H1 H' ∧ Tups H3 H' ∧ H' p = some (.lst xs) ∧ Is H' (.str k) x ∧ ∃ l, Fnd w H' fp (600 * pre.length + 150 * i) l, ⟨⟨_, _, _, rfl⟩, y1.trans e5, y2.trans e5.tups, e5 _ _ y3, Is.mono e5.tups _ _ hx, l, F.ex e5⟩, ?_, ?_⟩
    · rintro i σ' H6 hi ⟨⟨c6, c7, c8, rfl⟩, z1, z2, z3, hx6, l, F6⟩
      have hP150 := PT_len G htot hkt (1 + i)
      refine st_forL (l := PTn bk n k (1 + i)) (f := encPl) (gv_plan (k := k) (c := 1 + i) (Mono.mo (R := PlnV w bk (cnts n) (PTn bk n)) (e1.trans z1) hp) hkt (PTn_out bk n k (1 + i)) (gv_ref rfl) (gv_var rfl hx6) (gv_var rfl (Is.int (Int.ofNat (1 + i))))) fun p2 xs2 H7 e7 hxs2 => ?_
      refine ⟨fun pre2 σ' H' => (∃ c7 c8, σ' = [some vb, some vp, some (nI n), some (.ref ad), some (.ref fp), some x, some (nI (1 + i)), c7, c8]) ∧ Ex H1 H' ∧ Tups H3 H' ∧ H' p = some (.lst xs) ∧ Is H' (.str k) x ∧ Tups H7 H' ∧ H' p2 = some (.lst xs2) ∧ ∃ l, Fnd w H' fp (600 * pre.length + 150 * i + pre2.length) l, ⟨⟨_, _, rfl⟩, z1.trans e7, z2.trans e7.tups, e7 _ _ z3, Is.mono e7.tups _ _ hx6, Tups.refl _, hxs2, l, F6.ex e7⟩, fun _ _ _ h => ⟨h.2.2.2.2.2.1, h.2.2.2.2.2.2.1⟩, ?_, ?_⟩
      · rintro pre2 pl post2 x2 σ' H8 el2 ⟨⟨c7, c8, rfl⟩, u1, u2, u3, hx8, u4, u5, l, F8⟩ hx2
        have hpl2 : pl ∈ PTn bk n k (1 + i) := by rw [el2]; simp
        have hpre2 : pre2.length < 150 := by
          have := congrArg List.length el2
          simp at this
          omega
        refine sq (st_asg (R := IsV (rowD (rowP bk pl))) (gv_tupOf (gv_call (RA := ConsR (EqV (.ref ad)) (ConsR (IsV (encPl pl)) NilR)) (ga_cons (gv_ref rfl) (ga_cons (gv_var rfl hx2) ga_nil)) fun vs H9 e9 ra => ?_)) fun v8 H9 e9 r8 => ?_)
        · obtain ⟨_, _, rfl, rfl, _, _, rfl, r2, rfl⟩ := ra
          exact ⟨bk, ad, _, n, k, 1 + i, pl, rfl, hd.ex m1 (u1.trans e9), r2, G, by omega, hn, hpl2, rfl⟩
        · dsimp only
          have F9 := F8.ex e9
          have hz : ((getA l (rowP bk pl)).getD []).length ≤ 600 * pre.length + 150 * i + pre2.length := by
            cases hg : getA l (rowP bk pl) with
            | none => exact Nat.zero_le _
            | some b => exact F9.n2 _ (getA_mem hg)
          refine st_setR (RV := LsP) (k := rowP bk pl) (b := (getA l (rowP bk pl)).getD [] ++ [pl]) keyRow (fun _ => inferInstance) (trd_ls (f := fun ps : List Plan => ps.map encPl)) ?_ (gv_ref rfl) (gv_var rfl r8) F9.at_ (by have := F9.n1; omega) fun H10 ob10 e10 d10 t10 => ?_
          · refine gv_lsE (ds := ((getA l (rowP bk pl)).getD []).map encPl ++ [encPl pl]) (gv_catL (gv_getP keyRow (gv_ref rfl) (gv_var rfl r8) F9.at_) (gv_lst (ds := [encPl pl]) (gi_cons (gv_var rfl (Is.mono e9.tups _ _ hx2)) gi_nil)) ?_) (by rw [List.map_append]; rfl)
            rw [List.length_map, List.length_singleton]
            show _ ≤ 16777216
            omega
          · have ext9 := (F9.at_.ex (fun _ => inferInstance) e10).ext2
            have nf1 : H1 fp = none := nfp
            have u9 := (u4.trans (e9.tups.trans e10.tups)).trans t10
            refine ⟨⟨_, _, rfl⟩, Ex.mut (u1.trans (e9.trans e10)) nf1, (u2.trans (e9.tups.trans e10.tups)).trans t10, ?_, Is.mono ((e9.tups.trans e10.tups).trans t10) _ _ hx8, u9, ?_, _, ⟨d10, fun y hy => ?_, ?_, fun y hy => ?_⟩⟩
            · have h := e10 _ _ (e9 _ _ u3)
              rw [upd_ne (lst_ne2 h ext9)]
              exact h
            · have h := e10 _ _ (e9 _ _ u5)
              rw [upd_ne (lst_ne2 h ext9)]
              exact h
            · rcases putA_mem hy with h | h
              · rw [h]
                exact ⟨by have h1 := row_wt G.sg G.ok.nd n hpl2; have h2 := len_wt (rowP bk pl); show 0 < (rowP bk pl).length; omega, row_len G.sg G.ok.nd G.ft hn hpl2⟩
              · exact F9.r5 _ h.1
            · have h1 := putA_length l (rowP bk pl) ((getA l (rowP bk pl)).getD [] ++ [pl])
              have h2 := F9.n1
              rw [List.length_append, List.length_singleton]
              omega
            · rw [List.length_append, List.length_singleton]
              rcases putA_mem hy with h | h
              · rw [h, List.length_append, List.length_singleton]
                omega
              · have := F9.n2 _ h.1
                omega
      · rintro σ' H8 ⟨⟨c7, c8, rfl⟩, u1, u2, u3, hx8, u4, u5, l, F8⟩
        exact ⟨⟨_, _, _, rfl⟩, u1, u2, u3, hx8, l, F8.le (by rw [Nat.mul_add]; omega)⟩
    · rintro σ' H6 ⟨⟨c6, c7, c8, rfl⟩, z1, z2, z3, hx6, l, F6⟩
      exact ⟨⟨_, _, _, _, rfl⟩, z1, z2, z3, l, F6.le (by rw [List.length_append, List.length_singleton]; omega)⟩
  · rintro σ' H4 ⟨⟨c5, c6, c7, c8, rfl⟩, y1, y2, y3, l, F⟩
    have h2 := calledL_len bk false bk.top
    have := G.n
    exact st_ret (gv_var (R := FndV w) rfl ⟨fp, l, rfl, F.at_, F.r5, by have := F.n1; omega⟩) fun v H5 e5 r5 => hQ v H5 ((e1.trans y1).trans e5) r5
end
end K31

/-! where lines lie on a row -/
namespace K31
open PySem PySem.Spec PyProof.Rows L2 NK Evl
def Sg (row L : Ln) (i j : Nat) : Prop := ∃ a c, row = a ++ L ++ c ∧ a.length = i ∧ j = i + L.length
section
variable {row L M : Ln} {i j k : Nat}
theorem Sg.bd (h : Sg row L i j) : i ≤ j ∧ j ≤ row.length ∧ j = i + L.length := by
  obtain ⟨a, c, e, h1, h2⟩ := h
  have := congrArg List.length e
  simp only [List.length_append] at this
  omega
theorem Sg_nil : Sg row [] i j ↔ i = j ∧ i ≤ row.length := by
  constructor
  · intro h
    have := h.bd
    simp at this
    omega
  · rintro ⟨rfl, h⟩
    exact ⟨row.take i, row.drop i, by simp, by rw [List.length_take]; omega, rfl⟩
theorem Sg_app : Sg row (L ++ M) i j ↔ ∃ k, Sg row L i k ∧ Sg row M k j := by
  constructor
  · rintro ⟨a, c, e, h1, h2⟩
    refine ⟨i + L.length, ⟨a, M ++ c, by rw [e]; simp, h1, rfl⟩, ⟨a ++ L, c, by rw [e]; simp, by rw [List.length_append, h1], by rw [h2, List.length_append]; omega⟩⟩
  · rintro ⟨k, ⟨a, c, e, h1, h2⟩, ⟨a', c', e', h1', h2'⟩⟩
    have : a ++ L ++ c = a' ++ (M ++ c') := by rw [← e, e']; simp
    obtain ⟨q1, q2⟩ := List.append_inj this (by rw [List.length_append]; omega)
    exact ⟨a, c', by rw [e, q2]; simp, h1, by rw [h2', h2, List.length_append]; omega⟩
theorem Sg_iff : Sg row L i j ↔ i ≤ row.length ∧ j = i + L.length ∧ atR row i L.length = L := by
  constructor
  · intro h
    have hb := h.bd
    obtain ⟨a, c, e, h1, h2⟩ := h
    refine ⟨by omega, h2, ?_⟩
    unfold atR
    rw [e, ← h1, List.append_assoc, List.drop_left, List.take_left]
  · rintro ⟨h1, h2, h3⟩
    refine ⟨row.take i, (row.drop i).drop L.length, ?_, by rw [List.length_take]; omega, h2⟩
    unfold atR at h3
    conv => lhs; rw [← List.take_append_drop i row, ← List.take_append_drop L.length (row.drop i), h3]
    rw [List.append_assoc]
end
/-- the line lies on the row at the ends: a star leaves a gap -/
inductive Wl (row : Ln) : Ln → En → Prop
  | plain (L : Ln) (i j : Nat) : starN L = 0 → Sg row L i j → Wl row L ⟨i, none, j⟩
  | gap (l r : Ln) (i x y j : Nat) : starN l = 0 → starN r = 0 → x ≤ y → Sg row l i x → Sg row r y j → Wl row (l ++ star :: r) ⟨i, some (x, y), j⟩
section
variable {row L M l r : Ln} {e a b o : En}
theorem starN_gap : starN (l ++ star :: r) = starN l + 1 + starN r := by rw [starN_app, starN_cons_star]; omega
theorem star_inj : ∀ {l r l' r' : Ln}, starN l = 0 → starN l' = 0 → l ++ star :: r = l' ++ star :: r' → l = l' ∧ r = r'
  | [], r, [], r', _, _, h => ⟨rfl, by simpa using h⟩
  | [], r, b :: l', r', _, h2, h => by
    simp only [List.nil_append, List.cons_append, List.cons.injEq] at h
    rw [← h.1, starN_cons_star] at h2
    omega
  | a :: l, r, [], r', h1, _, h => by
    simp only [List.nil_append, List.cons_append, List.cons.injEq] at h
    rw [h.1, starN_cons_star] at h1
    omega
  | a :: l, r, b :: l', r', h1, h2, h => by
    simp only [List.cons_append, List.cons.injEq] at h
    have g1 := starN_app [a] l
    have g2 := starN_app [b] l'
    rw [List.singleton_append] at g1 g2
    obtain ⟨q1, q2⟩ := star_inj (l := l) (l' := l') (by omega) (by omega) h.2
    exact ⟨by rw [h.1, q1], q2⟩
theorem Wl_join (ha : Wl row L a) (hb : Wl row M b) (e : b.i = a.j) (hs : starN (L ++ M) ≤ 1) : Wl row (L ++ M) (joinE a b) := by
  rw [starN_app] at hs
  cases ha with
  | plain _ i j s1 g1 =>
    cases hb with
    | plain _ k m s2 g2 =>
      cases e
      exact .plain _ _ _ (by rw [starN_app]; omega) (Sg_app.mpr ⟨_, g1, g2⟩)
    | gap l r k x y m s2 s3 h g2 g3 =>
      cases e
      rw [show L ++ (l ++ star :: r) = (L ++ l) ++ star :: r by simp]
      exact .gap _ _ _ _ _ _ (by rw [starN_app]; omega) s3 h (Sg_app.mpr ⟨_, g1, g2⟩) g3
  | gap l r i x y j s1 s2 h g1 g2 =>
    cases hb with
    | plain _ k m s3 g3 =>
      cases e
      rw [show (l ++ star :: r) ++ M = l ++ star :: (r ++ M) by simp]
      exact .gap _ _ _ _ _ _ s1 (by rw [starN_app]; omega) h g1 (Sg_app.mpr ⟨_, g2, g3⟩)
    | gap l' r' k x' y' m s3 s4 h' g3 g4 =>
      rw [starN_gap, starN_gap] at hs
      omega
theorem Wl_split (h : Wl row (L ++ M) e) : ∃ a b, Wl row L a ∧ Wl row M b ∧ b.i = a.j ∧ e = joinE a b := by
  generalize hN : L ++ M = N at h
  cases h with
  | plain _ i j s g =>
    subst hN
    rw [starN_app] at s
    obtain ⟨k, g1, g2⟩ := Sg_app.mp g
    exact ⟨_, _, .plain L i k (by omega) g1, .plain M k j (by omega) g2, rfl, rfl⟩
  | gap l r i x y j s1 s2 hxy g1 g2 =>
    rcases List.append_eq_append_iff.mp hN with ⟨as, h1, h2⟩ | ⟨bs, h1, h2⟩
    · rw [h1, starN_app] at s1
      rw [h1] at g1
      obtain ⟨k, g3, g4⟩ := Sg_app.mp g1
      refine ⟨⟨i, none, k⟩, ⟨k, some (x, y), j⟩, .plain _ _ _ (by omega) g3, ?_, rfl, rfl⟩
      rw [h2]
      exact .gap _ _ _ _ _ _ (by omega) s2 hxy g4 g2
    · cases bs with
      | nil =>
        rw [List.append_nil] at h1
        rw [List.nil_append] at h2
        refine ⟨⟨i, none, x⟩, ⟨x, some (x, y), j⟩, by rw [h1]; exact .plain _ _ _ s1 g1, ?_, rfl, rfl⟩
        rw [← h2]
        exact .gap [] _ _ _ _ _ rfl s2 hxy (Sg_nil.mpr ⟨rfl, by have := g1.bd; omega⟩) g2
      | cons c bs =>
        simp only [List.cons_append, List.cons.injEq] at h2
        obtain ⟨hc, h2⟩ := h2
        rw [h2, starN_app] at s2
        rw [h2] at g2
        obtain ⟨k, g3, g4⟩ := Sg_app.mp g2
        refine ⟨⟨i, some (x, y), k⟩, ⟨k, none, j⟩, ?_, .plain _ _ _ (by omega) g4, rfl, rfl⟩
        rw [h1, ← hc]
        exact .gap _ _ _ _ _ _ s1 (by omega) hxy g1 g3
theorem Wl_none (h : Wl row L e) (s : starN L = 0) : e.f = none ∧ Sg row L e.i e.j := by
  cases h with
  | plain _ i j s g => exact ⟨rfl, g⟩
  | gap l r i x y j s1 s2 hxy g1 g2 => rw [starN_gap] at s; omega
theorem Wl_round (ho : Wl row (l ++ star :: r) o) (hs : starN l = 0) (ha : Wl row L a) (e : o.f = some (a.i, a.j)) : Wl row (l ++ L ++ r) (roundE o a) := by
  generalize hN : l ++ star :: r = N at ho
  cases ho with
  | plain _ i j s g => cases e
  | gap l' r' i x y j s1 s2 hxy g1 g2 =>
    obtain ⟨rfl, rfl⟩ := star_inj hs s1 hN
    simp only [Option.some.injEq, Prod.mk.injEq] at e
    obtain ⟨rfl, rfl⟩ := e
    cases ha with
    | plain _ p q s3 g3 =>
      refine .plain _ _ _ (by rw [starN_app, starN_app]; omega) (Sg_app.mpr ⟨_, Sg_app.mpr ⟨_, g1, g3⟩, g2⟩)
    | gap la ra p u v q s3 s4 huv g3 g4 =>
      rw [show l ++ (la ++ star :: ra) ++ r = (l ++ la) ++ star :: (ra ++ r) by simp]
      exact .gap _ _ _ _ _ _ (by rw [starN_app]; omega) (by rw [starN_app]; omega) huv (Sg_app.mpr ⟨_, g1, g3⟩) (Sg_app.mpr ⟨_, g4, g2⟩)
theorem Wl_bd (h : Wl row L e) : e.i ≤ e.j := by
  cases h with
  | plain _ i j s g => exact g.bd.1
  | gap l r i x y j s1 s2 hxy g1 g2 =>
    have := g1.bd
    have := g2.bd
    show i ≤ j
    omega
theorem Wl_unround (h : Wl row (l ++ L ++ r) e) (h1 : starN l = 0) (h2 : starN r = 0) : ∃ o a, Wl row (l ++ star :: r) o ∧ Wl row L a ∧ o.f = some (a.i, a.j) ∧ e = roundE o a := by
  obtain ⟨b, c, hb, hc, e1, rfl⟩ := Wl_split h
  obtain ⟨a1, a, ha1, ha, e2, rfl⟩ := Wl_split hb
  obtain ⟨f1, g1⟩ := Wl_none ha1 h1
  obtain ⟨f2, g2⟩ := Wl_none hc h2
  have := Wl_bd ha
  refine ⟨⟨a1.i, some (a.i, a.j), c.j⟩, a, .gap l r _ _ _ _ h1 h2 this (by rw [e2]; exact g1) (by rw [show a.j = c.i from e1.symm]; exact g2), ha, rfl, ?_⟩
  unfold joinE roundE
  rw [f2]
  cases ha : a.f with
  | none => simp [f1]
  | some p => rfl
end
/-- the ends stand in order -/
def Eok (n : Nat) (e : En) : Prop := match e.f with
  | none => e.i ≤ e.j ∧ e.j ≤ n
  | some p => e.i ≤ p.1 ∧ p.1 ≤ p.2 ∧ p.2 ≤ e.j ∧ e.j ≤ n
instance (n : Nat) (e : En) : Decidable (Eok n e) := by
  unfold Eok
  split <;> exact inferInstance
def wtE (e : En) : Nat := match e.f with
  | none => e.j - e.i
  | some p => (p.1 - e.i) + (e.j - p.2)
section
variable {row L M l r : Ln} {e a b o : En} {n : Nat}
theorem Wl_ev (h : Wl row L e) : Eok row.length e := by
  cases h with
  | plain _ i j s g => have := g.bd; exact ⟨this.1, this.2.1⟩
  | gap l r i x y j s1 s2 hxy g1 g2 =>
    have := g1.bd
    have := g2.bd
    exact ⟨by show i ≤ x; omega, hxy, by show y ≤ j; omega, by show j ≤ _; omega⟩
theorem Wl_wt (h : Wl row L e) : wtE e = wt L := by
  cases h with
  | plain _ i j s g =>
    have := g.bd
    have := len_wt L
    show j - i = _
    omega
  | gap l r i x y j s1 s2 hxy g1 g2 =>
    have := g1.bd
    have := g2.bd
    have := len_wt l
    have := len_wt r
    rw [wt_app, wt_cons_star]
    show (x - i) + (j - y) = _
    omega
theorem wtE_le (h : Eok n e) : wtE e ≤ n := by
  unfold Eok at h
  unfold wtE
  cases hf : e.f with
  | none => rw [hf] at h; simp only at h ⊢; omega
  | some p => rw [hf] at h; simp only at h ⊢; omega
theorem Eok_join (ha : Eok n a) (hb : Eok n b) (e : b.i = a.j) : Eok n (joinE a b) ∧ wtE a + wtE b ≤ wtE (joinE a b) := by
  unfold Eok wtE joinE at *
  cases hf : a.f <;> cases hg : b.f <;> simp only [hf, hg] at ha hb ⊢ <;> omega
theorem Eok_round (ho : Eok n o) (ha : Eok n a) (e : o.f = some (a.i, a.j)) : Eok n (roundE o a) ∧ wtE (roundE o a) = wtE o + wtE a := by
  unfold Eok wtE roundE at *
  rw [e] at ho
  cases hf : a.f <;> simp only [hf, e] at ha ho ⊢ <;> omega
end
/-! the law's stretches -/
theorem mem_strN {row L : Ln} {i : Nat} {e : En} : e ∈ strN row L i ↔ atR row i L.length = L ∧ e = ⟨i, none, i + L.length⟩ := by
  unfold strN
  split <;> simp_all
theorem starN_mem {L : Ln} (h : ¬ star ∈ L) : starN L = 0 := by
  unfold starN
  rw [List.length_eq_zero_iff, List.filter_eq_nil_iff]
  intro a ha q
  have : a = star := by simpa using q
  exact h (this ▸ ha)
theorem starN_pos {L : Ln} (h : star ∈ L) : 0 < starN L := by
  unfold starN
  exact List.length_pos_of_mem (List.mem_filter.mpr ⟨h, by simp⟩)
theorem starN_take (L : Ln) : starN (L.takeWhile fun x => decide (x ≠ star)) = 0 := by
  refine starN_mem fun h => ?_
  induction L with
  | nil => cases h
  | cons a L ih =>
    by_cases e : a = star
    · rw [List.takeWhile_cons_of_neg (by simpa using e)] at h
      cases h
    · rw [List.takeWhile_cons_of_pos (by simpa using e)] at h
      rcases List.mem_cons.mp h with h | h
      · exact e h.symm
      · exact ih h
theorem atR_len {row L : Ln} {i : Nat} (h : atR row i L.length = L) (hz : 0 < L.length) : i + L.length ≤ row.length := by
  have := congrArg List.length h
  unfold atR at this
  rw [List.length_take, List.length_drop] at this
  omega
theorem mem_strL {row L : Ln} {e : En} (hL : 0 < L.length) (hs : starN L ≤ 1) : e ∈ strL row L ↔ Wl row L e := by
  unfold strL
  by_cases h : star ∈ L
  · rw [if_pos h]
    have hp := starN_pos h
    have sp := star_split hp
    have s1 := starN_take L
    generalize hl : (L.takeWhile fun x => decide (x ≠ star)) = l at *
    generalize hr : (L.dropWhile fun x => decide (x ≠ star)).tail = r at *
    have s2 : starN r = 0 := by rw [sp, starN_gap] at hs; omega
    subst sp
    clear hl hr h
    simp only [List.mem_flatMap, List.mem_range, strI]
    constructor
    · rintro ⟨i, hi, m, hm, he⟩
      unfold strS at he
      split at he
      · rename_i hc
        rw [List.mem_singleton.mp he]
        refine .gap _ _ _ _ _ _ s1 s2 (by omega) (Sg_iff.mpr ⟨by omega, rfl, hc.1⟩) (Sg_iff.mpr ⟨by omega, rfl, hc.2⟩)
      · cases he
    · intro hw
      generalize hN : l ++ star :: r = N at hw
      cases hw with
      | plain _ i j s g => rw [← hN, starN_gap] at s; omega
      | gap l' r' i x y j t1 t2 hxy g1 g2 =>
        obtain ⟨rfl, rfl⟩ := star_inj s1 t1 hN
        have b1 := g1.bd
        have b2 := g2.bd
        obtain ⟨_, e1, q1⟩ := Sg_iff.mp g1
        obtain ⟨_, e2, q2⟩ := Sg_iff.mp g2
        refine ⟨i, by omega, y - x, by omega, ?_⟩
        have e3 : i + l.length + (y - x) = y := by omega
        unfold strS
        rw [e3, if_pos ⟨q1, q2⟩, ← e1, ← e2]
        exact List.mem_singleton.mpr rfl
  · rw [if_neg h]
    have s0 := starN_mem h
    simp only [List.mem_flatMap, List.mem_range, mem_strN]
    constructor
    · rintro ⟨i, hi, h1, rfl⟩
      have := atR_len h1 hL
      exact .plain _ _ _ s0 (Sg_iff.mpr ⟨by omega, rfl, h1⟩)
    · intro hw
      cases hw with
      | plain _ i j s g =>
        have := g.bd
        obtain ⟨_, e1, q1⟩ := Sg_iff.mp g
        exact ⟨i, by omega, q1, by rw [e1]⟩
      | gap l r i x y j s1 s2 hxy g1 g2 => rw [starN_gap] at s0; omega
end K31

/-! which ends stand in the lists -/
namespace K31
open PySem PySem.Spec PyProof.Rows L2 NK Evl
def KS (l : List (En × Nat)) : List En := l.map (·.1)
theorem KS_mem {l : List (En × Nat)} {e : En} : e ∈ KS l ↔ ∃ n, (e, n) ∈ l := by
  unfold KS
  rw [List.mem_map]
  constructor
  · rintro ⟨⟨a, n⟩, h, rfl⟩; exact ⟨n, h⟩
  · rintro ⟨n, h⟩; exact ⟨_, h, rfl⟩
theorem KS_app (l m : List (En × Nat)) : KS (l ++ m) = KS l ++ KS m := by unfold KS; rw [List.map_append]
theorem getA_isSome_iff {κ β : Type} [DecidableEq κ] {l : List (κ × β)} {k : κ} : (getA l k).isSome = true ↔ k ∈ l.map (·.1) := by
  rw [← getA_any, List.any_eq_true, List.mem_map]
  constructor
  · rintro ⟨p, h, e⟩; exact ⟨p, h, of_decide_eq_true e⟩
  · rintro ⟨p, h, e⟩; exact ⟨p, h, decide_eq_true e⟩
theorem KS_put {l : List (En × Nat)} {k e : En} {n : Nat} : e ∈ KS (putA l k n) ↔ e = k ∨ e ∈ KS l := by
  unfold KS
  rw [putA_keys]
  split
  · rename_i h
    have := getA_isSome_iff.mp h
    constructor
    · exact .inr
    · rintro (rfl | h)
      · exact this
      · exact h
  · rw [List.mem_append, List.mem_singleton]; exact Or.comm
theorem KS_addL {l : List (En × Nat)} {k e : En} {n : Nat} : e ∈ KS (addL l k n) ↔ e = k ∨ e ∈ KS l := KS_put
theorem KS_laid : ∀ {C l : List (En × Nat)} {e : En}, e ∈ KS (laidOn l C) ↔ e ∈ KS l ∨ e ∈ KS C
  | [], l, e => by show e ∈ KS l ↔ _; simp [KS]
  | c :: C, l, e => by
    show e ∈ KS (laidOn (addL l c.1 c.2) C) ↔ _
    rw [KS_laid, KS_addL]
    show _ ↔ e ∈ KS l ∨ e ∈ c.1 :: KS C
    rw [List.mem_cons]
    constructor
    · rintro ((h | h) | h)
      · exact .inr (.inl h)
      · exact .inl h
      · exact .inr (.inr h)
    · rintro (h | h | h)
      · exact .inl (.inr h)
      · exact .inl (.inl h)
      · exact .inr h
theorem KS_laid0 {C : List (En × Nat)} {e : En} : e ∈ KS (laidOn [] C) ↔ e ∈ KS C := by
  rw [KS_laid]
  constructor
  · rintro (h | h)
    · cases h
    · exact h
  · exact .inr
theorem KS_puts : ∀ {C l : List (En × Nat)} {e : En}, e ∈ KS (putsL l C) ↔ e ∈ KS l ∨ e ∈ KS C
  | [], l, e => by show e ∈ KS l ↔ _; simp [KS]
  | c :: C, l, e => by
    show e ∈ KS (putsL (putA l c.1 c.2) C) ↔ _
    rw [KS_puts, KS_put]
    show _ ↔ e ∈ KS l ∨ e ∈ c.1 :: KS C
    rw [List.mem_cons]
    constructor
    · rintro ((h | h) | h)
      · exact .inr (.inl h)
      · exact .inl h
      · exact .inr (.inr h)
    · rintro (h | h | h)
      · exact .inl (.inr h)
      · exact .inl (.inl h)
      · exact .inr h
theorem KS_behind {one other : List (En × Nat)} {e : En} : e ∈ KS (behindC one other) ↔ ∃ a ∈ KS one, ∃ b ∈ KS other, b.i = a.j ∧ e = joinE a b := by
  unfold behindC
  rw [KS_mem]
  simp only [List.mem_flatMap, List.mem_map, List.mem_filter, KS_mem]
  constructor
  · rintro ⟨n, x, hx, y, ⟨hy, e1⟩, e2⟩
    simp only [Prod.mk.injEq] at e2
    exact ⟨x.1, ⟨x.2, hx⟩, y.1, ⟨y.2, hy⟩, of_decide_eq_true e1, e2.1.symm⟩
  · rintro ⟨a, ⟨n, ha⟩, b, ⟨m, hb⟩, e1, rfl⟩
    exact ⟨n * m, (a, n), ha, (b, m), ⟨hb, decide_eq_true e1⟩, rfl⟩
theorem KS_round {outer inner : List (En × Nat)} {e : En} : e ∈ KS (roundC outer inner) ↔ ∃ o ∈ KS outer, ∃ a ∈ KS inner, o.f = some (a.i, a.j) ∧ e = roundE o a := by
  unfold roundC
  rw [KS_mem]
  simp only [List.mem_flatMap, List.mem_map, List.mem_filter, KS_mem]
  constructor
  · rintro ⟨n, x, hx, y, ⟨hy, e1⟩, e2⟩
    simp only [Prod.mk.injEq] at e2
    exact ⟨x.1, ⟨x.2, hx⟩, y.1, ⟨y.2, hy⟩, of_decide_eq_true e1, e2.1.symm⟩
  · rintro ⟨a, ⟨n, ha⟩, b, ⟨m, hb⟩, e1, rfl⟩
    exact ⟨n * m, (a, n), ha, (b, m), ⟨hb, decide_eq_true e1⟩, rfl⟩
theorem KS_flat {α : Type} {l : List α} {f : α → List (En × Nat)} {e : En} : e ∈ KS (l.flatMap f) ↔ ∃ x ∈ l, e ∈ KS (f x) := by
  simp only [KS_mem, List.mem_flatMap]
  constructor
  · rintro ⟨n, x, h1, h2⟩; exact ⟨x, h1, n, h2⟩
  · rintro ⟨x, h1, n, h2⟩; exact ⟨n, x, h1, h2⟩
/-! what a list tells is so; all is told -/
section
variable {bk : Bk} {row : Ln}
theorem Bs_app : ∀ {ts us : List Tr} {L M : Ln}, Bs bk ts L → Bs bk us M → Bs bk (ts ++ us) (L ++ M)
  | [], us, L, M, h, h2 => by cases h; exact h2
  | t :: ts, us, L, M, h, h2 => by
    cases h with
    | cons _ _ L1 L2 b bs =>
      rw [List.append_assoc]
      exact .cons t _ _ _ b (Bs_app bs h2)
def Snd (bk : Bk) (row : Ln) (t : Tr) (d : List (En × Nat)) : Prop := ∀ e ∈ KS d, ∃ L, B bk t L ∧ Wl row L e
def Snds (bk : Bk) (row : Ln) (ts : List Tr) (d : List (En × Nat)) : Prop := ∀ e ∈ KS d, ∃ L, Bs bk ts L ∧ Wl row L e
def stepB (acc d : List (En × Nat)) : List (En × Nat) := laidOn [] (behindC acc d)
theorem Bs_star (hb : ∀ p ∈ bk.trees, NoStar p.2) {ts : List Tr} {L : Ln} (ns : ∀ s ∈ signsTs ts, s ≠ star) (h : Bs bk ts L) : starN L = (feetTs ts).length := ((B_count hb).2 h ns).1
theorem fold_snd (hb : ∀ p ∈ bk.trees, NoStar p.2) : ∀ (us : List Tr) (ds : List (List (En × Nat))) (ts : List Tr) (acc : List (En × Nat)), ds.length = us.length → (∀ (i : Nat) u d, us[i]? = some u → ds[i]? = some d → Snd bk row u d) → (∀ s ∈ signsTs (ts ++ us), s ≠ star) → (feetTs (ts ++ us)).length ≤ 1 → Snds bk row ts acc → Snds bk row (ts ++ us) (ds.foldl stepB acc)
  | [], [], ts, acc, _, _, _, _, h => by rw [List.append_nil]; exact h
  | [], _ :: _, _, _, h, _, _, _, _ => by cases h
  | _ :: _, [], _, _, h, _, _, _, _ => by cases h
  | u :: us, d :: ds, ts, acc, hl, hd, ns, hf, h => by
    have e : ts ++ u :: us = (ts ++ [u]) ++ us := by simp
    rw [e] at ns hf ⊢
    rw [List.foldl_cons]
    refine fold_snd hb us ds (ts ++ [u]) (stepB acc d) (by simpa using hl) (fun i v d' h1 h2 => hd (i + 1) v d' (by simpa using h1) (by simpa using h2)) ns hf ?_
    intro e he
    obtain ⟨a, ha, b, hb', e1, rfl⟩ := KS_behind.mp (KS_laid0.mp he)
    obtain ⟨L, h1, h2⟩ := h a ha
    obtain ⟨M, h3, h4⟩ := hd 0 u d rfl rfl b hb'
    have h5 : Bs bk (ts ++ [u]) (L ++ M) := Bs_app h1 (by have := Bs.cons u [] M [] h3 .nil; rwa [List.append_nil] at this)
    have sg : ∀ l m : List Tr, signsTs (l ++ m) = signsTs l ++ signsTs m := by
      intro l m
      induction l with
      | nil => rfl
      | cons t l ih => rw [List.cons_append, signsTs, signsTs, ih, List.append_assoc]
    refine ⟨_, h5, Wl_join h2 h4 e1 ?_⟩
    rw [Bs_star hb (fun s hs => ns s (by rw [sg]; exact List.mem_append_left _ hs)) h5]
    rw [feetTs_app, List.length_append] at hf
    omega
theorem pref_snd (hb : ∀ p ∈ bk.trees, NoStar p.2) {ts : List Tr} {ds : List (List (En × Nat))} (hl : ds.length = ts.length) (hd : ∀ (i : Nat) u d, ts[i]? = some u → ds[i]? = some d → Snd bk row u d) (ns : ∀ s ∈ signsTs ts, s ≠ star) (hf : (feetTs ts).length ≤ 1) : Snds bk row ts (prefL ds) := by
  cases ds with
  | nil => intro e he; cases he
  | cons d ds =>
    cases ts with
    | nil => cases hl
    | cons t ts =>
      refine fold_snd hb ts ds [t] d (by simpa using hl) (fun i v d' h1 h2 => hd (i + 1) v d' (by simpa using h1) (by simpa using h2)) ns hf ?_
      intro e he
      obtain ⟨L, h1, h2⟩ := hd 0 t d rfl rfl e he
      exact ⟨L, by have := Bs.cons t [] L [] h1 .nil; rwa [List.append_nil] at this, h2⟩
theorem called_hole {n g : Str} (ft : ∀ p ∈ bk.trees, (feetT p.2).length ≤ 1) (h : g ∈ calledOf bk (.hole n)) : ∃ t, (g, t) ∈ bk.trees ∧ feetT t = [] ∧ nameT t = n := by
  unfold calledOf at h
  obtain ⟨⟨g', t⟩, hm, rfl⟩ := List.mem_map.mp h
  obtain ⟨h1, h2⟩ := List.mem_filter.mp hm
  have h2 := of_decide_eq_true h2
  have hf := ft _ h1
  unfold namK atK isGraft nameOf at h2
  simp only [Option.some.injEq, Prod.mk.injEq, decide_eq_false_iff_not] at h2
  obtain ⟨h3, h4⟩ := h2
  rw [if_neg h3] at h4
  refine ⟨t, h1, ?_, h4⟩
  exact List.length_eq_zero_iff.mp (by simp only at hf; omega)
theorem called_knot {n m g : Str} {b : Bool} {ks : List Tr} (h : g ∈ calledOf bk (.knot n (some (m, b)) ks)) : ∃ t, (g, t) ∈ bk.trees ∧ feetT t = [m] := by
  unfold calledOf at h
  obtain ⟨⟨g', t⟩, hm, rfl⟩ := List.mem_map.mp h
  obtain ⟨h1, h2⟩ := List.mem_filter.mp hm
  have h2 := of_decide_eq_true h2
  unfold namK atK isGraft nameOf at h2
  simp only [Option.some.injEq, Prod.mk.injEq, decide_eq_true_eq] at h2
  obtain ⟨h3, h4⟩ := h2
  rw [if_pos h3] at h4
  refine ⟨t, h1, ?_⟩
  match hf : feetT t, h3 with
  | [x], _ =>
    rw [hf] at h4
    simp only [List.headD_cons] at h4
    rw [h4]
theorem called_none {n : Str} {ks : List Tr} : calledOf bk (.knot n none ks) = [] := by
  unfold calledOf
  rw [List.map_eq_nil_iff, List.filter_eq_nil_iff]
  intro p _ q
  have := of_decide_eq_true q
  cases this
theorem of_hole {n g : Str} {t : Tr} (hm : (g, t) ∈ bk.trees) (h1 : feetT t = []) (h2 : nameT t = n) : g ∈ calledOf bk (.hole n) := by
  unfold calledOf
  refine List.mem_map.mpr ⟨(g, t), List.mem_filter.mpr ⟨hm, decide_eq_true ?_⟩, rfl⟩
  simp [namK, atK, isGraft, nameOf, h1, h2]
theorem of_knot {n m g : Str} {b : Bool} {ks : List Tr} {t : Tr} (hm : (g, t) ∈ bk.trees) (h1 : feetT t = [m]) : g ∈ calledOf bk (.knot n (some (m, b)) ks) := by
  unfold calledOf
  refine List.mem_map.mpr ⟨(g, t), List.mem_filter.mpr ⟨hm, decide_eq_true ?_⟩, rfl⟩
  simp [namK, atK, isGraft, nameOf, h1]
end
/-- the lines of a seat -/
def BS (bk : Bk) (s : Seat) (L : Ln) : Prop := ∃ u, pieceOf bk (s.key, s.place) = some u ∧ if s.done then B bk u L else Bs bk (kidsT u) L
def SndT (bk : Bk) (row : Ln) (T : Tab) : Prop := ∀ s ∈ seatsOf bk, ∀ e ∈ KS (T s), ∃ L, BS bk s L ∧ Wl row L e
section
variable {bk : Bk}
theorem pieceOf_mem {k : Str} {p : Place} {u : Tr} (h : pieceOf bk (k, p) = some u) : ∃ t, (k, t) ∈ bk.trees ∧ pieceAt t p = some u := by
  unfold pieceOf at h
  cases hg : getA bk.trees k with
  | none => rw [hg] at h; cases h
  | some t => rw [hg] at h; exact ⟨t, getA_mem hg, h⟩
theorem pieceOf_of (nd : (bk.trees.map (·.1)).Nodup) {k : Str} {p : Place} {t u : Tr} (hm : (k, t) ∈ bk.trees) (h : pieceAt t p = some u) : pieceOf bk (k, p) = some u := by
  unfold pieceOf
  rw [getA_of_mem nd hm]
  exact h
theorem seat_of {s : Seat} {u : Tr} (h : pieceOf bk (s.key, s.place) = some u) (hd : s.done = true ∨ tagT u = "knot") : s ∈ seatsOf bk := by
  obtain ⟨t, hm, hp⟩ := pieceOf_mem h
  refine List.mem_flatMap.mpr ⟨_, hm, ?_⟩
  unfold seatsT
  refine List.mem_flatMap.mpr ⟨s.place, List.mem_reverse.mpr (places_of hp), ?_⟩
  obtain ⟨sk, sp, sd⟩ := s
  simp only at hp hd
  rw [hp]
  cases u with
  | knot n tk ks => cases sd <;> simp
  | _ =>
    rcases hd with hd | hd
    · rw [hd]; exact List.mem_singleton.mpr rfl
    · exact absurd hd (by simp only [tagT]; decide)
theorem seat_inv (nd : (bk.trees.map (·.1)).Nodup) {s : Seat} (h : s ∈ seatsOf bk) : ∃ t u, (s.key, t) ∈ bk.trees ∧ pieceAt t s.place = some u ∧ pieceOf bk (s.key, s.place) = some u ∧ (s.done = true ∨ tagT u = "knot") := by
  obtain ⟨⟨k, t⟩, hm, h⟩ := List.mem_flatMap.mp h
  unfold seatsT at h
  obtain ⟨p, hp, h⟩ := List.mem_flatMap.mp h
  obtain ⟨u, hu, _⟩ := pieceAt_places (List.mem_reverse.mp hp)
  simp only [hu] at h
  cases u with
  | knot n tk ks =>
    simp only [List.mem_cons, List.not_mem_nil, or_false] at h
    rcases h with rfl | rfl
    · exact ⟨t, _, hm, hu, pieceOf_of nd hm hu, .inr rfl⟩
    · exact ⟨t, _, hm, hu, pieceOf_of nd hm hu, .inl rfl⟩
  | _ =>
    simp only [List.mem_singleton] at h
    subst h
    exact ⟨t, _, hm, hu, pieceOf_of nd hm hu, .inl rfl⟩
theorem kid_seat {k : Str} {p : Place} {n : Str} {tk : Option (Str × Bool)} {ks : List Tr} {i : Nat} {t : Tr} (h : pieceOf bk (k, p) = some (.knot n tk ks)) (hi : ks[i]? = some t) : pieceOf bk (k, p ++ [i]) = some t := by
  unfold pieceOf at h ⊢
  cases hg : getA bk.trees k with
  | none => rw [hg] at h; cases h
  | some r =>
    rw [hg] at h
    have h : pieceAt r p = some (.knot n tk ks) := h
    show pieceAt r (p ++ [i]) = _
    exact piece_kid h hi
theorem kids_get (T : Tab) (key : Str) (place : Place) (n i : Nat) : (kidTabs T key place n)[i]? = if i < n then some (T ⟨key, place ++ [i], true⟩) else none := by
  unfold kidTabs
  rw [List.getElem?_map]
  by_cases h : i < n
  · rw [if_pos h, List.getElem?_range h]; rfl
  · rw [if_neg h, List.getElem?_eq_none (by rw [List.length_range]; omega)]; rfl
end
end K31

/-! what the rules tell is so; the table at the end tells all -/
namespace K31
open PySem PySem.Spec PyProof.Rows L2 NK Evl
theorem atR_one {row : Ln} {i : Nat} {s : Str} : atR row i 1 = [s] ↔ row[i]? = some s := by
  unfold atR
  rw [List.take_one, List.head?_drop]
  cases row[i]? <;> simp
theorem leaf_sign {row : Ln} {s : Str} (hs : s ≠ star) {e : En} : e ∈ KS (leafL (.sign s) row) ↔ Wl row [s] e := by
  unfold leafL
  rw [KS_puts, KS_flat]
  simp only [List.mem_range]
  constructor
  · rintro (h | ⟨i, hi, h⟩)
    · cases h
    · simp only [leafI] at h
      split at h
      · rename_i h2
        have h : e = ⟨i, none, i + 1⟩ := by simpa [KS] using h
        rw [h]
        exact .plain _ _ _ (starN_sign hs) (Sg_iff.mpr ⟨by omega, rfl, atR_one.mpr h2⟩)
      · cases h
  · intro h
    obtain ⟨h1, h2⟩ := Wl_none h (starN_sign hs)
    obtain ⟨h3, h4, h5⟩ := Sg_iff.mp h2
    refine .inr ⟨e.i, by omega, ?_⟩
    simp only [leafI]
    have h5 : row[e.i]? = some (nameT (.sign s)) := atR_one.mp h5
    rw [if_pos h5]
    obtain ⟨i, f, j⟩ := e
    simp only at h1 h4
    subst h1 h4
    simp [KS]
theorem leaf_void {row : Ln} {e : En} : e ∈ KS (leafL .void row) ↔ Wl row [] e := by
  unfold leafL
  rw [KS_puts, KS_flat]
  simp only [List.mem_range, leafI]
  constructor
  · rintro (h | ⟨i, hi, h⟩)
    · cases h
    · have h : e = ⟨i, none, i⟩ := by simpa [KS] using h
      rw [h]
      exact .plain _ _ _ rfl (Sg_nil.mpr ⟨rfl, by omega⟩)
  · intro h
    obtain ⟨h1, h2⟩ := Wl_none h rfl
    obtain ⟨h3, h4⟩ := Sg_nil.mp h2
    refine .inr ⟨e.i, by omega, ?_⟩
    obtain ⟨i, f, j⟩ := e
    simp only at h1 h3
    subst h1 h3
    simp [KS]
theorem leaf_foot {row : Ln} {n : Str} {e : En} : e ∈ KS (leafL (.foot n) row) ↔ Wl row [star] e := by
  unfold leafL
  rw [KS_puts, KS_flat]
  simp only [List.mem_range, leafI]
  constructor
  · rintro (h | ⟨i, hi, h⟩)
    · cases h
    · unfold KS at h
      rw [List.map_map] at h
      obtain ⟨k, hk, rfl⟩ := List.mem_map.mp h
      have hk := List.mem_range.mp hk
      exact .gap [] [] _ _ _ _ rfl rfl (by omega) (Sg_nil.mpr ⟨rfl, by omega⟩) (Sg_nil.mpr ⟨rfl, by omega⟩)
  · intro h
    generalize hN : [star] = N at h
    cases h with
    | plain _ i j s g => rw [← hN, starN_star] at s; cases s
    | gap l r i x y j s1 s2 hxy g1 g2 =>
      obtain ⟨rfl, rfl⟩ := star_inj (l := []) (r := []) rfl s1 hN
      obtain ⟨rfl, h1⟩ := Sg_nil.mp g1
      obtain ⟨rfl, h2⟩ := Sg_nil.mp g2
      refine .inr ⟨i, by omega, ?_⟩
      unfold KS
      rw [List.map_map]
      refine List.mem_map.mpr ⟨y - i, List.mem_range.mpr (by omega), ?_⟩
      simp only [Function.comp]
      rw [show i + (y - i) = y by omega]
/-! pieces of a tree -/
theorem signsTs_mem : ∀ {ts : List Tr} {i : Nat} {t : Tr} {s : Str}, ts[i]? = some t → s ∈ signsT t → s ∈ signsTs ts
  | [], i, t, s, h, _ => by simp at h
  | u :: ts, i, t, s, h, hs => by
    rw [signsTs]
    cases i with
    | zero => cases h; exact List.mem_append_left _ hs
    | succ i => exact List.mem_append_right _ (signsTs_mem (by simpa using h) hs)
theorem signsT_kids (t : Tr) : ∀ s ∈ signsTs (kidsT t), s ∈ signsT t := by
  cases t with
  | knot n tk ks => intro s hs; rw [signsT]; exact hs
  | _ => intro s hs; cases hs
theorem feetTs_get : ∀ {ts : List Tr} {i : Nat} {t : Tr}, ts[i]? = some t → (feetT t).length ≤ (feetTs ts).length
  | [], i, t, h => by simp at h
  | u :: ts, i, t, h => by
    rw [feetTs, List.length_append]
    cases i with
    | zero => cases h; omega
    | succ i => have := feetTs_get (ts := ts) (i := i) (by simpa using h); omega
theorem feetT_kids (t : Tr) : (feetTs (kidsT t)).length ≤ (feetT t).length := by
  cases t with
  | knot n tk ks => rw [feetT]; exact Nat.le_refl _
  | _ => exact Nat.zero_le _
theorem piece_in : ∀ {p : Place} {t u : Tr}, pieceAt t p = some u → (∀ s ∈ signsT u, s ∈ signsT t) ∧ (feetT u).length ≤ (feetT t).length ∧ szT u ≤ szT t
  | [], t, u, h => by rw [pieceAt] at h; cases h; exact ⟨fun s hs => hs, Nat.le_refl _, Nat.le_refl _⟩
  | k :: p, t, u, h => by
    rw [pieceAt] at h
    cases hk : (kidsT t)[k]? with
    | none => rw [hk] at h; cases h
    | some v =>
      rw [hk] at h
      obtain ⟨h1, h2, h3⟩ := piece_in (p := p) h
      have h4 := szTs_mem (List.mem_of_getElem? hk)
      have h5 : szTs (kidsT t) ≤ szT t := by
        cases t with
        | knot n tk ks => rw [szT, kidsT]; omega
        | _ => exact Nat.zero_le _
      exact ⟨fun s hs => signsT_kids t s (signsTs_mem hk (h1 s hs)), by have := feetTs_get hk; have := feetT_kids t; omega, by omega⟩
structure BkM (bk : Bk) : Prop where
  nd : (bk.trees.map (·.1)).Nodup
  ns : ∀ p ∈ bk.trees, NoStar p.2
  ft : ∀ p ∈ bk.trees, (feetT p.2).length ≤ 1
  fu : ∀ p ∈ bk.trees, fullT p.2 = true
  ne : ∀ p ∈ bk.trees, signsT p.2 ≠ []
theorem fullTs_get : ∀ {ts : List Tr} {i : Nat} {t : Tr}, fullTs ts = true → ts[i]? = some t → fullT t = true
  | [], i, t, _, h => by simp at h
  | u :: ts, i, t, h, hi => by
    rw [fullTs, Bool.and_eq_true] at h
    cases i with
    | zero => cases hi; exact h.1
    | succ i => exact fullTs_get h.2 (by simpa using hi)
theorem full_kids {t : Tr} (h : fullT t = true) : fullTs (kidsT t) = true := by
  cases t with
  | knot n tk ks => rw [fullT, Bool.and_eq_true] at h; exact h.2
  | _ => rfl
theorem piece_full : ∀ {p : Place} {t u : Tr}, pieceAt t p = some u → fullT t = true → fullT u = true
  | [], t, u, h, f => by rw [pieceAt] at h; cases h; exact f
  | k :: p, t, u, h, f => by
    rw [pieceAt] at h
    cases hk : (kidsT t)[k]? with
    | none => rw [hk] at h; cases h
    | some v =>
      rw [hk] at h
      exact piece_full h (fullTs_get (full_kids f) hk)
section
variable {bk : Bk} {row : Ln} {T : Tab}
theorem seat_done {k : Str} {t : Tr} (hm : (k, t) ∈ bk.trees) (nd : (bk.trees.map (·.1)).Nodup) : (⟨k, [], true⟩ : Seat) ∈ seatsOf bk ∧ pieceOf bk (k, []) = some t := by
  have := pieceOf_of nd hm (p := []) (u := t) rfl
  exact ⟨seat_of this (.inl rfl), this⟩
theorem T_snd (M : BkM bk) (S : SndT bk row T) {k : Str} {p : Place} {u : Tr} (h : pieceOf bk (k, p) = some u) : Snd bk row u (T ⟨k, p, true⟩) := by
  intro e he
  obtain ⟨L, ⟨u', h1, h2⟩, h3⟩ := S ⟨k, p, true⟩ (seat_of h (.inl rfl)) e he
  rw [h] at h1
  cases h1
  exact ⟨L, h2, h3⟩
theorem T_snds (M : BkM bk) (S : SndT bk row T) {k : Str} {p : Place} {n : Str} {tk : Option (Str × Bool)} {ks : List Tr} (h : pieceOf bk (k, p) = some (.knot n tk ks)) : Snds bk row ks (T ⟨k, p, false⟩) := by
  intro e he
  obtain ⟨L, ⟨u', h1, h2⟩, h3⟩ := S ⟨k, p, false⟩ (seat_of h (.inr rfl)) e he
  rw [h] at h1
  cases h1
  exact ⟨L, h2, h3⟩
theorem piece_ns (M : BkM bk) {k : Str} {p : Place} {u : Tr} (h : pieceOf bk (k, p) = some u) : NoStar u ∧ (feetT u).length ≤ 1 := by
  obtain ⟨t, hm, hp⟩ := pieceOf_mem h
  obtain ⟨h1, h2, _⟩ := piece_in hp
  have := M.ft _ hm
  exact ⟨fun s hs => M.ns _ hm s (h1 s hs), by simp only at this; omega⟩
theorem concl_snd (M : BkM bk) (S : SndT bk row T) {s : Seat} (hs : s ∈ seatsOf bk) : ∀ e ∈ KS (concl bk row T s), ∃ L, BS bk s L ∧ Wl row L e := by
  obtain ⟨t, u, hm, hp, hu, hd⟩ := seat_inv M.nd hs
  obtain ⟨ns, ft⟩ := piece_ns M hu
  intro e he
  have mk : s.done = true → (∃ L, B bk u L ∧ Wl row L e) → ∃ L, BS bk s L ∧ Wl row L e := fun d ⟨L, h1, h2⟩ => ⟨L, ⟨u, hu, by rw [if_pos d]; exact h1⟩, h2⟩
  unfold concl at he
  rw [hu] at he
  cases u with
  | hole n =>
    have d : s.done = true := by rcases hd with d | d; exact d; exact absurd d (by simp only [tagT]; decide)
    refine mk d ?_
    have he : e ∈ KS (holeL T (calledOf bk (.hole n))) := he
    unfold holeL at he
    obtain ⟨g, hg, he⟩ := KS_flat.mp (KS_laid0.mp he)
    obtain ⟨t', h1, h2, h3⟩ := called_hole M.ft hg
    obtain ⟨L, h4, h5⟩ := T_snd M S (seat_done h1 M.nd).2 e he
    exact ⟨L, .hole n g t' L h1 h2 h3 h4, h5⟩
  | knot n tk ks =>
    have nsk : ∀ s ∈ signsTs ks, s ≠ star := by unfold NoStar at ns; rw [signsT] at ns; exact ns
    have ftk : (feetTs ks).length ≤ 1 := by rw [feetT] at ft; exact ft
    have he : e ∈ KS (if s.done then knotL T (mustOf tk) (T ⟨s.key, s.place, false⟩) (calledOf bk (.knot n tk ks)) else prefL (kidTabs T s.key s.place ks.length)) := he
    have SN := T_snds M S hu
    cases hsd : s.done with
    | true =>
      rw [hsd, if_pos rfl] at he
      refine mk hsd ?_
      unfold knotL at he
      rcases KS_laid.mp he with h | h
      · cases hmu : mustOf tk with
        | true => rw [hmu] at h; cases h
        | false =>
          rw [hmu, if_neg Bool.false_ne_true] at h
          obtain ⟨L, h1, h2⟩ := SN e h
          exact ⟨L, .knot n tk ks L hmu h1, h2⟩
      · obtain ⟨g, hg, h⟩ := KS_flat.mp h
        obtain ⟨o, ho, a, ha, e1, rfl⟩ := KS_round.mp (KS_laid0.mp h)
        cases tk with
        | none => rw [called_none] at hg; cases hg
        | some mb =>
          obtain ⟨m, b⟩ := mb
          obtain ⟨t', h1, h2⟩ := called_knot hg
          obtain ⟨Lo, h3, h4⟩ := T_snd M S (seat_done h1 M.nd).2 o ho
          obtain ⟨L, h5, h6⟩ := SN a ha
          have hc := ((B_count M.ns).1 h3 (M.ns _ h1)).1
          rw [h2] at hc
          have sp := star_split (L := Lo) (by rw [hc]; simp)
          have st := starN_take Lo
          generalize (Lo.takeWhile fun x => decide (x ≠ star)) = l at sp st
          generalize (Lo.dropWhile fun x => decide (x ≠ star)).tail = r at sp
          subst sp
          exact ⟨_, .wrap n m b ks L l r g t' h5 h1 h2 h3, Wl_round h4 st h6 e1⟩
    | false =>
      rw [hsd, if_neg Bool.false_ne_true] at he
      have : Snds bk row ks (prefL (kidTabs T s.key s.place ks.length)) := by
        refine pref_snd M.ns (by unfold kidTabs; simp) (fun i u d h1 h2 => ?_) nsk ftk
        rw [kids_get] at h2
        split at h2
        · cases h2
          exact T_snd M S (kid_seat hu h1)
        · cases h2
      obtain ⟨L, h1, h2⟩ := this e he
      exact ⟨L, ⟨_, hu, by rw [hsd, if_neg Bool.false_ne_true]; exact h1⟩, h2⟩
  | sign x =>
    have d : s.done = true := by rcases hd with d | d; exact d; exact absurd d (by simp only [tagT]; decide)
    exact mk d ⟨_, .sign x, (leaf_sign (ns x (by simp [signsT]))).mp he⟩
  | void =>
    have d : s.done = true := by rcases hd with d | d; exact d; exact absurd d (by simp only [tagT]; decide)
    exact mk d ⟨_, .void, leaf_void.mp he⟩
  | foot x =>
    have d : s.done = true := by rcases hd with d | d; exact d; exact absurd d (by simp only [tagT]; decide)
    exact mk d ⟨_, .foot x, leaf_foot.mp he⟩
/-- the table is closed -/
def ClT (bk : Bk) (row : Ln) (T : Tab) : Prop := ∀ s ∈ seatsOf bk, ∀ e ∈ KS (concl bk row T s), e ∈ KS (T s)
def Cmp (row L : Ln) (d : List (En × Nat)) : Prop := ∀ e, Wl row L e → e ∈ KS d
theorem Cmp_step {L M : Ln} {acc d : List (En × Nat)} (h1 : Cmp row L acc) (h2 : Cmp row M d) : Cmp row (L ++ M) (stepB acc d) := by
  intro e he
  obtain ⟨a, b, ha, hb, e1, rfl⟩ := Wl_split he
  exact KS_laid0.mpr (KS_behind.mpr ⟨a, h1 a ha, b, h2 b hb, e1, rfl⟩)
/-- the tables of the kids -/
def KidT (bk : Bk) (T : Tab) (ts : List Tr) (ds : List (List (En × Nat))) : Prop := ds.length = ts.length ∧ ∀ (i : Nat) t, ts[i]? = some t → ∃ k p, pieceOf bk (k, p) = some t ∧ ds[i]? = some (T ⟨k, p, true⟩)
theorem no_kids (M : BkM bk) {k : Str} {p : Place} {n : Str} {tk : Option (Str × Bool)} (h : pieceOf bk (k, p) = some (.knot n tk [])) : False := by
  obtain ⟨t, hm, hp⟩ := pieceOf_mem h
  have := piece_full hp (M.fu _ hm)
  rw [fullT] at this
  cases this
theorem all_told (M : BkM bk) (C : ClT bk row T) : ∀ {t : Tr} {L : Ln}, B bk t L → ∀ k p, pieceOf bk (k, p) = some t → Cmp row L (T ⟨k, p, true⟩) := by
  intro t L h
  refine B.rec (motive_1 := fun t L _ => ∀ k p, pieceOf bk (k, p) = some t → Cmp row L (T ⟨k, p, true⟩))
    (motive_2 := fun ts L _ => (∀ ds, KidT bk T ts ds → ∀ M0 acc, Cmp row M0 acc → Cmp row (M0 ++ L) (ds.foldl stepB acc)) ∧ (ts ≠ [] → ∀ ds, KidT bk T ts ds → Cmp row L (prefL ds))) ?_ ?_ ?_ ?_ ?_ ?_ ?_ ?_ h
  · intro s k p hp e he
    refine C ⟨k, p, true⟩ (seat_of hp (.inl rfl)) e ?_
    unfold concl
    rw [hp]
    exact (leaf_sign ((piece_ns M hp).1 s (by simp [signsT]))).mpr he
  · intro k p hp e he
    refine C ⟨k, p, true⟩ (seat_of hp (.inl rfl)) e ?_
    unfold concl
    rw [hp]
    exact leaf_void.mpr he
  · intro n k p hp e he
    refine C ⟨k, p, true⟩ (seat_of hp (.inl rfl)) e ?_
    unfold concl
    rw [hp]
    exact leaf_foot.mpr he
  · intro n g t L hm hf hn hB ih k p hp e he
    refine C ⟨k, p, true⟩ (seat_of hp (.inl rfl)) e ?_
    unfold concl
    rw [hp]
    exact KS_laid0.mpr (KS_flat.mpr ⟨g, of_hole hm hf hn, ih g [] (seat_done hm M.nd).2 e he⟩)
  · intro n tk ks L hmu hB ih k p hp e he
    have hin : Cmp row L (T ⟨k, p, false⟩) := by
      intro e he
      refine C ⟨k, p, false⟩ (seat_of hp (.inr rfl)) e ?_
      unfold concl
      rw [hp]
      show e ∈ KS (if (false : Bool) = true then _ else _)
      rw [if_neg Bool.false_ne_true]
      cases ks with
      | nil =>
        exact (no_kids M hp).elim
      | cons t ts => exact ih.2 (by simp) _ ⟨by unfold kidTabs; simp, fun i t hi => ⟨k, p ++ [i], kid_seat hp hi, by rw [kids_get, if_pos (List.getElem?_eq_some_iff.mp hi).1]⟩⟩ e he
    refine C ⟨k, p, true⟩ (seat_of hp (.inl rfl)) e ?_
    unfold concl
    rw [hp]
    show e ∈ KS (if (true : Bool) = true then _ else _)
    rw [if_pos rfl]
    unfold knotL
    rw [hmu]
    exact KS_laid.mpr (.inl (hin e he))
  · intro n f must ks L l r g t hB hm hf hBt ih ih2 k p hp e he
    have hin : Cmp row L (T ⟨k, p, false⟩) := by
      intro e he
      refine C ⟨k, p, false⟩ (seat_of hp (.inr rfl)) e ?_
      unfold concl
      rw [hp]
      show e ∈ KS (if (false : Bool) = true then _ else _)
      rw [if_neg Bool.false_ne_true]
      cases ks with
      | nil =>
        exact (no_kids M hp).elim
      | cons t ts => exact ih.2 (by simp) _ ⟨by unfold kidTabs; simp, fun i t hi => ⟨k, p ++ [i], kid_seat hp hi, by rw [kids_get, if_pos (List.getElem?_eq_some_iff.mp hi).1]⟩⟩ e he
    have hc := ((B_count M.ns).1 hBt (M.ns _ hm)).1
    rw [hf, starN_gap] at hc
    simp only [List.length_singleton] at hc
    obtain ⟨o, a, ho, ha, e1, rfl⟩ := Wl_unround he (by omega) (by omega)
    refine C ⟨k, p, true⟩ (seat_of hp (.inl rfl)) _ ?_
    unfold concl
    rw [hp]
    show _ ∈ KS (if (true : Bool) = true then _ else _)
    rw [if_pos rfl]
    exact KS_laid.mpr (.inr (KS_flat.mpr ⟨g, of_knot hm hf, KS_laid0.mpr (KS_round.mpr ⟨o, ih2 g [] (seat_done hm M.nd).2 o ho, a, hin a ha, e1, rfl⟩)⟩))
  · refine ⟨fun ds hd M0 acc h => ?_, fun h => absurd rfl h⟩
    have : ds = [] := List.length_eq_zero_iff.mp hd.1
    subst this
    rw [List.append_nil]
    exact h
  · intro t ts L M1 hB hBs ih ih2
    have tl : ∀ {d ds}, KidT bk T (t :: ts) (d :: ds) → KidT bk T ts ds ∧ Cmp row L d := by
      intro d ds hd
      refine ⟨⟨by have := hd.1; simpa using this, fun i t hi => ?_⟩, ?_⟩
      · obtain ⟨k, p, h1, h2⟩ := hd.2 (i + 1) t (by simpa using hi)
        exact ⟨k, p, h1, by simpa using h2⟩
      · obtain ⟨k, p, h1, h2⟩ := hd.2 0 t rfl
        simp only [List.getElem?_cons_zero, Option.some.injEq] at h2
        rw [h2]
        exact ih k p h1
    refine ⟨fun ds hd M0 acc h => ?_, fun _ ds hd => ?_⟩
    · cases ds with
      | nil => cases hd.1
      | cons d ds =>
        obtain ⟨h1, h2⟩ := tl hd
        rw [List.foldl_cons, ← List.append_assoc]
        exact ih2.1 ds h1 _ _ (Cmp_step h h2)
    · cases ds with
      | nil => cases hd.1
      | cons d ds =>
        obtain ⟨h1, h2⟩ := tl hd
        exact ih2.1 ds h1 _ _ h2
end
end K31

/-! each line has a plan -/
namespace K31
open PySem PySem.Spec PyProof.Rows L2 NK Evl
def appF : Fill → Fill → Fill
  | .nil, g => g
  | .cons pl p r, g => .cons pl p (appF r g)
theorem toL_app : ∀ f g : Fill, toL (appF f g) = toL f ++ toL g
  | .nil, g => rfl
  | .cons pl p r, g => by rw [appF, toL, toL, toL_app r g]; rfl
theorem getA_app {κ β : Type} [DecidableEq κ] : ∀ {l m : List (κ × β)} {k : κ}, getA (l ++ m) k = match getA l k with | some v => some v | none => getA m k
  | [], m, k => rfl
  | p :: l, m, k => by
    rw [List.cons_append]
    by_cases e : p.1 = k
    · rw [getA_pos e, getA_pos e]
    · rw [getA_neg e, getA_neg e, getA_app]
section
variable {bk : Bk} {PT : PTab}
theorem fill_skip {s : Site} {ss : List Site} {b : Nat} {f : Fill} (hm : s.must = false) (h : f ∈ fillL bk PT ss b) : f ∈ fillL bk PT (s :: ss) b := by
  rw [fillL, hm]
  exact List.mem_append_left _ h
theorem fill_put {s : Site} {ss : List Site} {b c : Nat} {p : Plan} {f : Fill} (hc : 1 ≤ c) (hp : p ∈ someL bk PT s c) (h : f ∈ fillL bk PT ss b) : Fill.cons s.pl p f ∈ fillL bk PT (s :: ss) (c + b) := by
  rw [fillL]
  refine List.mem_append_right _ (List.mem_flatMap.mpr ⟨c - 1, List.mem_range.mpr (by omega), List.mem_flatMap.mpr ⟨f, ?_, List.mem_map.mpr ⟨p, ?_, rfl⟩⟩⟩)
  · rw [show c + b - (c - 1 + 1) = b by omega]; exact h
  · rw [show c - 1 + 1 = c by omega]; exact hp
theorem fillL_app : ∀ {ss ss' : List Site} {a b : Nat} {f g : Fill}, f ∈ fillL bk PT ss a → g ∈ fillL bk PT ss' b → appF f g ∈ fillL bk PT (ss ++ ss') (a + b)
  | [], ss', a, b, f, g, h, h2 => by
    rw [fillL] at h
    split at h
    · rename_i e
      rw [List.mem_singleton.mp h, e, Nat.zero_add]
      exact h2
    · cases h
  | s :: ss, ss', a, b, f, g, h, h2 => by
    rw [fillL] at h
    rw [List.cons_append]
    rcases List.mem_append.mp h with h | h
    · by_cases hm : s.must = true
      · rw [if_pos hm] at h; cases h
      · rw [if_neg hm] at h
        exact fill_skip (by simpa using hm) (fillL_app h h2)
    · obtain ⟨i, hi, h⟩ := List.mem_flatMap.mp h
      obtain ⟨r, hr, h⟩ := List.mem_flatMap.mp h
      obtain ⟨p, hp, rfl⟩ := List.mem_map.mp h
      have hi := List.mem_range.mp hi
      rw [appF, show a + b = (i + 1) + ((a - (i + 1)) + b) by omega]
      exact fill_put (by omega) hp (fillL_app hr h2)
theorem fill_dom : ∀ {ss : List Site} {a : Nat} {f : Fill}, f ∈ fillL bk PT ss a → ∀ q p, (q, p) ∈ toL f → ∃ s ∈ ss, s.pl = q
  | [], a, f, h, q, p, hp => by
    rw [fillL] at h
    split at h
    · rw [List.mem_singleton.mp h] at hp; cases hp
    · cases h
  | s :: ss, a, f, h, q, p, hp => by
    rw [fillL] at h
    rcases List.mem_append.mp h with h | h
    · by_cases hm : s.must = true
      · rw [if_pos hm] at h; cases h
      · rw [if_neg hm] at h
        obtain ⟨s2, h2, e⟩ := fill_dom h q p hp
        exact ⟨s2, List.mem_cons_of_mem _ h2, e⟩
    · obtain ⟨i, hi, h⟩ := List.mem_flatMap.mp h
      obtain ⟨r, hr, h⟩ := List.mem_flatMap.mp h
      obtain ⟨p', hp', rfl⟩ := List.mem_map.mp h
      rw [toL] at hp
      rcases List.mem_cons.mp hp with e | hp
      · cases e; exact ⟨s, List.mem_cons_self, rfl⟩
      · obtain ⟨s2, h2, e⟩ := fill_dom hr q p hp
        exact ⟨s2, List.mem_cons_of_mem _ h2, e⟩
theorem rowsF_none {f : Fill} {q : Place} (h : ∀ p, (q, p) ∉ toL f) : rowsF bk f q = none := by
  rw [rowsF_get]
  cases hg : getA (toL f) q with
  | none => rfl
  | some p => exact absurd (getA_mem hg) (h p)
theorem rowsF_app (f g : Fill) (q : Place) : rowsF bk (appF f g) q = match rowsF bk f q with | some v => some v | none => rowsF bk g q := by
  rw [rowsF_get, rowsF_get, rowsF_get, toL_app, getA_app]
  cases getA (toL f) q <;> rfl
theorem PTn_up {n c : Nat} {k : Str} (h : c ≤ n) : PTn bk n k c = PTn bk c k c := by
  induction n with
  | zero => rw [show c = 0 by omega]
  | succ n ih =>
    by_cases e : c = n + 1
    · rw [e]
    · rw [PTn_le bk (by omega)]
      exact ih (by omega)
theorem calledL_of {gr : Bool} {nm k : Str} {t : Tr} (hm : (k, t) ∈ bk.trees) (h : if gr then feetT t = [nm] else feetT t = [] ∧ nameT t = nm) : k ∈ calledL bk gr nm := by
  unfold calledL
  refine List.mem_map.mpr ⟨_, List.mem_filter.mpr ⟨hm, ?_⟩, rfl⟩
  cases gr with
  | true => simpa using h
  | false => simpa using h
theorem someL_of {s : Site} {c : Nat} {k : Str} {p : Plan} (hk : k ∈ calledL bk s.gr s.nm) (hp : p ∈ PT k c) : p ∈ someL bk PT s c := List.mem_flatMap.mpr ⟨k, hk, hp⟩
theorem plan_of (M : BkM bk) {k : Str} {t : Tr} {L : Ln} (hm : (k, t) ∈ bk.trees) (ho : ownT t ≤ wt L)
    (h : ∀ m, wt L ≤ ownT t + m → ∃ f ∈ fillL bk (PTn bk m) (sitesT t []) (wt L - ownT t), ∀ F : Place → Option Ln, (∀ r, F r = rowsF bk f r) → lineT F t [] = L) :
    0 < wt L ∧ ∀ n, wt L ≤ n → ∃ p ∈ PTn bk n k (wt L), rowP bk p = L := by
  have h1 : 0 < ownT t := List.length_pos_iff.mpr (M.ne _ hm)
  refine ⟨by omega, fun n hn => ?_⟩
  obtain ⟨f, hf, hl⟩ := h (wt L - 1) (by omega)
  refine ⟨.mk k f, ?_, ?_⟩
  · rw [PTn_up hn]
    obtain ⟨c, hc⟩ : ∃ c, wt L = c + 1 := ⟨wt L - 1, by omega⟩
    rw [hc, PTn_succ, if_pos rfl]
    unfold freshL
    rw [getA_of_mem M.nd hm]
    show Plan.mk k f ∈ freshT bk (PTn bk c) k t (c + 1)
    unfold freshT
    rw [if_pos (by omega)]
    refine List.mem_map.mpr ⟨f, ?_, rfl⟩
    rw [hc] at hf
    exact hf
  · rw [rowP, getA_of_mem M.nd hm]
    exact hl _ fun r => rfl
theorem piece_plan (M : BkM bk) : ∀ {u : Tr} {L : Ln}, B bk u L → NoStar u → ∀ q m, wt L ≤ ownT u + m → ∃ f ∈ fillL bk (PTn bk m) (sitesT u q) (wt L - ownT u), ∀ F : Place → Option Ln, (∀ r, F (q ++ r) = rowsF bk f (q ++ r)) → lineT F u q = L := by
  intro u L h
  refine B.rec (motive_1 := fun u L _ => NoStar u → ∀ q m, wt L ≤ ownT u + m → ∃ f ∈ fillL bk (PTn bk m) (sitesT u q) (wt L - ownT u), ∀ F : Place → Option Ln, (∀ r, F (q ++ r) = rowsF bk f (q ++ r)) → lineT F u q = L)
    (motive_2 := fun ts L _ => (∀ s ∈ signsTs ts, s ≠ star) → ∀ q k m, wt L ≤ (signsTs ts).length + m → ∃ f ∈ fillL bk (PTn bk m) (sitesTs ts q k) (wt L - (signsTs ts).length), ∀ F : Place → Option Ln, (∀ i r, k ≤ i → F (q ++ i :: r) = rowsF bk f (q ++ i :: r)) → lineTs F ts q k = L) ?_ ?_ ?_ ?_ ?_ ?_ ?_ ?_ h
  · intro s ns q m hw
    refine ⟨.nil, ?_, fun F _ => by rw [lineT]⟩
    rw [wt_sign (ns s (by simp [signsT])), sitesT, fillL]
    simp [ownT, signsT]
  · intro ns q m hw
    refine ⟨.nil, ?_, fun F _ => by rw [lineT]⟩
    rw [sitesT, fillL]
    simp [ownT, signsT, wt]
  · intro n ns q m hw
    refine ⟨.nil, ?_, fun F _ => by rw [lineT]⟩
    rw [sitesT, fillL]
    simp [ownT, signsT, wt_star]
  · intro n k t L hm hf hn hB ih _ q m hw
    have h0 : ownT (.hole n) = 0 := rfl
    rw [h0] at hw ⊢
    have ho := ((B_count M.ns).1 hB (M.ns _ hm)).2
    obtain ⟨h1, h2⟩ := plan_of M hm ho fun m hm' => by
      obtain ⟨f, h1, h2⟩ := ih (M.ns _ hm) [] m hm'
      exact ⟨f, h1, fun F hF => h2 F fun r => hF r⟩
    obtain ⟨p, hp, hr⟩ := h2 m (by omega)
    refine ⟨.cons q p .nil, ?_, fun F hF => ?_⟩
    · rw [sitesT]
      have := fill_put (s := ⟨q, false, n, true⟩) (ss := []) (b := 0) (f := .nil) (PT := PTn bk m) h1 (someL_of (calledL_of hm (by simp [hf, hn])) hp) (by rw [fillL]; simp)
      exact this
    · have := hF []
      rw [List.append_nil, rowsF, if_pos rfl, hr] at this
      rw [lineT, this]
      rfl
  · intro n tk ks L hmu hB ih ns q m hw
    have e0 : ownT (.knot n tk ks) = (signsTs ks).length := by unfold ownT; rw [signsT]
    rw [e0] at hw ⊢
    obtain ⟨f, h1, h2⟩ := ih (by unfold NoStar at ns; rw [signsT] at ns; exact ns) q 0 m hw
    refine ⟨f, ?_, fun F hF => ?_⟩
    · rw [sitesT]
      cases tk with
      | none => exact h1
      | some gb =>
        obtain ⟨g, b⟩ := gb
        exact fill_skip hmu h1
    · have hq : F q = none := by
        have := hF []
        rw [List.append_nil] at this
        rw [this]
        refine rowsF_none fun p hp => ?_
        obtain ⟨s, hs, e⟩ := fill_dom h1 q p hp
        obtain ⟨i, t', q', u, _, h4, _⟩ := sites_piece ks q 0 s hs
        rw [e] at h4
        have := congrArg List.length h4
        simp at this
      rw [lineT, hq]
      exact h2 F fun i r _ => hF (i :: r)
  · intro n g must ks L l r k t hB hm hf hBt ih ih2 ns q m hw
    have e0 : ownT (.knot n (some (g, must)) ks) = (signsTs ks).length := by unfold ownT; rw [signsT]
    have nsk : ∀ s ∈ signsTs ks, s ≠ star := by unfold NoStar at ns; rw [signsT] at ns; exact ns
    have hoL := ((B_count M.ns).2 hB nsk).2
    obtain ⟨hst, hoT⟩ := (B_count M.ns).1 hBt (M.ns _ hm)
    rw [hf, starN_gap] at hst
    simp only [List.length_singleton] at hst
    have ew : wt (l ++ star :: r) = wt l + wt r := by rw [wt_app, wt_cons_star]
    rw [e0] at hw ⊢
    rw [wt_app, wt_app] at hw ⊢
    obtain ⟨h1, h2⟩ := plan_of M hm hoT fun m hm' => by
      obtain ⟨f, h1, h2⟩ := ih2 (M.ns _ hm) [] m hm'
      exact ⟨f, h1, fun F hF => h2 F fun r => hF r⟩
    obtain ⟨p, hp, hr⟩ := h2 m (by omega)
    obtain ⟨f, h3, h4⟩ := ih nsk q 0 m (by omega)
    refine ⟨.cons q p f, ?_, fun F hF => ?_⟩
    · rw [sitesT]
      have := fill_put (s := ⟨q, true, g, must⟩) (PT := PTn bk m) h1 (someL_of (calledL_of hm (by simp [hf])) hp) h3
      rw [ew, show wt l + wt r + (wt L - (signsTs ks).length) = wt l + wt L + wt r - (signsTs ks).length by omega] at this
      exact this
    · have hq : F q = some (l ++ star :: r) := by
        have := hF []
        rw [List.append_nil, rowsF, if_pos rfl, hr] at this
        exact this
      have hk := h4 F fun i r' _ => by
        rw [hF (i :: r'), rowsF, if_neg (fun e => by have := congrArg List.length e; simp at this)]
      rw [lineT, hq]
      show wrapL (l ++ star :: r) (lineTs F ks q 0) = _
      rw [hk]
      have sl : ∀ {l : Ln}, starN l = 0 → (l ++ star :: r).takeWhile (fun x => decide (x ≠ star)) = l ∧ (l ++ star :: r).dropWhile (fun x => decide (x ≠ star)) = star :: r := by
        intro l
        induction l with
        | nil => intro _; exact ⟨by rw [List.nil_append, List.takeWhile_cons_of_neg (by simp)], by rw [List.nil_append, List.dropWhile_cons_of_neg (by simp)]⟩
        | cons a l ih =>
          intro h
          have e : a ≠ star := fun e => by rw [e, starN_cons_star] at h; omega
          have g := starN_app [a] l
          rw [List.singleton_append] at g
          obtain ⟨i1, i2⟩ := ih (by omega)
          exact ⟨by rw [List.cons_append, List.takeWhile_cons_of_pos (by simpa using e), i1], by rw [List.cons_append, List.dropWhile_cons_of_pos (by simpa using e), i2]⟩
      obtain ⟨s1, s2⟩ := sl (l := l) (by omega)
      unfold wrapL
      rw [s1, s2]
      rfl
  · intro _ q k m hw
    refine ⟨.nil, ?_, fun F _ => by rw [lineTs]⟩
    rw [sitesTs, fillL]
    simp [signsTs, wt]
  · intro t ts L N hB hBs ih ih2 ns q k m hw
    rw [wt_app, signsTs, List.length_append] at hw ⊢
    have n1 : NoStar t := fun s hs => ns s (by rw [signsTs]; exact List.mem_append_left _ hs)
    have n2 : ∀ s ∈ signsTs ts, s ≠ star := fun s hs => ns s (by rw [signsTs]; exact List.mem_append_right _ hs)
    have o1 := ((B_count M.ns).1 hB n1).2
    have o2 := ((B_count M.ns).2 hBs n2).2
    have eo : ownT t = (signsT t).length := rfl
    rw [eo] at o1
    obtain ⟨f1, h1, h2⟩ := ih n1 (q ++ [k]) m (by rw [eo]; omega)
    obtain ⟨f2, h3, h4⟩ := ih2 n2 q (k + 1) m (by omega)
    refine ⟨appF f1 f2, ?_, fun F hF => ?_⟩
    · rw [sitesTs]
      have := fillL_app h1 h3
      rw [eo, show wt L - (signsT t).length + (wt N - (signsTs ts).length) = wt L + wt N - ((signsT t).length + (signsTs ts).length) by omega] at this
      exact this
    · rw [lineTs, h2 F fun r => ?_, h4 F fun i r hi => ?_]
      · rw [hF i r (by omega), rowsF_app]
        have : rowsF bk f1 (q ++ i :: r) = none := rowsF_none fun p hp => by
          obtain ⟨s, hs, e⟩ := fill_dom h1 _ p hp
          obtain ⟨q', u, h5, _⟩ := site_piece t (q ++ [k]) s hs
          rw [e, List.append_assoc] at h5
          have := List.append_cancel_left h5
          simp at this
          omega
        rw [this]
      · rw [List.append_assoc, List.singleton_append, hF k r (Nat.le_refl _), rowsF_app]
        have : rowsF bk f2 (q ++ k :: r) = none := rowsF_none fun p hp => by
          obtain ⟨s, hs, e⟩ := fill_dom h3 _ p hp
          obtain ⟨i, t', q', u, _, h5, _⟩ := sites_piece ts q (k + 1) s hs
          rw [e] at h5
          have := List.append_cancel_left h5
          simp at this
          omega
        rw [this]
        cases rowsF bk f1 (q ++ k :: r) <;> rfl
theorem line_plan (M : BkM bk) {k : Str} {t : Tr} {L : Ln} (hm : (k, t) ∈ bk.trees) (h : B bk t L) {n : Nat} (hn : wt L ≤ n) : 0 < wt L ∧ ∃ p ∈ PTn bk n k (wt L), rowP bk p = L := by
  obtain ⟨h1, h2⟩ := plan_of M hm ((B_count M.ns).1 h (M.ns _ hm)).2 fun m hm' => by
    obtain ⟨f, h1, h2⟩ := piece_plan M h (M.ns _ hm) [] m hm'
    exact ⟨f, h1, fun F hF => h2 F fun r => hF r⟩
  exact ⟨h1, h2 n hn⟩
/-- what the table tells of a tree is what its plans tell -/
theorem whole_iff {row : Ln} {T : Tab} (M : BkM bk) (S : SndT bk row T) (C : ClT bk row T) {n : Nat} (hr : row.length ≤ n) {k : Str} {t : Tr} (hm : (k, t) ∈ bk.trees) (e : En) :
    e ∈ KS (T ⟨k, [], true⟩) ↔ ∃ c ∈ cnts n, ∃ p ∈ PTn bk n k c, e ∈ strL row (rowP bk p) := by
  have ds := seat_done hm M.nd
  have str : ∀ {L : Ln}, B bk t L → (e ∈ strL row L ↔ Wl row L e) := fun hB => by
    have h1 := (B_count M.ns).1 hB (M.ns _ hm)
    have h2 : 0 < ownT t := List.length_pos_iff.mpr (M.ne _ hm)
    have h3 := M.ft _ hm
    refine mem_strL ?_ (by rw [h1.1]; exact h3)
    rw [len_wt]; omega
  constructor
  · intro he
    obtain ⟨L, hB, hw⟩ := T_snd M S ds.2 e he
    have hwt : wt L ≤ n := by rw [← Wl_wt hw]; exact Nat.le_trans (wtE_le (Wl_ev hw)) hr
    obtain ⟨h1, p, hp, hrow⟩ := line_plan M hm hB hwt
    exact ⟨wt L, mem_cnts.mpr ⟨h1, hwt⟩, p, hp, by rw [hrow]; exact (str hB).mpr hw⟩
  · rintro ⟨c, hc, p, hp, he⟩
    have hB := row_B M.ns M.nd n hp t hm
    exact all_told M C hB k [] ds.2 e ((str hB).mp he)
end
end K31

/-! all ends of a short row; their hashes -/
namespace K31
open PySem PySem.Spec PyProof.Rows L2 NK Evl
@[irreducible] def AE (n : Nat) : List En := ((List.range (n + 1)).flatMap fun i => (List.range (n + 1)).flatMap fun j => (⟨i, none, j⟩ : En) :: (List.range (n + 1)).flatMap fun x => (List.range (n + 1)).map fun y => ⟨i, some (x, y), j⟩).filter fun e => decide (Eok n e)
theorem mem_AE {n : Nat} {e : En} : e ∈ AE n ↔ Eok n e := by
  unfold AE
  rw [List.mem_filter, decide_eq_true_eq]
  constructor
  · exact fun h => h.2
  · intro h
    refine ⟨?_, h⟩
    obtain ⟨i, f, j⟩ := e
    unfold Eok at h
    cases f with
    | none =>
      simp only at h
      exact List.mem_flatMap.mpr ⟨i, List.mem_range.mpr (by omega), List.mem_flatMap.mpr ⟨j, List.mem_range.mpr (by omega), List.mem_cons_self⟩⟩
    | some p =>
      obtain ⟨x, y⟩ := p
      simp only at h
      exact List.mem_flatMap.mpr ⟨i, List.mem_range.mpr (by omega), List.mem_flatMap.mpr ⟨j, List.mem_range.mpr (by omega), List.mem_cons_of_mem _ (List.mem_flatMap.mpr ⟨x, List.mem_range.mpr (by omega), List.mem_map.mpr ⟨y, List.mem_range.mpr (by omega), rfl⟩⟩)⟩⟩
theorem AE_nd : (AE 4).Nodup := by decide +kernel
theorem AE_four : (AE 4).length ≤ 85 := by decide +kernel
def hashE (e : En) : Int := reduceHash (Builtin.Tuple.tupleHashOf [hashInt (Int.ofNat e.i), hashInt (gA e.f), hashInt (gB e.f), hashInt (Int.ofNat e.j)])
theorem hash_eq (w : World) (e : En) : (keyDa (encE e)).hash w = hashE e := by
  simp only [encE, keyDa, keysOf, NestedKey.hash, NestedKey.hashes]
  rfl
theorem hash_four : ((AE 4).map hashE).Nodup := by decide +kernel

theorem nodup_len {α : Type} [DecidableEq α] : ∀ {l A : List α}, l.Nodup → (∀ x ∈ l, x ∈ A) → l.length ≤ A.length
  | [], A, _, _ => Nat.zero_le _
  | a :: l, A, nd, h => by
    rw [List.nodup_cons] at nd
    have ha := h a List.mem_cons_self
    have h1 := nodup_len (A := A.erase a) nd.2 fun x hx => (List.mem_erase_of_ne (fun e : x = a => nd.1 (by rw [← e]; exact hx))).mpr (h x (List.mem_cons_of_mem _ hx))
    rw [List.length_erase_of_mem ha] at h1
    have := List.length_pos_of_mem ha
    rw [List.length_cons]
    omega
theorem inj_of_nodup {α β : Type} {f : α → β} : ∀ {l : List α}, (l.map f).Nodup → ∀ a ∈ l, ∀ b ∈ l, f a = f b → a = b
  | [], _, a, ha, _, _, _ => by cases ha
  | c :: l, nd, a, ha, b, hb, e => by
    rw [List.map_cons, List.nodup_cons] at nd
    rcases List.mem_cons.mp ha with h1 | h1
    · rcases List.mem_cons.mp hb with h2 | h2
      · rw [h1, h2]
      · exact absurd (List.mem_map.mpr ⟨b, h2, by rw [← e, h1]⟩) nd.1
    · rcases List.mem_cons.mp hb with h2 | h2
      · exact absurd (List.mem_map.mpr ⟨a, h1, by rw [e, h2]⟩) nd.1
      · exact inj_of_nodup nd.2 a h1 b h2 e
/-- a list of ends with numbers as it should be -/
structure Gd (n : Nat) (l : List (En × Nat)) : Prop where
  nd : (KS l).Nodup
  ev : ∀ e ∈ KS l, Eok n e
  ps : ∀ p ∈ l, 0 < p.2
def Pd (n : Nat) (C : List (En × Nat)) : Prop := ∀ c ∈ C, Eok n c.1 ∧ 0 < c.2
section
variable {n : Nat} {l m C D : List (En × Nat)} {e : En}
theorem Eok_le (hn : n ≤ 4) (h : Eok n e) : Eok 4 e := by
  unfold Eok at *
  split <;> simp_all <;> omega
theorem Gd.len (g : Gd n l) (hn : n ≤ 4) : l.length ≤ 85 := by
  have := nodup_len g.nd (A := AE 4) fun x hx => mem_AE.mpr (Eok_le hn (g.ev x hx))
  unfold KS at this
  rw [List.length_map] at this
  exact Nat.le_trans this AE_four
theorem hash_inj {a b : En} (ha : Eok 4 a) (hb : Eok 4 b) (e : hashE a = hashE b) : a = b := inj_of_nodup (f := hashE) (l := AE 4) hash_four a (mem_AE.mpr ha) b (mem_AE.mpr hb) e
theorem hash_map (w : World) (l : List (En × Nat)) : (l.map fun x => (keyDa (encE x.1)).hash w) = (KS l).map hashE := by
  induction l with
  | nil => rfl
  | cons p l ih =>
    have h := hash_eq w p.1
    unfold KS at ih ⊢
    rw [List.map_cons, List.map_cons, List.map_cons, ih, h]
theorem nodup_inj {α β : Type} {f : α → β} {l : List α} (nd : l.Nodup) (h : ∀ a ∈ l, ∀ b ∈ l, f a = f b → a = b) : (l.map f).Nodup := by
  unfold List.Nodup at nd ⊢
  rw [List.pairwise_map]
  exact List.Pairwise.imp_of_mem (fun {a b} ha hb q e => q (h a ha b hb e)) nd
theorem Gd.hash (g : Gd n l) (hn : n ≤ 4) (w : World) : HashOk w l := by
  unfold HashOk
  rw [hash_map]
  exact nodup_inj g.nd fun a ha b hb e => hash_inj (Eok_le hn (g.ev a ha)) (Eok_le hn (g.ev b hb)) e
theorem Gd.pd (g : Gd n l) : Pd n l := fun c hc => ⟨g.ev c.1 (KS_mem.mpr ⟨c.2, hc⟩), g.ps c hc⟩
theorem Gd_nil : Gd n [] := ⟨List.nodup_nil, fun _ h => (nomatch h), fun _ h => (nomatch h)⟩
theorem Gd_put {k : En} {v : Nat} (g : Gd n l) (hk : Eok n k) (hv : 0 < v) : Gd n (putA l k v) := by
  refine ⟨putA_nodup g.nd, fun e he => ?_, fun p hp => ?_⟩
  · rcases KS_put.mp he with rfl | h
    · exact hk
    · exact g.ev e h
  · rcases putA_mem hp with rfl | h
    · exact hv
    · exact g.ps p h.1
theorem Gd_add {k : En} {v : Nat} (g : Gd n l) (hk : Eok n k) (hv : 0 < v) : Gd n (addL l k v) := Gd_put g hk (by split <;> omega)
theorem Gd_laid : ∀ {C l : List (En × Nat)}, Gd n l → Pd n C → Gd n (laidOn l C)
  | [], l, g, _ => g
  | c :: C, l, g, p => Gd_laid (C := C) (l := addL l c.1 c.2) (Gd_add g (p c List.mem_cons_self).1 (p c List.mem_cons_self).2) fun x hx => p x (List.mem_cons_of_mem _ hx)
theorem Gd_puts : ∀ {C l : List (En × Nat)}, Gd n l → Pd n C → Gd n (putsL l C)
  | [], l, g, _ => g
  | c :: C, l, g, p => Gd_puts (C := C) (l := putA l c.1 c.2) (Gd_put g (p c List.mem_cons_self).1 (p c List.mem_cons_self).2) fun x hx => p x (List.mem_cons_of_mem _ hx)
theorem Pd_behind (g : Pd n l) (h : Pd n m) : Pd n (behindC l m) := by
  intro c hc
  unfold behindC at hc
  obtain ⟨x, hx, hc⟩ := List.mem_flatMap.mp hc
  obtain ⟨y, hy, rfl⟩ := List.mem_map.mp hc
  obtain ⟨hy, e⟩ := List.mem_filter.mp hy
  exact ⟨(Eok_join (g x hx).1 (h y hy).1 (of_decide_eq_true e)).1, Nat.mul_pos (g x hx).2 (h y hy).2⟩
theorem Pd_round (g : Pd n l) (h : Pd n m) : Pd n (roundC l m) := by
  intro c hc
  unfold roundC at hc
  obtain ⟨x, hx, hc⟩ := List.mem_flatMap.mp hc
  obtain ⟨y, hy, rfl⟩ := List.mem_map.mp hc
  obtain ⟨hy, e⟩ := List.mem_filter.mp hy
  exact ⟨(Eok_round (g x hx).1 (h y hy).1 (of_decide_eq_true e)).1, Nat.mul_pos (g x hx).2 (h y hy).2⟩
theorem Pd_flat {α : Type} {L : List α} {f : α → List (En × Nat)} (h : ∀ x ∈ L, Pd n (f x)) : Pd n (L.flatMap f) := by
  intro c hc
  obtain ⟨x, hx, hc⟩ := List.mem_flatMap.mp hc
  exact h x hx c hc
theorem Gd_step (g : Gd n l) (h : Gd n m) : Gd n (stepB l m) := Gd_laid Gd_nil (Pd_behind g.pd h.pd)
theorem Gd_fold : ∀ {ds : List (List (En × Nat))} {acc : List (En × Nat)}, Gd n acc → (∀ d ∈ ds, Gd n d) → Gd n (ds.foldl stepB acc)
  | [], acc, g, _ => g
  | d :: ds, acc, g, h => Gd_fold (ds := ds) (Gd_step g (h d List.mem_cons_self)) fun x hx => h x (List.mem_cons_of_mem _ hx)
theorem Gd_pref {ds : List (List (En × Nat))} (h : ∀ d ∈ ds, Gd n d) : Gd n (prefL ds) := by
  cases ds with
  | nil => exact Gd_nil
  | cons d ds => exact Gd_fold (h d List.mem_cons_self) fun x hx => h x (List.mem_cons_of_mem _ hx)
end
/-! numbers -/
def cnt (l : List (En × Nat)) (e : En) : Nat := (getA l e).getD 0
def Sm (l : List (En × Nat)) (h : En → Nat) : Nat := sumN (l.map fun p => h p.1 * p.2)
def ind (e x : En) : Nat := if x = e then 1 else 0
section
variable {n : Nat} {l m C D : List (En × Nat)} {e k : En} {h h' : En → Nat}
theorem cnt_put {v : Nat} : cnt (putA l k v) e = if e = k then v else cnt l e := by
  unfold cnt
  rw [getA_put]
  split <;> rfl
theorem cnt_add {v : Nat} : cnt (addL l k v) e = cnt l e + ind e k * v := by
  unfold addL ind
  rw [cnt_put]
  by_cases h : e = k
  · subst h
    rw [if_pos rfl, if_pos rfl]
    unfold cnt
    cases getA l e <;> simp
  · rw [if_neg h, if_neg (fun z => h z.symm)]; simp
theorem Sm_cons {p : En × Nat} : Sm (p :: l) h = h p.1 * p.2 + Sm l h := rfl
theorem Sm_nil : Sm [] h = 0 := rfl
theorem Sm_app : Sm (l ++ m) h = Sm l h + Sm m h := by unfold Sm; rw [List.map_append, sumN_app]
theorem cnt_laid : ∀ {C l : List (En × Nat)}, cnt (laidOn l C) e = cnt l e + Sm C (ind e)
  | [], l => rfl
  | c :: C, l => by
    show cnt (laidOn (addL l c.1 c.2) C) e = _
    rw [cnt_laid, cnt_add, Sm_cons]
    omega
theorem cnt_laid0 : cnt (laidOn [] C) e = Sm C (ind e) := by
  rw [cnt_laid]
  show 0 + _ = _
  omega
theorem Sm_flat {α : Type} {f : α → List (En × Nat)} : ∀ {L : List α}, Sm (L.flatMap f) h = sumN (L.map fun x => Sm (f x) h)
  | [] => rfl
  | x :: L => by rw [List.flatMap_cons, Sm_app, Sm_flat, List.map_cons, sumN_cons]
theorem Sm_sel (P : En → Prop) [DecidablePred P] (g : En → En) (c : Nat) : Sm ((m.filter fun y => decide (P y.1)).map fun y => (g y.1, c * y.2)) h = (Sm m fun b => if P b then h (g b) else 0) * c := by
  induction m with
  | nil => rw [Sm_nil]; simp [Sm_nil]
  | cons y m ih =>
    rw [Sm_cons, Nat.add_mul, ← ih, List.filter_cons]
    by_cases e : P y.1
    · rw [if_pos (decide_eq_true e), List.map_cons, Sm_cons, if_pos e, Nat.mul_assoc, Nat.mul_comm y.2]
    · rw [if_neg (by simpa using e), if_neg e]; simp
theorem Sm_behind : Sm (behindC l m) h = Sm l fun a => Sm m fun b => if b.i = a.j then h (joinE a b) else 0 := by
  unfold behindC
  rw [Sm_flat]
  show _ = sumN (l.map fun x => (Sm m fun b => if b.i = x.1.j then h (joinE x.1 b) else 0) * x.2)
  congr 1
  refine List.map_congr_left fun x _ => ?_
  exact Sm_sel (fun b => b.i = x.1.j) (joinE x.1) x.2
theorem Sm_round : Sm (roundC l m) h = Sm l fun a => Sm m fun b => if a.f = some (b.i, b.j) then h (roundE a b) else 0 := by
  unfold roundC
  rw [Sm_flat]
  show _ = sumN (l.map fun x => (Sm m fun b => if x.1.f = some (b.i, b.j) then h (roundE x.1 b) else 0) * x.2)
  congr 1
  refine List.map_congr_left fun x _ => ?_
  exact Sm_sel (fun b => x.1.f = some (b.i, b.j)) (roundE x.1) x.2
theorem Sm_le (q : ∀ x, h x ≤ h' x) : Sm l h ≤ Sm l h' := by
  induction l with
  | nil => exact Nat.le_refl _
  | cons p l ih =>
    rw [Sm_cons, Sm_cons]
    have := Nat.mul_le_mul_right p.2 (q p.1)
    omega
theorem Sm_bnd {N M c : Nat} (hl : l.length ≤ N) (q : ∀ p ∈ l, h p.1 * p.2 * c ≤ M) : Sm l h * c ≤ N * M := by
  have : Sm l h * c ≤ l.length * M := by
    clear hl
    induction l with
    | nil => rw [Sm_nil]; simp
    | cons p l ih =>
      rw [Sm_cons, Nat.add_mul, List.length_cons, Nat.succ_mul]
      have h1 := q p List.mem_cons_self
      have h2 := ih fun x hx => q x (List.mem_cons_of_mem _ hx)
      omega
  exact Nat.le_trans this (Nat.mul_le_mul_right M hl)
def Dm (l m : List (En × Nat)) : Prop := ∀ e, cnt l e ≤ cnt m e
theorem cnt_cons {p : En × Nat} : cnt (p :: l) e = if p.1 = e then p.2 else cnt l e := by
  unfold cnt
  by_cases h : p.1 = e
  · rw [getA_pos h, if_pos h]; rfl
  · rw [getA_neg h, if_neg h]
theorem cnt_no (h : e ∉ KS l) : cnt l e = 0 := by
  unfold cnt
  cases hg : getA l e with
  | none => rfl
  | some v => exact absurd (KS_mem.mpr ⟨v, getA_mem hg⟩) h
theorem cnt_mem {v : Nat} (nd : (KS l).Nodup) (h : (e, v) ∈ l) : cnt l e = v := by
  unfold cnt
  rw [getA_of_mem nd h]; rfl
theorem cnt_pos (nd : (KS l).Nodup) (ps : ∀ p ∈ l, 0 < p.2) : e ∈ KS l ↔ 0 < cnt l e := by
  constructor
  · intro he
    obtain ⟨v, hv⟩ := KS_mem.mp he
    rw [cnt_mem nd hv]
    exact ps _ hv
  · intro hc
    by_cases h : e ∈ KS l
    · exact h
    · rw [cnt_no h] at hc; omega
def dropE (k : En) (l : List (En × Nat)) : List (En × Nat) := l.filter fun p => decide (p.1 ≠ k)
theorem cnt_drop (ne : e ≠ k) : cnt (dropE k l) e = cnt l e := by
  induction l with
  | nil => rfl
  | cons p l ih =>
    unfold dropE at ih ⊢
    rw [List.filter_cons]
    by_cases h : p.1 = k
    · rw [if_neg (by simpa using h), ih, cnt_cons, if_neg (fun z => ne (z.symm.trans h))]
    · rw [if_pos (by simpa using h), cnt_cons, cnt_cons, ih]
theorem Sm_dropE : h k * cnt l k + Sm (dropE k l) h ≤ Sm l h := by
  induction l with
  | nil => show h k * 0 + 0 ≤ 0; omega
  | cons p l ih =>
    unfold dropE at ih ⊢
    rw [List.filter_cons, Sm_cons]
    by_cases e : p.1 = k
    · rw [if_neg (by simpa using e), cnt_cons, if_pos e, e]
      have h1 : 0 ≤ h k * cnt l k := Nat.zero_le _
      omega
    · rw [if_pos (by simpa using e), cnt_cons, if_neg e, Sm_cons]
      omega
theorem Sm_mono : ∀ {l m : List (En × Nat)}, (KS l).Nodup → Dm l m → Sm l h ≤ Sm m h
  | [], m, _, _ => Nat.zero_le _
  | p :: l, m, nd, d => by
    have nd' : p.1 ∉ KS l ∧ (KS l).Nodup := by unfold KS at nd ⊢; rw [List.map_cons, List.nodup_cons] at nd; exact nd
    have h1 := d p.1
    rw [cnt_cons, if_pos rfl] at h1
    have h2 : Sm l h ≤ Sm (dropE p.1 m) h := Sm_mono nd'.2 fun e => by
      by_cases q : e = p.1
      · subst q
        rw [cnt_no nd'.1]; exact Nat.zero_le _
      · rw [cnt_drop q]
        have := d e
        rw [cnt_cons, if_neg (fun z => q z.symm)] at this
        exact this
    have h3 := Sm_dropE (h := h) (k := p.1) (l := m)
    have h4 := Nat.mul_le_mul_left (h p.1) h1
    rw [Sm_cons]
    omega
theorem Dm_step {l' m' : List (En × Nat)} (g : (KS l).Nodup) (q : (KS m).Nodup) (d1 : Dm l l') (d2 : Dm m m') : Dm (stepB l m) (stepB l' m') := by
  intro e
  unfold stepB
  rw [cnt_laid0, cnt_laid0, Sm_behind, Sm_behind]
  exact Nat.le_trans (Sm_mono g d1) (Sm_le fun a => Sm_mono q d2)
theorem Dm_round {l' m' : List (En × Nat)} (g : (KS l).Nodup) (q : (KS m).Nodup) (d1 : Dm l l') (d2 : Dm m m') : Dm (laidOn [] (roundC l m)) (laidOn [] (roundC l' m')) := by
  intro e
  rw [cnt_laid0, cnt_laid0, Sm_round, Sm_round]
  exact Nat.le_trans (Sm_mono g d1) (Sm_le fun a => Sm_mono q d2)
theorem sumN_mono {α : Type} {L : List α} {f g : α → Nat} (q : ∀ x ∈ L, f x ≤ g x) : sumN (L.map f) ≤ sumN (L.map g) := by
  induction L with
  | nil => exact Nat.le_refl _
  | cons x L ih =>
    rw [List.map_cons, List.map_cons, sumN_cons, sumN_cons]
    have h1 := q x List.mem_cons_self
    have h2 := ih fun y hy => q y (List.mem_cons_of_mem _ hy)
    omega
theorem sumN_lt {α : Type} {L : List α} {f g : α → Nat} (q : ∀ x ∈ L, f x ≤ g x) {y : α} (hy : y ∈ L) (s : f y < g y) : sumN (L.map f) < sumN (L.map g) := by
  induction L with
  | nil => cases hy
  | cons x L ih =>
    rw [List.map_cons, List.map_cons, sumN_cons, sumN_cons]
    have h1 := q x List.mem_cons_self
    have h2 := sumN_mono (L := L) (f := f) (g := g) fun y hy => q y (List.mem_cons_of_mem _ hy)
    rcases List.mem_cons.mp hy with e | hy
    · rw [← e]; rw [← e] at h1; omega
    · have := ih (fun y hy => q y (List.mem_cons_of_mem _ hy)) hy
      omega
theorem sumN_bnd {α : Type} {L : List α} {f : α → Nat} {N M : Nat} (hl : L.length ≤ N) (q : ∀ x ∈ L, f x ≤ M) : sumN (L.map f) ≤ N * M := by
  have : sumN (L.map f) ≤ L.length * M := by
    clear hl
    induction L with
    | nil => exact Nat.zero_le _
    | cons x L ih =>
      rw [List.map_cons, sumN_cons, List.length_cons, Nat.succ_mul]
      have h1 := q x List.mem_cons_self
      have h2 := ih fun y hy => q y (List.mem_cons_of_mem _ hy)
      omega
  exact Nat.le_trans this (Nat.mul_le_mul_right M hl)
end
end K31

/-! bounds of the numbers; the filling ends -/
namespace K31
open PySem PySem.Spec PyProof.Rows L2 NK Evl
@[irreducible] def cA : Nat := 10000
@[irreducible] def cB : Nat := 5 * (cA * cA ^ 100)
theorem cA_eq : cA = 100 * 100 := by unfold cA; rfl
theorem cB_eq : cB = 5 * (cA * cA ^ 100) := by unfold cB; rfl
theorem cA_pos : 2 ≤ cA := by rw [cA_eq]; decide
theorem cA_pow (z : Nat) : 1 ≤ cA ^ z := Nat.one_le_pow _ _ (by have := cA_pos; omega)
theorem cB_pos : 1 ≤ cB := by
  rw [cB_eq]
  have h1 := cA_pow 100
  have h2 := Nat.mul_le_mul cA_pos h1
  omega
def cU : Nat := cA ^ 200 * cB ^ 4
theorem cU_lim : cU < lim := by
  unfold cU lim
  rw [cB_eq, cA_eq]
  decide +kernel
def bU (z o : Nat) (e : En) : Nat := if o ≤ wtE e then cA ^ z * cB ^ (wtE e - o) else 0
def Ub (l : List (En × Nat)) (z o : Nat) : Prop := ∀ e, cnt l e ≤ bU z o e
section
variable {n z o z1 z2 o1 o2 : Nat} {l m one other : List (En × Nat)} {e a b : En}
theorem cB_pow (z : Nat) : 1 ≤ cB ^ z := Nat.one_le_pow _ _ cB_pos
theorem bU_succ : cA * bU z o e = bU (z + 1) o e := by
  unfold bU
  split
  · rw [Nat.pow_succ, ← Nat.mul_assoc, Nat.mul_comm cA]
  · simp
theorem bU_le (h : z1 ≤ z2) : bU z1 o e ≤ bU z2 o e := by
  unfold bU
  split
  · exact Nat.mul_le_mul_right _ (Nat.pow_le_pow_right (by have := cA_pos; omega) h)
  · exact Nat.le_refl _
theorem bU_mul (h : wtE a + wtE b ≤ wtE e) : bU z1 o1 a * bU z2 o2 b ≤ bU (z1 + z2) (o1 + o2) e := by
  unfold bU
  by_cases h1 : o1 ≤ wtE a
  · by_cases h2 : o2 ≤ wtE b
    · rw [if_pos h1, if_pos h2, if_pos (by omega)]
      have e1 : cA ^ z1 * cB ^ (wtE a - o1) * (cA ^ z2 * cB ^ (wtE b - o2)) = cA ^ (z1 + z2) * cB ^ ((wtE a - o1) + (wtE b - o2)) := by
        rw [Nat.pow_add, Nat.pow_add]
        simp only [Nat.mul_assoc, Nat.mul_left_comm, Nat.mul_comm]
      rw [e1]
      exact Nat.mul_le_mul_left _ (Nat.pow_le_pow_right cB_pos (by omega))
    · rw [if_neg h2]; simp
  · rw [if_neg h1]; simp
theorem bU_max (hw : wtE e ≤ 4) (hz : z ≤ 200) : bU z o e ≤ cU := by
  unfold bU cU
  split
  · exact Nat.mul_le_mul (Nat.pow_le_pow_right (by have := cA_pos; omega) hz) (Nat.pow_le_pow_right cB_pos (by omega))
  · exact Nat.zero_le _
theorem Ub.up (u : Ub l z1 o) (h : z1 ≤ z2) : Ub l z2 o := fun e => Nat.le_trans (u e) (bU_le h)
theorem pair_bnd (P : En → En → Prop) [∀ a b, Decidable (P a b)] (g : En → En → En) (l1 : one.length ≤ 100) (l2 : other.length ≤ 100) (n1 : (KS one).Nodup) (n2 : (KS other).Nodup) (hg : ∀ a ∈ KS one, ∀ b ∈ KS other, P a b → wtE a + wtE b ≤ wtE (g a b)) (u1 : Ub one z1 o1) (u2 : Ub other z2 o2) :
    (Sm one fun a => Sm other fun b => if P a b then ind e (g a b) else 0) ≤ bU (z1 + z2 + 1) (o1 + o2) e := by
  have h := Sm_bnd (l := one) (h := fun a => Sm other fun b => if P a b then ind e (g a b) else 0) (N := 100) (M := 100 * bU (z1 + z2) (o1 + o2) e) (c := 1) l1 fun p hp => by
    rw [Nat.mul_one]
    refine Sm_bnd (l := other) (c := p.2) l2 fun q hq => ?_
    by_cases hP : P p.1 q.1
    · simp only [if_pos hP]
      unfold ind
      by_cases he : g p.1 q.1 = e
      · rw [if_pos he, Nat.one_mul, Nat.mul_comm]
        have k1 : p.1 ∈ KS one := KS_mem.mpr ⟨p.2, hp⟩
        have k2 : q.1 ∈ KS other := KS_mem.mpr ⟨q.2, hq⟩
        have c1 := u1 p.1
        have c2 := u2 q.1
        rw [cnt_mem n1 hp] at c1
        rw [cnt_mem n2 hq] at c2
        exact Nat.le_trans (Nat.mul_le_mul c1 c2) (bU_mul (by rw [← he]; exact hg _ k1 _ k2 hP))
      · rw [if_neg he]; simp
    · simp only [if_neg hP]; simp
  rw [Nat.mul_one] at h
  refine Nat.le_trans h (Nat.le_of_eq ?_)
  rw [← Nat.mul_assoc, ← cA_eq, bU_succ]
theorem Ub_step (hn : n ≤ 4) (g1 : Gd n one) (g2 : Gd n other) (u1 : Ub one z1 o1) (u2 : Ub other z2 o2) : Ub (stepB one other) (z1 + z2 + 1) (o1 + o2) := by
  intro e
  unfold stepB
  rw [cnt_laid0, Sm_behind]
  exact pair_bnd (fun a b => b.i = a.j) joinE (by have := g1.len hn; omega) (by have := g2.len hn; omega) g1.nd g2.nd (fun a ha b hb h => (Eok_join (g1.ev a ha) (g2.ev b hb) h).2) u1 u2
theorem Ub_round (hn : n ≤ 4) (g1 : Gd n one) (g2 : Gd n other) (u1 : Ub one z1 o1) (u2 : Ub other z2 o2) : Ub (laidOn [] (roundC one other)) (z1 + z2 + 1) (o1 + o2) := by
  intro e
  rw [cnt_laid0, Sm_round]
  exact pair_bnd (fun a b => a.f = some (b.i, b.j)) roundE (by have := g1.len hn; omega) (by have := g2.len hn; omega) g1.nd g2.nd (fun a ha b hb h => Nat.le_of_eq (Eok_round (g1.ev a ha) (g2.ev b hb) h).2.symm) u1 u2
theorem Ub_nil : Ub [] z o := fun e => Nat.zero_le _
end
mutual
def zT : Tr → Nat
  | .knot _ _ ks => zTs ks + 1
  | .sign _ => 0
  | .void => 0
  | .hole _ => 0
  | .foot _ => 0
def zTs : List Tr → Nat
  | [] => 0
  | t :: ts => zT t + 1 + zTs ts
end
mutual
theorem zT_sz : ∀ t : Tr, zT t + 1 ≤ 2 * szT t
  | .knot _ _ ks => by have := zTs_sz ks; rw [zT, szT]; omega
  | .sign _ => by rw [zT, szT]; omega
  | .void => by rw [zT, szT]; omega
  | .hole _ => by rw [zT, szT]; omega
  | .foot _ => by rw [zT, szT]; omega
theorem zTs_sz : ∀ ts : List Tr, zTs ts ≤ 2 * szTs ts
  | [] => Nat.le_refl _
  | t :: ts => by have := zT_sz t; have := zTs_sz ts; rw [zTs, szTs]; omega
end
theorem zTs_take : ∀ (ts : List Tr) (k : Nat), zTs (ts.take k) ≤ zTs ts
  | [], k => by simp
  | t :: ts, 0 => Nat.zero_le _
  | t :: ts, k + 1 => by have := zTs_take ts k; rw [List.take_succ_cons, zTs, zTs]; omega
section
variable {n : Nat}
/-- the tables of the kids are good and bounded -/
def KidG (n : Nat) (us : List Tr) (ds : List (List (En × Nat))) : Prop := ds.length = us.length ∧ ∀ (i : Nat) u d, us[i]? = some u → ds[i]? = some d → Gd n d ∧ Ub d (zT u) (ownT u)
theorem KidG.tl {u : Tr} {us : List Tr} {d : List (En × Nat)} {ds : List (List (En × Nat))} (h : KidG n (u :: us) (d :: ds)) : KidG n us ds := ⟨by simpa using h.1, fun i v d' h1 h2 => h.2 (i + 1) v d' (by simpa using h1) (by simpa using h2)⟩
theorem Ub_fold (hn : n ≤ 4) : ∀ {us : List Tr} {ds : List (List (En × Nat))} {acc : List (En × Nat)} {z o : Nat}, KidG n us ds → Gd n acc → Ub acc z o → Ub (ds.foldl stepB acc) (z + zTs us) (o + (signsTs us).length)
  | [], [], acc, z, o, _, _, u => u
  | [], _ :: _, _, _, _, h, _, _ => by cases h.1
  | _ :: _, [], _, _, _, h, _, _ => by cases h.1
  | v :: us, d :: ds, acc, z, o, h, g, u => by
    obtain ⟨g1, u1⟩ := h.2 0 v d rfl rfl
    have := Ub_fold hn (us := us) (ds := ds) h.tl (Gd_step g g1) (Ub_step hn g g1 u u1)
    rw [List.foldl_cons, zTs, signsTs, List.length_append]
    unfold ownT at this
    rw [show z + (zT v + 1 + zTs us) = z + zT v + 1 + zTs us by omega, show o + ((signsT v).length + (signsTs us).length) = o + (signsT v).length + (signsTs us).length by omega]
    exact this
theorem Ub_pref (hn : n ≤ 4) {us : List Tr} {ds : List (List (En × Nat))} (h : KidG n us ds) : Gd n (prefL ds) ∧ Ub (prefL ds) (zTs us) (signsTs us).length := by
  cases ds with
  | nil => exact ⟨Gd_nil, Ub_nil⟩
  | cons d ds =>
    cases us with
    | nil => cases h.1
    | cons u us =>
      obtain ⟨g1, u1⟩ := h.2 0 u d rfl rfl
      refine ⟨Gd_pref fun d' hd => ?_, ?_⟩
      · obtain ⟨i, hi⟩ := List.mem_iff_getElem?.mp hd
        obtain ⟨v, hv⟩ : ∃ v, (u :: us)[i]? = some v := ⟨(u :: us)[i]'(by rw [← h.1]; exact (List.getElem?_eq_some_iff.mp hi).1), List.getElem?_eq_getElem _⟩
        exact (h.2 i v d' hv hi).1
      · have := Ub_fold hn (us := us) (ds := ds) h.tl g1 (u1.up (Nat.le_succ _))
        rw [zTs, signsTs, List.length_append]
        exact this
end
/-! one conclusion -/
def zS (d : Bool) (u : Tr) : Nat := if d then zT u else zTs (kidsT u)
structure Tin (bk : Bk) (n : Nat) (T : Tab) : Prop where
  gd : ∀ s ∈ seatsOf bk, Gd n (T s)
  ub : ∀ s ∈ seatsOf bk, ∀ u, pieceOf bk (s.key, s.place) = some u → Ub (T s) (zS s.done u) (ownT u)
structure BkL (bk : Bk) : Prop extends BkM bk where
  sz : ∀ p ∈ bk.trees, szT p.2 ≤ 50
  n5 : bk.trees.length ≤ 5
  ht : ∀ p ∈ bk.trees, htT p.2 < 8
section
variable {bk : Bk} {row : Ln} {T T' : Tab} {n : Nat}
theorem called_mem {g : Str} {u : Tr} (h : g ∈ calledOf bk u) : ∃ t, (g, t) ∈ bk.trees := by
  unfold calledOf at h
  obtain ⟨⟨g', t⟩, hm, rfl⟩ := List.mem_map.mp h
  exact ⟨t, (List.mem_filter.mp hm).1⟩
theorem called_len (u : Tr) : (calledOf bk u).length ≤ bk.trees.length := by
  unfold calledOf
  rw [List.length_map]
  exact List.length_filter_le _ _
theorem root_tab (M : BkL bk) (I : Tin bk n T) {g : Str} {t : Tr} (hm : (g, t) ∈ bk.trees) : Gd n (T ⟨g, [], true⟩) ∧ Ub (T ⟨g, [], true⟩) 99 (ownT t) ∧ 1 ≤ ownT t := by
  obtain ⟨h1, h2⟩ := seat_done hm M.nd
  have h3 := I.ub _ h1 t h2
  have h4 := zT_sz t
  have h5 := M.sz _ hm
  exact ⟨I.gd _ h1, h3.up (by show zT t ≤ 99; simp only at h5; omega), List.length_pos_iff.mpr (M.ne _ hm)⟩
theorem kids_G (I : Tin bk n T) {k : Str} {p : Place} {m : Str} {tk : Option (Str × Bool)} {ks : List Tr} (h : pieceOf bk (k, p) = some (.knot m tk ks)) {j : Nat} (hj : j ≤ ks.length) : KidG n (ks.take j) (kidTabs T k p j) := by
  refine ⟨by unfold kidTabs; rw [List.length_map, List.length_range, List.length_take]; omega, fun i u d h1 h2 => ?_⟩
  rw [kids_get] at h2
  split at h2
  · rename_i hi
    cases h2
    rw [List.getElem?_take_of_lt hi] at h1
    have hp := kid_seat h h1
    have hs := seat_of (s := ⟨k, p ++ [i], true⟩) hp (.inl rfl)
    exact ⟨I.gd _ hs, I.ub _ hs u hp⟩
  · cases h2
theorem leafs_one {t : Tr} (row : Ln) (nh : tagT t ≠ "hole") (nk : tagT t ≠ "knot") : ∀ p ∈ leafL t row, p.2 = 1 := by
  have h1 : ∀ i, ∀ c ∈ leafI t row i, c.2 = 1 := by
    intro i c hc
    cases t with
    | hole n => exact absurd rfl nh
    | knot a b c => exact absurd rfl nk
    | void => rw [List.mem_singleton.mp hc]
    | foot n =>
      obtain ⟨k, _, rfl⟩ := List.mem_map.mp hc
      rfl
    | sign s =>
      simp only [leafI] at hc
      split at hc
      · rw [List.mem_singleton.mp hc]
      · cases hc
  have h2 : ∀ (C l : List (En × Nat)), (∀ c ∈ l, c.2 = 1) → (∀ c ∈ C, c.2 = 1) → ∀ c ∈ putsL l C, c.2 = 1 := by
    intro C
    induction C with
    | nil => intro l h _; exact h
    | cons x C ih =>
      intro l h h' 
      refine ih (putA l x.1 x.2) (fun c hc => ?_) fun c hc => h' c (List.mem_cons_of_mem _ hc)
      rcases putA_mem hc with e | e
      · rw [e]; exact h' x List.mem_cons_self
      · exact h c e.1
  refine h2 _ _ (fun c hc => nomatch hc) fun c hc => ?_
  obtain ⟨i, _, hc⟩ := List.mem_flatMap.mp hc
  exact h1 i c hc
theorem leaf_line {t : Tr} (nh : tagT t ≠ "hole") (nk : tagT t ≠ "knot") (ns : NoStar t) : ∃ L, wt L = ownT t ∧ ∀ e, e ∈ KS (leafL t row) ↔ Wl row L e := by
  cases t with
  | hole n => exact absurd rfl nh
  | knot a b c => exact absurd rfl nk
  | void => exact ⟨[], rfl, fun e => leaf_void⟩
  | foot n => exact ⟨[star], wt_star, fun e => leaf_foot⟩
  | sign s =>
    have := ns s (by simp [signsT])
    exact ⟨[s], by rw [wt_sign this]; rfl, fun e => leaf_sign this⟩
theorem puts_nd : ∀ {C l : List (En × Nat)}, (KS l).Nodup → (KS (putsL l C)).Nodup
  | [], l, h => h
  | c :: C, l, h => puts_nd (C := C) (putA_nodup h)
theorem leaf_good {t : Tr} (nh : tagT t ≠ "hole") (nk : tagT t ≠ "knot") (ns : NoStar t) : Gd row.length (leafL t row) ∧ Ub (leafL t row) (zT t) (ownT t) := by
  obtain ⟨L, h1, h2⟩ := leaf_line (row := row) nh nk ns
  have nd : (KS (leafL t row)).Nodup := puts_nd List.nodup_nil
  refine ⟨⟨nd, fun e he => Wl_ev ((h2 e).mp he), fun p hp => by rw [leafs_one row nh nk p hp]; decide⟩, fun e => ?_⟩
  by_cases he : e ∈ KS (leafL t row)
  · obtain ⟨v, hv⟩ := KS_mem.mp he
    have e1 : v = 1 := leafs_one row nh nk _ hv
    rw [cnt_mem nd hv, e1]
    have e2 := Wl_wt ((h2 e).mp he)
    unfold bU
    rw [if_pos (by rw [e2, h1]; exact Nat.le_refl _)]
    exact Nat.mul_le_mul (cA_pow _) (cB_pow _)
  · rw [cnt_no he]; exact Nat.zero_le _
theorem knot_good (M : BkL bk) (hn : n ≤ 4) (I : Tin bk n T) {inner : List (En × Nat)} {z o : Nat} (g : Gd n inner) (u : Ub inner z o) (must : Bool) {gs : List Str} (hg : ∀ x ∈ gs, ∃ t, (x, t) ∈ bk.trees) (hl : gs.length ≤ 5) : Gd n (knotL T must inner gs) ∧ Ub (knotL T must inner gs) (z + 1) o := by
  have gi : Gd n (if must then [] else inner) := by cases must; exact g; exact Gd_nil
  refine ⟨Gd_laid gi (Pd_flat fun x hx => ?_), fun e => ?_⟩
  · obtain ⟨t, hm⟩ := hg x hx
    exact (Gd_laid Gd_nil (Pd_round (root_tab M I hm).1.pd g.pd)).pd
  · unfold knotL
    rw [cnt_laid, Sm_flat]
    have b1 : cnt (if must then [] else inner) e ≤ bU z o e := by
      cases must with
      | false => exact u e
      | true => exact Nat.zero_le _
    have b2 : sumN (gs.map fun x => Sm (laidOn [] (roundC (T ⟨x, [], true⟩) inner)) (ind e)) ≤ 5 * bU (99 + z + 1) (1 + o) e := by
      refine sumN_bnd hl fun x hx => ?_
      obtain ⟨t, hm⟩ := hg x hx
      obtain ⟨h1, h2, h3⟩ := root_tab M I hm
      have h4 := Ub_round hn h1 g h2 u e
      have h5 : Sm (laidOn [] (roundC (T ⟨x, [], true⟩) inner)) (ind e) ≤ cnt (laidOn [] (roundC (T ⟨x, [], true⟩) inner)) e := by
        have nd := (Gd_laid Gd_nil (Pd_round h1.pd g.pd)).nd
        generalize laidOn [] (roundC (T ⟨x, [], true⟩) inner) = l at nd
        clear h4
        induction l with
        | nil => exact Nat.le_refl _
        | cons p l ih =>
          have nd' : p.1 ∉ KS l ∧ (KS l).Nodup := by unfold KS at nd ⊢; rw [List.map_cons, List.nodup_cons] at nd; exact nd
          rw [Sm_cons, cnt_cons]
          have := ih nd'.2
          unfold ind at this ⊢
          by_cases q : p.1 = e
          · rw [if_pos q, if_pos q]
            rw [cnt_no (by rw [← q]; exact nd'.1)] at this
            omega
          · rw [if_neg q, if_neg q]; omega
      refine Nat.le_trans h5 (Nat.le_trans h4 ?_)
      -- more own signs: less
      unfold bU
      by_cases q : ownT t + o ≤ wtE e
      · rw [if_pos q, if_pos (by omega)]
        exact Nat.mul_le_mul_left _ (Nat.pow_le_pow_right cB_pos (by omega))
      · rw [if_neg q]; exact Nat.zero_le _
    have b3 : 5 * bU (99 + z + 1) (1 + o) e ≤ bU z o e := by
      unfold bU
      by_cases q : 1 + o ≤ wtE e
      · rw [if_pos q, if_pos (by omega)]
        have e1 : wtE e - o = (wtE e - (1 + o)) + 1 := by omega
        rw [e1, show cB ^ (wtE e - (1 + o) + 1) = cB ^ (wtE e - (1 + o)) * cB from Nat.pow_succ _ _]
        have e2 : 5 * (cA ^ (99 + z + 1) * cB ^ (wtE e - (1 + o))) = cA ^ z * (cB ^ (wtE e - (1 + o)) * (5 * cA ^ 100)) := by
          rw [show 99 + z + 1 = z + 100 by omega, Nat.pow_add]
          simp only [Nat.mul_assoc, Nat.mul_left_comm, Nat.mul_comm]
        rw [e2]
        refine Nat.mul_le_mul_left _ (Nat.mul_le_mul_left _ ?_)
        rw [cB_eq]
        refine Nat.mul_le_mul_left _ ?_
        have := Nat.mul_le_mul_right (cA ^ 100) (show 1 ≤ cA by have := cA_pos; omega)
        omega
      · rw [if_neg q]; simp
    have b4 : 2 * bU z o e ≤ bU (z + 1) o e := by
      rw [← bU_succ]
      exact Nat.mul_le_mul_right _ cA_pos
    omega
theorem hole_good (M : BkL bk) (I : Tin bk n T) {gs : List Str} (hg : ∀ x ∈ gs, ∃ t, (x, t) ∈ bk.trees) (hl : gs.length ≤ 5) : Gd n (holeL T gs) ∧ Ub (holeL T gs) 0 0 := by
  refine ⟨Gd_laid Gd_nil (Pd_flat fun x hx => ?_), fun e => ?_⟩
  · obtain ⟨t, hm⟩ := hg x hx
    exact (root_tab M I hm).1.pd
  · unfold holeL
    rw [cnt_laid0, Sm_flat]
    have b2 : sumN (gs.map fun x => Sm (T ⟨x, [], true⟩) (ind e)) ≤ 5 * bU 99 1 e := by
      refine sumN_bnd hl fun x hx => ?_
      obtain ⟨t, hm⟩ := hg x hx
      obtain ⟨h1, h2, h3⟩ := root_tab M I hm
      have h4 := h2 e
      have h5 : Sm (T ⟨x, [], true⟩) (ind e) ≤ cnt (T ⟨x, [], true⟩) e := by
        have nd := h1.nd
        generalize T ⟨x, [], true⟩ = l at nd
        clear h4
        induction l with
        | nil => exact Nat.le_refl _
        | cons p l ih =>
          have nd' : p.1 ∉ KS l ∧ (KS l).Nodup := by unfold KS at nd ⊢; rw [List.map_cons, List.nodup_cons] at nd; exact nd
          rw [Sm_cons, cnt_cons]
          have := ih nd'.2
          unfold ind at this ⊢
          by_cases q : p.1 = e
          · rw [if_pos q, if_pos q]
            rw [cnt_no (by rw [← q]; exact nd'.1)] at this
            omega
          · rw [if_neg q, if_neg q]; omega
      refine Nat.le_trans h5 (Nat.le_trans h4 ?_)
      unfold bU
      by_cases q : ownT t ≤ wtE e
      · rw [if_pos q, if_pos (by omega)]
        exact Nat.mul_le_mul_left _ (Nat.pow_le_pow_right cB_pos (by omega))
      · rw [if_neg q]; exact Nat.zero_le _
    refine Nat.le_trans b2 ?_
    unfold bU
    by_cases q : 1 ≤ wtE e
    · rw [if_pos q, if_pos (by omega), Nat.pow_zero, Nat.one_mul]
      have e1 : wtE e - 0 = (wtE e - 1) + 1 := by omega
      rw [e1, show cB ^ (wtE e - 1 + 1) = cB ^ (wtE e - 1) * cB from Nat.pow_succ _ _]
      have e2 : 5 * (cA ^ 99 * cB ^ (wtE e - 1)) = cB ^ (wtE e - 1) * (5 * cA ^ 99) := by
        simp only [Nat.mul_assoc, Nat.mul_left_comm, Nat.mul_comm]
      rw [e2]
      refine Nat.mul_le_mul_left _ ?_
      rw [cB_eq]
      refine Nat.mul_le_mul_left _ ?_
      have h1 := Nat.mul_le_mul_right (cA ^ 100) (show 1 ≤ cA by have := cA_pos; omega)
      have h2 := Nat.pow_le_pow_right (show 0 < cA by have := cA_pos; omega) (show 99 ≤ 100 by decide)
      omega
    · rw [if_neg q]; simp
theorem concl_good (M : BkL bk) (hr : row.length ≤ 4) (I : Tin bk row.length T) {s : Seat} (hs : s ∈ seatsOf bk) : Gd row.length (concl bk row T s) ∧ ∀ u, pieceOf bk (s.key, s.place) = some u → Ub (concl bk row T s) (zS s.done u) (ownT u) := by
  obtain ⟨t, u, hm, hp, hu, hd⟩ := seat_inv M.nd hs
  obtain ⟨ns, ft⟩ := piece_ns M.toBkM hu
  have dn : tagT u ≠ "knot" → zS s.done u = zT u := fun h => by
    rcases hd with d | d
    · rw [d]; rfl
    · exact absurd d h
  suffices Gd row.length (concl bk row T s) ∧ Ub (concl bk row T s) (zS s.done u) (ownT u) by
    refine ⟨this.1, fun v hv => ?_⟩
    rw [hu] at hv
    cases hv
    exact this.2
  have n5 := M.n5
  have hc : ∀ u : Tr, (calledOf bk u).length ≤ 5 := fun u => Nat.le_trans (called_len u) n5
  have hcm : ∀ u : Tr, ∀ x ∈ calledOf bk u, ∃ t, (x, t) ∈ bk.trees := fun u x hx => called_mem hx
  cases u with
  | hole m =>
    rw [dn (by simp only [tagT]; decide)]
    unfold concl
    rw [hu]
    exact hole_good M I (hcm _) (hc _)
  | knot m tk ks =>
    have e0 : ownT (.knot m tk ks) = (signsTs ks).length := by unfold ownT; rw [signsT]
    rw [e0]
    unfold concl
    rw [hu]
    show Gd row.length (if s.done then _ else _) ∧ Ub (if s.done then _ else _) _ _
    cases hsd : s.done with
    | true =>
      rw [if_pos rfl]
      have hf := seat_of (s := ⟨s.key, s.place, false⟩) hu (.inr rfl)
      have u1 := I.ub _ hf _ hu
      rw [e0] at u1
      have := knot_good M hr I (I.gd _ hf) u1 (mustOf tk) (hcm (.knot m tk ks)) (hc _)
      exact this
    | false =>
      rw [if_neg Bool.false_ne_true]
      have := Ub_pref hr (kids_G I hu (Nat.le_refl _))
      rw [List.take_length] at this
      exact this
  | sign x =>
    rw [dn (by simp only [tagT]; decide)]
    unfold concl
    rw [hu]
    exact leaf_good (by simp only [tagT]; decide) (by simp only [tagT]; decide) ns
  | void =>
    rw [dn (by simp only [tagT]; decide)]
    unfold concl
    rw [hu]
    exact leaf_good (by simp only [tagT]; decide) (by simp only [tagT]; decide) ns
  | foot x =>
    rw [dn (by simp only [tagT]; decide)]
    unfold concl
    rw [hu]
    exact leaf_good (by simp only [tagT]; decide) (by simp only [tagT]; decide) ns
def DmT (bk : Bk) (T T' : Tab) : Prop := ∀ s ∈ seatsOf bk, Dm (T s) (T' s)
theorem Dm_fold : ∀ {ds ds' : List (List (En × Nat))} {acc acc' : List (En × Nat)}, ds.length = ds'.length → (∀ (i : Nat) d d', ds[i]? = some d → ds'[i]? = some d' → Gd n d ∧ Dm d d') → Gd n acc → Dm acc acc' → Dm (ds.foldl stepB acc) (ds'.foldl stepB acc')
  | [], [], acc, acc', _, _, _, h => h
  | [], _ :: _, _, _, h, _, _, _ => by cases h
  | _ :: _, [], _, _, h, _, _, _ => by cases h
  | d :: ds, d' :: ds', acc, acc', hl, hd, g, h => by
    obtain ⟨g1, d1⟩ := hd 0 d d' rfl rfl
    exact Dm_fold (ds := ds) (ds' := ds') (by simpa using hl) (fun i x y h1 h2 => hd (i + 1) x y (by simpa using h1) (by simpa using h2)) (Gd_step g g1) (Dm_step g.nd g1.nd h d1)
theorem Dm_pref {ds ds' : List (List (En × Nat))} (hl : ds.length = ds'.length) (hd : ∀ (i : Nat) d d', ds[i]? = some d → ds'[i]? = some d' → Gd n d ∧ Dm d d') : Dm (prefL ds) (prefL ds') := by
  cases ds with
  | nil => intro e; exact Nat.zero_le _
  | cons d ds =>
    cases ds' with
    | nil => cases hl
    | cons d' ds' =>
      obtain ⟨g1, d1⟩ := hd 0 d d' rfl rfl
      exact Dm_fold (by simpa using hl) (fun i x y h1 h2 => hd (i + 1) x y (by simpa using h1) (by simpa using h2)) g1 d1
theorem concl_mono (M : BkL bk) (I : Tin bk row.length T) (D : DmT bk T T') {s : Seat} (hs : s ∈ seatsOf bk) : Dm (concl bk row T s) (concl bk row T' s) := by
  obtain ⟨t, u, hm, hp, hu, hd⟩ := seat_inv M.nd hs
  have rt : ∀ u : Tr, ∀ x ∈ calledOf bk u, (⟨x, [], true⟩ : Seat) ∈ seatsOf bk := fun u x hx => by
    obtain ⟨t, hm⟩ := called_mem hx
    exact (seat_done hm M.nd).1
  intro e
  cases u with
  | hole m =>
    unfold concl
    rw [hu]
    show cnt (holeL T _) e ≤ cnt (holeL T' _) e
    unfold holeL
    rw [cnt_laid0, cnt_laid0, Sm_flat, Sm_flat]
    exact sumN_mono fun x hx => Sm_mono (I.gd _ (rt _ x hx)).nd (D _ (rt _ x hx))
  | knot m tk ks =>
    unfold concl
    rw [hu]
    show cnt (if s.done then _ else _) e ≤ cnt (if s.done then _ else _) e
    cases hsd : s.done with
    | true =>
      rw [if_pos rfl, if_pos rfl]
      have hf := seat_of (s := ⟨s.key, s.place, false⟩) hu (.inr rfl)
      have gf := I.gd _ hf
      have df := D _ hf
      unfold knotL
      rw [cnt_laid, cnt_laid, Sm_flat, Sm_flat]
      have h1 : cnt (if mustOf tk then [] else T ⟨s.key, s.place, false⟩) e ≤ cnt (if mustOf tk then [] else T' ⟨s.key, s.place, false⟩) e := by
        cases mustOf tk with
        | true => exact Nat.le_refl _
        | false => exact df e
      have h2 := sumN_mono (L := calledOf bk (.knot m tk ks)) (f := fun x => Sm (laidOn [] (roundC (T ⟨x, [], true⟩) (T ⟨s.key, s.place, false⟩))) (ind e)) (g := fun x => Sm (laidOn [] (roundC (T' ⟨x, [], true⟩) (T' ⟨s.key, s.place, false⟩))) (ind e)) fun x hx => by
        have gx := I.gd _ (rt _ x hx)
        exact Sm_mono (Gd_laid Gd_nil (Pd_round gx.pd gf.pd)).nd (Dm_round gx.nd gf.nd (D _ (rt _ x hx)) df)
      omega
    | false =>
      rw [if_neg Bool.false_ne_true, if_neg Bool.false_ne_true]
      refine Dm_pref (n := row.length) (by unfold kidTabs; simp) (fun i d d' h1 h2 => ?_) e
      rw [kids_get] at h1 h2
      split at h1
      · rename_i hi
        rw [if_pos hi] at h2
        cases h1
        cases h2
        have hs := seat_of (s := ⟨s.key, s.place ++ [i], true⟩) (kid_seat hu (List.getElem?_eq_getElem hi)) (.inl rfl)
        exact ⟨I.gd _ hs, D _ hs⟩
      · cases h1
  | sign x =>
    unfold concl
    rw [hu]
    exact Nat.le_refl _
  | void =>
    unfold concl
    rw [hu]
    exact Nat.le_refl _
  | foot x =>
    unfold concl
    rw [hu]
    exact Nat.le_refl _
end
end K31

/-! the filling's invariant -/
namespace K31
open PySem PySem.Spec PyProof.Rows L2 NK Evl
structure IvT (bk : Bk) (row : Ln) (T : Tab) : Prop extends Tin bk row.length T where
  gr : ∀ s ∈ seatsOf bk, Dm (T s) (concl bk row T s)
  so : SndT bk row T
def muT (bk : Bk) (T : Tab) : Nat := sumN ((seatsOf bk).map fun s => sumN ((AE 4).map fun e => cU - cnt (T s) e))
section
variable {bk : Bk} {row : Ln} {T : Tab} {n : Nat} {l m : List (En × Nat)}
theorem get_nk {e : En} : ∀ l : List (En × Nat), ((nkE l).find? fun y => decide (y.1 = keyDa (encE e))).map (·.2) = (getA l e).map fun v => Int.ofNat v
  | [] => rfl
  | p :: l => by
    have ih := get_nk (e := e) l
    unfold nkE at ih ⊢
    rw [List.map_cons]
    by_cases h : p.1 = e
    · rw [getA_pos h, List.find?_cons_of_pos (by rw [h]; simp)]
      rfl
    · rw [getA_neg h, List.find?_cons_of_neg (by simp only [decide_eq_true_eq]; exact fun z => h (keyE.inj _ _ z))]
      exact ih
theorem sameE_get (h : sameE l m = true) {e : En} {v : Nat} (hm : (e, v) ∈ l) : getA m e = some v := by
  unfold sameE sameD at h
  rw [Bool.and_eq_true] at h
  have h2 := List.all_eq_true.mp h.2 (keyDa (encE e), Int.ofNat v) (List.mem_map.mpr ⟨(e, v), hm, rfl⟩)
  have h2 := of_decide_eq_true h2
  rw [get_nk] at h2
  cases hg : getA m e with
  | none => rw [hg] at h2; cases h2
  | some x =>
    rw [hg] at h2
    simp only [Option.map_some, Option.some.injEq] at h2
    rw [Int.ofNat_inj.mp h2]
theorem sameE_sub (h : sameE l m = true) : ∀ e ∈ KS l, e ∈ KS m := fun e he => by
  obtain ⟨v, hv⟩ := KS_mem.mp he
  exact KS_mem.mpr ⟨v, getA_mem (sameE_get h hv)⟩
theorem sameE_of (g : Gd n l) (q : Gd n m) (h : ∀ e, cnt l e = cnt m e) : sameE l m = true := by
  have sub : ∀ {l m : List (En × Nat)}, Gd n l → Gd n m → (∀ e, cnt l e = cnt m e) → ∀ e ∈ KS l, e ∈ KS m := fun g q h e he => by
    rw [cnt_pos q.nd q.ps, ← h e, ← cnt_pos g.nd g.ps]
    exact he
  have h1 := nodup_len g.nd (sub g q h)
  have h2 := nodup_len q.nd (sub q g fun e => (h e).symm)
  unfold sameE sameD
  rw [Bool.and_eq_true]
  refine ⟨?_, List.all_eq_true.mpr fun x hx => ?_⟩
  · unfold KS at h1 h2
    rw [List.length_map, List.length_map] at h1 h2
    unfold nkE
    rw [List.length_map, List.length_map]
    exact beq_iff_eq.mpr (by omega)
  · obtain ⟨⟨e, v⟩, hm, rfl⟩ := List.mem_map.mp hx
    refine decide_eq_true ?_
    show ((nkE m).find? fun y => decide (y.1 = keyDa (encE e))).map (·.2) = some (Int.ofNat v)
    rw [get_nk]
    have h3 := h e
    rw [cnt_mem g.nd hm] at h3
    have h4 := g.ps _ hm
    unfold cnt at h3
    cases hg : getA m e with
    | none =>
      rw [hg] at h3
      have h3 : v = 0 := h3
      simp only at h4
      omega
    | some x =>
      rw [hg] at h3
      have h3 : v = x := h3
      rw [h3]; rfl
theorem place_len {t u : Tr} {p : Place} (h : pieceAt t p = some u) : p.length ≤ htT t := placesT_ht t p (places_of h)
theorem small_of (g : Gd n l) (hn : n ≤ 4) {z o : Nat} (u : Ub l z o) (hz : z ≤ 200) : Small l := by
  refine ⟨by have := g.len hn; omega, fun p hp => ?_⟩
  have h1 := u p.1
  rw [cnt_mem g.nd hp] at h1
  have h2 := g.ev p.1 (KS_mem.mpr ⟨p.2, hp⟩)
  exact Nat.lt_of_le_of_lt (Nat.le_trans h1 (bU_max (Nat.le_trans (wtE_le h2) hn) hz)) cU_lim
theorem zS_le (M : BkL bk) {s : Seat} {u : Tr} (h : pieceOf bk (s.key, s.place) = some u) : zS s.done u ≤ 100 := by
  obtain ⟨t, hm, hp⟩ := pieceOf_mem h
  have h1 := (piece_in hp).2.2
  have h2 := M.sz _ hm
  have h3 := zT_sz u
  simp only at h2
  unfold zS
  split
  · omega
  · cases u with
    | knot n tk ks => rw [zT] at h3; show zTs ks ≤ _; omega
    | _ => exact Nat.zero_le _
theorem small_seat (M : BkL bk) (hr : n ≤ 4) (I : Tin bk n T) {s : Seat} (hs : s ∈ seatsOf bk) : Small (T s) := by
  obtain ⟨t, u, hm, hp, hu, hd⟩ := seat_inv M.nd hs
  exact small_of (I.gd s hs) hr (I.ub s hs u hu) (Nat.le_trans (zS_le M hu) (by decide))
theorem conclOk_of (M : BkL bk) (hr : row.length ≤ 4) (I : Tin bk row.length T) (w : World) {s : Seat} (hs : s ∈ seatsOf bk) : ConclOk w bk row (seatsOf bk) T s := by
  obtain ⟨t, u, hm, hp, hu, hd⟩ := seat_inv M.nd hs
  have n5 := M.n5
  have co : ∀ v : Tr, CalledOk bk (seatsOf bk) T v := fun v => ⟨by have := called_len (bk := bk) v; omega, fun g hg => by
    obtain ⟨t, hm⟩ := called_mem hg
    exact (seat_done hm M.nd).1, fun g hg => by
    obtain ⟨t, hm⟩ := called_mem hg
    exact small_seat M hr I (seat_done hm M.nd).1⟩
  refine ⟨⟨u, hu⟩, by omega, fun n hn => co _, fun n tk ks hk => ?_⟩
  rw [hu] at hk
  cases hk
  have hf := seat_of (s := ⟨s.key, s.place, false⟩) hu (.inr rfl)
  have hz1 := (piece_in hp).2.2
  have hz2 := M.sz _ hm
  have hl := szTs_len ks
  rw [szT] at hz1
  simp only at hz2
  have zl := zTs_sz ks
  have G := Ub_pref hr (kids_G I hu (Nat.le_refl _))
  rw [List.take_length] at G
  have kp : ∀ {k : Nat}, k < ks.length → (⟨s.key, s.place ++ [k], true⟩ : Seat) ∈ seatsOf bk := fun hk => seat_of (s := ⟨s.key, s.place ++ [_], true⟩) (kid_seat hu (List.getElem?_eq_getElem hk)) (.inl rfl)
  refine ⟨⟨?_, ?_, by omega, fun k hk => kp hk, fun k hk => small_seat M hr I (kp hk), fun k h0 hk => ?_⟩, G.1.hash hr w, by have := G.1.len hr; omega, co _, hf, small_seat M hr I hf, (I.gd _ hf).hash hr w, fun g hg => ?_⟩
  · have h1 := place_len hp
    have h2 := M.ht _ hm
    simp only at h2
    omega
  · cases ks with
    | nil => exact (no_kids M.toBkM hu).elim
    | cons _ _ => simp
  · have g := Ub_pref hr (kids_G I hu (Nat.le_of_lt hk))
    have := zTs_take ks k
    exact small_of g.1 hr g.2 (by omega)
  · obtain ⟨t', hm'⟩ := called_mem hg
    have := (Gd_laid Gd_nil (Pd_round (root_tab M I hm').1.pd (I.gd _ hf).pd)).len hr
    omega
theorem fillP_of (M : BkL bk) (hr : row.length ≤ 4) (w : World) : FillP w bk row (seatsOf bk) (IvT bk row) (muT bk) where
  z := { gd := fun s _ => Gd_nil, ub := fun s _ u _ => Ub_nil, gr := fun s _ e => Nat.zero_le _, so := fun s _ e he => nomatch he }
  ok := fun T s I hs => conclOk_of M hr I.toTin w hs
  st := fun T s I hs hne => by
    obtain ⟨g, ub⟩ := concl_good M hr I.toTin hs
    have gs := I.gr s hs
    have D : DmT bk T (updT T s (concl bk row T s)) := fun s' hs' e => by
      unfold updT
      by_cases h : s' = s
      · rw [if_pos h, h]; exact gs e
      · rw [if_neg h]; exact Nat.le_refl _
    refine ⟨{ gd := fun s' hs' => ?_, ub := fun s' hs' u hu => ?_, gr := fun s' hs' e => ?_, so := fun s' hs' e he => ?_ }, ?_⟩
    · unfold updT
      by_cases h : s' = s
      · rw [if_pos h]; exact g
      · rw [if_neg h]; exact I.gd s' hs'
    · unfold updT
      by_cases h : s' = s
      · rw [if_pos h, h]; rw [h] at hu; exact ub u hu
      · rw [if_neg h]; exact I.ub s' hs' u hu
    · have h1 := concl_mono M I.toTin D hs' e
      by_cases h : s' = s
      · have e1 : updT T s (concl bk row T s) s' = concl bk row T s := by unfold updT; rw [if_pos h]
        rw [e1]
        rw [h] at h1 ⊢
        exact h1
      · have e1 : updT T s (concl bk row T s) s' = T s' := by unfold updT; rw [if_neg h]
        rw [e1]
        exact Nat.le_trans (I.gr s' hs' e) h1
    · by_cases h : s' = s
      · have e1 : updT T s (concl bk row T s) s' = concl bk row T s := by unfold updT; rw [if_pos h]
        rw [e1] at he
        rw [h]
        exact concl_snd M.toBkM I.so hs e he
      · have e1 : updT T s (concl bk row T s) s' = T s' := by unfold updT; rw [if_neg h]
        rw [e1] at he
        exact I.so s' hs' e he
    · have up : ∀ s' ∈ seatsOf bk, ∀ e, cnt (T s') e ≤ cnt (updT T s (concl bk row T s) s') e := D
      refine sumN_lt (fun s' hs' => sumN_mono fun e _ => by have := up s' hs' e; omega) hs ?_
      have e1 : updT T s (concl bk row T s) s = concl bk row T s := by unfold updT; rw [if_pos rfl]
      simp only [e1]
      obtain ⟨t, u, hm, hp, hu, hd⟩ := seat_inv M.nd hs
      have : ∃ e, cnt (concl bk row T s) e ≠ cnt (T s) e := by
        by_cases h : ∃ e, cnt (concl bk row T s) e ≠ cnt (T s) e
        · exact h
        · have : ∀ e, cnt (concl bk row T s) e = cnt (T s) e := fun e => by
            by_cases q : cnt (concl bk row T s) e = cnt (T s) e
            · exact q
            · exact absurd ⟨e, q⟩ h
          rw [sameE_of g (I.gd s hs) this] at hne
          cases hne
      obtain ⟨e, he⟩ := this
      have h1 := gs e
      have h2 : 0 < cnt (concl bk row T s) e := by omega
      have h3 := g.ev e ((cnt_pos g.nd g.ps).mpr h2)
      have h4 : cnt (concl bk row T s) e ≤ cU := Nat.le_trans (ub u hu e) (bU_max (Nat.le_trans (wtE_le h3) hr) (Nat.le_trans (zS_le M hu) (by decide)))
      exact sumN_lt (fun e' _ => by have := gs e'; omega) (mem_AE.mpr (Eok_le hr h3)) (by omega)
theorem cl_of (h : ∀ s ∈ seatsOf bk, sameE (concl bk row T s) (T s) = true) : ClT bk row T := fun s hs e he => sameE_sub (h s hs) e he
end
end K31

/-! the order of ends and of entries -/
namespace K31
open PySem PySem.Spec PyProof.Rows L2 NK Evl
abbrev leD (x y : PyData) : Prop := PySem.W.dataLe false id x y = true
theorem leD_iff {x y : PyData} : leD x y ↔ PyProof.Rows.lexLt itemOrd (PySem.W.keyToks y) (PySem.W.keyToks x) = false := by
  show (!PyProof.Rows.lexLt itemOrd (PySem.W.keyToks y) (PySem.W.keyToks x)) = true ↔ _
  simp
theorem toksE (e : En) : PySem.W.keyToks (encE e) = [.inl 1, .inl (Int.ofNat e.i), .inl 1, .inl (gA e.f), .inl 1, .inl (gB e.f), .inl 1, .inl (Int.ofNat e.j), .inl 0] := by
  simp [encE, PySem.W.keyToks, PySem.W.keyToksAll]
theorem toksE_inj {a b : En} (h : PySem.W.keyToks (encE a) = PySem.W.keyToks (encE b)) : a = b := by
  rw [toksE, toksE] at h
  simp only [List.cons.injEq, Sum.inl.injEq, and_true, true_and] at h
  refine keyE.inj a b ?_
  simp only [encE, keyDa, keysOf]
  rw [h.1, h.2.1, h.2.2.1, h.2.2.2]
theorem leE_anti {a b : En} (h1 : leD (encE a) (encE b)) (h2 : leD (encE b) (encE a)) : a = b := by
  rw [leD_iff] at h1 h2
  exact toksE_inj (lex_total (O := itemOrd) _ _ h2 h1)
theorem le_ent {s : Seat} {a b : En} (h : leD (encEnt (s, a)) (encEnt (s, b))) : leD (encE a) (encE b) := by
  rw [leD_iff] at h ⊢
  have e : ∀ a : En, PySem.W.keyToks (encEnt (s, a)) = (.inl 1 :: (PySem.W.keyToks (.str s.key) ++ .inl 1 :: (PySem.W.keyToks (encP s.place) ++ .inl 1 :: (PySem.W.keyToks (.bool s.done) ++ [.inl 1])))) ++ (PySem.W.keyToks (encE a) ++ [.inl 0]) := by
    intro a
    simp only [encEnt, PySem.W.keyToks, PySem.W.keyToksAll, List.cons_append, List.append_assoc, List.nil_append]
  rw [e a, e b, PySem.W.lex_pre, toksE, toksE] at h
  rw [toksE, toksE]
  -- the same rows but for one more sign behind each
  have al : PySem.W.alike (encE b) (encE a) = true := by simp [encE, PySem.W.alike, PySem.W.alikeAll]
  obtain ⟨t1, t2⟩ := PySem.W.toks_eqv (encE b) (encE a) al
  rw [toksE, toksE] at t1 t2
  cases q : PyData.eqv (encE b) (encE a) with
  | true => rw [t1 q]; exact lex_irrefl (O := itemOrd) _
  | false =>
    rw [t2 q] at h
    exact h
theorem eq_sorted {l m : List En} (hp : l.Perm m) (h1 : (l.map encE).Pairwise leD) (h2 : (m.map encE).Pairwise leD) : l = m := by
  rw [List.pairwise_map] at h1 h2
  exact List.Perm.eq_of_pairwise (le := fun a b => leD (encE a) (encE b)) (fun a b _ _ => leE_anti) h1 h2 hp
/-! each seat stands once -/
mutual
theorem places_nd : ∀ t : Tr, (placesT t).Nodup
  | .knot n tk ks => by
    rw [placesT, List.nodup_cons]
    refine ⟨fun h => ?_, placess_nd 0 ks⟩
    obtain ⟨i, q, h, _⟩ := placess_hd 0 ks [] h
    cases h
  | .sign _ => by rw [placesT]; simp
  | .void => by rw [placesT]; simp
  | .hole _ => by rw [placesT]; simp
  | .foot _ => by rw [placesT]; simp
theorem placess_nd (k : Nat) : ∀ ts : List Tr, (placesTs k ts).Nodup
  | [] => by rw [placesTs]; exact List.nodup_nil
  | t :: ts => by
    rw [placesTs, List.nodup_append]
    refine ⟨nodup_inj (places_nd t) fun a _ b _ e => by simpa using e, placess_nd (k + 1) ts, fun a ha b hb => ?_⟩
    obtain ⟨p, _, rfl⟩ := List.mem_map.mp ha
    obtain ⟨i, q, rfl, hi⟩ := placess_hd (k + 1) ts b hb
    intro e
    simp only [List.cons.injEq] at e
    omega
theorem placess_hd (k : Nat) : ∀ (ts : List Tr) (p : Place), p ∈ placesTs k ts → ∃ i q, p = i :: q ∧ k ≤ i
  | [], p, h => by rw [placesTs] at h; cases h
  | t :: ts, p, h => by
    rw [placesTs] at h
    rcases List.mem_append.mp h with h | h
    · obtain ⟨q, _, rfl⟩ := List.mem_map.mp h
      exact ⟨k, q, rfl, Nat.le_refl _⟩
    · obtain ⟨i, q, e, hi⟩ := placess_hd (k + 1) ts p h
      exact ⟨i, q, e, by omega⟩
end
theorem seatsT_mem {k : Str} {t : Tr} {s : Seat} (h : s ∈ seatsT k t) : s.key = k := by
  unfold seatsT at h
  obtain ⟨p, _, h⟩ := List.mem_flatMap.mp h
  split at h
  · simp only [List.mem_cons, List.not_mem_nil, or_false] at h
    rcases h with rfl | rfl <;> rfl
  · rw [List.mem_singleton.mp h]
theorem seats_nd {bk : Bk} (nd : (bk.trees.map (·.1)).Nodup) : (seatsOf bk).Nodup := by
  unfold seatsOf List.Nodup
  rw [List.pairwise_flatMap]
  refine ⟨fun p _ => ?_, ?_⟩
  · unfold seatsT
    rw [List.pairwise_flatMap]
    refine ⟨fun q _ => ?_, ?_⟩
    · split <;> simp
    · have h : (placesT p.2).reverse.Pairwise (· ≠ ·) := by
        rw [List.pairwise_reverse]
        exact List.Pairwise.imp (fun h => Ne.symm h) (places_nd p.2)
      refine List.Pairwise.imp (fun {a b} hab x hx y hy e => hab ?_) h
      have pl : ∀ {q : Place} {z : Seat}, (z ∈ match pieceAt p.2 q with | some (.knot ..) => [(⟨p.1, q, false⟩ : Seat), ⟨p.1, q, true⟩] | _ => [⟨p.1, q, true⟩]) → z.place = q := fun {q z} hz => by
        split at hz
        · simp only [List.mem_cons, List.not_mem_nil, or_false] at hz
          rcases hz with rfl | rfl <;> rfl
        · rw [List.mem_singleton.mp hz]
      rw [← pl hx, ← pl hy, e]
  · unfold List.Nodup at nd
    rw [List.pairwise_map] at nd
    refine nd.imp fun {a b} hab x hx y hy e => hab ?_
    rw [← seatsT_mem hx, ← seatsT_mem hy, e]
section
variable {bk : Bk} {T : Tab}
theorem mem_listT {ss : List Seat} {s : Seat} {e : En} : (s, e) ∈ listT ss T ↔ s ∈ ss ∧ e ∈ KS (T s) := by
  unfold listT KS
  simp only [List.mem_flatMap, List.mem_map, Prod.mk.injEq]
  constructor
  · rintro ⟨s', h1, p, h2, rfl, rfl⟩
    exact ⟨h1, p, h2, rfl⟩
  · rintro ⟨h1, p, h2, rfl⟩
    exact ⟨s, h1, p, h2, rfl, rfl⟩
theorem listT_nd (nd : (bk.trees.map (·.1)).Nodup) (h : ∀ s ∈ seatsOf bk, (KS (T s)).Nodup) : (listT (seatsOf bk) T).Nodup := by
  unfold listT List.Nodup
  rw [List.pairwise_flatMap]
  refine ⟨fun s hs => ?_, ?_⟩
  · have := h s hs
    unfold KS List.Nodup at this
    rw [List.pairwise_map] at this ⊢
    exact this.imp fun hab e => hab (congrArg Prod.snd e)
  · refine (seats_nd nd).imp fun {a b} hab x hx y hy e => hab ?_
    obtain ⟨p, _, rfl⟩ := List.mem_map.mp hx
    obtain ⟨q, _, rfl⟩ := List.mem_map.mp hy
    exact congrArg Prod.fst e
def pickT (s : Seat) (M : List (Seat × En)) : List En := (M.filter fun x => decide (x.1 = s)).map (·.2)
/-- what is told of a tree: what is due, sorted -/
theorem pick_ok (nd : (bk.trees.map (·.1)).Nodup) (h : ∀ s ∈ seatsOf bk, (KS (T s)).Nodup) {M : List (Seat × En)} (hM : M.Perm (listT (seatsOf bk) T)) (hs : (M.map encEnt).Pairwise leD) {s : Seat} (hS : s ∈ seatsOf bk)
    {dl : List En} (dn : dl.Nodup) (hm : ∀ e, e ∈ KS (T s) ↔ e ∈ dl) : (pickT s M).Perm dl ∧ ((pickT s M).map encE).Pairwise leD := by
  have mnd : M.Nodup := hM.nodup_iff.mpr (listT_nd nd h)
  constructor
  · refine (List.perm_ext_iff_of_nodup ?_ dn).mpr fun e => ?_
    · unfold pickT
      refine nodup_inj (mnd.filter _) fun a ha b hb e => ?_
      have h1 := of_decide_eq_true (List.mem_filter.mp ha).2
      have h2 := of_decide_eq_true (List.mem_filter.mp hb).2
      exact Prod.ext (h1.trans h2.symm) e
    · unfold pickT
      rw [← hm e, List.mem_map]
      constructor
      · rintro ⟨⟨s', e'⟩, hx, rfl⟩
        obtain ⟨hx2, q⟩ := List.mem_filter.mp hx
        have q : s' = s := of_decide_eq_true q
        subst q
        exact (mem_listT.mp (hM.mem_iff.mp hx2)).2
      · intro he
        exact ⟨(s, e), List.mem_filter.mpr ⟨hM.mem_iff.mpr (mem_listT.mpr ⟨hS, he⟩), by simp⟩, rfl⟩
  · unfold pickT
    rw [List.map_map, List.pairwise_map]
    rw [List.pairwise_map] at hs
    refine List.Pairwise.imp_of_mem (fun {a b} ha hb hab => ?_) (hs.filter _)
    have h1 := of_decide_eq_true (List.mem_filter.mp ha).2
    have h2 := of_decide_eq_true (List.mem_filter.mp hb).2
    obtain ⟨sa, ea⟩ := a
    obtain ⟨sb, eb⟩ := b
    simp only at h1 h2
    subst h1
    subst h2
    exact le_ent hab
end
end K31

/-! sets of texts: set(list of texts), sorted(set) -/
namespace NKS
open PySem PySem.Spec PyProof.Rows L2
def keyX (e : Int × Value) : Str := match e.2 with | .str k _ => k | _ => Str.empty
def GoodX (P : Program) (w : World) (e : Int × Value) : Prop := ∃ k tk, e.2 = Value.str k tk ∧ e.1 = (strKind P w).hash k
/-- the set of texts at a -/
def SetX (P : Program) (w : World) (h : Heap) (a : Addr) (S : Str → Bool) (n : Nat) : Prop :=
  ∃ o es ep t, h.get? a = some o ∧ o.ExactSet ∧ o.data = .set es ep t ∧ (∀ e ∈ es.toList, GoodX P w e) ∧ (es.toList.map keyX).Nodup ∧ (∀ k, S k = true ↔ k ∈ es.toList.map keyX) ∧
    es.size < scanBound ∧ t.fits es.size = true ∧ es.size = n ∧ Ris t.place.toList ∧ (w.params.followText "set-order" = true ∨ t.led = true)
section
variable {P : Program} {w : World} {h h' : Heap} {a : Addr} {S : Str → Bool} {n : Nat}
theorem SetX.at (R : SetX P w h a S n) (k : ∀ o, h.get? a = some o → h'.get? a = some o) : SetX P w h' a S n := by
  obtain ⟨o, es, ep, t, ho, r⟩ := R
  exact ⟨o, es, ep, t, k o ho, r⟩
theorem x_elems {l : List (Int × Value)} (g : ∀ e ∈ l, GoodX P w e) : ElemsOf (strKind P w) l := fun e he => by
  obtain ⟨k, tk, h1, h2⟩ := g e he
  exact ⟨⟨k, by rw [h1]; exact strKind_is _ _ _ _, h2⟩, by rw [h1] <;> rfl⟩
theorem x_is {e : Int × Value} (g : GoodX P w e) (k : Str) : (strKind P w).is k e.2 = true ↔ keyX e = k := by
  obtain ⟨k0, tk, h1, _⟩ := g
  unfold keyX
  rw [h1]
  show ((k0 == k) = true) ↔ k0 = k
  exact beq_iff_eq
theorem x_mem {l : List (Int × Value)} (g : ∀ e ∈ l, GoodX P w e) (k : Str) : k ∈ l.map keyX ↔ ∃ e ∈ l, (strKind P w).is k e.2 = true := by
  rw [List.mem_map]
  constructor
  · rintro ⟨e, he, q⟩
    exact ⟨e, he, (x_is (g e he) k).2 q⟩
  · rintro ⟨e, he, q⟩
    exact ⟨e, he, (x_is (g e he) k).1 q⟩
theorem SetX.setOf (R : SetX P w h a S n) : h.SetOf (strKind P w) a S n := by
  obtain ⟨o, es, ep, t, ho, hx, hd, g, nd, hm, hb, hf, hn, _⟩ := R
  exact ⟨o, es, ep, t, ho, hx, hd, x_elems g, fun k => (hm k).trans (x_mem g k), hb, hf, hn⟩
end
section
variable {P : Program} {w : World} {A : Around} {E : Value → Shared → Prop} {s : Shared} {a : Addr} {S : Str → Bool} {n : Nat}
theorem x_add_tail {g : Bool → Sem Unit} (hg : ∀ (b : Bool) (s₁ : Shared) (Q' : Unit → Shared → Prop), Q' () s₁ → wpAny (model P w) A (g b) Q' E s₁)
    {o : Obj} {es : Array (Int × Value)} {ep : Nat} {t : SetTable} (ho : s.heap.get? a = some o) (hex : o.ExactSet) (hd : o.data = .set es ep t)
    {es1 : Array (Int × Value)} {t2 : SetTable} {S' : Str → Bool} (g1 : ∀ e ∈ es1.toList, GoodX P w e) (nd1 : (es1.toList.map keyX).Nodup) (m1 : ∀ k, S' k = true ↔ k ∈ es1.toList.map keyX)
    (hb1 : es1.size < scanBound) (hf2 : t2.fits es1.size = true) (hr : Ris t2.place.toList) (hl : w.params.followText "set-order" = true ∨ t2.led = true) {wasDummy : Bool} {R : Option Bool → Shared → Prop}
    (hR : ∀ h', Heap.SameBut a s.heap h' → SetX P w h' a S' es1.size → R (some true) { s with heap := h' }) :
    wpAny (model P w) A (do
        storeSet a es1 t2
        if (!wasDummy && t2.tooFull) = true then do
            g (relayAll t2 es1 (SetTable.grown es1.size)).2.2
            storeSet a (relayAll t2 es1 (SetTable.grown es1.size)).1 (relayAll t2 es1 (SetTable.grown es1.size)).2.1
            pure (some true)
          else pure (some true)) R E s := by
  refine wpAny_bind (wpAny_storeSet_of ho hd ?_ (fits_of_scanBound hb1))
  have ho1 := store_at (es' := es1) (t' := t2) ho hd
  have sb1 := Heap.SameBut.update s.heap a (Obj.putSet es1 t2)
  split
  · have pm := relayAll_perm t2 es1 (SetTable.grown es1.size)
    have hf3 := relayAll_fits t2 es1 (SetTable.grown es1.size)
    have hr3 := relayAll_ris t2 es1 (SetTable.grown es1.size)
    have hl3 := relayAll_led t2 es1 (SetTable.grown es1.size)
    generalize relayAll t2 es1 (SetTable.grown es1.size) = Z at pm hf3 hr3 hl3 ⊢
    obtain ⟨es2, t3, gave⟩ := Z
    dsimp only at pm hf3 hr3 hl3 ⊢
    have hsz : es2.size = es1.size := by rw [← Array.length_toList, pm.length_eq, Array.length_toList]
    have hb2 : es2.size < scanBound := by rw [hsz]; exact hb1
    refine wpAny_bind (hg _ _ _ ?_)
    refine wpAny_bind (wpAny_storeSet_of ho1 rfl ?_ (fits_of_scanBound hb2))
    have ho2 := store_at (es' := es2) (t' := t3) ho1 rfl
    refine wpAny_pure (hR _ (sb1.trans (Heap.SameBut.update _ a _)) ?_)
    exact ⟨_, es2, _, t3, ho2, hex, rfl, fun e he => g1 e (pm.mem_iff.mp he), (pm.map keyX).nodup_iff.mpr nd1, fun k => (m1 k).trans (pm.map keyX).mem_iff.symm, hb2, hf3, hsz, hr3,
      hl.imp id fun z => by rw [hl3]; exact z⟩
  · exact wpAny_pure (hR _ sb1 ⟨_, es1, _, t2, ho1, hex, rfl, g1, nd1, m1, hb1, hf2, rfl, hr, hl⟩)

theorem x_add_hashed {k : Str} {tk : Tok} {Q : Bool → Shared → Prop} (R : SetX P w s.heap a S n) (room : n + 1 < scanBound)
    (hQ : ∀ h', Heap.SameBut a s.heap h' → SetX P w h' a (fun j => S j || decide (j = k)) (if S k = true then n else n + 1) → Q (!S k) { s with heap := h' }) :
    wpAny (model P w) A (setAddHashed a (.str k tk) ((strKind P w).hash k)) Q E s := by
  obtain ⟨o, es, ep, t, ho, hex, hd, g, nd, hm, hb, hf, hn, hr, hl⟩ := R
  have hkey : (strKind P w).is k (.str k tk) = true := strKind_is _ _ _ _
  have hsc : (Value.str k tk).scannable = true := rfl
  have hel : ElemsOf (strKind P w) es.toList := x_elems g
  unfold setAddHashed setAddHashedIn
  refine wpAny_holding (wpAny_bind (wpAny_setState_of ho hd hf ?_))
  dsimp only
  rw [byScan_of hsc hb hel]
  simp only [↓reduceIte]
  unfold setAddByScan
  refine wpAny_bind ?_
  refine wpAny_bind (wpAny_rule ?_)
  refine wpAny_bind (wpAny_setScan_of hkey ho hd hf hel ?_)
  cases hfi : List.findIdx? (fun e => (strKind P w).is k e.2) es.toList with
  | some j =>
    dsimp only
    obtain ⟨hj, pj, _⟩ := List.findIdx?_eq_some_iff_getElem.mp hfi
    have hSk : S k = true := (hm k).2 ((x_mem (P := P) (w := w) g k).2 ⟨es.toList[j], List.getElem_mem hj, pj⟩)
    refine wpAny_pure (wpAny_pure ?_)
    have q := hQ s.heap (Heap.SameBut.refl a s.heap) ⟨o, es, ep, t, ho, hex, hd, g, nd, fun i => by
      rw [Bool.or_eq_true, decide_eq_true_eq, ← hm i]
      exact ⟨fun z => z.elim id (fun e => e ▸ hSk), .inl⟩, hb, hf, by rw [if_pos hSk]; exact hn, hr, hl⟩
    rw [hSk] at q
    exact q
  | none =>
    dsimp only
    have hnk : k ∉ es.toList.map keyX := fun z => by
      obtain ⟨e, he, q⟩ := (x_mem (P := P) (w := w) g k).1 z
      have c := List.findIdx?_eq_none_iff.mp hfi e he
      rw [q] at c
      cases c
    have hSk : S k = false := by
      cases q : S k with
      | false => rfl
      | true => exact absurd ((hm k).1 q) hnk
    have hgw : ∀ (b : Bool) {s₁ : Shared} {Q' : Unit → Shared → Prop}, Q' () s₁ → wpAny (model P w) A (match b with | true => rule "set.scan.the-table-gave-way" | false => pure ()) Q' E s₁ :=
      fun b s₁ Q' q => by cases b <;> first | exact wpAny_pure q | exact wpAny_rule q
    have pm := layNew_perm t es ((strKind P w).hash k) (.str k tk)
    have hf1 := layNew_fits t es ((strKind P w).hash k) (.str k tk)
    have hr1 := layNew_ris t es ((strKind P w).hash k) (.str k tk) hr
    have hl1 := layNew_led t es ((strKind P w).hash k) (.str k tk)
    generalize layNew t es ((strKind P w).hash k) (.str k tk) = Z at pm hf1 hr1 hl1 ⊢
    obtain ⟨es1, t1, wasDummy, gave⟩ := Z
    dsimp only at pm hf1 hr1 hl1 ⊢
    rw [Array.toList_push] at pm
    have pc : es1.toList.Perm (((strKind P w).hash k, Value.str k tk) :: es.toList) := pm.trans (List.perm_append_singleton _ _)
    have pk : (es1.toList.map keyX).Perm (k :: es.toList.map keyX) := pc.map keyX
    have g1 : ∀ e ∈ es1.toList, GoodX P w e := fun e he => by
      rcases List.mem_cons.mp (pc.mem_iff.mp he) with z | z
      · rw [z]; exact ⟨k, tk, rfl, rfl⟩
      · exact g e z
    have nd1 : (es1.toList.map keyX).Nodup := pk.nodup_iff.mpr (List.nodup_cons.mpr ⟨hnk, nd⟩)
    have m1 : ∀ i, (S i || decide (i = k)) = true ↔ i ∈ es1.toList.map keyX := fun i => by
      rw [Bool.or_eq_true, decide_eq_true_eq, hm i, pk.mem_iff, List.mem_cons]
      exact Or.comm
    have hsz : es1.size = n + 1 := by rw [← Array.length_toList, pc.length_eq, List.length_cons, Array.length_toList, hn]
    have hb1 : es1.size < scanBound := by rw [hsz]; exact room
    have hled : w.params.followText "set-order" = true ∨ t1.led = true := hl.imp id fun z => by rw [hl1]; exact z
    have fin : ∀ h', Heap.SameBut a s.heap h' → SetX P w h' a (fun j => S j || decide (j = k)) es1.size → Q true { s with heap := h' } := fun h' sb r => by
      have q := hQ h' sb
      rw [hSk] at q
      rw [hsz] at r
      exact q r
    refine wpAny_bind (hgw _ ?_)
    split
    · refine wpAny_bind ?_
      rw [hashByValue_scannable 8 hsc]
      refine wpAny_pure ?_
      refine x_add_tail ?_ ho hex hd g1 nd1 m1 hb1 ?_ ?_ ?_ ?_
      · intro b s₁ Q' q; cases b <;> first | exact wpAny_pure q | exact wpAny_rule q
      · first | (split <;> first | exact hf1 | exact SetTable.fits_plain_off hf1) | exact hf1
      · first | (split <;> exact hr1) | exact hr1
      · first | (split <;> exact hled) | exact hled
      · intro h' sb r; dsimp only; exact wpAny_pure (fin h' sb r)
    · refine wpAny_bind (wpAny_pure ?_)
      simp only [↓reduceIte]
      refine x_add_tail ?_ ho hex hd g1 nd1 m1 hb1 hf1 hr1 hled ?_
      · intro b s₁ Q' q; cases b <;> first | exact wpAny_pure q | exact wpAny_rule q
      · intro h' sb r; dsimp only; exact wpAny_pure (fin h' sb r)
end
section
variable {prog : Program} {w : World} {A : Around} {R : Result → Shared → Prop} {I : Addr} {fp wr : List Addr} {G : Array GenState → Array GenState → Prop} {n : Nat} {P : Nat → Value → Prop} {St : Nat → Shared → Prop}
theorem x_loop (W : WalksS prog w A.in1 I fp wr G n P St) (S : Addr) (hSf : S ∉ fp) (xs : List Str) (hsz : xs.length = n) (hn1 : n ≤ 2000)
    (hval : ∀ i v, P i v → ∃ t, v = .str (xs.getD i Str.empty) t) :
    ∀ (k i : Nat) (s : Shared), n - i = k → i ≤ n → St i s →
      (∃ F m, SetX prog w s.heap S F m ∧ m ≤ i ∧ ∀ k', F k' = true ↔ k' ∈ xs.take i) →
      (∀ s', Moved (S :: wr) G s s' → (∃ F m, SetX prog w s'.heap S F m ∧ m ≤ n ∧ ∀ k', F k' = true ↔ k' ∈ xs.take n) → R (.ok (.ret .none)) s') →
      codeAny (model prog w) A (.builtin "set.update.loop" ⟨[.ref S, .ref I], []⟩) R s := by
  have hSw : S ∉ wr := fun h => hSf (W.sub _ h)
  have hsub : ∀ b ∈ wr, b ∈ S :: wr := fun b hb => List.mem_cons_of_mem _ hb
  intro k
  induction k with
  | zero =>
    intro i s hk hi hst hS hR
    have hin : i = n := by omega
    subst hin
    refine codeAny_builtin PyProof.Rows.F.entry_set_update_loop ?_
    rw [Around.under_plainId PyProof.Rows.F.plain_set_update_loop _]
    show wpAny _ A.in1 (pyNext (.ref I) >>= _) _ _ s
    refine wpAny_bind (W.done s _ _ hst fun s' hm => ?_)
    show wpAny _ A.in1 (ret Value.none) _ _ s'
    exact wpAny_pure (hR s' (hm.mono hsub) (by
      obtain ⟨F, m, hX, h1, h2⟩ := hS
      exact ⟨F, m, hX.at fun o e => hm.heap S _ hSw e, h1, h2⟩))
  | succ k ih =>
    intro i s hk hi hst hS hR
    have hlt : i < n := by omega
    refine codeAny_builtin PyProof.Rows.F.entry_set_update_loop ?_
    rw [Around.under_plainId PyProof.Rows.F.plain_set_update_loop _]
    show wpAny _ A.in1 (pyNext (.ref I) >>= _) _ _ s
    refine wpAny_bind (W.item i s _ _ hlt hst fun v s' hP hst' hm => ?_)
    obtain ⟨t, rfl⟩ := hval i v hP
    obtain ⟨F, m, hX, hm1, hF⟩ := hS
    have hX' : SetX prog w s'.heap S F m := hX.at fun o e => hm.heap S _ hSw e
    show wpAny _ A.in1 (holding [Value.str (xs.getD i Str.empty) t] (setAdd S (.str (xs.getD i Str.empty) t)) >>= _) _ _ s'
    refine wpAny_bind (wpAny_holding ?_)
    unfold setAdd
    refine wpAny_holding ?_
    refine wpAny_bind ((PySem.strKind prog w).pyHash (k := xs.getD i Str.empty) (strKind_is _ _ _ _) ?_)
    refine x_add_hashed (s := { s' with toks := s'.toks + 1 }) hX' (by unfold scanBound; omega) fun h' hsb hS2 => ?_
    have hSi : ∃ F m, SetX prog w h' S F m ∧ m ≤ i + 1 ∧ ∀ k', F k' = true ↔ k' ∈ xs.take (i + 1) := by
      refine ⟨_, _, hS2, by split <;> omega, fun k' => ?_⟩
      have hx : xs[i]? = some (xs.getD i Str.empty) := by
        rw [List.getD_eq_getElem?_getD, List.getElem?_eq_getElem (by omega)]; rfl
      rw [Bool.or_eq_true, decide_eq_true_eq, hF k', List.take_add_one, hx, List.mem_append]
      simp
    refine wpAny_pure ⟨plainId_quiet PyProof.Rows.F.plain_set_update_loop _, ih (i + 1) _ (by omega) hlt (W.frame _ s' _ _ hst' (Nat.le_succ _) fun b hb o e => ?_) hSi fun s'' hm'' hS'' => ?_⟩
    · rw [hsb.2 b (fun h : b = S => hSf (by rw [← h]; exact hb))]; exact e
    · refine hR s'' (Moved.trans W.gtrans ((hm.mono hsub).then_heap (Nat.le_succ _) fun b o hb e => ?_) hm'') hS''
      rw [hsb.2 b (fun h : b = S => hb (by rw [h]; exact List.mem_cons_self))]; exact e

end

theorem x_fresh {P : Program} {w : World} {h : Heap} {a : Addr} (e : h.get? a = some { cls := .type "set", dict := none, data := .set #[] 0 (.fresh 0 0 (!w.params.followText "set-order")) }) : SetX P w h a (fun _ => false) 0 :=
  ⟨_, #[], 0, _, e, ⟨rfl, rfl, rfl⟩, rfl, (fun e he => by simp at he), (by simp), (fun k => by simp), (by decide), (by rfl), rfl, List.Pairwise.nil, by
    show _ ∨ (!w.params.followText "set-order") = true
    cases w.params.followText "set-order"
    · exact .inr rfl
    · exact .inl rfl⟩
section
variable {prog : Program} {w : World} {A : Around} {E : Value → Shared → Prop} {s : Shared}
set_option maxHeartbeats 3200000 in
theorem x_set_list {l : Addr} {items : Array Value} {xs : List Str} {Q : Value → Shared → Prop}
    (hh : A.handled = none) (hl : s.heap.IsList l items) (hi : PyProof.Rows.StrsAre items.toList xs) (hn1 : xs.length ≤ 2000)
    (h : ∀ (h' : Heap) (tk : Nat), (∃ F m, SetX prog w h' s.heap.objs.size F m ∧ m ≤ items.size ∧ ∀ k', F k' = true ↔ k' ∈ xs.take items.size) →
      (∀ b o, b < s.heap.objs.size → s.heap.get? b = some o → h'.get? b = some o) → Q (.ref s.heap.objs.size) { s with heap := h', toks := tk }) :
    wpAny (model prog w) A (call (.type "set") [.ref l]) Q E s := by
  obtain ⟨c, tl, hmro⟩ := PySem.F.called_set.mro
  have hmade := PySem.F.called_set.made
  have hsub := PySem.F.called_set.sub
  refine wpAny_call (codeAny_of_tree ?_)
  show wpAny _ _ (callAny (.type "set") _) _ _ _
  refine wpAny_pure ⟨Code.quiet_builtin _ (by decide +kernel), codeAny_builtin PySem.F.entry_type_call ?_⟩
  rw [Around.under_plain (weight_type_call_type "set" [.ref l] []) rfl]
  have h1 := PySem.F.called_set.notType
  have h2 := PySem.F.called_set.canCreate
  have hct := PySem.F.typeCall_set_1 (.ref l)
  repeat (any_goals (first | assumption | wp_step))

  refine codeAny_mono (code_set_led1 (.ref l) (E := E) (Q₁ := fun obj s₁ => obj = .ref s.heap.objs.size ∧ s₁ = { s with heap := s.heap.push { cls := .type "set", dict := none, data := .set #[] 0 (.fresh 0 0 (!w.params.followText "set-order")) } }) ⟨rfl, rfl⟩) fun r s₁ hr => ?_
  cases r with
  | error e => exact hr
  | ok fl =>
    cases fl with
    | ret obj =>
      obtain ⟨rfl, rfl⟩ := hr
      have hS : (s.heap.push { cls := .type "set", dict := none, data := .set #[] 0 (.fresh 0 0 (!w.params.followText "set-order")) }).get? s.heap.objs.size = some { cls := .type "set", dict := none, data := .set #[] 0 (.fresh 0 0 (!w.params.followText "set-order")) } := Heap.get?_push_size _ rfl
      have hT : Shared.TypeIs { s with heap := s.heap.push { cls := .type "set", dict := none, data := .set #[] 0 (.fresh 0 0 (!w.params.followText "set-order")) } } (.ref s.heap.objs.size) "set" := ⟨_, hS, rfl⟩
      have hli := PySem.F.called_set.init.lookup
      have hbi := PySem.F.called_set.init.bind (.ref s.heap.objs.size)
      repeat (any_goals (first | assumption | wp_step))

      refine codeAny_mono (codeAny_call_builtin (R := wants (fun r s₂ => r = .none ∧ ∃ h' tk, s₂ = { s with heap := h', toks := tk } ∧
          (∃ F m, SetX prog w h' s.heap.objs.size F m ∧ m ≤ items.size ∧ ∀ k', F k' = true ↔ k' ∈ xs.take items.size) ∧
          (∀ b o, b < s.heap.objs.size → s.heap.get? b = some o → h'.get? b = some o)) E) PySem.F.called_set.init.plain PySem.F.entry_set_init (check_set_init_1 hT ?_)) fun r₂ s₂ hr₂ => ?_
      · obtain ⟨ol, hol, hcl, nl, hdl⟩ := hl
        obtain ⟨ocls, odict, odata, oslots⟩ := ol
        simp only at hcl hdl
        subst hcl; subst hdl
        have hol' : (s.heap.push { cls := .type "set", dict := none, data := .set #[] 0 (.fresh 0 0 (!w.params.followText "set-order")) }).get? l = some { cls := .type "list", dict := odict, data := .seq items nl, slots := oslots } := Heap.get?_push_of_some _ hol
        have hsls := PySem.F.sub_list_set
        have hslf := PySem.F.sub_list_frozenset
        have hne : (Value.type "list" == Value.type "dict") = false := by decide
        have hl1 : (s.heap.push { cls := .type "set", dict := none, data := .set #[] 0 (.fresh 0 0 (!w.params.followText "set-order")) }).IsList l items := ⟨_, hol', rfl, nl, rfl⟩
        unfold Builtin.«set.__init__» noKeywords Builtin.Frozenset.updateFrom
        generalize hPI : pyIter = PI
        wp_walk
        subst hPI

        refine wpAny_pyIter_list hl1 ?_
        refine wpAny_bind (wpAny_runValue ?_)
        have hlS : l < s.heap.objs.size := Heap.lt_size hol
        have hh3 : A.in1.in1.in1.handled = none := by simp [hh]
        have hneI : l ≠ (s.heap.push { cls := .type "set", dict := none, data := .set #[] 0 (.fresh 0 0 (!w.params.followText "set-order")) }).objs.size := by
          rw [Heap.size_push]; exact Nat.ne_of_lt (Nat.lt_succ_of_lt hlS)
        have hSf : s.heap.objs.size ∉ [(s.heap.push { cls := .type "set", dict := none, data := .set #[] 0 (.fresh 0 0 (!w.params.followText "set-order")) }).objs.size, l] := by
          rw [Heap.size_push]; simp only [List.mem_cons, List.mem_singleton, List.not_mem_nil, or_false, not_or]
          exact ⟨Nat.ne_of_lt (Nat.lt_succ_self _), Nat.ne_of_gt hlS⟩
        have hsz : xs.length = items.size := by rw [← StrsAre.len_eq hi, Array.length_toList]
        have hval : ∀ (i : Nat) (v : Value), items[i]? = some v → ∃ t, v = .str (xs.getD i Str.empty) t := fun i v hv => SS.strs_at hi i v (by rw [Array.getElem?_toList]; exact hv)
        refine x_loop ((Walks.list hh3 _ l hneI items).toS) s.heap.objs.size
          hSf xs hsz (by rw [← hsz]; exact hn1) hval (items.size - 0) 0 _ (by omega) (Nat.zero_le _)
          ⟨⟨_, Heap.get?_push_size _ rfl, rfl, rfl⟩, (hl1.push _)⟩ ?hS0 ?hR
        case hS0 =>
          have hget : ((s.heap.push { cls := .type "set", dict := none, data := .set #[] 0 (.fresh 0 0 (!w.params.followText "set-order")) }).push { cls := .type "list_iterator", data := .fields #[.ref l, .int 0 0] }).get? s.heap.objs.size
              = some { cls := .type "set", dict := none, data := .set #[] 0 (.fresh 0 0 (!w.params.followText "set-order")) } := Heap.get?_push_of_some _ hS
          exact ⟨_, _, x_fresh hget, Nat.zero_le _, fun k' => by simp⟩
        case hR =>
          intro s' hm hS'
          obtain ⟨h', g', d', tk', os'⟩ := s'
          have eg : g' = s.gens := hm.gens
          have ed : d' = s.drawn := hm.drawn
          have eo : os' = s.os := hm.os
          subst eg; subst ed; subst eo
          show wpAny _ _ _ _ _ _
          refine wpAny_pure ?_
          show wpAny _ _ (ret Value.none) _ _ _
          refine wpAny_pure ⟨rfl, h', tk', rfl, hS', fun b o hb e => ?_⟩
          have hb1 : b ≠ s.heap.objs.size := Nat.ne_of_lt hb
          have hb2 : b ≠ (s.heap.push { cls := .type "set", dict := none, data := .set #[] 0 (.fresh 0 0 (!w.params.followText "set-order")) }).objs.size := by
            rw [Heap.size_push]; exact Nat.ne_of_lt (Nat.lt_succ_of_lt hb)
          exact hm.heap b o (by simp only [List.mem_cons, List.mem_singleton, List.not_mem_nil, or_false, not_or]; exact ⟨hb1, hb2⟩) (Heap.get?_push_of_some _ (Heap.get?_push_of_some _ e))

      · cases r₂ with
        | error e => exact hr₂
        | ok fl₂ =>
          cases fl₂ with
          | ret r =>
            obtain ⟨rfl, h', tk, rfl, hS', hk'⟩ := hr₂
            repeat (any_goals (first | assumption | wp_step))
            exact h _ _ hS' hk'
          | _ => exact hr₂.elim
    | _ => exact hr.elim


end
section
variable {P : Program} {w : World} {A : Around} {E : Value → Shared → Prop} {s : Shared} {a : Addr} {S : Str → Bool} {n : Nat}
def IsX (v : Value) (k : Str) : Prop := ∃ t, v = Value.str k t
theorem each_strs : ∀ {vs : List Value} {ks : List Str}, PySem.W.EachIs IsX vs ks → StrsAre vs ks
  | [], _, .nil => .nil
  | _ :: _, _, .cons ⟨t, e⟩ r => by rw [e]; exact .cons _ t (each_strs r)
theorem strs_each : ∀ (vs : List Value), (∀ v ∈ vs, ∃ k t, v = Value.str k t) → ∃ ks, PySem.W.EachIs IsX vs ks ∧ ks.length = vs.length ∧ ∀ k, k ∈ ks ↔ ∃ t, Value.str k t ∈ vs
  | [], _ => ⟨[], .nil, rfl, fun k => by simp⟩
  | v :: vs, h => by
    obtain ⟨k, t, rfl⟩ := h v List.mem_cons_self
    obtain ⟨ks, h1, h2, h3⟩ := strs_each vs fun u hu => h u (List.mem_cons_of_mem _ hu)
    refine ⟨k :: ks, .cons ⟨t, rfl⟩ h1, by simp [h2], fun k' => ?_⟩
    rw [List.mem_cons, h3]
    constructor
    · rintro (rfl | ⟨t', h⟩)
      · exact ⟨t, List.mem_cons_self⟩
      · exact ⟨t', List.mem_cons_of_mem _ h⟩
    · rintro ⟨t', h⟩
      rcases List.mem_cons.mp h with e | h
      · cases e; exact .inl rfl
      · exact .inr ⟨t', h⟩
theorem alike_strs (ks : List Str) : PySem.W.AllAlike (ks.map PyData.str) := PySem.W.AllAlike.of fun _ _ => by rw [PySem.W.alike]
theorem sortable_strs (ks : List Str) : PySem.W.Sortable (ks.map PyData.str) := .inr fun d hd => by
  obtain ⟨k, _, rfl⟩ := List.mem_map.mp hd
  refine ⟨?_, fun xs => ?_⟩
  · intro h
    cases h
  · intro h
    cases h
theorem sorted_x {Q : Value → Shared → Prop} (R : SetX P w s.heap a S n) (hh : A.handled = none) (h64 : n ≤ 2000) (hu : A.units + 10 < cLine)
    (hQ : ∀ s' p (out : Array Value) (c : Nat) (ns : List Str), (∀ b o, s.heap.get? b = some o → s'.heap.get? b = some o) → s'.gens = s.gens → s'.os = s.os → s.heap.objs.size ≤ p →
      s'.heap.get? p = some (seqObj "list" out c) → StrsAre out.toList ns → (∀ k, k ∈ ns ↔ S k = true) → ns.length = n → Q (.ref p) s') :
    wpAny (model P w) A (call (.builtin "sorted") [.ref a]) Q E s := by
  obtain ⟨o, es, ep, t, ho, hex, hd, g, nd, hm, hb, hf, hn, hr, hl⟩ := R
  refine Calls.call_function_entry kind_sorted plain_sorted entry_sorted (args_sorted1 _) ?_
  unfold Builtin.«sorted»
  refine wpAny_bind (m := checkCount "sorted" 1 1 _) (wpAny_pure ?_)
  refine wpAny_bind (collect_set (A := A.in1) hh ⟨o, ho, hex.1, hd⟩ hf hb hr hl fun s1 vs k1 hz g1 o1 pm => ?_)
  have hvl : vs.length = n := by rw [pm.length_eq, List.length_map, Array.length_toList]; exact hn
  obtain ⟨ks, hE, hkl, hks⟩ := strs_each vs fun v hv => by
    obtain ⟨e, he, q⟩ := List.mem_map.mp (pm.mem_iff.mp hv)
    obtain ⟨k, tk, h1, _⟩ := g e he
    exact ⟨k, tk, by rw [← q]; exact h1⟩
  refine wpAny_bind (wpAny_newList ?_ (by rw [hvl, sizeLine_eq]; omega))
  have hoL : (s1.heap.push (seqObj "list" vs.toArray 0)).get? s1.heap.objs.size = some (seqObj "list" vs.toArray 0) := Heap.get?_push_size _ rfl
  have er : PySem.W.EachIs (fun v b => ∃ as, Reads (s1.heap.push (seqObj "list" vs.toArray 0)) v (PyData.str b) as ∧ s1.heap.objs.size ∉ as) vs ks := by
    have hz0 := hoL
    clear hz0 hoL
    generalize s1.heap.push (seqObj "list" vs.toArray 0) = h0
    clear hks hkl pm hvl
    induction hE with
    | nil => exact .nil
    | cons r t ih =>
      obtain ⟨tk, rfl⟩ := r
      exact .cons ⟨[], .str _ _, by simp⟩ ih
  refine wpAny_bind (wpAny_holding (wpAny_mono (PySem.W.list_sort_data (enc := PyData.str) (n := 0) (Q := fun _ s' => Q (.ref s1.heap.objs.size) s') (s := { s1 with heap := s1.heap.push (seqObj "list" vs.toArray 0) }) hoL hE er (alike_strs ks) (sortable_strs ks) (by rw [hkl, hvl, sizeLine_eq]; omega) (fun b _ => by
    rw [Around.in1_units]
    simp only [PyData.depth]
    omega) fun out ho eo => ?_) (fun _ s' x => ?_) fun _ _ e => e))
  · obtain ⟨c, hc⟩ := sortedHeap_at (vs := vs) (out := List.toArray out) hoL
    have pmk := List.mergeSort_perm ks (PySem.W.dataLe false PyData.str)
    refine hQ _ s1.heap.objs.size (List.toArray out) c (ks.mergeSort (PySem.W.dataLe false PyData.str)) (fun b u e => ?_) g1 o1 hz hc (each_strs eo) (fun k => ?_) ?_
    · have q := k1 b u e
      have hlt := Heap.lt_size q
      show (sortedHeap (s1.heap.push (seqObj "list" vs.toArray 0)) s1.heap.objs.size vs (List.toArray out)).get? b = some u
      rw [sortedHeap_old (Nat.ne_of_lt hlt) (by rw [size_push']; exact Nat.lt_succ_of_lt hlt)]
      exact Heap.get?_push_of_some _ q
    · rw [pmk.mem_iff, hks, hm k, List.mem_map]
      constructor
      · rintro ⟨tk, h⟩
        obtain ⟨e, he, q⟩ := List.mem_map.mp (pm.mem_iff.mp h)
        exact ⟨e, he, by unfold keyX; rw [q]⟩
      · rintro ⟨e, he, q⟩
        obtain ⟨k', tk, h1, _⟩ := g e he
        refine ⟨tk, pm.mem_iff.mpr (List.mem_map.mpr ⟨e, he, ?_⟩)⟩
        unfold keyX at q
        rw [h1] at q ⊢
        rw [show k' = k from q]
    · rw [pmk.length_eq, hkl, hvl]
  · exact wpAny_pure ⟨_, rfl, x⟩
end
/-! over the hand layer -/
section
variable {X : Cx}
def SetOX (P : Program) (w : World) (a : Addr) (S : Str → Bool) (n : Nat) : HO := .ext fun h => SetX P w h a S n
def rSetX (K : PySem.W.Frag) (P : Program) (w : World) : List V → Hp → VK → Prop := fun vs H Q => ∃ (a : Addr) (xs : List Str), vs = [.ref a] ∧ SqL K H a (xs.map V.str) ∧ xs.length ≤ 2000 ∧ ∀ (p : Addr) (S : Str → Bool) (n : Nat), H p = none → n ≤ xs.length → (∀ k, S k = true ↔ k ∈ xs) → Q (.ref p) (upd H p (SetOX P w p S n))
theorem vals_strs : ∀ {xs : List Str} {us : List Value}, Vals (xs.map V.str) us → StrsAre us xs
  | [], _, r => by cases r; exact .nil
  | x :: xs, _, r => by
    cases r with
    | cons r1 r2 => obtain ⟨t, rfl⟩ := r1; exact .cons _ t (vals_strs r2)
theorem strs_vals : ∀ {us : List Value} {xs : List Str}, StrsAre us xs → Vals (xs.map V.str) us
  | _, _, .nil => .nil
  | _, _, .cons _ t r => .cons ⟨t, rfl⟩ (strs_vals r)
theorem cr_setX (hc : X.calm = true) : CallR X (.type "set") (rSetX X.K X.prog X.w) := by
  intro pins s σ H xs us Q I r h
  obtain ⟨a, ks, rfl, hq, hz2, q⟩ := h
  obtain ⟨u, rfl, rx⟩ := vals1 r
  cases rx
  obtain ⟨its, rv, pl, hz⟩ := I.list hq
  have hs := vals_strs rv
  have hl : its.length = ks.length := hs.len_eq
  refine x_set_list (I.ok.hd hc) pl.isList (xs := ks) (by simpa using hs) hz2 fun h' tk hF hk => ?_
  obtain ⟨F, m, hX, hm, hFk⟩ := hF
  have el : its.toArray.size = ks.length := by simpa using hl
  rw [el] at hm hFk
  rw [List.take_length] at hFk
  refine ⟨.ref s.heap.objs.size, _, I.laid (t' := tk) (fun b o hb => hk b o (Heap.lt_size hb) hb) (Nat.le_refl _) (o := SetOX X.prog X.w s.heap.objs.size F m) ?_, rfl, q _ F m (I.hok.fresh (Nat.le_refl _)) hm hFk⟩
  obtain ⟨o, es, ep, t, ho, hr⟩ := hX
  exact ⟨⟨o, es, ep, t, ho, hr⟩, ⟨o, ho⟩, fun h1 h2 p k => SetX.at p k⟩
def rSortX (P : Program) (w : World) : List V → Hp → VK → Prop := fun vs H Q => ∃ (a : Addr) (S : Str → Bool) (n : Nat), vs = [.ref a] ∧ H a = some (SetOX P w a S n) ∧ n ≤ 2000 ∧ ∀ (p : Addr) (ns : List Str), H p = none → (∀ k, k ∈ ns ↔ S k = true) → ns.length = n → Q (.ref p) (upd H p (.lst (ns.map V.str)))
theorem cr_sortedX (hu : X.A.units + 64 < cLine) (hc : X.calm = true) : CallR X (.builtin "sorted") (rSortX X.prog X.w) := by
  intro pins s σ H xs us Q I r h
  obtain ⟨a, S, n, rfl, ha, hn, q⟩ := h
  obtain ⟨u, rfl, rx⟩ := vals1 r
  cases rx
  obtain ⟨hX, _, _⟩ := I.hok a _ ha
  refine sorted_x hX (I.ok.hd hc) hn (by omega) fun s' p out c ns hk hg ho hsz hp hs hmem hlen => ?_
  have hlen' : (ns.map V.str).length ≤ sizeLine := by rw [List.length_map, hlen, sizeLine_eq]; omega
  have hHn : H p = none := I.hok.fresh hsz
  have J : Inv X pins σ (upd H p (.lst (ns.map V.str))) { s with heap := s'.heap, gens := s'.gens, drawn := s'.drawn, toks := s'.toks } :=
    I.call (ch := []) (Un.laid hk hsz hHn) (I.hok.laid hk hsz ⟨hlen', out.toList, c, strs_vals hs, hp⟩) (by rw [hg]; exact I.bare) (fun _ z => nomatch z)
  have e : s' = { s with heap := s'.heap, gens := s'.gens, drawn := s'.drawn, toks := s'.toks } := by
    cases s'
    cases s
    cases ho
    rfl
  rw [e]
  exact ⟨.ref p, _, J, rfl, q p ns hHn hmem hlen⟩
end
end NKS

/-! len(d) -/
namespace NK
open PySem PySem.Spec PyProof.Rows L2
section
variable {prog : Program} {w : World} {A : Around} {E : Value → Shared → Prop} {s : Shared} {d : Addr} {es : Array DictEntry} {ep : Nat}
theorem len_raw {Q : Value → Shared → Prop} (hd : (d == sysModules) = false) (hm : s.heap.DictRaw d es ep) (hfit : (es.size : Int) < 2 ^ 63)
    (h : Q (.int es.size (s.toks + 1)) { s with toks := s.toks + 1 + 1 }) : wpAny (model prog w) A (call (.builtin "len") [.ref d]) Q E s := by
  refine Calls.call_function_entry kind_len plain_len entry_len (args_len1 _) ?_
  unfold Builtin.«len»
  refine wpAny_bind (m := oneArg "len" _) (wpAny_pure ?_)
  refine wpAny_bind (m := callSpecial? (.ref d) (Str.ofString "__len__")) (wpAny_callSpecial?_slot (name := Str.ofString "__len__") hm.typeIs F.slot_dict_len
    (call_meetsIn F.slot_dict_len hm.typeIs F.entry_dict_len (F.args_dict_len_1 _) (meets_dict_len_raw d hd) ⟨es, ep, hm, ?_⟩))
  show wpAny _ _ _ _ _ { s with toks := s.toks + 1 }
  refine wpAny_bind (wpAny_holding (wpAny_pure ?_))
  refine wpAny_bind (wpAny_letGo ?_)
  show wpAny _ _ (if ((es.size : Nat) : Int) < 0 then _ else _) _ _ _
  rw [if_neg (by omega)]
  show wpAny _ _ (if ((es.size : Nat) : Int) ≥ 2 ^ 63 then _ else _) _ _ _
  rw [if_neg (by omega)]
  exact wpAny_bind (wpAny_mkInt (wpAny_pure ⟨_, rfl, h⟩))
end
def rLenD (w : World) : List V → Hp → VK → Prop := fun vs H Q => ∃ (a : Addr) (kvs : List KE) (ep : Nat), vs = [.ref a] ∧ DRaw w H a kvs ep ∧ Q (.int (kvs.length : Nat)) H
theorem cr_lenD {X : Cx} : CallR X (.builtin "len") (rLenD X.w) := by
  intro pins s σ H xs us Q I r h
  obtain ⟨a, kvs, ep, rfl, d, q⟩ := h
  obtain ⟨u, rfl, rx⟩ := vals1 r
  cases rx
  obtain ⟨es, hr, hs, hv⟩ := raw_of I d
  have hz := d.sz
  rw [sizeLine_eq] at hz
  refine len_raw d.ns hr (by rw [hs]; omega) ?_
  refine ⟨_, H, I.tok _, ?_, q⟩
  rw [hs]
  exact ⟨_, rfl⟩
end NK

namespace K31
open PySem PySem.Spec PyProof.Rows L2 NK Evl
section
variable {P : Program} {w : World} {K : PySem.W.Frag} {mg : Str → Option Value} {base : Heap} {CG CC : Addr}
/-- a dict of rows, out of ms -/
def RowsV (ms : List Addr) (w : World) : HR := fun H v => ∃ p vl, v = .ref p ∧ p ∉ ms ∧ TAt rowD w H p vl ∧ (∀ x ∈ vl, 0 < x.1.length ∧ x.1.length ≤ 5) ∧ vl.length ≤ 10000
instance {ms : List Addr} : MonoM ms (RowsV ms w) := ⟨fun m ⟨p, vl, h1, h2, h3, h4⟩ => ⟨p, vl, h1, h2, by
  obtain ⟨o, ho, _⟩ := h3.at_
  exact h3.mono (by rw [ho]; exact m.1 _ _ ho h2) m.2, h4⟩⟩
instance {ms : List Addr} : Mono (RowsV ms w) := ⟨fun e h => MonoM.mo (ms := ms) e.mod h⟩
theorem FndV.rows {F : Fd} {H : Hp} {c : Nat} {v : V} (h : FndV w H v) (f : FdAt F H c) : RowsV [F.fa] w H v := by
  obtain ⟨p, l, rfl, h1, h2, h3⟩ := h
  obtain ⟨x, hx⟩ := h1.ext2
  obtain ⟨vl, d, pr⟩ := h1
  refine ⟨p, vl, rfl, ?_, d, ?_, ?_⟩
  · intro e
    rw [List.mem_singleton.mp e, f.at_] at hx
    cases hx
  · clear d hx h3
    induction pr with
    | nil => intro x hx; cases hx
    | cons q t ih =>
      intro x hx
      rcases List.mem_cons.mp hx with e | hx
      · rw [e, q.1]; exact h2 _ List.mem_cons_self
      · exact ih (fun y hy => h2 y (List.mem_cons_of_mem _ hy)) x hx
  · rw [Paired.length pr]; exact h3
theorem lsO_of {F : Fd} {H : Hp} {c : Nat} {ds : List PyData} {v : V} (h : LsV ds H v) (f : FdAt F H c) (nd : ∀ d ∈ ds, ∀ i, d ≠ .int i) : LsO [F.fa] ds H v := by
  obtain ⟨p, xs, rfl, hp, al⟩ := h
  refine ⟨p, xs, rfl, ?_, hp, al⟩
  intro e
  have e := List.mem_singleton.mp e
  subst e
  rw [f.at_] at hp
  cases hp
  cases al with
  | cons h1 h2 =>
    cases h2 with
    | cons h3 h4 =>
      cases h3 with
      | int i => exact nd _ (List.mem_cons_of_mem _ List.mem_cons_self) _ rfl
theorem strs_no {l : List Str} : ∀ d ∈ dStrs l, ∀ i, d ≠ .int i := fun d hd i e => by
  obtain ⟨x, _, rfl⟩ := List.mem_map.mp hd
  cases e
def RowV (b : Nat) : HR := fun H v => ∃ row : List Str, row.length ≤ b ∧ Is H (rowD row) v
instance {b : Nat} : Mono (RowV b) := ⟨fun e ⟨r, h1, h2⟩ => ⟨r, h1, Is.mono e.tups _ _ h2⟩⟩
/-- a list of texts out of ms, at most n -/
def StsV (ms : List Addr) (n : Nat) : HR := fun H v => ∃ l : List Str, l.length ≤ n ∧ LsO ms (dStrs l) H v
instance {ms : List Addr} {n : Nat} : MonoM ms (StsV ms n) := ⟨fun m ⟨l, h1, h2⟩ => ⟨l, h1, MonoM.mo m h2⟩⟩
instance {ms : List Addr} {n : Nat} : Mono (StsV ms n) := ⟨fun e h => MonoM.mo (ms := ms) e.mod h⟩
section
variable {F : Fd} {ms : List Addr} {σ : L2.St} {H : Hp} {ta tb tn te : TE} {R : HR} {D : Ends} {m n k : Nat} {t : TT} {tu tw : TS}
theorem gv_sset {xs : List Str} (h : Gv ta σ H (LsV (dStrs xs))) (h0 : 0 < xs.length) (hl : xs.length ≤ 2000) :
    Gv (tOp rCat (tCB (NKS.rSortX P w) (tCons (tCB (NKS.rSetX K P w) (tCons ta tNil)) tNil)) (tLst (tCons (tC (.str "q")) tNil))) σ H (fun H1 v => ∃ l : List Str, 2 ≤ l.length ∧ l.length ≤ 3000 ∧ LsV (dStrs l) H1 v) := fun H1 e1 Q q => h H1 e1 _ fun v H2 e2 r => by
  obtain ⟨p, xs', rfl, hp, al⟩ := r
  have ex := strs_flat al
  subst ex
  refine ⟨p, xs, rfl, sq_of hp, hl, fun p2 S n np hn hS => ?_⟩
  refine ⟨p2, S, n, rfl, upd_same, by omega, fun p3 ns np3 hm hlen => ?_⟩
  have x2 := Ex.new (o := NKS.SetOX P w p2 S n) np
  have x3 := Ex.new (o := .lst (ns.map V.str)) np3
  have hc : Gv (fun _ H Q => Q (.ref p3) H) σ (upd (upd H2 p2 (NKS.SetOX P w p2 S n)) p3 (.lst (ns.map V.str))) (LsV (dStrs ns)) := fun H5 e5 Q5 q5 => q5 _ _ (Ex.refl _) ⟨p3, _, rfl, e5 _ _ upd_same, isAll_strs ns⟩
  have hn0 : 0 < ns.length := by
    cases xs with
    | nil => simp at h0
    | cons x xs => exact List.length_pos_of_mem ((hm x).mpr ((hS x).mpr List.mem_cons_self))
  refine (gv_catL (ta := fun _ H Q => Q (.ref p3) H) (ds := dStrs ns) (es := [.str "q"]) hc (gv_lst (gi_cons gv_str gi_nil)) ?_ : Gv _ _ _ _) _ (Ex.refl _) Q fun v H4 e4 r4 => q v H4 (e2.trans (x2.trans (x3.trans e4))) ⟨ns ++ [("q" : Str)], ?_, ?_, ?_⟩
  · rw [List.length_map]
    show _ + 1 ≤ 16777216
    omega
  · rw [List.length_append, List.length_singleton]; omega
  · rw [List.length_append, List.length_singleton]; omega
  · rw [show dStrs (ns ++ [("q" : Str)]) = dStrs ns ++ [.str "q"] by simp [dStrs]]
    exact r4
theorem gf_lcR {i : Nat} {l : List Str} (hn : GF F [F.fa] tn σ H m (LtV k)) (hk : k ≤ 1000) (he : ∀ x H1 c1, Mod [F.fa] H H1 → FdAt F H1 c1 → GF F [F.fa] te ((wipe σ [i]).set i (some x)) H1 n (OneOf (dStrs l))) :
    GF F [F.fa] (tLc (iRng1 (tCons tn tNil)) (gName i) tYes te [i]) σ H (m + k * n) (StsV [F.fa] k) := fun H1 c1 m1 f1 lc Q q =>
  hn H1 c1 m1 f1 (by have := Nat.zero_le (k * n); omega) _ fun v H2 c2 m2 f2 l2 ⟨r, hr, ev⟩ => by
    subst ev
    refine ⟨Int.ofNat r, rfl, by simp, by simp; omega, ?_⟩
    rw [show (Int.ofNat r).toNat = r by simp]
    intro D hD
    have nDf : D ≠ F.fa := Ne.symm (ne_at f2.at_ hD)
    have hbD : F.Hb D = none := fresh_back f2.ex_ hD
    have x3 := Ex.new (o := .lst []) hD
    have f3 := f2.ex x3
    refine lc_range (lo := 0) (n := r) (fun j H' => ∃ ci acc, Mod ([F.fa] ++ [D]) (upd H2 D (.lst [])) H' ∧ FdAt F H' ci ∧ ci ≤ c2 + j * n ∧ H' D = some (.lst acc) ∧ ∃ l8 : List Str, l8.length = j ∧ IsAll H' (dStrs l8) acc) ⟨c2, [], Mod.refl _ _, f3, by omega, upd_same, [], rfl, .nil⟩ (fun j H' hj ⟨ci, acc, mm, fi, li, hacc, l8, h8, al⟩ => ?_) fun H' ⟨ci, acc, mm, fi, li, hacc, l8, h8, al⟩ => ?_
    · have hjn : (j + 1) * n ≤ k * n := Nat.mul_le_mul_right n (by omega)
      rw [Nat.succ_mul] at hjn
      have m12 : Mod [F.fa] H H' := m1.trans (m2.trans (Mod.drop (ms := [F.fa]) mm x3 hD))
      refine ⟨wipe_one, ?_⟩
      dsimp only [tYes]
      rw [if_pos rfl]
      refine he _ H' ci m12 fi H' ci (Mod.refl _ _) fi (by omega) _ fun y H4 c4 m4 f4 l4 r4 => ?_
      obtain ⟨s, hs, is⟩ := oneOf_str r4
      have h4 := m4.1 _ _ hacc (by simpa using nDf)
      have t4 : Tups H4 (upd H4 D (.lst (acc ++ [y]))) := Tups.mut (mut_at h4)
      refine ⟨acc, h4, ?_, c4, acc ++ [y], (mm.trans (m4.wide (by simp))).trans ((Mod.refl _ _).updM (by simp) (mut_at h4)), ?_, by rw [Nat.succ_mul]; omega, upd_same, l8 ++ [s], by simp [h8], ?_⟩
      · rw [al.length, List.length_map, h8]
        show _ < 16777216
        omega
      · exact Feed.mod f4 (ms := [D]) ((Mod.refl _ _).updM (by simp) (mut_at h4)) (fun a ha => by rw [List.mem_singleton.mp ha]; exact hbD) (by rw [upd_ne (Ne.symm nDf)]; exact f4.at_)
      · rw [show dStrs (l8 ++ [s]) = dStrs l8 ++ [.str s] by simp [dStrs]]
        exact (IsAll.mono (m4.2.trans t4) _ _ al).append (.cons (Is.mono t4 _ _ is) .nil)
    · have hjn : r * n ≤ k * n := Nat.mul_le_mul_right n (by omega)
      exact q _ H' ci (m2.trans (Mod.drop (ms := [F.fa]) mm x3 hD)) fi (by omega) ⟨l8, by omega, D, acc, rfl, by simpa using nDf, hacc, al⟩
theorem gv_lenD {a : Addr} {κ : Type} [DecidableEq κ] {enc : κ → PyData} {l : List (κ × V)} (hd : Gv ta σ H (EqV (.ref a))) (h : TAt enc w H a l) : Gv (tCB (rLenD w) (tCons ta tNil)) σ H (IsV (.int (Int.ofNat l.length))) := fun H1 e1 Q q =>
  hd H1 e1 _ fun v H2 e2 r => by
    obtain ⟨kvs, ep, d, p⟩ := h.ex (e1.trans e2)
    refine ⟨a, kvs, ep, by rw [show v = .ref a from r], d, ?_⟩
    rw [Paired.length p]
    exact q _ _ e2 (.int _)
theorem alike_strsD : ∀ l m : List Str, PySem.W.alikeAll (dStrs l) (dStrs m) = true
  | [], _ => by simp [dStrs, PySem.W.alikeAll]
  | _ :: _, [] => by simp [dStrs, PySem.W.alikeAll]
  | a :: l, b :: m => by
    have := alike_strsD l m
    simp only [dStrs, List.map_cons, PySem.W.alikeAll, PySem.W.alike, Bool.true_and] at this ⊢
    exact this
theorem sortOk_rows {L : List (List Str)} (h : L.length ≤ sizeLine) (h0 : ∀ x ∈ L, 0 < x.length) : SortOk L rowD where
  al := by
    intro d hd d' hd'
    obtain ⟨x, _, rfl⟩ := List.mem_map.mp hd
    obtain ⟨y, _, rfl⟩ := List.mem_map.mp hd'
    simp only [rowD, PySem.W.alike, alike_strsD]
  so := .inl fun d hd => by
    obtain ⟨x, hx, rfl⟩ := List.mem_map.mp hd
    cases x with
    | nil => exact absurd (h0 _ hx) (by simp)
    | cons a x => exact ⟨_, _, rfl⟩
  dp := fun x _ => by
    have : ∀ l : List Str, PyData.depthAll (dStrs l) ≤ 0 := by
      intro l
      induction l with
      | nil => simp [dStrs, PyData.depthAll]
      | cons a l ih => simp only [dStrs, List.map_cons, PyData.depthAll, PyData.depth] at ih ⊢; omega
    have := this x
    simp only [rowD, PyData.depth]
    omega
  sz := h
/-- list(sorted(rows)[..]) -/
theorem gf_rowOf {p : Addr} {vl : List (List Str × V)} (hd : ∀ H1 c1, Mod [F.fa] H H1 → FdAt F H1 c1 → Gv ta σ H1 (EqV (.ref p)) ∧ TAt rowD w H1 p vl) (hv : ∀ x ∈ vl, 0 < x.1.length ∧ x.1.length ≤ 5) (hb : ∀ H1 c1, Mod [F.fa] H H1 → FdAt F H1 c1 → GF F [F.fa] tb σ H1 n (LtV vl.length)) :
    GF F [F.fa] (tCB (rListOf K) (tCons (tOp (rIxL K) (tCB (rSortD w) (tCons ta tNil)) tb) tNil)) σ H n (StsV [F.fa] 5) := fun H1 c1 m1 f1 l Q q => by
  obtain ⟨h1, h2⟩ := hd H1 c1 m1 f1
  refine gv_sortD h1 h2 (sortOk_rows ?_ ?_) H1 (Ex.refl _) _ fun x H2 e2 rx => ?_
  · rw [List.length_map]; exact h2.len
  · intro y hy
    obtain ⟨z, hz, rfl⟩ := List.mem_map.mp hy
    exact (hv z hz).1
  · obtain ⟨M, pm, _, ls⟩ := rx
    have lO := lsO_of ls (f1.ex e2) fun d hd i e => by
      obtain ⟨y, _, rfl⟩ := List.mem_map.mp hd
      cases e
    have hM : M.length = vl.length := by rw [pm.length_eq, List.length_map]
    refine hb H2 c1 (m1.trans e2.mod) (f1.ex e2) H2 c1 (Mod.refl _ _) (f1.ex e2) l _ fun y H3 c3 m3 f3 l3 ⟨r, hr, ey⟩ => ?_
    obtain ⟨p', xs, rfl, hp, hxs, al⟩ := MonoM.mo m3 lO
    have hrM : r < M.length := by omega
    obtain ⟨v, ev, iv⟩ := al.get (i := r) (d := rowD M[r]) (by rw [List.getElem?_map, List.getElem?_eq_getElem hrM]; rfl)
    have hmem : M[r] ∈ vl.map Prod.fst := pm.mem_iff.mp (List.getElem_mem hrM)
    obtain ⟨z, hz, ez⟩ := List.mem_map.mp hmem
    have h5 := (hv z hz).2
    rw [ez] at h5
    refine ⟨p', xs, Int.ofNat r, v, rfl, ey, sq_of hxs, atI_nat ev, ?_⟩
    obtain ⟨a, zs, rfl, pt, al2⟩ := (show Is H3 (.tuple (dStrs M[r])) v from iv).tup_inv
    exact ⟨a, zs, rfl, .inr pt.sq, fun p5 np5 => q _ _ c3 ((e2.mod.trans m3).trans (Ex.new np5).mod) (f3.ex (Ex.new np5)) l3 ⟨M[r], h5, p5, zs, rfl, by simpa using Ne.symm (ne_at f3.at_ np5), upd_same, IsAll.mono (Tups.new np5) _ _ al2⟩⟩
theorem st_ifJ {b : Bool} (J : L2.St → Hp → Prop) (h : EvT t σ H b) (h1 : b = true → ∀ H1, Ex H H1 → (∀ σ' H', J σ' H' → D.nx σ' H') → tu D σ H1) (h2 : b = false → ∀ H1, Ex H H1 → (∀ σ' H', J σ' H' → D.nx σ' H') → tw D σ H1) (k : ∀ σ' H', J σ' H' → D.nx σ' H') : tIfS t tu tw D σ H :=
  st_if h (fun e H1 x => h1 e H1 x k) fun e H1 x => h2 e H1 x k
theorem cutD_to (l : List Str) (b : Nat) : cutD (dStrs l) none (some (Int.ofNat b)) = dStrs (l.take b) := by
  unfold cutD
  have e1 : HT.sIx (dStrs l).length 0 none = 0 := rfl
  have e2 : HT.sIx (dStrs l).length (dStrs l).length (some (Int.ofNat b)) = min b (dStrs l).length := HT.sIx_nat (dStrs l).length (dStrs l).length b
  rw [e1, e2]
  unfold dStrs
  rw [List.drop_zero, Nat.sub_zero, List.map_take]
  by_cases h : b ≤ (l.map PyData.str).length
  · rw [Nat.min_eq_left h]
  · rw [Nat.min_eq_right (by omega), List.take_of_length_le (Nat.le_refl _), List.take_of_length_le (by omega)]
end
def spARow (w : World) (fa : Addr) : List V → Hp → List Addr → Nat → HR → Prop := fun vs H ms n R => ∃ vb vr bk b, vs = [.ref fa, vb, vr, nI b] ∧ ms = [fa] ∧ Is H (encB bk) vb ∧ BkG bk ∧ b ≤ 4 ∧ RowsV [fa] w H vr ∧ n = 40 ∧ R = RowV b
theorem signs_len {bk : Bk} (G : BkG bk) {pre post : List (Str × Tr)} (e : bk.trees = pre ++ post) : (pre.flatMap fun p => signsT p.2).length ≤ 50 * pre.length := by
  have := flat_len (l := []) (pre := pre) (n := 50) (f := fun p : Str × Tr => signsT p.2) fun x hx => by
    have h1 := signsT_len x.2
    have h2 := G.sz x (by rw [e]; exact List.mem_append_left _ hx)
    omega
  omega
theorem w_a_row (T : Txt K mg CG CC) : Cal P w K mg base 20 "_law_a_row" (SpF K (spARow w)) := by
  refine cal_of T.d_law_a_row sc__law_a_row b__law_a_row (fun vs H Q E ⟨_, _, _, _, _, _, _, ⟨_, _, _, _, e, _⟩, _⟩ => by rw [e]; rfl) fun f cdv A outer s H vs Q E hr hq => ?_
  have c__law_next := w_next (P := P) (w := w) (base := base) T
  have c__law_signs := w_signs (P := P) (w := w) (base := base) T 8
  refine ⟨_, (pss_cons (ps_set (i := 4) sc__law_a_row.nd rfl (Or.inr rfl) (pe_lst pa_nil))
    (pss_cons (ps_for PassesOwn.never rfl (pi_tup (pe_ix ix_tup (pv 1) pe_int (fun _ _ => rfl))) (pg_tup rfl (pgs_cons (pg_name (i := 5) sc__law_a_row.nd rfl (Or.inl rfl)) (pgs_cons (pg_name (i := 6) sc__law_a_row.nd rfl (Or.inl rfl)) pgs_nil)))
      (pss_one (ps_set (i := 4) sc__law_a_row.nd rfl (Or.inr rfl) (pe_op op_cat (pv 4) (pe_c c__law_signs hr (by omega) rfl (pa_cons (pv 6) pa_nil))))))
    (pss_cons (ps_set (i := 4) sc__law_a_row.nd rfl (Or.inr rfl) (pe_op op_cat (pe_callB (NKS.cr_sortedX hr.units rfl) rfl (T.fr "sorted" (by decide)) (by decide +kernel) (pa_cons (pe_callTy (NKS.cr_setX rfl) rfl (T.fr "set" (by decide)) (by decide +kernel) (pa_cons (pv 4) pa_nil)) pa_nil)) (pe_lst (pa_cons pe_str pa_nil))))
    (pss_cons (ps_set (i := 7) sc__law_a_row.nd rfl (Or.inl rfl) (pe_c c__law_next hr (by omega) rfl (pa_cons (pv 0) (pa_cons pe_int pa_nil))))
    (pss_cons (ps_setLc (i := 8) rfl sc__law_a_row.nd rfl rfl (sw_true rfl rfl rfl (by decide +kernel)) (pi_range1 (by rfl) (T.fr "range" (by decide)) (pa_cons (pe_c c__law_next hr (by omega) rfl (pa_cons (pv 0) (pa_cons (pe_op op_add (pv 3) pe_int) pa_nil))) pa_nil)) (blkOk_by (own := [("k", 12)]) (N := N__law_a_row) (sc := defScope s__law_a_row) (by decide +kernel)) (fun _ _ _ _ _ => (pg_name (i := 12) sc__law_a_row.nd rfl (Or.inl rfl))) (fun _ _ _ _ _ => pts_nil) (fun _ _ _ _ _ => (pe_ix (show IxR _ (rIxL K) from ix_list) (pv 4) (pe_c c__law_next hr (by omega) rfl (pa_cons (pv 0) (pa_cons (pe_op op_sub (pe_callB (show CallR _ _ (rLn K) from cr_len) rfl (T.fr "len" (by decide)) (by decide +kernel) (pa_cons (pv 4) pa_nil)) pe_int) pa_nil))) (fun _ _ => rfl))))
    (pss_cons (ps_if (PW.pt (pw_and (pt_cmpR op_lt (pv 7) pe_int (nomark _)) (pw_and1 (pt_cmpR op_gt (pe_callB cr_lenD rfl (T.fr "len" (by decide)) (by decide +kernel) (pa_cons (pv 2) pa_nil)) pe_int (nomark _)))))
      (pss_one (ps_set (i := 8) sc__law_a_row.nd rfl (Or.inl rfl) (pe_callTy call_list_of rfl (T.fr "list" (by decide)) (by decide +kernel) (pa_cons (pe_ix ix_list (pe_callB (cr_sortDict hr.units rfl) rfl (T.fr "sorted" (by decide)) (by decide +kernel) (pa_cons (pv 2) pa_nil)) (pe_c c__law_next hr (by omega) rfl (pa_cons (pv 0) (pa_cons (pe_callB cr_lenD rfl (T.fr "len" (by decide)) (by decide +kernel) (pa_cons (pv 2) pa_nil)) pa_nil))) (fun _ _ => rfl)) pa_nil))))
      pss_nil)
    (pss_cons (ps_if (PW.pt (pw_and (pt_cmpR op_eq (pv 7) pe_int (nomark _)) (pw_and1 (pt_cmpR op_gt (pe_callB cr_len rfl (T.fr "len" (by decide)) (by decide +kernel) (pa_cons (pv 8) pa_nil)) pe_int (nomark _)))))
      (pss_cons (ps_set (i := 9) sc__law_a_row.nd rfl (Or.inl rfl) (pe_c c__law_next hr (by omega) rfl (pa_cons (pv 0) (pa_cons (pe_callB cr_len rfl (T.fr "len" (by decide)) (by decide +kernel) (pa_cons (pv 8) pa_nil)) pa_nil))))
      (pss_cons (ps_set (i := 10) sc__law_a_row.nd rfl (Or.inl rfl) (pe_ix ix_list (pv 4) (pe_c c__law_next hr (by omega) rfl (pa_cons (pv 0) (pa_cons (pe_callB cr_len rfl (T.fr "len" (by decide)) (by decide +kernel) (pa_cons (pv 4) pa_nil)) pa_nil))) (fun _ _ => rfl)))
      (pss_cons (ps_set (i := 11) sc__law_a_row.nd rfl (Or.inl rfl) (pe_c c__law_next hr (by omega) rfl (pa_cons (pv 0) (pa_cons pe_int pa_nil))))
      (pss_one (ps_set (i := 8) sc__law_a_row.nd rfl (Or.inl rfl) (pe_op op_cat (pe_op op_cat (pe_slice sl_list (pv 8) po_none (po_some (pv 9))) (pe_ix ix_list (pe_lst (pa_cons (pe_lst pa_nil) (pa_cons (pe_lst (pa_cons (pv 10) pa_nil)) (pa_cons (pe_lst (pa_cons (pv 10) (pa_cons (pe_ix ix_list (pv 8) (pv 9) (fun _ _ => rfl)) pa_nil))) pa_nil)))) (pv 11) (fun _ _ => rfl))) (pe_slice sl_list (pv 8) (po_some (pe_op op_add (pv 9) pe_int)) po_none)))))))
      pss_nil)
    (pss_one (ps_ret (pe_callTy cr_tupOf rfl (T.fr "tuple" (by decide)) (by decide +kernel) (pa_cons (pe_slice sl_list (pv 8) po_none (po_some (pv 3))) pa_nil))))))))))), ?_⟩
  obtain ⟨F, c, n, ms, R, hF, hm, ⟨vb, vr, bk, b, rfl, rfl, hb, G, hb4, hrows, rfl, rfl⟩, fc, lc, hQ⟩ := hq
  have hfa : F.fa ∈ [F.fa] := by simp
  have eB : encB bk = .tuple [.str bk.top, .tuple (bk.trees.map fun p => .tuple [.str p.1, encT p.2])] := rfl
  -- the signs of the book
  refine sq (st_asg (R := LsV (dStrs [])) (gv_lst gi_nil) fun v0 H1 e1 r1 => ?_)
  dsimp only
  refine sq (st_forT (l := bk.trees) (f := fun p => .tuple [.str p.1, encT p.2]) (gv_ixT (gv_is (gv_var rfl (Is.mono e1.tups _ _ hb)) eB) gv_int rfl) fun H2 e2 => ?_)
  refine ⟨fun pre σ' H' => (∃ c5 c6 v4, σ' = [some (.ref F.fa), some vb, some vr, some (nI b), some v4, c5, c6, none, none, none, none, none, none] ∧ LsV (dStrs (pre.flatMap fun p => signsT p.2)) H' v4) ∧ Ex H H' ∧ Tups H2 H', ⟨⟨_, _, v0, rfl, Mono.mo e2 r1⟩, e1.trans e2, Tups.refl _⟩, fun _ _ _ h => h.2.2, ?_, ?_⟩
  · rintro pre d post x σ' H' el ⟨⟨c5, c6, v4, rfl, r4⟩, z1, z2⟩ hx
    have hd : d ∈ bk.trees := by rw [el]; simp
    obtain ⟨ax, xx, rfl, px, ix⟩ := hx.tup_inv
    obtain ⟨vk', vt, rfl, hk', ht⟩ := two_inv ix
    have hz := G.sz d hd
    have okd := G.ok.ok d hd
    have h50 := signs_len G el
    have h5 := G.n
    have lpre := congrArg List.length el
    simp only [List.length_append, List.length_cons] at lpre
    have hs := signsT_len d.2
    refine gtup2 px.sq ?_
    refine st_asg (R := LsV (dStrs ((pre ++ [d]).flatMap fun p => signsT p.2))) (gv_lsE (gv_catL (gv_var rfl r4) (gv_call (gi_cons (gv_var rfl ht) gi_nil) fun vs H1 _ ha => ⟨d.2, ha, okd.1, by omega, rfl⟩) ?_) (by simp [dStrs])) fun v6 H6 e6 r6 => ?_
    · rw [List.length_map, List.length_map]
      show _ ≤ 16777216
      omega
    · exact ⟨⟨_, _, v6, rfl, r6⟩, z1.trans e6, z2.trans e6.tups⟩
  · rintro σ' H3 ⟨⟨c5, c6, v4, rfl, r4⟩, z1, z2⟩
    have h50 := signs_len G (pre := bk.trees) (post := []) (by simp)
    have h5 := G.n
    have hpos : 0 < (bk.trees.flatMap fun p => signsT p.2).length := by
      cases ht : bk.trees with
      | nil => have := G.n0; rw [ht] at this; exact absurd this (by simp)
      | cons p ts =>
        have := G.ne p (by rw [ht]; exact List.mem_cons_self)
        rw [List.flatMap_cons, List.length_append]
        have := List.length_pos_iff.mpr this
        omega
    refine sq (st_asg (R := fun H1 v => ∃ l : List Str, 2 ≤ l.length ∧ l.length ≤ 3000 ∧ LsV (dStrs l) H1 v) (gv_sset (gv_var rfl r4) hpos (by omega)) fun v4' H4 e4 ⟨l, hl2, hl3, r4'⟩ => ?_)
    dsimp only
    have f4 := fc.ex (z1.trans e4)
    have lO := lsO_of r4' f4 strs_no
    have m04 : Mod [F.fa] H H4 := (z1.trans e4).mod
    -- the way
    refine sq (sf_asg (F := F) (ms := [F.fa]) (n := 1) (gf_next (k := 4) hF hfa rfl (fun H1 c1 m1 f1 => gv_int) (by decide)) f4 (by omega) fun v7 H5 c5' m5 f5 l5 ⟨way, hway, e7⟩ => ?_)
    subst e7
    dsimp only
    have m05 := m04.trans m5
    -- a drawn row
    refine sq (sf_asg (F := F) (ms := [F.fa]) (n := 1 + (b + 1) * 1) (R := StsV [F.fa] (b + 1)) (gf_lcR (l := l) (gf_next (k := b + 1) hF hfa rfl (fun H1 c1 m1 f1 => gv_is (gv_add (gv_var rfl (Is.int (Int.ofNat b))) gv_int) rfl) (by omega)) (by omega) fun x H1 c1 m1 f1 => gf_ix (fun H2 c2 m2 f2 => gv_var rfl (MonoM.mo (m5.trans (m1.trans m2)) lO)) (gf_imp (gf_next (k := l.length - 1) hF hfa rfl (fun H2 c2 m2 f2 => gv_is (gv_sub (gv_lenO (gv_var (R := LsO [F.fa] (dStrs l)) rfl (MonoM.mo (m5.trans (m1.trans m2)) lO))) gv_int) (by congr 1; simp; omega)) (by omega)) fun H2 v ⟨r, hr, e⟩ => ⟨r, by simp only [dStrs, List.length_map]; omega, e⟩)) f5 (by omega) fun v8 H6 c6' m6 f6 l6 r8 => ?_)
    dsimp only
    have m06 := m05.trans m6
    have r8 : StsV [F.fa] 7 H6 v8 := by
      obtain ⟨l8, h8, q8⟩ := r8
      exact ⟨l8, by omega, q8⟩
    obtain ⟨p, vl, rfl, hpn, hvl⟩ := hrows
    have rowsAt : ∀ {H' : Hp}, Mod [F.fa] H H' → TAt rowD w H' p vl := fun mm => by
      obtain ⟨o, ho, _⟩ := hvl.1.at_
      exact hvl.1.mono (by rw [ho]; exact mm.1 _ _ ho hpn) mm.2
    let J : Nat → Nat → L2.St → Hp → Prop := fun N kk σ' H' => ∃ cj v8 z9 z10 z11 z12 k5 k6, σ' = [some (.ref F.fa), some vb, some (.ref p), some (nI b), some v4', k5, k6, some (nI way), some v8, z9, z10, z11, z12] ∧ Mod [F.fa] H H' ∧ Mod [F.fa] H4 H' ∧ FdAt F H' cj ∧ cj ≤ c + N ∧ StsV [F.fa] kk H' v8
    refine sq (st_ifJ (J 8 7) (b := decide ((Int.ofNat way) < 3) && decide ((0 : Int) < Int.ofNat vl.length)) (et_and (gt_test (gv_lt (gv_var rfl (Is.int (Int.ofNat way))) gv_int)) fun _ => gt_test (gv_gt (gv_lenD (gv_ref rfl) (rowsAt m06)) gv_int)) (fun h H7 e7 k => ?_) (fun h H7 e7 k => ?_) ?_)
    · have hvp : 0 < vl.length := by
        rw [Bool.and_eq_true] at h
        have := of_decide_eq_true h.2
        simpa using this
      have m07 := m06.trans (e7.mod : Mod [F.fa] H6 H7)
      refine sf_asg (F := F) (ms := [F.fa]) (n := 1) (R := StsV [F.fa] 5) (gf_rowOf (fun H1 c1 m1 f1 => ⟨gv_ref rfl, rowsAt (m07.trans m1)⟩) hvl.2.1 fun H1 c1 m1 f1 => gf_next (k := vl.length) hF hfa rfl (fun H2 c2 m2 f2 => gv_lenD (gv_ref rfl) (rowsAt (m07.trans (m1.trans m2)))) hvp) (f6.ex e7) (by omega) fun v9 H8 c8 m8 f8 l8 ⟨l9, h9, q9⟩ => k _ _ ⟨c8, v9, _, _, _, _, _, _, rfl, m07.trans m8, (m5.trans (m6.trans e7.mod)).trans m8, f8, by omega, l9, by omega, q9⟩
    · exact k _ _ ⟨c6', v8, _, _, _, _, _, _, rfl, m06.trans e7.mod, (m5.trans m6).trans e7.mod, f6.ex e7, by omega, MonoM.mo (ms := [F.fa]) e7.mod r8⟩
    · rintro σ' H7 ⟨cj, v9, z9, z10, z11, z12, k5, k6, rfl, m07, m47, f7, l7, l9, h9, r9⟩
      have lO7 := MonoM.mo m47 lO
      refine sq (st_ifJ (J 20 9) (b := decide (way = 2) && decide ((0 : Int) < Int.ofNat l9.length)) (et_and (gt_test (gv_is (gv_eqI (gv_var rfl (Is.int (Int.ofNat way))) gv_int) (by congr 1; exact decide_eq_decide.mpr ⟨fun h => Int.ofNat_inj.mp h, fun h => by rw [h]; rfl⟩))) fun _ => gt_test (gv_gt (gv_lenO (gv_var (R := LsO [F.fa] (dStrs l9)) rfl r9)) gv_int)) (fun h H8 e8 k => ?_) (fun h H8 e8 k => ?_) ?_)
      · have hl9 : 0 < l9.length := by
          rw [Bool.and_eq_true] at h
          have := of_decide_eq_true h.2
          simpa using this
        have m08 := m07.trans (e8.mod : Mod [F.fa] H7 H8)
        have r98 := Mono.mo e8 r9
        have lO8 := Mono.mo e8 lO7
        refine sq (sf_asg (F := F) (ms := [F.fa]) (n := 1) (gf_next (k := l9.length) hF hfa rfl (fun H1 c1 m1 f1 => gv_lenO (gv_var (R := LsO [F.fa] (dStrs l9)) rfl (MonoM.mo m1 r98))) hl9) (f7.ex e8) (by omega) fun va H9 c9 m9 f9 l9' ⟨at', hat, ea⟩ => ?_)
        subst ea
        dsimp only
        refine sq (sf_asg (F := F) (ms := [F.fa]) (n := 1) (R := OneOf (dStrs l)) (gf_ix (fun H1 c1 m1 f1 => gv_var rfl (MonoM.mo (m9.trans m1) lO8)) (gf_imp (gf_next (k := l.length) hF hfa rfl (fun H1 c1 m1 f1 => gv_lenO (gv_var (R := LsO [F.fa] (dStrs l)) rfl (MonoM.mo (m9.trans m1) lO8))) (by omega)) fun H1 v ⟨r, hr, e⟩ => ⟨r, by simpa [dStrs] using hr, e⟩)) f9 (by omega) fun vs' H10 c10 m10 f10 l10 r10 => ?_)
        obtain ⟨sg, _, isg⟩ := oneOf_str r10
        dsimp only
        refine sq (sf_asg (F := F) (ms := [F.fa]) (n := 1) (gf_next (k := 3) hF hfa rfl (fun H1 c1 m1 f1 => gv_int) (by decide)) f10 (by omega) fun vt H11 c11 m11 f11 l11 ⟨bent, hbent, et⟩ => ?_)
        subst et
        dsimp only
        have m811 := m9.trans (m10.trans m11)
        have r11 := (MonoM.mo m811 r98).ls
        have isg11 := Is.mono m11.2 _ _ isg
        obtain ⟨xat, hxat⟩ : ∃ x, l9[at']? = some x := ⟨l9[at'], List.getElem?_eq_getElem hat⟩
        have mid : ∃ mids : List Str, mids.length ≤ 2 ∧ Gv (tOp (rIxL K) (tLst (tCons (tLst tNil) (tCons (tLst (tCons (tVar 10) tNil)) (tCons (tLst (tCons (tVar 10) (tCons (tOp (rIxL K) (tVar 8) (tVar 9)) tNil))) tNil)))) (tVar 11)) [some (.ref F.fa), some vb, some (.ref p), some (nI b), some v4', k5, k6, some (nI way), some v9, some (nI at'), some vs', some (nI bent), z12] H11 (LsV (dStrs mids)) := by
          have base3 : Gv (tLst (tCons (tLst tNil) (tCons (tLst (tCons (tVar 10) tNil)) (tCons (tLst (tCons (tVar 10) (tCons (tOp (rIxL K) (tVar 8) (tVar 9)) tNil))) tNil)))) [some (.ref F.fa), some vb, some (.ref p), some (nI b), some v4', k5, k6, some (nI way), some v9, some (nI at'), some vs', some (nI bent), z12] H11 (LsR [LsV (dStrs []), LsV (dStrs [sg]), LsV (dStrs [sg, xat])]) :=
            gv_lstR (gr_cons (gv_lst gi_nil) (gr_cons (gv_lst (gi_cons (gv_var rfl isg11) gi_nil)) (gr_cons (gv_lst (gi_cons (gv_var rfl isg11) (gi_cons (gv_ixL (ds := dStrs l9) (i := Int.ofNat at') (gv_var rfl r11) (gv_var rfl (Is.int (Int.ofNat at'))) (atI_nat (by simp [dStrs, hxat]))) gi_nil))) gr_nil))) (fun R hR => by
              simp only [List.mem_cons, List.not_mem_nil, or_false] at hR
              rcases hR with rfl | rfl | rfl <;> infer_instance)
          have mono3 : ∀ R ∈ [LsV (dStrs []), LsV (dStrs [sg]), LsV (dStrs [sg, xat])], Mono R := fun R hR => by
            simp only [List.mem_cons, List.not_mem_nil, or_false] at hR
            rcases hR with rfl | rfl | rfl <;> infer_instance
          have hb3 : bent = 0 ∨ bent = 1 ∨ bent = 2 := by omega
          rcases hb3 with rfl | rfl | rfl
          · exact ⟨[], by simp, gv_ixR base3 mono3 (gv_var rfl (Is.int (Int.ofNat 0))) rfl⟩
          · exact ⟨[sg], by simp, gv_ixR base3 mono3 (gv_var rfl (Is.int (Int.ofNat 1))) rfl⟩
          · exact ⟨[sg, xat], by simp, gv_ixR base3 mono3 (gv_var rfl (Is.int (Int.ofNat 2))) rfl⟩
        obtain ⟨mids, hmids, gmid⟩ := mid
        have hat2 : at' + 1 ≤ l9.length := hat
        refine st_asg (R := LsV (dStrs (l9.take at' ++ mids ++ l9.drop (at' + 1)))) (gv_lsE (gv_catL (gv_catL (gv_slL (lo := none) (hi := some (Int.ofNat at')) (gv_var rfl r11) go_none (go_some (gv_var rfl (Is.int (Int.ofNat at'))))) gmid ?_) (gv_slL (lo := some (Int.ofNat (at' + 1))) (hi := none) (gv_var rfl r11) (go_some (gv_is (gv_add (gv_var rfl (Is.int (Int.ofNat at'))) gv_int) rfl)) go_none) ?_) ?_) fun v12 H12 e12 r12 => ?_
        · rw [cutD_to, List.length_map, List.length_map, List.length_take]
          show _ ≤ 16777216
          omega
        · rw [cutD_to, List.length_append, List.length_map, List.length_map, List.length_take, cutD_drop _ (by rw [List.length_map]; exact hat2), List.length_drop, List.length_map]
          show _ ≤ 16777216
          omega
        · rw [cutD_to, cutD_drop _ (by rw [List.length_map]; exact hat2)]
          simp [dStrs]
        · have lO12 := lsO_of r12 (f11.ex e12) strs_no
          refine k _ _ ⟨c11, v12, _, _, _, _, _, _, rfl, m08.trans (m811.trans e12.mod), (m47.trans e8.mod).trans (m811.trans e12.mod), f11.ex e12, by omega, _, ?_, lO12⟩
          rw [List.length_append, List.length_append, List.length_take, List.length_drop]
          omega
      · exact k _ _ ⟨cj, v9, _, _, _, _, _, _, rfl, m07.trans e8.mod, m47.trans e8.mod, f7.ex e8, by omega, l9, by omega, Mono.mo e8 r9⟩
      · rintro σ' H8 ⟨cj, v9, z9, z10, z11, z12, k5, k6, rfl, m08, m48, f8, l8, l9, h9, r9⟩
        refine st_ret (R := RowV b) (gv_imp (gv_tupOf (gv_slL (lo := none) (hi := some (Int.ofNat b)) (gv_var rfl r9.ls) go_none (go_some (gv_var rfl (Is.int (Int.ofNat b)))))) fun H9 v _ h => ⟨l9.take b, by rw [List.length_take]; omega, by rw [cutD_to] at h; exact h⟩) fun v H9 e9 r9' => hQ v H9 cj (m08.trans e9.mod) (f8.ex e9) (by omega) r9'
end
end K31

namespace K31
open PySem PySem.Spec PyProof.Rows L2 NK Evl
section
variable {P : Program} {w : World} {K : PySem.W.Frag} {mg : Str → Option Value} {base : Heap} {CG CC : Addr}
def spLawK (K : PySem.W.Frag) : Sp := fun vs H Q _ => ∃ (a : Addr) (ns : List Int), vs = [.ref a] ∧ SqL K H a (ns.map V.int) ∧ ∀ H', Q (.bl true) H'
theorem bkL_of {bk : Bk} (G : BkG bk) : BkL bk where
  nd := G.ok.nd
  ns := G.sg
  ft := G.ft
  fu := G.fu
  ne := G.ne
  sz := G.sz
  n5 := G.n
  ht := fun p hp => (G.ok.ok p hp).1
/-- a dict with texts for keys, looked into, may be walked -/
theorem TDR.tat {β : Type} {RV : β → HR} {H : Hp} {a : Addr} {l : List (Str × β)} (h : TDR encS RV w H a l) : TAtR encS RV w H a l := by
  obtain ⟨vl, ⟨kvs, ep, d, e⟩, p⟩ := h
  refine ⟨vl, ⟨kvs, ep, d, ?_⟩, p⟩
  have hk := d.keys
  clear d p
  induction vl generalizing kvs with
  | nil =>
    cases kvs with
    | nil => exact .nil
    | cons _ _ => cases e
  | cons x vl ih =>
    cases kvs with
    | nil => cases e
    | cons y kvs =>
      simp only [NK.strip, List.map_cons, List.cons.injEq, Prod.mk.injEq] at e
      refine .cons ⟨e.1.1, ?_, e.1.2⟩ (ih kvs e.2 fun z hz => hk z (List.mem_cons_of_mem _ hz))
      have h1 := (hk y List.mem_cons_self).1
      obtain ⟨yk, yv, yw⟩ := y
      simp only at e h1
      rw [e.1.1] at h1
      simp only [encS, NK.keyDa] at h1
      cases h1
      exact .str _
theorem sor_le {l : List En} {H : Hp} {v : V} {L : List En} (hL : L.Perm l) (hs : (L.map encE).Pairwise leD) (h : SorV l encE H v) : LsV (L.map encE) H v := by
  obtain ⟨M, h1, h2, h3⟩ := h
  have : M = L := eq_sorted (h1.trans hL.symm) h2 hs
  rw [← this]
  exact h3
theorem alikeE (a b : En) : PySem.W.alike (encE a) (encE b) = true := by simp [encE, PySem.W.alike, PySem.W.alikeAll]
theorem sortOk_ends {L : List En} (h : L.length ≤ sizeLine) : SortOk L encE where
  al := by
    intro d hd d' hd'
    obtain ⟨x, _, rfl⟩ := List.mem_map.mp hd
    obtain ⟨y, _, rfl⟩ := List.mem_map.mp hd'
    exact alikeE x y
  so := .inl fun d hd => by
    obtain ⟨x, _, rfl⟩ := List.mem_map.mp hd
    exact ⟨_, _, rfl⟩
  dp := fun x _ => by simp [encE, PyData.depth, PyData.depthAll]
  sz := h
theorem plainE (L : List En) : (PyData.list (L.map encE)).plain = true := by
  have : PyData.plainAll (L.map encE) = true := by
    induction L with
    | nil => simp [PyData.plainAll]
    | cons a l ih => rw [List.map_cons, PyData.plainAll, ih]; simp [encE, PyData.plain, PyData.plainAll]
  rw [PyData.plain]
  exact this
theorem depthE (L : List En) : (PyData.list (L.map encE)).depth ≤ 40 := by
  have : PyData.depthAll (L.map encE) ≤ 1 := by
    induction L with
    | nil => simp [PyData.depthAll]
    | cons a l ih =>
      rw [List.map_cons, PyData.depthAll]
      have : (encE a).depth ≤ 1 := by simp [encE, PyData.depth, PyData.depthAll]
      omega
  rw [PyData.depth]
  omega
theorem eqvE (a : En) : PyData.eqv (encE a) (encE a) = true := by simp [encE, PyData.eqv, PyData.eqvAll]
theorem eqvE_all : ∀ L : List En, PyData.eqvAll (L.map encE) (L.map encE) = true
  | [] => by simp [PyData.eqvAll]
  | a :: L => by rw [List.map_cons, PyData.eqvAll, eqvE, eqvE_all L]; rfl
theorem eqv_seat (s : Seat) (k : Str) : PyData.eqv (.tuple [.str s.key, encP s.place, .bool s.done]) (.tuple [.str k, .tuple [], .bool true]) = decide (s = ⟨k, [], true⟩) := by
  obtain ⟨sk, sp, sd⟩ := s
  simp only [PyData.eqv, PyData.eqvAll, eqv_emp, Bool.and_true]
  by_cases h1 : sk = k
  · by_cases h2 : sp = []
    · cases sd <;> simp [h1, h2]
    · simp [h1, h2]
  · simp [h1]
theorem strL_ok {bk : Bk} (M : BkM bk) {row : List Str} {n c : Nat} {k : Str} {t : Tr} (hr : row.length ≤ 4) (hm : (k, t) ∈ bk.trees) {p : Plan} (hp : p ∈ PTn bk n k c) : ∀ e ∈ strL row (rowP bk p), Eok 4 e := by
  intro e he
  have hB := row_B M.ns M.nd n hp t hm
  have h1 := (B_count M.ns).1 hB (M.ns _ hm)
  have h2 : 0 < ownT t := List.length_pos_iff.mpr (M.ne _ hm)
  have h3 := M.ft _ hm
  have := (mem_strL (row := row) (e := e) (by rw [len_wt]; omega) (by rw [h1.1]; exact h3)).mp he
  exact Eok_le hr (Wl_ev this)
/-- the ends that are due so far -/
structure DueAt (w : World) (H : Hp) (a : Addr) (acc : List En) : Prop where
  ex : ∃ l : List (En × V), TAt encE w H a l ∧ ∀ e, e ∈ l.map (·.1) ↔ e ∈ acc
  ok : ∀ e ∈ acc, Eok 4 e
theorem DueAt.exH {H H' : Hp} {a : Addr} {acc : List En} (h : DueAt w H a acc) (e : Ex H H') : DueAt w H' a acc := by
  obtain ⟨l, d, m⟩ := h.ex
  exact ⟨⟨l, d.ex e, m⟩, h.ok⟩
theorem due_len {H : Hp} {a : Addr} {acc : List En} {l : List (En × V)} (d : TAt encE w H a l) (m : ∀ e, e ∈ l.map (·.1) ↔ e ∈ acc) (ok : ∀ e ∈ acc, Eok 4 e) : l.length ≤ 85 := by
  have h := nodup_len d.nodup (A := AE 4) fun x hx => mem_AE.mpr (ok x ((m x).mp hx))
  rw [List.length_map] at h
  exact Nat.le_trans h AE_four
theorem body_law (T : Txt K mg CG CC) : BodyOk P w K mg base "law" s_law N_law 69 (spLawK K) := by
  intro f cdv A outer s H vs Q E hr hq
  have c__law_book := w_book (P := P) (w := w) (base := base) T
  have c__law_all := w_all (P := P) (w := w) (base := base) T
  have c__law_wholes := w_wholes (P := P) (w := w) (base := base) T
  have c__law_a_row := w_a_row (P := P) (w := w) (base := base) T
  have c_entries := w_entries (P := P) (w := w) (base := base) T
  have c__law_row := w_row (P := P) (w := w) (base := base) T 5
  have c__law_stretches := w_stretches (P := P) (w := w) (base := base) T
  refine ⟨_, (pss_cons (ps_set (i := 1) sc_law.nd rfl (Or.inl rfl) (pe_lst (pa_cons (pv 0) (pa_cons pe_int pa_nil))))
    (pss_cons (ps_set (i := 2) sc_law.nd rfl (Or.inl rfl) (pe_c c__law_book hr (by omega) rfl (pa_cons (pv 1) pa_nil)))
    (pss_cons (ps_set (i := 3) sc_law.nd rfl (Or.inl rfl) (pe_callTy (cr_dictP hr.units rfl) rfl (T.fr "dict" (by decide)) (by decide +kernel) (pa_cons (pe_ix ix_tup (pv 2) pe_int (fun _ _ => rfl)) pa_nil)))
    (pss_cons (ps_asg (pe_c c__law_all hr (by omega) rfl (pa_cons (pv 2) (pa_cons pe_int (pa_cons pe_int pa_nil)))) (pg_unl rfl (pgs_cons (pg_name (i := 4) sc_law.nd rfl (Or.inl rfl)) (pgs_cons (pg_name (i := 5) sc_law.nd rfl (Or.inl rfl)) pgs_nil))))
    (pss_cons (ps_set (i := 6) sc_law.nd rfl (Or.inl rfl) (pe_c c__law_a_row hr (by omega) rfl (pa_cons (pv 1) (pa_cons (pv 2) (pa_cons (pe_c c__law_wholes hr (by omega) rfl (pa_cons (pv 2) (pa_cons (pv 4) (pa_cons (pv 5) pa_nil)))) (pa_cons (pv 5) pa_nil))))))
    (pss_cons (ps_set (i := 7) sc_law.nd rfl (Or.inl rfl) (pe_c c_entries hr (by omega) rfl (pa_cons (pv 2) (pa_cons (pv 6) pa_nil))))
    (pss_cons (ps_for PassesOwn.never rfl (pi_dict (pv 3)) (pg_name (i := 8) sc_law.nd rfl (Or.inr rfl))
      (pss_cons (ps_set (i := 9) sc_law.nd rfl (Or.inl rfl) pe_dnew)
      (pss_cons (ps_for PassesOwn.never rfl (pi_dict (pe_ix (ix_nd hr.units) (pv 4) (pv 8) (fun _ _ => rfl))) (pg_name (i := 10) sc_law.nd rfl (Or.inl rfl))
        (pss_one (ps_for PassesOwn.never rfl (pi_list (pe_ix (ix_nd hr.units) (pe_ix (ix_nd hr.units) (pv 4) (pv 8) (fun _ _ => rfl)) (pv 10) (fun _ _ => rfl))) (pg_name (i := 11) sc_law.nd rfl (Or.inl rfl))
          (pss_one (ps_for PassesOwn.never rfl (pi_list (pe_c c__law_stretches hr (by omega) rfl (pa_cons (pv 6) (pa_cons (pe_c c__law_row hr (by omega) rfl (pa_cons (pv 3) (pa_cons (pv 11) pa_nil))) pa_nil)))) (pg_name (i := 12) sc_law.nd rfl (Or.inl rfl))
            (pss_one (ps_asg pe_bl (pg_sub (pv 9) (pv 12) (set_ndR hr.units)))))))))
      (pss_one (ps_if (pt_cmpR (op_neP hr.units) (pe_lc rfl sc_law.nd (pi_list (pv 7)) (blkOk_by (own := [("entry", 13)]) (N := N_law) (sc := defScope s_law) (by decide +kernel)) (fun _ _ _ _ _ => (pg_name (i := 13) sc_law.nd rfl (Or.inl rfl))) (fun _ _ _ _ _ => (pts_one (pt_cmpR (show OpR _ _ (rEqP K) from op_eqP hr.units) (pe_slice (show SlR _ (rSlP K) from sl_tupP) (pv 13) po_none (po_some pe_int)) (pe_tupP (pa_cons (pv 8) (pa_cons (pe_tupP pa_nil) (pa_cons pe_bl pa_nil)))) (nomark _)))) (fun _ _ _ _ _ => (pe_ix (show IxR _ (rIxT K) from ix_tup) (pv 13) pe_int (fun _ _ => rfl)))) (pe_callB (cr_sortDict hr.units rfl) rfl (T.fr "sorted" (by decide)) (by decide +kernel) (pa_cons (pv 9) pa_nil)) (nomark _))
        (pss_one (ps_ret pe_bl))
        pss_nil)))))
    (pss_one (ps_ret pe_bl))))))))), ?_⟩
  obtain ⟨sa, ns, rfl, hsc, hQ⟩ := hq
  have eB : ∀ bk : Bk, encB bk = .tuple [.str bk.top, .tuple (bk.trees.map fun p => .tuple [encS p.1, encT p.2])] := fun _ => rfl
  -- the feed
  refine sq ⟨_, rfl, by show 2 ≤ 16777216; omega, fun fa nfa => ?_⟩
  have x1 := Ex.new (o := .lst [.ref sa, nI 0]) nfa
  have fc : FdAt ⟨K, H, fa, sa, ns⟩ (upd H fa (.lst [.ref sa, nI 0])) 0 := ⟨upd_same, x1, nfa, hsc⟩
  refine (?_ : _)
  change _ at fc
  generalize hF : (⟨K, H, fa, sa, ns⟩ : Fd) = F at fc
  have hFK : F.K = K := by rw [← hF]
  have hFf : F.fa = fa := by rw [← hF]
  subst hFf
  have hfa : F.fa ∈ [F.fa] := by simp
  generalize upd H F.fa (.lst [.ref sa, nI 0]) = H1 at x1 fc
  dsimp only
  -- the book
  refine sq (sf_asg (F := F) (ms := [F.fa]) (n := 0 + 0 + 2000) (R := BkV) (gf_call (m := 0 + 0) (n := 2000) (RA := ConsR (EqV (.ref F.fa)) NilR) hFK hfa (by simp) (gfa_cons (m := 0) (n := 0) (gf_pure fun _ _ _ _ => gv_ref rfl) gfa_nil) fun vs H2 c2 _ _ ra => ?_) fc (by omega) fun vb H2 c2 m2 f2 l2 ⟨bk, G, hb⟩ => ?_)
  · obtain ⟨a1, _, rfl, rfl, rfl⟩ := ra
    exact ⟨rfl, rfl, rfl, rfl⟩
  have ML := bkL_of G
  dsimp only
  -- the trees
  refine sq (st_asg (R := fun H1 v => ∃ p, v = .ref p ∧ TreesD w H1 p bk) (gv_imp (gv_dictP (f := encT) (l := bk.trees) keyS (gv_ixT (gv_is (gv_var rfl hb) (eB bk)) gv_int rfl) G.ok.nd) fun H1 v _ ⟨q, e, _, r⟩ => ⟨q, e, r⟩) fun v3 H3 e3 r3 => ?_)
  obtain ⟨ad, rfl, hd⟩ := r3
  dsimp only
  -- the plans
  refine sq ?_
  refine gv_call (R := AllV w bk) (gi_cons (gv_var rfl (Is.mono e3.tups _ _ hb)) (gi_cons gv_int (gi_cons gv_int gi_nil))) (fun vs H4 _ ha => ?_) H3 (Ex.refl _) _ fun v4 H4 e4 r4 => ?_
  · obtain ⟨q1, q2, q3, rfl, i1, i2, i3⟩ := three_inv ha
    rw [i2.int_inv, i3.int_inv]
    exact ⟨q1, bk, rfl, i1, G, rfl⟩
  obtain ⟨n, pp, vp, hn4, htot, rfl, hpp, hP⟩ := r4
  refine ⟨pp, _, rfl, sq_of hpp, rfl, _, _, rfl, _, _, rfl, rfl, ?_⟩
  have m1 : ∀ b : Tr, Mono (IsV (encT b)) := fun _ => inferInstance
  have e24 := e3.trans e4
  have hb4 := Is.mono e24.tups _ _ hb
  have hd4 := hd.ex m1 e4
  have f4 := f2.ex e24
  dsimp only
  -- the row
  refine sq (call_run (RA := ConsR (EqV (.ref F.fa)) (ConsR (IsV (encB bk)) (ConsR (FndV w) (ConsR (EqV (nI n)) NilR)))) (ga_cons (gv_ref rfl) (ga_cons (gv_var rfl hb4) (ga_cons (gv_call (RA := ConsR (IsV (encB bk)) (ConsR (PlnV w bk (cnts n) (PTn bk n)) (ConsR (EqV (nI n)) NilR))) (ga_cons (gv_var rfl hb4) (ga_cons (gv_var rfl hP) (ga_cons (gv_ref rfl) ga_nil))) fun vs H5 e5 ra => ?_) (ga_cons (gv_ref rfl) ga_nil)))) fun vs H5 e5 ra => ?_)
  · obtain ⟨q1, _, rfl, i1, q2, _, rfl, i2, q3, _, rfl, rfl, rfl⟩ := ra
    exact ⟨q1, q2, bk, n, rfl, i1, G, hn4, htot, i2, rfl⟩
  obtain ⟨_, _, rfl, rfl, q2, _, rfl, i2, q3, _, rfl, i3, _, _, rfl, rfl, rfl⟩ := ra
  have f5 := f4.ex e5
  refine ⟨F, c2, 40, [F.fa], RowV n, hFK, hfa, ⟨q2, q3, bk, n, rfl, rfl, i2, G, hn4, i3.rows f5, rfl, rfl⟩, f5, by omega, fun v6 H6 c6 m6 f6 l6 r6 => ?_⟩
  obtain ⟨row, hrow, ir⟩ := r6
  have hr4 : row.length ≤ 4 := by omega
  -- what stays: all but the feed
  have hT5 : TAtR encS (fun t => IsV (encT t)) w H5 ad bk.trees := (hd4.ex m1 e5).tat
  have hP5 := Mono.mo (R := PlnV w bk (cnts n) (PTn bk n)) e5 hP
  have tH : Tups H5 (hide F.fa H5) := fun a u ha hu => by
    unfold hide
    by_cases e : a = F.fa
    · rw [e, f5.at_] at ha
      cases ha
      exact absurd trivial hu
    · rw [if_neg e]; exact ha
  have exH : ∀ {a : Addr}, (∃ x, H5 a = some (.ext x)) → hide F.fa H5 a = H5 a := fun {a} ⟨x, hx⟩ => by
    unfold hide
    rw [if_neg (fun e => by rw [e, f5.at_] at hx; cases hx)]
  have hT6 : TAtR encS (fun t => IsV (encT t)) w (hide F.fa H5) ad bk.trees := hT5.tr (fun b v r => Is.mono tH _ _ r) (exH hT5.ext2) tH
  have hP6 : PlnV w bk (cnts n) (PTn bk n) (hide F.fa H5) vp := by
    obtain ⟨a, rfl, h⟩ := hP5
    refine ⟨a, rfl, h.tr (fun b v r => ?_) (exH h.ext2) tH⟩
    obtain ⟨b', rfl, h2⟩ := r
    refine ⟨b', rfl, h2.tr (fun ps v r => ?_) (exH h2.ext2) tH⟩
    have r : LsV (ps.map encPl) H5 v := r
    obtain ⟨p, xs, rfl, hp, hxs, al⟩ := lsO_of r f5 fun d hd i e => by
      obtain ⟨⟨k, f⟩, _, rfl⟩ := List.mem_map.mp hd
      rw [encPl] at e
      cases e
    refine ⟨p, xs, rfl, ?_, IsAll.mono tH _ _ al⟩
    unfold hide
    rw [if_neg (by simpa using hp)]
    exact hxs
  have e56 : Ex (hide F.fa H5) H6 := fun a u ha => by
    unfold hide at ha
    split at ha
    · cases ha
    · rename_i hne
      exact m6.1 a u ha (by simpa using hne)
  have hb6 := Is.mono (e5.tups.trans m6.2) _ _ hb4
  have hT := hT6.ex m1 e56
  have hPl := Mono.mo (R := PlnV w bk (cnts n) (PTn bk n)) e56 hP6
  clear hT6 hP6 hT5 hP5 tH exH e56
  dsimp only
  -- the entries
  refine sq (st_asg (R := fun H1 v => ∃ Tb, IvT bk row Tb ∧ (∀ s ∈ seatsOf bk, sameE (concl bk row Tb s) (Tb s) = true) ∧ SorV (listT (seatsOf bk) Tb) encEnt H1 v) (gv_call (gi_cons (gv_var rfl hb6) (gi_cons (gv_var rfl ir) gi_nil)) fun vs H7 _ ha => ?_) fun v7 H7 e7 r7 => ?_)
  · obtain ⟨q1, q2, rfl, i1, i2⟩ := two_inv ha
    exact ⟨q1, q2, bk, row, IvT bk row, muT bk, rfl, i1, i2, G.ok, fillP_of ML hr4 w, fun Tb I s hs => by have := (I.gd s hs).len hr4; omega, rfl⟩
  obtain ⟨Tb, IT, hfix, M, hM, hMs, hls⟩ := r7
  have hC := cl_of hfix
  dsimp only
  obtain ⟨vt, dT, pT⟩ := hT.ex m1 e7
  have kT : ∀ {vl : List (Str × V)} {l : List (Str × Tr)}, Paired (fun (x : Str × V) (p : Str × Tr) => x.1 = p.1 ∧ IsV (encT p.2) H7 x.2) vl l → vl.map (·.1) = l.map (·.1) := fun p => by
    induction p with
    | nil => rfl
    | cons q t ih => rw [List.map_cons, List.map_cons, ih, q.1]
  have hkeys := kT pT
  have ir7 := Is.mono e7.tups _ _ ir
  have hPl7 := Mono.mo (R := PlnV w bk (cnts n) (PTn bk n)) e7 hPl
  refine sq (st_forD (enc := encS) (l := vt) (fun v => v) (gv_ref rfl) (by rw [show (vt.map fun p => (p.1, p.2)) = vt by simp]; exact dT) fun H8 e8 => ?_)
  refine ⟨fun pre σ' H' => (∃ c8 c9 c10 c11 c12 c13, σ' = [some (.ref sa), some (.ref F.fa), some vb, some (.ref ad), some vp, some (nI n), some v6, some v7, c8, c9, c10, c11, c12, c13]) ∧ Ex H8 H', ⟨⟨_, _, _, _, _, _, rfl⟩, Ex.refl _⟩, fun pre σ' H' iv => ⟨iv.2.tups, by
    obtain ⟨o, ho, _⟩ := (dT.ex e8).at_
    rw [ho, iv.2 _ _ ho]⟩, ?_, ?_⟩
  · rintro pre ⟨k, vk⟩ post x σ' H9 el ⟨⟨c8, c9, c10, c11, c12, c13, rfl⟩, z⟩ hx
    have e79 := e8.trans z
    have hk : k ∈ bk.trees.map (·.1) := by rw [← hkeys, el]; simp
    obtain ⟨⟨k', t⟩, hm, rfl⟩ := List.mem_map.mp hk
    rw [(show Is H9 (.str k') x from hx).str_inv]
    have hPl9 := Mono.mo (R := PlnV w bk (cnts n) (PTn bk n)) e79 hPl7
    obtain ⟨pa, rfl, hp9⟩ := hPl9
    obtain ⟨vlp, u, dP, hv, hin⟩ := hp9.get (k := k') (b := PTn bk n k') (getA_map hk)
    obtain ⟨ib, rfl, hin⟩ := hin
    have hin0 := hin
    obtain ⟨vli, di, pri⟩ := hin
    have kI : ∀ {vl : List (Nat × V)} {l : List (Nat × List Plan)}, Paired (fun (x : Nat × V) (p : Nat × List Plan) => x.1 = p.1 ∧ LsP p.2 H9 x.2) vl l → vl.map (·.1) = l.map (·.1) := fun p => by
      induction p with
      | nil => rfl
      | cons q t ih => rw [List.map_cons, List.map_cons, ih, q.1]
    have hcnt : vli.map (·.1) = cnts n := by
      rw [kI pri, List.map_map]
      exact List.map_id _
    have hls9 := hls
    let oneP : Plan → List En := fun p => strL row (rowP bk p)
    let oneC : Nat → List En := fun c => (PTn bk n k' c).flatMap oneP
    have hokP : ∀ {c : Nat} {p : Plan}, p ∈ PTn bk n k' c → ∀ e ∈ oneP p, Eok 4 e := fun hp => strL_ok ML.toBkM hr4 hm hp
    refine sq (st_newT (enc := encE) fun dp ob ndp ddp => ?_)
    have x10 := Ex.new (o := ob) ndp
    have D10 : DueAt w (upd H9 dp ob) dp [] := ⟨⟨[], ddp, fun e => Iff.rfl⟩, fun e he => nomatch he⟩
    generalize upd H9 dp ob = H10 at x10 D10
    clear ddp
    dsimp only
    refine sq (st_forD (enc := encN) (l := vli) (fun v => v) (gv_ixD (k := k') keyS (gv_ref rfl) (gv_var rfl (Is.str k')) (dP.ex x10) hv) (by rw [show (vli.map fun p => (p.1, p.2)) = vli by simp]; exact di.ex x10) fun H11 e11 => ?_)
    have x911 := x10.trans e11
    refine ⟨fun pre2 σ' H' => (∃ c10 c11 c12 c13, σ' = [some (.ref sa), some (.ref F.fa), some vb, some (.ref ad), some (.ref pa), some (nI n), some v6, some v7, some (.str k'), some (.ref dp), c10, c11, c12, c13]) ∧ Ex H9 H' ∧ Tups H11 H' ∧ DueAt w H' dp ((pre2.map (·.1)).flatMap oneC), ⟨⟨_, _, _, _, rfl⟩, x911, Tups.refl _, D10.exH e11⟩, fun pre2 σ' H' iv => ⟨iv.2.2.1, by
      obtain ⟨o, ho, _⟩ := di.at_
      rw [x911 _ _ ho, iv.2.1 _ _ ho]⟩, ?_, ?_⟩
    · rintro pre2 ⟨c, vc⟩ post2 x2 σ' H12 el2 ⟨⟨c10, c11, c12, c13, rfl⟩, y1, y2, D12⟩ hx2
      rw [(show Is H12 (.int (Int.ofNat c)) x2 from hx2).int_inv]
      have hcm : c ∈ cnts n := by rw [← hcnt, el2]; simp
      refine st_forL (l := PTn bk n k' c) (f := encPl) (gv_ixR' (b := PTn bk n k' c) (RV := LsP) keyN (fun _ => inferInstance) (gv_ixD (k := k') keyS (gv_ref rfl) (gv_var rfl (Is.str k')) (dP.ex y1) hv) (gv_var (R := IsV (encN c)) rfl (Is.int (Int.ofNat c))) (hin0.ex (fun _ => inferInstance) y1) (by rw [getA_cs, if_pos hcm])) fun p3 xs3 H13 e13 hxs3 => ?_
      have y13 := y1.trans e13
      refine ⟨fun pre3 σ' H' => (∃ c11 c12 c13, σ' = [some (.ref sa), some (.ref F.fa), some vb, some (.ref ad), some (.ref pa), some (nI n), some v6, some v7, some (.str k'), some (.ref dp), some (nI c), c11, c12, c13]) ∧ Ex H9 H' ∧ Tups H11 H' ∧ Tups H13 H' ∧ H' p3 = some (.lst xs3) ∧ DueAt w H' dp ((pre2.map (·.1)).flatMap oneC ++ pre3.flatMap oneP), ⟨⟨_, _, _, rfl⟩, y13, y2.trans e13.tups, Tups.refl _, hxs3, by simpa using D12.exH e13⟩, fun _ _ _ h => ⟨h.2.2.2.1, h.2.2.2.2.1⟩, ?_, ?_⟩
      · rintro pre3 pl post3 x3 σ' H14 el3 ⟨⟨c11, c12, c13, rfl⟩, u1, u2, u3, u4, D14⟩ hx3
        have hpl : pl ∈ PTn bk n k' c := by rw [el3]; simp
        have e714 := e79.trans u1
        have hrl := row_len ML.ns ML.nd ML.ft hn4 hpl
        refine st_forL (l := strL row (rowP bk pl)) (f := encE) (gv_call (RA := ConsR (IsV (rowD row)) (ConsR (LsV (dStrs (rowP bk pl))) NilR)) (ga_cons (gv_var rfl (Is.mono e714.tups _ _ ir7)) (ga_cons (gv_call (RA := ConsR (EqV (.ref ad)) (ConsR (IsV (encPl pl)) NilR)) (ga_cons (gv_ref rfl) (ga_cons (gv_var rfl hx3) ga_nil)) fun vs H15 e15 ra => ?_) ga_nil)) fun vs H15 e15 ra => ?_) fun p4 xs4 H15 e15 hxs4 => ?_
        · obtain ⟨_, _, rfl, rfl, a2, _, rfl, i2, rfl⟩ := ra
          exact ⟨bk, ad, a2, n, k', c, pl, rfl, TAtR.tdr (TAtR.ex (fun _ => inferInstance) (⟨vt, dT, pT⟩ : TAtR encS (fun t => IsV (encT t)) w H7 ad bk.trees) (e714.trans e15)), i2, G, by omega, hn4, hpl, rfl⟩
        · obtain ⟨a1, _, rfl, i1, a2, _, rfl, i2, rfl⟩ := ra
          exact ⟨row, rowP bk pl, a1, a2, rfl, i1, i2, by omega, by omega, rfl⟩
        · have hacc : ((pre2.map (·.1)).flatMap oneC ++ (pre3 ++ [pl]).flatMap oneP) = ((pre2.map (·.1)).flatMap oneC ++ pre3.flatMap oneP) ++ oneP pl := by
            rw [List.flatMap_append, List.append_assoc]; simp
          generalize ((pre2.map (·.1)).flatMap oneC ++ pre3.flatMap oneP) = acc at D14 hacc
          have u15 := u1.trans e15
          refine ⟨fun pre4 σ' H' => (∃ c12 c13, σ' = [some (.ref sa), some (.ref F.fa), some vb, some (.ref ad), some (.ref pa), some (nI n), some v6, some v7, some (.str k'), some (.ref dp), some (nI c), some x3, c12, c13]) ∧ Ex H9 H' ∧ Tups H11 H' ∧ Tups H13 H' ∧ H' p3 = some (.lst xs3) ∧ Tups H15 H' ∧ H' p4 = some (.lst xs4) ∧ DueAt w H' dp (acc ++ pre4), ⟨⟨_, _, rfl⟩, u15, u2.trans e15.tups, u3.trans e15.tups, e15 _ _ u4, Tups.refl _, hxs4, by simpa using D14.exH e15⟩, fun _ _ _ h => ⟨h.2.2.2.2.2.1, h.2.2.2.2.2.2.1⟩, ?_, ?_⟩
          · rintro pre4 e post4 x4 σ' H16 el4 ⟨⟨c12, c13, rfl⟩, v1, v2, v3, v4, v5, v6', D16⟩ hx4
            obtain ⟨⟨dl, dd, dm⟩, dok⟩ := D16
            have dlen := due_len dd dm dok
            have hee : Eok 4 e := hokP hpl e (by show e ∈ strL row (rowP bk pl); rw [el4]; simp)
            refine st_setD (k := e) (R := IsV (.bool true)) keyE gv_bl (gv_ref rfl) (gv_var rfl hx4) dd (by show _ < 16777216; omega) fun v H17 ob17 e17 rv d17 t17 => ?_
            have nfd : H9 dp = none := ndp
            have ddx := dd.ex e17
            refine ⟨⟨_, _, rfl⟩, Ex.mut (v1.trans e17) nfd, (v2.trans e17.tups).trans t17, (v3.trans e17.tups).trans t17, ?_, (v5.trans e17.tups).trans t17, ?_, ⟨⟨_, d17, fun e' => ?_⟩, fun e' he' => ?_⟩⟩
            · rw [upd_ne (lst_ne (e17 _ _ v4) ddx)]
              exact e17 _ _ v4
            · rw [upd_ne (lst_ne (e17 _ _ v6') ddx)]
              exact e17 _ _ v6'
            · show e' ∈ (putA dl e v).map (·.1) ↔ _
              rw [putA_keys, ← List.append_assoc, List.mem_append, List.mem_singleton, ← dm e']
              split
              · rename_i hs
                have := getA_isSome_iff.mp hs
                constructor
                · exact .inl
                · rintro (h | rfl)
                  · exact h
                  · exact this
              · rw [List.mem_append, List.mem_singleton]
            · rw [← List.append_assoc, List.mem_append, List.mem_singleton] at he'
              rcases he' with h | rfl
              · exact dok e' h
              · exact hee
          · rintro σ' H16 ⟨⟨c12, c13, rfl⟩, v1, v2, v3, v4, v5, v6', D16⟩
            refine ⟨⟨_, _, _, rfl⟩, v1, v2, v3, v4, ?_⟩
            rw [hacc]
            exact D16
      · rintro σ' H14 ⟨⟨c11, c12, c13, rfl⟩, u1, u2, u3, u4, D14⟩
        refine ⟨⟨_, _, _, _, rfl⟩, u1, u2, ?_⟩
        rw [List.map_append, List.flatMap_append]
        simp only [List.map_cons, List.map_nil, List.flatMap_cons, List.flatMap_nil, List.append_nil]
        exact D14
    · rintro σ' H12 ⟨⟨c10, c11, c12, c13, rfl⟩, y1, y2, D12⟩
      rw [hcnt] at D12
      obtain ⟨⟨dl, dd, dm⟩, dok⟩ := D12
      have dlen := due_len dd dm dok
      have hS := seat_done hm ML.nd
      have e712 := e79.trans y1
      obtain ⟨pk1, pk2⟩ := pick_ok ML.nd (fun s hs => (IT.gd s hs).nd) hM hMs hS.1 dd.nodup (fun e => by
        rw [whole_iff ML.toBkM IT.so hC (n := n) (by omega) hm e, dm e]
        simp only [List.mem_flatMap]
        constructor
        · rintro ⟨c, h1, p, h2, h3⟩; exact ⟨c, h1, List.mem_flatMap.mpr ⟨p, h2, h3⟩⟩
        · rintro ⟨c, h1, h2⟩
          obtain ⟨p, h3, h4⟩ := List.mem_flatMap.mp h2
          exact ⟨c, h1, p, h3, h4⟩)
      have hMl : M.length ≤ sizeLine := by
        rw [hM.length_eq]
        have h1 := flat_len (l := []) (pre := seatsOf bk) (n := 85) (f := fun s => (Tb s).map fun p => (s, p.1)) fun s hs => by
          rw [List.length_map]; exact (IT.gd s hs).len hr4
        have h2 := seats_len G.ok
        have h3 : (listT (seatsOf bk) Tb).length ≤ (seatsOf bk).length * 85 := h1
        show _ ≤ 16777216
        omega
      dsimp only
      refine st_if (b := false) (gt_test (gv_is (gv_neP (d := .list ((pickT ⟨k', [], true⟩ M).map encE)) (e := .list ((pickT ⟨k', [], true⟩ M).map encE)) (RA := LsV ((pickT ⟨k', [], true⟩ M).map encE)) (RB := LsV ((pickT ⟨k', [], true⟩ M).map encE)) (gv_lsE (gv_lcL (l := M) (f := encEnt) (fun x => encE x.2) (fun x => decide (x.1 = ⟨k', [], true⟩)) (gv_var rfl (Mono.mo (R := LsV (M.map encEnt)) e712 hls)) hMl fun d x H13 hd13 e13 hx13 => ?_) (by unfold pickT; rw [List.map_map]; rfl)) (gv_imp (gv_sortD (gv_ref rfl) dd (sortOk_ends (by rw [List.length_map]; show _ ≤ 16777216; omega))) fun H13 v _ r => sor_le pk1 pk2 r) (fun _ _ r => r.dp) (fun _ _ r => r.dp) (plainE _) (plainE _) (depthE _)) (by rw [PyData.eqv, eqvE_all]; rfl))) (fun h => by cases h) fun _ H13 e13 => ?_
      · refine ⟨?_, ?_⟩
        · refine gt_test (gv_is (gv_eqP (d := .tuple [.str d.1.key, encP d.1.place, .bool d.1.done]) (e := .tuple [.str k', .tuple [], .bool true]) (RA := IsV (.tuple [.str d.1.key, encP d.1.place, .bool d.1.done])) (RB := IsV (.tuple [.str k', .tuple [], .bool true])) (gv_is (gv_slT (lo := none) (hi := some 3) (ds := [.str d.1.key, encP d.1.place, .bool d.1.done, encE d.2]) (gv_var rfl hx13) go_none (go_some gv_int)) rfl) (gv_tup (gi_cons (gv_var rfl (Is.str k')) (gi_cons (gv_tup gi_nil) (gi_cons gv_bl gi_nil)))) (fun _ _ r => r.dp) (fun _ _ r => r.dp) (by simp [PyData.plain, PyData.plainAll, plainP]) (by simp [PyData.plain, PyData.plainAll]) ?_) (by rw [eqv_seat]))
          have := depth_ints d.1.place
          simp only [encP, PyData.depth, PyData.depthAll]
          omega
        · intro _
          exact gv_ixT (ds := [.str d.1.key, encP d.1.place, .bool d.1.done, encE d.2]) (gv_var rfl hx13) gv_int rfl
      · exact ⟨⟨_, _, _, _, _, _, rfl⟩, z.trans (y1.trans e13)⟩
  · rintro σ' H9 ⟨⟨c8, c9, c10, c11, c12, c13, rfl⟩, z⟩
    dsimp only
    refine st_ret (R := IsV (.bool true)) gv_bl fun v H10 e10 r10 => ?_
    rw [r10.bl_inv]
    exact hQ H10
theorem ok_law (T : Txt K mg CG CC) {f : Addr} {fd : FuncData} (F : FunD K "law" "law" (defArgs s_law) (defBody s_law) (defScope s_law) [] [] f fd) : FnOk P w K mg base CX0 70 f fd ["script"] (spLawK K) :=
  F.ok sc_law (fun vs H Q E ⟨_, _, e, _⟩ => by rw [e]; rfl) fun cdv A outer s H vs Q E hr hs => by
    obtain ⟨t, p, q⟩ := body_law (P := P) (w := w) (base := base) T f cdv A outer s H vs Q E hr hs
    exact ⟨t, p.nox, q⟩
end
end K31

namespace K31H
open PySem PySem.Spec PyProof.Rows L2 NK K31

theorem txt {K : PySem.W.Frag} {h : Heap} {mg : Str → Option Value} (X : K.In h) (G : h.Ns mainGlobals mg) (c0 : SaysM K) : Txt K mg (He.ga K "Ground") (He.ga K "Counted") := by
  have c : He.SaysD fa fn K := congrArg (fun z : AlM => z.1) c0
  have cm : mkoB K "Counted" = true := congrArg (fun z : AlM => z.2) c0
  refine { fr := ?_, gG := ?_, gC := ?_, cG := ?_, cC := ?_, mkC := ?_, mkG := ?_, na := ?_, d_kids_of := ?_, d_places := ?_, d_piece_at := ?_, d_feet_of := ?_, d_is_graft := ?_, d_name_of := ?_, d_lay := ?_, d_behind_one_another := ?_, d_put_round := ?_, d_name_at := ?_, d_Ground_is_top := ?_, d_Ground_has_foot := ?_, d_Ground_leaf := ?_, d_Ground_prefixes := ?_, d_Ground_bare := ?_, d_Ground_knot := ?_, d_Ground_hole := ?_, d_Ground_concluded := ?_, d_Ground_filled := ?_, d_Ground_listed := ?_, d_Counted_unit := ?_, d_Counted_both := ?_, d_Counted_either := ?_, d_Counted_of_tree := ?_, d_entries := ?_, d_law_mixed := ?_, d_law_next := ?_, d_law_leaf := ?_, d_law_takes := ?_, d_law_knot := ?_, d_law_signs := ?_, d_law_tree := ?_, d_law_book := ?_, d_law_sites := ?_, d_law_feet := ?_, d_law_called := ?_, d_law_fill := ?_, d_law_all := ?_, d_law_line := ?_, d_law_row := ?_, d_law_wholes := ?_, d_law_a_row := ?_, d_law_stretches := ?_, d_law := ?_ }
  · intro x hx
    simp only [List.mem_cons, List.not_mem_nil, or_false] at hx
    rcases hx with rfl | rfl | rfl | rfl | rfl | rfl | rfl | rfl | rfl | rfl
    · exact He.free_ok X G (c.fact 49 (f := .free "len") rfl)
    · exact He.free_ok X G (c.fact 50 (f := .free "range") rfl)
    · exact He.free_ok X G (c.fact 51 (f := .free "enumerate") rfl)
    · exact He.free_ok X G (c.fact 52 (f := .free "reversed") rfl)
    · exact He.free_ok X G (c.fact 53 (f := .free "dict") rfl)
    · exact He.free_ok X G (c.fact 54 (f := .free "list") rfl)
    · exact He.free_ok X G (c.fact 55 (f := .free "tuple") rfl)
    · exact He.free_ok X G (c.fact 56 (f := .free "set") rfl)
    · exact He.free_ok X G (c.fact 57 (f := .free "sorted") rfl)
    · exact He.free_ok X G (c.fact 58 (f := .free "int") rfl)
  · exact He.glo_ok X G (c.fact 44 (f := .glo "Ground") rfl)
  · exact He.glo_ok X G (c.fact 46 (f := .glo "Counted") rfl)
  · exact He.cls_ok (c.fact 45 (f := .cls "Ground") rfl)
  · exact He.cls_ok (c.fact 47 (f := .cls "Counted") rfl)
  · exact mko_ok cm
  · obtain ⟨fd, F⟩ := c.def_ 10 (d := d_Ground_init) rfl
    exact ⟨_, fd, F, He.mkr_ok (c.fact 48 (f := .mkr "Ground") rfl)⟩
  · intro x hx
    simp only [List.mem_cons, List.not_mem_nil, or_false] at hx
    rcases hx with rfl | rfl | rfl | rfl | rfl | rfl
    · exact He.noat_ok (c.fact 59 (f := .noat "Ground" "top") rfl)
    · exact He.noat_ok (c.fact 60 (f := .noat "Ground" "signs") rfl)
    · exact He.noat_ok (c.fact 61 (f := .noat "Ground" "pieces") rfl)
    · exact He.noat_ok (c.fact 62 (f := .noat "Ground" "called") rfl)
    · exact He.noat_ok (c.fact 63 (f := .noat "Ground" "seats") rfl)
    · exact He.noat_ok (c.fact 64 (f := .noat "Ground" "tops") rfl)
  · obtain ⟨fd, F⟩ := c.def_ 0 (d := d_kids_of) rfl
    exact ⟨_, fd, F, He.glo_ok X G (c.fact 0 (f := .glo "kids_of") rfl)⟩
  · obtain ⟨fd, F⟩ := c.def_ 1 (d := d_places) rfl
    exact ⟨_, fd, F, He.glo_ok X G (c.fact 1 (f := .glo "places") rfl)⟩
  · obtain ⟨fd, F⟩ := c.def_ 2 (d := d_piece_at) rfl
    exact ⟨_, fd, F, He.glo_ok X G (c.fact 2 (f := .glo "piece_at") rfl)⟩
  · obtain ⟨fd, F⟩ := c.def_ 3 (d := d_feet_of) rfl
    exact ⟨_, fd, F, He.glo_ok X G (c.fact 3 (f := .glo "feet_of") rfl)⟩
  · obtain ⟨fd, F⟩ := c.def_ 4 (d := d_is_graft) rfl
    exact ⟨_, fd, F, He.glo_ok X G (c.fact 4 (f := .glo "is_graft") rfl)⟩
  · obtain ⟨fd, F⟩ := c.def_ 5 (d := d_name_of) rfl
    exact ⟨_, fd, F, He.glo_ok X G (c.fact 5 (f := .glo "name_of") rfl)⟩
  · obtain ⟨fd, F⟩ := c.def_ 6 (d := d_lay) rfl
    exact ⟨_, fd, F, He.glo_ok X G (c.fact 6 (f := .glo "lay") rfl)⟩
  · obtain ⟨fd, F⟩ := c.def_ 7 (d := d_behind_one_another) rfl
    exact ⟨_, fd, F, He.glo_ok X G (c.fact 7 (f := .glo "behind_one_another") rfl)⟩
  · obtain ⟨fd, F⟩ := c.def_ 8 (d := d_put_round) rfl
    exact ⟨_, fd, F, He.glo_ok X G (c.fact 8 (f := .glo "put_round") rfl)⟩
  · obtain ⟨fd, F⟩ := c.def_ 9 (d := d_name_at) rfl
    exact ⟨_, fd, F, He.glo_ok X G (c.fact 9 (f := .glo "name_at") rfl)⟩
  · obtain ⟨fd, F⟩ := c.def_ 11 (d := d_Ground_is_top) rfl
    exact ⟨_, fd, F, He.meth_ok (c.fact 10 (f := .meth "Ground" "is_top") rfl)⟩
  · obtain ⟨fd, F⟩ := c.def_ 12 (d := d_Ground_has_foot) rfl
    exact ⟨_, fd, F, He.meth_ok (c.fact 11 (f := .meth "Ground" "has_foot") rfl)⟩
  · obtain ⟨fd, F⟩ := c.def_ 13 (d := d_Ground_leaf) rfl
    exact ⟨_, fd, F, He.meth_ok (c.fact 12 (f := .meth "Ground" "leaf") rfl)⟩
  · obtain ⟨fd, F⟩ := c.def_ 14 (d := d_Ground_prefixes) rfl
    exact ⟨_, fd, F, He.meth_ok (c.fact 13 (f := .meth "Ground" "prefixes") rfl)⟩
  · obtain ⟨fd, F⟩ := c.def_ 15 (d := d_Ground_bare) rfl
    exact ⟨_, fd, F, He.meth_ok (c.fact 14 (f := .meth "Ground" "bare") rfl)⟩
  · obtain ⟨fd, F⟩ := c.def_ 16 (d := d_Ground_knot) rfl
    exact ⟨_, fd, F, He.meth_ok (c.fact 15 (f := .meth "Ground" "knot") rfl)⟩
  · obtain ⟨fd, F⟩ := c.def_ 17 (d := d_Ground_hole) rfl
    exact ⟨_, fd, F, He.meth_ok (c.fact 16 (f := .meth "Ground" "hole") rfl)⟩
  · obtain ⟨fd, F⟩ := c.def_ 18 (d := d_Ground_concluded) rfl
    exact ⟨_, fd, F, He.meth_ok (c.fact 17 (f := .meth "Ground" "concluded") rfl)⟩
  · obtain ⟨fd, F⟩ := c.def_ 19 (d := d_Ground_filled) rfl
    exact ⟨_, fd, F, He.meth_ok (c.fact 18 (f := .meth "Ground" "filled") rfl)⟩
  · obtain ⟨fd, F⟩ := c.def_ 20 (d := d_Ground_listed) rfl
    exact ⟨_, fd, F, He.meth_ok (c.fact 19 (f := .meth "Ground" "listed") rfl)⟩
  · obtain ⟨fd, F⟩ := c.def_ 21 (d := d_Counted_unit) rfl
    exact ⟨_, fd, F, He.meth_ok (c.fact 20 (f := .meth "Counted" "unit") rfl)⟩
  · obtain ⟨fd, F⟩ := c.def_ 22 (d := d_Counted_both) rfl
    exact ⟨_, fd, F, He.meth_ok (c.fact 21 (f := .meth "Counted" "both") rfl)⟩
  · obtain ⟨fd, F⟩ := c.def_ 23 (d := d_Counted_either) rfl
    exact ⟨_, fd, F, He.meth_ok (c.fact 22 (f := .meth "Counted" "either") rfl)⟩
  · obtain ⟨fd, F⟩ := c.def_ 24 (d := d_Counted_of_tree) rfl
    exact ⟨_, fd, F, He.meth_ok (c.fact 23 (f := .meth "Counted" "of_tree") rfl)⟩
  · obtain ⟨fd, F⟩ := c.def_ 25 (d := d_entries) rfl
    exact ⟨_, fd, F, He.glo_ok X G (c.fact 24 (f := .glo "entries") rfl)⟩
  · obtain ⟨fd, F⟩ := c.def_ 26 (d := d__law_mixed) rfl
    exact ⟨_, fd, F, He.glo_ok X G (c.fact 25 (f := .glo "_law_mixed") rfl)⟩
  · obtain ⟨fd, F⟩ := c.def_ 27 (d := d__law_next) rfl
    exact ⟨_, fd, F, He.glo_ok X G (c.fact 26 (f := .glo "_law_next") rfl)⟩
  · obtain ⟨fd, F⟩ := c.def_ 28 (d := d__law_leaf) rfl
    exact ⟨_, fd, F, He.glo_ok X G (c.fact 27 (f := .glo "_law_leaf") rfl)⟩
  · obtain ⟨fd, F⟩ := c.def_ 29 (d := d__law_takes) rfl
    exact ⟨_, fd, F, He.glo_ok X G (c.fact 28 (f := .glo "_law_takes") rfl)⟩
  · obtain ⟨fd, F⟩ := c.def_ 30 (d := d__law_knot) rfl
    exact ⟨_, fd, F, He.glo_ok X G (c.fact 29 (f := .glo "_law_knot") rfl)⟩
  · obtain ⟨fd, F⟩ := c.def_ 31 (d := d__law_signs) rfl
    exact ⟨_, fd, F, He.glo_ok X G (c.fact 30 (f := .glo "_law_signs") rfl)⟩
  · obtain ⟨fd, F⟩ := c.def_ 32 (d := d__law_tree) rfl
    exact ⟨_, fd, F, He.glo_ok X G (c.fact 31 (f := .glo "_law_tree") rfl)⟩
  · obtain ⟨fd, F⟩ := c.def_ 33 (d := d__law_book) rfl
    exact ⟨_, fd, F, He.glo_ok X G (c.fact 32 (f := .glo "_law_book") rfl)⟩
  · obtain ⟨fd, F⟩ := c.def_ 34 (d := d__law_sites) rfl
    exact ⟨_, fd, F, He.glo_ok X G (c.fact 33 (f := .glo "_law_sites") rfl)⟩
  · obtain ⟨fd, F⟩ := c.def_ 35 (d := d__law_feet) rfl
    exact ⟨_, fd, F, He.glo_ok X G (c.fact 34 (f := .glo "_law_feet") rfl)⟩
  · obtain ⟨fd, F⟩ := c.def_ 36 (d := d__law_called) rfl
    exact ⟨_, fd, F, He.glo_ok X G (c.fact 35 (f := .glo "_law_called") rfl)⟩
  · obtain ⟨fd, F⟩ := c.def_ 37 (d := d__law_fill) rfl
    exact ⟨_, fd, F, He.glo_ok X G (c.fact 36 (f := .glo "_law_fill") rfl)⟩
  · obtain ⟨fd, F⟩ := c.def_ 38 (d := d__law_all) rfl
    exact ⟨_, fd, F, He.glo_ok X G (c.fact 37 (f := .glo "_law_all") rfl)⟩
  · obtain ⟨fd, F⟩ := c.def_ 39 (d := d__law_line) rfl
    exact ⟨_, fd, F, He.glo_ok X G (c.fact 38 (f := .glo "_law_line") rfl)⟩
  · obtain ⟨fd, F⟩ := c.def_ 40 (d := d__law_row) rfl
    exact ⟨_, fd, F, He.glo_ok X G (c.fact 39 (f := .glo "_law_row") rfl)⟩
  · obtain ⟨fd, F⟩ := c.def_ 41 (d := d__law_wholes) rfl
    exact ⟨_, fd, F, He.glo_ok X G (c.fact 40 (f := .glo "_law_wholes") rfl)⟩
  · obtain ⟨fd, F⟩ := c.def_ 42 (d := d__law_a_row) rfl
    exact ⟨_, fd, F, He.glo_ok X G (c.fact 41 (f := .glo "_law_a_row") rfl)⟩
  · obtain ⟨fd, F⟩ := c.def_ 43 (d := d__law_stretches) rfl
    exact ⟨_, fd, F, He.glo_ok X G (c.fact 42 (f := .glo "_law_stretches") rfl)⟩
  · obtain ⟨fd, F⟩ := c.def_ 44 (d := d_law) rfl
    exact ⟨_, fd, F, He.glo_ok X G (c.fact 43 (f := .glo "law") rfl)⟩
end K31H

namespace K31H
open PySem PySem.Spec PyProof.Rows L2 NK K31
theorem facts {P : Program} {w : World} {K : PySem.W.Frag} {h : Heap} {mg : Str → Option Value} {f : Addr} (X : K.In h) (G : h.Ns mainGlobals mg) (hfa : mg ("law" : Str) = some (.ref f)) (c : SaysM K) :
    ∃ fd : FuncData, (∀ (s : Shared) (v : Value), BindsTo s fd ⟨[v], []⟩ [("script", v)]) ∧ ∀ base : Heap, K.In base → base.Ns mainGlobals mg → FnOk P w K mg base CX0 70 f fd ["script"] (spLawK K) := by
  have T := txt X G c
  obtain ⟨f', fd, F, e⟩ := T.d_law
  have e2 := hfa.symm.trans e
  cases e2
  have b := FunD.bindsA (ps := ["script"]) F fun _ _ _ _ _ _ us hl => match us, hl with | [_], _ => rfl
  exact ⟨fd, fun s v => b s [v] rfl, fun base _ _ => ok_law T F⟩
end K31H
open PySem PySem.W PySem.Calls PyProof.Rows
theorem PySem.Challenge.cw_graftsay_k31_whole_what_plans_cover_holds : PySem.Challenge.rw_graftsay_k31_whole_what_plans_cover.Holds := by
  w_on; o_law
  refine HandSHeadRun.head_any (r := OpenLaw.row PySem.Challenge.rw_graftsay_k31_whole_what_plans_cover) (q := view (OpenLaw.row PySem.Challenge.rw_graftsay_k31_whole_what_plans_cover).prog [41]) (H := K31H.hk) (ob := K31H.ob) (M := 3000) (loose := K31H.names) (d := HandSHeadRun.topDef (OpenLaw.row PySem.Challenge.rw_graftsay_k31_whole_what_plans_cover).prog 41) (kwd := []) K31H.ob_eq
    (by kernel_rfl) (fun s => by kernel_rfl) K31H.run (by kernel_rfl) (by kernel_rfl) (by kernel_rfl) (by rfl) (by first | assumption | decide +kernel) (by decide +kernel) ⟨rfl, rfl, rfl, rfl, rfl, by decide +kernel⟩ ?hw ?hc
  case hw => w_witness2
  case hc =>
    refine L2.walk_ofE (l := PySem.Challenge.rw_graftsay_k31_whole_what_plans_cover) (n := 63) (k := 70) (x := "script") (CX := L2.CX0) rfl (by decide) (by kernel_rfl) ⟨rfl, by decide, by decide⟩ ?F (fun _ _ _ _ z => z)
    intro w mg fa h Y G hmg0
    obtain ⟨K, KX, c⟩ := Y
    have hmg : mg ("law" : PySem.Str) = some (.ref fa) := by
      have e : (HandSHeadRun.topDef (OpenLaw.row PySem.Challenge.rw_graftsay_k31_whole_what_plans_cover).prog 41).name = ("law" : PySem.Str) := by kernel_rfl
      rw [← e]
      exact hmg0
    obtain ⟨fd, hb, hF⟩ := K31H.facts (P := (PySem.Challenge.rw_graftsay_k31_whole_what_plans_cover).prog) (w := w) KX G hmg c
    exact ⟨K, fd, K31.spLawK K, KX, hb, fun H a ns hl _ hS => ⟨a, ns, rfl, hS, fun _ => rfl⟩, hF⟩
