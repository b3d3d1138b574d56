import PyProof.Rows.All
import HandS.ForMost
import KE.KeyNested
import PyProof.DictMoreH
import HandS.Lambda
import Wide.All
import OpenK.AllK
import Wide.FinOn
import HandS.Wide
import HandS.Style
import HandS.Conv
import HandS.Strs
import HandS.Flow
import HandS.Evl
import HandS.TupAny
import HandS.RaiseMore
import HandS.SetFor
import KE.OsSort
import HandS.EndBits
import HandS.EndTab
import HandS.IsInst
import HandS.More
import HandS.Zip
import HandS.Text
import HandS.Deep
import HandS.Dict
import HandS.Small
import PyProof.TupleOfSeq
import KE.GoesMore
import KE.DatumOrd
import HandS.DictComp
import HandS.TupMul
import KE.KRevSl
import KE.SortKeyHeap
import PySem.Challenge.RW_nightstairs_k11_throughs_judged
set_option Elab.async false
set_option linter.all false
set_option maxRecDepth 100000
set_option maxHeartbeats 4000000
/-! NtA: dicts whose keys are any data: whole numbers, texts, None, tuples of such; mixed. -/
namespace NT
open PySem L2 SeqAt
abbrev NK := NestedKey
abbrev XS := List (NK × Value × Value)
def entA (w : World) (x : NK × Value × Value) : DictEntry := ⟨x.1.hash w, x.2.1, x.2.2⟩
/-- the keys are what they are said to be -/
def KeysA (h : Heap) (xs : XS) : Prop := ∀ x ∈ xs, NestedIs h x.1 x.2.1 ∧ x.1.depth ≤ 8
def DictA (w : World) (h : Heap) (d : Addr) (xs : XS) : Prop :=
  ∃ o es ep, h.get? d = some o ∧ o.ExactDict ∧ o.data = .dict es ep ∧ es.toList = xs.map (entA w) ∧ KeysA h xs ∧ (xs.map (·.1)).Nodup
theorem ent_at {w : World} {es : Array DictEntry} {xs : XS} (he : es.toList = xs.map (entA w)) (j : Nat) : es[j]? = (xs[j]?).map (entA w) := by
  rw [← Array.getElem?_toList, he, List.getElem?_map]
theorem ent_size {w : World} {es : Array DictEntry} {xs : XS} (he : es.toList = xs.map (entA w)) : es.size = xs.length := by
  rw [← Array.length_toList, he, List.length_map]
theorem idx_one {xs : XS} (hn : (xs.map (·.1)).Nodup) {i j : Nat} {k : NK} {p q : Value × Value} (hi : xs[i]? = some (k, p)) (hj : xs[j]? = some (k, q)) : i = j := by
  have a : (xs.map (·.1))[i]? = some k := by rw [List.getElem?_map, hi]; rfl
  have b : (xs.map (·.1))[j]? = some k := by rw [List.getElem?_map, hj]; rfl
  exact (List.getElem?_inj (List.getElem?_eq_some_iff.mp a).1 hn).mp (a.trans b.symm)
section
variable {prog : Program} {w : World} {A : Around} {E : Value → Shared → Prop} {s : Shared}
theorem if_split {α : Type} {M : Model} {A : Around} {c : Prop} [Decidable c] {x y : Sem α} {Q : α → Shared → Prop} {E : Value → Shared → Prop} {s : Shared} (h1 : c → wpAny M A x Q E s) (h2 : ¬ c → wpAny M A y Q E s) : wpAny M A (if c then x else y) Q E s := by
  by_cases h : c
  · rw [if_pos h]; exact h1 h
  · rw [if_neg h]; exact h2 h
theorem mayTell_a {u : Value} {stored : List Value} {Q : Bool → Shared → Prop} (hq : QuietAt prog w 8 s u) (hst : ∀ v ∈ stored, QuietAt prog w 8 s v) (h : Q false s) :
    wpAny (model prog w) A (tableMayTell u stored) Q E s := by
  unfold tableMayTell
  split
  · exact wpAny_pure h
  · refine wpAny_bind (hq _ _ _ ?_)
    rw [if_neg (by decide)]
    refine wpAny_bind ?_
    refine wpAny_forIn_list _ (fun rest r t => t = s ∧ r = (none, ()) ∧ ∀ v ∈ rest, QuietAt prog w 8 s v) _ ?_ ?_ _ _ ⟨rfl, rfl, hst⟩
    · rintro x rest r t ⟨rfl, rfl, hr⟩
      refine wpAny_bind (hr x List.mem_cons_self _ _ _ ?_)
      rw [if_neg (by decide)]
      exact wpAny_pure ⟨rfl, rfl, fun v hv => hr v (List.mem_cons_of_mem _ hv)⟩
    · rintro r t ⟨rfl, rfl, _⟩
      exact wpAny_pure h
variable {d : Addr} {o : Obj} {es : Array DictEntry} {ep : Nat} {xs : XS} {k : NK} {u : Value} {Q : Option Nat → Shared → Prop}
/-- what the places ahead of i have shown -/
def Far (xs : XS) (k : NK) (i : Nat) : Prop := ∀ (j : Nat) (p : Value × Value), j < i → xs[j]? ≠ some (k, p)
def restP (w : World) (es : Array DictEntry) (k : NK) (i : Nat) : List Nat := (List.range' i (es.size - i)).filter fun j => (es[j]?.map (·.hash)) == some (k.hash w)
theorem hash_at (he : es.toList = xs.map (entA w)) {j : Nat} {p : Value × Value} (hj : xs[j]? = some (k, p)) : ((es[j]?.map (·.hash)) == some (k.hash w)) = true := by
  rw [ent_at he j, hj]; simp [entA]
theorem far_step (he : es.toList = xs.map (entA w)) {i x : Nat} {rest : List Nat} (hr : x :: rest = restP w es k i) (hi : i ≤ es.size) (hf : Far xs k i) :
    x < es.size ∧ rest = restP w es k (x + 1) ∧ Far xs k x ∧ i ≤ x := by
  obtain ⟨h1, h2, h3, h4, h5⟩ := filter_range'_cons _ _ _ _ _ hr.symm
  refine ⟨by omega, ?_, fun j p hjx hj => ?_, h1⟩
  · rw [h5]; unfold restP; congr 2; omega
  · rcases Nat.lt_or_ge j i with h | h
    · exact hf j p h hj
    · have a := h4 j h hjx
      rw [hash_at he hj] at a
      cases a
theorem far_end (he : es.toList = xs.map (entA w)) {i : Nat} (hr : [] = restP w es k i) (hf : Far xs k i) : ∀ (j : Nat) (p : Value × Value), xs[j]? ≠ some (k, p) := fun j p hj => by
  rcases Nat.lt_or_ge j i with h | h
  · exact hf j p h hj
  · have hl : j < es.size := by
      rw [ent_size he]
      exact (List.getElem?_eq_some_iff.mp hj).1
    have a := List.filter_eq_nil_iff.mp hr.symm j (List.mem_range'_1.mpr ⟨h, by omega⟩)
    exact a (hash_at he hj)
theorem far_next {x : Nat} {k' : NK} {p' : Value × Value} (hx : xs[x]? = some (k', p')) (ne : ¬ k' = k) (hf : Far xs k x) : Far xs k (x + 1) := fun j p hjx hj => by
  rcases Nat.lt_or_ge j x with h | h
  · exact hf j p h hj
  · have e : j = x := by omega
    subst e
    rw [hx] at hj
    cases hj
    exact ne rfl
theorem walk_a (hu : A.units + 8 < cLine) (hk : NestedIs s.heap k u) (hdp : k.depth ≤ 8) (ho : s.heap.get? d = some o) (hd : o.data = .dict es ep) (he : es.toList = xs.map (entA w)) (his : KeysA s.heap xs)
    (hnone : (∀ (j : Nat) (p : Value × Value), xs[j]? ≠ some (k, p)) → Q none s) (hsome : ∀ (j : Nat) (p : Value × Value), xs[j]? = some (k, p) → Q (some j) s) :
    wpAny (model prog w) A (dictWalkPlain d u (k.hash w) es (restP w es k 0)) Q E s := by
  unfold dictWalkPlain
  refine wpAny_bind ?_
  refine wpAny_forIn_list _ (fun rest b t => t = s ∧ b = (none, ()) ∧ ∃ i, i ≤ es.size ∧ rest = restP w es k i ∧ Far xs k i) _ ?_ ?_ _ _ ⟨rfl, rfl, 0, Nat.zero_le _, rfl, fun j p h => absurd h (Nat.not_lt_zero _)⟩
  · rintro x rest b t ⟨rfl, rfl, i, hi, hr, hf⟩
    obtain ⟨hlt, hrest, hfx, _⟩ := far_step he hr hi hf
    obtain ⟨⟨k', u', v'⟩, hx⟩ : ∃ y, xs[x]? = some y := ⟨_, List.getElem?_eq_getElem (by rw [← ent_size he]; exact hlt)⟩
    have hkx := his _ (List.mem_of_getElem? hx)
    have hex : es[x]? = some ⟨k'.hash w, u', v'⟩ := by rw [ent_at he x, hx]; rfl
    rw [hex]
    dsimp only
    by_cases hh : (k'.hash w == k.hash w) = true
    · rw [if_pos hh]
      refine wpAny_bind (wpAny_dictEpoch ho hd ?_)
      refine wpAny_bind (eqAt_key k' k A t u' u hkx.1 hk (by omega) _ _ _ _ ?_)
      refine wpAny_bind (wpAny_dictEpoch ho hd ?_)
      rw [if_neg (by simp), ← NestedKey.decide_eq]
      by_cases hkk : k' = k
      · rw [decide_eq_true hkk, if_pos rfl]
        subst hkk
        exact wpAny_bind (wpAny_rule (wpAny_pure (wpAny_pure (hsome x _ hx))))
      · rw [decide_eq_false hkk, if_neg (by decide)]
        exact wpAny_bind (wpAny_rule (wpAny_pure ⟨rfl, rfl, x + 1, hlt, hrest, far_next hx hkk hfx⟩))
    · rw [if_neg hh]
      refine wpAny_pure ⟨rfl, rfl, x + 1, hlt, hrest, far_next hx (fun e => hh (by rw [e]; simp)) hfx⟩
  · rintro b t ⟨rfl, rfl, i, hi, hr, hf⟩
    exact wpAny_pure (hnone (far_end he hr hf))
theorem text_a {x : Str} {t : Tok} (ho : s.heap.get? d = some o) (hd : o.data = .dict es ep) (he : es.toList = xs.map (entA w)) (his : KeysA s.heap xs) (hu : A.units + 8 < cLine) (hall : (es.all fun e => isExactStrKey e.key) = true)
    (hnone : (∀ (j : Nat) (p : Value × Value), xs[j]? ≠ some (.text x, p)) → Q none s) (hsome : ∀ (j : Nat) (p : Value × Value), xs[j]? = some (.text x, p) → Q (some j) s) :
    wpAny (model prog w) A (foundByValue d (.str x t) es x) Q E s := by
  have hat : ∀ (j : Nat) (k' : NK) (u' v' : Value), xs[j]? = some (k', u', v') → (u'.isStr x = true ↔ k' = .text x) := fun j k' u' v' hj => by
    have hkx := (his _ (List.mem_of_getElem? hj)).1
    cases hkx with
    | text y t' =>
      show (y == x) = true ↔ _
      constructor
      · intro h; rw [eq_of_beq h]
      · intro h; cases h; simp
    | none => simp [Value.isStr]
    | bool e => simp [Value.isStr]
    | int i t => simp [Value.isStr]
    | tup _ _ _ _ => simp [Value.isStr]
  unfold foundByValue
  cases hf : es.findIdx? (fun e => e.key.isStr x) with
  | none =>
    dsimp only
    refine wpAny_pure (hnone fun j p hj => ?_)
    have hl : j < es.size := by rw [ent_size he]; exact (List.getElem?_eq_some_iff.mp hj).1
    have a := Array.findIdx?_eq_none_iff.mp hf
    have b : es[j]? = some (entA w (.text x, p)) := by rw [ent_at he j, hj]; rfl
    have c := a _ (Array.mem_of_getElem? b)
    have e : p.1.isStr x = true := (hat j _ p.1 p.2 hj).mpr rfl
    rw [show (entA w (NestedKey.text x, p)).key = p.1 from rfl, e] at c
    cases c
  | some i =>
    dsimp only
    obtain ⟨hl, hp, _⟩ := Array.findIdx?_eq_some_iff_getElem.mp hf
    obtain ⟨⟨k', u', v'⟩, hx⟩ : ∃ y, xs[i]? = some y := ⟨_, List.getElem?_eq_getElem (by rw [← ent_size he]; exact hl)⟩
    have hex : es[i]? = some ⟨k'.hash w, u', v'⟩ := by rw [ent_at he i, hx]; rfl
    have hex2 : es[i] = ⟨k'.hash w, u', v'⟩ := by rw [Array.getElem?_eq_getElem hl] at hex; exact Option.some.inj hex
    rw [hex2] at hp
    have hk' := (hat i k' u' v' hx).mp hp
    subst hk'
    rw [hex]
    dsimp only
    refine wpAny_bind (wpAny_dictEpoch ho hd ?_)
    refine wpAny_bind (eqAt_key (.text x) (.text x) A s u' (.str x t) (his _ (List.mem_of_getElem? hx)).1 (.text x t) (by simp only [NestedKey.depth]; omega) _ _ _ _ ?_)
    refine wpAny_bind (wpAny_dictEpoch ho hd ?_)
    rw [if_neg (by simp), NestedKey.beq_self, if_pos rfl]
    exact wpAny_bind (wpAny_rule (wpAny_pure (hsome i _ hx)))
theorem find_a (hu : A.units + 8 < cLine) (hk : NestedIs s.heap k u) (hdp : k.depth ≤ 8)
    (ho : s.heap.get? d = some o) (hd : o.data = .dict es ep) (he : es.toList = xs.map (entA w)) (his : KeysA s.heap xs) (hn : (xs.map (·.1)).Nodup)
    (hnone : (∀ (j : Nat) (p : Value × Value), xs[j]? ≠ some (k, p)) → Q none s) (hsome : ∀ (j : Nat) (p : Value × Value), xs[j]? = some (k, p) → Q (some j) s) :
    wpAny (model prog w) A (dictFind d u (k.hash w)) Q E s := by
  have hwalk := walk_a (prog := prog) (E := E) hu hk hdp ho hd he his hnone hsome
  have hpl : placesWithHash es.size (fun i => es[i]?.map (·.hash)) (k.hash w) = restP w es k 0 := by unfold placesWithHash restP; rw [List.range_eq_range', Nat.sub_zero]
  have hany : ∀ a, u = Value.ref a → ¬ (es.any fun e => e.key == u && e.hash != k.hash w) = true := by
    rintro a rfl
    rw [← Array.any_toList, he, List.any_map, List.any_eq_true]
    rintro ⟨x, hx, hc⟩
    simp only [Function.comp_def, entA, Bool.and_eq_true, beq_iff_eq, bne_iff_ne, ne_eq] at hc
    have h1 := (his x hx).1
    rw [hc.1] at h1
    exact hc.2 (by rw [NestedIs.inj _ _ _ h1 hk])
  have hst : ∀ v ∈ (restP w es k 0).filterMap (fun i => es[i]?.map (·.key)), QuietAt prog w 8 s v := fun v hv => by
    obtain ⟨i, _, hi⟩ := List.mem_filterMap.mp hv
    rw [ent_at he i] at hi
    cases hx : xs[i]? with
    | none => rw [hx] at hi; cases hi
    | some x =>
      rw [hx] at hi
      have e : x.2.1 = v := by simpa [entA] using hi
      subst e
      have := his x (List.mem_of_getElem? hx)
      exact quiet_key _ _ 8 s this.1 this.2
  have hquiet : QuietAt prog w 8 s u := quiet_key _ _ 8 s hk hdp
  have htext : ∀ x t, u = .str x t → (es.all fun e => isExactStrKey e.key) = true → wpAny (model prog w) A (foundByValue d (.str x t) es x) Q E s := by
    rintro x t rfl hall
    cases hk
    exact text_a ho hd he his hu hall hnone hsome
  have hk' := hk
  obtain ⟨J, hJ⟩ : ∃ J : List Nat → Option (Option Nat) × Option Nat → Prop, ∀ rest b, J rest b ↔ ∃ i hit, b = (none, hit) ∧ i ≤ es.size ∧ rest = restP w es k i ∧ ((hit = none ∧ Far xs k i) ∨ ∃ j p, hit = some j ∧ j < i ∧ xs[j]? = some (k, p)) := ⟨_, fun _ _ => Iff.rfl⟩
  unfold dictFind
  try with_reducible refine wpAny_holding ?_
  refine wpAny_bind (wpAny_dictEntries ho hd ?_)
  cases hk
  all_goals dsimp only
  case' text x t =>
    refine if_split (fun hall => htext _ _ rfl hall) (fun hall => ?_)
  all_goals rw [hpl]
  all_goals
    first
      | rw [if_neg (hany _ rfl)]
      | skip
  all_goals
    refine if_split (fun hcv => hwalk) (fun hcv => ?_)
  all_goals
    refine if_split (fun hone => wpAny_bind (wpAny_pure ?_)) (fun hone => wpAny_bind (mayTell_a hquiet hst ?_))
  all_goals
    rw [if_neg (by simp)]
    refine wpAny_bind ?_
    refine wpAny_forIn_list _ (fun rest b t => t = s ∧ J rest b) _ ?_ ?_ _ _
      ⟨rfl, (hJ _ _).mpr ⟨0, none, rfl, Nat.zero_le _, rfl, .inl ⟨rfl, fun j p h => absurd h (Nat.not_lt_zero _)⟩⟩⟩
    · rintro x rest b t ⟨rfl, hb⟩
      obtain ⟨i, hit, rfl, hi, hr, hH⟩ := (hJ _ _).mp hb
      obtain ⟨h1, h2, h3, h4, h5⟩ := filter_range'_cons _ _ _ _ _ hr.symm
      have hlt : x < es.size := by omega
      have hrest := h5
      obtain ⟨⟨k', u', v'⟩, hx⟩ : ∃ y, xs[x]? = some y := ⟨_, List.getElem?_eq_getElem (by rw [← ent_size he]; exact hlt)⟩
      have hkx := his _ (List.mem_of_getElem? hx)
      have hex : es[x]? = some ⟨k'.hash w, u', v'⟩ := by rw [ent_at he x, hx]; rfl
      rw [hex]
      dsimp only
      refine if_split (fun hh => ?_) fun hh => ?_
      · refine wpAny_bind (wpAny_dictEpoch ho hd ?_)
        refine wpAny_bind (eqAt_key k' _ A t u' _ hkx.1 hk' (by omega) _ _ _ _ ?_)
        refine wpAny_bind (wpAny_dictEpoch ho hd ?_)
        rw [if_neg (by simp), ← NestedKey.decide_eq]
        refine if_split (fun hkk => ?_) fun hkk => ?_
        · have hkk := of_decide_eq_true hkk
          subst hkk
          rcases hH with ⟨rfl, _⟩ | ⟨j, p, _, hjx, hj⟩
          · rw [if_neg (by simp)]
            refine wpAny_bind (wpAny_rule ?_)
            refine if_split (fun _ => wpAny_pure (wpAny_pure (hsome x _ hx))) fun _ => wpAny_pure ⟨rfl, (hJ _ _).mpr ⟨x + 1, some x, rfl, hlt, ?_, .inr ⟨x, _, rfl, Nat.lt_succ_self x, hx⟩⟩⟩
            rw [hrest]; unfold restP; congr 2; omega
          · exact absurd (idx_one hn hj hx) (by omega)
        · have hkk : ¬ k' = _ := fun e => hkk (decide_eq_true e)
          refine wpAny_bind (wpAny_rule ?_)
          rw [if_neg (by simp)]
          refine wpAny_pure ⟨rfl, (hJ _ _).mpr ⟨x + 1, hit, rfl, hlt, by rw [hrest]; unfold restP; congr 2; omega, ?_⟩⟩
          rcases hH with ⟨a, b⟩ | ⟨j, p, a, b, c⟩
          · exact .inl ⟨a, far_next hx hkk (far_step he hr hi b).2.2.1⟩
          · exact .inr ⟨j, p, a, by omega, c⟩
      · refine wpAny_pure ⟨rfl, (hJ _ _).mpr ⟨x + 1, hit, rfl, hlt, by rw [hrest]; unfold restP; congr 2; omega, ?_⟩⟩
        rcases hH with ⟨a, b⟩ | ⟨j, p, a, b, c⟩
        · exact .inl ⟨a, far_next hx (fun e => hh (by rw [e]; simp)) (far_step he hr hi b).2.2.1⟩
        · exact .inr ⟨j, p, a, by omega, c⟩
    · rintro b t ⟨rfl, hb⟩
      obtain ⟨i, hit, rfl, hi, hr, hH⟩ := (hJ _ _).mp hb
      rcases hH with ⟨rfl, hf'⟩ | ⟨j, p, rfl, _, hj⟩
      · exact wpAny_pure (hnone (far_end he hr hf'))
      · exact wpAny_pure (hsome j p hj)

/-! ### reading, storing -/
def atA (xs : XS) (k : NK) : Option Value := (xs.find? fun x => decide (x.1 = k)).map (·.2.2)
def putX (k : NK) (v : Value) (x : NK × Value × Value) : NK × Value × Value := if x.1 = k then (x.1, x.2.1, v) else x
def putA (xs : XS) (k : NK) (u v : Value) : XS := if (atA xs k).isSome = true then xs.map (putX k v) else xs ++ [(k, u, v)]
def cutA (xs : XS) (k : NK) : XS := xs.filter fun x => decide (x.1 ≠ k)
theorem atA_none {xs : XS} {k : NK} (h : ∀ (j : Nat) (p : Value × Value), xs[j]? ≠ some (k, p)) : atA xs k = none ∧ k ∉ xs.map (·.1) := by
  have n : k ∉ xs.map (·.1) := fun hm => by
    obtain ⟨x, hx, rfl⟩ := List.mem_map.mp hm
    obtain ⟨j, hj⟩ := List.mem_iff_getElem?.mp hx
    exact h j x.2 hj
  refine ⟨?_, n⟩
  have : (xs.find? fun x => decide (x.1 = k)) = none := List.find?_eq_none.mpr fun x hx hk => n (List.mem_map.mpr ⟨x, hx, of_decide_eq_true hk⟩)
  unfold atA; rw [this]; rfl
theorem atA_some : ∀ {xs : XS} {j : Nat} {k : NK} {p : Value × Value}, (xs.map (·.1)).Nodup → xs[j]? = some (k, p) → atA xs k = some p.2
  | [], _, _, _, _, h => by simp at h
  | x :: xs, 0, k, p, _, h => by
    simp only [List.getElem?_cons_zero, Option.some.injEq] at h
    subst h; simp [atA]
  | x :: xs, j + 1, k, p, hn, h => by
    rw [List.map_cons, List.nodup_cons] at hn
    simp only [List.getElem?_cons_succ] at h
    have ne : ¬ x.1 = k := fun e => hn.1 (e ▸ List.mem_map.mpr ⟨(k, p), List.mem_of_getElem? h, rfl⟩)
    have ih := atA_some hn.2 h
    unfold atA at ih ⊢
    rw [List.find?_cons, decide_eq_false ne]
    exact ih
theorem putX_keys (k : NK) (v : Value) (xs : XS) : (xs.map (putX k v)).map (·.1) = xs.map (·.1) := by
  rw [List.map_map]
  refine List.map_congr_left fun x _ => ?_
  show (putX k v x).1 = x.1
  unfold putX; split <;> rfl
theorem putX_not {k : NK} {v : Value} {xs : XS} (h : k ∉ xs.map (·.1)) : xs.map (putX k v) = xs := by
  rw [List.map_congr_left (g := id)]
  · simp
  · intro x hx
    unfold putX
    rw [if_neg (fun (e : x.1 = k) => h (e ▸ List.mem_map.mpr ⟨x, hx, rfl⟩))]
    rfl
theorem modify_put {k : NK} {v : Value} : ∀ {xs : XS} {j : Nat} {p : Value × Value}, (xs.map (·.1)).Nodup → xs[j]? = some (k, p) → (xs.map (entA w)).modify j (fun e => { e with val := v }) = (xs.map (putX k v)).map (entA w)
  | [], _, _, _, h => by simp at h
  | x :: xs, 0, p, hn, h => by
    rw [List.map_cons, List.nodup_cons] at hn
    simp only [List.getElem?_cons_zero, Option.some.injEq] at h
    subst h
    rw [List.map_cons, List.map_cons, putX_not hn.1, List.map_cons]
    show { entA w (k, p) with val := v } :: _ = entA w (putX k v (k, p)) :: _
    unfold putX; rw [if_pos rfl]; rfl
  | x :: xs, j + 1, p, hn, h => by
    rw [List.map_cons, List.nodup_cons] at hn
    simp only [List.getElem?_cons_succ] at h
    have ne : ¬ x.1 = k := fun e => hn.1 (e ▸ List.mem_map.mpr ⟨(k, p), List.mem_of_getElem? h, rfl⟩)
    rw [List.map_cons, List.map_cons, List.map_cons]
    show entA w x :: (xs.map (entA w)).modify j _ = entA w (putX k v x) :: _
    rw [modify_put hn.2 h]
    unfold putX; rw [if_neg ne]
theorem erase_cut {k : NK} : ∀ {xs : XS} {j : Nat} {p : Value × Value}, (xs.map (·.1)).Nodup → xs[j]? = some (k, p) → (xs.map (entA w)).eraseIdx j = (cutA xs k).map (entA w)
  | [], _, _, _, h => by simp at h
  | x :: xs, 0, p, hn, h => by
    rw [List.map_cons, List.nodup_cons] at hn
    simp only [List.getElem?_cons_zero, Option.some.injEq] at h
    subst h
    have e : cutA ((k, p) :: xs) k = xs := by
      unfold cutA
      rw [List.filter_cons, if_neg (by simp)]
      exact List.filter_eq_self.mpr fun x hx => decide_eq_true (p := x.1 ≠ k) fun (e : x.1 = k) => hn.1 (e ▸ List.mem_map.mpr ⟨x, hx, rfl⟩)
    rw [e, List.map_cons, List.eraseIdx_cons_zero]
  | x :: xs, j + 1, p, hn, h => by
    rw [List.map_cons, List.nodup_cons] at hn
    simp only [List.getElem?_cons_succ] at h
    have ne : ¬ x.1 = k := fun e => hn.1 (e ▸ List.mem_map.mpr ⟨(k, p), List.mem_of_getElem? h, rfl⟩)
    rw [List.map_cons, List.eraseIdx_cons_succ, erase_cut hn.2 h]
    unfold cutA
    rw [List.filter_cons, if_pos (by simpa using ne)]
    rfl
theorem KeysA.upd {h h' : Heap} {d : Addr} {o : Obj} {es ep} (x : KeysA h xs) (ho : h.get? d = some o) (hd : o.data = .dict es ep) (hs : Heap.SameBut d h h') : KeysA h' xs := fun y hy =>
  ⟨NestedIs.at (fun b ob vs n hb hc => by
    refine (hs.2 b fun e => ?_).trans hb
    subst e
    rw [ho] at hb; cases hb
    rw [hd] at hc; cases hc) _ _ (x y hy).1, (x y hy).2⟩
theorem key_upd {h h' : Heap} {d : Addr} {o : Obj} {es ep} (x : NestedIs h k u) (ho : h.get? d = some o) (hd : o.data = .dict es ep) (hs : Heap.SameBut d h h') : NestedIs h' k u :=
  NestedIs.at (fun b ob vs n hb hc => by
    refine (hs.2 b fun e => ?_).trans hb
    subst e
    rw [ho] at hb; cases hb
    rw [hd] at hc; cases hc) _ _ x
theorem DictA.typeIs (hm : DictA w s.heap d xs) : s.TypeIs (.ref d) "dict" := let ⟨o, _, _, ho, hc, _⟩ := hm; ⟨o, ho, hc.1⟩
theorem get_a {Q : Option Value → Shared → Prop} (hu : A.units + 8 < cLine) (hk : NestedIs s.heap k u) (hdp : k.depth ≤ 8) (hm : DictA w s.heap d xs) (h : Q (atA xs k) { s with toks := s.toks + k.draws }) :
    wpAny (model prog w) A (dictGet d u) Q E s := by
  obtain ⟨o, es, ep, ho, _, hd, he, his, hn⟩ := hm
  unfold dictGet
  try with_reducible refine wpAny_holding ?_
  refine wpAny_bind (pyHash_key k u A s _ hk (by omega) ?_)
  refine wpAny_bind (find_a (s := { s with toks := s.toks + k.draws }) hu hk hdp ho hd he his hn (fun hno => ?_) fun j p hj => ?_)
  · rw [(atA_none hno).1] at h
    exact wpAny_pure h
  · rw [atA_some hn hj] at h
    refine wpAny_bind (wpAny_dictEntries (s := { s with toks := s.toks + k.draws }) ho hd ?_)
    rw [ent_at he j, hj]
    exact wpAny_pure h
theorem nodup_new {xs : XS} (hn : (xs.map (·.1)).Nodup) (h : k ∉ xs.map (·.1)) (v : Value) : ((xs ++ [(k, u, v)]).map (·.1)).Nodup := by
  rw [List.map_append, List.nodup_append]
  refine ⟨hn, by simp, fun x hx y hy => ?_⟩
  rw [List.map_cons, List.map_nil, List.mem_singleton] at hy
  subst hy
  exact fun e => h (e ▸ hx)
theorem keysA_new {h : Heap} (x : KeysA h xs) (hk : NestedIs h k u) (hdp : k.depth ≤ 8) (v : Value) : KeysA h (xs ++ [(k, u, v)]) := fun y hy => by
  rcases List.mem_append.mp hy with hy | hy
  · exact x y hy
  · rw [List.mem_singleton] at hy
    subst hy
    exact ⟨hk, hdp⟩
theorem keysA_put {h : Heap} (x : KeysA h xs) (v : Value) : KeysA h (xs.map (putX k v)) := fun y hy => by
  obtain ⟨z, hz, rfl⟩ := List.mem_map.mp hy
  unfold putX
  split <;> exact x z hz
theorem set_a {v : Value} {Q : Unit → Shared → Prop} (hu : A.units + 8 < cLine) (hk : NestedIs s.heap k u) (hdp : k.depth ≤ 8) (ho : s.heap.get? d = some o) (hc : o.ExactDict) (hd : o.data = .dict es ep) (he : es.toList = xs.map (entA w)) (his : KeysA s.heap xs) (hn : (xs.map (·.1)).Nodup) (hsz : xs.length ≤ sizeLine)
    (hQ : ∀ h' o' es' ep', h'.get? d = some o' → o'.ExactDict → o'.data = .dict es' ep' → es'.toList = (putA xs k u v).map (entA w) → ((putA xs k u v).map (·.1)).Nodup → Heap.SameBut d s.heap h' → Q () { s with heap := h', toks := s.toks + k.draws }) :
    wpAny (model prog w) A (dictSet d u v) Q E s := by
  unfold dictSet
  try with_reducible refine wpAny_holding ?_
  refine wpAny_bind (pyHash_key k u A s _ hk (by omega) ?_)
  unfold dictSetHashed
  try with_reducible refine wpAny_holding ?_
  refine wpAny_bind (find_a (s := { s with toks := s.toks + k.draws }) hu hk hdp ho hd he his hn (fun hno => ?_) fun j p hj => ?_)
  · obtain ⟨h1, h2⟩ := atA_none hno
    have hp : putA xs k u v = xs ++ [(k, u, v)] := by unfold putA; rw [h1]; rfl
    rw [hp] at hQ
    refine wpAny_bind (wpAny_rule (wpAny_updateDictKeys (hz := by have e := ent_size he; omega) (s := { s with toks := s.toks + k.draws }) ho hd ?_))
    exact hQ _ _ _ (ep + 1) (Heap.get?_update_self _ ho (Obj.isFreed_of_dict (Obj.data_mapDictKeys hd _))) (hc.mapDictKeys _) (Obj.data_mapDictKeys hd _) (by simp [he, entA]) (nodup_new hn h2 v) (Heap.SameBut.update ..)
  · have h1 := atA_some hn hj
    have hp : putA xs k u v = xs.map (putX k v) := by unfold putA; rw [h1]; rfl
    rw [hp] at hQ
    refine wpAny_bind (wpAny_rule (wpAny_bind (wpAny_updateDict (s := { s with toks := s.toks + k.draws }) ho hd (wpAny_point ?_))))
    refine hQ _ _ _ ep (Heap.get?_update_self _ ho (Obj.isFreed_of_dict (Obj.data_mapDict hd _))) (hc.mapDict _) (Obj.data_mapDict hd _) ?_ (by rw [putX_keys]; exact hn) (Heap.SameBut.update ..)
    have := modify_put (w := w) (v := v) hn hj
    rw [← he] at this
    obtain ⟨l⟩ := es
    simpa using this
end
end NT

set_option Elab.async false
set_option linter.all false
set_option maxRecDepth 100000
set_option maxHeartbeats 4000000
/-! NtB: such dicts in the abstract heap. -/
namespace NT
open PySem L2 SeqAt
/-- the world that texts are hashed in -/
class Wd where
  w : World
/-- the entries of a dict: key, the key's value, value -/
abbrev EV := List (NK × V × V)
def RelE (e : NK × V × V) (x : NK × Value × Value) : Prop := e.1 = x.1 ∧ RelV e.2.1 x.2.1 ∧ RelV e.2.2 x.2.2
def DicP [W : Wd] (a : Addr) (es : EV) (ep : Nat) (h : Heap) : Prop :=
  es.length ≤ sizeLine ∧ (a == sysModules) = false ∧ (es.map (·.1)).Nodup ∧ (∀ e ∈ es, e.1.depth ≤ 8) ∧ ∃ (o : Obj) (ar : Array DictEntry) (xs : XS), h.get? a = some o ∧ o.ExactDict ∧ o.data = .dict ar ep ∧ ar.toList = xs.map (entA W.w) ∧ Paired RelE es xs
/-- a dict at a -/
def DicO [Wd] (a : Addr) (es : EV) (ep : Nat) : HO := .ext (DicP a es ep)
theorem DicP.ok [Wd] {P : Program} {w : World} {H : Hp} {h : Heap} {a : Addr} {es : EV} {ep : Nat} (x : DicP a es ep h) : ObjOk P w H h a (DicO a es ep) := by
  refine ⟨x, ?_, fun h1 h2 p k => ?_⟩
  · obtain ⟨_, _, _, _, o, _, _, e, _⟩ := x
    exact ⟨o, e⟩
  · obtain ⟨a1, a2, a3, a4, o, ar, xs, e, r⟩ := p
    exact ⟨a1, a2, a3, a4, o, ar, xs, k _ e, r⟩
theorem dicP_of [Wd] {P : Program} {w : World} {H : Hp} {h : Heap} {a : Addr} {es : EV} {ep : Nat} (ok : HOk P w H h) (e : H a = some (DicO a es ep)) : DicP a es ep h := (ok a _ e).1
/-- the value v in the abstract heap is the key k -/
inductive KeyV (H : Hp) : NK → V → Prop
  | none : KeyV H .none .non
  | num (i : Int) : KeyV H (.num i) (.int i)
  | text (x : Str) : KeyV H (.text x) (.str x)
  | nil {a : Addr} : H a = some (.tup []) → KeyV H (.tup []) (.ref a)
  | tup {a : Addr} {vs : List V} {ks : List NK} : H a = some (.tup vs) → vs.length = ks.length → (∀ (i : Nat) (k : NK) (v : V), ks[i]? = some k → vs[i]? = some v → KeyV H k v) → KeyV H (.tup ks) (.ref a)
theorem KeyV.mono {H H' : Hp} (s : ∀ a vs, H a = some (.tup vs) → H' a = some (.tup vs)) {k : NK} {v : V} (h : KeyV H k v) : KeyV H' k v := by
  induction h with
  | none => exact .none
  | num i => exact .num i
  | text x => exact .text x
  | nil e => exact .nil (s _ _ e)
  | tup e l _ ih => exact .tup (s _ _ e) l ih
theorem nAll_of {h : Heap} : ∀ {ks : List NK} {us : List Value}, us.length = ks.length → (∀ (i : Nat) (k : NK) (u : Value), ks[i]? = some k → us[i]? = some u → NestedIs h k u) → NestedAll h ks us
  | [], [], _, _ => .nil
  | [], _ :: _, l, _ => by cases l
  | _ :: _, [], l, _ => by cases l
  | k :: ks, u :: us, l, f => .cons (f 0 k u rfl rfl) (nAll_of (by simpa using l) fun i k' u' h1 h2 => f (i + 1) k' u' (by simpa using h1) (by simpa using h2))
theorem vals_at : ∀ {vs : List V} {us : List Value} {i : Nat} {u : Value}, Vals vs us → us[i]? = some u → ∃ v, vs[i]? = some v ∧ RelV v u
  | _, _, _, _, .nil, h => by simp at h
  | _, _, 0, u, .cons a b, h => by
    simp only [List.getElem?_cons_zero, Option.some.injEq] at h
    subst h
    exact ⟨_, rfl, a⟩
  | _, _, i + 1, u, .cons a b, h => by
    simp only [List.getElem?_cons_succ] at h
    obtain ⟨v, e, r⟩ := vals_at b h
    exact ⟨v, by simpa using e, r⟩
theorem vals_len : ∀ {vs : List V} {us : List Value}, Vals vs us → us.length = vs.length
  | _, _, .nil => rfl
  | _, _, .cons _ b => by simp [vals_len b]
theorem KeyV.is {P : Program} {w : World} {H : Hp} {h : Heap} (ok : HOk P w H h) {k : NK} {v : V} (x : KeyV H k v) : ∀ {u : Value}, RelV v u → NestedIs h k u := by
  induction x with
  | none => intro u r; cases (show u = Value.none from r); exact .none
  | num i => intro u r; obtain ⟨t, e⟩ := (show ∃ t, u = Value.int i t from r); subst e; exact .int _ _
  | text x => intro u r; obtain ⟨t, e⟩ := (show ∃ t, u = Value.str x t from r); subst e; exact .text _ _
  | nil e =>
    intro u r
    cases (show u = Value.ref _ from r)
    obtain ⟨_, its, rv, o, h1, h2, n, h3⟩ := (show ObjOk P w H h _ (.tup []) from ok _ _ e)
    cases rv
    exact .tup h1 h2 h3 .nil
  | @tup a vs ks e l _ ih =>
    intro u r
    cases (show u = Value.ref _ from r)
    obtain ⟨_, its, rv, o, h1, h2, n, h3⟩ := (show ObjOk P w H h _ (.tup vs) from ok _ _ e)
    refine .tup h1 h2 h3 ?_
    show NestedAll h ks its
    refine nAll_of (by rw [vals_len rv, l]) fun i k u hk hu => ?_
    obtain ⟨v, hv, rr⟩ := vals_at rv hu
    exact ih i k v hk hv rr
/-- the keys of a dict's entries are what they are said to be -/
def KeysV (H : Hp) (es : EV) : Prop := ∀ e ∈ es, KeyV H e.1 e.2.1
theorem KeysV.mono {H H' : Hp} {es : EV} (s : ∀ a vs, H a = some (.tup vs) → H' a = some (.tup vs)) (h : KeysV H es) : KeysV H' es := fun e he => (h e he).mono s
theorem pairE_mem {es : EV} {xs : XS} (r : Paired RelE es xs) : ∀ x ∈ xs, ∃ e ∈ es, RelE e x := by
  induction r with
  | nil => intro x hx; cases hx
  | cons a _ ih =>
    intro x hx
    rcases List.mem_cons.mp hx with e | hx
    · subst e; exact ⟨_, List.mem_cons_self, a⟩
    · obtain ⟨e, he, r⟩ := ih x hx
      exact ⟨e, List.mem_cons_of_mem _ he, r⟩
theorem pairE_keys {es : EV} {xs : XS} (r : Paired RelE es xs) : xs.map (·.1) = es.map (·.1) := by
  induction r with
  | nil => rfl
  | cons a _ ih => rw [List.map_cons, List.map_cons, ih, a.1]
theorem pairE_len {es : EV} {xs : XS} (r : Paired RelE es xs) : xs.length = es.length := by
  have := congrArg List.length (pairE_keys r)
  simpa using this
theorem keysA_of {P : Program} {w : World} {H : Hp} {h : Heap} (ok : HOk P w H h) {es : EV} {xs : XS} (r : Paired RelE es xs) (hk : KeysV H es) (hd : ∀ e ∈ es, e.1.depth ≤ 8) : KeysA h xs := fun x hx => by
  obtain ⟨e, he, r1, r2, _⟩ := pairE_mem r x hx
  exact ⟨by rw [← r1]; exact (hk e he).is ok r2, by rw [← r1]; exact hd e he⟩
def atE (es : EV) (k : NK) : Option V := (es.find? fun e => decide (e.1 = k)).map (·.2.2)
def putE (es : EV) (k : NK) (u v : V) : EV := if (atE es k).isSome = true then es.map (fun e => if e.1 = k then (e.1, e.2.1, v) else e) else es ++ [(k, u, v)]
theorem at_rel {es : EV} {xs : XS} (r : Paired RelE es xs) (k : NK) : RelO (atE es k) (atA xs k) := by
  induction r with
  | nil => exact True.intro
  | @cons e x es xs a _ ih =>
    unfold atE atA at ih ⊢
    rw [List.find?_cons, List.find?_cons]
    by_cases h : e.1 = k
    · rw [decide_eq_true h, decide_eq_true (a.1 ▸ h)]
      exact a.2.2
    · rw [decide_eq_false h, decide_eq_false (fun z => h (a.1.trans z))]
      exact ih
theorem put_rel {es : EV} {xs : XS} (r : Paired RelE es xs) (k : NK) {u v : V} {u' v' : Value} (ru : RelV u u') (rv : RelV v v') : Paired RelE (putE es k u v) (putA xs k u' v') := by
  have hs : (atE es k).isSome = (atA xs k).isSome := by
    have := at_rel r k
    cases e1 : atE es k <;> cases e2 : atA xs k
    · rfl
    · rw [e1, e2] at this; exact False.elim this
    · rw [e1, e2] at this; exact False.elim this
    · rfl
  unfold putE putA
  rw [hs]
  split
  · clear hs
    rename_i h
    clear h
    induction r with
    | nil => exact .nil
    | @cons e x es xs a _ ih =>
      rw [List.map_cons, List.map_cons]
      refine .cons ?_ ih
      unfold putX
      by_cases h : e.1 = k
      · rw [if_pos h, if_pos (a.1 ▸ h)]
        exact ⟨a.1, a.2.1, rv⟩
      · rw [if_neg h, if_neg (fun z => h (a.1.trans z))]
        exact a
  · clear hs
    rename_i h
    clear h
    induction r with
    | nil => exact .cons ⟨rfl, ru, rv⟩ .nil
    | cons a _ ih => exact .cons a ih
theorem putE_len (es : EV) (k : NK) (u v : V) : (putE es k u v).length ≤ es.length + 1 := by
  unfold putE; split <;> simp
theorem putE_dep {es : EV} {k : NK} {u v : V} (h : ∀ e ∈ es, e.1.depth ≤ 8) (hk : k.depth ≤ 8) : ∀ e ∈ putE es k u v, e.1.depth ≤ 8 := fun e he => by
  unfold putE at he
  split at he
  · obtain ⟨y, hy, rfl⟩ := List.mem_map.mp he
    have := h y hy
    split <;> exact this
  · rcases List.mem_append.mp he with he | he
    · exact h e he
    · rw [List.mem_singleton] at he; subst he; exact hk
section
variable [W : Wd] {X : Cx} {pins : List (Addr × Obj)} {σ : L2.St} {H : Hp} {s : Shared} {a : Addr} {k : NK} {y v : V} {u r : Value} {A : Around} {E : Value → Shared → Prop} {es : EV} {ep : Nat}
/-- what is asked of a dict and a key -/
structure DK (H : Hp) (a : Addr) (es : EV) (ep : Nat) (k : NK) (y : V) : Prop where
  at_ : H a = some (DicO a es ep)
  keys : KeysV H es
  key : KeyV H k y
  dep : k.depth ≤ 8
theorem dk_get {Q : Option Value → Shared → Prop} (hw : X.w = W.w) (hu : A.units + 8 < cLine) (I : Inv X pins σ H s) (g : DK H a es ep k y) (ry : RelV y u) (h : ∀ o s', Inv X pins σ H s' → RelO (atE es k) o → Q o s') :
    wpAny (model X.prog X.w) A (dictGet a u) Q E s := by
  obtain ⟨h1, h2, h3, h4, o, ar, xs, e1, e2, e3, e4, rel⟩ := dicP_of I.hok g.at_
  refine get_a (w := X.w) (xs := xs) hu (g.key.is I.hok ry) g.dep ⟨o, ar, ep, e1, e2, e3, by rw [hw]; exact e4, keysA_of I.hok rel g.keys h4, by rw [pairE_keys rel]; exact h3⟩ (h _ _ (I.tok _) (at_rel rel k))
theorem dk_type (I : Inv X pins σ H s) (e : H a = some (DicO a es ep)) : s.TypeIs (.ref a) "dict" ∧ (∀ b, Value.ref a = .ref b → ∃ ob, s.heap.get? b = some ob ∧ ob.dict = none) ∧ (a == sysModules) = false := by
  obtain ⟨h1, h2, h3, h4, o, ar, xs, e1, e2, _⟩ := dicP_of I.hok e
  exact ⟨⟨o, e1, e2.1⟩, fun b q => by cases q; exact ⟨o, e1, e2.2.1⟩, h2⟩
/-- d[y], there -/
theorem dk_item {Q : Value → Shared → Prop} (hw : X.w = W.w) (hu : A.units + 9 < cLine) (I : Inv X pins σ H s) (g : DK H a es ep k y) (hv : atE es k = some v) (ry : RelV y u) (h : ∀ w' s', Inv X pins σ H s' → RelV v w' → Q w' s') :
    wpAny (model X.prog X.w) A (getItem (.ref a) u) Q E s := by
  obtain ⟨t1, _, t3⟩ := dk_type I g.at_
  unfold getItem
  try with_reducible refine wpAny_holding ?_
  refine wpAny_bind (wpAny_sequenceKey t1 (by decide) ?_)
  refine wpAny_bind (wpAny_callSpecial?_slot (name := Str.ofString "__getitem__") t1 slot_dict_getitem (wpAny_call_entry slot_dict_getitem t1 entry_dict_getitem ?_ (args_dict_getitem _ _)))
  show wpAny _ _ (dictGet a u >>= _) _ _ s
  refine wpAny_bind (dk_get hw (by simp only [Around.in1_units]; omega) I g ry fun o s' I' ro => ?_)
  rw [hv] at ro
  obtain ⟨w', e, rw'⟩ := ro.some_of
  subst e
  exact wpAny_pure ⟨w', rfl, wpAny_pure (h w' s' I' rw')⟩
theorem dk_has {Q : Bool → Shared → Prop} (hw : X.w = W.w) (hu : A.units + 9 < cLine) (I : Inv X pins σ H s) (g : DK H a es ep k y) (ry : RelV y u) (h : ∀ s', Inv X pins σ H s' → Q (atE es k).isSome s') :
    wpAny (model X.prog X.w) A (contains (.ref a) u) Q E s := by
  obtain ⟨t1, _, t3⟩ := dk_type I g.at_
  unfold contains
  try with_reducible refine wpAny_holding ?_
  refine wpAny_bind (wpAny_specialOf t1 slot_dict_contains.lookup ?_)
  show wpAny _ _ (if (some (Value.builtin "dict.__contains__") == some Value.none) = true then _ else _) _ E s
  rw [if_neg (by rw [beq_builtin_none]; exact Bool.false_ne_true)]
  refine wpAny_bind (wpAny_callSpecialUnlessNone?_slot (name := Str.ofString "__contains__") t1 slot_dict_contains (wpAny_call_entry slot_dict_contains t1 entry_dict_contains ?_ (args_dict_contains _ _)))
  show wpAny _ _ (dictGet a u >>= _) _ _ s
  refine wpAny_bind (dk_get hw (by simp only [Around.in1_units]; omega) I g ry fun o s' I' ro => ?_)
  cases hv : atE es k with
  | none =>
    rw [hv] at ro h
    cases o with
    | some x => exact False.elim ro
    | none =>
      show wpAny _ _ (Builtin.Dict.pendingKey? a u >>= _) _ _ _
      exact wpAny_bind (wpAny_pendingKey_other t3 (wpAny_pure ⟨_, rfl, wpAny_truthy_bool (h s' I')⟩))
  | some v =>
    rw [hv] at ro h
    obtain ⟨w', e, _⟩ := ro.some_of
    subst e
    show wpAny _ _ (ret (.bool true)) _ _ _
    exact wpAny_pure ⟨_, rfl, wpAny_truthy_bool (h s' I')⟩
theorem dk_in {Q : Value → Shared → Prop} (hw : X.w = W.w) (hu : A.units + 9 < cLine) (I : Inv X pins σ H s) (g : DK H a es ep k y) (ry : RelV y u) (h : ∀ s', Inv X pins σ H s' → Q (.bool (atE es k).isSome) s') :
    wpAny (model X.prog X.w) A (compareOp .In u (.ref a)) Q E s := by
  show wpAny _ _ (do return .bool (← contains (.ref a) u)) Q E s
  exact wpAny_bind (dk_has hw hu I g ry fun s' I' => wpAny_pure (h s' I'))
theorem dk_notin {Q : Value → Shared → Prop} (hw : X.w = W.w) (hu : A.units + 9 < cLine) (I : Inv X pins σ H s) (g : DK H a es ep k y) (ry : RelV y u) (h : ∀ s', Inv X pins σ H s' → Q (.bool (!(atE es k).isSome)) s') :
    wpAny (model X.prog X.w) A (compareOp .NotIn u (.ref a)) Q E s := by
  show wpAny _ _ (do return .bool (!(← contains (.ref a) u))) Q E s
  exact wpAny_bind (dk_has hw hu I g ry fun s' I' => wpAny_pure (h s' I'))
/-- d.get(y, x) -/
theorem dk_get2 {d : V} {Q : Value → Shared → Prop} (hw : X.w = W.w) (hu : A.units + 9 < cLine) (I : Inv X pins σ H s) (g : DK H a es ep k y) (ry : RelV y u) (rd : RelV d r) (h : ∀ w' s', Inv X pins σ H s' → RelV ((atE es k).getD d) w' → Q w' s') :
    wpAny (model X.prog X.w) A (call (.builtin "dict.get") [.ref a, u, r]) Q E s := by
  obtain ⟨t1, _, t3⟩ := dk_type I g.at_
  refine wpAny_call_entry PySem.F.slot_dict_get t1 PySem.F.entry_dict_get ?_ (PySem.F.args_dict_get_3 _ _ _)
  show wpAny _ _ (dictGet a u >>= _) _ _ s
  refine wpAny_bind (dk_get hw (by simp only [Around.in1_units]; omega) I g ry fun o s' I' ro => ?_)
  have hg := ro.getD rd
  cases o with
  | none =>
    show wpAny _ _ (Builtin.Dict.missed a u >>= _) _ _ _
    exact wpAny_bind (wpAny_missed_other t3 (wpAny_pure ⟨_, rfl, h _ s' I' hg⟩))
  | some x => exact wpAny_pure ⟨_, rfl, h _ s' I' hg⟩
theorem dk_get1 {Q : Value → Shared → Prop} (hw : X.w = W.w) (hu : A.units + 9 < cLine) (I : Inv X pins σ H s) (g : DK H a es ep k y) (ry : RelV y u) (h : ∀ w' s', Inv X pins σ H s' → RelV ((atE es k).getD .non) w' → Q w' s') :
    wpAny (model X.prog X.w) A (call (.builtin "dict.get") [.ref a, u]) Q E s := by
  obtain ⟨t1, _, t3⟩ := dk_type I g.at_
  refine wpAny_call_entry PySem.F.slot_dict_get t1 PySem.F.entry_dict_get ?_ (PySem.F.args_dict_get_2 _ _)
  show wpAny _ _ (dictGet a u >>= _) _ _ s
  refine wpAny_bind (dk_get hw (by simp only [Around.in1_units]; omega) I g ry fun o s' I' ro => ?_)
  have hg := ro.getD (show RelV V.non Value.none from rfl)
  cases o with
  | none =>
    show wpAny _ _ (Builtin.Dict.missed a u >>= _) _ _ _
    exact wpAny_bind (wpAny_missed_other t3 (wpAny_pure ⟨_, rfl, h _ s' I' hg⟩))
  | some x => exact wpAny_pure ⟨_, rfl, h _ s' I' hg⟩
/-- d[y] = v -/
theorem dk_set {Q : Unit → Shared → Prop} (hw : X.w = W.w) (hu : A.units + 9 < cLine) (I : Inv X pins σ H s) (g : DK H a es ep k y) (hl : es.length < sizeLine) (ry : RelV y u) (rv : RelV v r)
    (h : ∀ ep' s', Inv X pins σ (upd H a (DicO a (putE es k y v) ep')) s' → Q () s') : wpAny (model X.prog X.w) A (setItem (.ref a) u r) Q E s := by
  obtain ⟨t1, _, t3⟩ := dk_type I g.at_
  obtain ⟨h1, h2, h3, h4, o, ar, xs, e1, e2, e3, e4, rel⟩ := dicP_of I.hok g.at_
  unfold setItem
  try with_reducible refine wpAny_holding ?_
  refine wpAny_bind (wpAny_sequenceKey t1 (by decide) ?_)
  refine wpAny_bind (wpAny_callSpecial?_slot (name := Str.ofString "__setitem__") t1 slot_dict_setitem (wpAny_call_entry slot_dict_setitem t1 entry_dict_setitem ?_ (args_dict_setitem _ _ _)))
  show wpAny _ _ (Builtin.Dict.notOrdered "__setitem__" ⟨[.ref a, u, r], []⟩ >>= _) _ _ s
  refine wpAny_bind (wpAny_notOrdered_dict t1 ?_)
  show wpAny _ _ (dictSet a u r >>= _) _ _ s
  refine wpAny_bind (set_a (w := X.w) (xs := xs) (by simp only [Around.in1_units]; omega) (g.key.is I.hok ry) g.dep e1 e2 e3 (by rw [hw]; exact e4) (keysA_of I.hok rel g.keys h4) (by rw [pairE_keys rel]; exact h3) (by rw [pairE_len rel]; exact h1) fun h' o' ar' ep' f1 f2 f3 f4 f5 f6 => ?_)
  refine wpAny_pure ⟨.none, rfl, wpAny_pure (h ep' _ ?_)⟩
  have rel' := put_rel rel k ry rv
  refine d_write I (by rw [g.at_]; exact True.intro) f6 ⟨o', f1⟩ (DicP.ok ⟨Nat.le_trans (putE_len es k y v) hl, h2, by rw [← pairE_keys rel']; exact f5, putE_dep h4 g.dep, o', ar', _, f1, f2, f3, by rw [← hw]; exact f4, rel'⟩)
end
/-- a dict is no piece of code -/
theorem dic_code [Wd] {a c : Addr} {es : EV} {ep : Nat} {q : Str} (e : DicO a es ep = LamX.CodeO c q) : False := by
  unfold DicO LamX.CodeO at e
  injection e with e
  let ob : Obj := { cls := .none, data := .fields #[.none, .str q 0] }
  let h : Heap := { objs := Array.replicate (c + 1) ob }
  have get : ∀ b, b < c + 1 → h.get? b = some ob := fun b hb => by
    have hz : h.objs[b]? = some ob := by
      show (Array.replicate (c + 1) ob)[b]? = some ob
      rw [Array.getElem?_replicate, if_pos hb]
    unfold Heap.get?
    rw [hz]
  have no : ∀ b, ¬ b < c + 1 → h.get? b = none := fun b hb => by
    have hz : h.objs[b]? = none := by
      show (Array.replicate (c + 1) ob)[b]? = none
      rw [Array.getElem?_replicate, if_neg hb]
    unfold Heap.get?
    rw [hz]
  have h1 : DicP a es ep h := by
    rw [show DicP a es ep h = _ from congrFun e h]
    exact ⟨ob, _, 0, get c (Nat.lt_succ_self c), rfl, rfl⟩
  obtain ⟨_, _, _, _, o, ar, xs, e1, _, e3, _⟩ := h1
  by_cases hb : a < c + 1
  · rw [get a hb] at e1
    cases e1
    cases e3
  · rw [no a hb] at e1
    cases e1
end NT

set_option Elab.async false
set_option linter.all false
set_option maxRecDepth 100000
set_option maxHeartbeats 4000000
/-! NsA: values as trees over the abstract heap, what a frame owns, and the readings by evaluators. -/
namespace NS
open PySem L2 NT
variable [W : NT.Wd]

abbrev D := PyData
/-- B is a part of H -/
def Sub (B H : Hp) : Prop := ∀ a o, B a = some o → H a = some o
theorem Sub.rfl' {H : Hp} : Sub H H := fun _ _ h => h
theorem Sub.tr {A B C : Hp} (h : Sub A B) (g : Sub B C) : Sub A C := fun a o e => g a o (h a o e)
theorem Sub.off {B H : Hp} {a : Addr} (h : Sub B H) (n : H a = none) : B a = none := by
  cases e : B a with
  | none => rfl
  | some o => rw [h a o e] at n; cases n
theorem Sub.new {H : Hp} {p : Addr} {o : HO} (h : H p = none) : Sub H (upd H p o) := fun a u e => by
  rw [upd_ne (ne_of_none e h)]; exact e
theorem Sub.upd2 {B H : Hp} {p : Addr} {o : HO} (s : Sub B H) : Sub (upd B p o) (upd H p o) := fun a u e => by
  by_cases h : a = p
  · subst h; rw [upd_same] at e ⊢; exact e
  · rw [upd_ne h] at e ⊢; exact s a u e

mutual
/-- the value v is the tree d in the heap H -/
inductive Rep (H : Hp) : V → D → Prop
  | non : Rep H .non .none
  | bl (b : Bool) : Rep H (.bl b) (.bool b)
  | int (i : Int) : Rep H (.int i) (.int i)
  | str (x : Str) : Rep H (.str x) (.str x)
  | lst {a : Addr} {vs : List V} {ds : List D} : H a = some (.lst vs) → Reps H vs ds → Rep H (.ref a) (.list ds)
  | tup {a : Addr} {vs : List V} {ds : List D} : H a = some (.tup vs) → Reps H vs ds → Rep H (.ref a) (.tuple ds)
  | dic {a : Addr} {es : EV} {ep : Nat} {ds : List D} : H a = some (DicO a es ep) → (∀ e ∈ es, e.1.depth ≤ 8) → Reps H (es.map (·.2.1)) (es.map fun e => e.1.data) → Reps H (es.map (·.2.2)) ds → Rep H (.ref a) (.dict ((es.map fun e => e.1.data).zip ds))
inductive Reps (H : Hp) : List V → List D → Prop
  | nil : Reps H [] []
  | cons {v : V} {d : D} {vs : List V} {ds : List D} : Rep H v d → Reps H vs ds → Reps H (v :: vs) (d :: ds)
end
mutual
theorem Rep.mono {H H' : Hp} (s : Sub H H') : ∀ {v : V} {d : D}, Rep H v d → Rep H' v d
  | _, _, .non => .non
  | _, _, .bl b => .bl b
  | _, _, .int i => .int i
  | _, _, .str x => .str x
  | _, _, .lst h r => .lst (s _ _ h) (Reps.mono s r)
  | _, _, .tup h r => .tup (s _ _ h) (Reps.mono s r)
  | _, _, .dic h d k r => .dic (s _ _ h) d (Reps.mono s k) (Reps.mono s r)
theorem Reps.mono {H H' : Hp} (s : Sub H H') : ∀ {vs : List V} {ds : List D}, Reps H vs ds → Reps H' vs ds
  | _, _, .nil => .nil
  | _, _, .cons a b => .cons (Rep.mono s a) (Reps.mono s b)
end
section
variable {H : Hp}
theorem Reps.len : ∀ {vs : List V} {ds : List D}, Reps H vs ds → vs.length = ds.length
  | _, _, .nil => rfl
  | _, _, .cons _ b => by simp [Reps.len b]
theorem Reps.get : ∀ {vs : List V} {ds : List D} {i : Nat} {d : D}, Reps H vs ds → ds[i]? = some d → ∃ v, vs[i]? = some v ∧ Rep H v d
  | _, _, _, _, .nil, e => by simp at e
  | _, _, 0, _, .cons a b, e => by simp at e; subst e; exact ⟨_, rfl, a⟩
  | _, _, i + 1, d, .cons a b, e => by
    obtain ⟨v, h, r⟩ := Reps.get (i := i) (d := d) b (by simpa using e)
    exact ⟨v, by simpa using h, r⟩
theorem Reps.getV : ∀ {vs : List V} {ds : List D} {i : Nat} {v : V}, Reps H vs ds → vs[i]? = some v → ∃ d, ds[i]? = some d ∧ Rep H v d
  | _, _, _, _, .nil, e => by simp at e
  | _, _, 0, _, .cons a b, e => by simp at e; subst e; exact ⟨_, rfl, a⟩
  | _, _, i + 1, d, .cons a b, e => by
    obtain ⟨v, h, r⟩ := Reps.getV (i := i) (v := d) b (by simpa using e)
    exact ⟨v, by simpa using h, r⟩
theorem Reps.app : ∀ {vs us : List V} {ds es : List D}, Reps H vs ds → Reps H us es → Reps H (vs ++ us) (ds ++ es)
  | _, _, _, _, .nil, r => r
  | _, _, _, _, .cons a b, r => .cons a (Reps.app b r)
theorem Reps.one {v : V} {d : D} (r : Rep H v d) : Reps H [v] [d] := .cons r .nil
theorem Reps.take : ∀ {vs : List V} {ds : List D} (n : Nat), Reps H vs ds → Reps H (vs.take n) (ds.take n)
  | _, _, 0, _ => by simp; exact .nil
  | _, _, n + 1, .nil => .nil
  | _, _, n + 1, .cons a b => .cons a (Reps.take n b)
theorem Reps.drop : ∀ {vs : List V} {ds : List D} (n : Nat), Reps H vs ds → Reps H (vs.drop n) (ds.drop n)
  | _, _, 0, r => r
  | _, _, n + 1, .nil => .nil
  | _, _, n + 1, .cons a b => Reps.drop n b
theorem Reps.rev : ∀ {vs : List V} {ds : List D}, Reps H vs ds → Reps H vs.reverse ds.reverse
  | _, _, .nil => .nil
  | _, _, .cons a b => by simp; exact Reps.app (Reps.rev b) (.one a)
theorem Reps.set : ∀ {vs : List V} {ds : List D} (i : Nat) {v : V} {d : D}, Rep H v d → Reps H vs ds → Reps H (vs.set i v) (ds.set i d)
  | _, _, _, _, _, _, .nil => .nil
  | _, _, 0, _, _, r, .cons a b => .cons r b
  | _, _, i + 1, _, _, r, .cons a b => .cons a (Reps.set i r b)
theorem Reps.rep {vs : List V} {ds : List D} (h : Reps H vs ds) : ∀ k : Nat, Reps H (List.replicate k vs).flatten (List.replicate k ds).flatten
  | 0 => .nil
  | k + 1 => by simp [List.replicate_succ]; exact Reps.app h (Reps.rep h k)
theorem Reps.ints : ∀ {vs : List V} {ns : List Int}, Reps H vs (ns.map PyData.int) → vs = ns.map V.int
  | _, [], r => by cases r; rfl
  | _, n :: ns, r => by
    cases r with
    | cons a b => cases a; simp [Reps.ints b]
theorem Reps.ofInts : ∀ ns : List Int, Reps H (ns.map V.int) (ns.map PyData.int)
  | [] => .nil
  | n :: ns => .cons (.int n) (Reps.ofInts ns)
theorem Reps.strs : ∀ {vs : List V} {ns : List Str}, Reps H vs (ns.map PyData.str) → vs = ns.map V.str
  | _, [], r => by cases r; rfl
  | _, n :: ns, r => by
    cases r with
    | cons a b => cases a; simp [Reps.strs b]
theorem Reps.ofStrs : ∀ ns : List Str, Reps H (ns.map V.str) (ns.map PyData.str)
  | [] => .nil
  | n :: ns => .cons (.str n) (Reps.ofStrs ns)
end

/-- a function made of a lambda: its address, its code's address and name, the maker's slots and what they held -/
structure FnI where
  f : Addr
  c : Addr
  q : Str
  σ : L2.St
  ds : List (Option D)
/-- what a slot of a frame holds -/
inductive OV where
  | fn (F : FnI)
  | fz (d : D)
  | ol (io : Bool) (ds : List D)
  | od (io : Bool) (kvs : List (NK × D))
  | scr (ns : List Int)
abbrev Env := List (Option OV)
def OV.owned : OV → Bool
  | .fn _ => false
  | .fz _ => false
  | .scr _ => false
  | _ => true
def OV.io : OV → Bool
  | .ol b _ => b
  | .od b _ => b
  | _ => false
/-- the tree of an owned thing -/
def OV.toD : OV → D
  | .fn _ => .none
  | .fz d => d
  | .ol _ ds => .list ds
  | .od _ kvs => .dict (kvs.map fun p => (p.1.data, p.2))
  | .scr ns => .list (ns.map .int)
/-- what stands at an owned address -/
def OwnO (B : Hp) (a : Addr) : OV → HO → Prop
  | .ol _ ds, o => ∃ vs, o = .lst vs ∧ Reps B vs ds
  | .od _ kvs, o => ∃ (es : EV) (ep : Nat), o = DicO a es ep ∧ es.map (·.1) = kvs.map (·.1) ∧ (∀ e ∈ es, e.1.depth ≤ 8) ∧ Reps B (es.map (·.2.1)) (es.map fun e => e.1.data) ∧ Reps B (es.map (·.2.2)) (kvs.map (·.2))
  | _, _ => False
theorem OwnO.mono {B B' : Hp} {a : Addr} (s : Sub B B') : ∀ {ov : OV} {o : HO}, OwnO B a ov o → OwnO B' a ov o
  | .ol _ _, _, ⟨vs, e, r⟩ => ⟨vs, e, r.mono s⟩
  | .od _ _, _, ⟨es, ep, e, k, d, r1, r2⟩ => ⟨es, ep, e, k, d, r1.mono s, r2.mono s⟩
theorem OwnO.owned {B : Hp} {a : Addr} : ∀ {ov : OV} {o : HO}, OwnO B a ov o → ov.owned = true
  | .ol _ _, _, _ => rfl
  | .od _ _, _, _ => rfl
theorem zip_keys {es : EV} : ∀ {kvs : List (NK × D)}, es.map (·.1) = kvs.map (·.1) → (es.map fun e => e.1.data).zip (kvs.map (·.2)) = kvs.map fun p => (p.1.data, p.2) := by
  induction es with
  | nil =>
    intro kvs h
    cases kvs with
    | nil => rfl
    | cons _ _ => cases h
  | cons e es ih =>
    intro kvs h
    cases kvs with
    | nil => cases h
    | cons p kvs =>
      simp only [List.map_cons, List.cons.injEq] at h
      simp only [List.map_cons, List.zip_cons_cons, ih h.2, h.1]
/-- an owned thing, laid into the part that nobody changes -/
theorem OwnO.rep {B : Hp} {a : Addr} : ∀ {ov : OV} {o : HO}, OwnO B a ov o → B a = some o → Rep B (.ref a) ov.toD
  | .ol _ ds, _, ⟨vs, e, r⟩, h => .lst (by rw [h, e]) r
  | .od _ kvs, _, ⟨es, ep, e, k, d, r1, r2⟩, h => by
    have q := Rep.dic (H := B) (a := a) (by rw [h, e]) d r1 r2
    rw [zip_keys k] at q
    exact q

/-- the entry of a piece of code: the heap, the part that stays, what may be changed, what may be laid still, the slots -/
structure Ent where
  H0 : Hp
  B0 : Hp
  I : Addr → Prop
  Z : Addr → Prop
  s0 : L2.St
  J : Nat → Prop

/-- the defs that make lambdas -/
def lamNames : List Str := ["_law_could_of", "_law_taken", "_law_added", "_law_capped", "_law_run_up", "_law_stairs_by", "_law_could"]
def lamQ (x : Str) : Str := (x ++ ".<locals>.") ++ "<lambda>"
def tabIs (K : PySem.W.Frag) (x : Str) (P : Addr) : Prop := x ∈ lamNames ∧ ∃ c, PySem.W.tabIn K x = some (c, P)
def isTab (K : PySem.W.Frag) (P : Addr) : Prop := ∃ x, tabIs K x P
/-- the makers' tables of code objects -/
structure TabsK (K : PySem.W.Frag) (B H : Hp) : Prop where
  tab : ∀ x P, tabIs K x P → LamX.TabS H P (lamQ x)
  off : ∀ P, isTab K P → B P = none
theorem TabsK.at {K : PySem.W.Frag} {B H : Hp} (t : TabsK K B H) {P : Addr} (h : isTab K P) : ∃ ps, H P = some (.tbl ps) := by
  obtain ⟨x, hx⟩ := h
  obtain ⟨ps, e, _⟩ := t.tab x P hx
  exact ⟨ps, e⟩
theorem TabsK.not {K : PySem.W.Frag} {B H : Hp} (t : TabsK K B H) {a : Addr} {o : HO} (h : H a = some o) (n : ∀ ps, o ≠ .tbl ps) : ¬ isTab K a := fun z => by
  obtain ⟨ps, e⟩ := t.at z
  rw [h] at e
  exact n ps (Option.some.inj e)
theorem OwnO.ntb {B : Hp} {a : Addr} {o : HO} : ∀ {ov : OV}, OwnO B a ov o → ∀ ps, o ≠ .tbl ps
  | .ol _ _, ⟨_, e, _⟩, _, z => by rw [e] at z; cases z
  | .od _ _, ⟨_, _, e, _⟩, _, z => by rw [e] at z; unfold DicO at z; cases z
theorem OwnO.next {B : Hp} {a c : Addr} {q : Str} : ∀ {ov : OV}, OwnO B a ov (LamX.CodeO c q) → False
  | .ol _ _, ⟨_, e, _⟩ => by unfold LamX.CodeO at e; cases e
  | .od _ _, ⟨_, _, e, _⟩ => dic_code e.symm
theorem TabsK.own {K : PySem.W.Frag} {B H B0 : Hp} (t : TabsK K B H) {a : Addr} {o : HO} {ov : OV} (h : H a = some o) (w : OwnO B0 a ov o) : ¬ isTab K a := t.not h w.ntb
/-- what a lambda leans on stays -/
def FnHold (B H : Hp) (F : FnI) : Prop := H F.c = some (LamX.CodeO F.c F.q) ∧ ∀ (i : Nat) (d : D), F.ds[i]? = some (some d) → ∃ u, F.σ[i]? = some (some u) ∧ Rep B u d
theorem codeO_nt {c : Addr} {q : Str} : ∀ ps, LamX.CodeO c q ≠ .tbl ps := fun ps z => by unfold LamX.CodeO at z; cases z
theorem FnHold.mono {B B' H H' : Hp} {F : FnI} (s : Sub B B') (k : ∀ o, H F.c = some o → (∀ ps, o ≠ .tbl ps) → H' F.c = some o) (h : FnHold B H F) : FnHold B' H' F := ⟨k _ h.1 codeO_nt, fun i d e => let ⟨u, a, b⟩ := h.2 i d e; ⟨u, a, b.mono s⟩⟩
def OvOk (K : PySem.W.Frag) (B H : Hp) (v : V) : OV → Prop
  | .fn F => v = .ref F.f ∧ FnHold B H F
  | .fz d => Rep B v d
  | .scr ns => ∃ a, v = .ref a ∧ SqL K B a (ns.map V.int)
  | ov => ∃ a o, v = .ref a ∧ H a = some o ∧ OwnO B a ov o ∧ B a = none
/-- slot i owns the address a -/
def Own (σ : L2.St) (env : Env) (i : Nat) (a : Addr) : Prop := ∃ ov, env[i]? = some (some ov) ∧ ov.owned = true ∧ σ[i]? = some (some (.ref a))

structure RR (K : PySem.W.Frag) (E : Ent) (B H : Hp) (σ : L2.St) (env : Env) : Prop where
  bh : Sub B H
  b0 : Sub E.B0 B
  zi : ∀ a, E.Z a → E.I a
  keep : ∀ a o, E.H0 a = some o → ¬ E.I a → (∀ ps, o ≠ .tbl ps) → H a = some o
  tb : TabsK K B H
  there : ∀ a, E.H0 a ≠ none → H a ≠ none
  new : ∀ a o, B a = some o → E.B0 a = some o ∨ E.H0 a = none ∨ E.Z a
  len : σ.length = env.length
  slot : ∀ (i : Nat) (ov : OV), env[i]? = some (some ov) → ∃ v, σ[i]? = some (some v) ∧ OvOk K B H v ov
  own : ∀ (i : Nat) (a : Addr), Own σ env i a → E.I a ∨ E.H0 a = none
  ownz : ∀ (i : Nat) (a : Addr) (ov : OV), env[i]? = some (some ov) → ov.owned = true → ov.io = false → σ[i]? = some (some (.ref a)) → E.H0 a = none ∨ E.Z a
  inj : ∀ (i j : Nat) (a : Addr), Own σ env i a → Own σ env j a → i = j
  ios : ∀ (i : Nat) (ov : OV), env[i]? = some (some ov) → ov.io = true → E.J i ∧ σ[i]? = E.s0[i]?

theorem OvOk.own {K : PySem.W.Frag} {B H : Hp} {v : V} {ov : OV} (h : OvOk K B H v ov) (w : ov.owned = true) : ∃ a o, v = .ref a ∧ H a = some o ∧ OwnO B a ov o ∧ B a = none := by
  cases ov with
  | fn F => cases w
  | fz d => cases w
  | scr ns => cases w
  | ol b ds => exact h
  | od b kvs => exact h
theorem OvOk.of_own {K : PySem.W.Frag} {B H : Hp} {a : Addr} {o : HO} {ov : OV} (h : H a = some o) (r : OwnO B a ov o) (n : B a = none) : OvOk K B H (.ref a) ov := by
  cases ov with
  | fn F => cases r
  | fz d => cases r
  | scr ns => cases r
  | ol b ds => exact ⟨a, o, rfl, h, r, n⟩
  | od b kvs => exact ⟨a, o, rfl, h, r, n⟩
theorem sqlSub {K : PySem.W.Frag} {B H : Hp} {a : Addr} {xs : List V} (s : Sub B H) (h : SqL K B a xs) : SqL K H a xs := Evl.ex_l s h

/-- only new objects come: to both, or to the heap alone -/
structure Grow (B H B' H' : Hp) : Prop where
  bb : Sub B B'
  hh : Sub H H'
  bh : Sub B' H'
  new : ∀ a o, B' a = some o → B a = some o ∨ H a = none
theorem Grow.id {B H : Hp} (s : Sub B H) : Grow B H B H := ⟨Sub.rfl', Sub.rfl', s, fun _ _ h => .inl h⟩
theorem Grow.tr {B H B1 H1 B2 H2 : Hp} (g : Grow B H B1 H1) (k : Grow B1 H1 B2 H2) : Grow B H B2 H2 :=
  ⟨g.bb.tr k.bb, g.hh.tr k.hh, k.bh, fun a o e => by
    rcases k.new a o e with h | h
    · exact g.new a o h
    · exact .inr (g.hh.off h)⟩
/-- a new object that nobody will change -/
theorem Grow.both {B H : Hp} {p : Addr} {o : HO} (s : Sub B H) (h : H p = none) : Grow B H (upd B p o) (upd H p o) :=
  ⟨Sub.new (s.off h), Sub.new h, s.upd2, fun a u e => by
    by_cases hp : a = p
    · subst hp; exact .inr h
    · rw [upd_ne hp] at e; exact .inl e⟩
/-- a new object that is owned by whoever has it -/
theorem Grow.heap {B H : Hp} {p : Addr} {o : HO} (s : Sub B H) (h : H p = none) : Grow B H B (upd H p o) :=
  ⟨Sub.rfl', Sub.new h, s.tr (Sub.new h), fun _ _ e => .inl e⟩

/-- the same behind a call: the tables may have grown -/
structure GrowC (K : PySem.W.Frag) (B H B' H' : Hp) : Prop where
  bb : Sub B B'
  hh : ∀ a o, H a = some o → (∀ ps, o ≠ .tbl ps) → H' a = some o
  dom : ∀ a, H a ≠ none → H' a ≠ none
  bh : Sub B' H'
  new : ∀ a o, B' a = some o → B a = some o ∨ H a = none
  tb : TabsK K B' H'
theorem TabsK.strong {K : PySem.W.Frag} {B H B' H' : Hp} (t : TabsK K B H) (h : Sub H H') (n : ∀ a o, B' a = some o → B a = some o ∨ H a = none) : TabsK K B' H' :=
  ⟨fun x P e => (t.tab x P e).ext h, fun P e => by
    obtain ⟨ps, q⟩ := t.at e
    cases z : B' P with
    | none => rfl
    | some o =>
      rcases n P o z with y | y
      · rw [t.off P e] at y; cases y
      · rw [q] at y; cases y⟩
theorem Grow.toC {K : PySem.W.Frag} {B H B' H' : Hp} (g : Grow B H B' H') (t : TabsK K B H) : GrowC K B H B' H' :=
  ⟨g.bb, fun a o e _ => g.hh a o e, fun a e z => e (g.hh.off z), g.bh, g.new, t.strong g.hh g.new⟩
theorem GrowC.tr {K : PySem.W.Frag} {B H B1 H1 B2 H2 : Hp} (g : GrowC K B H B1 H1) (k : GrowC K B1 H1 B2 H2) : GrowC K B H B2 H2 :=
  ⟨g.bb.tr k.bb, fun a o e n => k.hh a o (g.hh a o e n) n, fun a e => k.dom a (g.dom a e), k.bh, fun a o e => by
    rcases k.new a o e with h | h
    · exact g.new a o h
    · refine .inr ?_
      cases z : H a with
      | none => rfl
      | some u => exact absurd h (g.dom a (by rw [z]; simp)), k.tb⟩
theorem OvOk.grow {K : PySem.W.Frag} {B H B' H' : Hp} {v : V} (t : TabsK K B H) (g : GrowC K B H B' H') : ∀ {ov : OV}, OvOk K B H v ov → OvOk K B' H' v ov := fun {ov} h => by
  have own : ov.owned = true → OvOk K B' H' v ov := fun w => by
    obtain ⟨a, o, rfl, e, r, n⟩ := h.own w
    refine OvOk.of_own (g.hh a o e r.ntb) (r.mono g.bb) ?_
    cases q : B' a with
    | none => rfl
    | some u =>
      rcases g.new a u q with z | z
      · rw [n] at z; cases z
      · rw [e] at z; cases z
  cases ov with
  | fn F => exact ⟨h.1, h.2.mono g.bb fun o e n => g.hh _ o e n⟩
  | fz d => exact Rep.mono g.bb h
  | scr ns => obtain ⟨a, e, s⟩ := h; exact ⟨a, e, sqlSub g.bb s⟩
  | ol b ds => exact own rfl
  | od b kvs => exact own rfl

theorem TabsK.lay {K : PySem.W.Frag} {B H : Hp} {p : Addr} {o : HO} (t : TabsK K B H) (h : H p = some o) (n : ∀ ps, o ≠ .tbl ps) : TabsK K (upd B p o) H :=
  ⟨t.tab, fun P e => by
    rw [upd_ne (fun z => t.not h n (by rw [← z]; exact e))]
    exact t.off P e⟩
theorem TabsK.write {K : PySem.W.Frag} {B H : Hp} {a : Addr} {o o' : HO} {ov ov' : OV} (t : TabsK K B H) (h : H a = some o) (w : OwnO B a ov o) (_ : OwnO B a ov' o') : TabsK K B (upd H a o') :=
  ⟨fun x P e => by
    obtain ⟨ps, e1, e2, e3⟩ := t.tab x P e
    refine ⟨ps, ?_, e2, fun pos cv hc => ?_⟩
    · rw [upd_ne (fun z => t.own h w (by rw [← z]; exact ⟨x, e⟩))]
      exact e1
    · obtain ⟨c, q1, q2⟩ := e3 pos cv hc
      refine ⟨c, q1, ?_⟩
      rw [upd_ne (fun z => ?_)]
      · exact q2
      · rw [z, h] at q2
        have q3 := Option.some.inj q2
        subst q3
        exact w.next, t.off⟩
section
variable {K : PySem.W.Frag} {E : Ent} {B H B' H' : Hp} {σ : L2.St} {env : Env}
theorem RR.growC (r : RR K E B H σ env) (g : GrowC K B H B' H') : RR K E B' H' σ env where
  bh := g.bh
  b0 := r.b0.tr g.bb
  zi := r.zi
  keep := fun a o e n nt => g.hh a o (r.keep a o e n nt) nt
  tb := g.tb
  there := fun a e => g.dom a (r.there a e)
  new := fun a o e => by
    rcases g.new a o e with h | h
    · exact r.new a o h
    · refine .inr (.inl ?_)
      cases q : E.H0 a with
      | none => rfl
      | some u => exact absurd h (r.there a (by rw [q]; simp))
  len := r.len
  slot := fun i ov e => let ⟨v, h, o⟩ := r.slot i ov e; ⟨v, h, o.grow r.tb g⟩
  own := r.own
  ownz := r.ownz
  inj := r.inj
  ios := r.ios
theorem RR.grow (r : RR K E B H σ env) (g : Grow B H B' H') : RR K E B' H' σ env := r.growC (g.toC r.tb)
/-- what an owned slot has -/
theorem RR.owns {i : Nat} {ov : OV} (r : RR K E B H σ env) (h : env[i]? = some (some ov)) (w : ov.owned = true) :
    ∃ a o, σ[i]? = some (some (.ref a)) ∧ H a = some o ∧ OwnO B a ov o ∧ B a = none := by
  obtain ⟨v, e, k⟩ := r.slot i ov h
  obtain ⟨a, o, rfl, h1, h2, h3⟩ := k.own w
  exact ⟨a, o, e, h1, h2, h3⟩
/-- a slot gets something else -/
theorem RR.put {i : Nat} {v : V} {ov : OV} (r : RR K E B H σ env) (h : OvOk K B H v ov) (hio : ov.io = false)
    (hn : ov.owned = true → ∀ a, v = .ref a → (∀ j, ¬ Own σ env j a) ∧ (E.H0 a = none ∨ E.Z a)) : RR K E B H (σ.set i (some v)) (env.set i (some ov)) := by
  have look : ∀ j u, (env.set i (some ov))[j]? = some (some u) → (j = i ∧ u = ov ∧ i < env.length) ∨ (j ≠ i ∧ env[j]? = some (some u)) := fun j u e => by
    by_cases hj : j = i
    · subst hj
      by_cases hl : j < env.length
      · rw [List.getElem?_set_self hl] at e
        exact .inl ⟨rfl, (Option.some.inj (Option.some.inj e)).symm, hl⟩
      · rw [List.getElem?_eq_none (by simpa using hl)] at e; cases e
    · rw [List.getElem?_set_ne (Ne.symm hj)] at e
      exact .inr ⟨hj, e⟩
  have sv : ∀ j, j ≠ i → (σ.set i (some v))[j]? = σ[j]? := fun j hj => List.getElem?_set_ne (Ne.symm hj)
  have si : i < env.length → (σ.set i (some v))[i]? = some (some v) := fun hl => List.getElem?_set_self (by rw [r.len]; exact hl)
  have ownOld : ∀ j a, j ≠ i → Own (σ.set i (some v)) (env.set i (some ov)) j a → Own σ env j a := fun j a hj ⟨u, e, w, q⟩ => by
    rcases look j u e with ⟨z, _⟩ | ⟨_, e'⟩
    · exact absurd z hj
    · rw [sv j hj] at q; exact ⟨u, e', w, q⟩
  have ownNew : ∀ a, Own (σ.set i (some v)) (env.set i (some ov)) i a → ov.owned = true ∧ v = .ref a := fun a ⟨u, e, w, q⟩ => by
    rcases look i u e with ⟨_, e', hl⟩ | ⟨z, _⟩
    · subst e'
      rw [si hl] at q
      exact ⟨w, Option.some.inj (Option.some.inj q)⟩
    · exact absurd rfl z
  refine ⟨r.bh, r.b0, r.zi, r.keep, r.tb, r.there, r.new, by simpa using r.len, fun j u e => ?_, fun j a w => ?_, fun j a u e w wi q => ?_, fun j k a w w' => ?_, fun j u e w => ?_⟩
  · rcases look j u e with ⟨rfl, rfl, hl⟩ | ⟨hj, e'⟩
    · exact ⟨v, si hl, h⟩
    · rw [sv j hj]; exact r.slot j u e'
  · by_cases hj : j = i
    · subst hj
      obtain ⟨w1, e⟩ := ownNew a w
      rcases (hn w1 a e).2 with z | z
      · exact .inr z
      · exact .inl (r.zi a z)
    · exact r.own j a (ownOld j a hj w)
  · rcases look j u e with ⟨rfl, rfl, hl⟩ | ⟨hj, e'⟩
    · rw [si hl] at q
      exact (hn w a (Option.some.inj (Option.some.inj q))).2
    · rw [sv j hj] at q; exact r.ownz j a u e' w wi q
  · by_cases hj : j = i
    · by_cases hk : k = i
      · rw [hj, hk]
      · rw [hj] at w
        obtain ⟨w1, e⟩ := ownNew a w
        exact absurd (ownOld k a hk w') ((hn w1 a e).1 k)
    · by_cases hk : k = i
      · rw [hk] at w'
        obtain ⟨w1, e⟩ := ownNew a w'
        exact absurd (ownOld j a hj w) ((hn w1 a e).1 j)
      · exact r.inj j k a (ownOld j a hj w) (ownOld k a hk w')
  · rcases look j u e with ⟨rfl, rfl, _⟩ | ⟨hj, e'⟩
    · rw [hio] at w; cases w
    · rw [sv j hj]; exact r.ios j u e' w
/-- a slot's owned thing is laid: nobody changes it any more -/
theorem RR.freeze {i : Nat} {ov : OV} (r : RR K E B H σ env) (h : env[i]? = some (some ov)) (w : ov.owned = true) (hio : ov.io = false) :
    ∃ v B', σ[i]? = some (some v) ∧ Sub B B' ∧ RR K E B' H σ (env.set i (some (.fz ov.toD))) ∧ Rep B' v ov.toD := by
  obtain ⟨a, o, e, h1, h2, h3⟩ := r.owns h w
  have s1 : Sub B (upd B a o) := Sub.new h3
  have hl : i < env.length := (List.getElem?_eq_some_iff.mp h).1
  have rep : Rep (upd B a o) (.ref a) ov.toD := (h2.mono s1).rep upd_same
  have look : ∀ j u, (env.set i (some (.fz ov.toD)))[j]? = some (some u) → (j = i ∧ u = .fz ov.toD) ∨ (j ≠ i ∧ env[j]? = some (some u)) := fun j u e => by
    by_cases hj : j = i
    · subst hj
      rw [List.getElem?_set_self hl] at e
      exact .inl ⟨rfl, (Option.some.inj (Option.some.inj e)).symm⟩
    · rw [List.getElem?_set_ne (Ne.symm hj)] at e
      exact .inr ⟨hj, e⟩
  have ownOld : ∀ j b, Own σ (env.set i (some (.fz ov.toD))) j b → j ≠ i ∧ Own σ env j b := fun j b ⟨u, e, w, q⟩ => by
    rcases look j u e with ⟨_, z⟩ | ⟨hj, e'⟩
    · subst z; cases w
    · exact ⟨hj, u, e', w, q⟩
  refine ⟨.ref a, upd B a o, e, s1, ⟨fun b u q => ?_, r.b0.tr s1, r.zi, r.keep, r.tb.lay h1 h2.ntb, r.there, fun b u q => ?_, by simpa using r.len, fun j u q => ?_, fun j b q => r.own j b (ownOld j b q).2, fun j b u q w2 wi z => ?_, fun j k b q q' => r.inj j k b (ownOld j b q).2 (ownOld k b q').2, fun j u q w2 => ?_⟩, rep⟩
  · by_cases hb : b = a
    · subst hb; rw [upd_same] at q; rw [← q]; exact h1
    · rw [upd_ne hb] at q; exact r.bh b u q
  · by_cases hb : b = a
    · subst hb
      exact .inr (r.ownz i b ov h w hio e)
    · rw [upd_ne hb] at q; exact r.new b u q
  · rcases look j u q with ⟨rfl, rfl⟩ | ⟨hj, q'⟩
    · exact ⟨_, e, rep⟩
    · obtain ⟨v, z, k⟩ := r.slot j u q'
      refine ⟨v, z, ?_⟩
      have own : u.owned = true → OvOk K (upd B a o) H v u := fun wu => by
        obtain ⟨c, oc, rfl, k1, k2, k3⟩ := k.own wu
        refine OvOk.of_own k1 (k2.mono s1) ?_
        have nc : c ≠ a := fun z2 => by
          subst z2
          exact hj (r.inj j i c ⟨u, q', wu, z⟩ ⟨ov, h, w, e⟩)
        rw [upd_ne nc]; exact k3
      cases u with
      | fn F => exact ⟨k.1, k.2.mono s1 fun _ e _ => e⟩
      | fz d => exact Rep.mono s1 k
      | scr ns => obtain ⟨c, q1, q2⟩ := k; exact ⟨c, q1, sqlSub s1 q2⟩
      | ol _ _ => exact own rfl
      | od _ _ => exact own rfl
  · rcases look j u q with ⟨_, z2⟩ | ⟨hj, q'⟩
    · subst z2; cases w2
    · exact r.ownz j b u q' w2 wi z
  · rcases look j u q with ⟨_, z2⟩ | ⟨hj, q'⟩
    · subst z2; cases w2
    · exact r.ios j u q' w2
/-- an owned thing is changed -/
theorem RR.write {i : Nat} {ov ov' : OV} {a : Addr} {o' : HO} (r : RR K E B H σ env) (h : env[i]? = some (some ov)) (w : ov.owned = true) (e : σ[i]? = some (some (.ref a))) (hn : OwnO B a ov' o') (hio : ov'.io = ov.io) :
    RR K E B (upd H a o') σ (env.set i (some ov')) := by
  obtain ⟨a', o, e', h1, h2, h3⟩ := r.owns h w
  rw [e] at e'; cases e'
  have hl : i < env.length := (List.getElem?_eq_some_iff.mp h).1
  have w' : ov'.owned = true := hn.owned
  have look : ∀ j u, (env.set i (some ov'))[j]? = some (some u) → (j = i ∧ u = ov') ∨ (j ≠ i ∧ env[j]? = some (some u)) := fun j u e => by
    by_cases hj : j = i
    · subst hj
      rw [List.getElem?_set_self hl] at e
      exact .inl ⟨rfl, (Option.some.inj (Option.some.inj e)).symm⟩
    · rw [List.getElem?_set_ne (Ne.symm hj)] at e
      exact .inr ⟨hj, e⟩
  have ownOld : ∀ j b, Own σ (env.set i (some ov')) j b → Own σ env j b := fun j b ⟨u, q, wu, z⟩ => by
    rcases look j u q with ⟨hj, _⟩ | ⟨_, q'⟩
    · subst hj; exact ⟨ov, h, w, z⟩
    · exact ⟨u, q', wu, z⟩
  have iO : Own σ env i a := ⟨ov, h, w, e⟩
  refine ⟨fun b u q => ?_, r.b0, r.zi, fun b u q n nt => ?_, r.tb.write h1 h2 hn, fun b q => ?_, r.new, by simpa using r.len, fun j u q => ?_, fun j b q => r.own j b (ownOld j b q), fun j b u q wu wi z => ?_, fun j k b q q' => r.inj j k b (ownOld j b q) (ownOld k b q'), fun j u q wu => ?_⟩
  · have nb : b ≠ a := fun z => by subst z; rw [h3] at q; cases q
    rw [upd_ne nb]; exact r.bh b u q
  · have nb : b ≠ a := fun z => by
      subst z
      rcases r.own i b iO with k | k
      · exact n k
      · rw [k] at q; cases q
    rw [upd_ne nb]; exact r.keep b u q n nt
  · by_cases hb : b = a
    · subst hb; rw [upd_same]; simp
    · rw [upd_ne hb]; exact r.there b q
  · rcases look j u q with ⟨rfl, rfl⟩ | ⟨hj, q'⟩
    · exact ⟨_, e, OvOk.of_own upd_same hn h3⟩
    · obtain ⟨v, z, k⟩ := r.slot j u q'
      refine ⟨v, z, ?_⟩
      have own : u.owned = true → OvOk K B (upd H a o') v u := fun wu => by
        obtain ⟨c, oc, rfl, k1, k2, k3⟩ := k.own wu
        refine OvOk.of_own (o := oc) ?_ k2 k3
        have nc : c ≠ a := fun z2 => by
          subst z2
          exact hj (r.inj j i c ⟨u, q', wu, z⟩ iO)
        rw [upd_ne nc]; exact k1
      cases u with
      | fn F => exact ⟨k.1, k.2.mono Sub.rfl' fun o q _ => by
          rw [upd_ne (fun z => ?_)]
          · exact q
          · have q2 := k.2.1
            rw [z, h1] at q2
            have q3 := Option.some.inj q2
            subst q3
            exact h2.next⟩
      | fz d => exact k
      | scr ns => exact k
      | ol _ _ => exact own rfl
      | od _ _ => exact own rfl
  · rcases look j u q with ⟨rfl, rfl⟩ | ⟨hj, q'⟩
    · exact r.ownz j b ov h w (by rw [← hio]; exact wi) z
    · exact r.ownz j b u q' wu wi z
  · rcases look j u q with ⟨rfl, rfl⟩ | ⟨hj, q'⟩
    · exact r.ios j ov h (by rw [← hio]; exact wu)
    · exact r.ios j u q' wu
/-- an object beside the frame's own is laid -/
theorem RR.lay {p : Addr} {o : HO} (r : RR K E B H σ env) (h : H p = some o) (hb : B p = none) (h0 : E.H0 p = none ∨ E.Z p) (hn : ∀ j, ¬ Own σ env j p) (hnt : ∀ ps, o ≠ .tbl ps) : RR K E (upd B p o) H σ env := by
  have s1 : Sub B (upd B p o) := Sub.new hb
  refine ⟨fun b u q => ?_, r.b0.tr s1, r.zi, r.keep, r.tb.lay h hnt, r.there, fun b u q => ?_, r.len, fun j u q => ?_, r.own, r.ownz, r.inj, r.ios⟩
  · by_cases hb : b = p
    · subst hb; rw [upd_same] at q; rw [← q]; exact h
    · rw [upd_ne hb] at q; exact r.bh b u q
  · by_cases hb : b = p
    · subst hb; exact .inr h0
    · rw [upd_ne hb] at q; exact r.new b u q
  · obtain ⟨v, z, k⟩ := r.slot j u q
    refine ⟨v, z, ?_⟩
    have own : u.owned = true → OvOk K (upd B p o) H v u := fun wu => by
      obtain ⟨c, oc, rfl, k1, k2, k3⟩ := k.own wu
      refine OvOk.of_own k1 (k2.mono s1) ?_
      have nc : c ≠ p := fun z2 => by subst z2; exact hn j ⟨u, q, wu, z⟩
      rw [upd_ne nc]; exact k3
    cases u with
    | fn F => exact ⟨k.1, k.2.mono s1 fun _ e _ => e⟩
    | fz d => exact Rep.mono s1 k
    | scr ns => obtain ⟨c, q1, q2⟩ := k; exact ⟨c, q1, sqlSub s1 q2⟩
    | ol _ _ => exact own rfl
    | od _ _ => exact own rfl
  end
end NS

set_option Elab.async false
set_option linter.all false
set_option maxRecDepth 100000
set_option maxHeartbeats 4000000
/-! NsB: readings by evaluators: expressions. -/
namespace NS
open PySem L2 NT
variable [W : NT.Wd]

/-- an operand: a tree; what slot i owns, by reference; the script -/
inductive Opd where
  | v (d : D) | r (i : Nat) | s (ns : List Int)
/-- a result: a tree; a new list, a new dict, owned by whoever takes it -/
inductive Res where
  | d (d : D) | l (ds : List D) | k (kvs : List (NK × D))
def Res.ov : Res → OV
  | .d x => .fz x
  | .l xs => .ol false xs
  | .k xs => .od false xs
def Res.toD (r : Res) : D := r.ov.toD
abbrev Ev (α : Type) := Env → Option (α × Env)
theorem bindS {α β : Type} {x : Option α} {f : α → Option β} {b : β} (h : x.bind f = some b) : ∃ a, x = some a ∧ f a = some b := by
  cases x with
  | none => cases h
  | some a => exact ⟨a, rfl, h⟩
def guardO {α : Type} (c : Bool) (x : Option α) : Option α := if c = true then x else none
theorem guardS {α : Type} {c : Bool} {x : Option α} {b : α} (h : guardO c x = some b) : c = true ∧ x = some b := by
  unfold guardO at h
  split at h
  · exact ⟨by assumption, h⟩
  · cases h

def OpV (K : PySem.W.Frag) (B : Hp) (σ : L2.St) : Opd → V → Prop
  | .v d, u => Rep B u d
  | .r i, u => σ[i]? = some (some u)
  | .s ns, u => ∃ a, u = .ref a ∧ SqL K B a (ns.map V.int)
def OpVs (K : PySem.W.Frag) (B : Hp) (σ : L2.St) : List Opd → List V → Prop
  | [], us => us = []
  | x :: xs, us => ∃ u r, us = u :: r ∧ OpV K B σ x u ∧ OpVs K B σ xs r
theorem OpV.mono {K : PySem.W.Frag} {B B' : Hp} {σ : L2.St} (s : Sub B B') : ∀ {x : Opd} {u : V}, OpV K B σ x u → OpV K B' σ x u
  | .v _, _, h => Rep.mono s h
  | .r _, _, h => h
  | .s _, _, ⟨a, e, h⟩ => ⟨a, e, sqlSub s h⟩
theorem OpVs.mono {K : PySem.W.Frag} {B B' : Hp} {σ : L2.St} (s : Sub B B') : ∀ {xs : List Opd} {us : List V}, OpVs K B σ xs us → OpVs K B' σ xs us
  | [], _, h => h
  | _ :: _, _, ⟨u, r, e, h, k⟩ => ⟨u, r, e, h.mono s, OpVs.mono s k⟩
def ResV (E : Ent) (B H : Hp) (σ : L2.St) (env : Env) : Res → V → Prop
  | .d d, u => Rep B u d
  | r, u => ∃ p o, u = .ref p ∧ H p = some o ∧ OwnO B p r.ov o ∧ B p = none ∧ (∀ j, ¬ Own σ env j p) ∧ (E.H0 p = none ∨ E.Z p)

/-! ### the readings -/
section
variable (K : PySem.W.Frag)
def tE (f : Ev D) : TE := fun σ H Q => ∃ E B env d env', RR K E B H σ env ∧ f env = some (d, env') ∧ ∀ v B' H', RR K E B' H' σ env' → Sub B B' → Rep B' v d → Q v H'
def tP (f : Ev Opd) : TE := fun σ H Q => ∃ E B env x env', RR K E B H σ env ∧ f env = some (x, env') ∧ ∀ v B' H', RR K E B' H' σ env' → Sub B B' → OpV K B' σ x v → Q v H'
def tR (f : Ev Res) : TE := fun σ H Q => ∃ E B env x env', RR K E B H σ env ∧ f env = some (x, env') ∧ ∀ v B' H', RR K E B' H' σ env' → Sub B B' → ResV E B' H' σ env' x v → Q v H'
def tT (f : Ev Bool) : TT := fun σ H Q => ∃ E B env x env', RR K E B H σ env ∧ f env = some (x, env') ∧ ∀ B' H', RR K E B' H' σ env' → Sub B B' → Q x H'
def tA (f : Ev (List Opd)) : TA := fun σ H Q => ∃ E B env x env', RR K E B H σ env ∧ f env = some (x, env') ∧ ∀ vs B' H', RR K E B' H' σ env' → Sub B B' → OpVs K B' σ x vs → Q vs H'
end
theorem peImp {X : Cx} {e : Expr} {t t' : TE} (h : PE X e t) (i : ∀ σ H Q, t' σ H Q → t σ H Q) : PE X e t' := ⟨fun pins s σ H Q I q => h.run pins s σ H Q I (i σ H Q q)⟩
theorem ptImp {X : Cx} {e : Expr} {t t' : TT} (h : PT X e t) (i : ∀ σ H Q, t' σ H Q → t σ H Q) : PT X e t' := ⟨fun pins s σ H Q I q => h.run pins s σ H Q I (i σ H Q q)⟩
theorem pwImp {X : Cx} {e : Expr} {t t' : TT} (h : PW X e t) (i : ∀ σ H Q, t' σ H Q → t σ H Q) : PW X e t' := ⟨fun wh pins s σ H Q I q => h.run wh pins s σ H Q I (i σ H Q q)⟩
theorem paImp {X : Cx} {e : List Expr} {t t' : TA} (h : PA X e t) (i : ∀ σ H Q, t' σ H Q → t σ H Q) : PA X e t' := ⟨fun pos pins s σ H Q I q => h.run pos pins s σ H Q I (i σ H Q q)⟩

/-! ### from one kind of reading to another -/
def opOf (f : Ev D) : Ev Opd := fun env => (f env).bind fun p => some (.v p.1, p.2)
def resOf (f : Ev D) : Ev Res := fun env => (f env).bind fun p => some (.d p.1, p.2)
def layOf (f : Ev Res) : Ev D := fun env => (f env).bind fun p => some (p.1.toD, p.2)
section
variable {X : Cx} {e : Expr}
theorem pE_P {f : Ev D} (h : PE X e (tE X.K f)) : PE X e (tP X.K (opOf f)) := peImp h fun σ H Q ⟨E, B, env, x, env', r, ef, k⟩ => by
  obtain ⟨p, e1, e2⟩ := bindS ef
  cases e2
  exact ⟨E, B, env, p.1, p.2, r, e1, fun v B' H' r' s q => k v B' H' r' s q⟩
theorem pE_R {f : Ev D} (h : PE X e (tE X.K f)) : PE X e (tR X.K (resOf f)) := peImp h fun σ H Q ⟨E, B, env, x, env', r, ef, k⟩ => by
  obtain ⟨p, e1, e2⟩ := bindS ef
  cases e2
  exact ⟨E, B, env, p.1, p.2, r, e1, fun v B' H' r' s q => k v B' H' r' s q⟩
/-- a result is laid -/
theorem ResV.lay {K : PySem.W.Frag} {E : Ent} {B H : Hp} {σ : L2.St} {env : Env} {x : Res} {u : V} (h : ResV E B H σ env x u) (r : RR K E B H σ env) : ∃ B', RR K E B' H σ env ∧ Sub B B' ∧ Rep B' u x.toD := by
  have own : (∃ p o, u = .ref p ∧ H p = some o ∧ OwnO B p x.ov o ∧ B p = none ∧ (∀ j, ¬ Own σ env j p) ∧ (E.H0 p = none ∨ E.Z p)) → ∃ B', RR K E B' H σ env ∧ Sub B B' ∧ Rep B' u x.toD := by
    rintro ⟨p, o, rfl, h1, h2, h3, h4, h5⟩
    exact ⟨upd B p o, r.lay h1 h3 h5 h4 h2.ntb, Sub.new h3, (h2.mono (Sub.new h3)).rep upd_same⟩
  cases x with
  | d d => exact ⟨B, r, Sub.rfl', h⟩
  | l ds => exact own h
  | k ds => exact own h
theorem pR_E {f : Ev Res} (h : PE X e (tR X.K f)) : PE X e (tE X.K (layOf f)) := peImp h fun σ H Q ⟨E, B, env, x, env', r, ef, k⟩ => by
  obtain ⟨p, e1, e2⟩ := bindS ef
  cases e2
  refine ⟨E, B, env, p.1, p.2, r, e1, fun v B' H' r' s q => ?_⟩
  obtain ⟨B2, r2, s2, q2⟩ := q.lay r'
  exact k v B2 H' r2 (s.tr s2) q2

/-! ### names and constants -/
def slotE (i : Nat) : Ev D := fun env => match env[i]? with
  | some (some (.fz d)) => some (d, env)
  | some (some ov) => if (ov.owned && !ov.io) = true then some (ov.toD, env.set i (some (.fz ov.toD))) else none
  | _ => none
def slotP (i : Nat) : Ev Opd := fun env => match env[i]? with
  | some (some (.fz d)) => some (.v d, env)
  | some (some (.scr ns)) => some (.s ns, env)
  | some (some _) => some (.r i, env)
  | _ => none
theorem e_slotE {i : Nat} (h : PE X e (tVar i)) : PE X e (tE X.K (slotE i)) := peImp h fun σ H Q ⟨E, B, env, x, env', r, ef, k⟩ => by
  unfold slotE at ef
  split at ef
  · rename_i d hd
    cases ef
    obtain ⟨v, hv, ok⟩ := r.slot i _ hd
    exact ⟨v, hv, k v B H r Sub.rfl' ok⟩
  · rename_i ov hn hd
    split at ef
    · rename_i w
      cases ef
      simp only [Bool.and_eq_true, Bool.not_eq_true'] at w
      obtain ⟨v, B', hv, s, r', rep⟩ := r.freeze hd w.1 w.2
      exact ⟨v, hv, k v B' H r' s rep⟩
    · cases ef
  · cases ef
theorem e_slotP {i : Nat} (h : PE X e (tVar i)) : PE X e (tP X.K (slotP i)) := peImp h fun σ H Q ⟨E, B, env, x, env', r, ef, k⟩ => by
  unfold slotP at ef
  split at ef
  · rename_i d hd
    cases ef
    obtain ⟨v, hv, ok⟩ := r.slot i _ hd
    exact ⟨v, hv, k v B H r Sub.rfl' ok⟩
  · rename_i ns hd
    cases ef
    obtain ⟨v, hv, ok⟩ := r.slot i _ hd
    exact ⟨v, hv, k v B H r Sub.rfl' ok⟩
  · rename_i ov h1 h2 hd
    cases ef
    obtain ⟨v, hv, ok⟩ := r.slot i _ hd
    exact ⟨v, hv, k v B H r Sub.rfl' hv⟩
  · cases ef
def cstE (d : D) : Ev D := fun env => some (d, env)
theorem e_cst {v : V} {d : D} (h : PE X e (tC v)) (hd : ∀ B : Hp, Rep B v d) : PE X e (tE X.K (cstE d)) := peImp h fun σ H Q ⟨E, B, env, x, env', r, ef, k⟩ => by
  unfold cstE at ef
  cases ef
  exact k v B H r Sub.rfl' (hd B)

/-! ### an operand when the operation comes -/
def ownD : Option (Option OV) → Option D
  | some (some ov) => if ov.owned = true then some ov.toD else none
  | _ => none
def opD (env : Env) : Opd → Option D
  | .v d => some d
  | .r i => ownD env[i]?
  | .s _ => none
/-- v can be read as d: a tree that stays, or an owned thing whose parts are such -/
def Rd (B H : Hp) (u : V) (d : D) : Prop := Rep B u d ∨ ∃ a o ov, u = .ref a ∧ H a = some o ∧ OwnO B a ov o ∧ d = ov.toD ∧ B a = none
def Rds (B H : Hp) : List V → List D → Prop
  | [], ds => ds = []
  | u :: us, ds => ∃ d r, ds = d :: r ∧ Rd B H u d ∧ Rds B H us r
theorem opRd {K : PySem.W.Frag} {E : Ent} {B H : Hp} {σ : L2.St} {env : Env} {x : Opd} {u : V} {d : D} (r : RR K E B H σ env) (h : OpV K B σ x u) (e : opD env x = some d) : Rd B H u d := by
  cases x with
  | v d' => cases e; exact .inl h
  | s ns => cases e
  | r i =>
    have e' : ownD env[i]? = some d := e
    unfold ownD at e'
    split at e'
    · rename_i ov he
      split at e'
      · rename_i w
        cases e'
        obtain ⟨a, o, h1, h2, h3, h4⟩ := r.owns he w
        have h' : σ[i]? = some (some u) := h
        rw [h1] at h'
        cases h'
        exact .inr ⟨a, o, ov, rfl, h2, h3, rfl, h4⟩
      · cases e'
    · cases e'
def opDs (env : Env) : List Opd → Option (List D)
  | [] => some []
  | x :: xs => (opD env x).bind fun d => (opDs env xs).bind fun ds => some (d :: ds)
theorem opRds {K : PySem.W.Frag} {E : Ent} {B H : Hp} {σ : L2.St} {env : Env} (r : RR K E B H σ env) : ∀ {xs : List Opd} {us : List V} {ds : List D}, OpVs K B σ xs us → opDs env xs = some ds → Rds B H us ds
  | [], us, ds, h, e => by
    cases h
    cases e
    exact rfl
  | x :: xs, us, ds, ⟨u, rr, e0, h, k⟩, e => by
    subst e0
    obtain ⟨d, e1, e2⟩ := bindS e
    obtain ⟨ds', e3, e4⟩ := bindS e2
    cases e4
    exact ⟨d, ds', rfl, opRd r h e1, opRds r k e3⟩
section
variable {B H : Hp} {u : V}
theorem Rd.rep {d : D} (s : Sub B H) (h : Rd B H u d) : Rep H u d := by
  rcases h with h | ⟨a, o, ov, rfl, h1, h2, rfl, _⟩
  · exact h.mono s
  · exact (h2.mono s).rep h1
theorem Rd.int {i : Int} (h : Rd B H u (.int i)) : u = .int i := by
  rcases h with h | ⟨a, o, ov, rfl, h1, h2, h3, _⟩
  · cases h; rfl
  · cases ov <;> first | exact False.elim h2 | cases h3
theorem Rd.bl {b : Bool} (h : Rd B H u (.bool b)) : u = .bl b := by
  rcases h with h | ⟨a, o, ov, rfl, h1, h2, h3, _⟩
  · cases h; rfl
  · cases ov <;> first | exact False.elim h2 | cases h3
theorem Rd.str {x : Str} (h : Rd B H u (.str x)) : u = .str x := by
  rcases h with h | ⟨a, o, ov, rfl, h1, h2, h3, _⟩
  · cases h; rfl
  · cases ov <;> first | exact False.elim h2 | cases h3
theorem Rd.non (h : Rd B H u .none) : u = .non := by
  rcases h with h | ⟨a, o, ov, rfl, h1, h2, h3, _⟩
  · cases h; rfl
  · cases ov <;> first | exact False.elim h2 | cases h3
theorem Rd.lst {ds : List D} (s : Sub B H) (h : Rd B H u (.list ds)) : ∃ a vs, u = .ref a ∧ H a = some (.lst vs) ∧ Reps B vs ds := by
  rcases h with h | ⟨a, o, ov, rfl, h1, h2, h3, _⟩
  · cases h with
    | lst h r => exact ⟨_, _, rfl, s _ _ h, r⟩
  · cases ov with
    | fn _ => exact False.elim h2
    | fz _ => exact False.elim h2
    | scr _ => exact False.elim h2
    | od _ _ => cases h3
    | ol b es =>
      cases h3
      obtain ⟨vs, rfl, r⟩ := h2
      exact ⟨a, vs, rfl, h1, r⟩
theorem Rd.tup {ds : List D} (s : Sub B H) (h : Rd B H u (.tuple ds)) : ∃ a vs, u = .ref a ∧ H a = some (.tup vs) ∧ Reps B vs ds := by
  rcases h with h | ⟨a, o, ov, rfl, h1, h2, h3, _⟩
  · cases h with
    | tup h r => exact ⟨_, _, rfl, s _ _ h, r⟩
  · cases ov <;> first | exact False.elim h2 | cases h3
end

/-! ### operations -/
/-- the result of an operation, at once behind it -/
def NewV (B H H' : Hp) (B' : Hp) : Res → V → Prop
  | .d d, u => Rep B' u d
  | r, u => ∃ p o, u = .ref p ∧ H p = none ∧ H' p = some o ∧ OwnO B' p r.ov o ∧ B' p = none
def Prim2 (r : R2) (g : D → D → Option Res) : Prop := ∀ (B H : Hp) (u v : V) (dx dy : D) (res : Res) (Q : VK), Sub B H → Rd B H u dx → Rd B H v dy → g dx dy = some res → (∀ w B' H', Grow B H B' H' → NewV B H H' B' res w → Q w H') → r u v H Q
def PrimN (r : List V → Hp → VK → Prop) (g : List D → Option Res) : Prop := ∀ (B H : Hp) (us : List V) (ds : List D) (res : Res) (Q : VK), Sub B H → Rds B H us ds → g ds = some res → (∀ w B' H', Grow B H B' H' → NewV B H H' B' res w → Q w H') → r us H Q
theorem NewV.res {K : PySem.W.Frag} {E : Ent} {B H B' H' : Hp} {σ : L2.St} {env : Env} {x : Res} {u : V} (h : NewV B H H' B' x u) (r : RR K E B H σ env) : ResV E B' H' σ env x u := by
  have own : (∃ p o, u = .ref p ∧ H p = none ∧ H' p = some o ∧ OwnO B' p x.ov o ∧ B' p = none) → ∃ p o, u = .ref p ∧ H' p = some o ∧ OwnO B' p x.ov o ∧ B' p = none ∧ (∀ j, ¬ Own σ env j p) ∧ (E.H0 p = none ∨ E.Z p) := by
    rintro ⟨p, o, rfl, h1, h2, h3, h4⟩
    refine ⟨p, o, rfl, h2, h3, h4, fun j ⟨ov, e, w, z⟩ => ?_, ?_⟩
    · obtain ⟨a, oa, k1, k2, k3, k4⟩ := r.owns e w
      rw [z] at k1; cases k1
      rw [h1] at k2; cases k2
    · refine .inl ?_
      cases q : E.H0 p with
      | none => rfl
      | some w => exact absurd h1 (r.there p (by rw [q]; simp))
  cases x with
  | d d => exact h
  | l ds => exact own h
  | k ds => exact own h
def bin2 (g : D → D → Option Res) (fa fb : Ev Opd) : Ev Res := fun env => (fa env).bind fun p => (fb p.2).bind fun q => (opD q.2 p.1).bind fun dx => (opD q.2 q.1).bind fun dy => (g dx dy).bind fun r => some (r, q.2)
theorem tOp2 {K : PySem.W.Frag} {r : R2} {g : D → D → Option Res} (hr : Prim2 r g) {fa fb : Ev Opd} (σ : L2.St) (H : Hp) (Q : VK) (h : tR K (bin2 g fa fb) σ H Q) : tOp r (tP K fa) (tP K fb) σ H Q := by
  obtain ⟨E, B, env, x, env', rr, ef, k⟩ := h
  obtain ⟨p, e1, ef⟩ := bindS ef
  obtain ⟨q, e2, ef⟩ := bindS ef
  obtain ⟨dx, e3, ef⟩ := bindS ef
  obtain ⟨dy, e4, ef⟩ := bindS ef
  obtain ⟨rs, e5, ef⟩ := bindS ef
  cases ef
  refine ⟨E, B, env, p.1, p.2, rr, e1, fun u B1 H1 r1 s1 q1 => ⟨E, B1, p.2, q.1, q.2, r1, e2, fun v B2 H2 r2 s2 q2 => ?_⟩⟩
  refine hr B2 H2 u v dx dy _ Q r2.bh (opRd r2 (q1.mono s2) e3) (opRd r2 q2 e4) e5 fun w B3 H3 gr nw => ?_
  exact k w B3 H3 (r2.grow gr) (s1.tr (s2.tr gr.bb)) (nw.res r2)
theorem e_bin {op : Operator} {r : R2} {g : D → D → Option Res} {a b : Expr} {pos : Pos} {fa fb : Ev Opd} (ho : OpR X (binaryOp op) r) (hr : Prim2 r g) (ha : PE X a (tP X.K fa)) (hb : PE X b (tP X.K fb)) :
    PE X (.BinOp a op b pos) (tR X.K (bin2 g fa fb)) := peImp (pe_op ho ha hb) (tOp2 hr)
theorem e_cmp {op : CmpOp} {r : R2} {g : D → D → Option Res} {a b : Expr} {pos : Pos} {fa fb : Ev Opd} (ho : OpR X (compareOp op) r) (hr : Prim2 r g) (hm : behindInMarks op b = false) (ha : PE X a (tP X.K fa)) (hb : PE X b (tP X.K fb)) :
    PE X (.Compare a [op] [b] pos) (tR X.K (bin2 g fa fb)) := peImp (pe_cmpR ho ha hb hm) (tOp2 hr)
/-- a test by its value -/
def boolOf (f : Ev Res) : Ev Bool := fun env => (f env).bind fun p => match p.1 with
  | .d (.bool b) => some (b, p.2)
  | _ => none
theorem tTestR {K : PySem.W.Frag} {te : TE} {f : Ev Res} (h : ∀ σ H Q, tR K f σ H Q → te σ H Q) (σ : L2.St) (H : Hp) (Q : Bool → Hp → Prop) (q : tT K (boolOf f) σ H Q) : te σ H fun x H' => ∃ k, x = .bl k ∧ Q k H' := by
  obtain ⟨E, B, env, x, env', rr, ef, k⟩ := q
  obtain ⟨p, e1, ef⟩ := bindS ef
  split at ef
  · rename_i b hb
    cases ef
    refine h σ H _ ⟨E, B, env, p.1, p.2, rr, e1, fun v B' H' r' s z => ?_⟩
    rw [hb] at z
    have z' : Rep B' v (.bool x) := z
    cases z'
    exact ⟨x, rfl, k B' H' r' s⟩
  · cases ef
theorem t_cmp {op : CmpOp} {r : R2} {g : D → D → Option Res} {a b : Expr} {pos : Pos} {fa fb : Ev Opd} (ho : OpR X (compareOp op) r) (hr : Prim2 r g) (hm : behindInMarks op b = false) (ha : PE X a (tP X.K fa)) (hb : PE X b (tP X.K fb)) :
    PT X (.Compare a [op] [b] pos) (tT X.K (boolOf (bin2 g fa fb))) := ptImp (pt_cmpR ho ha hb hm) (tTestR (tOp2 hr))
/-- any other expression whose value is a bool -/
theorem t_val {f : Ev Res} (h : PE X e (tR X.K f)) (he : ∀ whole, isTrue e X.env whole = (do let v ← whole; standAt e.pos; holding [v] (truthy v))) : PT X e (tT X.K (boolOf f)) :=
  ptImp (pt_val h he) (tTestR fun _ _ _ q => q)
end
end NS

set_option Elab.async false
set_option linter.all false
set_option maxRecDepth 100000
set_option maxHeartbeats 4000000
/-! NsC: readings by evaluators: displays, calls, truths, slices. -/
namespace NS
open PySem L2 NT
variable [W : NT.Wd]
section
variable {X : Cx} {e : Expr} {es : List Expr} {pos : Pos}

/-! ### arguments -/
def nilA : Ev (List Opd) := fun env => some ([], env)
def consA (f : Ev Opd) (g : Ev (List Opd)) : Ev (List Opd) := fun env => (f env).bind fun p => (g p.2).bind fun q => some (p.1 :: q.1, q.2)
theorem a_nil : PA X [] (tA X.K nilA) := paImp pa_nil fun σ H Q ⟨E, B, env, x, env', r, ef, k⟩ => by
  cases ef
  exact k [] B H r Sub.rfl' rfl
theorem a_cons {f : Ev Opd} {g : Ev (List Opd)} (ha : PE X e (tP X.K f)) (hr : PA X es (tA X.K g)) (hs : starEach (e :: es) X.env = (false, eval e X.env) :: starEach es X.env := by rfl) : PA X (e :: es) (tA X.K (consA f g)) :=
  paImp (pa_cons ha hr hs) fun σ H Q ⟨E, B, env, x, env', r, ef, k⟩ => by
    obtain ⟨p, e1, ef⟩ := bindS ef
    obtain ⟨q, e2, ef⟩ := bindS ef
    cases ef
    exact ⟨E, B, env, p.1, p.2, r, e1, fun v B1 H1 r1 s1 q1 => ⟨E, B1, p.2, q.1, q.2, r1, e2, fun vs B2 H2 r2 s2 q2 => k (v :: vs) B2 H2 r2 (s1.tr s2) ⟨v, vs, rfl, q1.mono s2, q2⟩⟩⟩

/-! ### displays -/
def valsO : List Opd → Option (List D)
  | [] => some []
  | .v d :: xs => (valsO xs).bind fun ds => some (d :: ds)
  | _ :: _ => none
theorem valsRep {K : PySem.W.Frag} {B : Hp} {σ : L2.St} : ∀ {xs : List Opd} {us : List V} {ds : List D}, OpVs K B σ xs us → valsO xs = some ds → Reps B us ds
  | [], us, ds, h, e => by
    cases h
    cases e
    exact .nil
  | .v d :: xs, us, ds, ⟨u, rr, e0, h, k⟩, e => by
    subst e0
    obtain ⟨ds', e1, e2⟩ := bindS e
    cases e2
    exact .cons h (valsRep k e1)
  | .r _ :: xs, us, ds, _, e => nomatch e
  | .s _ :: xs, us, ds, _, e => nomatch e
def tupR (f : Ev (List Opd)) : Ev Res := fun env => (f env).bind fun p => (valsO p.1).bind fun ds => guardO (decide (ds.length ≤ 100000)) (some (.d (.tuple ds), p.2))
def lstR (f : Ev (List Opd)) : Ev Res := fun env => (f env).bind fun p => (valsO p.1).bind fun ds => guardO (decide (ds.length ≤ 100000)) (some (.l ds, p.2))
theorem line5 {n : Nat} (h : n ≤ 100000) : n ≤ sizeLine := by rw [sizeLine_eq]; omega
theorem e_tup {x1 : Nat} {f : Ev (List Opd)} (h : PA X es (tA X.K f)) : PE X (.Tuple es x1 pos) (tR X.K (tupR f)) := peImp (pe_tup h) fun σ H Q ⟨E, B, env, x, env', r, ef, k⟩ => by
  obtain ⟨p, e1, ef⟩ := bindS ef
  obtain ⟨ds, e2, ef⟩ := bindS ef
  obtain ⟨hl, ef⟩ := guardS ef
  cases ef
  refine ⟨E, B, env, p.1, p.2, r, e1, fun us B1 H1 r1 s1 q1 => ?_⟩
  have rep := valsRep q1 e2
  refine ⟨by rw [rep.len]; exact line5 (of_decide_eq_true hl), fun a ha => ?_⟩
  have g : Grow B1 H1 (upd B1 a (.tup us)) (upd H1 a (.tup us)) := Grow.both r1.bh ha
  exact k _ _ _ (r1.grow g) (s1.tr g.bb) (show Rep _ _ _ from .tup upd_same (rep.mono g.bb))
theorem e_lst {f : Ev (List Opd)} (h : PA X es (tA X.K f)) : PE X (.List es pos) (tR X.K (lstR f)) := peImp (pe_lst h) fun σ H Q ⟨E, B, env, x, env', r, ef, k⟩ => by
  obtain ⟨p, e1, ef⟩ := bindS ef
  obtain ⟨ds, e2, ef⟩ := bindS ef
  obtain ⟨hl, ef⟩ := guardS ef
  cases ef
  refine ⟨E, B, env, p.1, p.2, r, e1, fun us B1 H1 r1 s1 q1 => ?_⟩
  have rep := valsRep q1 e2
  refine ⟨by rw [rep.len]; exact line5 (of_decide_eq_true hl), fun a ha => ?_⟩
  have g : Grow B1 H1 B1 (upd H1 a (.lst us)) := Grow.heap r1.bh ha
  have nw : NewV B1 H1 (upd H1 a (.lst us)) B1 (.l ds) (.ref a) := ⟨a, _, rfl, ha, upd_same, ⟨us, rfl, rep⟩, r1.bh.off ha⟩
  exact k _ _ _ (r1.grow g) s1 (nw.res r1)

/-! ### calls of built-ins -/
def callN (g : List D → Option Res) (f : Ev (List Opd)) : Ev Res := fun env => (f env).bind fun p => (opDs p.2 p.1).bind fun ds => (g ds).bind fun r => some (r, p.2)
theorem tCallN {K : PySem.W.Frag} {r : List V → Hp → VK → Prop} {g : List D → Option Res} (hr : PrimN r g) {f : Ev (List Opd)} (σ : L2.St) (H : Hp) (Q : VK) (h : tR K (callN g f) σ H Q) : tCB r (tA K f) σ H Q := by
  obtain ⟨E, B, env, x, env', rr, ef, k⟩ := h
  obtain ⟨p, e1, ef⟩ := bindS ef
  obtain ⟨ds, e2, ef⟩ := bindS ef
  obtain ⟨rs, e3, ef⟩ := bindS ef
  cases ef
  refine ⟨E, B, env, p.1, p.2, rr, e1, fun us B1 H1 r1 s1 q1 => ?_⟩
  exact hr B1 H1 us ds _ Q r1.bh (opRds r1 q1 e2) e3 fun w B2 H2 gr nw => k w B2 H2 (r1.grow gr) (s1.tr gr.bb) (nw.res r1)
theorem e_callB {r : List V → Hp → VK → Prop} {g : List D → Option Res} {f : Ev (List Opd)} {x : Str} {id : String} {p : Pos} (hc : CallR X (.builtin id) r) (hp : PrimN r g) (hg : Gl X x) (hm : X.mg x = none) (hv : bootBuiltins x = some (.builtin id))
    (ha : PA X (e :: es) (tA X.K f)) (hn : x ≠ "__name__" := by decide) (hdb : (x == ("__debug__" : Str)) = false := by decide)
    (he : starEach (e :: es) X.env = (false, eval e X.env) :: starEach es X.env := by rfl) (hpl : (backTo pos (starEach es X.env)).any (·.1) = false := by rfl) : PE X (.Call (.Name x p) (e :: es) [] pos) (tR X.K (callN g f)) :=
  peImp (pe_callB hc hg hm hv ha hn hdb he hpl) (tCallN hp)
theorem e_callTy {r : List V → Hp → VK → Prop} {g : List D → Option Res} {f : Ev (List Opd)} {x : Str} {T : String} {p : Pos} (hc : CallR X (.type T) r) (hp : PrimN r g) (hg : Gl X x) (hm : X.mg x = none) (hv : bootBuiltins x = some (.type T))
    (ha : PA X (e :: es) (tA X.K f)) (hn : x ≠ "__name__" := by decide) (hdb : (x == ("__debug__" : Str)) = false := by decide)
    (he : starEach (e :: es) X.env = (false, eval e X.env) :: starEach es X.env := by rfl) (hpl : (backTo pos (starEach es X.env)).any (·.1) = false := by rfl) : PE X (.Call (.Name x p) (e :: es) [] pos) (tR X.K (callN g f)) :=
  peImp (pe_callTy hc hg hm hv ha hn hdb he hpl) (tCallN hp)

/-! ### subscripts -/
theorem e_ix {r : R2} {g : D → D → Option Res} {a b : Expr} {fa fb : Ev Opd} (ho : IxR X r) (hr : Prim2 r g) (ha : PE X a (tP X.K fa)) (hb : PE X b (tP X.K fb)) (hs : PlainIx b := by exact fun _ _ => rfl) :
    PE X (.Subscript a b pos) (tR X.K (bin2 g fa fb)) := peImp (pe_ix ho ha hb hs) (tOp2 hr)
/-- the bounds of a slice -/
def PrimS (r : V → Option Int → Option Int → Hp → VK → Prop) (g : D → Option Int → Option Int → Option Res) : Prop := ∀ (B H : Hp) (u : V) (d : D) (lo hi : Option Int) (res : Res) (Q : VK), Sub B H → Rd B H u d → g d lo hi = some res →
  (∀ w B' H', Grow B H B' H' → NewV B H H' B' res w → Q w H') → r u lo hi H Q
def boundO (f : Option (Ev D)) : Ev (Option Int) := fun env => match f with
  | none => some (none, env)
  | some f => (f env).bind fun p => match p.1 with
    | .int i => some (some i, p.2)
    | _ => none
def tOb (K : PySem.W.Frag) (f : Ev (Option Int)) : TO := fun σ H Q => ∃ E B env x env', RR K E B H σ env ∧ f env = some (x, env') ∧ ∀ B' H', RR K E B' H' σ env' → Sub B B' → Q x H'
theorem poImp {o : Option Expr} {t t' : TO} (h : PO X o t) (i : ∀ σ H Q, t' σ H Q → t σ H Q) : PO X o t' := ⟨fun pins s σ H Q I q => h.run pins s σ H Q I (i σ H Q q)⟩
theorem o_none : PO X none (tOb X.K (boundO none)) := poImp po_none fun σ H Q ⟨E, B, env, x, env', r, ef, k⟩ => by
  cases ef
  exact k B H r Sub.rfl'
theorem o_some {f : Ev D} (h : PE X e (tE X.K f)) : PO X (some e) (tOb X.K (boundO (some f))) := poImp (po_some h) fun σ H Q ⟨E, B, env, x, env', r, ef, k⟩ => by
  obtain ⟨p, e1, ef⟩ := bindS (show (f env).bind _ = _ from ef)
  split at ef
  · rename_i i hi
    cases ef
    refine ⟨E, B, env, p.1, p.2, r, e1, fun v B' H' r' s q => ?_⟩
    rw [hi] at q
    cases q
    exact ⟨i, rfl, k B' H' r' s⟩
  · cases ef
def sl3 (g : D → Option Int → Option Int → Option Res) (fa : Ev Opd) (fl fh : Ev (Option Int)) : Ev Res := fun env => (fa env).bind fun p => (fl p.2).bind fun q => (fh q.2).bind fun t => (opD t.2 p.1).bind fun d => (g d q.1 t.1).bind fun r => some (r, t.2)
theorem e_slice {r : V → Option Int → Option Int → Hp → VK → Prop} {g : D → Option Int → Option Int → Option Res} {lo hi : Option Expr} {p2 : Pos} {fa : Ev Opd} {fl fh : Ev (Option Int)} (hr : SlR X r) (hp : PrimS r g)
    (he : PE X e (tP X.K fa)) (hl : PO X lo (tOb X.K fl)) (hu : PO X hi (tOb X.K fh)) : PE X (.Subscript e (.Slice lo hi none p2) pos) (tR X.K (sl3 g fa fl fh)) := peImp (pe_slice hr he hl hu) fun σ H Q ⟨E, B, env, x, env', rr, ef, k⟩ => by
  obtain ⟨p, e1, ef⟩ := bindS ef
  obtain ⟨q, e2, ef⟩ := bindS ef
  obtain ⟨t, e3, ef⟩ := bindS ef
  obtain ⟨d, e4, ef⟩ := bindS ef
  obtain ⟨rs, e5, ef⟩ := bindS ef
  cases ef
  refine ⟨E, B, env, p.1, p.2, rr, e1, fun u B1 H1 r1 s1 q1 => ⟨E, B1, p.2, q.1, q.2, r1, e2, fun B2 H2 r2 s2 => ⟨E, B2, q.2, t.1, t.2, r2, e3, fun B3 H3 r3 s3 => ?_⟩⟩⟩
  exact hp B3 H3 u d q.1 t.1 _ Q r3.bh (opRd r3 (q1.mono (s2.tr s3)) e4) e5 fun w B4 H4 gr nw => k w B4 H4 (r3.grow gr) (s1.tr (s2.tr (s3.tr gr.bb))) (nw.res r3)
/-- the script's slice -/
def cutS (ns : List Int) (lo hi : Option Int) : List Int := (ns.drop (HT.sIx ns.length 0 lo)).take (HT.sIx ns.length ns.length hi - HT.sIx ns.length 0 lo)
theorem cutV_ints (ns : List Int) (lo hi : Option Int) : cutV (ns.map V.int) lo hi = (cutS ns lo hi).map V.int := by
  unfold cutV cutS
  rw [List.length_map, List.map_take, List.map_drop]
def slS (fa : Ev Opd) (fl fh : Ev (Option Int)) : Ev Res := fun env => (fa env).bind fun p => match p.1 with
  | .s ns => (fl p.2).bind fun q => (fh q.2).bind fun t => some (.l ((cutS ns q.1 t.1).map .int), t.2)
  | _ => none
theorem e_sliceS {lo hi : Option Expr} {p2 : Pos} {fa : Ev Opd} {fl fh : Ev (Option Int)} (he : PE X e (tP X.K fa)) (hl : PO X lo (tOb X.K fl)) (hu : PO X hi (tOb X.K fh)) : PE X (.Subscript e (.Slice lo hi none p2) pos) (tR X.K (slS fa fl fh)) :=
  peImp (pe_slice sl_list he hl hu) fun σ H Q ⟨E, B, env, x, env', rr, ef, k⟩ => by
  obtain ⟨p, e1, ef⟩ := bindS ef
  split at ef
  · rename_i ns hns
    obtain ⟨q, e2, ef⟩ := bindS ef
    obtain ⟨t, e3, ef⟩ := bindS ef
    cases ef
    refine ⟨E, B, env, p.1, p.2, rr, e1, fun u B1 H1 r1 s1 q1 => ⟨E, B1, p.2, q.1, q.2, r1, e2, fun B2 H2 r2 s2 => ⟨E, B2, q.2, t.1, t.2, r2, e3, fun B3 H3 r3 s3 => ?_⟩⟩⟩
    rw [hns] at q1
    obtain ⟨a, rfl, hs⟩ := q1
    refine ⟨a, ns.map V.int, rfl, sqlSub (s2.tr (s3.tr r3.bh)) hs, fun c hc => ?_⟩
    rw [cutV_ints]
    have g : Grow B3 H3 B3 (upd H3 c (.lst ((cutS ns q.1 t.1).map V.int))) := Grow.heap r3.bh hc
    have nw : NewV B3 H3 (upd H3 c (.lst ((cutS ns q.1 t.1).map V.int))) B3 (.l ((cutS ns q.1 t.1).map .int)) (.ref c) := ⟨c, _, rfl, hc, upd_same, ⟨_, rfl, Reps.ofInts _⟩, r3.bh.off hc⟩
    exact k _ _ _ (r3.grow g) (s1.tr (s2.tr s3)) (nw.res r3)
  · cases ef

/-! ### truths -/
def andT (f g : Ev Bool) : Ev Bool := fun env => (f env).bind fun p => if p.1 = true then g p.2 else some (false, p.2)
def orT (f g : Ev Bool) : Ev Bool := fun env => (f env).bind fun p => if p.1 = true then some (true, p.2) else g p.2
def notT (f : Ev Bool) : Ev Bool := fun env => (f env).bind fun p => some (!p.1, p.2)
variable {a b : Expr} {rest : List Expr} {fa fb : Ev Bool}
theorem tAndI {K : PySem.W.Frag} (σ : L2.St) (H : Hp) (Q : Bool → Hp → Prop) (h : tT K (andT fa fb) σ H Q) : tAnd (tT K fa) (tT K fb) σ H Q := by
  obtain ⟨E, B, env, x, env', rr, ef, k⟩ := h
  obtain ⟨p, e1, ef⟩ := bindS ef
  refine ⟨E, B, env, p.1, p.2, rr, e1, fun B1 H1 r1 s1 => ?_⟩
  split at ef
  · rename_i hp
    rw [if_pos hp]
    exact ⟨E, B1, p.2, x, env', r1, ef, fun B2 H2 r2 s2 => k B2 H2 r2 (s1.tr s2)⟩
  · rename_i hp
    rw [if_neg hp]
    cases ef
    exact k B1 H1 r1 s1
theorem tOrI {K : PySem.W.Frag} (σ : L2.St) (H : Hp) (Q : Bool → Hp → Prop) (h : tT K (orT fa fb) σ H Q) : tOr (tT K fa) (tT K fb) σ H Q := by
  obtain ⟨E, B, env, x, env', rr, ef, k⟩ := h
  obtain ⟨p, e1, ef⟩ := bindS ef
  refine ⟨E, B, env, p.1, p.2, rr, e1, fun B1 H1 r1 s1 => ?_⟩
  split at ef
  · rename_i hp
    rw [if_pos hp]
    cases ef
    exact k B1 H1 r1 s1
  · rename_i hp
    rw [if_neg hp]
    exact ⟨E, B1, p.2, x, env', r1, ef, fun B2 H2 r2 s2 => k B2 H2 r2 (s1.tr s2)⟩
theorem w_and1 (ha : PT X a (tT X.K fa)) : PW X (.BoolOp .And [a] pos) (tT X.K fa) := pw_and1 ha
theorem w_or1 (ha : PT X a (tT X.K fa)) : PW X (.BoolOp .Or [a] pos) (tT X.K fa) := pw_or1 ha
theorem w_and (ha : PT X a (tT X.K fa)) (hb : PW X (.BoolOp .And (b :: rest) pos) (tT X.K fb)) : PW X (.BoolOp .And (a :: b :: rest) pos) (tT X.K (andT fa fb)) := pwImp (pw_and ha hb) tAndI
theorem w_or (ha : PT X a (tT X.K fa)) (hb : PW X (.BoolOp .Or (b :: rest) pos) (tT X.K fb)) : PW X (.BoolOp .Or (a :: b :: rest) pos) (tT X.K (orT fa fb)) := pwImp (pw_or ha hb) tOrI
theorem t_not (ha : PT X a (tT X.K fa)) : PT X (.UnaryOp .Not a pos) (tT X.K (notT fa)) := ptImp (pt_not ha) fun σ H Q ⟨E, B, env, x, env', rr, ef, k⟩ => by
  obtain ⟨p, e1, ef⟩ := bindS ef
  cases ef
  exact ⟨E, B, env, p.1, p.2, rr, e1, fun B1 H1 r1 s1 => k B1 H1 r1 s1⟩
/-- .. as values -/
def ofT (f : Ev Bool) : Ev Res := fun env => (f env).bind fun p => some (.d (.bool p.1), p.2)
def andV (f g : Ev Res) : Ev Res := fun env => (f env).bind fun p => match p.1 with
  | .d (.bool true) => g p.2
  | .d (.bool false) => some (.d (.bool false), p.2)
  | _ => none
def orV (f g : Ev Res) : Ev Res := fun env => (f env).bind fun p => match p.1 with
  | .d (.bool false) => g p.2
  | .d (.bool true) => some (.d (.bool true), p.2)
  | _ => none
def notV (f : Ev Res) : Ev Res := fun env => (f env).bind fun p => match p.1 with
  | .d (.bool b) => some (.d (.bool (!b)), p.2)
  | _ => none
variable {ga gb : Ev Res}
theorem e_one {op : BoolOp} (h : PE X a (tR X.K ga)) : PE X (.BoolOp op [a] pos) (tR X.K ga) := pe_one h
theorem e_and (ha : PE X a (tR X.K ga)) (hb : PE X (.BoolOp .And (b :: rest) pos) (tR X.K gb)) : PE X (.BoolOp .And (a :: b :: rest) pos) (tR X.K (andV ga gb)) := peImp (pe_and ha hb) fun σ H Q ⟨E, B, env, x, env', rr, ef, k⟩ => by
  obtain ⟨p, e1, ef⟩ := bindS ef
  refine ⟨E, B, env, p.1, p.2, rr, e1, fun v B1 H1 r1 s1 q1 => ?_⟩
  split at ef
  · rename_i hp
    rw [hp] at q1
    cases (show Rep B1 v (.bool true) from q1)
    exact ⟨true, rfl, by rw [if_pos rfl]; exact ⟨E, B1, p.2, x, env', r1, ef, fun w B2 H2 r2 s2 q2 => k w B2 H2 r2 (s1.tr s2) q2⟩⟩
  · rename_i hp
    rw [hp] at q1
    cases (show Rep B1 v (.bool false) from q1)
    cases ef
    exact ⟨false, rfl, by rw [if_neg (by simp)]; exact k _ B1 H1 r1 s1 (show Rep _ _ _ from .bl false)⟩
  · cases ef
theorem e_or (ha : PE X a (tR X.K ga)) (hb : PE X (.BoolOp .Or (b :: rest) pos) (tR X.K gb)) : PE X (.BoolOp .Or (a :: b :: rest) pos) (tR X.K (orV ga gb)) := peImp (pe_or ha hb) fun σ H Q ⟨E, B, env, x, env', rr, ef, k⟩ => by
  obtain ⟨p, e1, ef⟩ := bindS ef
  refine ⟨E, B, env, p.1, p.2, rr, e1, fun v B1 H1 r1 s1 q1 => ?_⟩
  split at ef
  · rename_i hp
    rw [hp] at q1
    cases (show Rep B1 v (.bool false) from q1)
    exact ⟨false, rfl, by rw [if_neg (by simp)]; exact ⟨E, B1, p.2, x, env', r1, ef, fun w B2 H2 r2 s2 q2 => k w B2 H2 r2 (s1.tr s2) q2⟩⟩
  · rename_i hp
    rw [hp] at q1
    cases (show Rep B1 v (.bool true) from q1)
    cases ef
    exact ⟨true, rfl, by rw [if_pos rfl]; exact k _ B1 H1 r1 s1 (show Rep _ _ _ from .bl true)⟩
  · cases ef
theorem e_not (ha : PE X a (tR X.K ga)) : PE X (.UnaryOp .Not a pos) (tR X.K (notV ga)) := peImp (pe_not ha) fun σ H Q ⟨E, B, env, x, env', rr, ef, k⟩ => by
  obtain ⟨p, e1, ef⟩ := bindS ef
  refine ⟨E, B, env, p.1, p.2, rr, e1, fun v B1 H1 r1 s1 q1 => ?_⟩
  split at ef
  · rename_i bb hp
    rw [hp] at q1
    cases (show Rep B1 v (.bool bb) from q1)
    cases ef
    exact ⟨bb, rfl, k _ B1 H1 r1 s1 (show Rep _ _ _ from .bl _)⟩
  · cases ef
/-- a if t else b -/
def ifR (c : Ev Bool) (f g : Ev Res) : Ev Res := fun env => (c env).bind fun p => if p.1 = true then f p.2 else g p.2
theorem e_if {c : Expr} {fc : Ev Bool} (hc : PT X c (tT X.K fc)) (ha : PE X a (tR X.K ga)) (hb : PE X b (tR X.K gb)) : PE X (.IfExp c a b pos) (tR X.K (ifR fc ga gb)) := peImp (pe_ifExp hc ha hb) fun σ H Q ⟨E, B, env, x, env', rr, ef, k⟩ => by
  obtain ⟨p, e1, ef⟩ := bindS ef
  refine ⟨E, B, env, p.1, p.2, rr, e1, fun B1 H1 r1 s1 => ?_⟩
  split at ef
  · rename_i hp
    rw [if_pos hp]
    exact ⟨E, B1, p.2, x, env', r1, ef, fun v B2 H2 r2 s2 q => k v B2 H2 r2 (s1.tr s2) q⟩
  · rename_i hp
    rw [if_neg hp]
    exact ⟨E, B1, p.2, x, env', r1, ef, fun v B2 H2 r2 s2 q => k v B2 H2 r2 (s1.tr s2) q⟩
/-- a <= b <= c -/
def chain3 (g g' : D → D → Option Res) (fa fb fc : Ev Opd) : Ev Res := fun env => (fa env).bind fun p => (fb p.2).bind fun q => (opD q.2 p.1).bind fun dx => (opD q.2 q.1).bind fun dy => (g dx dy).bind fun r => match r with
  | .d (.bool true) => (fc q.2).bind fun t => (opD t.2 q.1).bind fun dy' => (opD t.2 t.1).bind fun dz => (g' dy' dz).bind fun r' => some (r', t.2)
  | .d (.bool false) => some (.d (.bool false), q.2)
  | _ => none
theorem tChainI {K : PySem.W.Frag} {r r' : R2} {g g' : D → D → Option Res} {oa ob oc : Ev Opd} (hp : Prim2 r g) (hp' : Prim2 r' g') (σ : L2.St) (H : Hp) (Q : VK) (h : tR K (chain3 g g' oa ob oc) σ H Q) : tChain r r' (tP K oa) (tP K ob) (tP K oc) σ H Q := by
  obtain ⟨E, B, env, x, env', rr, ef, k⟩ := h
  obtain ⟨p, e1, ef⟩ := bindS ef
  obtain ⟨q, e2, ef⟩ := bindS ef
  obtain ⟨dx, e3, ef⟩ := bindS ef
  obtain ⟨dy, e4, ef⟩ := bindS ef
  obtain ⟨rs, e5, ef⟩ := bindS ef
  refine ⟨E, B, env, p.1, p.2, rr, e1, fun u B1 H1 r1 s1 q1 => ⟨E, B1, p.2, q.1, q.2, r1, e2, fun v B2 H2 r2 s2 q2 => ?_⟩⟩
  refine hp B2 H2 u v dx dy rs _ r2.bh (opRd r2 (q1.mono s2) e3) (opRd r2 q2 e4) e5 fun w B3 H3 gr nw => ?_
  split at ef
  · obtain ⟨t, e6, ef⟩ := bindS ef
    obtain ⟨dy', e7, ef⟩ := bindS ef
    obtain ⟨dz, e8, ef⟩ := bindS ef
    obtain ⟨rs', e9, ef⟩ := bindS ef
    cases ef
    cases (show Rep B3 w (.bool true) from nw)
    refine ⟨true, rfl, ?_⟩
    rw [if_pos rfl]
    refine ⟨E, B3, q.2, t.1, t.2, r2.grow gr, e6, fun z B4 H4 r4 s4 q4 => ?_⟩
    exact hp' B4 H4 v z dy' dz _ Q r4.bh (opRd r4 (q2.mono (gr.bb.tr s4)) e7) (opRd r4 q4 e8) e9 fun w' B5 H5 gr' nw' => k w' B5 H5 (r4.grow gr') (s1.tr (s2.tr (gr.bb.tr (s4.tr gr'.bb)))) (nw'.res r4)
  · cases ef
    cases (show Rep B3 w (.bool false) from nw)
    refine ⟨false, rfl, ?_⟩
    rw [if_neg (by simp)]
    exact k _ B3 H3 (r2.grow gr) (s1.tr (s2.tr gr.bb)) (show Rep _ _ _ from .bl false)
  · cases ef
theorem e_chain {op op' : CmpOp} {r r' : R2} {g g' : D → D → Option Res} {c : Expr} {oa ob oc : Ev Opd} (ho : OpR X (compareOp op) r) (ho' : OpR X (compareOp op') r') (hp : Prim2 r g) (hp' : Prim2 r' g') (ha : PE X a (tP X.K oa)) (hb : PE X b (tP X.K ob)) (hc : PE X c (tP X.K oc))
    (hm : lastMarks [op, op'] [b, c] = false := by with_unfolding_all rfl) : PE X (.Compare a [op, op'] [b, c] pos) (tR X.K (chain3 g g' oa ob oc)) := peImp (pe_chain ho ho' ha hb hc hm) (tChainI hp hp')
theorem t_chain {op op' : CmpOp} {r r' : R2} {g g' : D → D → Option Res} {c : Expr} {oa ob oc : Ev Opd} (ho : OpR X (compareOp op) r) (ho' : OpR X (compareOp op') r') (hp : Prim2 r g) (hp' : Prim2 r' g') (ha : PE X a (tP X.K oa)) (hb : PE X b (tP X.K ob)) (hc : PE X c (tP X.K oc))
    (hm : lastMarks [op, op'] [b, c] = false := by with_unfolding_all rfl) : PT X (.Compare a [op, op'] [b, c] pos) (tT X.K (boolOf (chain3 g g' oa ob oc))) := ptImp (pt_chain ho ho' ha hb hc hm) (tTestR (tChainI hp hp'))
end
end NS

set_option Elab.async false
set_option linter.all false
set_option maxRecDepth 100000
set_option maxHeartbeats 4000000
/-! NsD: targets, what is walked, list comprehensions. -/
namespace NS
open PySem L2 NT
variable [W : NT.Wd]
section
variable {K : PySem.W.Frag} {E : Ent} {B H B' H' : Hp} {σ σ' : L2.St} {env env' : Env}

/-! ### one piece within another -/
/-- the entry of a piece that begins here -/
def loc (B H : Hp) (σ : L2.St) (env : Env) : Ent where
  H0 := H
  B0 := B
  I := fun a => ∃ i, Own σ env i a
  Z := fun a => ∃ (i : Nat) (ov : OV), env[i]? = some (some ov) ∧ ov.owned = true ∧ ov.io = false ∧ σ[i]? = some (some (.ref a))
  s0 := σ
  J := fun i => ∃ ov, env[i]? = some (some ov) ∧ ov.io = true
theorem RR.loc (r : RR K E B H σ env) : RR K (NS.loc B H σ env) B H σ env where
  bh := r.bh
  b0 := Sub.rfl'
  zi := fun a ⟨i, ov, h1, h2, _, h4⟩ => ⟨i, ov, h1, h2, h4⟩
  keep := fun _ _ e _ _ => e
  tb := r.tb
  there := fun _ e => e
  new := fun _ _ e => .inl e
  len := r.len
  slot := r.slot
  own := fun i a h => .inl ⟨i, h⟩
  ownz := fun i a ov h1 h2 h3 h4 => .inr ⟨i, ov, h1, h2, h3, h4⟩
  inj := r.inj
  ios := fun i ov h w => ⟨⟨ov, h, w⟩, rfl⟩
theorem RR.off (r : RR K E B H σ env) {a : Addr} (h : H a = none) : E.H0 a = none := by
  cases q : E.H0 a with
  | none => rfl
  | some u => exact absurd h (r.there a (by rw [q]; simp))
theorem RR.comp (r : RR K E B H σ env) (q : RR K (NS.loc B H σ env) B' H' σ' env') : RR K E B' H' σ' env' where
  bh := q.bh
  b0 := r.b0.tr q.b0
  zi := r.zi
  keep := fun a o e n nt => q.keep a o (r.keep a o e n nt) (fun ⟨i, w⟩ => by
    rcases r.own i a w with z | z
    · exact n z
    · rw [z] at e; cases e) nt
  tb := q.tb
  there := fun a e => q.there a (r.there a e)
  new := fun a o e => by
    rcases q.new a o e with h | h | ⟨i, ov, h1, h2, h3, h4⟩
    · exact r.new a o h
    · exact .inr (.inl (r.off h))
    · exact .inr (r.ownz i a ov h1 h2 h3 h4)
  len := q.len
  slot := q.slot
  own := fun i a w => by
    rcases q.own i a w with ⟨j, z⟩ | z
    · exact r.own j a z
    · exact .inr (r.off z)
  ownz := fun i a ov h1 h2 h3 h4 => by
    rcases q.ownz i a ov h1 h2 h3 h4 with z | ⟨j, ov', k1, k2, k3, k4⟩
    · exact .inl (r.off z)
    · exact r.ownz j a ov' k1 k2 k3 k4
  inj := q.inj
  ios := fun i ov h w => by
    obtain ⟨⟨ov', h', w'⟩, e⟩ := q.ios i ov h w
    obtain ⟨k1, k2⟩ := r.ios i ov' h' w'
    exact ⟨k1, e.trans k2⟩
theorem lst_apart {vs : List V} : (∀ ps, HO.lst vs ≠ .tbl ps) ∧ ∀ c q, HO.lst vs ≠ LamX.CodeO c q := ⟨fun _ e => (by cases e), fun _ _ e => (by unfold LamX.CodeO at e; cases e)⟩
theorem dic_apart {a : Addr} {es : EV} {ep : Nat} : (∀ ps, DicO a es ep ≠ .tbl ps) ∧ ∀ c q, DicO a es ep ≠ LamX.CodeO c q := ⟨fun _ e => (by unfold DicO at e; cases e), fun _ _ e => dic_code e⟩
/-- an object beside all that is owned is changed -/
theorem RR.aside {p : Addr} {o : HO} (r : RR K E B H σ env) (hb : B p = none) (h0 : E.H0 p = none) (hn : ∀ j, ¬ Own σ env j p) (hl : ∃ u, H p = some u ∧ (∀ ps, u ≠ .tbl ps) ∧ ∀ c q, u ≠ LamX.CodeO c q) : RR K E B (upd H p o) σ env where
  bh := fun a u e => by
    have n : a ≠ p := fun z => by subst z; rw [hb] at e; cases e
    rw [upd_ne n]; exact r.bh a u e
  b0 := r.b0
  zi := r.zi
  keep := fun a u e n nt => by
    have n : a ≠ p := fun z => by subst z; rw [h0] at e; cases e
    rw [upd_ne n]; exact r.keep a u e (by assumption) nt
  tb := by
    obtain ⟨u, hl, hl1, hl2⟩ := hl
    refine ⟨fun x P e => ?_, r.tb.off⟩
    obtain ⟨ps, e1, e2, e3⟩ := r.tb.tab x P e
    refine ⟨ps, ?_, e2, fun pos cv hc => ?_⟩
    · rw [upd_ne (fun z => by rw [z, hl] at e1; exact hl1 _ (Option.some.inj e1))]; exact e1
    · obtain ⟨c, q1, q2⟩ := e3 pos cv hc
      refine ⟨c, q1, ?_⟩
      rw [upd_ne (fun z => by rw [z, hl] at q2; exact hl2 _ _ (Option.some.inj q2))]; exact q2
  there := fun a e => by
    by_cases h : a = p
    · subst h; rw [upd_same]; simp
    · rw [upd_ne h]; exact r.there a e
  new := r.new
  len := r.len
  slot := fun i ov h => by
    obtain ⟨v, e, k⟩ := r.slot i ov h
    refine ⟨v, e, ?_⟩
    by_cases w : ov.owned = true
    · obtain ⟨a, u, rfl, h1, h2, h3⟩ := k.own w
      have n : a ≠ p := fun z => by subst z; exact hn i ⟨ov, h, w, e⟩
      exact OvOk.of_own (by rw [upd_ne n]; exact h1) h2 h3
    · cases ov with
      | fn F => exact ⟨k.1, k.2.mono Sub.rfl' fun o q _ => by
          obtain ⟨u, hl, _, hl2⟩ := hl
          rw [upd_ne (fun z => by
            have q2 := k.2.1
            rw [z, hl] at q2
            exact hl2 _ _ (Option.some.inj q2))]
          exact q⟩
      | fz d => exact k
      | scr ns => exact k
      | ol _ _ => exact absurd rfl w
      | od _ _ => exact absurd rfl w
  own := r.own
  ownz := r.ownz
  inj := r.inj
  ios := r.ios
/-- some slots are forgotten -/
theorem RR.less {σ' : L2.St} {env' : Env} (r : RR K E B H σ env) (hl : σ'.length = env'.length) (h : ∀ (i : Nat) (ov : OV), env'[i]? = some (some ov) → env[i]? = some (some ov) ∧ σ'[i]? = σ[i]?) : RR K E B H σ' env' where
  bh := r.bh
  b0 := r.b0
  zi := r.zi
  keep := r.keep
  tb := r.tb
  there := r.there
  new := r.new
  len := hl
  slot := fun i ov e => by
    obtain ⟨h1, h2⟩ := h i ov e
    obtain ⟨v, e2, k⟩ := r.slot i ov h1
    exact ⟨v, h2.trans e2, k⟩
  own := fun i a ⟨ov, e, w, q⟩ => by
    obtain ⟨h1, h2⟩ := h i ov e
    exact r.own i a ⟨ov, h1, w, h2 ▸ q⟩
  ownz := fun i a ov e w wi q => by
    obtain ⟨h1, h2⟩ := h i ov e
    exact r.ownz i a ov h1 w wi (h2 ▸ q)
  inj := fun i j a ⟨ov, e, w, q⟩ ⟨ov', e', w', q'⟩ => by
    obtain ⟨h1, h2⟩ := h i ov e
    obtain ⟨k1, k2⟩ := h j ov' e'
    exact r.inj i j a ⟨ov, h1, w, h2 ▸ q⟩ ⟨ov', k1, w', k2 ▸ q'⟩
  ios := fun i ov e w => by
    obtain ⟨h1, h2⟩ := h i ov e
    obtain ⟨a, b⟩ := r.ios i ov h1 w
    exact ⟨a, h2.trans b⟩

/-! ### targets -/
inductive Tg where
  | nm (i : Nat) | tp (ts : List Tg)
mutual
def tgT (K : PySem.W.Frag) : Tg → TG
  | .nm i => gName i
  | .tp ts => gTup K ts.length (tgsT K ts)
def tgsT (K : PySem.W.Frag) : List Tg → TGs
  | [] => gNil
  | t :: ts => gCons (tgT K t) (tgsT K ts)
end
mutual
def Tg.slots : Tg → List Nat
  | .nm i => [i]
  | .tp ts => tgsSlots ts
def tgsSlots : List Tg → List Nat
  | [] => []
  | t :: ts => t.slots ++ tgsSlots ts
end
mutual
def tgE : Tg → D → Env → Option Env
  | .nm i, d, env => some (env.set i (some (.fz d)))
  | .tp ts, .tuple ds, env => if ds.length = ts.length then tgsE ts ds env else none
  | .tp _, _, _ => none
def tgsE : List Tg → List D → Env → Option Env
  | [], [], env => some env
  | t :: ts, d :: ds, env => (tgE t d env).bind fun e1 => tgsE ts ds e1
  | _, _, _ => none
end
/-- only some slots have changed -/
def Keeps (σ σ' : L2.St) (vs : List Nat) : Prop := σ'.length = σ.length ∧ ∀ j, j ∉ vs → σ'[j]? = σ[j]?
theorem Keeps.tr {σ σ1 σ2 : L2.St} {vs us : List Nat} (h : Keeps σ σ1 vs) (k : Keeps σ1 σ2 us) : Keeps σ σ2 (vs ++ us) :=
  ⟨k.1.trans h.1, fun j hj => by
    simp only [List.mem_append, not_or] at hj
    exact (k.2 j hj.2).trans (h.2 j hj.1)⟩
mutual
theorem tgI (K : PySem.W.Frag) {E : Ent} {B H : Hp} : ∀ (t : Tg) (d : D) (v : V) (σ : L2.St) (env env' : Env) (Q : L2.St → Hp → Prop), RR K E B H σ env → Rep B v d → tgE t d env = some env' →
    (∀ σ', RR K E B H σ' env' → Keeps σ σ' t.slots → Q σ' H) → tgT K t v σ H Q
  | .nm i, d, v, σ, env, env', Q, r, rep, e, k => by
    have e' : some (env.set i (some (.fz d))) = some env' := e
    cases e'
    refine k _ (r.put (show OvOk K B H v (.fz d) from rep) rfl (fun w => nomatch w)) ⟨by simp, fun j hj => ?_⟩
    have : j ≠ i := by
      intro z
      subst z
      exact hj (by simp [Tg.slots])
    exact List.getElem?_set_ne (Ne.symm this)
  | .tp ts, .tuple ds, v, σ, env, env', Q, r, rep, e, k => by
    have e' : (if ds.length = ts.length then tgsE ts ds env else none) = some env' := e
    split at e'
    · rename_i hl
      cases rep with
      | tup h1 h2 =>
        rename_i a vs
        exact ⟨a, vs, rfl, SqT.of (r.bh _ _ h1), h2.len.trans hl, tgsI K ts ds vs σ env env' Q r h2 e' k⟩
    · cases e'
  | .tp ts, .none, _, _, _, _, _, _, _, e, _ => nomatch e
  | .tp ts, .bool _, _, _, _, _, _, _, _, e, _ => nomatch e
  | .tp ts, .int _, _, _, _, _, _, _, _, e, _ => nomatch e
  | .tp ts, .str _, _, _, _, _, _, _, _, e, _ => nomatch e
  | .tp ts, .list _, _, _, _, _, _, _, _, e, _ => nomatch e
  | .tp ts, .dict _, _, _, _, _, _, _, _, e, _ => nomatch e
theorem tgsI (K : PySem.W.Frag) {E : Ent} {B H : Hp} : ∀ (ts : List Tg) (ds : List D) (vs : List V) (σ : L2.St) (env env' : Env) (Q : L2.St → Hp → Prop), RR K E B H σ env → Reps B vs ds → tgsE ts ds env = some env' →
    (∀ σ', RR K E B H σ' env' → Keeps σ σ' (tgsSlots ts) → Q σ' H) → tgsT K ts vs σ H Q
  | [], [], vs, σ, env, env', Q, r, rep, e, k => by
    cases rep
    have e' : some env = some env' := e
    cases e'
    exact ⟨rfl, k σ r ⟨rfl, fun _ _ => rfl⟩⟩
  | t :: ts, d :: ds, vs, σ, env, env', Q, r, rep, e, k => by
    cases rep with
    | cons a b =>
      obtain ⟨e1, h1, h2⟩ := bindS (show (tgE t d env).bind _ = _ from e)
      exact ⟨_, _, rfl, tgI K t d _ σ env e1 _ r a h1 fun σ1 r1 k1 => tgsI K ts ds _ σ1 e1 env' Q r1 b h2 fun σ2 r2 k2 => k σ2 r2 (k1.tr k2)⟩
  | [], _ :: _, _, _, _, _, _, _, _, e, _ => nomatch e
  | _ :: _, [], _, _, _, _, _, _, _, e, _ => nomatch e
end
theorem g_nm {X : Cx} {i : Nat} {x : Str} {pos : Pos} (hN : X.N.Nodup) (hi : X.N[i]? = some x) (hx : Loc X.env.scope x) (hf : X.fn x = true ∨ X.env.scope.names.lookup x = some .local := by first | exact .inl rfl | exact .inr rfl | assumption) :
    PG X (.Name x pos) (tgT X.K (.nm i)) := pg_name hN hi hx hf

/-! ### what is walked -/
/-- the iterator's items are these trees -/
def ItD (J : It) (B : Hp) (ds : List D) : Prop := ∀ (i : Nat) (B1 H1 : Hp), Sub B B1 → Sub B1 H1 → (∀ d, ds[i]? = some d → J.go i H1 ∧ ∀ x H', J.yld i H1 x H' → ∃ B2, Grow B1 H1 B2 H' ∧ Rep B2 x d) ∧ (ds.length ≤ i → J.stop i H1)
def tIt (K : PySem.W.Frag) (f : Ev (List D)) : TI := fun σ H R => ∃ E B env ds env', RR K E B H σ env ∧ f env = some (ds, env') ∧ ∀ J B' H', RR K E B' H' σ env' → Sub B B' → ItD J B' ds → R J H'
theorem piImp {X : Cx} {tg iter : Expr} {w w' : TI} (h : PI X tg iter w) (i : ∀ σ H R, w' σ H R → w σ H R) : PI X tg iter w' := ⟨fun pins s σ H R I q => h.run pins s σ H R I (i σ H R q)⟩
def itSeq (f : Ev D) : Ev (List D) := fun env => (f env).bind fun p => match p.1 with
  | .list ds => some (ds, p.2)
  | .tuple ds => some (ds, p.2)
  | _ => none
theorem itl {K : PySem.W.Frag} {a : Addr} {B : Hp} {vs : List V} {ds : List D} (h : B a = some (.lst vs)) (r : Reps B vs ds) : ItD (Itl K a) B ds := fun i B1 H1 s1 s2 => by
  have hs : SqL K H1 a vs := SqL.of (s2 _ _ (s1 _ _ h))
  refine ⟨fun d hd => ?_, fun hl => ⟨vs, hs, by rw [r.len]; exact hl⟩⟩
  obtain ⟨v, hv, rv⟩ := r.get hd
  refine ⟨⟨vs, v, hs, hv⟩, fun x H' ⟨e, y⟩ => ?_⟩
  subst e
  have e2 := y vs hs
  rw [hv] at e2
  cases e2
  exact ⟨B1, Grow.id s2, rv.mono s1⟩
theorem itt {K : PySem.W.Frag} {a : Addr} {B : Hp} {vs : List V} {ds : List D} (h : B a = some (.tup vs)) (r : Reps B vs ds) : ItD (Itt K a) B ds := fun i B1 H1 s1 s2 => by
  have hs : SqT K H1 a vs := SqT.of (s2 _ _ (s1 _ _ h))
  refine ⟨fun d hd => ?_, fun hl => ⟨vs, hs, by rw [r.len]; exact hl⟩⟩
  obtain ⟨v, hv, rv⟩ := r.get hd
  refine ⟨⟨vs, v, hs, hv⟩, fun x H' ⟨e, y⟩ => ?_⟩
  subst e
  have e2 := y vs hs
  rw [hv] at e2
  cases e2
  exact ⟨B1, Grow.id s2, rv.mono s1⟩
theorem i_seq {X : Cx} {tg e : Expr} {f : Ev D} (h : PE X e (tE X.K f)) : PI X tg e (tIt X.K (itSeq f)) := by
  constructor
  intro pins s σ H R I q
  obtain ⟨E, B, env, ds, env', r, ef, k⟩ := q
  obtain ⟨p, e1, ef⟩ := bindS (show (f env).bind _ = _ from ef)
  split at ef
  · rename_i xs hp
    cases ef
    refine (pi_list h).run pins s σ H R I ⟨E, B, env, p.1, p.2, r, e1, fun v B' H' r' s' q => ?_⟩
    rw [hp] at q
    cases q with
    | lst h1 h2 =>
      rename_i a vs
      exact ⟨a, rfl, ⟨vs, SqL.of (r'.bh _ _ h1)⟩, k _ B' H' r' s' (itl h1 h2)⟩
  · rename_i xs hp
    cases ef
    refine (pi_tup h).run pins s σ H R I ⟨E, B, env, p.1, p.2, r, e1, fun v B' H' r' s' q => ?_⟩
    rw [hp] at q
    cases q with
    | tup h1 h2 =>
      rename_i a vs
      exact ⟨a, rfl, ⟨vs, SqT.of (r'.bh _ _ h1)⟩, k _ B' H' r' s' (itt h1 h2)⟩
  · cases ef
def rangeD (lo : Int) (n : Nat) : List D := (List.range n).map fun (i : Nat) => PyData.int (lo + i)
theorem itr {B : Hp} (lo : Int) (n : Nat) : ItD (Itr lo n) B (rangeD lo n) := fun i B1 H1 s1 s2 => by
  refine ⟨fun d hd => ?_, fun hl => by
    show n ≤ i
    simpa [rangeD] using hl⟩
  unfold rangeD at hd
  rw [List.getElem?_map] at hd
  obtain ⟨j, hj, rfl⟩ := Option.map_eq_some_iff.mp hd
  obtain ⟨hj1, hj2⟩ := List.getElem?_eq_some_iff.mp hj
  rw [List.getElem_range] at hj2
  subst hj2
  refine ⟨by
    show i < n
    simpa using hj1, fun x H' ⟨e1, e2⟩ => ?_⟩
  subst e1
  subst e2
  exact ⟨B1, Grow.id s2, .int _⟩
def itRange1 (f : Ev (List Opd)) : Ev (List D) := fun env => (f env).bind fun p => match p.1 with
  | [.v (.int j)] => guardO (decide (-(2 ^ 62) ≤ j) && decide (j < 2 ^ 62)) (some (rangeD 0 j.toNat, p.2))
  | _ => none
def itRange2 (f : Ev (List Opd)) : Ev (List D) := fun env => (f env).bind fun p => match p.1 with
  | [.v (.int i), .v (.int j)] => guardO (decide (-(2 ^ 62) ≤ i) && decide (i < 2 ^ 62) && decide (-(2 ^ 62) ≤ j) && decide (j < 2 ^ 62)) (some (rangeD i (j - i).toNat, p.2))
  | _ => none
theorem i_range1 {X : Cx} {tg a : Expr} {f : Ev (List Opd)} {p pos : Pos} (hg : Gl X "range") (hm : X.mg "range" = none) (ha : PA X [a] (tA X.K f)) (hs : starEach [a] X.env = [(false, eval a X.env)] := by rfl) :
    PI X tg (.Call (.Name "range" p) [a] [] pos) (tIt X.K (itRange1 f)) := piImp (pi_range1 hg hm ha hs) fun σ H R ⟨E, B, env, ds, env', r, ef, k⟩ => by
  obtain ⟨q, e1, ef⟩ := bindS (show (f env).bind _ = _ from ef)
  split at ef
  · rename_i j hj
    obtain ⟨c, ef⟩ := guardS ef
    cases ef
    simp only [Bool.and_eq_true, decide_eq_true_eq] at c
    refine ⟨E, B, env, q.1, q.2, r, e1, fun vs B' H' r' s' z => ?_⟩
    rw [hj] at z
    obtain ⟨u, rr, rfl, z1, z2⟩ := z
    cases z2
    cases (show Rep B' u (.int j) from z1)
    exact ⟨j, rfl, c.1, c.2, k _ B' H' r' s' (itr 0 _)⟩
  · cases ef
theorem i_range2 {X : Cx} {tg a b : Expr} {f : Ev (List Opd)} {p pos : Pos} (hg : Gl X "range") (hm : X.mg "range" = none) (ha : PA X [a, b] (tA X.K f)) (hs : starEach [a, b] X.env = [(false, eval a X.env), (false, eval b X.env)] := by rfl)
    (hs2 : starEach [b] X.env = [(false, eval b X.env)] := by rfl) : PI X tg (.Call (.Name "range" p) [a, b] [] pos) (tIt X.K (itRange2 f)) := piImp (pi_range2 hg hm ha hs hs2) fun σ H R ⟨E, B, env, ds, env', r, ef, k⟩ => by
  obtain ⟨q, e1, ef⟩ := bindS (show (f env).bind _ = _ from ef)
  split at ef
  · rename_i i j hj
    obtain ⟨c, ef⟩ := guardS ef
    cases ef
    simp only [Bool.and_eq_true, decide_eq_true_eq] at c
    refine ⟨E, B, env, q.1, q.2, r, e1, fun vs B' H' r' s' z => ?_⟩
    rw [hj] at z
    obtain ⟨u, rr, rfl, z1, u', rr', rfl, z1', z2⟩ := z
    cases z2
    cases (show Rep B' u (.int i) from z1)
    cases (show Rep B' u' (.int j) from z1')
    exact ⟨i, j, rfl, ⟨c.1.1.1, c.1.1.2, c.1.2, c.2⟩, k _ B' H' r' s' (itr i _)⟩
  · cases ef
end
end NS

set_option Elab.async false
set_option linter.all false
set_option maxRecDepth 100000
set_option maxHeartbeats 4000000
/-! NsE: list comprehensions, calls of defs of the text. -/
namespace NS
open PySem L2 NT
variable [W : NT.Wd]
/-! ### slots forgotten, slots as they were -/
def wipeE (env : Env) : List Nat → Env
  | [] => env
  | v :: vs => (wipeE env vs).set v none
theorem wipeE_len (env : Env) : ∀ vs : List Nat, (wipeE env vs).length = env.length
  | [] => rfl
  | v :: vs => by unfold wipeE; rw [List.length_set, wipeE_len env vs]
theorem wipe_in (σ : L2.St) : ∀ (vs : List Nat) (j : Nat), j ∈ vs → j < σ.length → (wipe σ vs)[j]? = some none
  | [], _, h, _ => by simp at h
  | v :: vs, j, h, hl => by
    unfold wipe
    by_cases e : v = j
    · subst e
      exact List.getElem?_set_self (by rw [wipe_length]; exact hl)
    · rw [List.getElem?_set_ne e]
      refine wipe_in σ vs j ?_ hl
      rcases List.mem_cons.mp h with z | z
      · exact absurd z.symm e
      · exact z
theorem wipe_not (σ : L2.St) : ∀ (vs : List Nat) (j : Nat), j ∉ vs → (wipe σ vs)[j]? = σ[j]?
  | [], _, _ => rfl
  | v :: vs, j, h => by
    simp only [List.mem_cons, not_or] at h
    unfold wipe
    rw [List.getElem?_set_ne (Ne.symm h.1)]
    exact wipe_not σ vs j h.2
theorem wipeE_in (env : Env) : ∀ (vs : List Nat) (j : Nat), j ∈ vs → ∀ ov, (wipeE env vs)[j]? ≠ some (some ov)
  | [], _, h, _ => by simp at h
  | v :: vs, j, h, ov => by
    unfold wipeE
    by_cases e : v = j
    · subst e
      by_cases hl : v < (wipeE env vs).length
      · rw [List.getElem?_set_self hl]; intro z; cases z
      · rw [List.getElem?_eq_none (by simpa using hl)]; intro z; cases z
    · rw [List.getElem?_set_ne e]
      refine wipeE_in env vs j ?_ ov
      rcases List.mem_cons.mp h with z | z
      · exact absurd z.symm e
      · exact z
theorem wipeE_not (env : Env) : ∀ (vs : List Nat) (j : Nat), j ∉ vs → (wipeE env vs)[j]? = env[j]?
  | [], _, _ => rfl
  | v :: vs, j, h => by
    simp only [List.mem_cons, not_or] at h
    unfold wipeE
    rw [List.getElem?_set_ne (Ne.symm h.1)]
    exact wipeE_not env vs j h.2
theorem wipe_same {σ σ' : L2.St} {vs us : List Nat} (h : Keeps σ σ' us) (hs : ∀ j ∈ us, j ∈ vs) : wipe σ' vs = wipe σ vs := by
  refine List.ext_getElem? fun j => ?_
  by_cases hj : j ∈ vs
  · by_cases hl : j < σ.length
    · rw [wipe_in σ vs j hj hl, wipe_in σ' vs j hj (by rw [h.1]; exact hl)]
    · have z1 : (wipe σ vs)[j]? = none := List.getElem?_eq_none (by rw [wipe_length σ vs]; omega)
      have z2 : (wipe σ' vs)[j]? = none := List.getElem?_eq_none (by rw [wipe_length σ' vs, h.1]; omega)
      rw [z1, z2]
  · rw [wipe_not σ vs j hj, wipe_not σ' vs j hj]
    exact h.2 j fun z => hj (hs j z)
theorem wipe_twice (σ : L2.St) (vs : List Nat) : wipe (wipe σ vs) vs = wipe σ vs :=
  wipe_same (us := vs) ⟨wipe_length σ vs, fun j hj => wipe_not σ vs j hj⟩ fun _ h => h
/-- behind a comprehension: its own slots as they were ahead -/
def backE (ahead behind : Env) : List Nat → Env
  | [] => behind
  | v :: vs => match ahead[v]? with
    | some o => (backE ahead behind vs).set v o
    | none => backE ahead behind vs
theorem backE_len (a b : Env) : ∀ vs : List Nat, (backE a b vs).length = b.length
  | [] => rfl
  | v :: vs => by
    unfold backE
    split
    · rw [List.length_set, backE_len a b vs]
    · exact backE_len a b vs
theorem backE_get (a b : Env) (hab : a.length = b.length) : ∀ (vs : List Nat) (j : Nat), (backE a b vs)[j]? = if j ∈ vs then a[j]? else b[j]?
  | [], j => by simp [backE]
  | v :: vs, j => by
    have ih := backE_get a b hab vs
    unfold backE
    split
    · rename_i o ho
      by_cases e : v = j
      · subst e
        have hl : v < (backE a b vs).length := by rw [backE_len, ← hab]; exact (List.getElem?_eq_some_iff.mp ho).1
        rw [List.getElem?_set_self hl, if_pos (by simp), ho]
      · rw [List.getElem?_set_ne e, ih j]
        by_cases hj : j ∈ vs
        · rw [if_pos hj, if_pos (by simp [hj])]
        · rw [if_neg hj, if_neg (by simp [hj, Ne.symm e])]
    · rename_i ho
      rw [ih j]
      by_cases e : v = j
      · subst e
        rw [if_pos (show v ∈ v :: vs by simp)]
        by_cases hj : v ∈ vs
        · rw [if_pos hj]
        · rw [if_neg hj, ho]
          refine List.getElem?_eq_none ?_
          rw [← hab]
          exact List.getElem?_eq_none_iff.mp ho
      · by_cases hj : j ∈ vs
        · rw [if_pos hj, if_pos (by simp [hj])]
        · rw [if_neg hj, if_neg (by simp [hj, Ne.symm e])]
def OV.plain : OV → Bool
  | .fz _ => true
  | .scr _ => true
  | _ => false
def plainAt (env : Env) (vs : List Nat) : Bool := vs.all fun v => match env[v]? with
  | some (some ov) => ov.plain
  | _ => true

/-! ### [elt for target in iter if ..] -/
def condsE : List (Ev Bool) → Ev Bool
  | [] => fun env => some (true, env)
  | f :: _ => f
def lcGo (tg : Tg) (cond : Ev Bool) (elt : Ev D) (own : List Nat) : List D → Env → List D → Option (List D × Env)
  | [], env, acc => some (acc, env)
  | d :: ds, env, acc => (tgE tg d env).bind fun e1 => (cond e1).bind fun p => if p.1 = true then (elt p.2).bind fun q => guardO (decide (acc.length < 1000000)) (lcGo tg cond elt own ds (wipeE q.2 own) (acc ++ [q.1])) else lcGo tg cond elt own ds (wipeE p.2 own) acc
def lcR (it : Ev (List D)) (tg : Tg) (cond : Ev Bool) (elt : Ev D) (own : List Nat) : Ev Res := fun env => (it env).bind fun p => guardO (plainAt p.2 own && tg.slots.all fun j => own.contains j) ((lcGo tg cond elt own p.1 (wipeE p.2 own) []).bind fun q => some (.l q.1, backE p.2 q.2 own))
theorem lcLine {n : Nat} (h : n < 1000000) : n < sizeLine := by rw [sizeLine_eq]; omega
theorem tLcI {K : PySem.W.Frag} {it : Ev (List D)} {tg : Tg} {cond : Ev Bool} {elt : Ev D} {own : List Nat} (σ : L2.St) (H : Hp) (Q : VK) (h : tR K (lcR it tg cond elt own) σ H Q) : tLc (tIt K it) (tgT K tg) (tT K cond) (tE K elt) own σ H Q := by
  obtain ⟨E, B, env, res, env', r, ef, k⟩ := h
  obtain ⟨p, e1, ef⟩ := bindS ef
  obtain ⟨hp, ef⟩ := guardS ef
  obtain ⟨q, e2, ef⟩ := bindS ef
  cases ef
  simp only [Bool.and_eq_true] at hp
  obtain ⟨hp, hsl⟩ := hp
  have hsl' : ∀ j ∈ tg.slots, j ∈ own := fun j hj => by simpa using List.all_eq_true.mp hsl j hj
  refine ⟨E, B, env, p.1, p.2, r, e1, fun J B1 H1 r1 s1 hJ L hL => ?_⟩
  -- the block's slots
  have r2 : RR K E B1 H1 (wipe σ own) (wipeE p.2 own) := r1.less (by rw [wipe_length, wipeE_len]; exact r1.len) fun i ov e => by
    have hi : i ∉ own := fun hi => wipeE_in p.2 own i hi ov e
    rw [wipeE_not p.2 own i hi] at e
    exact ⟨e, wipe_not σ own i hi⟩
  have nL : B1 L = none := r1.bh.off hL
  refine ⟨fun i m H2 => m = p.1.length - i ∧ i ≤ p.1.length ∧ ∃ B2 env2 acc vacc, RR K E B2 H2 (wipe σ own) env2 ∧ Sub B1 B2 ∧ lcGo tg cond elt own (p.1.drop i) env2 acc = some (q.1, q.2) ∧ H2 L = some (.lst vacc) ∧ Reps B2 vacc acc ∧ B2 L = none ∧ (∀ j, ¬ Own (wipe σ own) env2 j L),
    ⟨p.1.length, by simp, Nat.zero_le _, B1, wipeE p.2 own, [], [], ?_, Sub.rfl', e2, upd_same, .nil, nL, fun j ⟨ov, w1, w2, w3⟩ => ?_⟩, ?_⟩
  · exact r2.grow (Grow.heap r2.bh hL)
  · obtain ⟨a, o, k1, k2, _⟩ := r2.owns w1 w2
    rw [w3] at k1; cases k1
    rw [hL] at k2; cases k2
  rintro i m H2 ⟨rfl, hi, B2, env2, acc, vacc, r3, s3, eg, hH, rep, nB, nO⟩
  have hE : E.H0 L = none := r1.off hL
  have ext := hJ i B2 H2 s3 r3.bh
  by_cases hlt : i < p.1.length
  · obtain ⟨d, hd⟩ : ∃ d, p.1[i]? = some d := ⟨_, List.getElem?_eq_getElem hlt⟩
    have hdr : p.1.drop i = d :: p.1.drop (i + 1) := by
      rw [List.drop_eq_getElem_cons hlt]
      rw [List.getElem?_eq_getElem hlt] at hd
      cases hd
      rfl
    rw [hdr] at eg
    obtain ⟨go, yl⟩ := ext.1 d hd
    refine .inr ⟨go, fun H' => i + 1 ≤ p.1.length ∧ ∃ B2 env2 acc vacc, RR K E B2 H' (wipe σ own) env2 ∧ Sub B1 B2 ∧ lcGo tg cond elt own (p.1.drop (i + 1)) env2 acc = some (q.1, q.2) ∧ H' L = some (.lst vacc) ∧ Reps B2 vacc acc ∧ B2 L = none ∧ (∀ j, ¬ Own (wipe σ own) env2 j L),
      fun H' w => ⟨p.1.length - (i + 1), by omega, rfl, w⟩, fun x H' hy => ?_⟩
    obtain ⟨B4, g4, rx⟩ := yl x H' hy
    obtain ⟨ea, t1, eg⟩ := bindS (show (tgE tg d env2).bind _ = _ from eg)
    obtain ⟨pc, t2, eg⟩ := bindS eg
    -- all of the turn from its own begin
    have far : ∀ {B' H' : Hp} {σ' : L2.St} {env' : Env}, RR K (loc B2 H2 (wipe σ own) env2) B' H' σ' env' → H' L = some (.lst vacc) ∧ B' L = none ∧ ∀ j, ¬ Own σ' env' j L := fun {B' H' σ' env'} z => by
      refine ⟨z.keep L _ hH (fun ⟨j, w⟩ => nO j w) (by intro _ z; cases z), ?_, fun j w => ?_⟩
      · cases e : B' L with
        | none => rfl
        | some u =>
          rcases z.new L u e with y | y | ⟨j, ov, y1, y2, _, y4⟩
          · rw [show (loc B2 H2 (wipe σ own) env2).B0 L = B2 L from rfl, nB] at y; cases y
          · rw [show (loc B2 H2 (wipe σ own) env2).H0 L = H2 L from rfl, hH] at y; cases y
          · exact absurd ⟨ov, y1, y2, y4⟩ (nO j)
      · rcases z.own j L w with ⟨j', y⟩ | y
        · exact nO j' y
        · rw [show (loc B2 H2 (wipe σ own) env2).H0 L = H2 L from rfl, hH] at y; cases y
    refine tgI K tg d x (wipe σ own) env2 ea _ (r3.loc.grow g4) rx t1 fun σ5 r5 kp => ?_
    have hw : wipe σ5 own = wipe σ own := by
      rw [wipe_same kp hsl']
      exact wipe_twice σ own
    have back : ∀ {B' H' : Hp} {env' : Env}, RR K E B' H' σ5 env' → RR K E B' H' (wipe σ own) (wipeE env' own) := fun {B' H' env'} z => z.less (by rw [← hw, wipe_length, wipeE_len]; exact z.len) fun j ov e => by
      have hj : j ∉ own := fun hj => wipeE_in env' own j hj ov e
      rw [wipeE_not env' own j hj] at e
      refine ⟨e, ?_⟩
      rw [← hw]
      exact wipe_not σ5 own j hj
    have backO : ∀ {env' : Env}, (∀ j, ¬ Own σ5 env' j L) → ∀ j, ¬ Own (wipe σ own) (wipeE env' own) j L := fun {env'} z j ⟨ov, y1, y2, y3⟩ => by
      have hj : j ∉ own := fun hj => wipeE_in env' own j hj ov y1
      rw [wipeE_not env' own j hj] at y1
      rw [← hw, wipe_not σ5 own j hj] at y3
      exact z j ⟨ov, y1, y2, y3⟩
    refine ⟨hw, ?_⟩
    refine ⟨_, B4, ea, pc.1, pc.2, r5, t2, fun B5 H5 r6 s6 => ?_⟩
    split at eg
    · rename_i hc
      rw [if_pos hc]
      obtain ⟨qe, t3, eg⟩ := bindS eg
      obtain ⟨hsz, eg⟩ := guardS eg
      refine ⟨_, B5, pc.2, qe.1, qe.2, r6, t3, fun y B6 H6 r7 s7 ry => ?_⟩
      obtain ⟨f1, f2, f3⟩ := far r7
      have hlen : vacc.length < sizeLine := by rw [rep.len]; exact lcLine (of_decide_eq_true hsz)
      refine ⟨vacc, f1, hlen, hlt, B6, wipeE qe.2 own, acc ++ [qe.1], vacc ++ [y], back ((r3.comp r7).aside f2 hE f3 ⟨_, f1, lst_apart⟩), s3.tr (g4.bb.tr (s6.tr s7)), eg, upd_same, (rep.mono (g4.bb.tr (s6.tr s7))).app (.one ry), f2, backO f3⟩
    · rename_i hc
      rw [if_neg hc]
      obtain ⟨f1, f2, f3⟩ := far r6
      exact ⟨hlt, B5, wipeE pc.2 own, acc, vacc, back (r3.comp r6), s3.tr (g4.bb.tr s6), eg, f1, rep.mono (g4.bb.tr s6), f2, backO f3⟩
  · have hie : i = p.1.length := by omega
    subst hie
    rw [List.drop_length] at eg
    have eg' : some (acc, env2) = some (q.1, q.2) := eg
    cases eg'
    refine .inl ⟨ext.2 (Nat.le_refl _), ?_⟩
    have hlb : p.2.length = q.2.length := by
      have h1 := r1.len
      have h2 := r3.len
      rw [wipe_length] at h2
      omega
    have look : ∀ (j : Nat) (ov : OV), (backE p.2 q.2 own)[j]? = some (some ov) → (j ∈ own ∧ p.2[j]? = some (some ov) ∧ ov.plain = true) ∨ (j ∉ own ∧ q.2[j]? = some (some ov)) := fun j ov e => by
      rw [backE_get p.2 q.2 hlb] at e
      by_cases hj : j ∈ own
      · rw [if_pos hj] at e
        refine .inl ⟨hj, e, ?_⟩
        have z := List.all_eq_true.mp hp j hj
        rw [e] at z
        simpa using z
      · rw [if_neg hj] at e
        exact .inr ⟨hj, e⟩
    have lookO : ∀ j a, Own σ (backE p.2 q.2 own) j a → j ∉ own ∧ Own (wipe σ own) q.2 j a := fun j a ⟨ov, e, w, z⟩ => by
      rcases look j ov e with ⟨_, _, n⟩ | ⟨hj, e'⟩
      · cases ov <;> first | (cases w; done) | (cases n; done)
      · exact ⟨hj, ov, e', w, by rw [wipe_not σ own j hj]; exact z⟩
    have rr : RR K E B2 H2 σ (backE p.2 q.2 own) := by
      refine ⟨r3.bh, r3.b0, r3.zi, r3.keep, r3.tb, r3.there, r3.new, by rw [backE_len, ← hlb]; exact r1.len, fun j ov e => ?_, fun j a w => r3.own j a (lookO j a w).2, fun j a ov e w wi z => ?_, fun j j' a w w' => r3.inj j j' a (lookO j a w).2 (lookO j' a w').2, fun j ov e w => ?_⟩
      · rcases look j ov e with ⟨hj, e', n⟩ | ⟨hj, e'⟩
        · obtain ⟨v, z, ok⟩ := r1.slot j ov e'
          refine ⟨v, z, ?_⟩
          cases ov with
          | fn F => cases n
          | fz d => exact Rep.mono s3 ok
          | scr ns => obtain ⟨c, c1, c2⟩ := ok; exact ⟨c, c1, sqlSub s3 c2⟩
          | ol _ _ => cases n
          | od _ _ => cases n
        · obtain ⟨v, z, ok⟩ := r3.slot j ov e'
          rw [wipe_not σ own j hj] at z
          exact ⟨v, z, ok⟩
      · rcases look j ov e with ⟨hj, e', n⟩ | ⟨hj, e'⟩
        · cases ov <;> first | (cases w; done) | (cases n; done)
        · exact r3.ownz j a ov e' w wi (by rw [wipe_not σ own j hj]; exact z)
      · rcases look j ov e with ⟨hj, e', n⟩ | ⟨hj, e'⟩
        · cases ov with
          | fn F => cases w
          | fz d => cases w
          | scr ns => cases w
          | ol _ _ => cases n
          | od _ _ => cases n
        · have z := r3.ios j ov e' w
          rw [wipe_not σ own j hj] at z
          exact z
    exact k (.ref L) B2 H2 rr (s1.tr s3) ⟨L, _, rfl, hH, ⟨vacc, rfl, rep⟩, nB, fun j w => nO j (lookO j L w).2, .inl hE⟩
theorem e_lc {X : Cx} {elt tg iter : Expr} {ifs : List Expr} {scope : Scope} {own : List (Str × Nat)} {pos : Pos} {it : Ev (List D)} {tgt : Tg} {fc : Ev Bool} {fe : Ev D} (hc : X.calm = true) (hN : X.N.Nodup) (hi : PI X tg iter (tIt X.K it)) (ok : BlkOk X.N X.env.scope scope own)
    (hg : ∀ (s : Shared) (H : Hp) (C : Addr) (cl : List (Str × Addr)) (fp : List Addr), PG (X.blk s H scope (compEnvC scope cl C X.env) fp) tg (tgT X.K tgt))
    (ht : ∀ (s : Shared) (H : Hp) (C : Addr) (cl : List (Str × Addr)) (fp : List Addr), PTs (X.blk s H scope (compEnvC scope cl C X.env) fp) ifs (tT X.K fc))
    (he : ∀ (s : Shared) (H : Hp) (C : Addr) (cl : List (Str × Addr)) (fp : List Addr), PE (X.blk s H scope (compEnvC scope cl C X.env) fp) elt (tE X.K fe)) (hs : ∀ x, foldedSetIterable iter X.env x = pure x := by intro _; rfl) :
    PE X (.ListComp elt [⟨tg, iter, ifs, 0⟩] scope pos) (tR X.K (lcR it tgt fc fe (own.map (·.2)))) := peImp (pe_lc hc hN hi ok hg ht he hs) tLcI
def yesT : Ev Bool := fun env => some (true, env)
theorem ts_nil {X : Cx} : PTs X [] (tT X.K yesT) := ⟨fun pins s σ H Q I ⟨E, B, env, x, env', r, ef, k⟩ => pts_nil.run pins s σ H Q I (by
  cases ef
  exact k B H r Sub.rfl')⟩
theorem ts_one {X : Cx} {c : Expr} {f : Ev Bool} (h : PT X c (tT X.K f)) : PTs X [c] (tT X.K f) := pts_one h
end NS

set_option Elab.async false
set_option linter.all false
set_option maxRecDepth 100000
set_option maxHeartbeats 4000000
/-! NsF: defs of the text: what they promise, their calls. -/
namespace NS
open PySem L2 PyProof.Rows NT
variable [W : NT.Wd]
/-- a def's promise where no text of an object is under way -/
structure FnG (P : Program) (w : World) (K : PySem.W.Frag) (mg : Str → Option Value) (base : Heap) (CX : CXT) (k : Nat) (f : Addr) (fd : FuncData) (ps : List Str) (sp : Sp) : Prop where
  len : ∀ vs H Q E, sp vs H Q E → vs.length = ps.length
  run : ∀ (A : Around) (outer : List PySem.Env) (s : Shared) (H : Hp) (args : Args) (us : List Value) (vs : List V) (Q : VK) (E : XK), A.guards = some [] → Room k A → Env0 P w K mg base A outer s H → BindsTo s fd args (ps.zip us) → Vals vs us → sp vs H Q E →
    codeAny (model P w) A (.call (.ref f) args) (CR CX outer P w H s Q E) s
theorem FnG.up {P : Program} {w : World} {K : PySem.W.Frag} {mg : Str → Option Value} {base : Heap} {CX : CXT} {j k : Nat} {f : Addr} {fd : FuncData} {ps : List Str} {sp : Sp} (F : FnG P w K mg base CX j f fd ps sp) (h : j ≤ k) : FnG P w K mg base CX k f fd ps sp :=
  ⟨F.len, fun A outer s H args us vs Q E hg hr => F.run A outer s H args us vs Q E hg (hr.mono h)⟩
section
variable {X : Cx} {CX : CXT} {k : Nat} {f C : Addr} {fd : FuncData} {ps : List Str} {sp : Sp} {E : XK} {x m : Str} {p pos apos : Pos} {e o : Expr} {es : List Expr} {ta : TE} {t : TA}
theorem runG {pins : List (Addr × Obj)} {σ : L2.St} {H : Hp} {s : Shared} {Q : VK} {us : List Value} {vs : List V} (F : FnG X.prog X.w X.K X.mg X.base CX k f fd ps sp) (hgd : X.A.guards = some []) (hr : Room k X.A) (hb : Binds X.K fd ps []) (hx : Passes CX X E)
    (I : Inv X pins σ H s) (r : Vals vs us) (h : sp vs H Q E) : wpAny (model X.prog X.w) X.A (call (.ref f) us) (EP X pins σ Q) X.xe s := by
  have hl : (us ++ []).length = ps.length := by rw [List.append_nil, ← r.length]; exact F.len _ _ _ _ h
  have hbb := hb s us I.kIn hl
  rw [List.append_nil] at hbb
  refine wpAny_call (codeAny_mono (F.run X.A X.stack s H ⟨us, []⟩ us vs Q E hgd hr I.env0 hbb r h) fun rs s' hq => ?_)
  cases rs with
  | error e => exact hx pins σ H s e s' I hq
  | ok fl =>
    cases fl with
    | ret u => exact I.after hq
    | next => exact False.elim hq
    | brk => exact False.elim hq
    | cont => exact False.elim hq
theorem callG (F : FnG X.prog X.w X.K X.mg X.base CX k f fd ps sp) (hgd : X.A.guards = some []) (hr : Room k X.A) (hg : Gl X x) (hm : X.mg x = some (.ref f)) (hk : PySem.W.keepIn X.K (.ref f) = true) (hb : Binds X.K fd ps []) (hx : Passes CX X E)
    (ha : PA X (e :: es) t) (hdb : (x == ("__debug__" : Str)) = false := by decide) (he : starEach (e :: es) X.env = (false, eval e X.env) :: starEach es X.env := by rfl) (hpl : (backTo pos (starEach es X.env)).any (·.1) = false := by rfl) :
    PE X (.Call (.Name x p) (e :: es) [] pos) (tCall sp [] E t) := by
  constructor
  intro pins s σ H Q I h
  refine wpAny_Call_Name_kw (ld_glob I hg hm ?_ hdb)
  refine PySem.W.callWith_K (h₀ := X.base) I.ok.mod.kin hk (thn (ha.run pos pins s σ H _ I h) fun us s1 ⟨vs, H1, I1, r, q⟩ => ⟨I1.kIn, ?_⟩) he hpl
  have q' : sp (vs ++ []) H1 Q E := q
  rw [List.append_nil] at q'
  exact runG F hgd hr hb hx I1 r q'
theorem callG0 (F : FnG X.prog X.w X.K X.mg X.base CX k f fd ps sp) (hgd : X.A.guards = some []) (hr : Room k X.A) (hg : Gl X x) (hm : X.mg x = some (.ref f)) (hk : PySem.W.keepIn X.K (.ref f) = true) (hb : Binds X.K fd ps []) (hx : Passes CX X E)
    (hdb : (x == ("__debug__" : Str)) = false := by decide) : PE X (.Call (.Name x p) [] [] pos) (tCall sp [] E tNil) := by
  constructor
  intro pins s σ H Q I h
  refine wpAny_Call_Name_kw (ld_glob I hg hm ?_ hdb)
  exact PySem.W.callWith_K0 I.kIn hk (runG (us := []) F hgd hr hb hx I .nil h)
end
/-- a def of the text by its body -/
theorem fnG_of {CX : CXT} {P : Program} {w : World} {K : PySem.W.Frag} {mg : Str → Option Value} {base : Heap} {k : Nat} {f : Addr} {name qual : Str} {params : Arguments} {body : List Stmt} {scope : Scope} {dV kV doc pm cdv ct oc : Value} {an od : Option Addr}
    {osl : Array (Option Value)} {N ps : List Str} {sp : Sp} (lk : K.lookup f = some ⟨oc, od, .func (PySem.W.fnOf name qual params body scope dV kV doc pm an cdv ct), osl⟩) (hcd : PySem.W.codeIn K cdv qual = true) (S : FnScope N ps scope)
    (len : ∀ vs H Q E, sp vs H Q E → vs.length = ps.length)
    (hbody : ∀ (A : Around) (outer : List PySem.Env) (s : Shared) (H : Hp) (vs : List V) (Q : VK) (E : XK), A.guards = some [] → Room k (A.deeper (envOfC qual scope s.heap.objs.size f cdv)) → sp vs H Q E →
      ∃ t, PSs (cxOf CX P w K mg base N qual scope f cdv A outer s H E) body t ∧ t { nx := fun _ H' => Q .non H', rt := Q } (start N vs) H) :
    FnG P w K mg base CX (k + 1) f (PySem.W.fnOf name qual params body scope dV kV doc pm an cdv ct) ps sp := by
  refine ⟨len, fun A outer s H args us vs Q E hgd hr e0 hb r hsp => ?_⟩
  have hl := len _ _ _ _ hsp
  have KX : K.In s.heap := e0.mod.kin.keeps fun b o e => (e0.bs b o e).1
  have lim : s.heap.NoLimit := e0.mod.nolimit.keeps fun b o e => (e0.bs b o e).1
  have hkind : ∀ y ∈ ps.zip us, scope.names.lookup y.1 = some .local ∨ (scope.names.lookup y.1 = some .cell ∧ ((cellsFrom (s.heap.objs.size + 1) scope.names []).lookup y.1).isSome = true) := fun ⟨n, v⟩ hy => by
    rcases S.par n (List.of_mem_zip hy).1 with q | q
    · exact .inl q
    · exact .inr ⟨q, PySem.W.cellsFrom_some _ _ _ (.inl q)⟩
  refine codeAny_call_function hr.depth (KX _ _ lk) rfl S.co S.gen rfl (PySem.W.codeRec_of KX hcd) (hb _ _ _ _ ?_)
  refine wpAny_newFunctionEnv_cells S.kind hkind fun env he s1 x => ?_
  subst he
  refine ⟨lim.keeps x.toInCall.keep, codeAny_func ?_⟩
  obtain ⟨t, ht, hq⟩ := hbody A outer s H vs Q E hgd (hr.deeper _) hsp
  have I : Inv (cxOf CX P w K mg base N qual scope f cdv A outer s H E) [] (start N vs) H s1 := inv_start S hr.hd e0 hl r x
  refine wpAny_mono (ht.run [] s1 (start N vs) H _ I hq) (fun fl s' hs => ?_) fun e s' hs => hs
  have fin : ∀ {σ' : L2.St} {H' : Hp} {v : V} {u : Value}, Inv (cxOf CX P w K mg base N qual scope f cdv A outer s H E) [] σ' H' s' → RelV v u → Q v H' → CE outer P w H s Q u s' :=
    fun {σ' H' v u} J rv q => ⟨v, H', J.os, J.bare, J.base, J.hok, rv, q⟩
  cases fl with
  | ret u =>
    obtain ⟨v, σ', H', J, rv, q⟩ := hs
    exact fin J rv q
  | next =>
    obtain ⟨σ', H', J, q⟩ := hs
    exact fin (v := V.non) (u := Value.none) J rfl q
  | brk =>
    obtain ⟨_, _, _, q⟩ := hs
    exact False.elim q
  | cont =>
    obtain ⟨_, _, _, q⟩ := hs
    exact False.elim q
theorem Fun.okG {P : Program} {w : World} {K : PySem.W.Frag} {mg : Str → Option Value} {base : Heap} {x qual : Str} {st : Stmt} {f : Addr} {fd : FuncData} {N ps : List Str} {k : Nat} {sp : Sp} (F : L2.Fun K x qual st f fd) (S : FnScope N ps (defScope st)) (len : ∀ vs H Q E, sp vs H Q E → vs.length = ps.length)
    (hbody : ∀ (cdv : Value) (A : Around) (outer : List PySem.Env) (s : Shared) (H : Hp) (vs : List V) (Q : VK) (E : XK), A.guards = some [] → Room k (A.deeper (envOfC qual (defScope st) s.heap.objs.size f cdv)) → sp vs H Q E →
      ∃ t, PSs (cxOf CX0 P w K mg base N qual (defScope st) f cdv A outer s H E).nox (defBody st) t ∧ t { nx := fun _ H' => Q .non H', rt := Q } (start N vs) H) : FnG P w K mg base CX0 (k + 1) f fd ps sp := by
  obtain ⟨oc, od, kV, doc, pm, an, cdv, ct, osl, rfl, lk, hcd⟩ := F.ex
  refine fnG_of lk hcd S len fun A outer s H vs Q E hg hr hsp => ?_
  obtain ⟨t, h, q⟩ := hbody cdv A outer s H vs Q E hg hr hsp
  exact ⟨t, h.nox, q⟩

/-! ### a def of trees -/
def noR : List Opd → Bool
  | [] => true
  | .r _ :: _ => false
  | _ :: xs => noR xs
theorem opvs_any {K : PySem.W.Frag} {B : Hp} {σ σ' : L2.St} : ∀ {xs : List Opd} {us : List V}, noR xs = true → OpVs K B σ xs us → OpVs K B σ' xs us
  | [], _, _, h => h
  | .v _ :: xs, _, n, ⟨u, r, e, h, k⟩ => ⟨u, r, e, h, opvs_any (xs := xs) n k⟩
  | .s _ :: xs, _, n, ⟨u, r, e, h, k⟩ => ⟨u, r, e, h, opvs_any (xs := xs) n k⟩
  | .r _ :: xs, _, n, _ => nomatch n
theorem opvs_len {K : PySem.W.Frag} {B : Hp} {σ : L2.St} : ∀ {xs : List Opd} {us : List V}, OpVs K B σ xs us → us.length = xs.length
  | [], _, h => by cases h; rfl
  | _ :: xs, _, ⟨u, r, e, h, k⟩ => by subst e; simp [opvs_len k]
/-- g of the arguments, which nobody changes -/
def spT (K : PySem.W.Frag) (n : Nat) (g : List Opd → Option Res) : Sp := fun vs H Q _ => ∃ B avs res, Sub B H ∧ TabsK K B H ∧ noR avs = true ∧ avs.length = n ∧ OpVs K B [] avs vs ∧ g avs = some res ∧ ∀ v B' H', GrowC K B H B' H' → NewV B H H' B' res v → Q v H'
theorem spT_len {K : PySem.W.Frag} {n : Nat} {g : List Opd → Option Res} : ∀ vs H Q E, spT K n g vs H Q E → vs.length = n := fun vs H Q E ⟨B, avs, res, _, _, _, h, o, _⟩ => by rw [opvs_len o, h]
def callT (n : Nat) (g : List Opd → Option Res) (f : Ev (List Opd)) : Ev Res := fun env => (f env).bind fun p => guardO (noR p.1 && p.1.length == n) ((g p.1).bind fun r => some (r, p.2))
theorem tCallT {K : PySem.W.Frag} {n : Nat} {g : List Opd → Option Res} {fa : Ev (List Opd)} (σ : L2.St) (H : Hp) (Q : VK) (h : tR K (callT n g fa) σ H Q) : tCall (spT K n g) [] E0 (tA K fa) σ H Q := by
  obtain ⟨E, B, env, res, env', r, ef, kk⟩ := h
  obtain ⟨q, e1, ef⟩ := bindS ef
  obtain ⟨hn, ef⟩ := guardS ef
  obtain ⟨rs, e2, ef⟩ := bindS ef
  cases ef
  simp only [Bool.and_eq_true, beq_iff_eq] at hn
  refine ⟨E, B, env, q.1, q.2, r, e1, fun vs B' H' r' s' z => ?_⟩
  show spT K n g (vs ++ []) H' Q E0
  rw [List.append_nil]
  exact ⟨B', q.1, _, r'.bh, r'.tb, hn.1, hn.2, opvs_any hn.1 z, e2, fun v B4 H4 gr nw => kk v B4 H4 (r'.growC gr) (s'.tr gr.bb) (nw.res r')⟩
section
variable {X : Cx} {k n : Nat} {f : Addr} {fd : FuncData} {ps : List Str} {x : Str} {p pos : Pos} {e : Expr} {es : List Expr} {g : List Opd → Option Res} {fa : Ev (List Opd)}
theorem e_callT (F : FnG X.prog X.w X.K X.mg X.base CX0 k f fd ps (spT X.K n g)) (hgd : X.A.guards = some []) (hr : Room k X.A) (hg : Gl X x) (hm : X.mg x = some (.ref f)) (hk : PySem.W.keepIn X.K (.ref f) = true) (hb : Binds X.K fd ps [])
    (ha : PA X (e :: es) (tA X.K fa)) (hdb : (x == ("__debug__" : Str)) = false := by decide) (he : starEach (e :: es) X.env = (false, eval e X.env) :: starEach es X.env := by rfl) (hpl : (backTo pos (starEach es X.env)).any (·.1) = false := by rfl) :
    PE X (.Call (.Name x p) (e :: es) [] pos) (tR X.K (callT n g fa)) := peImp (callG F hgd hr hg hm hk hb pass0 ha hdb he hpl) tCallT
end

/-! ### a def whose first argument it may change -/
def OV.setIo (b : Bool) : OV → OV
  | .ol _ ds => .ol b ds
  | .od _ kvs => .od b kvs
  | ov => ov
theorem OwnO.setIo {B : Hp} {a : Addr} {b : Bool} {ov : OV} {o : HO} (h : OwnO B a ov o) : OwnO B a (ov.setIo b) o := by
  cases ov <;> first | exact h | exact False.elim h
theorem OwnO.io_eq {B : Hp} {a : Addr} {b : Bool} {ov : OV} {o : HO} (h : OwnO B a ov o) : (ov.setIo b).io = b := by
  cases ov <;> first | rfl | exact False.elim h
/-- behind such a call -/
structure Aft (K : PySem.W.Frag) (a : Addr) (B H B' H' : Hp) : Prop where
  bb : Sub B B'
  bh : Sub B' H'
  keep : ∀ b o, H b = some o → b ≠ a → (∀ ps, o ≠ .tbl ps) → H' b = some o
  dom : ∀ b, H b ≠ none → H' b ≠ none
  tb : TabsK K B' H'
  new : ∀ b o, B' b = some o → B b = some o ∨ H b = none
/-- a result that is new -/
def NewA (H H' B' : Hp) : Res → V → Prop
  | .d d, u => Rep B' u d
  | r, u => ∃ p o, u = .ref p ∧ H p = none ∧ H' p = some o ∧ OwnO B' p r.ov o ∧ B' p = none
def spU (K : PySem.W.Frag) (n : Nat) (g : OV → List Opd → Option (Res × OV)) : Sp := fun vs H Q _ => ∃ B a o ov avs rest res ov', Sub B H ∧ TabsK K B H ∧ vs = V.ref a :: rest ∧ H a = some o ∧ OwnO B a ov o ∧ B a = none ∧ noR avs = true ∧ avs.length + 1 = n ∧ OpVs K B [] avs rest ∧ g ov avs = some (res, ov') ∧
  ∀ v B' H' o', Aft K a B H B' H' → H' a = some o' → OwnO B' a ov' o' → B' a = none → NewA H H' B' res v → Q v H'
theorem spU_len {K : PySem.W.Frag} {n : Nat} {g : OV → List Opd → Option (Res × OV)} : ∀ vs H Q E, spU K n g vs H Q E → vs.length = n := fun vs H Q E ⟨B, a, o, ov, avs, rest, res, ov', _, _, e, _, _, _, _, h, oo, _⟩ => by
  rw [e, List.length_cons, opvs_len oo, h]
theorem RR.after {K : PySem.W.Frag} {E : Ent} {B H B' H' : Hp} {σ : L2.St} {env : Env} {i : Nat} {a : Addr} {ov ov' : OV} {o' : HO} (r : RR K E B H σ env) (h : env[i]? = some (some ov)) (w : ov.owned = true) (e : σ[i]? = some (some (.ref a)))
    (A : Aft K a B H B' H') (ha : H' a = some o') (hn : OwnO B' a ov' o') (hb : B' a = none) (hio : ov'.io = ov.io) : RR K E B' H' σ (env.set i (some ov')) := by
  have hl : i < env.length := (List.getElem?_eq_some_iff.mp h).1
  have look : ∀ j u, (env.set i (some ov'))[j]? = some (some u) → (j = i ∧ u = ov') ∨ (j ≠ i ∧ env[j]? = some (some u)) := fun j u e => by
    by_cases hj : j = i
    · subst hj
      rw [List.getElem?_set_self hl] at e
      exact .inl ⟨rfl, (Option.some.inj (Option.some.inj e)).symm⟩
    · rw [List.getElem?_set_ne (Ne.symm hj)] at e
      exact .inr ⟨hj, e⟩
  have ownOld : ∀ j b, Own σ (env.set i (some ov')) j b → Own σ env j b := fun j b ⟨u, q, wu, z⟩ => by
    rcases look j u q with ⟨hj, _⟩ | ⟨_, q'⟩
    · subst hj; exact ⟨ov, h, w, z⟩
    · exact ⟨u, q', wu, z⟩
  have iO : Own σ env i a := ⟨ov, h, w, e⟩
  have dom : ∀ b, H b ≠ none → H' b ≠ none := A.dom
  refine ⟨A.bh, r.b0.tr A.bb, r.zi, fun b u q n nt => ?_, A.tb, fun b q => dom b (r.there b q), fun b u q => ?_, by simpa using r.len, fun j u q => ?_, fun j b q => r.own j b (ownOld j b q), fun j b u q wu wi z => ?_, fun j k b q q' => r.inj j k b (ownOld j b q) (ownOld k b q'), fun j u q wu => ?_⟩
  · have nb : b ≠ a := fun z => by
      subst z
      rcases r.own i b iO with k | k
      · exact n k
      · rw [k] at q; cases q
    exact A.keep b u (r.keep b u q n nt) nb nt
  · rcases A.new b u q with z | z
    · exact r.new b u z
    · exact .inr (.inl (r.off z))
  · rcases look j u q with ⟨rfl, rfl⟩ | ⟨hj, q'⟩
    · exact ⟨_, e, OvOk.of_own ha hn hb⟩
    · obtain ⟨v, z, k⟩ := r.slot j u q'
      refine ⟨v, z, ?_⟩
      by_cases wu : u.owned = true
      · obtain ⟨c, oc, rfl, k1, k2, k3⟩ := k.own wu
        have nc : c ≠ a := fun z2 => by
          subst z2
          exact hj (r.inj j i c ⟨u, q', wu, z⟩ iO)
        refine OvOk.of_own (A.keep c oc k1 nc k2.ntb) (k2.mono A.bb) ?_
        cases y : B' c with
        | none => rfl
        | some t =>
          rcases A.new c t y with y1 | y1
          · rw [k3] at y1; cases y1
          · rw [k1] at y1; cases y1
      · cases u with
        | fn F => exact ⟨k.1, k.2.mono A.bb fun o q n => A.keep _ o q (fun z => by
            obtain ⟨a0, o0, w1, w2, w3, _⟩ := r.owns h w
            rw [e] at w1
            cases w1
            have q2 := k.2.1
            rw [z, w2] at q2
            have q3 := Option.some.inj q2
            subst q3
            exact w3.next) n⟩
        | fz d => exact Rep.mono A.bb k
        | scr ns => obtain ⟨c, c1, c2⟩ := k; exact ⟨c, c1, sqlSub A.bb c2⟩
        | ol _ _ => exact absurd rfl wu
        | od _ _ => exact absurd rfl wu
  · rcases look j u q with ⟨rfl, rfl⟩ | ⟨hj, q'⟩
    · exact r.ownz j b ov h w (by rw [← hio]; exact wi) z
    · exact r.ownz j b u q' wu wi z
  · rcases look j u q with ⟨rfl, rfl⟩ | ⟨hj, q'⟩
    · exact r.ios j ov h (by rw [← hio]; exact wu)
    · exact r.ios j u q' wu
def callU (n : Nat) (g : OV → List Opd → Option (Res × OV)) (f : Ev (List Opd)) : Ev Res := fun env => (f env).bind fun p => match p.1 with
  | .r i :: rest => match p.2[i]? with
    | some (some ov) => guardO (ov.owned && noR rest && rest.length + 1 == n) ((g (ov.setIo false) rest).bind fun q => guardO (q.2.owned) (some (q.1, p.2.set i (some (q.2.setIo ov.io)))))
    | _ => none
  | _ => none
theorem tCallU {K : PySem.W.Frag} {n : Nat} {g : OV → List Opd → Option (Res × OV)} {fa : Ev (List Opd)} (σ : L2.St) (H : Hp) (Q : VK) (h : tR K (callU n g fa) σ H Q) : tCall (spU K n g) [] E0 (tA K fa) σ H Q := by
  obtain ⟨E, B, env, res, env', r, ef, kk⟩ := h
  obtain ⟨q, e1, ef⟩ := bindS ef
  split at ef
  · rename_i i rest hq
    split at ef
    · rename_i ov hov
      obtain ⟨hn, ef⟩ := guardS ef
      obtain ⟨rs, e2, ef⟩ := bindS ef
      obtain ⟨hw, ef⟩ := guardS ef
      cases ef
      simp only [Bool.and_eq_true, beq_iff_eq] at hn
      refine ⟨E, B, env, q.1, q.2, r, e1, fun vs B' H' r' s' z => ?_⟩
      rw [hq] at z
      obtain ⟨u, us, rfl, z1, z2⟩ := z
      obtain ⟨a, o, k1, k2, k3, k4⟩ := r'.owns hov hn.1.1
      have z1' : σ[i]? = some (some u) := z1
      rw [k1] at z1'
      cases z1'
      show spU K n g ((V.ref a :: us) ++ []) H' Q E0
      rw [List.append_nil]
      refine ⟨B', a, o, ov.setIo false, rest, us, _, rs.2, r'.bh, r'.tb, rfl, k2, k3.setIo, k4, hn.1.2, hn.2, opvs_any hn.1.2 z2, e2, fun v B4 H4 o' A h1 h2 h3 h4 => ?_⟩
      have r4 := r'.after hov hn.1.1 k1 A h1 h2.setIo h3 (h2.io_eq (b := ov.io))
      refine kk v B4 H4 r4 (s'.tr A.bb) ?_
      have own : (∃ p o, v = .ref p ∧ H' p = none ∧ H4 p = some o ∧ OwnO B4 p rs.1.ov o ∧ B4 p = none) → ∃ p o, v = .ref p ∧ H4 p = some o ∧ OwnO B4 p rs.1.ov o ∧ B4 p = none ∧ (∀ j, ¬ Own σ (q.2.set i (some (rs.2.setIo ov.io))) j p) ∧ (E.H0 p = none ∨ E.Z p) := by
        rintro ⟨p, op, rfl, y1, y2, y3, y4⟩
        refine ⟨p, op, rfl, y2, y3, y4, fun j ⟨ou, w1, w2, w3⟩ => ?_, .inl (r'.off y1)⟩
        by_cases hj : j = i
        · subst hj
          rw [k1] at w3
          cases w3
          rw [k2] at y1; cases y1
        · rw [List.getElem?_set_ne (Ne.symm hj)] at w1
          obtain ⟨c, oc, x1, x2, _⟩ := r'.owns w1 w2
          rw [w3] at x1; cases x1
          rw [y1] at x2; cases x2
      have h4' := h4
      revert h4' own
      cases rs.1 with
      | d d => intro _ y; exact y
      | l ds => intro y1 y2; exact y1 y2
      | k ds => intro y1 y2; exact y1 y2
    · cases ef
  · cases ef
section
variable {X : Cx} {k n : Nat} {f : Addr} {fd : FuncData} {ps : List Str} {x : Str} {p pos : Pos} {e : Expr} {es : List Expr} {g : OV → List Opd → Option (Res × OV)} {fa : Ev (List Opd)}
theorem e_callU (F : FnG X.prog X.w X.K X.mg X.base CX0 k f fd ps (spU X.K n g)) (hgd : X.A.guards = some []) (hr : Room k X.A) (hg : Gl X x) (hm : X.mg x = some (.ref f)) (hk : PySem.W.keepIn X.K (.ref f) = true) (hb : Binds X.K fd ps [])
    (ha : PA X (e :: es) (tA X.K fa)) (hdb : (x == ("__debug__" : Str)) = false := by decide) (he : starEach (e :: es) X.env = (false, eval e X.env) :: starEach es X.env := by rfl) (hpl : (backTo pos (starEach es X.env)).any (·.1) = false := by rfl) :
    PE X (.Call (.Name x p) (e :: es) [] pos) (tR X.K (callU n g fa)) := peImp (callG F hgd hr hg hm hk hb pass0 ha hdb he hpl) tCallU
end
end NS

set_option Elab.async false
set_option linter.all false
set_option maxRecDepth 100000
set_option maxHeartbeats 4000000
/-! NsG: statements. -/
namespace NS
open PySem L2 PyProof.Rows NT
variable [W : NT.Wd]
inductive Fl where
  | nx | bk | ct | rt (r : Res)
abbrev Es := Env → Option (Fl × Env)
def tS (K : PySem.W.Frag) (g : Es) : TS := fun D σ H => ∃ E B env fl env', RR K E B H σ env ∧ g env = some (fl, env') ∧ match fl with
  | .nx => ∀ σ' B' H', RR K E B' H' σ' env' → Sub B B' → D.nx σ' H'
  | .bk => ∀ σ' B' H', RR K E B' H' σ' env' → Sub B B' → D.bk σ' H'
  | .ct => ∀ σ' B' H', RR K E B' H' σ' env' → Sub B B' → D.ct σ' H'
  | .rt r => ∀ v σ' B' H', RR K E B' H' σ' env' → Sub B B' → ResV E B' H' σ' env' r v → D.rt v H'
theorem psImp {X : Cx} {st : Stmt} {t t' : TS} (h : PS X st t) (i : ∀ D σ H, t' D σ H → t D σ H) : PS X st t' := ⟨fun pins s σ H D I q => h.run pins s σ H D I (i D σ H q)⟩
theorem pssImp {X : Cx} {st : List Stmt} {t t' : TS} (h : PSs X st t) (i : ∀ D σ H, t' D σ H → t D σ H) : PSs X st t' := ⟨fun pins s σ H D I q => h.run pins s σ H D I (i D σ H q)⟩
section
variable {X : Cx} {st : Stmt} {rest : List Stmt} {e : Expr} {pos : Pos} {K : PySem.W.Frag}
def nilS : Es := fun env => some (.nx, env)
def seqS (f g : Es) : Es := fun env => (f env).bind fun p => match p.1 with
  | .nx => g p.2
  | fl => some (fl, p.2)
theorem ss_nil : PSs X [] (tS X.K nilS) := pssImp pss_nil fun D σ H ⟨E, B, env, fl, env', r, ef, k⟩ => by
  cases ef
  exact k σ B H r Sub.rfl'
theorem ss_one {f : Es} (h : PS X st (tS X.K f)) : PSs X [st] (tS X.K f) := pss_one h
theorem ss_cons {f g : Es} (h1 : PS X st (tS X.K f)) (h2 : PSs X rest (tS X.K g)) : PSs X (st :: rest) (tS X.K (seqS f g)) := pssImp (pss_cons h1 h2) fun D σ H ⟨E, B, env, fl, env', r, ef, k⟩ => by
  obtain ⟨p, e1, ef⟩ := bindS ef
  refine ⟨E, B, env, p.1, p.2, r, e1, ?_⟩
  split at ef
  · rename_i hp
    rw [hp]
    intro σ1 B1 H1 r1 s1
    refine ⟨E, B1, p.2, fl, env', r1, ef, ?_⟩
    cases fl with
    | nx => exact fun σ' B' H' r' s' => k σ' B' H' r' (s1.tr s')
    | bk => exact fun σ' B' H' r' s' => k σ' B' H' r' (s1.tr s')
    | ct => exact fun σ' B' H' r' s' => k σ' B' H' r' (s1.tr s')
    | rt x => exact fun v σ' B' H' r' s' q => k v σ' B' H' r' (s1.tr s') q
  · rename_i hp
    cases ef
    cases hfl : p.1 with
    | nx => exact absurd hfl hp
    | bk => rw [hfl] at k; exact k
    | ct => rw [hfl] at k; exact k
    | rt x => rw [hfl] at k; exact k
theorem s_pass : PS X (.Pass pos) (tS X.K nilS) := psImp ps_pass fun D σ H ⟨E, B, env, fl, env', r, ef, k⟩ => by
  cases ef
  exact k σ B H r Sub.rfl'
/-! ### stores -/
theorem ResV.ok {E : Ent} {B H : Hp} {σ : L2.St} {env : Env} {x : Res} {u : V} (h : ResV E B H σ env x u) : OvOk K B H u x.ov ∧ x.ov.io = false ∧ (x.ov.owned = true → ∀ a, u = .ref a → (∀ j, ¬ Own σ env j a) ∧ (E.H0 a = none ∨ E.Z a)) := by
  have own : (∃ p o, u = .ref p ∧ H p = some o ∧ OwnO B p x.ov o ∧ B p = none ∧ (∀ j, ¬ Own σ env j p) ∧ (E.H0 p = none ∨ E.Z p)) → OvOk K B H u x.ov ∧ (x.ov.owned = true → ∀ a, u = .ref a → (∀ j, ¬ Own σ env j a) ∧ (E.H0 a = none ∨ E.Z a)) := by
    rintro ⟨p, o, rfl, h1, h2, h3, h4, h5⟩
    refine ⟨OvOk.of_own h1 h2 h3, fun _ a e => ?_⟩
    cases e
    exact ⟨h4, h5⟩
  cases x with
  | d d => exact ⟨h, rfl, fun w => nomatch w⟩
  | l ds => exact ⟨(own h).1, rfl, (own h).2⟩
  | k ds => exact ⟨(own h).1, rfl, (own h).2⟩
def asgS (i : Nat) (f : Ev Res) : Es := fun env => (f env).bind fun p => some (.nx, p.2.set i (some p.1.ov))
theorem tAsgI {te : TE} {i : Nat} {f : Ev Res} (h : ∀ σ H Q, tR K f σ H Q → te σ H Q) (D : Ends) (σ : L2.St) (H : Hp) (q : tS K (asgS i f) D σ H) : tAsg te (gName i) D σ H := by
  obtain ⟨E, B, env, fl, env', r, ef, k⟩ := q
  obtain ⟨p, e1, ef⟩ := bindS ef
  cases ef
  refine h σ H _ ⟨E, B, env, p.1, p.2, r, e1, fun v B' H' r' s' z => ?_⟩
  obtain ⟨z1, z2, z3⟩ := z.ok (K := K)
  exact k _ B' H' (r'.put z1 z2 z3) s'
theorem s_asg {i : Nat} {x : Str} {pos' : Pos} {f : Ev Res} (hN : X.N.Nodup) (hi : X.N[i]? = some x) (hx : Loc X.env.scope x) (he : PE X e (tR X.K f)) (hs : swapsWith e (some (.Name x pos')) pos.line X.env = pure false := by rfl)
    (hf : X.fn x = true ∨ X.env.scope.names.lookup x = some .local := by first | exact .inl rfl | exact .inr rfl | assumption) : PS X (.Assign [.Name x pos'] e pos) (tS X.K (asgS i f)) :=
  psImp (ps_set hN hi hx he hs hf) (tAsgI fun _ _ _ q => q)
theorem s_asgLc {i : Nat} {y : Str} {py : Pos} {elt tg iter : Expr} {ifs : List Expr} {scope : Scope} {own : List (Str × Nat)} {pos spos : Pos} {it : Ev (List D)} {tgt : Tg} {fc : Ev Bool} {fe : Ev D} (hc : X.calm = true) (hN : X.N.Nodup) (hy : X.N[i]? = some y) (hyl : X.env.scope.names.lookup y = some .local)
    (hsw : swapsWith (.ListComp elt [⟨tg, iter, ifs, 0⟩] scope pos) (some (.Name y py)) spos.line X.env = pure true) (hi : PI X tg iter (tIt X.K it)) (ok : BlkOk X.N X.env.scope scope own)
    (hg : ∀ (s : Shared) (H : Hp) (C : Addr) (cl : List (Str × Addr)) (fp : List Addr), PG (X.blk s H scope (compEnvC scope cl C X.env) fp) tg (tgT X.K tgt))
    (ht : ∀ (s : Shared) (H : Hp) (C : Addr) (cl : List (Str × Addr)) (fp : List Addr), PTs (X.blk s H scope (compEnvC scope cl C X.env) fp) ifs (tT X.K fc))
    (he : ∀ (s : Shared) (H : Hp) (C : Addr) (cl : List (Str × Addr)) (fp : List Addr), PE (X.blk s H scope (compEnvC scope cl C X.env) fp) elt (tE X.K fe)) (hs : ∀ x, foldedSetIterable iter X.env x = pure x := by intro _; rfl) :
    PS X (.Assign [.Name y py] (.ListComp elt [⟨tg, iter, ifs, 0⟩] scope pos) spos) (tS X.K (asgS i (lcR it tgt fc fe (own.map (·.2))))) := psImp (ps_setLc hc hN hy hyl hsw hi ok hg ht he hs) (tAsgI tLcI)
def unpS (tg : Tg) (f : Ev D) : Es := fun env => (f env).bind fun p => (tgE tg p.1 p.2).bind fun e1 => some (.nx, e1)
theorem s_unp {tg : Tg} {f : Ev D} (h : PS X st (tAsg (tE X.K f) (tgT X.K tg))) : PS X st (tS X.K (unpS tg f)) :=
  psImp h fun D σ H ⟨E, B, env, fl, env', r, ef, k⟩ => by
  obtain ⟨p, e1, ef⟩ := bindS ef
  obtain ⟨ea, e2, ef⟩ := bindS ef
  cases ef
  exact ⟨E, B, env, p.1, p.2, r, e1, fun v B' H' r' s' z => tgI _ tg p.1 v σ p.2 _ _ r' z e2 fun σ' r2 _ => k σ' B' H' r2 s'⟩
/-- a new thing is held while more is evaluated -/
theorem ResV.hold {E : Ent} {B H B' H' : Hp} {σ : L2.St} {env env' : Env} {x : Res} {u : V} (r : RR K E B H σ env) (h : ResV E B H σ env x u) (q : RR K (loc B H σ env) B' H' σ env') : ResV E B' H' σ env' x u := by
  have own : (∃ p o, u = .ref p ∧ H p = some o ∧ OwnO B p x.ov o ∧ B p = none ∧ (∀ j, ¬ Own σ env j p) ∧ (E.H0 p = none ∨ E.Z p)) → ∃ p o, u = .ref p ∧ H' p = some o ∧ OwnO B' p x.ov o ∧ B' p = none ∧ (∀ j, ¬ Own σ env' j p) ∧ (E.H0 p = none ∨ E.Z p) := by
    rintro ⟨p, o, rfl, h1, h2, h3, h4, h5⟩
    refine ⟨p, o, rfl, q.keep p o h1 (fun ⟨j, w⟩ => h4 j w) h2.ntb, h2.mono q.b0, ?_, fun j w => ?_, h5⟩
    · cases e : B' p with
      | none => rfl
      | some t =>
        rcases q.new p t e with y | y | ⟨j, ov, y1, y2, _, y4⟩
        · rw [show (loc B H σ env).B0 p = B p from rfl, h3] at y; cases y
        · rw [show (loc B H σ env).H0 p = H p from rfl, h1] at y; cases y
        · exact absurd ⟨ov, y1, y2, y4⟩ (h4 j)
    · rcases q.own j p w with ⟨j', y⟩ | y
      · exact h4 j' y
      · rw [show (loc B H σ env).H0 p = H p from rfl, h1] at y; cases y
  cases x with
  | d d => exact Rep.mono q.b0 h
  | l ds => exact own h
  | k ds => exact own h
/-- what is new within a piece is new without -/
theorem ResV.out {E : Ent} {B H B' H' : Hp} {σ : L2.St} {env env' : Env} {x : Res} {u : V} (r : RR K E B H σ env) (h : ResV (loc B H σ env) B' H' σ env' x u) : ResV E B' H' σ env' x u := by
  have own : (∃ p o, u = .ref p ∧ H' p = some o ∧ OwnO B' p x.ov o ∧ B' p = none ∧ (∀ j, ¬ Own σ env' j p) ∧ ((loc B H σ env).H0 p = none ∨ (loc B H σ env).Z p)) → ∃ p o, u = .ref p ∧ H' p = some o ∧ OwnO B' p x.ov o ∧ B' p = none ∧ (∀ j, ¬ Own σ env' j p) ∧ (E.H0 p = none ∨ E.Z p) := by
    rintro ⟨p, o, rfl, h1, h2, h3, h4, h5⟩
    refine ⟨p, o, rfl, h1, h2, h3, h4, ?_⟩
    rcases h5 with z | ⟨j, ov, y1, y2, y3, y4⟩
    · exact .inl (r.off z)
    · exact r.ownz j p ov y1 y2 y3 y4
  cases x with
  | d d => exact h
  | l ds => exact own h
  | k ds => exact own h
/-- .. and apart from what is held -/
theorem ResV.apart {E : Ent} {B H B' H' : Hp} {σ : L2.St} {env env' : Env} {x y : Res} {u v : V} (h : ResV E B H σ env x u) (h' : ResV (loc B H σ env) B' H' σ env' y v) : x.ov.owned = true → y.ov.owned = true → u ≠ v := by
  intro wx wy e
  subst e
  have ax : ∃ p o, u = .ref p ∧ H p = some o ∧ ∀ j, ¬ Own σ env j p := by
    cases x with
    | d d => cases wx
    | l ds => obtain ⟨p, o, a, b, _, _, c, _⟩ := h; exact ⟨p, o, a, b, c⟩
    | k ds => obtain ⟨p, o, a, b, _, _, c, _⟩ := h; exact ⟨p, o, a, b, c⟩
  have ay : ∃ p, u = .ref p ∧ ((loc B H σ env).H0 p = none ∨ (loc B H σ env).Z p) := by
    cases y with
    | d d => cases wy
    | l ds => obtain ⟨p, o, a, _, _, _, _, c⟩ := h'; exact ⟨p, a, c⟩
    | k ds => obtain ⟨p, o, a, _, _, _, _, c⟩ := h'; exact ⟨p, a, c⟩
  obtain ⟨p, o, rfl, a1, a2⟩ := ax
  obtain ⟨p', e, b⟩ := ay
  cases e
  rcases b with z | ⟨j, ov, y1, y2, _, y4⟩
  · rw [show (loc B H σ env).H0 p = H p from rfl, a1] at z; cases z
  · exact a2 j ⟨ov, y1, y2, y4⟩
theorem RR.put2 {E : Ent} {B H : Hp} {σ : L2.St} {env : Env} {i j : Nat} {x y : Res} {u v : V} (hij : i ≠ j) (r : RR K E B H σ env) (hx : ResV E B H σ env x u) (hy : ResV E B H σ env y v) (ap : x.ov.owned = true → y.ov.owned = true → u ≠ v) : RR K E B H ((σ.set i (some u)).set j (some v)) ((env.set i (some x.ov)).set j (some y.ov)) := by
  obtain ⟨x1, x2, x3⟩ := hx.ok (K := K)
  obtain ⟨y1, y2, y3⟩ := hy.ok (K := K)
  refine (r.put (i := i) x1 x2 x3).put (i := j) y1 y2 fun w a e => ⟨fun l ⟨ov, w1, w2, w3⟩ => ?_, (y3 w a e).2⟩
  by_cases hl : l = i
  · subst hl
    by_cases hb : l < env.length
    · rw [List.getElem?_set_self hb] at w1
      cases w1
      rw [List.getElem?_set_self (by rw [r.len]; exact hb)] at w3
      cases w3
      exact ap w2 w e.symm
    · rw [List.getElem?_eq_none (by simpa using hb)] at w1; cases w1
  · rw [List.getElem?_set_ne (Ne.symm hl)] at w1 w3
    exact (y3 w a e).1 l ⟨ov, w1, w2, w3⟩
def par2 (i j : Nat) (fa fb : Ev Res) : Es := fun env => (fa env).bind fun p => (fb p.2).bind fun q => some (.nx, (q.2.set i (some p.1.ov)).set j (some q.1.ov))
theorem s_par2 {i j : Nat} {x y : Str} {a b : Expr} {fa fb : Ev Res} {px py pt : Pos} {kt k2 pt2} (hc : X.calm = true) (hN : X.N.Nodup) (hi : X.N[i]? = some x) (hj : X.N[j]? = some y) (hij : i ≠ j)
    (hx : X.env.scope.names.lookup x = some .local) (hy : X.env.scope.names.lookup y = some .local) (ha : PE X a (tR X.K fa)) (hb : PE X b (tR X.K fb))
    (hw : swappedStores [.Tuple [.Name x px, .Name y py] kt pt] (.Tuple [a, b] k2 pt2) X.env = pure (some [x, y]))
    (na : starEach [a, b] X.env = (false, eval a X.env) :: starEach [b] X.env := by rfl) (nb : starEach [b] X.env = (false, eval b X.env) :: starEach [] X.env := by rfl)
    (hs : swapsWithSole [.Tuple [.Name x px, .Name y py] kt pt] (.Tuple [a, b] k2 pt2) pos.line X.env = pure false := by rfl) :
    PS X (.Assign [.Tuple [.Name x px, .Name y py] kt pt] (.Tuple [a, b] k2 pt2) pos) (tS X.K (par2 i j fa fb)) :=
  psImp (ps_par hc hN hi hj hij hx hy (pa_cons ha (pa_cons hb pa_nil nb) na) hw hs) fun D σ H ⟨E, B, env, fl, env', r, ef, k⟩ => by
  obtain ⟨p, e1, ef⟩ := bindS ef
  obtain ⟨q, e2, ef⟩ := bindS ef
  cases ef
  refine ⟨E, B, env, p.1, p.2, r, e1, fun u B1 H1 r1 s1 q1 => ⟨loc B1 H1 σ p.2, B1, p.2, q.1, q.2, r1.loc, e2, fun v B2 H2 r2 s2 q2 => ?_⟩⟩
  refine ⟨u, v, rfl, k _ B2 H2 ((r1.comp r2).put2 hij (q1.hold r1 r2) (q2.out r1) (q1.apart q2)) (s1.tr s2)⟩
/-! ### x += e, x[i] = e, x[i] += e -/
def intAt (env : Env) (i : Nat) : Option Int := match env[i]? with
  | some (some (.fz (.int a))) => some a
  | _ => none
def augS (i : Nat) (op : Int → Int → Int) (f : Ev D) : Es := fun env => (intAt env i).bind fun a => (f env).bind fun p => match p.1 with
  | .int b => some (.nx, p.2.set i (some (.fz (.int (op a b)))))
  | _ => none
theorem s_aug {i : Nat} {x : Str} {op : Operator} {h2 : Int → Int → Int} {pos' : Pos} {f : Ev D} (ho : PIp X op (ipI h2)) (hN : X.N.Nodup) (hi : X.N[i]? = some x) (hx : Loc X.env.scope x) (he : PE X e (tE X.K f))
    (hf : X.fn x = true ∨ X.env.scope.names.lookup x = some .local := by first | exact .inl rfl | exact .inr rfl | assumption) : PS X (.AugAssign (.Name x pos') op e pos) (tS X.K (augS i h2 f)) :=
  psImp (ps_aug hN hi hx he ho hf) fun D σ H ⟨E, B, env, fl, env', r, ef, k⟩ => by
  obtain ⟨a, e0, ef⟩ := bindS ef
  obtain ⟨p, e1, ef⟩ := bindS ef
  have hs : σ[i]? = some (some (.int a)) := by
    unfold intAt at e0
    split at e0
    · rename_i a' ha
      cases e0
      obtain ⟨v, hv, ok⟩ := r.slot i _ ha
      cases (show Rep B v (.int a) from ok)
      exact hv
    · cases e0
  split at ef
  · rename_i b hb
    cases ef
    refine ⟨.int a, hs, E, B, env, p.1, p.2, r, e1, fun v B' H' r' s' z => ?_⟩
    rw [hb] at z
    cases z
    exact ⟨a, b, rfl, rfl, k _ B' H' (r'.put (show OvOk _ _ _ _ (.fz (.int (h2 a b))) from Rep.int _) rfl (fun w => nomatch w)) s'⟩
  · cases ef
def ownAt (env : Env) (i : Nat) : Bool := match env[i]? with
  | some (some ov) => ov.owned
  | _ => false
theorem RR.ownAt {E : Ent} {B H : Hp} {σ : L2.St} {env : Env} {i : Nat} (r : RR K E B H σ env) (h : NS.ownAt env i = true) : ∃ a o, σ[i]? = some (some (.ref a)) ∧ H a = some o := by
  unfold NS.ownAt at h
  split at h
  · rename_i ov hov
    obtain ⟨a, o, h1, h2, _⟩ := r.owns hov h
    exact ⟨a, o, h1, h2⟩
  · cases h
def setS (i : Nat) (fi fe : Ev D) : Es := fun env => (fe env).bind fun p => guardO (ownAt p.2 i) ((fi p.2).bind fun q => match q.2[i]?, q.1 with
  | some (some (.ol io ds)), .int n => (ixN ds.length n).bind fun j => some (.nx, q.2.set i (some (.ol io (ds.set j p.1))))
  | _, _ => none)
theorem s_set {i : Nat} {fi fe : Ev D} (h : PS X st (tAsg (tE X.K fe) (gSub (tVar i) (tE X.K fi) rSetL))) : PS X st (tS X.K (setS i fi fe)) := psImp h fun D σ H ⟨E, B, env, fl, env', r, ef, k⟩ => by
  obtain ⟨p, e1, ef⟩ := bindS ef
  obtain ⟨how, ef⟩ := guardS ef
  obtain ⟨q, e2, ef⟩ := bindS ef
  split at ef
  · rename_i io ds n h1 h2
    obtain ⟨j, e3, ef⟩ := bindS ef
    cases ef
    refine ⟨E, B, env, p.1, p.2, r, e1, fun v B1 H1 r1 s1 z1 => ?_⟩
    obtain ⟨a, o, ha, _⟩ := r1.ownAt how
    refine ⟨.ref a, ha, E, B1, p.2, q.1, q.2, r1, e2, fun u B2 H2 r2 s2 z2 => ?_⟩
    rw [h2] at z2
    cases z2
    obtain ⟨a', o', k1, k2, ⟨vs, rfl, rep⟩, k4⟩ := r2.owns h1 rfl
    rw [ha] at k1
    cases k1
    refine ⟨a, vs, n, j, rfl, rfl, k2, by rw [rep.len]; exact e3, ?_⟩
    exact k σ B2 _ (r2.write h1 rfl ha (ov' := .ol io (ds.set j p.1)) ⟨_, rfl, rep.set j (z1.mono s2)⟩ rfl) (s1.tr s2)
  · cases ef
theorem get_listP : PGet X (rIxL X.K) := by
  intro pins s σ H x y v u Q I rx ry h
  obtain ⟨p, xs, i, z, rfl, rfl, hq, he, q⟩ := h
  cases rx
  obtain ⟨t, rfl⟩ := ry
  obtain ⟨its, r, pl, hz⟩ := I.list hq
  obtain ⟨j, h1, h2, h3, h4, h5⟩ := atI_get he
  obtain ⟨w, ew, rw'⟩ := r.get h2
  have hl := r.length
  have hn := line63
  have fin : EP X pins σ Q w s := ⟨z, H, I, rw', q⟩
  by_cases h0 : 0 ≤ i
  · have hj : i.toNat = j := Option.some.inj ((seqIndex_of h0 h5).symm.trans h1)
    exact wpAny_getItem_list pl.isList h0 (by omega) (by rw [hj]; simpa using ew) fin
  · have hj : (i + (its.toArray.size : Int)).toNat = j := by
      have e := (seqIndex_neg (by omega) h4).symm.trans h1
      rw [List.size_toArray, ← hl]
      exact Option.some.inj e
    exact wpAny_getItem_list_neg pl.isList (by omega) (by rw [List.size_toArray] <;> omega) (by omega) (by rw [hj]; simpa using ew) fin
def augxS (i : Nat) (op : Int → Int → Int) (fi fe : Ev D) : Es := fun env => guardO (ownAt env i) ((fi env).bind fun q => match q.2[i]?, q.1 with
  | some (some (.ol _ ds)), .int n => (ixN ds.length n).bind fun j => match ds[j]? with
    | some (.int a) => (fe q.2).bind fun p => match p.2[i]?, p.1 with
      | some (some (.ol io ds')), .int b => guardO (decide (ds'.length = ds.length)) (some (.nx, p.2.set i (some (.ol io (ds'.set j (.int (op a b)))))))
      | _, _ => none
    | _ => none
  | _, _ => none)
theorem s_augx {i : Nat} {x : Str} {op : Operator} {h2 : Int → Int → Int} {pos' tpos : Pos} {ie : Expr} {fi fe : Ev D} (hp : PIp X op (ipI h2)) (ho : PE X (.Name x pos') (tVar i)) (hi : PE X ie (tE X.K fi)) (he : PE X e (tE X.K fe))
    (ha : ∀ ov iv new, augStore ie ov iv new = (do holding [new, ov, iv] (setItem ov iv new); release [new, ov, iv] []; pure .next) := by intros; rfl) :
    PS X (.AugAssign (.Subscript (.Name x pos') ie tpos) op e pos) (tS X.K (augxS i h2 fi fe)) := psImp (ps_augS ho hi get_listP he hp set_list ha) fun D σ H ⟨E, B, env, fl, env', r, ef, k⟩ => by
  obtain ⟨how, ef⟩ := guardS ef
  obtain ⟨q, e1, ef⟩ := bindS ef
  split at ef
  · rename_i io0 ds n g1 g2
    obtain ⟨j, e3, ef⟩ := bindS ef
    split at ef
    · rename_i a hd
      obtain ⟨p, e4, ef⟩ := bindS ef
      split at ef
      · rename_i io ds' b g3 g4
        obtain ⟨hl, ef⟩ := guardS ef
        cases ef
        obtain ⟨c, o, hc, _⟩ := r.ownAt how
        refine ⟨.ref c, hc, E, B, env, q.1, q.2, r, e1, fun u B1 H1 r1 s1 z1 => ?_⟩
        rw [g2] at z1
        cases z1
        obtain ⟨c', o', k1, k2, ⟨vs, rfl, rep⟩, k4⟩ := r1.owns g1 rfl
        rw [hc] at k1
        cases k1
        obtain ⟨w, hw, rw'⟩ := rep.get hd
        cases rw'
        have hix : atI vs n = some (V.int a) := by
          unfold atI
          rw [rep.len, e3]
          exact hw
        refine ⟨c, vs, n, V.int a, rfl, rfl, SqL.of k2, hix, E, B1, q.2, p.1, p.2, r1, e4, fun v B2 H2 r2 s2 z2 => ?_⟩
        rw [g4] at z2
        cases z2
        obtain ⟨c', o', k1, k2, ⟨vs', rfl, rep'⟩, k4⟩ := r2.owns g3 rfl
        rw [hc] at k1
        cases k1
        refine ⟨a, b, rfl, rfl, c, vs', n, j, rfl, rfl, k2, by rw [rep'.len, of_decide_eq_true hl]; exact e3, ?_⟩
        exact k σ B2 _ (r2.write g3 rfl hc (ov' := .ol io (ds'.set j (.int (h2 a b)))) ⟨_, rfl, rep'.set j (.int _)⟩ rfl) (s1.tr s2)
      · cases ef
    · cases ef
  · cases ef
/-! ### x.append(e), x.extend(e), a dropped value -/
def appS (i : Nat) (f : Ev D) : Es := fun env => guardO (ownAt env i) ((f env).bind fun p => match env[i]?, p.2[i]? with
  | some (some (.ol _ _)), some (some (.ol io ds)) => guardO (decide (ds.length < 1000000)) (some (.nx, p.2.set i (some (.ol io (ds ++ [p.1])))))
  | _, _ => none)
theorem s_app {i : Nat} {x : Str} {pos' apos cpos : Pos} {f : Ev D} (ho : PE X (.Name x pos') (tVar i)) (he : PE X e (tE X.K f))
    (hbase : attributeBase (.Name x pos') "append" X.env (eval (.Name x pos') X.env) = eval (.Name x pos') X.env := by rfl)
    (hfew : ((backTo cpos (starEach [e] X.env)).all (fun x => !x.1) && (backToKw cpos (keywordEach [] X.env)).all (fun x => x.1.isSome)
      && decide (([e] : List Expr).length + ([] : List Keyword).length + (if ([] : List Keyword).isEmpty then 0 else 1) < 30)) = true := by rfl)
    (hline : (apos.endLine == cpos.line) = true := by rfl) (hs : starEach [e] X.env = (false, eval e X.env) :: starEach [] X.env := by rfl) (hplain : (backTo cpos (starEach [] X.env)).any (·.1) = false := by rfl)
    (hsw : swapsWith (.Call (.Attribute (.Name x pos') "append" apos) [e] [] cpos) none pos.line X.env = pure false := by rfl) :
    PS X (.Expr (.Call (.Attribute (.Name x pos') "append" apos) [e] [] cpos) pos) (tS X.K (appS i f)) :=
  psImp (ps_expr (pe_bm PySem.F.plainAttrs_list PySem.F.slot_list_append PySem.F.type_list_append mt_append ho (pa_cons he pa_nil hs) hbase hfew hline hs hplain) hsw) fun D σ H ⟨E, B, env, fl, env', r, ef, k⟩ => by
  obtain ⟨how, ef⟩ := guardS ef
  obtain ⟨p, e1, ef⟩ := bindS ef
  split at ef
  · rename_i io0 ds0 io ds g0 g1
    obtain ⟨hl, ef⟩ := guardS ef
    cases ef
    obtain ⟨a, o, h1, h2, ⟨vs0, rfl, rep0⟩, h4⟩ := r.owns g0 rfl
    refine ⟨.ref a, h1, .inl ⟨rfl, vs0, SqL.of h2⟩, E, B, env, p.1, p.2, r, e1, fun v B' H' r' s' z => ?_⟩
    obtain ⟨a', o', k1, k2, ⟨vs, rfl, rep⟩, k4⟩ := r'.owns g1 rfl
    rw [h1] at k1
    cases k1
    refine ⟨a, vs, v, rfl, rfl, k2, by rw [rep.len]; exact lcLine (of_decide_eq_true hl), ?_⟩
    exact k σ B' _ (r'.write g1 rfl h1 (ov' := .ol io (ds ++ [p.1])) ⟨_, rfl, rep.app (.one z)⟩ rfl) s'
  · cases ef
/-- extend by a list or a tuple -/
def rExt (K : PySem.W.Frag) : V → List V → Hp → VK → Prop := fun x vs H Q => ∃ l b xs zs, x = .ref l ∧ vs = [.ref b] ∧ H l = some (.lst xs) ∧ (H b = some (.lst zs) ∨ H b = some (.tup zs)) ∧ xs.length + zs.length ≤ sizeLine ∧ Q .non (upd H l (.lst (xs ++ zs)))
theorem ext_tup (l : Addr) (items : Array Value) (n : Nat) (b : Addr) (items2 : Array Value) (n2 : Nat) (dd : Option Addr) (sl : Array (Option Value)) (hs0 : ¬(!items.isEmpty && Builtin.List.listTooLong (items.size + items2.size)) = true) (hs1 : items.size ≤ sizeLine) (hs2 : items.size + items2.size ≤ sizeLine + 1) :
    Meets (Builtin.«list.extend» ⟨[.ref l, .ref b], []⟩) (fun _ R s => s.heap.get? l = some { cls := .type "list", dict := none, data := .seq items n, slots := #[] } ∧ s.heap.get? b = some { cls := .type "tuple", dict := dd, data := .seq items2 n2, slots := sl } ∧ R (.ok (.ret Value.none)) { s with heap := s.heap.update l (Obj.mapSeq fun x => x ++ items2), toks := s.toks }) :=
  .of_wp fun prog w A R s h => by
    obtain ⟨hp, g, d, tk, os⟩ := s; obtain ⟨hl, hb, h⟩ := h; have f4 := sub_tuple_list
    have hz' : (items ++ items2).size ≤ sizeLine + 1 := by rw [Array.size_append]; exact hs2
    wp_walk using (wpAny_updateSeq hl rfl (hz := hs1) (_hz' := hz')), wpAny_loadPart' hl, wpAny_loadPart' hb; exact ⟨_, rfl, h⟩
theorem mt_ext : MtM X "list.extend" (rExt X.K) := by
  intro pins s σ H x vs v us Q I rx rv h
  obtain ⟨l, b, xs, zs, rfl, rfl, hH, hB, hz, q⟩ := h
  rcases hB with hB | hB
  · exact mt_extend pins s σ H _ _ v us Q I rx rv ⟨l, b, xs, zs, rfl, rfl, hH, hB, hz, q⟩
  · cases rx
    obtain ⟨u, rfl, ru⟩ := rv.one
    cases ru
    obtain ⟨z, its, n, r, hl, e⟩ := I.lstM hH
    obtain ⟨z2, its2, r2, ob, e2, hc2, n2, hd2⟩ := I.hok b _ hB
    obtain ⟨cls2, dd, data2, sl2⟩ := ob
    cases hc2
    cases hd2
    have hl2 := r2.length
    have hsz : its.toArray.size + its2.toArray.size ≤ sizeLine := by rw [List.size_toArray, List.size_toArray]; omega
    have hlong : ¬ (!its.toArray.isEmpty && Builtin.List.listTooLong (its.toArray.size + its2.toArray.size)) = true := by
      rw [notLongL hsz, Bool.and_false]
      exact Bool.false_ne_true
    refine call_meets PySem.F.slot_list_extend ⟨_, e, rfl⟩ PySem.F.entry_list_extend (PySem.F.args_list_extend_2 _ _)
      (ext_tup l its.toArray n b its2.toArray n2 dd sl2 hlong (by rw [List.size_toArray]; omega) (by omega)) ⟨e, e2, ?_⟩
    refine ⟨.non, _, I.lset (its' := its ++ its2) hH e (by simp) (r.append r2) ?_, rfl, q⟩
    rw [List.length_append]
    omega
end
end NS

set_option Elab.async false
set_option linter.all false
set_option maxRecDepth 100000
set_option maxHeartbeats 4000000
/-! NsH: more statements, and a def of the text by its evaluator. -/
namespace NS
open PySem L2 PyProof.Rows NT
variable [W : NT.Wd]
section
variable {X : Cx} {st : Stmt} {rest : List Stmt} {e : Expr} {pos : Pos} {K : PySem.W.Frag}
def extS (i : Nat) (f : Ev D) : Es := fun env => guardO (ownAt env i) ((f env).bind fun p => match env[i]?, p.2[i]?, p.1 with
  | some (some (.ol _ _)), some (some (.ol io ds)), .list es => guardO (decide (ds.length + es.length ≤ 1000000)) (some (.nx, p.2.set i (some (.ol io (ds ++ es)))))
  | some (some (.ol _ _)), some (some (.ol io ds)), .tuple es => guardO (decide (ds.length + es.length ≤ 1000000)) (some (.nx, p.2.set i (some (.ol io (ds ++ es)))))
  | _, _, _ => none)
theorem line6 {n : Nat} (h : n ≤ 1000000) : n ≤ sizeLine := by rw [sizeLine_eq]; omega
theorem s_ext {i : Nat} {f : Ev D} (h : PS X st (tDrop (tBM X.K "list" (rExt X.K) (tVar i) (tCons (tE X.K f) tNil)))) : PS X st (tS X.K (extS i f)) := psImp h fun D σ H ⟨E, B, env, fl, env', r, ef, k⟩ => by
  obtain ⟨how, ef⟩ := guardS ef
  obtain ⟨p, e1, ef⟩ := bindS ef
  split at ef
  · rename_i io0 ds0 io ds es g0 g1 g2
    obtain ⟨hl, ef⟩ := guardS ef
    cases ef
    obtain ⟨a, o, h1, h2, ⟨vs0, rfl, rep0⟩, h4⟩ := r.owns g0 rfl
    refine ⟨.ref a, h1, .inl ⟨rfl, vs0, SqL.of h2⟩, E, B, env, p.1, p.2, r, e1, fun v B' H' r' s' z => ?_⟩
    rw [g2] at z
    obtain ⟨a', o', k1, k2, ⟨vs, rfl, rep⟩, k4⟩ := r'.owns g1 rfl
    rw [h1] at k1
    cases k1
    cases z with
    | lst z1 z2 =>
      rename_i b us
      exact ⟨a, b, vs, us, rfl, rfl, k2, .inl (r'.bh _ _ z1), by rw [rep.len, z2.len]; exact line6 (of_decide_eq_true hl), k σ B' _ (r'.write g1 rfl h1 (ov' := .ol io (ds ++ es)) ⟨_, rfl, rep.app z2⟩ rfl) s'⟩
  · rename_i io0 ds0 io ds es g0 g1 g2
    obtain ⟨hl, ef⟩ := guardS ef
    cases ef
    obtain ⟨a, o, h1, h2, ⟨vs0, rfl, rep0⟩, h4⟩ := r.owns g0 rfl
    refine ⟨.ref a, h1, .inl ⟨rfl, vs0, SqL.of h2⟩, E, B, env, p.1, p.2, r, e1, fun v B' H' r' s' z => ?_⟩
    rw [g2] at z
    obtain ⟨a', o', k1, k2, ⟨vs, rfl, rep⟩, k4⟩ := r'.owns g1 rfl
    rw [h1] at k1
    cases k1
    cases z with
    | tup z1 z2 =>
      rename_i b us
      exact ⟨a, b, vs, us, rfl, rfl, k2, .inr (r'.bh _ _ z1), by rw [rep.len, z2.len]; exact line6 (of_decide_eq_true hl), k σ B' _ (r'.write g1 rfl h1 (ov' := .ol io (ds ++ es)) ⟨_, rfl, rep.app z2⟩ rfl) s'⟩
  · cases ef
def dropS (f : Ev Res) : Es := fun env => (f env).bind fun p => some (.nx, p.2)
theorem s_drop {f : Ev Res} (he : PE X e (tR X.K f)) (hs : swapsWith e none pos.line X.env = pure false := by rfl) : PS X (.Expr e pos) (tS X.K (dropS f)) := psImp (ps_expr he hs) fun D σ H ⟨E, B, env, fl, env', r, ef, k⟩ => by
  obtain ⟨p, e1, ef⟩ := bindS ef
  cases ef
  exact ⟨E, B, env, p.1, p.2, r, e1, fun v B' H' r' s' z => k σ B' H' r' s'⟩
/-! ### if, for, while, return -/
def ifS (c : Ev Bool) (f g : Es) : Es := fun env => (c env).bind fun p => if p.1 = true then f p.2 else g p.2
theorem s_if {c : Expr} {a b : List Stmt} {fc : Ev Bool} {f g : Es} (hc : PT X c (tT X.K fc)) (ha : PSs X a (tS X.K f)) (hb : PSs X b (tS X.K g)) : PS X (.If c a b pos) (tS X.K (ifS fc f g)) := psImp (ps_if hc ha hb) fun D σ H ⟨E, B, env, fl, env', r, ef, k⟩ => by
  obtain ⟨p, e1, ef⟩ := bindS ef
  refine ⟨E, B, env, p.1, p.2, r, e1, fun B1 H1 r1 s1 => ?_⟩
  split at ef
  · rename_i hp
    rw [if_pos hp]
    refine ⟨E, B1, p.2, fl, env', r1, ef, ?_⟩
    cases fl with
    | nx => exact fun σ' B' H' r' s' => k σ' B' H' r' (s1.tr s')
    | bk => exact fun σ' B' H' r' s' => k σ' B' H' r' (s1.tr s')
    | ct => exact fun σ' B' H' r' s' => k σ' B' H' r' (s1.tr s')
    | rt x => exact fun v σ' B' H' r' s' q => k v σ' B' H' r' (s1.tr s') q
  · rename_i hp
    rw [if_neg hp]
    refine ⟨E, B1, p.2, fl, env', r1, ef, ?_⟩
    cases fl with
    | nx => exact fun σ' B' H' r' s' => k σ' B' H' r' (s1.tr s')
    | bk => exact fun σ' B' H' r' s' => k σ' B' H' r' (s1.tr s')
    | ct => exact fun σ' B' H' r' s' => k σ' B' H' r' (s1.tr s')
    | rt x => exact fun v σ' B' H' r' s' q => k v σ' B' H' r' (s1.tr s') q
def forGo (tg : Tg) (body : Es) : List D → Es
  | [], env => some (.nx, env)
  | d :: ds, env => (tgE tg d env).bind fun e1 => (body e1).bind fun p => match p.1 with
    | .nx => forGo tg body ds p.2
    | .ct => forGo tg body ds p.2
    | .bk => some (.nx, p.2)
    | .rt r => some (.rt r, p.2)
def forS (it : Ev (List D)) (tg : Tg) (body : Es) : Es := fun env => (it env).bind fun p => forGo tg body p.1 p.2
theorem s_for {tge iter : Expr} {body : List Stmt} {it : Ev (List D)} {tg : Tg} {fb : Es} (hp : PassesOwn (model X.prog X.w) X.A X.env X.xe) (hc : X.calm = true) (hi : PI X tge iter (tIt X.K it)) (hg : PG X tge (tgT X.K tg)) (hb : PSs X body (tS X.K fb))
    (hs : ∀ x, foldedSetIterable iter X.env x = pure x := by intro _; rfl) : PS X (.For tge iter body [] pos) (tS X.K (forS it tg fb)) := psImp (ps_for hp hc hi hg hb hs) fun D σ H ⟨E, B, env, fl, env', r, ef, k⟩ => by
  obtain ⟨p, e1, ef⟩ := bindS ef
  refine ⟨E, B, env, p.1, p.2, r, e1, fun J B1 H1 r1 s1 hJ => ?_⟩
  refine ⟨fun i m σ2 H2 => m = p.1.length - i ∧ i ≤ p.1.length ∧ ∃ B2 env2, RR X.K E B2 H2 σ2 env2 ∧ Sub B1 B2 ∧ forGo tg fb (p.1.drop i) env2 = some (fl, env'), ⟨p.1.length, by simp, Nat.zero_le _, B1, p.2, r1, Sub.rfl', ef⟩, ?_⟩
  rintro i m σ2 H2 ⟨rfl, hi, B2, env2, r2, s2, eg⟩
  have ext := hJ i B2 H2 s2 r2.bh
  by_cases hlt : i < p.1.length
  · obtain ⟨d, hd⟩ : ∃ d, p.1[i]? = some d := ⟨_, List.getElem?_eq_getElem hlt⟩
    have hdr : p.1.drop i = d :: p.1.drop (i + 1) := by
      rw [List.drop_eq_getElem_cons hlt]
      rw [List.getElem?_eq_getElem hlt] at hd
      cases hd
      rfl
    rw [hdr] at eg
    obtain ⟨go, yl⟩ := ext.1 d hd
    refine .inr ⟨go, fun σ' H' => i + 1 ≤ p.1.length ∧ ∃ B2 env2, RR X.K E B2 H' σ' env2 ∧ Sub B1 B2 ∧ forGo tg fb (p.1.drop (i + 1)) env2 = some (fl, env'), fun σ' H' w => ⟨p.1.length - (i + 1), by omega, rfl, w⟩, fun x H' hy => ?_⟩
    obtain ⟨B4, g4, rx⟩ := yl x H' hy
    obtain ⟨ea, t1, eg⟩ := bindS (show (tgE tg d env2).bind _ = _ from eg)
    obtain ⟨q, t2, eg⟩ := bindS eg
    refine tgI _ tg d x σ2 env2 ea _ (r2.grow g4) rx t1 fun σ5 r5 kp => ?_
    refine ⟨E, B4, ea, q.1, q.2, r5, t2, ?_⟩
    have s4 : Sub B1 B4 := s2.tr g4.bb
    split at eg
    · rename_i hq
      rw [hq]
      exact fun σ' B' H' r' s' => ⟨hlt, B', q.2, r', s4.tr s', eg⟩
    · rename_i hq
      rw [hq]
      exact fun σ' B' H' r' s' => ⟨hlt, B', q.2, r', s4.tr s', eg⟩
    · rename_i hq
      rw [hq]
      cases eg
      exact fun σ' B' H' r' s' => k σ' B' H' r' (s1.tr (s4.tr s'))
    · rename_i rr hq
      rw [hq]
      cases eg
      exact fun v σ' B' H' r' s' z => k v σ' B' H' r' (s1.tr (s4.tr s')) z
  · have hie : i = p.1.length := by omega
    subst hie
    rw [List.drop_length] at eg
    cases (show some (Fl.nx, env2) = some (fl, env') from eg)
    exact .inl ⟨ext.2 (Nat.le_refl _), k σ2 B2 H2 r2 (s1.tr s2)⟩
def whGo (c : Ev Bool) (body : Es) : Nat → Es
  | 0, _ => none
  | n + 1, env => (c env).bind fun p => if p.1 = true then (body p.2).bind fun q => match q.1 with
    | .nx => whGo c body n q.2
    | .ct => whGo c body n q.2
    | .bk => some (.nx, q.2)
    | .rt r => some (.rt r, q.2) else some (.nx, p.2)
theorem s_while {c : Expr} {body : List Stmt} {fc : Ev Bool} {fb : Es} (n : Nat) (hp : PassesOwn (model X.prog X.w) X.A X.env X.xe) (hc : PT X c (tT X.K fc)) (hb : PSs X body (tS X.K fb)) : PS X (.While c body [] pos) (tS X.K (whGo fc fb n)) :=
  psImp (ps_while hp hc hb) fun D σ H ⟨E, B, env, fl, env', r, ef, k⟩ => by
  refine ⟨fun m σ2 H2 => ∃ B2 env2, RR X.K E B2 H2 σ2 env2 ∧ Sub B B2 ∧ whGo fc fb m env2 = some (fl, env'), ⟨n, B, env, r, Sub.rfl', ef⟩, ?_⟩
  rintro m σ2 H2 ⟨B2, env2, r2, s2, eg⟩
  cases m with
  | zero => cases eg
  | succ m =>
    obtain ⟨p, t1, eg⟩ := bindS (show (fc env2).bind _ = _ from eg)
    refine ⟨E, B2, env2, p.1, p.2, r2, t1, fun B3 H3 r3 s3 => ?_⟩
    split at eg
    · rename_i hpp
      rw [if_pos hpp]
      obtain ⟨q, t2, eg⟩ := bindS eg
      refine ⟨fun σ' H' => ∃ B2 env2, RR X.K E B2 H' σ' env2 ∧ Sub B B2 ∧ whGo fc fb m env2 = some (fl, env'), fun σ' H' w => ⟨m, Nat.lt_succ_self m, w⟩, E, B3, p.2, q.1, q.2, r3, t2, ?_⟩
      have s4 : Sub B B3 := s2.tr s3
      split at eg
      · rename_i hq
        rw [hq]
        exact fun σ' B' H' r' s' => ⟨B', q.2, r', s4.tr s', eg⟩
      · rename_i hq
        rw [hq]
        exact fun σ' B' H' r' s' => ⟨B', q.2, r', s4.tr s', eg⟩
      · rename_i hq
        rw [hq]
        cases eg
        exact fun σ' B' H' r' s' => k σ' B' H' r' (s4.tr s')
      · rename_i rr hq
        rw [hq]
        cases eg
        exact fun v σ' B' H' r' s' z => k v σ' B' H' r' (s4.tr s') z
    · rename_i hpp
      rw [if_neg hpp]
      cases eg
      exact k σ2 B3 H3 r3 (s2.tr s3)
def brkS : Es := fun env => some (.bk, env)
def cntS : Es := fun env => some (.ct, env)
theorem s_break : PS X (.Break pos) (tS X.K brkS) := psImp ps_break fun D σ H ⟨E, B, env, fl, env', r, ef, k⟩ => by
  cases ef
  exact k σ B H r Sub.rfl'
theorem s_continue : PS X (.Continue pos) (tS X.K cntS) := psImp ps_continue fun D σ H ⟨E, B, env, fl, env', r, ef, k⟩ => by
  cases ef
  exact k σ B H r Sub.rfl'
def retS (f : Ev Res) : Es := fun env => (f env).bind fun p => some (.rt p.1, p.2)
theorem s_ret {f : Ev Res} (he : PE X e (tR X.K f)) : PS X (.Return (some e) pos) (tS X.K (retS f)) := psImp (ps_ret he) fun D σ H ⟨E, B, env, fl, env', r, ef, k⟩ => by
  obtain ⟨p, e1, ef⟩ := bindS ef
  cases ef
  exact ⟨E, B, env, p.1, p.2, r, e1, fun v B' H' r' s' z => k v σ B' H' r' s' z⟩
/-- a name whose thing leaves the frame -/
def takeR (i : Nat) : Ev Res := fun env => match env[i]? with
  | some (some (.fz d)) => some (.d d, env)
  | some (some (.ol false ds)) => some (.l ds, env.set i none)
  | some (some (.od false ds)) => some (.k ds, env.set i none)
  | _ => none
theorem RR.take {E : Ent} {B H : Hp} {σ : L2.St} {env : Env} {i : Nat} {x : Res} (r : RR K E B H σ env) (h : env[i]? = some (some x.ov)) (w : x.ov.owned = true) (hio : x.ov.io = false) : ∃ v, σ[i]? = some (some v) ∧ RR K E B H σ (env.set i none) ∧ ResV E B H σ (env.set i none) x v := by
  obtain ⟨a, o, h1, h2, h3, h4⟩ := r.owns h w
  have look : ∀ (j : Nat) (ov : OV), (env.set i none)[j]? = some (some ov) → j ≠ i ∧ env[j]? = some (some ov) := fun j ov e => by
    by_cases hj : j = i
    · subst hj
      by_cases hl : j < env.length
      · rw [List.getElem?_set_self hl] at e; cases e
      · rw [List.getElem?_eq_none (by simpa using hl)] at e; cases e
    · rw [List.getElem?_set_ne (Ne.symm hj)] at e
      exact ⟨hj, e⟩
  refine ⟨.ref a, h1, r.less (by simpa using r.len) fun j ov e => ⟨(look j ov e).2, rfl⟩, ?_⟩
  have own : ∃ p o, V.ref a = .ref p ∧ H p = some o ∧ OwnO B p x.ov o ∧ B p = none ∧ (∀ j, ¬ Own σ (env.set i none) j p) ∧ (E.H0 p = none ∨ E.Z p) := by
    refine ⟨a, o, rfl, h2, h3, h4, fun j ⟨ov, w1, w2, w3⟩ => ?_, r.ownz i a _ h w hio h1⟩
    obtain ⟨hj, e⟩ := look j ov w1
    exact hj (r.inj j i a ⟨ov, e, w2, w3⟩ ⟨_, h, w, h1⟩)
  cases x with
  | d d => cases w
  | l ds => exact own
  | k ds => exact own
theorem e_take {i : Nat} (h : PE X e (tVar i)) : PE X e (tR X.K (takeR i)) := peImp h fun σ H Q ⟨E, B, env, x, env', r, ef, k⟩ => by
  unfold takeR at ef
  split at ef
  · rename_i d hd
    cases ef
    obtain ⟨v, hv, ok⟩ := r.slot i _ hd
    exact ⟨v, hv, k v B H r Sub.rfl' ok⟩
  · rename_i ds hd
    cases ef
    obtain ⟨v, hv, r', rv⟩ := r.take (x := .l ds) hd rfl rfl
    exact ⟨v, hv, k v B H r' Sub.rfl' rv⟩
  · rename_i ds hd
    cases ef
    obtain ⟨v, hv, r', rv⟩ := r.take (x := .k ds) hd rfl rfl
    exact ⟨v, hv, k v B H r' Sub.rfl' rv⟩
  · cases ef
end

/-! ### a def by its body's evaluator -/
def argOv : Opd → Option OV
  | .v d => some (.fz d)
  | .s ns => some (.scr ns)
  | .r _ => none
def envOf (n : Nat) (avs : List Opd) : Env := avs.map argOv ++ List.replicate (n - avs.length) none
def resOfFl : Fl → Option Res
  | .nx => some (.d .none)
  | .rt r => some r
  | _ => none
/-- the def's value: n slots, the arguments first -/
def runT (n : Nat) (body : Es) (avs : List Opd) : Option Res := (body (envOf n avs)).bind fun p => resOfFl p.1
theorem start_get {N : List Str} {vs : List V} {i : Nat} {v : V} (h : (L2.start N vs)[i]? = some (some v)) : vs[i]? = some v := by
  unfold L2.start at h
  by_cases hi : i < vs.length
  · rw [List.getElem?_append_left (by simpa using hi), List.getElem?_map] at h
    cases e : vs[i]? with
    | none => rw [e] at h; cases h
    | some a => rw [e] at h; cases h; rfl
  · rw [List.getElem?_append_right (by simpa using hi), List.getElem?_replicate] at h
    split at h <;> cases h
theorem start_of {N : List Str} {vs : List V} {i : Nat} {v : V} (h : vs[i]? = some v) : (L2.start N vs)[i]? = some (some v) := by
  have hi : i < vs.length := (List.getElem?_eq_some_iff.mp h).1
  unfold L2.start
  rw [List.getElem?_append_left (by simpa using hi), List.getElem?_map, h]
  rfl
theorem envOf_get {n : Nat} {avs : List Opd} {i : Nat} {ov : OV} (h : (envOf n avs)[i]? = some (some ov)) : ∃ a, avs[i]? = some a ∧ argOv a = some ov := by
  unfold envOf at h
  by_cases hi : i < avs.length
  · rw [List.getElem?_append_left (by simpa using hi), List.getElem?_map] at h
    cases e : avs[i]? with
    | none => rw [e] at h; cases h
    | some a =>
      rw [e] at h
      exact ⟨a, rfl, Option.some.inj h⟩
  · rw [List.getElem?_append_right (by simpa using hi), List.getElem?_replicate] at h
    split at h <;> cases h
theorem opvs_get {K : PySem.W.Frag} {B : Hp} {σ : L2.St} : ∀ {xs : List Opd} {us : List V} {i : Nat} {a : Opd}, OpVs K B σ xs us → xs[i]? = some a → ∃ u, us[i]? = some u ∧ OpV K B σ a u
  | [], _, _, _, _, e => by simp at e
  | x :: xs, _, 0, a, ⟨u, r, e0, h, k⟩, e => by subst e0; simp at e; subst e; exact ⟨u, rfl, h⟩
  | x :: xs, _, i + 1, a, ⟨u, r, e0, h, k⟩, e => by
    subst e0
    obtain ⟨u', h1, h2⟩ := opvs_get (i := i) (a := a) k (by simpa using e)
    exact ⟨u', by simpa using h1, h2⟩
theorem argOv_plain {a : Opd} {ov : OV} (h : argOv a = some ov) : ov.owned = false ∧ ov.io = false := by
  cases a with
  | v d => cases h; exact ⟨rfl, rfl⟩
  | s ns => cases h; exact ⟨rfl, rfl⟩
  | r i => cases h
/-- the entry of a def of trees -/
def entT (H B : Hp) (σ : L2.St) : Ent := { H0 := H, B0 := B, I := fun _ => False, Z := fun _ => False, s0 := σ, J := fun _ => False }
theorem rrT {K : PySem.W.Frag} {B H : Hp} {N : List Str} {avs : List Opd} {vs : List V} (s : Sub B H) (tb : TabsK K B H) (hl : avs.length ≤ N.length) (h : OpVs K B [] avs vs) : RR K (entT H B (L2.start N vs)) B H (L2.start N vs) (envOf N.length avs) := by
  have hvl := opvs_len h
  have plain : ∀ (i : Nat) (ov : OV), (envOf N.length avs)[i]? = some (some ov) → ov.owned = false ∧ ov.io = false := fun i ov e => by
    obtain ⟨a, _, e2⟩ := envOf_get e
    exact argOv_plain e2
  refine ⟨s, Sub.rfl', fun _ z => z, fun _ _ e _ _ => e, tb, fun _ e => e, fun _ _ e => .inl e, ?_, fun i ov e => ?_, fun i a ⟨ov, e, w, _⟩ => ?_, fun i a ov e w _ _ => ?_, fun i j a ⟨ov, e, w, _⟩ _ => ?_, fun i ov e w => ?_⟩
  · unfold L2.start envOf
    simp [hvl]
  · obtain ⟨a, e1, e2⟩ := envOf_get e
    obtain ⟨u, h1, h2⟩ := opvs_get h e1
    refine ⟨u, start_of h1, ?_⟩
    cases a with
    | v d => cases e2; exact h2
    | s ns => cases e2; exact h2
    | r i => cases e2
  · rw [(plain i ov e).1] at w; cases w
  · rw [(plain i ov e).1] at w; cases w
  · rw [(plain i ov e).1] at w; cases w
  · rw [(plain i ov e).2] at w; cases w
theorem ResV.newT {H B0 B' H' : Hp} {σ0 σ : L2.St} {env : Env} {x : Res} {u : V} (h : ResV (entT H B0 σ0) B' H' σ env x u) : NewV B0 H H' B' x u := by
  have own : (∃ p o, u = .ref p ∧ H' p = some o ∧ OwnO B' p x.ov o ∧ B' p = none ∧ (∀ j, ¬ Own σ env j p) ∧ ((entT H B0 σ0).H0 p = none ∨ (entT H B0 σ0).Z p)) → ∃ p o, u = .ref p ∧ H p = none ∧ H' p = some o ∧ OwnO B' p x.ov o ∧ B' p = none := by
    rintro ⟨p, o, rfl, h1, h2, h3, _, h5⟩
    rcases h5 with z | z
    · exact ⟨p, o, rfl, z, h1, h2, h3⟩
    · exact False.elim z
  cases x with
  | d d => exact h
  | l ds => exact own h
  | k ds => exact own h
theorem RR.growT {K : PySem.W.Frag} {H B0 B' H' : Hp} {σ0 σ : L2.St} {env : Env} (r : RR K (entT H B0 σ0) B' H' σ env) : GrowC K B0 H B' H' :=
  ⟨r.b0, fun a o e nt => r.keep a o e (fun z => z) nt, r.there, r.bh, fun a o e => by
    rcases r.new a o e with z | z | z
    · exact .inl z
    · exact .inr z
    · exact False.elim z, r.tb⟩
section
variable {P : Program} {w : World} {K : PySem.W.Frag} {mg : Str → Option Value} {base : Heap}
/-- the promise of a def of trees, from its body's value -/
theorem okT_at {N ps : List Str} {body : Es} {vs : List V} {H : Hp} {Q : VK} {E : XK} (hnl : ps.length ≤ N.length) (hsp : spT K ps.length (runT N.length body) vs H Q E) : tS K body { nx := fun _ H' => Q .non H', rt := Q } (L2.start N vs) H := by
  obtain ⟨B, avs, res, s0, tb, hn, hl, ho, hg2, kk⟩ := hsp
  obtain ⟨p, e1, e2⟩ := bindS hg2
  refine ⟨entT H B (L2.start N vs), B, envOf N.length avs, p.1, p.2, rrT s0 tb (by omega) ho, e1, ?_⟩
  cases hp : p.1 with
  | nx =>
    rw [hp] at e2
    cases e2
    exact fun σ' B' H' r' s' => kk .non B' H' r'.growT (show Rep _ _ _ from .non)
  | bk => rw [hp] at e2; cases e2
  | ct => rw [hp] at e2; cases e2
  | rt r =>
    rw [hp] at e2
    cases e2
    exact fun v σ' B' H' r' s' z => kk v B' H' r'.growT z.newT
theorem okT {x qual : Str} {st : Stmt} {f : Addr} {fd : FuncData} {N ps : List Str} {k : Nat} {body : Es} (F : L2.Fun K x qual st f fd) (S : FnScope N ps (defScope st)) (hnl : ps.length ≤ N.length)
    (hb : ∀ (cdv : Value) (A : Around) (outer : List PySem.Env) (s : Shared) (H : Hp) (E : XK), A.guards = some [] → Room k (A.deeper (envOfC qual (defScope st) s.heap.objs.size f cdv)) →
      PSs (cxOf CX0 P w K mg base N qual (defScope st) f cdv A outer s H E).nox (defBody st) (tS K body)) : FnG P w K mg base CX0 (k + 1) f fd ps (spT K ps.length (runT N.length body)) := by
  refine Fun.okG F S spT_len fun cdv A outer s H vs Q E hg hr hsp => ⟨_, hb cdv A outer s H E hg hr, ?_⟩
  exact okT_at hnl hsp
end
end NS

set_option Elab.async false
set_option linter.all false
set_option maxRecDepth 100000
set_option maxHeartbeats 4000000
/-! NsI: a def whose first argument is lent. -/
namespace NS
open PySem L2 PyProof.Rows NT
variable [W : NT.Wd]
def runU (n : Nat) (body : Es) (ov : OV) (avs : List Opd) : Option (Res × OV) := (body (some (ov.setIo true) :: envOf (n - 1) avs)).bind fun p => (resOfFl p.1).bind fun r => match p.2[0]? with
  | some (some ov') => guardO (ov'.owned && ov'.io) (some (r, ov'.setIo false))
  | _ => none
def entU (H B : Hp) (σ : L2.St) (a : Addr) : Ent := { H0 := H, B0 := B, I := fun b => b = a, Z := fun _ => False, s0 := σ, J := fun i => i = 0 }
theorem rrU {K : PySem.W.Frag} {B H : Hp} {N : List Str} {avs : List Opd} {rest : List V} {a : Addr} {o : HO} {ov : OV} (s : Sub B H) (ha : H a = some o) (hov : OwnO B a ov o) (hb : B a = none) (hl : avs.length + 1 ≤ N.length) (h : OpVs K B [] avs rest) (tb : TabsK K B H) :
    RR K (entU H B (L2.start N (.ref a :: rest)) a) B H (L2.start N (.ref a :: rest)) (some (ov.setIo true) :: envOf (N.length - 1) avs) := by
  have hvl := opvs_len h
  have look : ∀ (i : Nat) (u : OV), (some (ov.setIo true) :: envOf (N.length - 1) avs)[i]? = some (some u) → (i = 0 ∧ u = ov.setIo true) ∨ ∃ j x, i = j + 1 ∧ avs[j]? = some x ∧ argOv x = some u := fun i u e => by
    cases i with
    | zero => simp at e; exact .inl ⟨rfl, e.symm⟩
    | succ j =>
      obtain ⟨x, e1, e2⟩ := envOf_get (show (envOf (N.length - 1) avs)[j]? = _ by simpa using e)
      exact .inr ⟨j, x, rfl, e1, e2⟩
  have h0 : (L2.start N (.ref a :: rest))[0]? = some (some (.ref a)) := start_of (by simp)
  have own0 : ∀ i b, Own (L2.start N (.ref a :: rest)) (some (ov.setIo true) :: envOf (N.length - 1) avs) i b → i = 0 ∧ b = a := fun i b ⟨u, e, w, q⟩ => by
    rcases look i u e with ⟨rfl, _⟩ | ⟨j, x, _, _, e2⟩
    · rw [h0] at q
      cases q
      exact ⟨rfl, rfl⟩
    · rw [(argOv_plain e2).1] at w; cases w
  refine ⟨s, Sub.rfl', fun _ z => False.elim z, fun _ _ e _ _ => e, tb, fun _ e => e, fun _ _ e => .inl e, ?_, fun i u e => ?_, fun i b q => .inl (own0 i b q).2, fun i b u e w wi q => ?_, fun i j b q q' => by rw [(own0 i b q).1, (own0 j b q').1], fun i u e w => ?_⟩
  · unfold L2.start envOf
    simp [hvl]
    omega
  · rcases look i u e with ⟨rfl, rfl⟩ | ⟨j, x, rfl, e1, e2⟩
    · exact ⟨_, h0, OvOk.of_own ha hov.setIo hb⟩
    · obtain ⟨v, h1, h2⟩ := opvs_get h e1
      refine ⟨v, start_of (by simpa using h1), ?_⟩
      cases x with
      | v d => cases e2; exact h2
      | s ns => cases e2; exact h2
      | r i => cases e2
  · rcases look i u e with ⟨rfl, rfl⟩ | ⟨j, x, _, _, e2⟩
    · rw [hov.io_eq] at wi; cases wi
    · rw [(argOv_plain e2).1] at w; cases w
  · rcases look i u e with ⟨rfl, rfl⟩ | ⟨j, x, _, _, e2⟩
    · exact ⟨rfl, rfl⟩
    · rw [(argOv_plain e2).2] at w; cases w
theorem RR.aftU {K : PySem.W.Frag} {H B0 B' H' : Hp} {σ0 σ : L2.St} {env : Env} {a : Addr} (r : RR K (entU H B0 σ0 a) B' H' σ env) : Aft K a B0 H B' H' :=
  ⟨r.b0, r.bh, fun b o e n nt => r.keep b o e n nt, r.there, r.tb, fun b o e => by
    rcases r.new b o e with z | z | z
    · exact .inl z
    · exact .inr z
    · exact False.elim z⟩
theorem ResV.newU {H B0 B' H' : Hp} {σ0 σ : L2.St} {env : Env} {a : Addr} {x : Res} {u : V} (h : ResV (entU H B0 σ0 a) B' H' σ env x u) : NewA H H' B' x u := by
  have own : (∃ p o, u = .ref p ∧ H' p = some o ∧ OwnO B' p x.ov o ∧ B' p = none ∧ (∀ j, ¬ Own σ env j p) ∧ ((entU H B0 σ0 a).H0 p = none ∨ (entU H B0 σ0 a).Z p)) → ∃ p o, u = .ref p ∧ H p = none ∧ H' p = some o ∧ OwnO B' p x.ov o ∧ B' p = none := by
    rintro ⟨p, o, rfl, h1, h2, h3, _, h5⟩
    rcases h5 with z | z
    · exact ⟨p, o, rfl, z, h1, h2, h3⟩
    · exact False.elim z
  cases x with
  | d d => exact h
  | l ds => exact own h
  | k ds => exact own h
section
variable {P : Program} {w : World} {K : PySem.W.Frag} {mg : Str → Option Value} {base : Heap}
theorem okU {x qual : Str} {st : Stmt} {f : Addr} {fd : FuncData} {N ps : List Str} {k : Nat} {body : Es} (F : L2.Fun K x qual st f fd) (S : FnScope N ps (defScope st)) (hnl : ps.length ≤ N.length)
    (hb : ∀ (cdv : Value) (A : Around) (outer : List PySem.Env) (s : Shared) (H : Hp) (E : XK), A.guards = some [] → Room k (A.deeper (envOfC qual (defScope st) s.heap.objs.size f cdv)) →
      PSs (cxOf CX0 P w K mg base N qual (defScope st) f cdv A outer s H E).nox (defBody st) (tS K body)) : FnG P w K mg base CX0 (k + 1) f fd ps (spU K ps.length (runU N.length body)) := by
  refine Fun.okG F S spU_len fun cdv A outer s H vs Q E hg hr hsp => ⟨_, hb cdv A outer s H E hg hr, ?_⟩
  obtain ⟨B, a, o, ov, avs, rest, res, ov', s0, tb, rfl, ha, hov, hb0, hn, hl, ho, hg2, kk⟩ := hsp
  obtain ⟨p, e1, e2⟩ := bindS hg2
  obtain ⟨r, e3, e4⟩ := bindS e2
  split at e4
  · rename_i ou hou
    obtain ⟨hw, e5⟩ := guardS e4
    cases e5
    simp only [Bool.and_eq_true] at hw
    have fin : ∀ {σ' : L2.St} {B' H' : Hp}, RR K (entU H B (L2.start N (.ref a :: rest)) a) B' H' σ' p.2 → ∃ o', H' a = some o' ∧ OwnO B' a (ou.setIo false) o' ∧ B' a = none := fun {σ' B' H'} r' => by
      obtain ⟨c, oc, h1, h2, h3, h4⟩ := r'.owns hou hw.1
      obtain ⟨_, e⟩ := r'.ios 0 ou hou hw.2
      have h0 : (L2.start N (.ref a :: rest))[0]? = some (some (.ref a)) := start_of (by simp)
      have e' : σ'[0]? = some (some (.ref a)) := e.trans h0
      rw [h1] at e'
      cases e'
      exact ⟨oc, h2, h3.setIo, h4⟩
    refine ⟨entU H B (L2.start N (.ref a :: rest)) a, B, _, p.1, p.2, rrU s0 ha hov hb0 (by omega) ho tb, e1, ?_⟩
    cases hp : p.1 with
    | nx =>
      rw [hp] at e3
      cases e3
      exact fun σ' B' H' r' s' => by
        obtain ⟨o', f1, f2, f3⟩ := fin r'
        exact kk .non B' H' o' r'.aftU f1 f2 f3 (show Rep _ _ _ from .non)
    | bk => rw [hp] at e3; cases e3
    | ct => rw [hp] at e3; cases e3
    | rt rr =>
      rw [hp] at e3
      cases e3
      exact fun v σ' B' H' r' s' z => by
        obtain ⟨o', f1, f2, f3⟩ := fin r'
        exact kk v B' H' o' r'.aftU f1 f2 f3 z.newU
  · cases e4
end
end NS

set_option Elab.async false
set_option linter.all false
set_option maxRecDepth 100000
set_option maxHeartbeats 4000000
/-! NsP: operations on trees. -/
namespace NS
open PySem L2 PyProof.Rows NT
variable [W : NT.Wd]
def BIGN : Nat := 2 ^ 1000
theorem big_log {x : Int} (h : x.natAbs < BIGN) : x.natAbs.log2 < 1000 := by
  by_cases h0 : x.natAbs = 0
  · rw [h0]; decide
  · exact (Nat.log2_lt h0).mpr h
section
variable {X : Cx}
/-! ### a result without a new object -/
theorem newD {B H : Hp} {d : D} {u : V} {Q : VK} (s : Sub B H) (rep : Rep B u d) (k : ∀ w B' H', Grow B H B' H' → NewV B H H' B' (.d d) w → Q w H') : Q u H := k u B H (Grow.id s) rep
theorem newL {B H : Hp} {ds : List D} {vs : List V} {Q : VK} {p : Addr} (s : Sub B H) (rep : Reps B vs ds) (hp : H p = none) (k : ∀ w B' H', Grow B H B' H' → NewV B H H' B' (.l ds) w → Q w H') : Q (.ref p) (upd H p (.lst vs)) :=
  k (.ref p) B _ (Grow.heap s hp) ⟨p, _, rfl, hp, upd_same, ⟨vs, rfl, rep⟩, s.off hp⟩
theorem newT {B H : Hp} {ds : List D} {vs : List V} {Q : VK} {p : Addr} (s : Sub B H) (rep : Reps B vs ds) (hp : H p = none) (k : ∀ w B' H', Grow B H B' H' → NewV B H H' B' (.d (.tuple ds)) w → Q w H') : Q (.ref p) (upd H p (.tup vs)) :=
  k (.ref p) (upd B p (.tup vs)) _ (Grow.both s hp) (show Rep _ _ _ from .tup upd_same (rep.mono (Grow.both s hp).bb))
/-! ### + - * // % ** -/
def gAdd : D → D → Option Res
  | .int i, .int j => some (.d (.int (i + j)))
  | .list a, .list b => guardO (decide (a.length + b.length ≤ 1000000)) (some (.l (a ++ b)))
  | .str a, .str b => guardO (decide (a.length + b.length ≤ 1000000)) (some (.d (.str (a ++ b))))
  | .tuple a, .tuple b => guardO (decide (a.length + b.length ≤ 1000000)) (some (.d (.tuple (a ++ b))))
  | _, _ => none
def rStr2 : R2 := fun x y H Q => ∃ i j, x = .str i ∧ y = .str j ∧ i.length + j.length ≤ sizeLine ∧ Q (.str (i ++ j)) H
def rAddAll (K : PySem.W.Frag) : R2 := fun x y H Q => (((rI0 fun i j => .int (i + j)) x y H Q ∨ rCat x y H Q) ∨ rStr2 x y H Q) ∨ rCatA K x y H Q
theorem o_add : OpR X (binaryOp .Add) (rAddAll X.K) := ((op_add.or op_cat).or op_add_str).or op_catA
theorem p_add {K : PySem.W.Frag} : Prim2 (rAddAll K) gAdd := fun B H u v dx dy res Q s hx hy e k => by
  cases dx with
  | int i =>
    cases dy with
    | int j =>
      cases e
      exact .inl (.inl (.inl ⟨i, j, hx.int, hy.int, newD s (.int _) k⟩))
    | _ => cases e
  | list a =>
    cases dy with
    | list b =>
      obtain ⟨hl, e⟩ := guardS e
      cases e
      obtain ⟨p, vs, rfl, h1, r1⟩ := hx.lst s
      obtain ⟨q, us, rfl, h2, r2⟩ := hy.lst s
      exact .inl (.inl (.inr ⟨p, q, vs, us, rfl, rfl, h1, h2, by rw [r1.len, r2.len]; exact line6 (of_decide_eq_true hl), fun c hc => newL s (r1.app r2) hc k⟩))
    | _ => cases e
  | str a =>
    cases dy with
    | str b =>
      obtain ⟨hl, e⟩ := guardS e
      cases e
      exact .inl (.inr ⟨a, b, hx.str, hy.str, line6 (of_decide_eq_true hl), newD s (.str _) k⟩)
    | _ => cases e
  | tuple a =>
    cases dy with
    | tuple b =>
      obtain ⟨hl, e⟩ := guardS e
      cases e
      have hx' : Rep B u (.tuple a) := by
        rcases hx with h | ⟨_, _, ov, _, _, h2, h3, _⟩
        · exact h
        · cases ov <;> first | exact False.elim h2 | cases h3
      have hy' : Rep B v (.tuple b) := by
        rcases hy with h | ⟨_, _, ov, _, _, h2, h3, _⟩
        · exact h
        · cases ov <;> first | exact False.elim h2 | cases h3
      obtain ⟨p, vs, rfl, h1, r1⟩ := hx.tup s
      obtain ⟨q, us, rfl, h2, r2⟩ := hy.tup s
      refine .inr ⟨p, q, vs, us, rfl, rfl, SqT.of h1, SqT.of h2, by rw [r1.len, r2.len]; exact line6 (of_decide_eq_true hl), fun z => ?_, fun _ z => ?_, fun _ _ c hc => newT s (r1.app r2) hc k⟩
      · subst z
        have : a = [] := by
          have := r1.len
          simpa using this.symm
        subst this
        exact newD s hy' k
      · subst z
        have : b = [] := by
          have := r2.len
          simpa using this.symm
        subst this
        rw [List.append_nil] at k
        exact newD s hx' k
    | _ => cases e
  | _ => cases e
def gSub2 : D → D → Option Res
  | .int i, .int j => some (.d (.int (i - j)))
  | _, _ => none
theorem p_sub : Prim2 (rI0 fun i j => .int (i - j)) gSub2 := fun B H u v dx dy res Q s hx hy e k => by
  cases dx <;> cases dy <;> first | (cases e; done) | (cases e; exact ⟨_, _, hx.int, hy.int, newD s (.int _) k⟩)
def gMul : D → D → Option Res
  | .int i, .int j => guardO (decide (i.natAbs < BIGN) && decide (j.natAbs < BIGN)) (some (.d (.int (i * j))))
  | .list a, .int j => guardO (decide (-1000000 ≤ j) && decide (j ≤ 1000000) && decide (a.length * j.toNat ≤ 1000000)) (some (.l (List.replicate j.toNat a).flatten))
  | _, _ => none
def rMulAll : R2 := fun x y H Q => (rI CMulW fun i j => .int (i * j)) x y H Q ∨ rRep x y H Q
theorem o_mul : OpR X (binaryOp .Mult) rMulAll := op_mulW.or op_rep
theorem p_mul : Prim2 rMulAll gMul := fun B H u v dx dy res Q s hx hy e k => by
  cases dx with
  | int i =>
    cases dy with
    | int j =>
      obtain ⟨hl, e⟩ := guardS e
      cases e
      simp only [Bool.and_eq_true, decide_eq_true_eq] at hl
      refine .inl ⟨i, j, hx.int, hy.int, ?_, newD s (.int _) k⟩
      have h1 := big_log hl.1
      have h2 := big_log hl.2
      unfold CMulW
      omega
    | _ => cases e
  | list a =>
    cases dy with
    | int j =>
      obtain ⟨hl, e⟩ := guardS e
      cases e
      simp only [Bool.and_eq_true, decide_eq_true_eq] at hl
      obtain ⟨p, vs, rfl, h1, r1⟩ := hx.lst s
      exact .inr ⟨p, j, vs, rfl, hy.int, h1, by omega, by omega, by rw [r1.len]; exact line6 hl.2, fun c hc => newL s (r1.rep _) hc k⟩
    | _ => cases e
  | _ => cases e
def gFdiv : D → D → Option Res
  | .int i, .int j => guardO (decide (0 < j) && decide (j.natAbs < BIGN)) (some (.d (.int (i / j))))
  | _, _ => none
theorem p_fdiv : Prim2 (rI CDivW fun i j => .int (i / j)) gFdiv := fun B H u v dx dy res Q s hx hy e k => by
  cases dx with
  | int i =>
    cases dy with
    | int j =>
      obtain ⟨hl, e⟩ := guardS e
      cases e
      simp only [Bool.and_eq_true, decide_eq_true_eq] at hl
      refine ⟨i, j, hx.int, hy.int, ⟨hl.1, ?_⟩, newD s (.int _) k⟩
      have := big_log hl.2
      omega
    | _ => cases e
  | _ => cases e
def gMod : D → D → Option Res
  | .int i, .int j => guardO (decide (0 < j)) (some (.d (.int (i % j))))
  | _, _ => none
theorem p_mod : Prim2 (rI (fun _ j => 0 < j) fun i j => .int (i % j)) gMod := fun B H u v dx dy res Q s hx hy e k => by
  cases dx with
  | int i =>
    cases dy with
    | int j =>
      obtain ⟨hl, e⟩ := guardS e
      cases e
      exact ⟨i, j, hx.int, hy.int, of_decide_eq_true hl, newD s (.int _) k⟩
    | _ => cases e
  | _ => cases e
def gPow : D → D → Option Res
  | .int i, .int j => guardO (decide (0 ≤ j) && decide (j ≤ 1000) && decide (i.natAbs < 18446744073709551616)) (some (.d (.int (i ^ j.toNat))))
  | _, _ => none
theorem p_pow : Prim2 (rI CPow fun i j => .int (i ^ j.toNat)) gPow := fun B H u v dx dy res Q s hx hy e k => by
  cases dx with
  | int i =>
    cases dy with
    | int j =>
      obtain ⟨hl, e⟩ := guardS e
      cases e
      simp only [Bool.and_eq_true, decide_eq_true_eq] at hl
      exact ⟨i, j, hx.int, hy.int, ⟨hl.1.1, by omega, by omega⟩, newD s (.int _) k⟩
    | _ => cases e
  | _ => cases e
/-! ### comparisons -/
def gCmp (p : Int → Int → Bool) : D → D → Option Res
  | .int i, .int j => some (.d (.bool (p i j)))
  | _, _ => none
theorem p_cmp {p : Int → Int → Bool} : Prim2 (rI0 fun i j => .bl (p i j)) (gCmp p) := fun B H u v dx dy res Q s hx hy e k => by
  cases dx <;> cases dy <;> first | (cases e; done) | (cases e; exact ⟨_, _, hx.int, hy.int, newD s (.bl _) k⟩)
mutual
theorem Rep.dp (K : PySem.W.Frag) {H : Hp} : ∀ {v : V} {d : D}, Rep H v d → d.canLay0 = true → Dp K H v d
  | _, _, .non, _ => .non
  | _, _, .bl b, _ => .bl b
  | _, _, .int i, _ => .int i
  | _, _, .str x, _ => .str x
  | _, _, .lst h r, e => .lst (SqL.of h) (Reps.dp K r e)
  | _, _, .tup h r, e => .tup (SqT.of h) (Reps.dp K r e)
  | _, _, .dic _ _ _ _, e => nomatch e
theorem Reps.dp (K : PySem.W.Frag) {H : Hp} : ∀ {vs : List V} {ds : List D}, Reps H vs ds → PyData.canLayAll0 ds = true → DpAll K H vs ds
  | _, _, .nil, _ => .nil
  | _, _, .cons a b, e => by
    have e' : (PyData.canLay0 _ && PyData.canLayAll0 _) = true := e
    obtain ⟨e1, e2⟩ := Bool.and_eq_true_iff.mp e'
    exact .cons (Rep.dp K a e1) (Reps.dp K b e2)
end
def gEq : D → D → Option Res := fun x y => guardO (SeqAt.shaped x && SeqAt.shaped y) (some (.d (.bool (PyData.eqv x y))))
def gNe : D → D → Option Res := fun x y => guardO (SeqAt.shaped x && SeqAt.shaped y) (some (.d (.bool (!PyData.eqv x y))))
theorem p_eq {K : PySem.W.Frag} : Prim2 (rEqD K) gEq := fun B H u v dx dy res Q s hx hy e k => by
  obtain ⟨hl, e⟩ := guardS e
  cases e
  obtain ⟨h1, h2⟩ := Bool.and_eq_true_iff.mp hl
  exact ⟨dx, dy, (hx.rep s).dp K (SeqAt.canLay_of_shaped h1), (hy.rep s).dp K (SeqAt.canLay_of_shaped h2), h1, h2, newD s (.bl _) k⟩
theorem p_ne {K : PySem.W.Frag} : Prim2 (rNeD K) gNe := fun B H u v dx dy res Q s hx hy e k => by
  obtain ⟨hl, e⟩ := guardS e
  cases e
  obtain ⟨h1, h2⟩ := Bool.and_eq_true_iff.mp hl
  exact ⟨dx, dy, (hx.rep s).dp K (SeqAt.canLay_of_shaped h1), (hy.rep s).dp K (SeqAt.canLay_of_shaped h2), h1, h2, newD s (.bl _) k⟩
/-! ### subscripts, slices -/
def gIx : D → D → Option Res
  | .list ds, .int i => (atI ds i).bind fun d => some (.d d)
  | .tuple ds, .int i => (atI ds i).bind fun d => some (.d d)
  | .str x, .int i => guardO (decide (x.length ≤ 1000000)) ((atI x.cps.toList i).bind fun c => some (.d (.str ⟨#[c]⟩)))
  | _, _ => none
theorem atI_rep {B : Hp} {vs : List V} {ds : List D} {i : Int} {d : D} (r : Reps B vs ds) (h : atI ds i = some d) : ∃ v, atI vs i = some v ∧ Rep B v d := by
  unfold atI at h ⊢
  rw [r.len]
  obtain ⟨j, h1, h2⟩ := bindS h
  obtain ⟨v, h3, h4⟩ := r.get h2
  exact ⟨v, by rw [h1]; exact h3, h4⟩
theorem p_ix {K : PySem.W.Frag} : Prim2 (rIx K) gIx := fun B H u v dx dy res Q s hx hy e k => by
  cases dx with
  | list ds =>
    cases dy with
    | int i =>
      obtain ⟨d, e1, e⟩ := bindS e
      cases e
      obtain ⟨p, vs, rfl, h1, r1⟩ := hx.lst s
      obtain ⟨w, h2, r2⟩ := atI_rep r1 e1
      exact .inl ⟨p, vs, i, w, rfl, hy.int, SqL.of h1, h2, newD s r2 k⟩
    | _ => cases e
  | tuple ds =>
    cases dy with
    | int i =>
      obtain ⟨d, e1, e⟩ := bindS e
      cases e
      obtain ⟨p, vs, rfl, h1, r1⟩ := hx.tup s
      obtain ⟨w, h2, r2⟩ := atI_rep r1 e1
      exact .inr (.inl ⟨p, vs, i, w, rfl, hy.int, SqT.of h1, h2, newD s r2 k⟩)
    | _ => cases e
  | str x =>
    cases dy with
    | int i =>
      obtain ⟨hl, e⟩ := guardS e
      obtain ⟨c, e1, e⟩ := bindS e
      cases e
      exact .inr (.inr ⟨x, i, c, hx.str, hy.int, line6 (of_decide_eq_true hl), e1, newD s (.str _) k⟩)
    | _ => cases e
  | _ => cases e
def cutD (ds : List D) (lo hi : Option Int) : List D := (ds.drop (HT.sIx ds.length 0 lo)).take (HT.sIx ds.length ds.length hi - HT.sIx ds.length 0 lo)
theorem cut_rep {B : Hp} {vs : List V} {ds : List D} (r : Reps B vs ds) (lo hi : Option Int) : Reps B (cutV vs lo hi) (cutD ds lo hi) := by
  unfold cutV cutD
  rw [r.len]
  exact (r.drop _).take _
def gSl : D → Option Int → Option Int → Option Res
  | .list ds, lo, hi => some (.l (cutD ds lo hi))
  | _, _, _ => none
theorem p_sl {K : PySem.W.Frag} : PrimS (rSlL K) gSl := fun B H u d lo hi res Q s hx e k => by
  cases d with
  | list ds =>
    cases e
    obtain ⟨p, vs, rfl, h1, r1⟩ := hx.lst s
    exact ⟨p, vs, rfl, SqL.of h1, fun c hc => newL s (cut_rep r1 lo hi) hc k⟩
  | _ => cases e
/-- xs[::-1] -/
def revR (f : Ev Opd) : Ev Res := fun env => (f env).bind fun p => (opD p.2 p.1).bind fun d => match d with
  | .list ds => some (.l ds.reverse, p.2)
  | _ => none
theorem e_rev {e : Expr} {f : Ev Opd} {k : Nat} {p1 p2 p3 pos : Pos} (he : PE X e (tP X.K f)) : PE X (.Subscript e (.Slice none none (some (.UnaryOp .USub (.Constant (.int 1) k p1) p2)) p3) pos) (tR X.K (revR f)) := peImp (pe_revL he) fun σ H Q ⟨E, B, env, x, env', r, ef, kk⟩ => by
  obtain ⟨p, e1, ef⟩ := bindS ef
  obtain ⟨d, e2, ef⟩ := bindS ef
  cases d with
  | list ds =>
    cases ef
    refine ⟨E, B, env, p.1, p.2, r, e1, fun v B' H' r' s' z => ?_⟩
    obtain ⟨a, vs, rfl, h1, r1⟩ := (opRd r' z e2).lst r'.bh
    refine ⟨a, vs, rfl, SqL.of h1, fun c hc => ?_⟩
    exact newL (Q := Q) r'.bh r1.rev hc fun w B2 H2 gr nw => kk w B2 H2 (r'.grow gr) (s'.tr gr.bb) (nw.res r')
  | _ => cases ef
/-! ### calls of built-ins -/
theorem rds1 {B H : Hp} {us : List V} {d : D} (h : Rds B H us [d]) : ∃ u, us = [u] ∧ Rd B H u d := by
  cases us with
  | nil => cases (show [d] = [] from h)
  | cons u r =>
    obtain ⟨d', r', e, h1, h2⟩ := h
    cases e
    cases r with
    | nil => exact ⟨u, rfl, h1⟩
    | cons w t =>
      obtain ⟨_, _, e, _⟩ := h2
      cases e
theorem rds2 {B H : Hp} {us : List V} {d d2 : D} (h : Rds B H us [d, d2]) : ∃ u v, us = [u, v] ∧ Rd B H u d ∧ Rd B H v d2 := by
  cases us with
  | nil => cases (show [d, d2] = [] from h)
  | cons u r =>
    obtain ⟨d', r', e, h1, h2⟩ := h
    cases e
    obtain ⟨v, rfl, h3⟩ := rds1 h2
    exact ⟨u, v, rfl, h1, h3⟩
def gLen : List D → Option Res
  | [.list ds] => some (.d (.int ds.length))
  | [.tuple ds] => some (.d (.int ds.length))
  | [.str x] => guardO (decide (x.length ≤ 1000000)) (some (.d (.int x.length)))
  | _ => none
def rLenAll (K : PySem.W.Frag) : List V → Hp → VK → Prop := fun xs H Q => (∃ p ys, xs = [.ref p] ∧ (SqL K H p ys ∨ SqT K H p ys) ∧ Q (.int ys.length) H) ∨ (∃ z, xs = [.str z] ∧ z.length ≤ sizeLine ∧ Q (.int z.length) H)
theorem c_len : CallR X (.builtin "len") (rLenAll X.K) := call_len_seq.or call_len_str
theorem p_len {K : PySem.W.Frag} : PrimN (rLenAll K) gLen := fun B H us ds res Q s h e k => by
  unfold gLen at e
  split at e
  · rename_i xs
    cases e
    obtain ⟨u, rfl, hu⟩ := rds1 h
    obtain ⟨p, vs, rfl, h1, r1⟩ := hu.lst s
    exact .inl ⟨p, vs, rfl, .inl (SqL.of h1), by rw [r1.len]; exact newD s (.int _) k⟩
  · rename_i xs
    cases e
    obtain ⟨u, rfl, hu⟩ := rds1 h
    obtain ⟨p, vs, rfl, h1, r1⟩ := hu.tup s
    exact .inl ⟨p, vs, rfl, .inr (SqT.of h1), by rw [r1.len]; exact newD s (.int _) k⟩
  · rename_i x
    obtain ⟨hl, e⟩ := guardS e
    cases e
    obtain ⟨u, rfl, hu⟩ := rds1 h
    cases hu.str
    exact .inr ⟨x, rfl, line6 (of_decide_eq_true hl), newD s (.int _) k⟩
  · cases e
def gInt : List D → Option Res
  | [.int i] => some (.d (.int i))
  | [.bool b] => some (.d (.int (if b then 1 else 0)))
  | _ => none
theorem p_int : PrimN (fun xs H Q => (∃ i, xs = [V.int i] ∧ Q (.int i) H) ∨ ∃ k, xs = [V.bl k] ∧ Q (.int (if k then 1 else 0)) H) gInt := fun B H us ds res Q s h e k => by
  unfold gInt at e
  split at e
  · cases e
    obtain ⟨u, rfl, hu⟩ := rds1 h
    cases hu.int
    exact .inl ⟨_, rfl, newD s (.int _) k⟩
  · cases e
    obtain ⟨u, rfl, hu⟩ := rds1 h
    cases hu.bl
    exact .inr ⟨_, rfl, newD s (.int _) k⟩
  · cases e
def gAbs : List D → Option Res
  | [.int i] => some (.d (.int (if i < 0 then -i else i)))
  | _ => none
theorem p_abs : PrimN (fun xs H Q => ∃ i, xs = [V.int i] ∧ Q (.int (if i < 0 then -i else i)) H) gAbs := fun B H us ds res Q s h e k => by
  unfold gAbs at e
  split at e
  · cases e
    obtain ⟨u, rfl, hu⟩ := rds1 h
    cases hu.int
    exact ⟨_, rfl, newD s (.int _) k⟩
  · cases e
def gMin2 : List D → Option Res
  | [.int i, .int j] => some (.d (.int (if j < i then j else i)))
  | _ => none
theorem p_min2 : PrimN (fun xs H Q => ∃ i j, xs = [V.int i, V.int j] ∧ Q (.int (if j < i then j else i)) H) gMin2 := fun B H us ds res Q s h e k => by
  unfold gMin2 at e
  split at e
  · cases e
    obtain ⟨u, v, rfl, hu, hv⟩ := rds2 h
    cases hu.int
    cases hv.int
    exact ⟨_, _, rfl, newD s (.int _) k⟩
  · cases e
def gMax2 : List D → Option Res
  | [.int i, .int j] => some (.d (.int (if j > i then j else i)))
  | _ => none
theorem p_max2 : PrimN (fun xs H Q => ∃ i j, xs = [V.int i, V.int j] ∧ Q (.int (if j > i then j else i)) H) gMax2 := fun B H us ds res Q s h e k => by
  unfold gMax2 at e
  split at e
  · cases e
    obtain ⟨u, v, rfl, hu, hv⟩ := rds2 h
    cases hu.int
    cases hv.int
    exact ⟨_, _, rfl, newD s (.int _) k⟩
  · cases e
/-- all of them ints -/
def intsOf : List D → Option (List Int)
  | [] => some []
  | .int i :: ds => (intsOf ds).bind fun r => some (i :: r)
  | _ :: _ => none
theorem intsOf_eq : ∀ {ds : List D} {ns : List Int}, intsOf ds = some ns → ds = ns.map PyData.int
  | [], ns, e => by cases e; rfl
  | .int i :: ds, ns, e => by
    obtain ⟨r, e1, e2⟩ := bindS e
    cases e2
    simp [intsOf_eq e1]
  | .none :: _, _, e => nomatch e
  | .bool _ :: _, _, e => nomatch e
  | .str _ :: _, _, e => nomatch e
  | .list _ :: _, _, e => nomatch e
  | .tuple _ :: _, _, e => nomatch e
  | .dict _ :: _, _, e => nomatch e
theorem intsOf_map : ∀ ns : List Int, intsOf (ns.map PyData.int) = some ns
  | [] => rfl
  | n :: ns => by simp [intsOf, intsOf_map ns]
theorem intsV {B : Hp} {vs : List V} {ds : List D} {ns : List Int} (r : Reps B vs ds) (e : intsOf ds = some ns) : vs = ns.map V.int := by
  rw [intsOf_eq e] at r
  exact r.ints
def gSum : List D → Option Res
  | [.list ds] => (intsOf ds).bind fun ns => some (.d (.int ns.sum))
  | _ => none
theorem p_sum {K : PySem.W.Frag} : PrimN (rSum K) gSum := fun B H us ds res Q s h e k => by
  unfold gSum at e
  split at e
  · obtain ⟨ns, e1, e⟩ := bindS e
    cases e
    obtain ⟨u, rfl, hu⟩ := rds1 h
    obtain ⟨p, vs, rfl, h1, r1⟩ := hu.lst s
    have := intsV r1 e1
    subst this
    exact ⟨p, ns, rfl, SqL.of h1, newD s (.int _) k⟩
  · cases e
def gTup : List D → Option Res
  | [.list ds] => some (.d (.tuple ds))
  | [.tuple ds] => some (.d (.tuple ds))
  | _ => none
theorem rep_of_tup {B H : Hp} {u : V} {a : List D} (hx : Rd B H u (.tuple a)) : Rep B u (.tuple a) := by
  rcases hx with h | ⟨_, _, ov, _, _, h2, h3, _⟩
  · exact h
  · cases ov <;> first | exact False.elim h2 | cases h3
theorem p_tup {K : PySem.W.Frag} : PrimN (fun xs H Q => ∃ p ys, xs = [V.ref p] ∧ ((SqL K H p ys ∧ ∀ l, H l = none → Q (.ref l) (upd H l (.tup ys))) ∨ (SqT K H p ys ∧ Q (.ref p) H))) gTup := fun B H us ds res Q s h e k => by
  unfold gTup at e
  split at e
  · cases e
    obtain ⟨u, rfl, hu⟩ := rds1 h
    obtain ⟨p, vs, rfl, h1, r1⟩ := hu.lst s
    exact ⟨p, vs, rfl, .inl ⟨SqL.of h1, fun l hl => newT s r1 hl k⟩⟩
  · cases e
    obtain ⟨u, rfl, hu⟩ := rds1 h
    have hr := rep_of_tup hu
    obtain ⟨p, vs, rfl, h1, r1⟩ := hu.tup s
    exact ⟨p, vs, rfl, .inr ⟨SqT.of h1, newD s hr k⟩⟩
  · cases e
def gList : List D → Option Res
  | [.list ds] => some (.l ds)
  | [.tuple ds] => some (.l ds)
  | _ => none
theorem p_list {K : PySem.W.Frag} : PrimN (fun xs H Q => ∃ p ys, xs = [V.ref p] ∧ (SqL K H p ys ∨ SqT K H p ys) ∧ ∀ l, H l = none → Q (.ref l) (upd H l (.lst ys))) gList := fun B H us ds res Q s h e k => by
  unfold gList at e
  split at e
  · cases e
    obtain ⟨u, rfl, hu⟩ := rds1 h
    obtain ⟨p, vs, rfl, h1, r1⟩ := hu.lst s
    exact ⟨p, vs, rfl, .inl (SqL.of h1), fun l hl => newL s r1 hl k⟩
  · cases e
    obtain ⟨u, rfl, hu⟩ := rds1 h
    obtain ⟨p, vs, rfl, h1, r1⟩ := hu.tup s
    exact ⟨p, vs, rfl, .inr (SqT.of h1), fun l hl => newL s r1 hl k⟩
  · cases e
/-- list(range(a, b)) -/
def lstRgR (f : Ev (List D)) : Ev Res := fun env => (f env).bind fun p => guardO (decide (p.1.length ≤ 1000000)) (some (.l p.1, p.2))
end
end NS

set_option Elab.async false
set_option linter.all false
set_option maxRecDepth 100000
set_option maxHeartbeats 4000000
/-! NsQ: the text of a tree, sorted, sets of ints. -/
namespace NS
open PySem L2 PyProof.Rows NT
variable [W : NT.Wd]
section
variable {X : Cx}
def rRepr (K : PySem.W.Frag) : List V → Hp → VK → Prop := fun xs H Q => ∃ v d, xs = [v] ∧ Dp K H v d ∧ d.showable = true ∧ d.hasDict = false ∧ d.depth ≤ 60 ∧ d.shown.length ≤ sizeLine ∧ Q (.str d.shown) H
theorem c_repr (hg : X.A.guards = some []) (hu : X.A.units + 64 < cLine) : CallR X (.builtin "repr") (rRepr X.K) := by
  intro pins s σ H xs us Q I r h
  obtain ⟨v, d, rfl, hd, hs, hn, hdp, hz, q⟩ := h
  obtain ⟨u, rfl, rx⟩ := vals1 r
  have ref : ∀ (a : Addr) (as : List Addr), u = .ref a → Reads s.heap (.ref a) d as → wpAny (model X.prog X.w) X.A (call (.builtin "repr") [u]) (EP X pins σ Q) X.xe s := fun a as e rd => by
    subst e
    exact repr_of_reads' rd hs (fun z => by rw [hn] at z; cases z) hg (by omega) (fun _ _ z => z) (fun h' tk t' k => ⟨.str d.shown, H, I.kept (t' := t') k, ⟨_, rfl⟩, q⟩) hz
  cases d with
  | none =>
    cases hd
    cases rx
    exact PySem.P.repr_of_none ⟨.str _, H, I.tok _, ⟨_, rfl⟩, q⟩
  | bool b =>
    cases hd
    cases rx
    refine PySem.P.repr_of_bool ⟨.str _, H, I.tok _, ⟨_, rfl⟩, ?_⟩
    have e : (PyData.bool b).shown = (if b then "True" else "False" : Str) := by cases b <;> rfl
    rw [e] at q
    exact q
  | int i =>
    cases hd
    obtain ⟨t, rfl⟩ := rx
    exact PySem.P.repr_of_int (of_decide_eq_true hs) ⟨.str _, H, I.tok _, ⟨_, rfl⟩, q⟩
  | str x =>
    cases hd
    obtain ⟨t, rfl⟩ := rx
    exact PySem.P.repr_of_str ⟨.str _, H, I.tok _, ⟨_, rfl⟩, q⟩ hz
  | list ds =>
    obtain ⟨as, rd⟩ := Dp.reads I _ v u hd rx
    cases hd
    cases rx
    exact ref _ as rfl rd
  | tuple ds =>
    obtain ⟨as, rd⟩ := Dp.reads I _ v u hd rx
    cases hd
    cases rx
    exact ref _ as rfl rd
  | dict kvs => cases hn
def gRepr : List D → Option Res
  | [d] => guardO (d.canLay0 && d.showable && !d.hasDict && decide (d.depth ≤ 60) && decide (d.shown.length ≤ 1000000)) (some (.d (.str d.shown)))
  | _ => none
theorem p_repr {K : PySem.W.Frag} : PrimN (rRepr K) gRepr := fun B H us ds res Q s h e k => by
  unfold gRepr at e
  split at e
  · rename_i d
    obtain ⟨c, e⟩ := guardS e
    cases e
    simp only [Bool.and_eq_true, decide_eq_true_eq, Bool.not_eq_true'] at c
    obtain ⟨u, rfl, hu⟩ := rds1 h
    exact ⟨u, d, rfl, (hu.rep s).dp K c.1.1.1.1, c.1.1.1.2, c.1.1.2, c.1.2, line6 c.2, newD s (.str _) k⟩
  · cases e
/-- list(range(a, b)) -/
def lstRg2 (fa fb : Ev D) : Ev Res := fun env => (fa env).bind fun p => (fb p.2).bind fun q => match p.1, q.1 with
  | .int i, .int j => guardO (decide (0 ≤ i) && decide (i ≤ 1000000) && decide (0 ≤ j) && decide (j ≤ 1000000)) (some (.l (rangeD i (j - i).toNat), q.2))
  | _, _ => none
theorem rangeRep {B : Hp} (i j : Int) : Reps B (rgV i j) (rangeD i (j - i).toNat) := by
  unfold rgV rangeD
  generalize (j - i).toNat = n
  have : ∀ l : List Nat, Reps B (l.map fun k => V.int (i + (k : Nat))) (l.map fun (k : Nat) => PyData.int (i + k)) := fun l => by
    induction l with
    | nil => exact .nil
    | cons a l ih => exact .cons (.int _) ih
  exact this _
theorem e_lstRg2 {e : Expr} {fa fb : Ev D} (h : PE X e (tLstRg (tRg2 (tE X.K fa) (tE X.K fb)))) : PE X e (tR X.K (lstRg2 fa fb)) := peImp h fun σ H Q ⟨E, B, env, x, env', r, ef, k⟩ => by
  obtain ⟨pa, e1, ef⟩ := bindS ef
  obtain ⟨pb, e2, ef⟩ := bindS ef
  split at ef
  · rename_i i j h1 h2
    obtain ⟨c, ef⟩ := guardS ef
    cases ef
    simp only [Bool.and_eq_true, decide_eq_true_eq] at c
    refine ⟨E, B, env, pa.1, pa.2, r, e1, fun u B1 H1 r1 s1 z1 => ⟨E, B1, pa.2, pb.1, pb.2, r1, e2, fun v B2 H2 r2 s2 z2 => ?_⟩⟩
    rw [h1] at z1
    rw [h2] at z2
    cases z1
    cases z2
    refine ⟨i, j, rfl, rfl, RgOk.of_le c.1.1.1 (by omega) (by omega) c.1.2, fun q hq => ?_⟩
    exact newL (Q := Q) r2.bh (rangeRep i j) hq fun w B3 H3 gr nw => k w B3 H3 (r2.grow gr) (s1.tr (s2.tr gr.bb)) (nw.res r2)
  · cases ef
/-! ### sorted -/
def sortI (ns : List Int) : List Int := ns.mergeSort fun a b => decide (a ≤ b)
theorem sortI_perm (ns : List Int) : (sortI ns).Perm ns := List.mergeSort_perm _ _
theorem sortI_le (ns : List Int) : (sortI ns).Pairwise (· ≤ ·) := by
  have h := List.pairwise_mergeSort (le := fun a b : Int => decide (a ≤ b)) (fun a b c h1 h2 => by simp only [decide_eq_true_eq] at *; omega) (fun a b => by simp only [Bool.or_eq_true, decide_eq_true_eq]; omega) ns
  exact h.imp fun h => of_decide_eq_true h
theorem sorted_one : ∀ {l m : List Int}, l.Perm m → l.Pairwise (· ≤ ·) → m.Pairwise (· ≤ ·) → l = m
  | [], m, p, _, _ => (List.Perm.nil_eq p)
  | a :: l, [], p, _, _ => absurd p.length_eq (by simp)
  | a :: l, b :: m, p, h1, h2 => by
    rw [List.pairwise_cons] at h1 h2
    have ha : a ∈ b :: m := p.mem_iff.mp (by simp)
    have hb : b ∈ a :: l := p.mem_iff.mpr (by simp)
    have e : a = b := by
      rcases List.mem_cons.mp ha with z | z
      · exact z
      · rcases List.mem_cons.mp hb with y | y
        · exact y.symm
        · have := h1.1 b y
          have := h2.1 a z
          omega
    subst e
    rw [sorted_one (List.Perm.cons_inv p) h1.2 h2.2]
theorem sorted_is {ns ms : List Int} (p : ms.Perm ns) (h : ms.Pairwise (· ≤ ·)) : ms = sortI ns := sorted_one (p.trans (sortI_perm ns).symm) h (sortI_le ns)
def gSorted : List D → Option Res
  | [.list ds] => (intsOf ds).bind fun ns => guardO (decide (ns.length < 64)) (some (.l ((sortI ns).map .int)))
  | _ => none
theorem p_sorted {K : PySem.W.Frag} : PrimN (rSorted K) gSorted := fun B H us ds res Q s h e k => by
  unfold gSorted at e
  split at e
  · obtain ⟨ns, e1, e⟩ := bindS e
    obtain ⟨c, e⟩ := guardS e
    cases e
    obtain ⟨u, rfl, hu⟩ := rds1 h
    obtain ⟨p, vs, rfl, h1, r1⟩ := hu.lst s
    have := intsV r1 e1
    subst this
    refine ⟨p, ns, rfl, SqL.of h1, of_decide_eq_true c, fun ns' q hp hs hq => ?_⟩
    rw [sorted_is hp hs]
    exact newL s (Reps.ofInts _) hq k
  · cases e
end
end NS

set_option Elab.async false
set_option linter.all false
set_option maxRecDepth 100000
set_option maxHeartbeats 4000000
/-! NsZ: from a def of trees to a law's row. -/
namespace NS
open PySem L2 PyProof.Rows NT
variable [W : NT.Wd]
/-- the makers' tables at the law's head -/
structure Heads (K : PySem.W.Frag) (h : Heap) : Prop where
  at_ : ∀ x c P, x ∈ lamNames → PySem.W.tabIn K x = some (c, P) → PySem.W.CodeHd h c P ∧ h.get? P = some (PySem.W.tabObj #[])
  no : PySem.W.noTabs K = true
  ap : ∀ x y c d P, x ∈ lamNames → y ∈ lamNames → PySem.W.tabIn K x = some (c, P) → PySem.W.tabIn K y = some (d, P) → x = y
theorem Heads.tab {K : PySem.W.Frag} {h : Heap} (T : Heads K h) {P : Addr} (e : isTab K P) : h.get? P = some (PySem.W.tabObj #[]) := by
  obtain ⟨x, hx, c, hc⟩ := e
  exact (T.at_ x c P hx hc).2
theorem Heads.off {K : PySem.W.Frag} {h : Heap} (T : Heads K h) (KX : K.In h) {P : Addr} (e : isTab K P) : K.lookup P = none := by
  cases q : K.lookup P with
  | none => rfl
  | some o =>
    have e1 := KX P o q
    rw [T.tab e] at e1
    have h2 := List.all_eq_true.mp T.no (P, o) (PySem.W.mem_of_lookupK q)
    cases e1
    exact absurd (show false = true from h2) Bool.false_ne_true
open Classical in
noncomputable def lessT (K : PySem.W.Frag) (H : Hp) : Hp := fun b => if isTab K b then none else H b
theorem lessT_sub {K : PySem.W.Frag} {H : Hp} : Sub (lessT K H) H := fun b o e => by
  unfold lessT at e
  split at e
  · cases e
  · exact e
/-- what a law's walk is told of the makers -/
structure MakersOk (K : PySem.W.Frag) (mg : Str → Option Value) (base : Heap) : Prop where
  tb : ∀ x c P, x ∈ lamNames → PySem.W.tabIn K x = some (c, P) → LamX.TabB base mg c P
  ap : ∀ x y c d P, x ∈ lamNames → y ∈ lamNames → PySem.W.tabIn K x = some (c, P) → PySem.W.tabIn K y = some (d, P) → x = y
/-- the call of the law, at an abstract heap that knows the script and the makers' tables alone -/
theorem lawCore {P : Program} {w : World} {K : PySem.W.Frag} {mg mb : Str → Option Value} {k : Nat} {fa a : Addr} {fd : FuncData} {x : Str} {g : List Opd → Option Res} {s₁ : Shared} {vs : List Value} {ns : List Int}
    (KX : K.In s₁.heap) (hns : s₁.heap.Ns mainGlobals mg) (hb : s₁.heap.Ns builtinsNs mb) (hbb : ∀ x : Str, x ≠ "__name__" → mb x = bootBuiltins x) (hlim : s₁.heap.NoLimit) (hg : s₁.gens = #[]) (T : Heads K s₁.heap)
    (hbm : ∃ (bm : Addr) (ob : Obj), mg "__builtins__" = some (.ref bm) ∧ bm ≠ builtinsNs ∧ s₁.heap.get? bm = some ob ∧ ob.cls = .type "module" ∧ ob.dict = some builtinsNs ∧ ob.data = .plain)
    (ha : s₁.heap.get? a = some { cls := .type "list", data := .seq vs.toArray }) (hr : Room k callerA)
    (F : ∀ base : Heap, K.In base → base.Ns mainGlobals mg → MakersOk K mg base → FnG P w K mg base CX0 k fa fd [x] (spT K 1 g)) (hbind : ∀ (s : Shared) (u : Value), BindsTo s fd ⟨[u], []⟩ [(x, u)])
    (hgv : g [.s ns] = some (.d (.bool true))) (H : Hp) (hO : ∀ b, H b = none ∨ isTab K b ∨ ∃ o xs, H b = some (.frz o (.lst xs))) (hTt : ∀ b, isTab K b → H b = some (.tbl #[])) (hS : SqL K (lessT K H) a (ns.map V.int)) (hok : HOk P w H s₁.heap) (hA : ∀ b, H b ≠ none → b = a ∨ isTab K b) (hK : H a ≠ none → K.lookup a = none) :
    codeAny (model P w) callerA (.call (.ref fa) ⟨[.ref a], []⟩) (fun r s' => r = .ok (.ret (.bool true)) ∧ OldK s₁.heap s'.heap ∧ s'.os = s₁.os ∧ AllBare s'.gens) s₁ := by
  have known : ∀ {b : Addr} {o : Obj}, s₁.heap.get? b = some o → H b ≠ none → (b = a ∧ o = { cls := .type "list", data := .seq vs.toArray }) ∨ (isTab K b ∧ o = PySem.W.tabObj #[]) := fun {b o} e n => by
    rcases hA b n with e' | e'
    · subst e'
      rw [ha] at e
      exact .inl ⟨rfl, (Option.some.inj e).symm⟩
    · rw [T.tab e'] at e
      exact .inr ⟨e', (Option.some.inj e).symm⟩
  have free : ∀ {b : Addr} {o : Obj}, s₁.heap.get? b = some o → (∀ y n, o.data ≠ .seq y n) → o.data ≠ .fields #[] → H b = none := fun {b o} e d d2 => Classical.byContradiction fun n => by
    rcases known e n with ⟨_, z⟩ | ⟨_, z⟩
    · subst z
      exact d _ _ rfl
    · subst z
      exact d2 rfl
  have stay : ∀ {b : Addr} {o : Obj}, s₁.heap.get? b = some o → (∀ y n, o.data ≠ .seq y n) → o.data ≠ .fields #[] → (hidT s₁.heap H).get? b = some o := fun {b o} e d d2 => hidT_get e (free e d d2)
  have space : ∀ {b : Addr} {m : Str → Option Value}, s₁.heap.Ns b m → (hidT s₁.heap H).Ns b m := fun {b m} ⟨o, es, ep, e, d, r⟩ => ⟨o, es, ep, stay e (fun y n z => by rw [d] at z; cases z) (fun z => by rw [d] at z; cases z), d, r⟩
  have KB : K.In (hidT s₁.heap H) := fun b o e => hidT_get (KX b o e) (Classical.byContradiction fun n => by
    rcases known (KX b o e) n with ⟨z, _⟩ | ⟨z, _⟩
    · subst z
      rw [hK n] at e
      cases e
    · rw [T.off KX z] at e
      cases e)
  have M : Mod K mg (hidT s₁.heap H) := ⟨KB, space hns, ⟨mb, space hb, hbb⟩, let ⟨mc, h1, h2⟩ := hlim; ⟨mc, space h1, h2⟩⟩
  have gl : ∀ {b : Addr}, b = mainGlobals → ∃ es ep, ∀ o, s₁.heap.get? b = some o → o.data = .dict es ep := fun {b} e => by
    obtain ⟨o, es, ep, q, d, _⟩ := hns
    subst e
    exact ⟨es, ep, fun o' q' => by rw [q] at q'; cases q'; exact d⟩
  have TB : MakersOk K mg (hidT s₁.heap H) := by
    refine ⟨fun y c Pt hy hc => ?_, T.ap⟩
    obtain ⟨h1, h2⟩ := T.at_ y c Pt hy hc
    refine ⟨?_, ?_, fun z => ?_⟩
    · obtain ⟨o, us, f1, f2, f3, f4, f5, f6, f7, e1, r1, r2, r3, rest⟩ := h1
      refine ⟨o, us, f1, f2, f3, f4, f5, f6, f7, stay e1 (fun y n z => by rw [r2] at z; cases z) (fun z => ?_), r1, r2, r3, rest⟩
      rw [r2] at z
      cases z
      simp at r3
    · obtain ⟨bm, ob, b1, b2, b3, b4, b5, b6⟩ := hbm
      refine ⟨bm, ob, b1, b2, fun z => ?_, fun z => ?_, stay b3 (fun y n z => by rw [b6] at z; cases z) (fun z => by rw [b6] at z; cases z), b4, b5, b6⟩
      · obtain ⟨es, ep, q⟩ := gl z
        have := q ob b3
        rw [b6] at this
        cases this
      · rw [z, h2] at b3
        cases b3
        cases b6
    · obtain ⟨es, ep, q⟩ := gl z.symm
      have := q _ h2
      cases this
  have en : Env0 P w K mg (hidT s₁.heap H) callerA [] s₁ H := ⟨rfl, M, fun b o e => of_hidT e, Nat.le_of_eq (hidT_size _ _), trivial, fun b z => absurd (show b ∈ ([] : List Addr) from z) (by simp), hok, .of_eq hg⟩
  have tb : TabsK K (lessT K H) H := ⟨fun y Pt e => LamX.TabS.nil (hTt Pt ⟨y, e⟩), fun Pt e => by unfold lessT; exact if_pos e⟩
  have sp : spT K 1 g [.ref a] H (fun v _ => v = .bl true) E0 := ⟨lessT K H, [.s ns], _, lessT_sub, tb, rfl, rfl, ⟨_, _, rfl, ⟨a, rfl, hS⟩, rfl⟩, hgv, fun v B' H' gr nw => by
    cases (show Rep B' v (.bool true) from nw)
    rfl⟩
  refine codeAny_mono ((F _ KB (space hns) TB).run callerA [] s₁ H ⟨[.ref a], []⟩ [.ref a] [.ref a] _ _ rfl hr en (hbind s₁ (.ref a)) (.cons rfl .nil) sp) fun r s' h => ?_
  match r, h with
  | .error e, h => exact False.elim h
  | .ok .next, h => exact False.elim h
  | .ok .brk, h => exact False.elim h
  | .ok .cont, h => exact False.elim h
  | .ok (.ret u), h =>
    obtain ⟨v, H', os, bare, un, hok', rv, hv⟩ := h
    cases (show v = .bl true from hv)
    cases (show u = Value.bool true from rv)
    have key : ∀ b o, ¬ isTab K b → s₁.heap.get? b = some o → s'.heap.get? b = some o := fun b o nt e => by
      by_cases n : H b = none
      · exact un.keep b o e n (fun z => absurd (show b ∈ ([] : List Addr) from z) (by simp)) (by simp)
      · rcases hO b with z | z | ⟨ob, xs, z⟩
        · exact absurd z n
        · exact absurd z nt
        · obtain ⟨e1, _⟩ := hok b _ z
          obtain ⟨e2, _⟩ := hok' b _ (un.frzs b ob _ z)
          rw [e] at e1
          cases e1
          exact e2
    have tabs : ∀ b, isTab K b → ∃ more : Array Value, s'.heap.get? b = some (PySem.W.tabObj more) := fun b z => by
      obtain ⟨more, q⟩ := un.tbls b #[] (hTt b z)
      exact ⟨_, hok' b _ q⟩
    refine ⟨rfl, ⟨fun b o e => ?_, fun b o e => ?_⟩, os, bare⟩
    · by_cases nt : isTab K b
      · obtain ⟨more, hm⟩ := tabs b nt
        obtain ⟨y, hy, c, hc⟩ := nt
        obtain ⟨h1, h2⟩ := T.at_ y c b hy hc
        rw [h2] at e
        cases e
        exact .inr (.inl ⟨(h1.tab h2).isCodeTable, rfl, #[], more, rfl, by rw [Array.empty_append]; exact hm⟩)
      · exact .inl (key b o nt e)
    · by_cases nt : isTab K b
      · obtain ⟨more, hm⟩ := tabs b nt
        exact ⟨_, hm⟩
      · exact ⟨o, key b o nt e⟩
/-- each maker that the law can come to is a def of the text -/
def madeIn (q : Program) (K : PySem.W.Frag) : Bool := lamNames.all fun x => ((PySem.W.tabIn K x).isNone || ((recsOf q).find? fun e => e.name == x).isSome) && lamNames.all fun y => x == y || match PySem.W.tabIn K x, PySem.W.tabIn K y with
  | some a, some b => a.2 != b.2
  | _, _ => true
open Classical in
omit W in
theorem lawWalk {l : PySem.W.OpenLaw} {k : Nat} {q : Program} {loose : List Str} {XP : (Str → Option Value) → Heap → Prop} {YP : World → Heap → Prop} {d : DefRec} {K : Params → PySem.W.Frag} {x : Str} {g : List Opd → Option Res}
    (hn : l.most = some 63) (hdf : d.params.defaults = []) (hr : Room k callerA) (hY : ∀ (w : World) (h : Heap), YP w h → (K w.params).In h)
    (hno : ∀ p, PySem.W.noTabs (K p) = true) (hmk : ∀ p, madeIn q (K p) = true)
    (F : ∀ (w : World) (mg : Str → Option Value) (fa : Addr) (h : Heap), (K w.params).In h → h.Ns mainGlobals mg → mg d.name = some (.ref fa) →
      ∃ fd : FuncData, (∀ (s : Shared) (u : Value), BindsTo s fd ⟨[u], []⟩ [(x, u)]) ∧ ∀ base : Heap, (K w.params).In base → base.Ns mainGlobals mg → MakersOk (K w.params) mg base → FnG l.prog w (K w.params) mg base CX0 k fa fd [x] (spT (W := ⟨w⟩) (K w.params) 1 g))
    (hgv : NT.Wd → ∀ ns : List Int, ns.length ≤ 63 → g [.s ns] = some (.d (.bool true))) : PySem.W.WalkO q loose XP YP l.row.toRowW d [] (fun f vs => PySem.call f vs) := by
  refine Att.attach_callB hn hdf fun w s₀ s₁ mg mb fa o pm cd doc a vs ns G Y ho hd hcd hmg hobj hints hlen hbits hg => ?_
  letI : NT.Wd := ⟨w⟩
  have KX := hY w _ Y
  have made : ∀ y ∈ lamNames, ((PySem.W.tabIn (K w.params) y).isNone || ((recsOf q).find? fun e => e.name == y).isSome) = true ∧ ∀ z ∈ lamNames, (y == z || match PySem.W.tabIn (K w.params) y, PySem.W.tabIn (K w.params) z with
    | some a, some b => a.2 != b.2
    | _, _ => true) = true := fun y hy => by
    have e1 := List.all_eq_true.mp (hmk w.params) y hy
    rw [Bool.and_eq_true] at e1
    exact ⟨e1.1, fun z hz => List.all_eq_true.mp e1.2 z hz⟩
  have T : Heads (K w.params) s₁.heap := ⟨fun y c P hy hc => by
    have e1 := (made y hy).1
    rw [hc] at e1
    simp only [Option.isNone_some, Bool.false_or] at e1
    obtain ⟨d', hd'⟩ := Option.isSome_iff_exists.mp e1
    exact PySem.W.tab_of G.T KX hd' hc, hno w.params, fun y z c c' P hy hz h1 h2 => by
    have e1 := (made y hy).2 z hz
    rw [h1, h2] at e1
    simpa using e1⟩
  obtain ⟨fd, hb, hF⟩ := F w mg fa _ KX G.T.g hmg
  have rv := vals_ints hints
  have hsz : ns.length ≤ sizeLine := by rw [sizeLine_eq]; omega
  have hvl := hints.length
  have aT : ¬ isTab (K w.params) a := fun z => by
    have e := T.tab z
    rw [hobj] at e
    cases e
  by_cases hk : (K w.params).lookup a = none
  · have hHa : ∀ b, (fun b => if b = a then some (.frz { cls := .type "list", data := .seq vs.toArray } (.lst (ns.map V.int))) else if isTab (K w.params) b then some (.tbl #[]) else none : Hp) b = (if b = a then some (.frz { cls := .type "list", data := .seq vs.toArray } (.lst (ns.map V.int))) else if isTab (K w.params) b then some (.tbl #[]) else none) := fun _ => rfl
    refine lawCore KX G.T.g G.T.b G.T.builtins G.T.nolimit hg T G.T.bmain hobj hr hF hb (hgv ⟨w⟩ ns hlen) (fun b => if b = a then some (.frz { cls := .type "list", data := .seq vs.toArray } (.lst (ns.map V.int))) else if isTab (K w.params) b then some (.tbl #[]) else none)
      (fun b => ?_) (fun b z => ?_) (.inl (.inr ⟨{ cls := .type "list", data := .seq vs.toArray }, ?_⟩)) (fun b u z => ?_) (fun b z => ?_) fun _ => hk
    · by_cases e : b = a
      · exact .inr (.inr ⟨_, _, if_pos e⟩)
      · by_cases e2 : isTab (K w.params) b
        · exact .inr (.inl e2)
        · exact .inl ((if_neg e).trans (if_neg e2))
    · have e : b ≠ a := fun e => aT (by rw [← e]; exact z)
      exact (if_neg e).trans (if_pos z)
    · unfold lessT
      exact (if_neg aT).trans (if_pos rfl)
    · by_cases e : b = a
      · have z' := (if_pos e).symm.trans z
        cases z'
        subst e
        exact ⟨hobj, by rw [List.length_map]; exact hsz, vs, _, rv, hobj⟩
      · by_cases e2 : isTab (K w.params) b
        · have z' := ((if_neg e).trans (if_pos e2)).symm.trans z
          cases z'
          exact T.tab e2
        · have z' := ((if_neg e).trans (if_neg e2)).symm.trans z
          cases z'
    · by_cases e : b = a
      · exact .inl e
      · exact .inr (Classical.byContradiction fun e2 => z ((if_neg e).trans (if_neg e2)))
  · obtain ⟨ob, hob⟩ : ∃ ob, (K w.params).lookup a = some ob := by
      cases z : (K w.params).lookup a with
      | none => exact absurd z hk
      | some ob => exact ⟨ob, rfl⟩
    have e := KX a ob hob
    rw [hobj] at e
    cases e
    refine lawCore KX G.T.g G.T.b G.T.builtins G.T.nolimit hg T G.T.bmain hobj hr hF hb (hgv ⟨w⟩ ns hlen) (fun b => if isTab (K w.params) b then some (.tbl #[]) else none)
      (fun b => ?_) (fun b z => if_pos z) (.inr ⟨_, vs.toArray, _, hob, rfl, rfl, rfl, by rw [List.size_toArray, hvl]; exact hsz, by simpa using rv⟩) (fun b u z => ?_) (fun b z => ?_) fun z => absurd (if_neg aT) z
    · by_cases e2 : isTab (K w.params) b
      · exact .inr (.inl e2)
      · exact .inl (if_neg e2)
    · by_cases e2 : isTab (K w.params) b
      · have z' := (if_pos e2).symm.trans z
        cases z'
        exact T.tab e2
      · have z' := (if_neg e2).symm.trans z
        cases z'
    · exact .inr (Classical.byContradiction fun e2 => z (if_neg e2))
/-- a def that is called by its name -/
structure Callee (P : Program) (w : World) (K : PySem.W.Frag) (mg : Str → Option Value) (base : Heap) (x : Str) (k : Nat) (ps : List Str) (sp : Sp) : Prop where
  ex : ∃ f fd, FnG P w K mg base CX0 k f fd ps sp ∧ mg x = some (.ref f) ∧ PySem.W.keepIn K (.ref f) = true ∧ Binds K fd ps []
/-- a def as it stands behind the top -/
structure DefAt (K : PySem.W.Frag) (mg : Str → Option Value) (x : Str) (st : Stmt) (ps : List Str) : Prop where
  ex : ∃ f fd, L2.Fun K x x st f fd ∧ mg x = some (.ref f) ∧ Binds K fd ps []
section
variable {P : Program} {w : World} {K : PySem.W.Frag} {mg : Str → Option Value} {base : Heap} {x : Str} {st : Stmt} {N ps : List Str} {k : Nat} {body : Es}
theorem DefAt.t (D : DefAt K mg x st ps) (S : FnScope N ps (defScope st)) (hnl : ps.length ≤ N.length)
    (hb : ∀ (f : Addr) (cdv : Value) (A : Around) (outer : List PySem.Env) (s : Shared) (H : Hp) (E : XK), A.guards = some [] → Room k (A.deeper (envOfC x (defScope st) s.heap.objs.size f cdv)) →
      PSs (cxOf CX0 P w K mg base N x (defScope st) f cdv A outer s H E).nox (defBody st) (tS K body)) : Callee P w K mg base x (k + 1) ps (spT K ps.length (runT N.length body)) := by
  obtain ⟨f, fd, F, hm, hbi⟩ := D.ex
  exact ⟨f, fd, okT F S hnl (hb f), hm, F.kp, hbi⟩
theorem DefAt.u (D : DefAt K mg x st ps) (S : FnScope N ps (defScope st)) (hnl : ps.length ≤ N.length)
    (hb : ∀ (f : Addr) (cdv : Value) (A : Around) (outer : List PySem.Env) (s : Shared) (H : Hp) (E : XK), A.guards = some [] → Room k (A.deeper (envOfC x (defScope st) s.heap.objs.size f cdv)) →
      PSs (cxOf CX0 P w K mg base N x (defScope st) f cdv A outer s H E).nox (defBody st) (tS K body)) : Callee P w K mg base x (k + 1) ps (spU K ps.length (runU N.length body)) := by
  obtain ⟨f, fd, F, hm, hbi⟩ := D.ex
  exact ⟨f, fd, okU F S hnl (hb f), hm, F.kp, hbi⟩
theorem defAt {l : PySem.W.OpenLaw} {h : Heap} {oc kV doc pm cdv ct : Value} {od an : Option Addr} {osl : Array (Option Value)} {f : Addr} (X : K.In h) (G : h.Ns mainGlobals mg) (a : PySem.W.nsIn K mainGlobals x = some (some (.ref f)))
    (lk : K.lookup f = some ⟨oc, od, .func (PySem.W.fnOf x x (defArgs st) (defBody st) (defScope st) .none kV doc pm an cdv ct), osl⟩) (c : PySem.W.codeIn K cdv x = true) (kp : PySem.W.keepIn K (.ref f) = true)
    (hb : ∀ (kV doc pm : Value) (an : Option Addr) (cdv ct : Value) (us : List Value), us.length = ps.length → bindArgs (PySem.W.fnOf x x (defArgs st) (defBody st) (defScope st) .none kV doc pm an cdv ct) ⟨us, []⟩ = pure (ps.zip us)) : DefAt K mg x st ps :=
  ⟨f, _, fun_mk lk c kp, PySem.W.mg_of X G a, (fun_mk (st := st) lk c kp).binds hb⟩
end
/-- a def that makes lambdas, as it stands behind the top -/
structure DefAtM (K : PySem.W.Frag) (mg : Str → Option Value) (x : Str) (st : Stmt) (ps : List Str) (c P : Addr) : Prop where
  ex : ∃ (f : Addr) (oc : Value) (od : Option Addr) (kV doc pm : Value) (an : Option Addr) (ct : Value) (osl : Array (Option Value)),
    K.lookup f = some ⟨oc, od, .func (PySem.W.fnOf x x (defArgs st) (defBody st) (defScope st) .none kV doc pm an (.ref c) ct), osl⟩ ∧ PySem.W.codeIn K (.ref c) x = true ∧ PySem.W.keepIn K (.ref f) = true ∧ mg x = some (.ref f) ∧
      Binds K (PySem.W.fnOf x x (defArgs st) (defBody st) (defScope st) .none kV doc pm an (.ref c) ct) ps []
  tab : PySem.W.tabIn K x = some (c, P)
theorem tab_at {K : PySem.W.Frag} {x y z : Str} {pa : Arguments} {bo : List Stmt} {sc : Scope} {dV kV doc pm cdv ct oc : Value} {od an : Option Addr} {osl : Array (Option Value)} {f : Addr} (a : PySem.W.nsIn K mainGlobals x = some (some (.ref f)))
    (lk : K.lookup f = some ⟨oc, od, .func (PySem.W.fnOf y z pa bo sc dV kV doc pm an cdv ct), osl⟩) (m : (PySem.W.tabIn K x).isSome = true) : ∃ c P, cdv = .ref c ∧ PySem.W.tabIn K x = some (c, P) := by
  obtain ⟨⟨c, P⟩, h⟩ := Option.isSome_iff_exists.mp m
  refine ⟨c, P, ?_, h⟩
  unfold PySem.W.tabIn at h
  rw [a] at h
  simp only [lk] at h
  split at h
  · split at h
    · split at h
      · cases h; rfl
      · cases h
    · cases h
  · cases h
theorem defAtM {l : PySem.W.OpenLaw} {h : Heap} {K : PySem.W.Frag} {mg : Str → Option Value} {x : Str} {st : Stmt} {ps : List Str} {oc kV doc pm cdv ct : Value} {od an : Option Addr} {osl : Array (Option Value)} {f : Addr} (X : K.In h) (G : h.Ns mainGlobals mg) (a : PySem.W.nsIn K mainGlobals x = some (some (.ref f)))
    (lk : K.lookup f = some ⟨oc, od, .func (PySem.W.fnOf x x (defArgs st) (defBody st) (defScope st) .none kV doc pm an cdv ct), osl⟩) (c : PySem.W.codeIn K cdv x = true) (kp : PySem.W.keepIn K (.ref f) = true) (m : (PySem.W.tabIn K x).isSome = true)
    (hb : ∀ (kV doc pm : Value) (an : Option Addr) (cdv ct : Value) (us : List Value), us.length = ps.length → bindArgs (PySem.W.fnOf x x (defArgs st) (defBody st) (defScope st) .none kV doc pm an cdv ct) ⟨us, []⟩ = pure (ps.zip us)) : ∃ c P, DefAtM K mg x st ps c P := by
  obtain ⟨c0, P, e, ht⟩ := tab_at a lk m
  subst e
  exact ⟨c0, P, ⟨f, oc, od, kV, doc, pm, an, ct, osl, lk, c, kp, PySem.W.mg_of X G a, (fun_mk (st := st) lk c kp).binds hb⟩, ht⟩
theorem DefAtM.t {P : Program} {w : World} {K : PySem.W.Frag} {mg : Str → Option Value} {base : Heap} {x : Str} {st : Stmt} {N ps : List Str} {k : Nat} {body : Es} {c Pt : Addr} (D : DefAtM K mg x st ps c Pt) (S : FnScope N ps (defScope st)) (hnl : ps.length ≤ N.length)
    (hb : ∀ (f : Addr) (A : Around) (outer : List PySem.Env) (s : Shared) (H : Hp) (E : XK), A.guards = some [] → Room k (A.deeper (envOfC x (defScope st) s.heap.objs.size f (.ref c))) →
      PSs (cxOf CX0 P w K mg base N x (defScope st) f (.ref c) A outer s H E).nox (defBody st) (tS K body)) : Callee P w K mg base x (k + 1) ps (spT K ps.length (runT N.length body)) := by
  obtain ⟨f, oc, od, kV, doc, pm, an, ct, osl, lk, hcd, kp, hm, hbi⟩ := D.ex
  refine ⟨f, _, fnG_of lk hcd S spT_len fun A outer s H vs Q E hg hr hsp => ⟨_, (hb f A outer s H E hg hr).nox, ?_⟩, hm, kp, hbi⟩
  exact okT_at hnl hsp
section
variable {X : Cx} {k j n : Nat} {ps : List Str} {x : Str} {p pos : Pos} {e : Expr} {es : List Expr} {fa : Ev (List Opd)}
theorem e_fun {g : List Opd → Option Res} (C : Callee X.prog X.w X.K X.mg X.base x j ps (spT X.K n g)) (hgd : X.A.guards = some []) (hr : Room k X.A) (hjk : j ≤ k) (hg : Gl X x) (ha : PA X (e :: es) (tA X.K fa)) (hdb : (x == ("__debug__" : Str)) = false := by decide)
    (he : starEach (e :: es) X.env = (false, eval e X.env) :: starEach es X.env := by rfl) (hpl : (backTo pos (starEach es X.env)).any (·.1) = false := by rfl) : PE X (.Call (.Name x p) (e :: es) [] pos) (tR X.K (callT n g fa)) := by
  obtain ⟨f, fd, F, hm, hk, hb⟩ := C.ex
  exact e_callT F hgd (hr.mono hjk) hg hm hk hb ha hdb he hpl
theorem e_funU {g : OV → List Opd → Option (Res × OV)} (C : Callee X.prog X.w X.K X.mg X.base x j ps (spU X.K n g)) (hgd : X.A.guards = some []) (hr : Room k X.A) (hjk : j ≤ k) (hg : Gl X x) (ha : PA X (e :: es) (tA X.K fa)) (hdb : (x == ("__debug__" : Str)) = false := by decide)
    (he : starEach (e :: es) X.env = (false, eval e X.env) :: starEach es X.env := by rfl) (hpl : (backTo pos (starEach es X.env)).any (·.1) = false := by rfl) : PE X (.Call (.Name x p) (e :: es) [] pos) (tR X.K (callU n g fa)) := by
  obtain ⟨f, fd, F, hm, hk, hb⟩ := C.ex
  exact e_callU F hgd (hr.mono hjk) hg hm hk hb ha hdb he hpl
end
/-! ### an argument that is handed on as a tree; - x; x is None -/
def slotF (i : Nat) : Ev Opd := fun env => match env[i]? with
  | some (some (.fz d)) => some (.v d, env)
  | some (some (.scr ns)) => some (.s ns, env)
  | some (some ov) => if (ov.owned && !ov.io) = true then some (.v ov.toD, env.set i (some (.fz ov.toD))) else none
  | _ => none
def negR (f : Ev D) : Ev Res := fun env => (f env).bind fun p => match p.1 with
  | .int i => some (.d (.int (-i)), p.2)
  | _ => none
def isNone : D → Bool
  | .none => true
  | _ => false
def gIsN : D → D → Option Res
  | d, .none => some (.d (.bool (isNone d)))
  | _, _ => none
def gNotN : D → D → Option Res
  | d, .none => some (.d (.bool (!isNone d)))
  | _, _ => none
section
variable {X : Cx} {e : Expr} {pos : Pos}
theorem e_slotF {i : Nat} (h : PE X e (tVar i)) : PE X e (tP X.K (slotF i)) := peImp h fun σ H Q ⟨E, B, env, x, env', r, ef, k⟩ => by
  unfold slotF at ef
  split at ef
  · rename_i d hd
    cases ef
    obtain ⟨v, hv, ok⟩ := r.slot i _ hd
    exact ⟨v, hv, k v B H r Sub.rfl' ok⟩
  · rename_i ns hd
    cases ef
    obtain ⟨v, hv, ok⟩ := r.slot i _ hd
    exact ⟨v, hv, k v B H r Sub.rfl' ok⟩
  · rename_i ov h1 h2 hd
    split at ef
    · rename_i w
      cases ef
      simp only [Bool.and_eq_true, Bool.not_eq_true'] at w
      obtain ⟨v, B', hv, s, r', rep⟩ := r.freeze hd w.1 w.2
      exact ⟨v, hv, k v B' H r' s rep⟩
    · cases ef
  · cases ef
theorem e_neg {f : Ev D} (h : PE X e (tE X.K f)) : PE X (.UnaryOp .USub e pos) (tR X.K (negR f)) := peImp (pe_un un_neg h) fun σ H Q ⟨E, B, env, x, env', r, ef, k⟩ => by
  obtain ⟨p, e1, ef⟩ := bindS ef
  split at ef
  · rename_i i hi
    cases ef
    refine ⟨E, B, env, p.1, p.2, r, e1, fun v B' H' r' s' z => ?_⟩
    rw [hi] at z
    cases z
    exact ⟨i, rfl, k _ B' H' r' s' (show Rep _ _ _ from .int _)⟩
  · cases ef
theorem isN_of {B H : Hp} {u : V} {d : D} (h : Rd B H u d) : decide (u = V.non) = isNone d := by
  rcases h with h | ⟨a, o, ov, rfl, _, h2, rfl, _⟩
  · cases h <;> rfl
  · cases ov <;> first | exact False.elim h2 | rfl
theorem p_isN : Prim2 (fun x y H Q => y = V.non ∧ Q (.bl (decide (x = .non))) H) gIsN := fun B H u v dx dy res Q s hx hy e k => by
  cases dy with
  | none =>
    cases e
    exact ⟨hy.non, by rw [isN_of hx]; exact newD s (.bl _) k⟩
  | _ => cases e
theorem p_notN : Prim2 (fun x y H Q => y = V.non ∧ Q (.bl (!decide (x = .non))) H) gNotN := fun B H u v dx dy res Q s hx hy e k => by
  cases dy with
  | none =>
    cases e
    refine ⟨hy.non, ?_⟩
    rw [isN_of hx]
    exact newD s (.bl _) k
  | _ => cases e
end
end NS

set_option Elab.async false
set_option linter.all false
set_option maxRecDepth 100000
set_option maxHeartbeats 4000000
/-! NsX: more constructs: list.insert, slices of tuples, zip. -/
namespace NS
open PySem L2 PyProof.Rows NT
variable [W : NT.Wd]
section
variable {X : Cx} {st : Stmt} {rest : List Stmt} {e : Expr} {pos : Pos} {K : PySem.W.Frag}
def rIns : V → List V → Hp → VK → Prop := fun x vs H Q => ∃ (l : Addr) (xs : List V) (i : Int) (y : V), x = .ref l ∧ vs = [.int i, y] ∧ H l = some (.lst xs) ∧ xs.length < sizeLine ∧ 0 ≤ i ∧ i < 2 ^ 63 ∧ Q .non (upd H l (.lst (xs.take i.toNat ++ [y] ++ xs.drop i.toNat)))
theorem mt_ins : MtR X "list.insert" rIns := mt_insert
def insS (i : Nat) (fi fe : Ev D) : Es := fun env => guardO (ownAt env i) ((fi env).bind fun q => (fe q.2).bind fun p => match env[i]?, p.2[i]?, q.1 with
  | some (some (.ol _ _)), some (some (.ol io ds)), .int n => guardO (decide (0 ≤ n) && decide (n ≤ 1000000) && decide (ds.length < 1000000)) (some (.nx, p.2.set i (some (.ol io (ds.take n.toNat ++ [p.1] ++ ds.drop n.toNat)))))
  | _, _, _ => none)
theorem s_ins {i : Nat} {fi fe : Ev D} (h : PS X st (tDrop (tBM X.K "list" rIns (tVar i) (tCons (tE X.K fi) (tCons (tE X.K fe) tNil))))) : PS X st (tS X.K (insS i fi fe)) := psImp h fun D σ H ⟨E, B, env, fl, env', r, ef, k⟩ => by
  obtain ⟨how, ef⟩ := guardS ef
  obtain ⟨q, e0, ef⟩ := bindS ef
  obtain ⟨p, e1, ef⟩ := bindS ef
  split at ef
  · rename_i io0 ds0 io ds n g0 g1 g2
    obtain ⟨hl, ef⟩ := guardS ef
    cases ef
    simp only [Bool.and_eq_true, decide_eq_true_eq] at hl
    obtain ⟨a, o, h1, h2, ⟨vs0, rfl, rep0⟩, h4⟩ := r.owns g0 rfl
    refine ⟨.ref a, h1, .inl ⟨rfl, vs0, SqL.of h2⟩, E, B, env, q.1, q.2, r, e0, fun u B1 H1 r1 s1 zu => ?_⟩
    rw [g2] at zu
    refine ⟨E, B1, q.2, p.1, p.2, r1, e1, fun v B' H' r' s' z => ?_⟩
    obtain ⟨a', o', k1, k2, ⟨vs, rfl, rep⟩, k4⟩ := r'.owns g1 rfl
    rw [h1] at k1
    cases k1
    cases zu
    exact ⟨a, vs, n, v, rfl, rfl, k2, by rw [rep.len]; exact lcLine hl.2, hl.1.1, by omega, k σ B' _ (r'.write g1 rfl h1 (ov' := .ol io (ds.take n.toNat ++ [p.1] ++ ds.drop n.toNat)) ⟨_, rfl, ((rep.take _).app (.one z)).app (rep.drop _)⟩ rfl) (s1.tr s')⟩
  · cases ef
/-! ### isinstance(x, T), T a built-in type -/
def dTy : D → String
  | .none => "NoneType"
  | .bool _ => "bool"
  | .int _ => "int"
  | .str _ => "str"
  | .list _ => "list"
  | .tuple _ => "tuple"
  | .dict _ => "dict"
def isiB (T : String) (d : D) : Bool := decide (dTy d = T) || (decide (T = "int") && decide (dTy d = "bool"))
/-- what isinstance asks of a tree -/
theorem rep_kit {X : Cx} {pins : List (Addr × Obj)} {σ : L2.St} {H : Hp} {s : Shared} {x : V} {u : Value} {d : D} (I : Inv X pins σ H s) (rx : RelV x u) (h : Rep H x d) : ∃ P : Heap → Prop, PySem.W.KitX X.K u (.type (dTy d)) P ∧ P s.heap ∧ u ≠ .builtin "__main__.__loader__#opaque" := by
  cases h with
  | non => exact kit_of I rx (.base .non)
  | bl b => exact kit_of I rx (.base (.bl b))
  | int i => exact kit_of I rx (.base (.int i))
  | str x => exact kit_of I rx (.base (.str x))
  | lst e _ => exact kit_of I rx (.base (.lst e))
  | tup e _ => exact kit_of I rx (.base (.tup e))
  | @dic a es ep ds e _ _ _ =>
    cases (show u = Value.ref a from rx)
    obtain ⟨_, _, _, _, o, ar, xs, e1, e2, _⟩ := dicP_of I.hok e
    exact ⟨_, PySem.W.kitx_dict, ⟨o, e1, e2.1⟩, fun z => nomatch z⟩
def rIsiA (K : PySem.W.Frag) : List V → Hp → VK → Prop := fun xs H Q => ∃ (x : V) (d : D) (T : String) (b : Bool), xs = [x, .ty T] ∧ Rep H x d ∧ PySem.W.kitOne K (.type (dTy d)) (.type T) = some b ∧ Q (.bl b) H
theorem call_isiA {X : Cx} : CallR X (.builtin "isinstance") (rIsiA X.K) := by
  intro pins s σ H xs us Q I r h
  obtain ⟨x, d, T, b, rfl, hr, e, q⟩ := h
  obtain ⟨u1, u2, rfl, r1, r2⟩ := vals2 r
  cases (ClsV.ty T).eq r2
  obtain ⟨P, Z, p, hx⟩ := rep_kit I r1 hr
  exact PySem.W.kia_one Z I.kIn p e hx fun tk => ⟨.bl b, H, I.tok tk, rfl, q⟩
def isiR (T : String) (f : Ev Opd) : Ev Res := fun env => (f env).bind fun p => (opD p.2 p.1).bind fun d => some (.d (.bool (isiB T d)), p.2)
theorem e_isi {f : Ev Opd} {x : Str} {T : String} {p p2 : Pos} (he : PE X e (tP X.K f)) (hg : Gl X "isinstance") (hm : X.mg "isinstance" = none) (gx : Gl X x) (mx : X.mg x = none) (hv : bootBuiltins x = some (.type T))
    (hk : ∀ d, PySem.W.kitOne X.K (.type (dTy d)) (.type T) = some (isiB T d)) (hn : x ≠ "__name__" := by decide) (hd : (x == ("__debug__" : Str)) = false := by decide)
    (hs1 : starEach [e, .Name x p2] X.env = (false, eval e X.env) :: starEach [.Name x p2] X.env := by rfl) (hs2 : starEach [.Name x p2] X.env = (false, eval (.Name x p2) X.env) :: starEach [] X.env := by rfl)
    (hpl : (backTo pos (starEach [.Name x p2] X.env)).any (·.1) = false := by rfl) : PE X (.Call (.Name "isinstance" p) [e, .Name x p2] [] pos) (tR X.K (isiR T f)) :=
  peImp (pe_callB (id := "isinstance") call_isiA hg hm PyProof.Rows.boot_isinstance (pa_cons he (pa_cons (pe_bltn (v := .ty T) gx mx hv rfl hn hd) pa_nil hs2) hs1) (by decide) (by decide) hs1 hpl) fun σ H Q ⟨E, B, env, r, env', rr, ef, k⟩ => by
    obtain ⟨q, e1, ef⟩ := bindS ef
    obtain ⟨d, e2, ef⟩ := bindS ef
    cases ef
    refine ⟨E, B, env, q.1, q.2, rr, e1, fun v B' H' r' s' z => ?_⟩
    have hr := (opRd r' z e2).rep r'.bh
    exact ⟨v, d, T, isiB T d, rfl, hr, hk d, k _ B' H' r' s' (.bl _)⟩
theorem kit_int {K : PySem.W.Frag} : ∀ d, PySem.W.kitOne K (.type (dTy d)) (.type "int") = some (isiB "int" d) := by intro d; cases d <;> rfl
theorem kit_bool {K : PySem.W.Frag} : ∀ d, PySem.W.kitOne K (.type (dTy d)) (.type "bool") = some (isiB "bool" d) := by intro d; cases d <;> rfl
theorem kit_str {K : PySem.W.Frag} : ∀ d, PySem.W.kitOne K (.type (dTy d)) (.type "str") = some (isiB "str" d) := by intro d; cases d <;> rfl
theorem kit_list {K : PySem.W.Frag} : ∀ d, PySem.W.kitOne K (.type (dTy d)) (.type "list") = some (isiB "list" d) := by intro d; cases d <;> rfl
theorem kit_tuple {K : PySem.W.Frag} : ∀ d, PySem.W.kitOne K (.type (dTy d)) (.type "tuple") = some (isiB "tuple" d) := by intro d; cases d <;> rfl
theorem kit_dict {K : PySem.W.Frag} : ∀ d, PySem.W.kitOne K (.type (dTy d)) (.type "dict") = some (isiB "dict" d) := by intro d; cases d <;> rfl
/-! ### slices of lists, tuples, texts -/
def gSlA : D → Option Int → Option Int → Option Res
  | .list ds, lo, hi => some (.l (cutD ds lo hi))
  | .tuple ds, lo, hi => some (.d (.tuple (cutD ds lo hi)))
  | .str z, lo, hi => guardO (decide (z.length ≤ 1000000)) (some (.d (.str (L2.cutS z lo hi))))
  | _, _, _ => none
def rSlAll (K : PySem.W.Frag) : V → Option Int → Option Int → Hp → VK → Prop := fun x lo hi H Q => (rSlL K x lo hi H Q ∨ rSlA K x lo hi H Q) ∨ rSlS x lo hi H Q
theorem sl_all : SlR X (rSlAll X.K) := (sl_list.or sl_tupA).or sl_str
theorem cutD_whole {ds : List D} {lo hi : Option Int} (h : HT.sIx ds.length 0 lo = 0 ∧ HT.sIx ds.length ds.length hi = ds.length) : cutD ds lo hi = ds := by
  unfold cutD
  rw [h.1, h.2, List.drop_zero, Nat.sub_zero, List.take_of_length_le (Nat.le_refl _)]
theorem p_slA {K : PySem.W.Frag} : PrimS (rSlAll K) gSlA := fun B H u d lo hi res Q s hx e k => by
  cases d with
  | list ds =>
    cases e
    obtain ⟨p, vs, rfl, h1, r1⟩ := hx.lst s
    exact .inl (.inl ⟨p, vs, rfl, SqL.of h1, fun c hc => newL s (cut_rep r1 lo hi) hc k⟩)
  | tuple ds =>
    cases e
    have hr := rep_of_tup hx
    obtain ⟨p, vs, rfl, h1, r1⟩ := hx.tup s
    refine .inl (.inr ⟨p, vs, rfl, SqT.of h1, fun z => ?_, fun _ c hc => newT s (cut_rep r1 lo hi) hc k⟩)
    rw [r1.len] at z
    rw [cutD_whole z] at k
    exact newD s hr k
  | str z =>
    obtain ⟨c, e⟩ := guardS e
    cases e
    cases hx.str
    exact .inr ⟨z, rfl, line6 (of_decide_eq_true c), newD s (.str _) k⟩
  | _ => cases e
/-! ### zip -/
def zipD (a b : List D) : List D := List.zipWith (fun x y => PyData.tuple [x, y]) a b
theorem zipD_at {a b : List D} {i : Nat} {d : D} (h : (zipD a b)[i]? = some d) : ∃ x y, a[i]? = some x ∧ b[i]? = some y ∧ d = .tuple [x, y] := by
  unfold zipD at h
  rw [List.getElem?_zipWith] at h
  split at h
  · rename_i x y hx hy
    exact ⟨x, y, hx, hy, (Option.some.inj h).symm⟩
  · cases h
theorem itzl {K : PySem.W.Frag} {a b : Addr} {B : Hp} {vs us : List V} {ds es : List D} (h : B a = some (.lst vs)) (r : Reps B vs ds) (h' : B b = some (.lst us)) (r' : Reps B us es) : ItD (Itz K a b) B (zipD ds es) := fun i B1 H1 s1 s2 => by
  have hs : SqL K H1 a vs := SqL.of (s2 _ _ (s1 _ _ h))
  have hs' : SqL K H1 b us := SqL.of (s2 _ _ (s1 _ _ h'))
  refine ⟨fun d hd => ?_, fun hl => ⟨vs, us, hs, hs', by
    unfold zipD at hl
    rw [List.length_zipWith] at hl
    rw [r.len, r'.len]; omega⟩⟩
  obtain ⟨x, y, hx, hy, rfl⟩ := zipD_at hd
  obtain ⟨v, hv, rv⟩ := r.get hx
  obtain ⟨w, hw, rw'⟩ := r'.get hy
  refine ⟨⟨vs, us, v, w, hs, hs', hv, hw⟩, fun z H' ⟨T, v', w', e, hT, e2, y1, y2⟩ => ?_⟩
  subst e e2
  have e3 := y1 vs hs
  rw [hv] at e3
  cases e3
  have e4 := y2 us hs'
  rw [hw] at e4
  cases e4
  have g := Grow.both s2 (o := .tup [v, w]) hT
  exact ⟨_, g, .tup upd_same (.cons ((rv.mono s1).mono g.bb) (.cons ((rw'.mono s1).mono g.bb) .nil))⟩
theorem itzt {K : PySem.W.Frag} {a b : Addr} {B : Hp} {vs us : List V} {ds es : List D} (h : B a = some (.tup vs)) (r : Reps B vs ds) (h' : B b = some (.tup us)) (r' : Reps B us es) : ItD (RZ.ItzT K a b) B (zipD ds es) := fun i B1 H1 s1 s2 => by
  have hs : SqT K H1 a vs := SqT.of (s2 _ _ (s1 _ _ h))
  have hs' : SqT K H1 b us := SqT.of (s2 _ _ (s1 _ _ h'))
  refine ⟨fun d hd => ?_, fun hl => ⟨vs, us, hs, hs', by
    unfold zipD at hl
    rw [List.length_zipWith] at hl
    rw [r.len, r'.len]; omega⟩⟩
  obtain ⟨x, y, hx, hy, rfl⟩ := zipD_at hd
  obtain ⟨v, hv, rv⟩ := r.get hx
  obtain ⟨w, hw, rw'⟩ := r'.get hy
  refine ⟨⟨vs, us, v, w, hs, hs', hv, hw⟩, fun z H' ⟨T, v', w', e, hT, e2, y1, y2⟩ => ?_⟩
  subst e e2
  have e3 := y1 vs hs
  rw [hv] at e3
  cases e3
  have e4 := y2 us hs'
  rw [hw] at e4
  cases e4
  have g := Grow.both s2 (o := .tup [v, w]) hT
  exact ⟨_, g, .tup upd_same (.cons ((rv.mono s1).mono g.bb) (.cons ((rw'.mono s1).mono g.bb) .nil))⟩
def itZip (f : Ev (List Opd)) : Ev (List D) := fun env => (f env).bind fun p => match p.1 with
  | [.v (.list a), .v (.list b)] => some (zipD a b, p.2)
  | [.v (.tuple a), .v (.tuple b)] => some (zipD a b, p.2)
  | _ => none
theorem i_zip {X : Cx} {a b : Expr} {f : Ev (List Opd)} {p pos tpos : Pos} {elts : List Expr} {kk : Nat} (hg : Gl X "zip") (hm : X.mg "zip" = none) (ha : PA X [a, b] (tA X.K f))
    (hs : starEach [a, b] X.env = (false, eval a X.env) :: starEach [b] X.env := by rfl) (hpl : (backTo pos (starEach [b] X.env)).any (·.1) = false := by rfl) :
    PI X (.Tuple elts kk tpos) (.Call (.Name "zip" p) [a, b] [] pos) (tIt X.K (itZip f)) := piImp (RZ.pi_zipA hg hm ha hs hpl) fun σ H R ⟨E, B, env, ds, env', r, ef, k⟩ => by
  obtain ⟨q, e1, ef⟩ := bindS (show (f env).bind _ = _ from ef)
  split at ef
  · rename_i x y hj
    cases ef
    refine ⟨E, B, env, q.1, q.2, r, e1, fun vs B' H' r' s' z => ?_⟩
    rw [hj] at z
    obtain ⟨u, rr, rfl, z1, w, rr2, rfl, z2, z3⟩ := z
    cases z3
    cases (show Rep B' u (.list x) from z1) with
    | lst g1 g2 =>
      cases (show Rep B' w (.list y) from z2) with
      | lst g3 g4 => exact ⟨_, _, _, _, rfl, .inl ⟨SqL.of (r'.bh _ _ g1), SqL.of (r'.bh _ _ g3), k _ B' H' r' s' (itzl g1 g2 g3 g4)⟩⟩
  · rename_i x y hj
    cases ef
    refine ⟨E, B, env, q.1, q.2, r, e1, fun vs B' H' r' s' z => ?_⟩
    rw [hj] at z
    obtain ⟨u, rr, rfl, z1, w, rr2, rfl, z2, z3⟩ := z
    cases z3
    cases (show Rep B' u (.tuple x) from z1) with
    | tup g1 g2 =>
      cases (show Rep B' w (.tuple y) from z2) with
      | tup g3 g4 => exact ⟨_, _, _, _, rfl, .inr ⟨SqT.of (r'.bh _ _ g1), SqT.of (r'.bh _ _ g3), k _ B' H' r' s' (itzt g1 g2 g3 g4)⟩⟩
  · cases ef
/-! ### in, not in: lists; all, any -/
def gIn : D → D → Option Res
  | d, .list ds => guardO (SeqAt.shaped d && SeqAt.shaped (.list ds)) (some (.d (.bool (ds.any fun z => PyData.eqv z d))))
  | _, _ => none
def gNotIn : D → D → Option Res
  | d, .list ds => guardO (SeqAt.shaped d && SeqAt.shaped (.list ds)) (some (.d (.bool (!ds.any fun z => PyData.eqv z d))))
  | _, _ => none
theorem p_in {K : PySem.W.Frag} : Prim2 (rInD K) gIn := fun B H u v dx dy res Q s hx hy e k => by
  cases dy with
  | list ds =>
    obtain ⟨hl, e⟩ := guardS e
    cases e
    obtain ⟨h1, h2⟩ := Bool.and_eq_true_iff.mp hl
    exact ⟨dx, ds, (hx.rep s).dp K (SeqAt.canLay_of_shaped h1), (hy.rep s).dp K (SeqAt.canLay_of_shaped h2), h1, h2, newD s (.bl _) k⟩
  | _ => cases e
theorem p_notin {K : PySem.W.Frag} : Prim2 (rNotInD K) gNotIn := fun B H u v dx dy res Q s hx hy e k => by
  cases dy with
  | list ds =>
    obtain ⟨hl, e⟩ := guardS e
    cases e
    obtain ⟨h1, h2⟩ := Bool.and_eq_true_iff.mp hl
    exact ⟨dx, ds, (hx.rep s).dp K (SeqAt.canLay_of_shaped h1), (hy.rep s).dp K (SeqAt.canLay_of_shaped h2), h1, h2, newD s (.bl _) k⟩
  | _ => cases e
def boolsOf : List D → Option (List Bool)
  | [] => some []
  | .bool i :: ds => (boolsOf ds).bind fun r => some (i :: r)
  | _ :: _ => none
theorem boolsOf_map : ∀ ns : List Bool, boolsOf (ns.map PyData.bool) = some ns
  | [] => rfl
  | n :: ns => by simp [boolsOf, boolsOf_map ns]
theorem boolsV {B : Hp} : ∀ {vs : List V} {ds : List D} {bs : List Bool}, Reps B vs ds → boolsOf ds = some bs → vs = bs.map V.bl
  | _, _, _, .nil, e => by cases e; rfl
  | _, _, _, .cons (d := d) (ds := ds) a b, e => by
    cases d with
    | bool i =>
      obtain ⟨r, e1, e2⟩ := bindS e
      cases e2
      cases a
      rw [boolsV b e1]; rfl
    | _ => cases e
def gAll : List D → Option Res
  | [.list ds] => (boolsOf ds).bind fun bs => some (.d (.bool (bs.all id)))
  | _ => none
def gAny : List D → Option Res
  | [.list ds] => (boolsOf ds).bind fun bs => some (.d (.bool (bs.any id)))
  | _ => none
theorem p_all {K : PySem.W.Frag} : PrimN (rAll K) gAll := fun B H us ds res Q s h e k => by
  unfold gAll at e
  split at e
  · obtain ⟨bs, e1, e⟩ := bindS e
    cases e
    obtain ⟨u, rfl, hu⟩ := rds1 h
    obtain ⟨p, vs, rfl, h1, r1⟩ := hu.lst s
    have := boolsV r1 e1
    subst this
    exact ⟨p, bs, rfl, SqL.of h1, newD s (.bl _) k⟩
  · cases e
theorem p_any {K : PySem.W.Frag} : PrimN (rAny K) gAny := fun B H us ds res Q s h e k => by
  unfold gAny at e
  split at e
  · obtain ⟨bs, e1, e⟩ := bindS e
    cases e
    obtain ⟨u, rfl, hu⟩ := rds1 h
    obtain ⟨p, vs, rfl, h1, r1⟩ := hu.lst s
    have := boolsV r1 e1
    subst this
    exact ⟨p, bs, rfl, SqL.of h1, newD s (.bl _) k⟩
  · cases e
theorem room65 {k : Nat} {A : Around} (r : Room k A) : A.units + 65 < cLine := by have := r.un; omega
/-! ### enumerate(list) -/
def enumD (a : List D) : List D := a.mapIdx fun i x => PyData.tuple [.int (i : Nat), x]
theorem ite {K : PySem.W.Frag} {a : Addr} {B : Hp} {vs : List V} {ds : List D} (h : B a = some (.lst vs)) (r : Reps B vs ds) : ItD (Ite K a) B (enumD ds) := fun i B1 H1 s1 s2 => by
  have hs : SqL K H1 a vs := SqL.of (s2 _ _ (s1 _ _ h))
  refine ⟨fun d hd => ?_, fun hl => ⟨vs, hs, by
    unfold enumD at hl
    rw [List.length_mapIdx] at hl
    rw [r.len]; exact hl⟩⟩
  unfold enumD at hd
  rw [List.getElem?_mapIdx] at hd
  obtain ⟨x, hx, rfl⟩ := Option.map_eq_some_iff.mp hd
  obtain ⟨v, hv, rv⟩ := r.get hx
  refine ⟨⟨vs, v, hs, hv⟩, fun z H' ⟨T, v', e, hT, e2, y1⟩ => ?_⟩
  subst e e2
  have e3 := y1 vs hs
  rw [hv] at e3
  cases e3
  have g := Grow.both s2 (o := .tup [.int (i : Nat), v]) hT
  exact ⟨_, g, .tup upd_same (.cons (.int _) (.cons ((rv.mono s1).mono g.bb) .nil))⟩
def itEnum (f : Ev (List Opd)) : Ev (List D) := fun env => (f env).bind fun p => match p.1 with
  | [.v (.list a)] => some (enumD a, p.2)
  | _ => none
theorem i_enum {X : Cx} {a : Expr} {f : Ev (List Opd)} {p pos tpos : Pos} {elts : List Expr} {kk : Nat} (hg : Gl X "enumerate") (hm : X.mg "enumerate" = none) (ha : PA X [a] (tA X.K f))
    (hs : starEach [a] X.env = [(false, eval a X.env)] := by rfl) :
    PI X (.Tuple elts kk tpos) (.Call (.Name "enumerate" p) [a] [] pos) (tIt X.K (itEnum f)) := piImp (pi_enum hg hm ha hs) fun σ H R ⟨E, B, env, ds, env', r, ef, k⟩ => by
  obtain ⟨q, e1, ef⟩ := bindS (show (f env).bind _ = _ from ef)
  split at ef
  · rename_i x hj
    cases ef
    refine ⟨E, B, env, q.1, q.2, r, e1, fun vs B' H' r' s' z => ?_⟩
    rw [hj] at z
    obtain ⟨u, rr, rfl, z1, z3⟩ := z
    cases z3
    cases (show Rep B' u (.list x) from z1) with
    | lst g1 g2 => exact ⟨_, _, rfl, SqL.of (r'.bh _ _ g1), k _ B' H' r' s' (ite g1 g2)⟩
  · cases ef
/-! ### min, max of a list of ints -/
def gMinL : List D → Option Res
  | [.list ds] => (intsOf ds).bind fun ns => ns.min?.bind fun m => some (.d (.int m))
  | _ => none
def gMaxL : List D → Option Res
  | [.list ds] => (intsOf ds).bind fun ns => ns.max?.bind fun m => some (.d (.int m))
  | _ => none
theorem min_one {ns : List Int} {m k : Int} (e : ns.min? = some m) (h : k ∈ ns) (g : ∀ y, y ∈ ns → k ≤ y) : k = m := by
  obtain ⟨h1, h2⟩ := List.min?_eq_some_iff.mp e
  have a := h2 k h
  have b := g m h1
  omega
theorem max_one {ns : List Int} {m k : Int} (e : ns.max? = some m) (h : k ∈ ns) (g : ∀ y, y ∈ ns → y ≤ k) : k = m := by
  obtain ⟨h1, h2⟩ := List.max?_eq_some_iff.mp e
  have a := h2 k h
  have b := g m h1
  omega
theorem p_minL {K : PySem.W.Frag} : PrimN (rMin K) gMinL := fun B H us ds res Q s h e k => by
  unfold gMinL at e
  split at e
  · obtain ⟨ns, e1, e⟩ := bindS e
    obtain ⟨m, e2, e⟩ := bindS e
    cases e
    obtain ⟨u, rfl, hu⟩ := rds1 h
    obtain ⟨p, vs, rfl, h1, r1⟩ := hu.lst s
    have := intsV r1 e1
    subst this
    refine ⟨p, ns, rfl, SqL.of h1, ?_, fun j hj hg => ?_⟩
    · cases ns with
      | nil => cases e2
      | cons a l => exact Nat.succ_pos _
    · rw [min_one e2 hj hg]
      exact newD s (.int _) k
  · cases e
theorem p_maxL {K : PySem.W.Frag} : PrimN (rMax K) gMaxL := fun B H us ds res Q s h e k => by
  unfold gMaxL at e
  split at e
  · obtain ⟨ns, e1, e⟩ := bindS e
    obtain ⟨m, e2, e⟩ := bindS e
    cases e
    obtain ⟨u, rfl, hu⟩ := rds1 h
    obtain ⟨p, vs, rfl, h1, r1⟩ := hu.lst s
    have := intsV r1 e1
    subst this
    refine ⟨p, ns, rfl, SqL.of h1, ?_, fun j hj hg => ?_⟩
    · cases ns with
      | nil => cases e2
      | cons a l => exact Nat.succ_pos _
    · rw [max_one e2 hj hg]
      exact newD s (.int _) k
  · cases e
/-! ### str(int), str(text) -/
def gStr : List D → Option Res
  | [.int i] => guardO (decide (i.natAbs < BIGN)) (some (.d (.str (toString i : String))))
  | [.str z] => some (.d (.str z))
  | _ => none
def rStrAll : List V → Hp → VK → Prop := fun xs H Q => (∃ i, xs = [.int i] ∧ i.natAbs.log2 < 1920 ∧ Q (.str (toString i : String)) H) ∨ (∃ a, xs = [.str a] ∧ Q (.str a) H)
theorem call_strAll : CallR X (.type "str") rStrAll := by
  intro pins s σ H xs us Q I r h
  rcases h with h | h
  · exact call_str_int pins s σ H xs us Q I r h
  · exact SkE.call_str_str pins s σ H xs us Q I r h
theorem p_str : PrimN rStrAll gStr := fun B H us ds res Q s h e k => by
  unfold gStr at e
  split at e
  · rename_i i
    obtain ⟨c, e⟩ := guardS e
    cases e
    obtain ⟨u, rfl, hu⟩ := rds1 h
    cases hu.int
    refine .inl ⟨i, rfl, ?_, newD s (.str _) k⟩
    have := of_decide_eq_true c
    by_cases h0 : i.natAbs = 0
    · rw [h0]; decide
    · have h2 : i.natAbs.log2 < 1000 := (Nat.log2_lt h0).mpr this
      omega
  · cases e
    obtain ⟨u, rfl, hu⟩ := rds1 h
    cases hu.str
    exact .inr ⟨_, rfl, newD s (.str _) k⟩
  · cases e
end
end NS

set_option Elab.async false
set_option linter.all false
set_option maxRecDepth 100000
set_option maxHeartbeats 4000000
/-! NsM: sorted of a tuple of ints. -/
namespace NS
open PySem L2 PyProof.Rows NT
variable [W : NT.Wd]
section
variable {prog : Program} {w : World} {A : Around} {E : Value → Shared → Prop} {s : Shared}
/-- what a tuple holds is gathered in a new list -/
theorem collect_tup {l : Addr} {vs : List Value} {Q : List Value → Shared → Prop} (hl : IsTup s.heap l vs.toArray) (hsz : vs.length ≤ sizeLine)
    (h : Q vs { s with heap := (s.heap.push (seqObj "list" #[] 0)).update s.heap.objs.size (Obj.mapSeq (· ++ vs.toArray)) }) : wpAny (model prog w) A (collect (.ref l)) Q E s := by
  obtain ⟨o, ho, hc, n, hd⟩ := hl
  have hT : (s.heap.push (seqObj "list" #[] 0)).get? l = some o := Heap.get?_push_of_some _ ho
  have hN : (s.heap.push (seqObj "list" #[] 0)).get? s.heap.objs.size = some (seqObj "list" #[] 0) := Heap.get?_push_size _ rfl
  unfold collect
  refine wpAny_bind (wpAny_runValue (codeAny_builtin entry_proto_collect' ?_))
  show wpAny _ _ (do again (.builtin "list.__iadd__" ⟨[← newList [], .ref l], []⟩)) _ _ s
  refine wpAny_bind (wpAny_newList (wpAny_pure ⟨Code.quiet_builtin _ (by decide +kernel), codeAny_builtin entry_list_iadd' ?_⟩))
  show wpAny _ _ (Builtin.List.listExtendWith (.ref s.heap.objs.size) (.ref l) (.ref s.heap.objs.size)) _ _ { s with heap := s.heap.push (seqObj "list" #[] 0) }
  unfold Builtin.List.listExtendWith
  refine wpAny_bind (wpAny_typeOf (T := "tuple") ⟨o, hT, hc⟩ ?_)
  have ht : (Value.type "tuple" == Value.type "tuple") = true := by rfl
  rw [if_pos (by rw [ht]; simp)]
  refine wpAny_bind (listItems_at hT hd ?_)
  refine wpAny_bind (listItems_at (xs := #[]) (n := 0) hN rfl ?_)
  rw [if_neg (by simp)]
  refine wpAny_bind (listUpdate_at (xs := #[]) (n := 0) hN rfl ?_ (Nat.zero_le _) (by show (#[] ++ vs.toArray).size ≤ sizeLine + 1; simp only [Array.size_append, List.size_toArray, List.length_nil]; omega))
  refine wpAny_pure ?_
  show wpAny (model prog w) A (do
      let o ← load s.heap.objs.size
      match o.data with
      | .seq xs _ => pure xs.toList
      | _ => unsupported "internal:collect") Q E { s with heap := (s.heap.push (seqObj "list" #[] 0)).update s.heap.objs.size (Obj.mapSeq (· ++ vs.toArray)) }
  refine wpAny_bind (wpAny_load (get?_update_seq hN _) ?_)
  show wpAny _ _ (pure ((#[] : Array Value) ++ vs.toArray).toList) Q E _
  rw [show ((#[] : Array Value) ++ vs.toArray).toList = vs by simp]
  exact wpAny_pure h
/-- sorted(t) of a tuple t of ints: collected, then sorted in place -/
theorem sorted_tup {l : Addr} {vs : List Value} {ns : List Int} {Q : Value → Shared → Prop} (hl : IsTup s.heap l vs.toArray) (hI : IntsAre vs ns) (h64 : vs.length < 64)
    (h : ∀ (out : Array Value) (ns' : List Int), IntsAre out.toList ns' → ns'.Perm ns → ns'.Pairwise (· ≤ ·) → Q (.ref (s.heap.objs.size + 1)) { s with heap := sortedAll s.heap vs out }) :
    wpAny (model prog w) A (call (.builtin "sorted") [.ref l]) Q E s := by
  refine Calls.call_function_entry kind_sorted plain_sorted entry_sorted (args_sorted1 _) ?_
  unfold Builtin.«sorted»
  refine wpAny_bind (m := checkCount "sorted" 1 1 _) (wpAny_pure ?_)
  refine wpAny_bind (collect_tup hl (by rw [sizeLine_eq]; omega) ?_)
  refine wpAny_bind (wpAny_newList ?_)
  have sz : ((s.heap.push (seqObj "list" #[] 0)).update s.heap.objs.size (Obj.mapSeq (· ++ vs.toArray))).objs.size = s.heap.objs.size + 1 := by rw [Heap.size_update, size_push']
  have hoL : (((s.heap.push (seqObj "list" #[] 0)).update s.heap.objs.size (Obj.mapSeq (· ++ vs.toArray))).push (seqObj "list" vs.toArray 0)).get? (s.heap.objs.size + 1) = some (seqObj "list" vs.toArray 0) := by
    rw [← sz]
    exact Heap.get?_push_size _ rfl
  show wpAny _ _ _ _ _ { s with heap := ((s.heap.push (seqObj "list" #[] 0)).update s.heap.objs.size (Obj.mapSeq (· ++ vs.toArray))).push (seqObj "list" vs.toArray 0) }
  rw [sz]
  refine wpAny_bind (wpAny_holding (wpAny_call_entry slot_list_sort ⟨_, hoL, rfl⟩ entry_list_sort (list_sort_tree hoL hI h64 fun out ns' a1 a2 a3 => ⟨_, rfl, ?_⟩) (args_list_sort _)))
  exact wpAny_pure ⟨_, rfl, h out ns' a1 a2 a3⟩
end
def rSortA (K : PySem.W.Frag) : List V → Hp → VK → Prop := fun vs H Q => rSorted K vs H Q ∨ ∃ (a : Addr) (ns : List Int), vs = [V.ref a] ∧ SqT K H a (ns.map V.int) ∧ ns.length < 64 ∧
  ∀ (ns' : List Int) (p : Addr), ns'.Perm ns → ns'.Pairwise (· ≤ ·) → H p = none → Q (.ref p) (upd H p (.lst (ns'.map V.int)))
theorem cr_sortA {X : Cx} : CallR X (.builtin "sorted") (rSortA X.K) := by
  refine CallR.or cr_sorted ?_
  intro pins s σ H vs us Q I r h
  obtain ⟨a, ns, rfl, hs, h64, q⟩ := h
  obtain ⟨its, rv, hl, _⟩ := I.tuple hs
  rw [Vals.ref1 r]
  have hi := rv.ints
  refine sorted_tup hl hi (by rw [hi.length]; exact h64) fun out ns' h1 h2 h3 => ?_
  obtain ⟨ep, he'⟩ := sortedAll_at s.heap its out
  have hlen : (ns'.map V.int).length ≤ sizeLine := by rw [List.length_map, h2.length_eq]; exact small64 h64
  exact ⟨.ref _, upd H (s.heap.objs.size + 1) (.lst (ns'.map V.int)), I.laid (t' := s.toks) (fun _ _ => sortedAll_old) (Nat.le_succ _) ⟨hlen, out.toList, ep, vals_of_ints h1, he'⟩, rfl, q ns' _ h2 h3 (I.hok.fresh (Nat.le_succ _))⟩
def gSortA : List D → Option Res
  | [.list ds] => (intsOf ds).bind fun ns => guardO (decide (ns.length < 64)) (some (.l ((sortI ns).map .int)))
  | [.tuple ds] => (intsOf ds).bind fun ns => guardO (decide (ns.length < 64)) (some (.l ((sortI ns).map .int)))
  | _ => none
theorem p_sortA {K : PySem.W.Frag} : PrimN (rSortA K) gSortA := fun B H us ds res Q s h e k => by
  unfold gSortA at e
  split at e
  · exact .inl (p_sorted B H us _ res Q s h e k)
  · obtain ⟨ns, e1, e⟩ := bindS e
    obtain ⟨c, e⟩ := guardS e
    cases e
    obtain ⟨u, rfl, hu⟩ := rds1 h
    obtain ⟨p, vs, rfl, h1, r1⟩ := hu.tup s
    have := intsV r1 e1
    subst this
    refine .inr ⟨p, ns, rfl, SqT.of h1, of_decide_eq_true c, fun ns' q hp hs hq => ?_⟩
    rw [sorted_is hp hs]
    exact newL s (Reps.ofInts _) hq k
  · cases e
end NS

set_option Elab.async false
set_option linter.all false
set_option maxRecDepth 100000
set_option maxHeartbeats 4000000
/-! NsN: the least of a list of pairs; enumerate of a tuple. -/
namespace NS
open PySem L2 PyProof.Rows NT
variable [W : NT.Wd]
/-! ### min of pairs of ints -/
abbrev pairD (p : Int × Int) : D := .tuple [.int p.1, .int p.2]
def pairsOf : List D → Option (List (Int × Int))
  | [] => some []
  | .tuple [.int a, .int b] :: ds => (pairsOf ds).bind fun ps => some ((a, b) :: ps)
  | _ :: _ => none
theorem pairsOf_map : ∀ ps : List (Int × Int), pairsOf (ps.map pairD) = some ps
  | [] => rfl
  | p :: ps => by
    show (pairsOf (ps.map pairD)).bind _ = _
    rw [pairsOf_map ps]; rfl
theorem pairsOf_is : ∀ {ds : List D} {ps : List (Int × Int)}, pairsOf ds = some ps → ds = ps.map pairD
  | [], ps, e => by cases e; rfl
  | d :: ds, ps, e => by
    unfold pairsOf at e
    split at e
    · rename_i heq; cases heq
    · rename_i a b ds' heq
      cases heq
      obtain ⟨qs, e1, e2⟩ := bindS e
      cases e2
      rw [pairsOf_is e1]; rfl
    · cases e
def rMinP (K : PySem.W.Frag) : List V → Hp → VK → Prop := fun vs H Q => ∃ (a : Addr) (xs : List V) (p : Int × Int) (ps : List (Int × Int)), vs = [V.ref a] ∧ SqL K H a xs ∧ xs.length = (p :: ps).length ∧ (∀ (i : Nat) (x : V) (q : Int × Int), xs[i]? = some x → (p :: ps)[i]? = some q → Dp K H x (pairD q)) ∧
  ∀ (i : Nat) (w : V), xs[i]? = some w → (p :: ps)[i]? = some (PySem.W.minOf p ps) → Q w H
theorem cr_minP {X : Cx} (hc : X.calm = true) (hu : X.A.units + 65 < cLine) : CallR X (.builtin "min") (rMinP X.K) := by
  intro pins s σ H vs us Q I r h
  obtain ⟨a, xs, p, ps, rfl, hs, hlen, hd, q⟩ := h
  obtain ⟨its, rv, hl, hz⟩ := I.list hs
  rw [Vals.ref1 r]
  have rd : ∀ (xs : List V) (us : List Value) (qs : List (Int × Int)), Vals xs us → xs.length = qs.length → (∀ (i : Nat) (x : V) (q : Int × Int), xs[i]? = some x → qs[i]? = some q → Dp X.K H x (pairD q)) → ∃ as, ReadsAll s.heap us (qs.map pairD) as := fun xs us qs rv => by
    induction rv generalizing qs with
    | nil => intro hl _; cases qs with | nil => exact ⟨_, .nil⟩ | cons _ _ => simp at hl
    | @cons x u xs us rx _ ih =>
      intro hl hd
      cases qs with
      | nil => simp at hl
      | cons q qs =>
        obtain ⟨as, h1⟩ := Dp.reads I (pairD q) x u (hd 0 x q rfl rfl) rx
        obtain ⟨bs, h2⟩ := ih qs (by simpa using hl) fun i x' q' e1 e2 => hd (i + 1) x' q' (by simpa using e1) (by simpa using e2)
        exact ⟨_, .cons h1 h2⟩
  obtain ⟨as, hr⟩ := rd xs its (p :: ps) rv hlen hd
  have dep : PySem.W.Datum.depth (Int × Int) ≤ 64 := by decide
  refine PySem.W.min_list_datum (x := p) (xs := ps) (I.ok.hd hc) hl.isList ⟨as, ?_⟩ (by omega) fun i v h' tk hi Hv hk => ?_
  · rw [List.toList_toArray]; exact hr
  · have hi' : its[i]? = some v := by simpa using hi
    have hil0 : i < xs.length := by rw [rv.length]; exact (List.getElem?_eq_some_iff.mp hi').1
    obtain ⟨w, hw⟩ : ∃ w, xs[i]? = some w := ⟨_, List.getElem?_eq_getElem hil0⟩
    obtain ⟨v', hv', rw'⟩ := rv.get hw
    rw [hi'] at hv'
    cases hv'
    have hil : i < (p :: ps).length := by rw [← hlen]; exact (List.getElem?_eq_some_iff.mp hw).1
    obtain ⟨z, hz'⟩ : ∃ z, (p :: ps)[i]? = some z := ⟨_, List.getElem?_eq_getElem hil⟩
    obtain ⟨bs, h1⟩ := Dp.reads I (pairD z) w v (hd i w z hw hz') rw'
    obtain ⟨cs, h2⟩ := Hv
    have e := (reads_det (fun b o e _ => hk b o e) h1 h2).1
    have ez : z = PySem.W.minOf p ps := by
      have e' : PyData.tuple [.int (PySem.W.minOf p ps).1, .int (PySem.W.minOf p ps).2] = PyData.tuple [.int z.1, .int z.2] := e
      injection e' with e'
      injection e' with a1 a2
      injection a2 with a2 _
      injection a1 with a1
      injection a2 with a2
      exact Prod.ext a1.symm a2.symm
    subst ez
    exact ⟨w, H, I.kept hk, rw', q i w hw hz'⟩
def gMinA : List D → Option Res
  | [.list ds] => match intsOf ds with
    | some ns => ns.min?.bind fun m => some (.d (.int m))
    | none => (pairsOf ds).bind fun ps => match ps with
      | p :: ps => some (.d (pairD (PySem.W.minOf p ps)))
      | [] => none
  | _ => none
def rMinA (K : PySem.W.Frag) : List V → Hp → VK → Prop := fun vs H Q => rMin K vs H Q ∨ rMinP K vs H Q
theorem cr_minA {X : Cx} (hc : X.calm = true) (hu : X.A.units + 65 < cLine) : CallR X (.builtin "min") (rMinA X.K) := CallR.or (cr_min hc) (cr_minP hc hu)
theorem p_minA {K : PySem.W.Frag} : PrimN (rMinA K) gMinA := fun B H us ds res Q s h e k => by
  unfold gMinA at e
  split at e
  · rename_i ds0
    split at e
    · rename_i ns hns
      exact .inl (p_minL B H us _ res Q s h (by unfold gMinL; show (intsOf ds0).bind _ = _; rw [hns]; exact e) k)
    · obtain ⟨ps, e1, e⟩ := bindS e
      split at e
      · rename_i psx p ps'
        cases e
        obtain ⟨u, rfl, hu⟩ := rds1 h
        obtain ⟨a, vs, rfl, h1, r1⟩ := hu.lst s
        have hds := pairsOf_is e1
        subst hds
        have at_ : ∀ (i : Nat) (w : V) (q : Int × Int), vs[i]? = some w → (p :: ps')[i]? = some q → Rep B w (pairD q) := fun i w q e1 e2 => by
          obtain ⟨d, h2, h3⟩ := r1.getV e1
          rw [List.getElem?_map, e2] at h2
          cases h2
          exact h3
        refine .inr ⟨a, vs, p, ps', rfl, SqL.of h1, by rw [r1.len, List.length_map], fun i x q e1 e2 => ((at_ i x q e1 e2).mono s).dp K rfl, fun i w e1 e2 => ?_⟩
        exact newD s (at_ i w _ e1 e2) k
      · cases e
  · cases e
/-! ### enumerate of a tuple -/
open AutoSeq1 (wpAny_loadPart')
theorem meets_enum_tup (l : Addr) (items : Array Value) (n : Nat) (dct : Option Addr) (sl : Array (Option Value)) :
    Meets (Builtin.«enumerate.__new__» ⟨[.type "enumerate", .ref l], []⟩) (fun _ R s => s.heap.get? l = some { cls := .type "tuple", dict := dct, data := .seq items n, slots := sl } ∧
      R (.ok (.ret (.ref (s.heap.push { cls := .type "tuple_iterator", data := .fields #[.ref l, .int 0 0] }).objs.size)))
        { s with heap := (s.heap.push { cls := .type "tuple_iterator", data := .fields #[.ref l, .int 0 0] }).push { cls := .type "enumerate", data := .fields #[.none, .bool false, .ref s.heap.objs.size, rawInt 0, .none, .none] } }) :=
  .of_wp fun prog w A R s h => by
    obtain ⟨hp, g, d, tk, os⟩ := s
    obtain ⟨hl, h⟩ := h
    have hsub := sub_enumerate
    have hL : Heap.IsTuple (Shared.heap ⟨hp, g, d, tk, os⟩) l items := ⟨_, hl, rfl, n, rfl⟩
    wp_walk using wpAny_loadPart' hl
    refine wpAny_stack_any fun st => wpAny_pure ?_
    split
    · rename_i c _ _ _ _ _
      cases (c == Value.type "enumerate")
      · wp_walk using wpAny_loadPart' hl, wpAny_pyIter_tuple hL
        exact ⟨_, rfl, h⟩
      · wp_walk using wpAny_loadPart' hl, wpAny_pyIter_tuple hL
        exact ⟨_, rfl, h⟩
    · wp_walk using wpAny_loadPart' hl, wpAny_pyIter_tuple hL
      exact ⟨_, rfl, h⟩
theorem call_enum_tup {prog : Program} {w : World} {A : Around} {E : Value → Shared → Prop} {s : Shared} {l : Addr} {items : Array Value} {Q : Value → Shared → Prop} (hL : s.heap.IsTuple l items)
    (h : ∀ h', IsEnum h' (s.heap.objs.size + 1) s.heap.objs.size 0 .none → h'.IsTupleIter s.heap.objs.size l 0 → h'.objs.size = s.heap.objs.size + 2 →
      (∀ b o, s.heap.get? b = some o → h'.get? b = some o) → Q (.ref (s.heap.objs.size + 1)) { s with heap := h' }) :
    wpAny (model prog w) A (call (.type "enumerate") [.ref l]) Q E s := by
  obtain ⟨⟨c, dct, dt, sl⟩, hl, hc, n, hd⟩ := hL
  replace hc : c = .type "tuple" := hc
  replace hd : dt = .seq items n := hd
  subst hc hd
  refine callType_new F.called_enumerate (by decide) (F.typeCall_enumerate_1 _) (F.newCall_enumerate_1 _) (fun obj => F.args_object_init_2 obj _) F.entry_enumerate_new (meets_enum_tup l items n dct sl) ⟨hl, ?_⟩
  have hz : (s.heap.push { cls := .type "tuple_iterator", data := .fields #[.ref l, .int 0 0] }).objs.size = s.heap.objs.size + 1 := Heap.size_push ..
  show _ ∧ _
  rw [hz]
  have he : IsEnum ((s.heap.push { cls := .type "tuple_iterator", data := .fields #[.ref l, .int 0 0] }).push { cls := .type "enumerate", data := .fields #[.none, .bool false, .ref s.heap.objs.size, rawInt 0, .none, .none] }) (s.heap.objs.size + 1) s.heap.objs.size 0 .none := by
    have q := Heap.get?_push_size (s.heap.push { cls := .type "tuple_iterator", data := .fields #[.ref l, .int 0 0] }) (o := { cls := .type "enumerate", data := .fields #[.none, .bool false, .ref s.heap.objs.size, rawInt 0, .none, .none] }) rfl
    rw [hz] at q
    exact q
  exact ⟨⟨_, he, rfl⟩, h _ he ⟨_, Heap.get?_push_of_some _ (Heap.get?_push_size _ rfl), rfl, rfl⟩ (by rw [Heap.size_push, hz]) fun b o x => Heap.get?_push_of_some _ (Heap.get?_push_of_some _ x)⟩
/-- the tuple at a, each item in a new pair -/
def IteT (K : PySem.W.Frag) (a : Addr) : It :=
  ⟨fun i H => ∃ (xs : List V) (x : V), SqT K H a xs ∧ xs[i]? = some x, fun i H v H' => ∃ T x, v = .ref T ∧ H T = none ∧ H' = upd H T (.tup [.int (i : Nat), x]) ∧ ∀ xs, SqT K H a xs → xs[i]? = some x, fun i H => ∃ xs : List V, SqT K H a xs ∧ xs.length ≤ i⟩
theorem turn_enumT {P : Program} {w : World} {K : PySem.W.Frag} {elts : List Expr} {kk : Nat} {tpos : Pos} (a e it : Addr) (hai : a ≠ it) (hae : a ≠ e) :
    Turn P w K (.Tuple elts kk tpos) (IteT K a) [e, it] e (fun i h => (∃ old, IsEnum h e it ((i : Nat) : Int) old) ∧ h.IsTupleIter it a i ∧ e ≠ it) where
  mem := by simp
  obj := fun i h st b hb => by
    obtain ⟨⟨old, he⟩, ⟨o, ho, hc, hd⟩, _⟩ := st
    have e' : b = e ∨ b = it := by simpa using hb
    rcases e' with z | z
    · rw [z]; exact ⟨_, he, fun v q => nomatch q⟩
    · rw [z]; exact ⟨o, ho, fun v q => by rw [hd] at q; cases q⟩
  keep := fun i h h' st k => let ⟨⟨old, he⟩, hi, hne⟩ := st; ⟨⟨old, k e (by simp) _ he⟩, hi.at fun o q => k it (by simp) o q, hne⟩
  item := by
    intro X hP hw hK hc i pins s σ H E I hf st hg
    subst hP hw hK
    obtain ⟨⟨old, he⟩, hit, hne⟩ := st
    obtain ⟨xs, x, hq, hx⟩ := hg
    obtain ⟨its, rv, p, hz⟩ := I.tuple hq
    obtain ⟨u, hu, ru⟩ := rv.get hx
    have hlt : i < its.toArray.size := by rw [List.size_toArray]; exact (List.getElem?_eq_some_iff.mp hu).1
    have hel : e < s.heap.objs.size := Heap.lt_size he
    have hil : it < s.heap.objs.size := by obtain ⟨_, q, _⟩ := hit; exact Heap.lt_size q
    refine wpAny_pyNext_enum_itemD (PySem.Draws.tuple (A := X.A.in1) (I.ok.hd hc) it a hai its.toArray) he ⟨hit, p⟩ hlt hne (by simp [hne]; exact fun z => hae z.symm) fun y h' tk hy ho st' hT hsz hk => ?_
    have hy' : y = u := by
      rw [show its.toArray[i]? = its[i]? by simp, hu] at hy
      exact (Option.some.inj hy).symm
    subst hy'
    refine ⟨_, rfl, wpAny_letOwnedTupleGo_enum (s := { s with heap := h', toks := tk + 1 }) ho fun h'' he' sb => ?_⟩
    have hT2 : h''.get? s.heap.objs.size = some { cls := .type "tuple", data := .seq #[.int i tk, y] } := (sb.2 _ (Nat.ne_of_gt hel)).trans hT
    have new : ObjOk X.prog X.w (upd H s.heap.objs.size (.tup [.int (i : Nat), x])) h'' s.heap.objs.size (.tup [.int (i : Nat), x]) :=
      ⟨by show 2 ≤ sizeLine; decide, [.int i tk, y], .cons ⟨_, rfl⟩ (.cons ru .nil), ⟨_, hT2, rfl, _, rfl⟩⟩
    have I1 : Inv X pins σ (upd H s.heap.objs.size (.tup [.int (i : Nat), x])) { s with heap := h'', toks := tk + 1 } :=
      I.turnedNew (ch := [e, it]) (fun b ob hb q => (sb.2 b (fun z => hb (by simp [z]))).trans (hk b ob (fun z => hb (by simp [z])) (fun z => hb (by simp [z])) q)) hf (Nat.le_refl _) new
    refine ⟨.ref s.heap.objs.size, _, I1, rfl, ⟨_, x, rfl, I.hok.fresh (Nat.le_refl _), rfl, fun ys hy => by rw [I.tuple_inj hy hq]; exact hx⟩, ⟨⟨y, ?_⟩, st'.1.at fun o q => (sb.2 it (Ne.symm hne)).trans q, hne⟩, fun b hb => ?_⟩
    · have e1 : ((i + 1 : Nat) : Int) = (i : Int) + 1 := by omega
      rw [e1]; exact he'
    · have hb' : b < s.heap.objs.size := by
        have e' : b = e ∨ b = it := by simpa using hb
        rcases e' with z | z
        · rw [z]; exact hel
        · rw [z]; exact hil
      rw [upd_ne (Nat.ne_of_lt hb')]
      exact (hf b hb).1
  done := by
    intro X hP hw hK hc i pins s σ H E I hf st hg
    subst hP hw hK
    obtain ⟨⟨old, he⟩, hit, hne⟩ := st
    obtain ⟨xs, hq, hx⟩ := hg
    obtain ⟨its, rv, p, hz⟩ := I.tuple hq
    obtain ⟨f0, f1, f2, f3, f4, f5⟩ := hf it (by simp)
    have hl := rv.length
    have D : Draws X.prog X.w X.A.in1 it [it, a] i (fun _ _ => False) (fun j h => j = i ∧ h.IsTupleIter it a i ∧ h.IsTuple a its.toArray) :=
      { live := fun _ _ st => let ⟨o, ho, _⟩ := st.2.1; ⟨o, ho⟩
        frame := fun _ _ _ st hk => ⟨st.1, st.2.1.at fun o e => hk it (by simp) o e, st.2.2.at fun o e => hk a (by simp) o e⟩
        item := fun j s Q E hi st hQ => absurd hi (by have := st.1; omega)
        done := fun s Q E st hE => wpAny_nextOf_tuple_end (I.ok.hd hc) st.2.1 st.2.2 (by simp; omega) hE }
    exact wpAny_pyNext_enum_endD D he ⟨rfl, hit, p⟩ fun h' eb => ⟨rfl, I.turned (t' := s.toks) (fun b o hb q => eb b o hb q) f0 f1 f3 f4 f5⟩
  self := fun A i s Q E st h => let ⟨⟨_, he⟩, _⟩ := st; wpAny_pyIter_enum he h
def iEnumT (K : PySem.W.Frag) (ta : TA) : TI := fun σ H R => ta σ H fun vs H1 => ∃ a xs, vs = [.ref a] ∧ SqT K H1 a xs ∧ R (IteT K a) H1
theorem pi_enumT {X : Cx} {e : Expr} {ta : TA} {p pos tpos : Pos} {elts : List Expr} {kk : Nat} (hg : Gl X "enumerate") (hm : X.mg "enumerate" = none) (ha : PA X [e] ta) (hs : starEach [e] X.env = [(false, eval e X.env)] := by rfl) :
    PI X (.Tuple elts kk tpos) (.Call (.Name "enumerate" p) [e] [] pos) (iEnumT X.K ta) := by
  refine ⟨fun pins s σ H R I h => ?_⟩
  refine Call_ (ld_blt I hg hm boot_enumerate (PyProof.Rows.callWith_type1 (thn (ha.run pos pins s σ H _ I h) fun us s1 ⟨vs, H1, I1, r1, q1⟩ => ?_) hs rfl))
  obtain ⟨a, xs, ex, hq, q⟩ := q1
  subst ex
  cases r1 with
  | cons r rr =>
    cases rr
    cases r
    obtain ⟨its, rv, p', hz⟩ := I1.tuple hq
    have hal : a < s1.heap.objs.size := by obtain ⟨_, y, _⟩ := p'; exact Heap.lt_size y
    refine call_enum_tup p' fun h' he hit hsz hk => wpAny_pyIter_enum he ?_
    have I2 : Inv X pins σ H1 { s1 with heap := h' } := I1.kept (t' := s1.toks) hk
    refine ⟨s1.heap.objs.size + 1, [s1.heap.objs.size + 1, s1.heap.objs.size], _, _, H1, rfl, I2, turn_enumT a (s1.heap.objs.size + 1) s1.heap.objs.size (Nat.ne_of_lt hal) (Nat.ne_of_lt (Nat.lt_succ_of_lt hal)), ⟨⟨.none, he⟩, hit, Nat.succ_ne_self _⟩, fun b hb => ?_, q⟩
    have e' : b = s1.heap.objs.size + 1 ∨ b = s1.heap.objs.size := by simpa using hb
    have hle : s1.heap.objs.size ≤ b := by
      rcases e' with z | z
      · rw [z]; exact Nat.le_add_right _ _
      · rw [z]; exact Nat.le_refl _
    exact I1.fpOk hle (I1.hok.fresh hle)
theorem iteT {K : PySem.W.Frag} {a : Addr} {B : Hp} {vs : List V} {ds : List D} (h : B a = some (.tup vs)) (r : Reps B vs ds) : ItD (IteT K a) B (enumD ds) := fun i B1 H1 s1 s2 => by
  have hs : SqT K H1 a vs := SqT.of (s2 _ _ (s1 _ _ h))
  refine ⟨fun d hd => ?_, fun hl => ⟨vs, hs, by
    unfold enumD at hl
    rw [List.length_mapIdx] at hl
    rw [r.len]; exact hl⟩⟩
  unfold enumD at hd
  rw [List.getElem?_mapIdx] at hd
  obtain ⟨x, hx, rfl⟩ := Option.map_eq_some_iff.mp hd
  obtain ⟨v, hv, rv⟩ := r.get hx
  refine ⟨⟨vs, v, hs, hv⟩, fun z H' ⟨T, v', e, hT, e2, y1⟩ => ?_⟩
  subst e e2
  have e3 := y1 vs hs
  rw [hv] at e3
  cases e3
  have g := Grow.both s2 (o := .tup [.int (i : Nat), v]) hT
  exact ⟨_, g, .tup upd_same (.cons (.int _) (.cons ((rv.mono s1).mono g.bb) .nil))⟩
def itEnumA (f : Ev (List Opd)) : Ev (List D) := fun env => (f env).bind fun p => match p.1 with
  | [.v (.list a)] => some (enumD a, p.2)
  | [.v (.tuple a)] => some (enumD a, p.2)
  | _ => none
theorem piOr {X : Cx} {tg e : Expr} {t u : TI} (h : PI X tg e t) (k : PI X tg e u) : PI X tg e (fun σ H R => t σ H R ∨ u σ H R) := ⟨fun pins s σ H R I q => q.elim (fun q => h.run pins s σ H R I q) fun q => k.run pins s σ H R I q⟩
theorem i_enumA {X : Cx} {a : Expr} {f : Ev (List Opd)} {p pos tpos : Pos} {elts : List Expr} {kk : Nat} (hg : Gl X "enumerate") (hm : X.mg "enumerate" = none) (ha : PA X [a] (tA X.K f))
    (hs : starEach [a] X.env = [(false, eval a X.env)] := by rfl) :
    PI X (.Tuple elts kk tpos) (.Call (.Name "enumerate" p) [a] [] pos) (tIt X.K (itEnumA f)) := piImp (piOr (pi_enum hg hm ha hs) (pi_enumT hg hm ha hs)) fun σ H R ⟨E, B, env, ds, env', r, ef, k⟩ => by
  obtain ⟨q, e1, ef⟩ := bindS (show (f env).bind _ = _ from ef)
  split at ef
  · rename_i x hj
    cases ef
    refine .inl ⟨E, B, env, q.1, q.2, r, e1, fun vs B' H' r' s' z => ?_⟩
    rw [hj] at z
    obtain ⟨u, rr, rfl, z1, z3⟩ := z
    cases z3
    cases (show Rep B' u (.list x) from z1) with
    | lst g1 g2 => exact ⟨_, _, rfl, SqL.of (r'.bh _ _ g1), k _ B' H' r' s' (ite g1 g2)⟩
  · rename_i x hj
    cases ef
    refine .inr ⟨E, B, env, q.1, q.2, r, e1, fun vs B' H' r' s' z => ?_⟩
    rw [hj] at z
    obtain ⟨u, rr, rfl, z1, z3⟩ := z
    cases z3
    cases (show Rep B' u (.tuple x) from z1) with
    | tup g1 g2 => exact ⟨_, _, rfl, SqT.of (r'.bh _ _ g1), k _ B' H' r' s' (iteT g1 g2)⟩
  · cases ef
/-! ### x, y = a, b by way of a tuple (a name is a cell) -/
theorem ResV.grow {K : PySem.W.Frag} {E : Ent} {B H B' H' : Hp} {σ : L2.St} {env : NS.Env} {x : Res} {u : V} (h : ResV E B H σ env x u) (g : Grow B H B' H') : ResV E B' H' σ env x u := by
  have own : (∃ p o, u = .ref p ∧ H p = some o ∧ OwnO B p x.ov o ∧ B p = none ∧ (∀ j, ¬ Own σ env j p) ∧ (E.H0 p = none ∨ E.Z p)) → ∃ p o, u = .ref p ∧ H' p = some o ∧ OwnO B' p x.ov o ∧ B' p = none ∧ (∀ j, ¬ Own σ env j p) ∧ (E.H0 p = none ∨ E.Z p) := by
    rintro ⟨p, o, rfl, h1, h2, h3, h4, h5⟩
    refine ⟨p, o, rfl, g.hh p o h1, h2.mono g.bb, ?_, h4, h5⟩
    cases e : B' p with
    | none => rfl
    | some t =>
      rcases g.new p t e with y | y
      · rw [h3] at y; cases y
      · rw [h1] at y; cases y
  cases x with
  | d d => exact Rep.mono g.bb h
  | l ds => exact own h
  | k ds => exact own h
theorem s_unp2 {X : Cx} {st : Stmt} {i j : Nat} {fa fb : Ev Res} {ta : TA} (hij : i ≠ j) (hst : PS X st (tAsg (tTup ta) (L2.gTup X.K 2 (gCons (gName i) (gCons (gName j) gNil)))))
    (hta : ∀ σ H Q, (∃ E B env x env' y env'', RR X.K E B H σ env ∧ fa env = some (x, env') ∧ fb env' = some (y, env'') ∧ ∀ u v B2 H2, RR X.K E B2 H2 σ env'' → Sub B B2 → ResV E B2 H2 σ env'' x u → ResV E B2 H2 σ env'' y v → (x.ov.owned = true → y.ov.owned = true → u ≠ v) → Q [u, v] H2) → ta σ H Q) :
    PS X st (tS X.K (par2 i j fa fb)) := psImp hst fun D σ H ⟨E, B, env, fl, env', r, ef, k⟩ => by
  obtain ⟨p, e1, ef⟩ := bindS ef
  obtain ⟨q, e2, ef⟩ := bindS ef
  cases ef
  refine hta σ H _ ⟨E, B, env, p.1, p.2, q.1, q.2, r, e1, e2, fun u v B2 H2 r2 s2 h1 h2 ap => ⟨by show 2 ≤ sizeLine; rw [sizeLine_eq]; omega, fun T hT => ?_⟩⟩
  have g : Grow B2 H2 B2 (upd H2 T (.tup [u, v])) := Grow.heap r2.bh hT
  refine ⟨T, [u, v], rfl, SqT.of upd_same, rfl, u, [v], rfl, v, [], rfl, rfl, ?_⟩
  exact k _ B2 _ ((r2.grow g).put2 hij (ResV.grow (K := X.K) h1 g) (ResV.grow (K := X.K) h2 g) ap) s2
theorem ta_two {X : Cx} {fa fb : Ev Res} (σ : L2.St) (H : Hp) (Q : List V → Hp → Prop) (h : ∃ E B env x env' y env'', RR X.K E B H σ env ∧ fa env = some (x, env') ∧ fb env' = some (y, env'') ∧ ∀ u v B2 H2, RR X.K E B2 H2 σ env'' → Sub B B2 → ResV E B2 H2 σ env'' x u → ResV E B2 H2 σ env'' y v → (x.ov.owned = true → y.ov.owned = true → u ≠ v) → Q [u, v] H2) :
    tCons (tR X.K fa) (tCons (tR X.K fb) tNil) σ H Q := by
  obtain ⟨E, B, env, x, env', y, env'', r, e1, e2, k⟩ := h
  refine ⟨E, B, env, x, env', r, e1, fun u B1 H1 r1 s1 q1 => ⟨loc B1 H1 σ env', B1, env', y, env'', r1.loc, e2, fun v B2 H2 r2 s2 q2 => ?_⟩⟩
  exact k u v B2 H2 (r1.comp r2) (s1.tr s2) (q1.hold r1 r2) (q2.out r1) (q1.apart q2)
end NS

set_option Elab.async false
set_option linter.all false
set_option maxRecDepth 100000
set_option maxHeartbeats 4000000
/-! NsR: f([..], [..]) whose lists hold owned things: a call that only looks, its answer a truth. -/
namespace NS
open PySem L2 PyProof.Rows NT
variable [W : NT.Wd]
/-- all that can be read in H beside B -/
def ExB (B H : Hp) (a1 a2 : Addr) (x : Addr) : Prop := x = a1 ∨ x = a2 ∨ ∃ o ov, H x = some o ∧ OwnO B x ov o
open Classical in
noncomputable def wideB (B H : Hp) (a1 a2 : Addr) : Hp := fun x => if B x = none ∧ ExB B H a1 a2 x then H x else B x
section
variable {K : PySem.W.Frag} {B H : Hp} {a1 a2 : Addr}
theorem wideB_sub : Sub B (wideB B H a1 a2) := fun b o e => by
  unfold wideB
  rw [if_neg (fun z => by rw [z.1] at e; cases e)]
  exact e
theorem wideB_low (s : Sub B H) : Sub (wideB B H a1 a2) H := fun b o e => by
  unfold wideB at e
  by_cases h : B b = none ∧ ExB B H a1 a2 b
  · rw [if_pos h] at e; exact e
  · rw [if_neg h] at e; exact s b o e
theorem wideB_at {x : Addr} (s : Sub B H) (h : ExB B H a1 a2 x) {o : HO} (e : H x = some o) : wideB B H a1 a2 x = some o := by
  unfold wideB
  by_cases z : B x = none
  · rw [if_pos ⟨z, h⟩]; exact e
  · rw [if_neg (fun q => z q.1)]
    cases q : B x with
    | none => exact absurd q z
    | some o' => rw [s x o' q] at e; exact e
theorem wideB_rd {u : V} {d : D} (s : Sub B H) (h : Rd B H u d) : Rep (wideB B H a1 a2) u d := by
  rcases h with h | ⟨a, o, ov, rfl, h1, h2, rfl, h4⟩
  · exact h.mono wideB_sub
  · exact (h2.mono wideB_sub).rep (wideB_at s (.inr (.inr ⟨o, ov, h1, h2⟩)) h1)
theorem wideB_rds : ∀ {us : List V} {ds : List D}, Sub B H → Rds B H us ds → Reps (wideB B H a1 a2) us ds
  | [], ds, _, h => by
    have h : ds = [] := h
    subst h; exact .nil
  | u :: us, ds, s, ⟨d, r, e, h, k⟩ => by
    subst e
    exact .cons (wideB_rd s h) (wideB_rds s k)
end
def callB2 (g : List Opd → Option Res) (fa fb : Ev (List Opd)) : Ev Res := fun env => (fa env).bind fun p => (fb p.2).bind fun q => (opDs q.2 p.1).bind fun da => (opDs q.2 q.1).bind fun db =>
  guardO (decide (da.length ≤ 100000) && decide (db.length ≤ 100000)) ((g [.v (.list da), .v (.list db)]).bind fun r => match r with
    | .d (.bool b) => some (.d (.bool b), q.2)
    | _ => none)
theorem rds_len {B H : Hp} : ∀ {us : List V} {ds : List D}, Rds B H us ds → us.length = ds.length
  | [], ds, h => by
    have h : ds = [] := h
    subst h; rfl
  | u :: us, ds, ⟨d, r, e, h, k⟩ => by
    subst e
    rw [List.length_cons, List.length_cons, rds_len k]
theorem opDs_len {env : Env} : ∀ {xs : List Opd} {ds : List D}, opDs env xs = some ds → xs.length = ds.length
  | [], ds, h => by cases h; rfl
  | x :: xs, ds, h => by
    obtain ⟨d, _, h⟩ := bindS h
    obtain ⟨r, e, h⟩ := bindS h
    cases h
    rw [List.length_cons, List.length_cons, opDs_len e]
theorem tCallB2 {K : PySem.W.Frag} {g : List Opd → Option Res} {fa fb : Ev (List Opd)} (σ : L2.St) (H : Hp) (Q : VK) (h : tR K (callB2 g fa fb) σ H Q) : tCall (spT K 2 g) [] E0 (tCons (tLst (tA K fa)) (tCons (tLst (tA K fb)) tNil)) σ H Q := by
  obtain ⟨E, B, env, res, env', r, ef, kk⟩ := h
  obtain ⟨p, e1, ef⟩ := bindS ef
  obtain ⟨q, e2, ef⟩ := bindS ef
  obtain ⟨da, e3, ef⟩ := bindS ef
  obtain ⟨db, e4, ef⟩ := bindS ef
  obtain ⟨hl, ef⟩ := guardS ef
  obtain ⟨rs, e5, ef⟩ := bindS ef
  simp only [Bool.and_eq_true, decide_eq_true_eq] at hl
  obtain ⟨b, rfl, rfl, rfl⟩ : ∃ b, rs = .d (.bool b) ∧ res = .d (.bool b) ∧ env' = q.2 := by
    split at ef
    · rename_i b
      cases ef
      exact ⟨b, rfl, rfl, rfl⟩
    · cases ef
  refine ⟨E, B, env, p.1, p.2, r, e1, fun us B1 H1 r1 s1 z1 => ⟨?_, fun a1 ha1 => ?_⟩⟩
  · rw [opvs_len z1, opDs_len e3]; exact line5 hl.1
  have g1 : Grow B1 H1 B1 (upd H1 a1 (.lst us)) := Grow.heap r1.bh ha1
  have r1' := r1.grow g1
  refine ⟨NS.loc B1 (upd H1 a1 (.lst us)) σ p.2, B1, p.2, q.1, q.2, r1'.loc, e2, fun ws B2 H2 r2 s2 z2 => ⟨?_, fun a2 ha2 => ?_⟩⟩
  · rw [opvs_len z2, opDs_len e4]; exact line5 hl.2
  have r12 := r1'.comp r2
  have hk1 : H2 a1 = some (.lst us) := r2.keep a1 _ upd_same (fun ⟨i, ov, w1, w2, w3⟩ => by
    obtain ⟨a', o1, v1, v2, v3, _⟩ := r1.owns w1 w2
    rw [w3] at v1
    cases v1
    rw [ha1] at v2
    cases v2) (fun ps z => by cases z)
  have g2 : Grow B2 H2 B2 (upd H2 a2 (.lst ws)) := Grow.heap r12.bh ha2
  have r3 := r12.grow g2
  have rd1 : Rds B2 (upd H2 a2 (.lst ws)) us da := opRds r3 (OpVs.mono s2 z1) e3
  have rd2 : Rds B2 (upd H2 a2 (.lst ws)) ws db := opRds r3 z2 e4
  have ha12 : a1 ≠ a2 := fun z => by rw [z, ha2] at hk1; cases hk1
  have hk1' : upd H2 a2 (.lst ws) a1 = some (.lst us) := by rw [upd_ne ha12]; exact hk1
  have hk2' : upd H2 a2 (.lst ws) a2 = some (.lst ws) := upd_same
  generalize upd H2 a2 (.lst ws) = H3 at *
  have w1 : Rep (wideB B2 H3 a1 a2) (.ref a1) (.list da) := .lst (wideB_at r3.bh (.inl rfl) hk1') (wideB_rds r3.bh rd1)
  have w2 : Rep (wideB B2 H3 a1 a2) (.ref a2) (.list db) := .lst (wideB_at r3.bh (.inr (.inl rfl)) hk2') (wideB_rds r3.bh rd2)
  have tb : TabsK K (wideB B2 H3 a1 a2) H3 := ⟨r3.tb.tab, fun P hP => by
    obtain ⟨ps, hps⟩ := r3.tb.at hP
    unfold wideB
    rw [if_neg (fun z => by
      rcases z.2 with z | z | ⟨o, ov, z1, z2⟩
      · rw [z, hk1'] at hps; cases hps
      · rw [z, hk2'] at hps; cases hps
      · rw [hps] at z1
        cases z1
        cases ov with
        | ol _ _ => obtain ⟨_, e, _⟩ := z2; cases e
        | od _ _ => obtain ⟨_, _, e, _⟩ := z2; unfold DicO at e; cases e
        | fz _ => exact z2
        | fn _ => exact z2
        | scr _ => exact z2)]
    exact r3.tb.off P hP⟩
  refine ⟨wideB B2 H3 a1 a2, [.v (.list da), .v (.list db)], .d (.bool b), wideB_low r3.bh, tb, rfl, rfl, ⟨_, _, rfl, w1, _, _, rfl, w2, rfl⟩, e5, fun v B4 H4 gr nw => ?_⟩
  have r4 : RR K E B2 H4 σ q.2 := r3.growC ⟨Sub.rfl', gr.hh, gr.dom, fun x o e => gr.bh x o (gr.bb x o (wideB_sub x o e)), fun _ _ e => .inl e, ⟨gr.tb.tab, r3.tb.off⟩⟩
  refine kk v B2 H4 r4 ((s1.tr s2)) ?_
  have nw : Rep B4 v (.bool b) := nw
  cases nw
  exact (show Rep B2 _ (.bool b) from .bl _)
theorem e_callB2 {X : Cx} {k j : Nat} {ps : List Str} {x : Str} {p pos q1 q2 : Pos} {es1 es2 : List Expr} {fa fb : Ev (List Opd)} {g : List Opd → Option Res} (C : Callee X.prog X.w X.K X.mg X.base x j ps (spT X.K 2 g)) (hgd : X.A.guards = some []) (hr : Room k X.A) (hjk : j ≤ k) (hg : Gl X x) (ha : PA X es1 (tA X.K fa)) (hb : PA X es2 (tA X.K fb)) (hdb : (x == ("__debug__" : Str)) = false := by decide) :
    PE X (.Call (.Name x p) [.List es1 q1, .List es2 q2] [] pos) (tR X.K (callB2 g fa fb)) := by
  obtain ⟨f, fd, F, hm, hk, hbi⟩ := C.ex
  exact peImp (callG F hgd (hr.mono hjk) hg hm hk hbi pass0 (pa_cons (pe_lst ha) (pa_cons (pe_lst hb) pa_nil)) hdb rfl rfl) tCallB2
end NS

set_option Elab.async false
set_option linter.all false
set_option maxRecDepth 100000
set_option maxHeartbeats 4000000
/-! NtD: dicts of trees: what is read, asked, stored. -/
namespace NS
open PySem L2 PyProof.Rows NT
variable [W : NT.Wd]
/-! ### trees as keys -/
mutual
def asNk : D → Option NK
  | .none => some .none
  | .int i => some (.num i)
  | .str x => some (.text x)
  | .tuple ds => (asNks ds).bind fun ks => some (.tup ks)
  | .bool _ => none
  | .list _ => none
  | .dict _ => none
def asNks : List D → Option (List NK)
  | [] => some []
  | d :: ds => (asNk d).bind fun k => (asNks ds).bind fun ks => some (k :: ks)
end
mutual
theorem asNk_of : ∀ {d : D} {k : NK}, asNk d = some k → k.data = d
  | .none, k, h => by cases h; rfl
  | .int i, k, h => by cases h; rfl
  | .str x, k, h => by cases h; rfl
  | .tuple ds, k, h => by
    obtain ⟨ks, h1, h2⟩ := bindS (show (asNks ds).bind _ = _ from h)
    cases h2
    show PyData.tuple (NestedKey.datas ks) = _
    rw [asNks_of h1]
  | .bool _, _, h => by cases h
  | .list _, _, h => by cases h
  | .dict _, _, h => by cases h
theorem asNks_of : ∀ {ds : List D} {ks : List NK}, asNks ds = some ks → NestedKey.datas ks = ds
  | [], ks, h => by cases h; rfl
  | d :: ds, ks, h => by
    obtain ⟨k, h1, h⟩ := bindS (show (asNk d).bind _ = _ from h)
    obtain ⟨ks', h2, h⟩ := bindS h
    cases h
    show NestedKey.data k :: NestedKey.datas ks' = _
    rw [asNk_of h1, asNks_of h2]
end
mutual
theorem asNk_data : ∀ k : NK, asNk k.data = some k
  | .none => rfl
  | .num i => rfl
  | .text x => rfl
  | .tup ks => by
    show (asNks (NestedKey.datas ks)).bind _ = _
    rw [asNks_data ks]; rfl
theorem asNks_data : ∀ ks : List NK, asNks (NestedKey.datas ks) = some ks
  | [] => rfl
  | k :: ks => by
    show (asNk (NestedKey.data k)).bind _ = _
    rw [asNk_data k]
    show (asNks (NestedKey.datas ks)).bind _ = _
    rw [asNks_data ks]; rfl
end
def keyN (d : D) : Option NK := (asNk d).bind fun k => if k.depth ≤ 8 then some k else none
theorem keyN_of {d : D} {k : NK} (h : keyN d = some k) : asNk d = some k ∧ k.data = d ∧ k.depth ≤ 8 := by
  obtain ⟨k', h1, h2⟩ := bindS h
  split at h2
  · cases h2; exact ⟨h1, asNk_of h1, by assumption⟩
  · cases h2
theorem datas_len : ∀ ks : List NK, (NestedKey.datas ks).length = ks.length
  | [] => rfl
  | k :: ks => by show (NestedKey.datas ks).length + 1 = _; rw [datas_len ks]; rfl
section
variable {H : Hp}
mutual
theorem keyV_rep : ∀ (k : NK) (v : V), Rep H v k.data → KeyV H k v
  | .none, _, h => by cases (show Rep H _ .none from h); exact .none
  | .num i, _, h => by cases (show Rep H _ (.int i) from h); exact .num i
  | .text x, _, h => by cases (show Rep H _ (.str x) from h); exact .text x
  | .tup ks, _, h => by
    cases (show Rep H _ (.tuple (NestedKey.datas ks)) from h) with
    | tup e r => exact .tup e (by rw [r.len, datas_len]) (keyV_reps ks _ r)
theorem keyV_reps : ∀ (ks : List NK) (vs : List V), Reps H vs (NestedKey.datas ks) → ∀ (i : Nat) (k : NK) (v : V), ks[i]? = some k → vs[i]? = some v → KeyV H k v
  | [], _, _, i, k, v, h, _ => by simp at h
  | k :: ks, vs, r, i, k', v, h1, h2 => by
    cases (show Reps H vs (NestedKey.data k :: NestedKey.datas ks) from r) with
    | cons a b =>
      cases i with
      | zero =>
        simp only [List.getElem?_cons_zero, Option.some.injEq] at h1 h2
        subst h1 h2
        exact keyV_rep k _ a
      | succ i =>
        simp only [List.getElem?_cons_succ] at h1 h2
        exact keyV_reps ks _ b i k' v h1 h2
end
theorem keysV_rep : ∀ {es : EV}, Reps H (es.map (·.2.1)) (es.map fun e => e.1.data) → KeysV H es
  | [], _ => fun e he => by cases he
  | x :: es, .cons a b => fun e he => by
    rcases List.mem_cons.mp he with z | he
    · subst z; exact keyV_rep _ _ a
    · exact keysV_rep b e he
def lookD (k : NK) : List (D × D) → Option D
  | [] => none
  | p :: r => if asNk p.1 = some k then some p.2 else lookD k r
theorem lookD_rel {k : NK} : ∀ {es : EV} {ds : List D}, Reps H (es.map (·.2.2)) ds → (∀ d, lookD k ((es.map fun e => e.1.data).zip ds) = some d → ∃ v, atE es k = some v ∧ Rep H v d) ∧ (lookD k ((es.map fun e => e.1.data).zip ds) = none → atE es k = none)
  | [], _, .nil => ⟨fun d h => by simp [lookD] at h, fun _ => rfl⟩
  | e :: es, _, .cons (d := x) (ds := ds) a b => by
    obtain ⟨h1, h2⟩ := lookD_rel (k := k) b
    rw [List.map_cons, List.zip_cons_cons]
    unfold lookD atE
    rw [asNk_data, List.find?_cons]
    by_cases h : e.1 = k
    · rw [if_pos (by rw [h]), decide_eq_true h]
      exact ⟨fun d e => by cases e; exact ⟨_, rfl, a⟩, fun e => by cases e⟩
    · rw [if_neg (fun z => h (Option.some.inj z)), decide_eq_false h]
      exact ⟨h1, h2⟩
end
/-- a dict that can be read -/
theorem dic_cases {B H : Hp} {u : V} {ps : List (D × D)} (s : Sub B H) (h : NS.Rd B H u (.dict ps)) : ∃ (a : Addr) (es : EV) (ep : Nat) (ds : List D), u = .ref a ∧ H a = some (DicO a es ep) ∧ Reps B (es.map (·.2.1)) (es.map fun e => e.1.data) ∧ Reps B (es.map (·.2.2)) ds ∧ ps = (es.map fun e => e.1.data).zip ds := by
  rcases h with h | ⟨a, o, ov, e, h1, h2, h3, _⟩
  · cases h with
    | dic h d k r => exact ⟨_, _, _, _, rfl, s _ _ h, k, r, rfl⟩
  · cases ov with
    | fn _ => exact False.elim h2
    | od b kvs =>
      obtain ⟨es, ep, rfl, hk, hd, r1, r2⟩ := h2
      cases h3
      exact ⟨a, es, ep, _, e, h1, r1, r2, (zip_keys hk).symm⟩
    | ol b ds => cases h3
    | fz d => exact False.elim h2
    | scr ns => exact False.elim h2
theorem dk_of {B H : Hp} {a : Addr} {es : EV} {ep : Nat} {v : V} {d : D} {k : NK} (s : Sub B H) (h : H a = some (DicO a es ep)) (r : Reps B (es.map (·.2.1)) (es.map fun e => e.1.data)) (hy : NS.Rd B H v d) (hk : keyN d = some k) : DK H a es ep k v := by
  obtain ⟨h1, h2, h3⟩ := keyN_of hk
  subst h2
  exact ⟨h, keysV_rep (r.mono s), keyV_rep k v (hy.rep s), h3⟩
section
variable {X : Cx} {pos : Pos}
/-- the room that the dicts want -/
theorem room9 {k : Nat} {A : Around} (r : Room k A) : A.units + 9 < cLine := by have := r.un; omega
/-! ### d[k] -/
def rIxD : R2 := fun x y H Q => ∃ (a : Addr) (es : EV) (ep : Nat) (k : NK) (v : V), x = .ref a ∧ DK H a es ep k y ∧ atE es k = some v ∧ Q v H
theorem ix_dic (hw : X.w = W.w) (hu : X.A.units + 9 < cLine) : IxR X rIxD := by
  intro value slice pins s σ H x y v u Q I rx ry h hs
  obtain ⟨a, es, ep, k, w', rfl, g, hv, q⟩ := h
  obtain rfl : v = Value.ref a := rx
  obtain ⟨hT, _, _⟩ := dk_type I g.at_
  unfold subscriptTail
  refine wpAny_bind ?_
  rw [getitemInPython_of_ne hT.not_modules]
  refine wpAny_bind (wpAny_specialOf hT PySem.F.slot_dict_getitem.lookup ?_)
  have fin : wpAny (model X.prog X.w) X.A (subscripted slice false (.ref a) u) (fun r s₃ => wpAny (model X.prog X.w) X.A (letTemporaryGo value (.ref a) r >>= fun _ => pure r) (EP X pins σ Q) X.xe s₃) X.xe s := by
    rw [hs]
    exact wpAny_operating (dk_item hw hu I g hv ry fun r s3 I3 rw' => wpAny_bind (wpAny_letTemporaryGo (wpAny_pure ⟨w', H, I3, rw', q⟩)))
  first
    | exact wpAny_pure (wpAny_bind fin)
    | exact wpAny_bind (wpAny_pure (wpAny_bind fin))
    | exact wpAny_bind fin
def gIxA : D → D → Option Res
  | .dict ps, y => (keyN y).bind fun k => (lookD k ps).bind fun d => some (.d d)
  | x, y => gIx x y
def rIxA (K : PySem.W.Frag) : R2 := fun x y H Q => rIx K x y H Q ∨ rIxD x y H Q
theorem ix_any (hw : X.w = W.w) (hu : X.A.units + 9 < cLine) : IxR X (rIxA X.K) := ix_seq.or (ix_dic hw hu)
theorem p_ixA {K : PySem.W.Frag} : Prim2 (rIxA K) gIxA := fun B H u v dx dy res Q s hx hy e k => by
  unfold gIxA at e
  split at e
  · rename_i ps
    obtain ⟨ky, e1, e⟩ := bindS e
    obtain ⟨d, e2, e⟩ := bindS e
    cases e
    obtain ⟨a, es, ep, ds, rfl, h1, r1, r2, rfl⟩ := dic_cases s hx
    obtain ⟨w, q1, q2⟩ := (lookD_rel r2).1 d e2
    exact .inr ⟨a, es, ep, ky, w, rfl, dk_of s h1 r1 hy e1, q1, newD s q2 k⟩
  · exact .inl (p_ix B H u v dx dy res Q s hx hy e k)
/-! ### k in d -/
def rInDic (neg : Bool) : R2 := fun x y H Q => ∃ (a : Addr) (es : EV) (ep : Nat) (k : NK), y = .ref a ∧ DK H a es ep k x ∧ Q (.bl (neg ^^ (atE es k).isSome)) H
theorem op_inDic (hw : X.w = W.w) (hu : X.A.units + 9 < cLine) : OpR X (compareOp .In) (rInDic false) := by
  intro pins s σ H x y v u Q I rx ry h
  obtain ⟨a, es, ep, k, rfl, g, q⟩ := h
  obtain rfl : u = Value.ref a := ry
  exact dk_in hw hu I g rx fun s' I' => ⟨.bl _, H, I', by simp only [Bool.false_xor]; rfl, q⟩
theorem op_notinDic (hw : X.w = W.w) (hu : X.A.units + 9 < cLine) : OpR X (compareOp .NotIn) (rInDic true) := by
  intro pins s σ H x y v u Q I rx ry h
  obtain ⟨a, es, ep, k, rfl, g, q⟩ := h
  obtain rfl : u = Value.ref a := ry
  exact dk_notin hw hu I g rx fun s' I' => ⟨.bl _, H, I', by simp only [Bool.true_xor]; rfl, q⟩
def rInT (K : PySem.W.Frag) (neg : Bool) : R2 := fun x y H Q => ∃ d ds, Dp K H x d ∧ Dp K H y (.tuple ds) ∧ SeqAt.shaped d = true ∧ SeqAt.shaped (.tuple ds) = true ∧ Q (.bl (neg ^^ ds.any fun z => PyData.eqv z d)) H
theorem op_inT (hu : X.A.units + 65 < cLine) : OpR X (compareOp .In) (rInT X.K false) := by
  intro pins s σ H x y v u Q I rx ry h
  obtain ⟨d, ds, hd, he, sd, se, q⟩ := h
  obtain ⟨as, r1⟩ := Dp.reads I d x v hd rx
  obtain ⟨bs, r2⟩ := Dp.reads I (.tuple ds) y u he ry
  exact SeqAt.in_tuple_reads r2 r1 (SeqAt.canLay_of_shaped se) (SeqAt.canLay_of_shaped sd) (room_in_shaped sd hu) ⟨.bl _, H, I, by simp only [Bool.false_xor]; rfl, q⟩
theorem op_notinT (hu : X.A.units + 65 < cLine) : OpR X (compareOp .NotIn) (rInT X.K true) := by
  intro pins s σ H x y v u Q I rx ry h
  obtain ⟨d, ds, hd, he, sd, se, q⟩ := h
  obtain ⟨as, r1⟩ := Dp.reads I d x v hd rx
  obtain ⟨bs, r2⟩ := Dp.reads I (.tuple ds) y u he ry
  exact SeqAt.notIn_tuple_reads r2 r1 (SeqAt.canLay_of_shaped se) (SeqAt.canLay_of_shaped sd) (room_in_shaped sd hu) ⟨.bl _, H, I, by simp only [Bool.true_xor]; rfl, q⟩
def rInSg (neg : Bool) : R2 := fun x y H Q => ∃ (c : Nat) (z : Str), x = .str ⟨#[c]⟩ ∧ y = .str z ∧ Q (.bl (neg ^^ decide (c ∈ z.cps.toList))) H
theorem op_inSg : OpR X (compareOp .In) (rInSg false) := fun pins s σ H x y v u Q I rx ry h => by
  obtain ⟨c, z, e1, e2, q⟩ := h
  exact op_in_sign pins s σ H x y v u Q I rx ry ⟨c, z, e1, e2, by simpa using q⟩
theorem op_notinSg : OpR X (compareOp .NotIn) (rInSg true) := fun pins s σ H x y v u Q I rx ry h => by
  obtain ⟨c, z, e1, e2, q⟩ := h
  exact op_notIn_sign pins s σ H x y v u Q I rx ry ⟨c, z, e1, e2, by simpa using q⟩
def rInA (K : PySem.W.Frag) : R2 := fun x y H Q => ((rInD K x y H Q ∨ rInT K false x y H Q) ∨ rInSg false x y H Q) ∨ rInDic false x y H Q
def rNotInA (K : PySem.W.Frag) : R2 := fun x y H Q => ((rNotInD K x y H Q ∨ rInT K true x y H Q) ∨ rInSg true x y H Q) ∨ rInDic true x y H Q
theorem op_inA (hw : X.w = W.w) (hu : X.A.units + 65 < cLine) : OpR X (compareOp .In) (rInA X.K) := (((op_inD hu).or (op_inT hu)).or op_inSg).or (op_inDic hw (by omega))
theorem op_notInA (hw : X.w = W.w) (hu : X.A.units + 65 < cLine) : OpR X (compareOp .NotIn) (rNotInA X.K) := (((op_notInD hu).or (op_notinT hu)).or op_notinSg).or (op_notinDic hw (by omega))
/-- whether x is in y -/
def inD : D → D → Option Bool
  | d, .list ds => if (SeqAt.shaped d && SeqAt.shaped (.list ds)) = true then some (ds.any fun z => PyData.eqv z d) else none
  | d, .tuple ds => if (SeqAt.shaped d && SeqAt.shaped (.tuple ds)) = true then some (ds.any fun z => PyData.eqv z d) else none
  | .str x, .str z => if x.cps.size = 1 then some (decide ((x.cps.getD 0 0) ∈ z.cps.toList)) else none
  | d, .dict ps => (keyN d).bind fun k => some (lookD k ps).isSome
  | _, _ => none
def gInA : D → D → Option Res := fun x y => (inD x y).bind fun b => some (.d (.bool b))
def gNotInA : D → D → Option Res := fun x y => (inD x y).bind fun b => some (.d (.bool (!b)))
theorem sign_one {x : Str} (h : x.cps.size = 1) : x = ⟨#[x.cps.getD 0 0]⟩ := by
  obtain ⟨c⟩ := x
  obtain ⟨l⟩ := c
  have h' : l.length = 1 := h
  match l, h' with
  | [a], _ => rfl
theorem inD_run {K : PySem.W.Frag} {B H : Hp} {u v : V} {dx dy : D} {b neg : Bool} {Q : VK} (s : Sub B H) (hx : NS.Rd B H u dx) (hy : NS.Rd B H v dy) (e : inD dx dy = some b) (q : Q (.bl (neg ^^ b)) H) :
    (((∃ d ds, Dp K H u d ∧ Dp K H v (.list ds) ∧ SeqAt.shaped d = true ∧ SeqAt.shaped (.list ds) = true ∧ Q (.bl (neg ^^ ds.any fun z => PyData.eqv z d)) H) ∨ rInT K neg u v H Q) ∨ rInSg neg u v H Q) ∨ rInDic neg u v H Q := by
  unfold inD at e
  split at e
  · rename_i ds
    split at e
    · rename_i hl
      cases e
      obtain ⟨h1, h2⟩ := Bool.and_eq_true_iff.mp hl
      exact .inl (.inl (.inl ⟨dx, ds, (hx.rep s).dp K (SeqAt.canLay_of_shaped h1), (hy.rep s).dp K (SeqAt.canLay_of_shaped h2), h1, h2, q⟩))
    · cases e
  · rename_i ds
    split at e
    · rename_i hl
      cases e
      obtain ⟨h1, h2⟩ := Bool.and_eq_true_iff.mp hl
      exact .inl (.inl (.inr ⟨dx, ds, (hx.rep s).dp K (SeqAt.canLay_of_shaped h1), (hy.rep s).dp K (SeqAt.canLay_of_shaped h2), h1, h2, q⟩))
    · cases e
  · rename_i x z
    split at e
    · rename_i h1
      cases e
      exact .inl (.inr ⟨_, z, by rw [← sign_one h1]; exact hx.str, hy.str, q⟩)
    · cases e
  · rename_i d ps
    obtain ⟨k, e1, e⟩ := bindS e
    cases e
    obtain ⟨a, es, ep, ds, rfl, h1, r1, r2, rfl⟩ := dic_cases s hy
    refine .inr ⟨a, es, ep, k, rfl, dk_of s h1 r1 hx e1, ?_⟩
    cases hl : lookD k ((es.map fun e => e.1.data).zip ds) with
    | none => rw [(lookD_rel r2).2 hl]; rw [hl] at q; exact q
    | some d =>
      obtain ⟨w, q1, _⟩ := (lookD_rel r2).1 d hl
      rw [q1]; rw [hl] at q; exact q
  · cases e
theorem p_inA {K : PySem.W.Frag} : Prim2 (rInA K) gInA := fun B H u v dx dy res Q s hx hy e k => by
  obtain ⟨b, e1, e⟩ := bindS e
  cases e
  have := inD_run (K := K) (neg := false) (Q := Q) s hx hy e1 (newD s (.bl _) (by simpa using k))
  rcases this with ((⟨d, ds, h1, h2, h3, h4, q⟩ | h) | h) | h
  · exact .inl (.inl (.inl ⟨d, ds, h1, h2, h3, h4, by simpa using q⟩))
  · exact .inl (.inl (.inr h))
  · exact .inl (.inr h)
  · exact .inr h
theorem p_notinA {K : PySem.W.Frag} : Prim2 (rNotInA K) gNotInA := fun B H u v dx dy res Q s hx hy e k => by
  obtain ⟨b, e1, e⟩ := bindS e
  cases e
  have := inD_run (K := K) (neg := true) (Q := Q) s hx hy e1 (newD s (.bl _) (by simpa using k))
  rcases this with ((⟨d, ds, h1, h2, h3, h4, q⟩ | h) | h) | h
  · exact .inl (.inl (.inl ⟨d, ds, h1, h2, h3, h4, by simpa using q⟩))
  · exact .inl (.inl (.inr h))
  · exact .inl (.inr h)
  · exact .inr h
/-! ### {} -/
theorem pe_dnewA : PE X (.Dict [] [] pos) (fun _ H Q => ∀ p, H p = none → Q (.ref p) (upd H p (DicO p [] 0))) := ⟨fun pins s σ H Q I h =>
  wpAny_Dict_empty ⟨.ref s.heap.objs.size, _, I.laid (a := s.heap.objs.size) (o := DicO s.heap.objs.size [] 0) (t' := s.toks) (fun _ _ q => Heap.get?_push_of_some _ q) (Nat.le_refl _)
    (DicP.ok ⟨Nat.zero_le _, beq_eq_false_iff_ne.mpr (Ne.symm (Nat.ne_of_lt I.big)), List.nodup_nil, (fun e he => by cases he), _, #[], [], Heap.get?_push_size _ rfl, ⟨rfl, rfl, rfl⟩, rfl, rfl, .nil⟩), rfl, h _ (I.hok.fresh (Nat.le_refl _))⟩⟩
def dict0 : Ev Res := fun env => some (.k [], env)
theorem e_dict0 : PE X (.Dict [] [] pos) (tR X.K dict0) := peImp pe_dnewA fun σ H Q ⟨E, B, env, x, env', r, ef, k⟩ => by
  cases ef
  intro a ha
  have g : Grow B H B (upd H a (DicO a [] 0)) := Grow.heap r.bh ha
  have nw : NewV B H (upd H a (DicO a [] 0)) B (.k []) (.ref a) := ⟨a, _, rfl, ha, upd_same, ⟨[], 0, rfl, rfl, (fun e he => by cases he), .nil, .nil⟩, r.bh.off ha⟩
  exact k _ _ _ (r.grow g) Sub.rfl' (nw.res r)
/-! ### d[k] = v -/
def rSetA : TSet := fun o i v H Q => ∃ (a : Addr) (es : EV) (ep : Nat) (k : NK), o = .ref a ∧ DK H a es ep k i ∧ es.length < sizeLine ∧ ∀ ep', Q (upd H a (DicO a (putE es k i v) ep'))
theorem set_dic (hw : X.w = W.w) (hu : X.A.units + 9 < cLine) : PSet X rSetA := by
  intro pins s σ H o i v ov iv u Q I ro ri rv h
  obtain ⟨a, es, ep, k, rfl, g, hl, q⟩ := h
  obtain rfl : ov = Value.ref a := ro
  exact dk_set hw hu I g hl ri rv fun ep' s' I' => ⟨_, I', q ep'⟩
def rGetA : V → V → Hp → VK → Prop := rIxD
theorem get_dic (hw : X.w = W.w) (hu : X.A.units + 9 < cLine) : PGet X rGetA := by
  intro pins s σ H o i ov iv Q I ro ri h
  obtain ⟨a, es, ep, k, v, rfl, g, hv, q⟩ := h
  obtain rfl : ov = Value.ref a := ro
  exact dk_item hw hu I g hv ri fun w' s' I' rw' => ⟨v, H, I', rw', q⟩
def putN (kvs : List (NK × D)) (k : NK) (d : D) : List (NK × D) := if (kvs.any fun p => decide (p.1 = k)) = true then kvs.map (fun p => if p.1 = k then (p.1, d) else p) else kvs ++ [(k, d)]
def atN (kvs : List (NK × D)) (k : NK) : Option D := (kvs.find? fun p => decide (p.1 = k)).map (·.2)
theorem atE_keys {es : EV} : ∀ {kvs : List (NK × D)} {k : NK}, es.map (·.1) = kvs.map (·.1) → (atE es k).isSome = kvs.any fun p => decide (p.1 = k) := by
  induction es with
  | nil => intro kvs k h; cases kvs with | nil => rfl | cons _ _ => cases h
  | cons e es ih =>
    intro kvs k h
    cases kvs with
    | nil => cases h
    | cons p kvs =>
      simp only [List.map_cons, List.cons.injEq] at h
      have := ih (k := k) h.2
      unfold atE at this ⊢
      rw [List.find?_cons, List.any_cons, ← h.1]
      by_cases z : e.1 = k
      · rw [decide_eq_true z]; rfl
      · rw [decide_eq_false z, this]; rfl
theorem atE_reps {H : Hp} {k : NK} {d : D} : ∀ {es : EV} {kvs : List (NK × D)}, es.map (·.1) = kvs.map (·.1) → Reps H (es.map (·.2.2)) (kvs.map (·.2)) → atN kvs k = some d → ∃ v, atE es k = some v ∧ Rep H v d
  | [], [], _, _, e => by cases e
  | [], _ :: _, h, _, _ => by cases h
  | _ :: _, [], h, _, _ => by cases h
  | e :: es, p :: kvs, h, .cons a b, q => by
    simp only [List.map_cons, List.cons.injEq] at h
    unfold atN at q
    unfold atE
    rw [List.find?_cons] at q ⊢
    rw [← h.1] at q
    by_cases z : e.1 = k
    · rw [decide_eq_true z] at q ⊢
      cases q
      exact ⟨_, rfl, a⟩
    · rw [decide_eq_false z] at q ⊢
      exact atE_reps (kvs := kvs) h.2 b q
theorem put_facts {B : Hp} {es : EV} {kvs : List (NK × D)} {k : NK} {y v : V} {d : D} (hk : es.map (·.1) = kvs.map (·.1)) (hd : ∀ e ∈ es, e.1.depth ≤ 8) (r1 : Reps B (es.map (·.2.1)) (es.map fun e => e.1.data))
    (r2 : Reps B (es.map (·.2.2)) (kvs.map (·.2))) (hkd : k.depth ≤ 8) (ry : Rep B y k.data) (rv : Rep B v d) : (putE es k y v).map (·.1) = (putN kvs k d).map (·.1) ∧ (∀ e ∈ putE es k y v, e.1.depth ≤ 8) ∧ Reps B ((putE es k y v).map (·.2.1)) ((putE es k y v).map fun e => e.1.data) ∧ Reps B ((putE es k y v).map (·.2.2)) ((putN kvs k d).map (·.2)) := by
  refine ⟨?_, putE_dep hd hkd, ?_, ?_⟩
  all_goals (try unfold putE)
  all_goals (try unfold putN)
  all_goals rw [atE_keys hk]
  all_goals split
  · clear r1 r2 hd
    rename_i h; clear h
    rw [List.map_map, List.map_map]
    have e1 : (es.map ((fun x => x.1) ∘ fun e => if e.1 = k then (e.1, e.2.1, v) else e)) = es.map (·.1) := List.map_congr_left fun e _ => by show (if e.1 = k then (e.1, e.2.1, v) else e).1 = e.1; split <;> rfl
    have e2 : (kvs.map ((fun x => x.1) ∘ fun p => if p.1 = k then (p.1, d) else p)) = kvs.map (·.1) := List.map_congr_left fun e _ => by show (if e.1 = k then (e.1, d) else e).1 = e.1; split <;> rfl
    rw [e1, e2, hk]
  · rw [List.map_append, List.map_append, hk]; rfl
  · rw [List.map_map, List.map_map]
    have e1 : (es.map ((fun x => x.2.1) ∘ fun e => if e.1 = k then (e.1, e.2.1, v) else e)) = es.map (·.2.1) := List.map_congr_left fun e _ => by show (if e.1 = k then (e.1, e.2.1, v) else e).2.1 = e.2.1; split <;> rfl
    have e2 : (es.map ((fun x => x.1.data) ∘ fun e => if e.1 = k then (e.1, e.2.1, v) else e)) = es.map fun e => e.1.data := List.map_congr_left fun e _ => by show (if e.1 = k then (e.1, e.2.1, v) else e).1.data = e.1.data; split <;> rfl
    rw [e1, e2]; exact r1
  · rw [List.map_append, List.map_append]; exact r1.app (.one ry)
  · rename_i h; clear h r1 hd
    induction es generalizing kvs with
    | nil => cases kvs with | nil => exact .nil | cons _ _ => cases hk
    | cons e es ih =>
      cases kvs with
      | nil => cases hk
      | cons p kvs =>
        simp only [List.map_cons, List.cons.injEq] at hk
        cases r2 with
        | cons a b =>
          rw [List.map_cons, List.map_cons, List.map_cons, List.map_cons]
          refine .cons ?_ (ih hk.2 b)
          rw [← hk.1]
          split
          · exact rv
          · exact a
  · rw [List.map_append, List.map_append]; exact r2.app (.one rv)
/-- what is owned behind a store -/
theorem put_own {B : Hp} {a : Addr} {es : EV} {ep : Nat} {kvs : List (NK × D)} {k : NK} {y v : V} {d : D} {io : Bool} (hk : es.map (·.1) = kvs.map (·.1)) (hd : ∀ e ∈ es, e.1.depth ≤ 8) (r1 : Reps B (es.map (·.2.1)) (es.map fun e => e.1.data))
    (r2 : Reps B (es.map (·.2.2)) (kvs.map (·.2))) (hkd : k.depth ≤ 8) (ry : Rep B y k.data) (rv : Rep B v d) : OwnO B a (.od io (putN kvs k d)) (DicO a (putE es k y v) ep) := let f := put_facts hk hd r1 r2 hkd ry rv; ⟨_, _, rfl, f.1, f.2.1, f.2.2.1, f.2.2.2⟩
def setAS (i : Nat) (fi fe : Ev D) : Es := fun env => (fe env).bind fun p => guardO (ownAt p.2 i) ((fi p.2).bind fun q => match q.2[i]?, q.1 with
  | some (some (.ol io ds)), .int n => (ixN ds.length n).bind fun j => some (.nx, q.2.set i (some (.ol io (ds.set j p.1))))
  | some (some (.od io kvs)), d => (keyN d).bind fun k => guardO (decide (kvs.length < 1000000)) (some (.nx, q.2.set i (some (.od io (putN kvs k p.1)))))
  | _, _ => none)

def rSetAny : TSet := fun o i v H Q => rSetL o i v H Q ∨ rSetA o i v H Q
theorem set_any (hw : X.w = W.w) (hu : X.A.units + 9 < cLine) : PSet X rSetAny := by
  intro pins s σ H o i v ov iv u Q I ro ri rv h
  rcases h with h | h
  · exact set_list pins s σ H o i v ov iv u Q I ro ri rv h
  · exact set_dic hw hu pins s σ H o i v ov iv u Q I ro ri rv h
def rGetAny (K : PySem.W.Frag) : V → V → Hp → VK → Prop := fun o i H Q => rIxL K o i H Q ∨ rGetA o i H Q
theorem get_any (hw : X.w = W.w) (hu : X.A.units + 9 < cLine) : PGet X (rGetAny X.K) := by
  intro pins s σ H o i ov iv Q I ro ri h
  rcases h with h | h
  · exact get_listP pins s σ H o i ov iv Q I ro ri h
  · exact get_dic hw hu pins s σ H o i ov iv Q I ro ri h
variable {K : PySem.W.Frag} {st : Stmt}
theorem s_setA {i : Nat} {fi fe : Ev D} (h : PS X st (tAsg (tE X.K fe) (gSub (tVar i) (tE X.K fi) rSetAny))) : PS X st (tS X.K (setAS i fi fe)) := psImp h fun D σ H ⟨E, B, env, fl, env', r, ef, k⟩ => by
  obtain ⟨p, e1, ef⟩ := bindS ef
  obtain ⟨how, ef⟩ := guardS ef
  obtain ⟨q, e2, ef⟩ := bindS ef
  split at ef
  · rename_i io ds n h1 h2
    obtain ⟨j, e3, ef⟩ := bindS ef
    cases ef
    refine ⟨E, B, env, p.1, p.2, r, e1, fun v B1 H1 r1 s1 z1 => ?_⟩
    obtain ⟨a, o, ha, _⟩ := r1.ownAt how
    refine ⟨.ref a, ha, E, B1, p.2, q.1, q.2, r1, e2, fun u B2 H2 r2 s2 z2 => ?_⟩
    rw [h2] at z2
    cases z2
    obtain ⟨a', o', k1, k2, ⟨vs, rfl, rep⟩, k4⟩ := r2.owns h1 rfl
    rw [ha] at k1
    cases k1
    refine .inl ⟨a, vs, n, j, rfl, rfl, k2, by rw [rep.len]; exact e3, ?_⟩
    exact k σ B2 _ (r2.write h1 rfl ha (ov' := .ol io (ds.set j p.1)) ⟨_, rfl, rep.set j (z1.mono s2)⟩ rfl) (s1.tr s2)
  · rename_i d io kvs h1
    obtain ⟨ky, e3, ef⟩ := bindS ef
    obtain ⟨hl, ef⟩ := guardS ef
    cases ef
    refine ⟨E, B, env, p.1, p.2, r, e1, fun v B1 H1 r1 s1 z1 => ?_⟩
    obtain ⟨a, o, ha, _⟩ := r1.ownAt how
    refine ⟨.ref a, ha, E, B1, p.2, q.1, q.2, r1, e2, fun u B2 H2 r2 s2 z2 => ?_⟩
    obtain ⟨a', o', k1, k2, ⟨es, ep, rfl, hk, hd, g1, g2⟩, k4⟩ := r2.owns h1 rfl
    rw [ha] at k1
    cases k1
    have hlen : es.length = kvs.length := by simpa using congrArg List.length hk
    obtain ⟨_, h2, h3⟩ := keyN_of e3
    refine .inr ⟨a, es, ep, ky, rfl, dk_of r2.bh k2 g1 (.inl z2) e3, by rw [hlen]; exact lcLine (of_decide_eq_true hl), fun ep' => ?_⟩
    exact k σ B2 _ (r2.write h1 rfl ha (ov' := .od io (putN kvs ky p.1)) (put_own hk hd g1 g2 h3 (by rw [h2]; exact z2) (z1.mono s2)) rfl) (s1.tr s2)
  · cases ef
/-- o[k] op= v -/
def augAS (i : Nat) (op : Int → Int → Int) (fi fe : Ev D) : Es := fun env => guardO (ownAt env i) ((fi env).bind fun q => match q.2[i]?, q.1 with
  | some (some (.ol _ ds)), .int n => (ixN ds.length n).bind fun j => match ds[j]? with
    | some (.int a) => (fe q.2).bind fun p => match p.2[i]?, p.1 with
      | some (some (.ol io ds')), .int b => guardO (decide (ds'.length = ds.length)) (some (.nx, p.2.set i (some (.ol io (ds'.set j (.int (op a b)))))))
      | _, _ => none
    | _ => none
  | some (some (.od _ kvs)), d => (keyN d).bind fun ky => match atN kvs ky with
    | some (.int a) => (fe q.2).bind fun p => match p.2[i]?, p.1 with
      | some (some (.od io kvs')), .int b => guardO (decide (kvs'.length < 1000000)) (some (.nx, p.2.set i (some (.od io (putN kvs' ky (.int (op a b)))))))
      | _, _ => none
    | _ => none
  | _, _ => none)
theorem s_augA {i : Nat} {x : Str} {op : Operator} {h2 : Int → Int → Int} {pos' tpos : Pos} {ie e : Expr} {fi fe : Ev D} (hw : X.w = W.w) (hu : X.A.units + 9 < cLine) (hp : PIp X op (ipI h2)) (ho : PE X (.Name x pos') (tVar i)) (hi : PE X ie (tE X.K fi)) (he : PE X e (tE X.K fe))
    (ha : ∀ ov iv new, augStore ie ov iv new = (do holding [new, ov, iv] (setItem ov iv new); release [new, ov, iv] []; pure .next) := by intros; rfl) :
    PS X (.AugAssign (.Subscript (.Name x pos') ie tpos) op e pos) (tS X.K (augAS i h2 fi fe)) := psImp (ps_augS ho hi (get_any hw hu) he hp (set_any hw hu) ha) fun D σ H ⟨E, B, env, fl, env', r, ef, k⟩ => by
  obtain ⟨how, ef⟩ := guardS ef
  obtain ⟨q, e1, ef⟩ := bindS ef
  split at ef
  · rename_i io0 ds n g1 g2
    obtain ⟨j, e3, ef⟩ := bindS ef
    split at ef
    · rename_i a hd
      obtain ⟨p, e4, ef⟩ := bindS ef
      split at ef
      · rename_i io ds' b g3 g4
        obtain ⟨hl, ef⟩ := guardS ef
        cases ef
        obtain ⟨c, o, hc, _⟩ := r.ownAt how
        refine ⟨.ref c, hc, E, B, env, q.1, q.2, r, e1, fun u B1 H1 r1 s1 z1 => ?_⟩
        rw [g2] at z1
        cases z1
        obtain ⟨c', o', k1, k2, ⟨vs, rfl, rep⟩, k4⟩ := r1.owns g1 rfl
        rw [hc] at k1
        cases k1
        obtain ⟨w, hw', rw'⟩ := rep.get hd
        cases rw'
        refine .inl ⟨c, vs, n, .int a, rfl, rfl, SqL.of k2, ?_, E, B1, q.2, p.1, p.2, r1, e4, fun u2 B2 H2 r2 s2 z2 => ?_⟩
        · unfold atI
          rw [rep.len, e3]
          exact hw'
        · rw [g4] at z2
          cases z2
          refine ⟨a, b, rfl, rfl, ?_⟩
          obtain ⟨c2, o2, m1, m2, ⟨vs2, rfl, rep2⟩, m4⟩ := r2.owns g3 rfl
          rw [hc] at m1
          cases m1
          refine .inl ⟨c, vs2, n, j, rfl, rfl, m2, by rw [rep2.len, of_decide_eq_true hl]; exact e3, ?_⟩
          exact k σ B2 _ (r2.write g3 rfl hc (ov' := .ol io (ds'.set j (.int (h2 a b)))) ⟨_, rfl, rep2.set j (.int _)⟩ rfl) (s1.tr s2)
      · cases ef
    · cases ef
  · rename_i d io0 kvs g1
    obtain ⟨ky, e3, ef⟩ := bindS ef
    split at ef
    · rename_i a hd
      obtain ⟨p, e4, ef⟩ := bindS ef
      split at ef
      · rename_i io kvs' b g3 g4
        obtain ⟨hl, ef⟩ := guardS ef
        cases ef
        obtain ⟨c, o, hc, _⟩ := r.ownAt how
        refine ⟨.ref c, hc, E, B, env, q.1, q.2, r, e1, fun u B1 H1 r1 s1 z1 => ?_⟩
        obtain ⟨c', o', k1, k2, ⟨es, ep, rfl, hk, hdp, q1, q2⟩, k4⟩ := r1.owns g1 rfl
        rw [hc] at k1
        cases k1
        obtain ⟨w, hw', rw'⟩ := atE_reps hk q2 hd
        cases rw'
        obtain ⟨_, y2, y3⟩ := keyN_of e3
        refine .inr ⟨c, es, ep, ky, .int a, rfl, dk_of r1.bh k2 q1 (.inl z1) e3, hw', E, B1, q.2, p.1, p.2, r1, e4, fun u2 B2 H2 r2 s2 z2 => ?_⟩
        rw [g4] at z2
        cases z2
        refine ⟨a, b, rfl, rfl, ?_⟩
        obtain ⟨c2, o2, m1, m2, ⟨es2, ep2, rfl, hk2, hdp2, q12, q22⟩, m4⟩ := r2.owns g3 rfl
        rw [hc] at m1
        cases m1
        have hlen : es2.length = kvs'.length := by simpa using congrArg List.length hk2
        refine .inr ⟨c, es2, ep2, ky, rfl, dk_of r2.bh m2 q12 (.inl (z1.mono s2)) e3, by rw [hlen]; exact lcLine (of_decide_eq_true hl), fun ep' => ?_⟩
        exact k σ B2 _ (r2.write g3 rfl hc (ov' := .od io (putN kvs' ky (.int (h2 a b)))) (put_own hk2 hdp2 q12 q22 y3 (by rw [y2]; exact z1.mono s2) (.int _)) rfl) (s1.tr s2)
      · cases ef
    · cases ef
  · cases ef
end
end NS

set_option Elab.async false
set_option linter.all false
set_option maxRecDepth 100000
set_option maxHeartbeats 4000000
/-! NtC: dict comprehensions, keys of any data. -/
namespace NS
open PySem L2 PyProof.Rows NT
variable [W : NT.Wd]
/-- a new dict's own word -/
theorem dic_new {P : Program} {w : World} {H : Hp} (h : Heap) (hb : sysModules < h.objs.size) : ObjOk P w H (h.push { cls := .type "dict", data := .dict #[] }) h.objs.size (DicO h.objs.size [] 0) :=
  DicP.ok ⟨Nat.zero_le _, beq_eq_false_iff_ne.mpr (Ne.symm (Nat.ne_of_lt hb)), List.nodup_nil, (fun e he => by cases he), _, #[], [], Heap.get?_push_size _ rfl, ⟨rfl, rfl, rfl⟩, rfl, rfl, .nil⟩
/-- the machine's own store -/
theorem dk_store {X : Cx} {pins : List (Addr × Obj)} {σ : L2.St} {H : Hp} {s : Shared} {a : Addr} {k : NK} {y v : V} {u r : Value} {E : Value → Shared → Prop} {es : EV} {ep : Nat} {Q : Unit → Shared → Prop} (hw : X.w = W.w) (hu : X.A.units + 8 < cLine) (I : Inv X pins σ H s) (g : DK H a es ep k y)
    (hl : es.length < sizeLine) (ry : RelV y u) (rv : RelV v r) (h : ∀ ep' s', Inv X pins σ (upd H a (DicO a (putE es k y v) ep')) s' → Q () s') : wpAny (model X.prog X.w) X.A (dictSet a u r) Q E s := by
  obtain ⟨h1, h2, h3, h4, o, ar, xs, e1, e2, e3, e4, rel⟩ := dicP_of I.hok g.at_
  refine set_a (w := X.w) (xs := xs) hu (g.key.is I.hok ry) g.dep e1 e2 e3 (by rw [hw]; exact e4) (keysA_of I.hok rel g.keys h4) (by rw [pairE_keys rel]; exact h3) (by rw [pairE_len rel]; exact h1) fun h' o' ar' ep' f1 f2 f3 f4 f5 f6 => h ep' _ ?_
  have rel' := put_rel rel k ry rv
  exact d_write I (by rw [g.at_]; exact True.intro) f6 ⟨o', f1⟩ (DicP.ok ⟨Nat.le_trans (putE_len es k y v) hl, h2, by rw [← pairE_keys rel']; exact f5, putE_dep h4 g.dep, o', ar', _, f1, f2, f3, by rw [← hw]; exact f4, rel'⟩)
/-- {k: v for target in iter if ..}: D the new dict -/
def tDcA (wi : TI) (g : TG) (tt : TT) (tk tv : TE) (vs : List Nat) : TE := fun σ H Q => wi σ H fun J H1 => ∀ D, H1 D = none → ∃ Z : Nat → Nat → Hp → Prop, (∃ m, Z 0 m (upd H1 D (DicO D [] 0))) ∧ ∀ i m H, Z i m H →
  (J.stop i H ∧ Q (.ref D) H) ∨ (J.go i H ∧ ∃ Nx : Hp → Prop, (∀ H', Nx H' → ∃ m', m' < m ∧ Z (i + 1) m' H') ∧ ∀ x H', J.yld i H x H' → g x (wipe σ vs) H' fun σ2 H2 => wipe σ2 vs = wipe σ vs ∧ tt σ2 H2 fun b H3 =>
    if b = true then tk σ2 H3 fun y H4 => tv σ2 H4 fun z H5 => ∃ es ep k, DK H5 D es ep k y ∧ es.length < sizeLine ∧ ∀ ep', Nx (upd H5 D (DicO D (putE es k y z) ep')) else Nx H3)
section
variable {X : Cx}
theorem dcA_run {pins : List (Addr × Obj)} {s : Shared} {σ : L2.St} {H : Hp} {Q : VK} {kx vx tg iter : Expr} {ifs : List Expr} {scope : Scope} {own : List (Str × Nat)} {pos pos' : Pos} {wi : TI} {g : TG} {tt : TT} {tk tv : TE} {use : Option (Value → Sem Unit)} {Qf : Value → Shared → Prop}
    (hw : X.w = W.w) (hu : X.A.units + 8 < cLine) (hc : X.calm = true) (hN : X.N.Nodup) (I : Inv X pins σ H s) (hi : PI X tg iter wi) (ok : BlkOk X.N X.env.scope scope own)
    (hg : ∀ (s : Shared) (H : Hp) (C : Addr) (cl : List (Str × Addr)) (fp : List Addr), PG (X.blk s H scope (compEnvC scope cl C X.env) fp) tg g)
    (ht : ∀ (s : Shared) (H : Hp) (C : Addr) (cl : List (Str × Addr)) (fp : List Addr), PTs (X.blk s H scope (compEnvC scope cl C X.env) fp) ifs tt)
    (hk : ∀ (s : Shared) (H : Hp) (C : Addr) (cl : List (Str × Addr)) (fp : List Addr), PE (X.blk s H scope (compEnvC scope cl C X.env) fp) kx tk)
    (he : ∀ (s : Shared) (H : Hp) (C : Addr) (cl : List (Str × Addr)) (fp : List Addr), PE (X.blk s H scope (compEnvC scope cl C X.env) fp) vx tv) (hs : ∀ x, foldedSetIterable iter X.env x = pure x)
    (h : tDcA wi g tt tk tv (own.map (·.2)) σ H Q)
    (hend : ∀ D C s' m H', Inv X pins σ H' s' → Q (.ref D) H' → s'.heap.Ns C m → FpOk X pins H' C → compPost (model X.prog X.w) X.A X.xe use Qf (.ref D) C (.ok .next) s') :
    wpAny (model X.prog X.w) X.A (comprehension (.DictComp kx vx [⟨tg, iter, ifs, 0⟩] scope pos) scope X.env pos' newDict false (eval iter X.env) use) Qf X.xe s := by
  have frees : ∀ y ∈ scope.names, y.2 = .free → ∃ c, X.env.cells.lookup y.1 = some c := fun y hy e => (ok.free y hy e).elim (fun q => I.ok.has _ (.inl q)) fun q => I.ok.has _ (.inr q)
  refine wpAny_comprehension_free (use := use) rfl hs (closure_ok frees) ok.kind (fun y hy e => by rw [ok.uniq y hy, e]) (thn (hi.run pins s σ H _ I h) fun xv s1 hx => thn hx fun itv s2 ⟨it, fp, tn, J, H2, e, I2, T, st2, f2, q⟩ => ?_)
  subst e
  refine wpAny_newObj_type (newEnv_comp ?_)
  have fresh := I2.hok.fresh (Nat.le_refl s2.heap.objs.size)
  obtain ⟨Z, ⟨m0, w0⟩, turn⟩ := q _ fresh
  have I3 : Inv X pins σ (upd H2 s2.heap.objs.size (DicO s2.heap.objs.size [] 0)) { s2 with heap := s2.heap.push { cls := .type "dict", data := .dict #[] } } :=
    I2.laid (t' := s2.toks) (fun b o e => Heap.get?_push_of_some _ e) (Nat.le_refl _) (dic_new s2.heap I2.big)
  have low : ∀ b ∈ fp, b < s2.heap.objs.size := fun b hb => let ⟨o, e, _⟩ := T.obj _ _ st2 b hb; Heap.lt_size e
  have f3 : ∀ b ∈ fp, FpOk X pins (upd H2 s2.heap.objs.size (DicO s2.heap.objs.size [] 0)) b ∧ b < (s2.heap.push { cls := .type "dict", data := .dict #[] }).objs.size := fun b hb =>
    ⟨⟨by rw [upd_ne (Nat.ne_of_lt (low b hb))]; exact (f2 b hb).1, (f2 b hb).2⟩, by rw [Heap.size_push]; exact Nat.lt_succ_of_lt (low b hb)⟩
  have st3 : tn 0 (s2.heap.push { cls := .type "dict", data := .dict #[] }) := T.keep _ _ _ st2 fun b _ o e => Heap.get?_push_of_some _ e
  generalize s2.heap.objs.size = D at *
  generalize ht3 : ({ s2 with heap := s2.heap.push { cls := .type "dict", data := .dict #[] } } : Shared) = s3 at I3
  have hh3 : s2.heap.push { cls := .type "dict", data := .dict #[] } = s3.heap := by rw [← ht3]
  rw [hh3] at f3 st3
  have I4 := block_start I3 ok hN f3
  generalize hH3 : upd H2 D (DicO D [] 0) = H3 at I3 I4 w0 f3
  have pg := hg s3 H3 s3.heap.objs.size (cellsFrom (s3.heap.objs.size + 1) scope.names (cloFrom X.env.cells scope.names [])) fp
  have pt := ht s3 H3 s3.heap.objs.size (cellsFrom (s3.heap.objs.size + 1) scope.names (cloFrom X.env.cells scope.names [])) fp
  have pk := hk s3 H3 s3.heap.objs.size (cellsFrom (s3.heap.objs.size + 1) scope.names (cloFrom X.env.cells scope.names [])) fp
  have pv := he s3 H3 s3.heap.objs.size (cellsFrom (s3.heap.objs.size + 1) scope.names (cloFrom X.env.cells scope.names [])) fp
  show codeAny _ _ (.compStart (.DictComp kx vx [⟨tg, iter, ifs, 0⟩] scope pos) 0 (.ref it) (.ref D) (compEnvC scope (cellsFrom (s3.heap.objs.size + 1) scope.names (cloFrom X.env.cells scope.names [])) s3.heap.objs.size X.env)) (compPost (model X.prog X.w) X.A X.xe use Qf (.ref D) s3.heap.objs.size) { s3 with heap := pushCells (s3.heap.push { cls := .type "dict", data := .dict #[] }) scope.names }
  generalize hce : compEnvC scope (cellsFrom (s3.heap.objs.size + 1) scope.names (cloFrom X.env.cells scope.names [])) s3.heap.objs.size X.env = ce at I4 pg pt pk pv ⊢
  have cL : ce.locals = s3.heap.objs.size := by rw [← hce]; rfl
  generalize hs4 : ({ s3 with heap := pushCells (s3.heap.push { cls := .type "dict", data := .dict #[] }) scope.names } : Shared) = s4 at I4 ⊢
  have st4 : tn 0 s4.heap := T.keep _ _ _ st3 fun b _ o e => by rw [← hs4]; exact pushCells_keeps _ _ _ _ (Heap.get?_push_of_some _ e)
  have fpOk : ∀ {σ' : L2.St} {H' : Hp} {s' : Shared}, Inv (X.blk s3 H3 scope ce fp) [] σ' H' s' → (∀ b ∈ fp, H' b = none) → ∀ b ∈ fp, FpOk (X.blk s3 H3 scope ce fp) [] H' b := fun {σ' H' s'} I' hn b hb =>
    ⟨hn b hb, (I'.ok.exf b hb).1, I'.ok.exfs b hb, .inl hb, fun x c e => (I'.ok.exf b hb).2 x c e, fun p hp => absurd (show p ∈ ([] : List (Addr × Obj)) ++ [] from hp) (by simp)⟩
  have loop : codeAny (model X.prog X.w) X.A (.compLoop (.DictComp kx vx [⟨tg, iter, ifs, 0⟩] scope pos) 0 (.ref it) (.ref D) ce) (compPost (model X.prog X.w) X.A X.xe use Qf (.ref D) s3.heap.objs.size) s4 := by
    refine compLoop_anyD (fun n s' => ∃ i H', Inv (X.blk s3 H3 scope ce fp) [] (wipe σ (own.map (·.2))) H' s' ∧ tn i s'.heap ∧ (∀ b ∈ fp, H' b = none) ∧ Z i n H') ?_ m0 ⟨0, H3, I4, st4, fun b hb => (f3 b hb).1.1, w0⟩
    rintro n s5 ⟨i, H5, I5, st5, n5, w5⟩
    rcases turn i n H5 w5 with ⟨stop, last⟩ | ⟨go, Nx, hNx, step⟩
    · refine thnF (T.done (X.blk s3 H3 scope ce fp) rfl rfl rfl hc i [] s5 _ H5 (fun _ _ => False) I5 (fpOk I5 n5) st5 stop) fun r s6 ⟨hr, I6⟩ => ?_
      subst hr
      have I7 : Inv X pins σ H5 s6 := I3.call' (ch := fp) I6.os I6.base I6.hok I6.bare fun b hb => let z := (f3 b hb).1.2; ⟨z.2.2.1, z.1, z.2.2.2.1, z.2.2.2.2⟩
      have nC : H5 s3.heap.objs.size = none := by rw [← cL]; exact I6.free
      obtain ⟨m, hn, _⟩ := I6.loc
      exact hend D s3.heap.objs.size s6 m H5 I7 last (by rw [← cL]; exact hn) (I3.fpOk (Nat.le_refl _) nC)
    · refine thnF (T.item (X.blk s3 H3 scope ce fp) rfl rfl rfl hc i [] s5 _ H5 (fun _ _ => False) I5 (fpOk I5 n5) st5 go) fun r s6 ⟨u, hr, h6⟩ => ?_
      subst hr
      refine thnF h6 fun _ s7 ⟨x, H7, I7, r7, y7, st7, n7⟩ => ?_
      refine thnF (pg.run _ s7 _ H7 x u _ (I7.pinned (fpOk I7 n7) (T.obj _ _ st7)) r7 (step x H7 y7)) fun _ s8 ⟨σ8, H8, I8, hw8, q8⟩ => ?_
      refine thnF (pt.run _ s8 σ8 H8 _ I8 q8) fun b s9 ⟨H9, I9, q9⟩ => ?_
      have turned : ∀ {s' : Shared} {H' : Hp}, Inv (X.blk s3 H3 scope ce fp) ([] ++ pinsAt fp s7.heap) σ8 H' s' → Nx H' → ∃ m, m < n ∧ ∃ i H', Inv (X.blk s3 H3 scope ce fp) [] (wipe σ (own.map (·.2))) H' s' ∧ tn i s'.heap ∧ (∀ b ∈ fp, H' b = none) ∧ Z i m H' := fun {s' H'} I' nx => by
        obtain ⟨m', hm, w'⟩ := hNx H' nx
        have pinned : ∀ b ∈ fp, ∀ o, s7.heap.get? b = some o → s'.heap.get? b = some o ∧ H' b = none := fun b hb o e =>
          have z := I'.pin (b, o) (List.mem_append_right _ (List.mem_append_right _ (mem_pinsAt hb e)))
          ⟨z.1, z.2.1⟩
        refine ⟨m', hm, i + 1, H', (I'.unpinned (pins := [])).weak (by rw [← hw8, wipe_length]) (fun j v e => ?_), T.keep _ _ _ st7 fun b hb o e => (pinned b hb o e).1, fun b hb => ?_, w'⟩
        · rw [← hw8] at e
          exact (wipe_some e).1
        · obtain ⟨o, e, _⟩ := T.obj _ _ st7 b hb
          exact (pinned b hb o e).2
      cases b with
      | false => exact turned I9 q9
      | true =>
        refine thnF (pk.run _ s9 σ8 H9 _ I9 q9) fun z s10 ⟨yk, H10, I10, r10, q10⟩ => thnF (pv.run _ s10 σ8 H10 _ I10 q10) fun z2 s11 ⟨yv, H11, I11, r11, es, ep, k, g11, hz, nx⟩ => ?_
        exact dk_store (X := X.blk s3 H3 scope ce fp) hw hu I11 g11 hz r10 r11 fun ep' s12 I12 => turned I12 (nx ep')
  exact codeAny_compStart_dict loop (T.self X.A 0 _ _ _ st4 loop)
theorem pe_dcA {kx vx tg iter : Expr} {ifs : List Expr} {scope : Scope} {own : List (Str × Nat)} {pos : Pos} {wi : TI} {g : TG} {tt : TT} {tk tv : TE} (hw : X.w = W.w) (hu : X.A.units + 8 < cLine) (hc : X.calm = true) (hN : X.N.Nodup) (hi : PI X tg iter wi) (ok : BlkOk X.N X.env.scope scope own)
    (hg : ∀ (s : Shared) (H : Hp) (C : Addr) (cl : List (Str × Addr)) (fp : List Addr), PG (X.blk s H scope (compEnvC scope cl C X.env) fp) tg g)
    (ht : ∀ (s : Shared) (H : Hp) (C : Addr) (cl : List (Str × Addr)) (fp : List Addr), PTs (X.blk s H scope (compEnvC scope cl C X.env) fp) ifs tt)
    (hk : ∀ (s : Shared) (H : Hp) (C : Addr) (cl : List (Str × Addr)) (fp : List Addr), PE (X.blk s H scope (compEnvC scope cl C X.env) fp) kx tk)
    (he : ∀ (s : Shared) (H : Hp) (C : Addr) (cl : List (Str × Addr)) (fp : List Addr), PE (X.blk s H scope (compEnvC scope cl C X.env) fp) vx tv) (hs : ∀ x, foldedSetIterable iter X.env x = pure x := by intro _; rfl) :
    PE X (.DictComp kx vx [⟨tg, iter, ifs, 0⟩] scope pos) (tDcA wi g tt tk tv (own.map (·.2))) := ⟨fun pins s σ H Q I h => by
  rw [arm_eval_DictComp]
  refine dcA_run hw hu hc hN I hi ok hg ht hk he hs h fun D C s' m H' I' q hn f => ⟨m, hn, fun h'' sb => ?_⟩
  obtain ⟨f0, f1, f2, f3, f4, f5⟩ := f
  exact ⟨.ref D, H', I'.turned (t' := s'.toks) (fun b o hb e => (sb.2 b hb).trans e) f0 f1 f3 f4 f5, rfl, q⟩⟩
end
end NS

set_option Elab.async false
set_option linter.all false
set_option maxRecDepth 100000
set_option maxHeartbeats 4000000
/-! NtE: dict comprehensions by evaluators. -/
namespace NS
open PySem L2 PyProof.Rows NT
variable [W : NT.Wd]
def dcGo (tg : Tg) (cond : Ev Bool) (ek ev : Ev D) (own : List Nat) : List D → Env → List (NK × D) → Option (List (NK × D) × Env)
  | [], env, acc => some (acc, env)
  | d :: ds, env, acc => (tgE tg d env).bind fun e1 => (cond e1).bind fun p => if p.1 = true then (ek p.2).bind fun a => (keyN a.1).bind fun k => (ev a.2).bind fun q => guardO (decide (acc.length < 1000000)) (dcGo tg cond ek ev own ds (wipeE q.2 own) (putN acc k q.1)) else dcGo tg cond ek ev own ds (wipeE p.2 own) acc
def dcR (it : Ev (List D)) (tg : Tg) (cond : Ev Bool) (ek ev : Ev D) (own : List Nat) : Ev Res := fun env => (it env).bind fun p => guardO (plainAt p.2 own && tg.slots.all fun j => own.contains j) ((dcGo tg cond ek ev own p.1 (wipeE p.2 own) []).bind fun q => some (.k q.1, backE p.2 q.2 own))
theorem tDcI {K : PySem.W.Frag} {it : Ev (List D)} {tg : Tg} {cond : Ev Bool} {ek ev : Ev D} {own : List Nat} (σ : L2.St) (H : Hp) (Q : VK) (h : tR K (dcR it tg cond ek ev own) σ H Q) : tDcA (tIt K it) (tgT K tg) (tT K cond) (tE K ek) (tE K ev) own σ H Q := by
  obtain ⟨E, B, env, res, env', r, ef, k⟩ := h
  obtain ⟨p, e1, ef⟩ := bindS ef
  obtain ⟨hp, ef⟩ := guardS ef
  obtain ⟨q, e2, ef⟩ := bindS ef
  cases ef
  simp only [Bool.and_eq_true] at hp
  obtain ⟨hp, hsl⟩ := hp
  have hsl' : ∀ j ∈ tg.slots, j ∈ own := fun j hj => by simpa using List.all_eq_true.mp hsl j hj
  refine ⟨E, B, env, p.1, p.2, r, e1, fun J B1 H1 r1 s1 hJ L hL => ?_⟩
  have r2 : RR K E B1 H1 (wipe σ own) (wipeE p.2 own) := r1.less (by rw [wipe_length, wipeE_len]; exact r1.len) fun i ov e => by
    have hi : i ∉ own := fun hi => wipeE_in p.2 own i hi ov e
    rw [wipeE_not p.2 own i hi] at e
    exact ⟨e, wipe_not σ own i hi⟩
  have nL : B1 L = none := r1.bh.off hL
  refine ⟨fun i m H2 => m = p.1.length - i ∧ i ≤ p.1.length ∧ ∃ B2 env2 acc o, RR K E B2 H2 (wipe σ own) env2 ∧ Sub B1 B2 ∧ dcGo tg cond ek ev own (p.1.drop i) env2 acc = some (q.1, q.2) ∧ H2 L = some o ∧ OwnO B2 L (.od false acc) o ∧ B2 L = none ∧ (∀ j, ¬ Own (wipe σ own) env2 j L),
    ⟨p.1.length, by simp, Nat.zero_le _, B1, wipeE p.2 own, [], _, r2.grow (Grow.heap r2.bh hL), Sub.rfl', e2, upd_same, ⟨[], 0, rfl, rfl, (fun e he => by cases he), .nil, .nil⟩, nL, fun j ⟨ov, w1, w2, w3⟩ => ?_⟩, ?_⟩
  · obtain ⟨a, o, k1, k2, _⟩ := r2.owns w1 w2
    rw [w3] at k1; cases k1
    rw [hL] at k2; cases k2
  rintro i m H2 ⟨rfl, hi, B2, env2, acc, o, r3, s3, eg, hH, hO, nB, nO⟩
  have hE : E.H0 L = none := r1.off hL
  have ext := hJ i B2 H2 s3 r3.bh
  by_cases hlt : i < p.1.length
  · obtain ⟨d, hd⟩ : ∃ d, p.1[i]? = some d := ⟨_, List.getElem?_eq_getElem hlt⟩
    have hdr : p.1.drop i = d :: p.1.drop (i + 1) := by
      rw [List.drop_eq_getElem_cons hlt]
      rw [List.getElem?_eq_getElem hlt] at hd
      cases hd
      rfl
    rw [hdr] at eg
    obtain ⟨go, yl⟩ := ext.1 d hd
    refine .inr ⟨go, fun H' => i + 1 ≤ p.1.length ∧ ∃ B2 env2 acc o, RR K E B2 H' (wipe σ own) env2 ∧ Sub B1 B2 ∧ dcGo tg cond ek ev own (p.1.drop (i + 1)) env2 acc = some (q.1, q.2) ∧ H' L = some o ∧ OwnO B2 L (.od false acc) o ∧ B2 L = none ∧ (∀ j, ¬ Own (wipe σ own) env2 j L),
      fun H' w => ⟨p.1.length - (i + 1), by omega, rfl, w⟩, fun x H' hy => ?_⟩
    obtain ⟨B4, g4, rx⟩ := yl x H' hy
    obtain ⟨ea, t1, eg⟩ := bindS (show (tgE tg d env2).bind _ = _ from eg)
    obtain ⟨pc, t2, eg⟩ := bindS eg
    obtain ⟨es, ep, eo, hk, hdp, ra, rb⟩ := hO
    have far : ∀ {B' H' : Hp} {σ' : L2.St} {env' : Env}, RR K (loc B2 H2 (wipe σ own) env2) B' H' σ' env' → H' L = some o ∧ B' L = none ∧ ∀ j, ¬ Own σ' env' j L := fun {B' H' σ' env'} z => by
      refine ⟨z.keep L _ hH (fun ⟨j, w⟩ => nO j w) (by rw [eo]; exact dic_apart.1), ?_, fun j w => ?_⟩
      · cases e : B' L with
        | none => rfl
        | some u =>
          rcases z.new L u e with y | y | ⟨j, ov, y1, y2, _, y4⟩
          · rw [show (loc B2 H2 (wipe σ own) env2).B0 L = B2 L from rfl, nB] at y; cases y
          · rw [show (loc B2 H2 (wipe σ own) env2).H0 L = H2 L from rfl, hH] at y; cases y
          · exact absurd ⟨ov, y1, y2, y4⟩ (nO j)
      · rcases z.own j L w with ⟨j', y⟩ | y
        · exact nO j' y
        · rw [show (loc B2 H2 (wipe σ own) env2).H0 L = H2 L from rfl, hH] at y; cases y
    refine tgI K tg d x (wipe σ own) env2 ea _ (r3.loc.grow g4) rx t1 fun σ5 r5 kp => ?_
    have hw : wipe σ5 own = wipe σ own := by
      rw [wipe_same kp hsl']
      exact wipe_twice σ own
    have back : ∀ {B' H' : Hp} {env' : Env}, RR K E B' H' σ5 env' → RR K E B' H' (wipe σ own) (wipeE env' own) := fun {B' H' env'} z => z.less (by rw [← hw, wipe_length, wipeE_len]; exact z.len) fun j ov e => by
      have hj : j ∉ own := fun hj => wipeE_in env' own j hj ov e
      rw [wipeE_not env' own j hj] at e
      refine ⟨e, ?_⟩
      rw [← hw]
      exact wipe_not σ5 own j hj
    have backO : ∀ {env' : Env}, (∀ j, ¬ Own σ5 env' j L) → ∀ j, ¬ Own (wipe σ own) (wipeE env' own) j L := fun {env'} z j ⟨ov, y1, y2, y3⟩ => by
      have hj : j ∉ own := fun hj => wipeE_in env' own j hj ov y1
      rw [wipeE_not env' own j hj] at y1
      rw [← hw, wipe_not σ5 own j hj] at y3
      exact z j ⟨ov, y1, y2, y3⟩
    refine ⟨hw, _, B4, ea, pc.1, pc.2, r5, t2, fun B5 H5 r6 s6 => ?_⟩
    split at eg
    · rename_i hc
      rw [if_pos hc]
      obtain ⟨qk, t3, eg⟩ := bindS eg
      obtain ⟨ky, t4, eg⟩ := bindS eg
      obtain ⟨qe, t5, eg⟩ := bindS eg
      obtain ⟨hsz, eg⟩ := guardS eg
      refine ⟨_, B5, pc.2, qk.1, qk.2, r6, t3, fun y B6 H6 r7 s7 ry => ⟨_, B6, qk.2, qe.1, qe.2, r7, t5, fun z B7 H7 r8 s8 rz => ?_⟩⟩
      obtain ⟨f1, f2, f3⟩ := far r8
      have all : Sub B2 B7 := g4.bb.tr (s6.tr (s7.tr s8))
      obtain ⟨_, y2, y3⟩ := keyN_of t4
      have hlen : es.length = acc.length := by simpa using congrArg List.length hk
      rw [eo] at f1
      refine ⟨es, ep, ky, dk_of r8.bh f1 (ra.mono all) (.inl (ry.mono s8)) t4, by rw [hlen]; exact lcLine (of_decide_eq_true hsz), fun ep' => ⟨hlt, B7, wipeE qe.2 own, putN acc ky qe.1, _, back ((r3.comp r8).aside f2 hE f3 ⟨_, f1, dic_apart⟩), s3.tr all, eg, upd_same, ?_, f2, backO f3⟩⟩
      exact put_own hk hdp (ra.mono all) (rb.mono all) y3 (by rw [y2]; exact ry.mono s8) rz
    · rename_i hc
      rw [if_neg hc]
      obtain ⟨f1, f2, f3⟩ := far r6
      have all : Sub B2 B5 := g4.bb.tr s6
      exact ⟨hlt, B5, wipeE pc.2 own, acc, o, back (r3.comp r6), s3.tr all, eg, f1, ⟨es, ep, eo, hk, hdp, ra.mono all, rb.mono all⟩, f2, backO f3⟩
  · have hie : i = p.1.length := by omega
    subst hie
    rw [List.drop_length] at eg
    have eg' : some (acc, env2) = some (q.1, q.2) := eg
    cases eg'
    refine .inl ⟨ext.2 (Nat.le_refl _), ?_⟩
    have hlb : p.2.length = q.2.length := by
      have h1 := r1.len
      have h2 := r3.len
      rw [wipe_length] at h2
      omega
    have look : ∀ (j : Nat) (ov : OV), (backE p.2 q.2 own)[j]? = some (some ov) → (j ∈ own ∧ p.2[j]? = some (some ov) ∧ ov.plain = true) ∨ (j ∉ own ∧ q.2[j]? = some (some ov)) := fun j ov e => by
      rw [backE_get p.2 q.2 hlb] at e
      by_cases hj : j ∈ own
      · rw [if_pos hj] at e
        refine .inl ⟨hj, e, ?_⟩
        have z := List.all_eq_true.mp hp j hj
        rw [e] at z
        simpa using z
      · rw [if_neg hj] at e
        exact .inr ⟨hj, e⟩
    have lookO : ∀ j a, Own σ (backE p.2 q.2 own) j a → j ∉ own ∧ Own (wipe σ own) q.2 j a := fun j a ⟨ov, e, w, z⟩ => by
      rcases look j ov e with ⟨_, _, n⟩ | ⟨hj, e'⟩
      · cases ov <;> first | (cases w; done) | (cases n; done)
      · exact ⟨hj, ov, e', w, by rw [wipe_not σ own j hj]; exact z⟩
    have rr : RR K E B2 H2 σ (backE p.2 q.2 own) := by
      refine ⟨r3.bh, r3.b0, r3.zi, r3.keep, r3.tb, r3.there, r3.new, by rw [backE_len, ← hlb]; exact r1.len, fun j ov e => ?_, fun j a w => r3.own j a (lookO j a w).2, fun j a ov e w wi z => ?_, fun j j' a w w' => r3.inj j j' a (lookO j a w).2 (lookO j' a w').2, fun j ov e w => ?_⟩
      · rcases look j ov e with ⟨hj, e', n⟩ | ⟨hj, e'⟩
        · obtain ⟨v, z, ok⟩ := r1.slot j ov e'
          refine ⟨v, z, ?_⟩
          cases ov with
          | fn F => cases n
          | fz d => exact Rep.mono s3 ok
          | scr ns => obtain ⟨c, c1, c2⟩ := ok; exact ⟨c, c1, sqlSub s3 c2⟩
          | ol _ _ => cases n
          | od _ _ => cases n
        · obtain ⟨v, z, ok⟩ := r3.slot j ov e'
          rw [wipe_not σ own j hj] at z
          exact ⟨v, z, ok⟩
      · rcases look j ov e with ⟨hj, e', n⟩ | ⟨hj, e'⟩
        · cases ov <;> first | (cases w; done) | (cases n; done)
        · exact r3.ownz j a ov e' w wi (by rw [wipe_not σ own j hj]; exact z)
      · rcases look j ov e with ⟨hj, e', n⟩ | ⟨hj, e'⟩
        · cases ov <;> first | (cases w; done) | (cases n; done)
        · have z := r3.ios j ov e' w
          rw [wipe_not σ own j hj] at z
          exact z
    exact k (.ref L) B2 H2 rr (s1.tr s3) ⟨L, o, rfl, hH, hO, nB, fun j w => nO j (lookO j L w).2, .inl hE⟩
theorem e_dc {X : Cx} {kx vx tg iter : Expr} {ifs : List Expr} {scope : Scope} {own : List (Str × Nat)} {pos : Pos} {it : Ev (List D)} {tgt : Tg} {fc : Ev Bool} {fk fe : Ev D} (hw : X.w = W.w) (hu : X.A.units + 8 < cLine) (hc : X.calm = true) (hN : X.N.Nodup) (hi : PI X tg iter (tIt X.K it)) (ok : BlkOk X.N X.env.scope scope own)
    (hg : ∀ (s : Shared) (H : Hp) (C : Addr) (cl : List (Str × Addr)) (fp : List Addr), PG (X.blk s H scope (compEnvC scope cl C X.env) fp) tg (tgT X.K tgt))
    (ht : ∀ (s : Shared) (H : Hp) (C : Addr) (cl : List (Str × Addr)) (fp : List Addr), PTs (X.blk s H scope (compEnvC scope cl C X.env) fp) ifs (tT X.K fc))
    (hk : ∀ (s : Shared) (H : Hp) (C : Addr) (cl : List (Str × Addr)) (fp : List Addr), PE (X.blk s H scope (compEnvC scope cl C X.env) fp) kx (tE X.K fk))
    (he : ∀ (s : Shared) (H : Hp) (C : Addr) (cl : List (Str × Addr)) (fp : List Addr), PE (X.blk s H scope (compEnvC scope cl C X.env) fp) vx (tE X.K fe)) (hs : ∀ x, foldedSetIterable iter X.env x = pure x := by intro _; rfl) :
    PE X (.DictComp kx vx [⟨tg, iter, ifs, 0⟩] scope pos) (tR X.K (dcR it tgt fc fk fe (own.map (·.2)))) := peImp (pe_dcA hw hu hc hN hi ok hg ht hk he hs) tDcI
end NS

set_option Elab.async false
set_option linter.all false
set_option maxRecDepth 100000
set_option maxHeartbeats 4000000
/-! NtF: dict displays, d.get. -/
namespace NS
open PySem L2 PyProof.Rows NT
variable [W : NT.Wd]
/-- what storing the pairs one by one asks -/
def tStoA (p : Addr) : List (V × V) → EV → Nat → Hp → VK → Prop
  | [], _, _, H, Q => Q (.ref p) H
  | (y, v) :: r, es, ep, H, Q => ∃ k, DK H p es ep k y ∧ es.length < sizeLine ∧ ∀ ep', tStoA p r (putE es k y v) ep' (upd H p (DicO p (putE es k y v) ep')) Q
def tDispA (trs : List (TE × TE)) : TE := fun σ H Q => ∀ p, H p = none → tPairs trs σ (upd H p (DicO p [] 0)) fun ps H2 => tStoA p ps [] 0 H2 Q
section
variable {X : Cx} {pos : Pos}
theorem sto_run {pins : List (Addr × Obj)} {σ : L2.St} {p : Addr} {Q : VK} (hw : X.w = W.w) (hu : X.A.units + 8 < cLine) : ∀ {ps : List (V × V)} {vs : List (Value × Value)} {es : EV} {ep : Nat} {H : Hp} {s : Shared}, VV ps vs → Inv X pins σ H s → tStoA p ps es ep H Q →
    wpAny (model X.prog X.w) X.A (storeAll p vs) (fun _ s' => ∃ H', Inv X pins σ H' s' ∧ Q (.ref p) H') X.xe s
  | [], _, es, ep, H, s, .nil, I, h => by
    unfold storeAll
    rw [List.forIn_nil]
    exact wpAny_pure ⟨H, I, h⟩
  | (y, v) :: r, _, es, ep, H, s, .cons a b, I, h => by
    obtain ⟨k, g, hl, h⟩ := h
    unfold storeAll
    rw [List.forIn_cons]
    exact wpAny_bind (wpAny_bind (dk_store hw hu I g hl a.1 a.2 fun ep' s' I' => wpAny_pure (sto_run hw hu b I' (h ep'))))
theorem pe_dispA {keys : List (Option Expr)} {values : List Expr} {trs : List (TE × TE)} (hw : X.w = W.w) (hu : X.A.units + 8 < cLine) (h : PPs X pos keys values trs) (hall : keys.all (·.isSome) = true) (hl : keys.length = values.length) (h0 : keys ≠ [])
    (h15 : keys.length ≤ 15) : PE X (.Dict keys values pos) (tDispA trs) := by
  refine ⟨fun pins s σ H Q I q => ?_⟩
  have hn := I.hok.fresh (Nat.le_refl s.heap.objs.size)
  have I1 := I.laid (a := s.heap.objs.size) (o := DicO s.heap.objs.size [] 0) (h' := s.heap.push { cls := .type "dict", data := .dict #[] }) (t' := s.toks) (fun _ _ q => Heap.get?_push_of_some _ q) (Nat.le_refl _)
    (DicP.ok ⟨Nat.zero_le _, beq_eq_false_iff_ne.mpr (Ne.symm (Nat.ne_of_lt I.big)), List.nodup_nil, (fun e he => by cases he), _, #[], [], Heap.get?_push_size _ rfl, ⟨rfl, rfl, rfl⟩, rfl, rfl, .nil⟩)
  refine wpAny_Dict_any hall hl h0 h15 (thn (h.run pins _ σ _ _ I1 (q _ hn)) fun ws s2 ⟨ps, H2, I2, rel, q2⟩ => ?_)
  exact thn (sto_run hw hu rel I2 q2) fun _ s3 ⟨H3, I3, q3⟩ => ⟨.ref s.heap.objs.size, H3, I3, rfl, q3⟩
end
/-! ### by evaluators -/
def prsE : List (Ev D × Ev D) → Ev (List (D × D))
  | [] => fun env => some ([], env)
  | f :: r => fun env => (f.1 env).bind fun p => (f.2 p.2).bind fun q => (prsE r q.2).bind fun t => some ((p.1, q.1) :: t.1, t.2)
def putsN : List (D × D) → List (NK × D) → Option (List (NK × D))
  | [], acc => some acc
  | p :: r, acc => (keyN p.1).bind fun k => guardO (decide (acc.length < 1000000)) (putsN r (putN acc k p.2))
def dispR (fs : List (Ev D × Ev D)) : Ev Res := fun env => (prsE fs env).bind fun p => (putsN p.1 []).bind fun kvs => some (.k kvs, p.2)
theorem tPrsI {K : PySem.W.Frag} : ∀ (fs : List (Ev D × Ev D)) (σ : L2.St) (H : Hp) (Q : List (V × V) → Hp → Prop) (E : Ent) (B : Hp) (env : Env) (ds : List (D × D)) (env' : Env), RR K E B H σ env → prsE fs env = some (ds, env') →
    (∀ ps B' H', RR K E B' H' σ env' → Sub B B' → Reps B' (ps.map (·.1)) (ds.map (·.1)) → Reps B' (ps.map (·.2)) (ds.map (·.2)) → Q ps H') → tPairs (fs.map fun f => (tE K f.1, tE K f.2)) σ H Q
  | [], σ, H, Q, E, B, env, ds, env', r, e, k => by
    cases e
    exact k [] B H r Sub.rfl' .nil .nil
  | f :: fs, σ, H, Q, E, B, env, ds, env', r, e, k => by
    obtain ⟨p, e1, e⟩ := bindS (show (f.1 env).bind _ = _ from e)
    obtain ⟨q, e2, e⟩ := bindS e
    obtain ⟨t, e3, e⟩ := bindS e
    cases e
    refine ⟨E, B, env, p.1, p.2, r, e1, fun u B1 H1 r1 s1 z1 => ⟨E, B1, p.2, q.1, q.2, r1, e2, fun v B2 H2 r2 s2 z2 => ?_⟩⟩
    exact tPrsI fs σ H2 _ E B2 q.2 t.1 t.2 r2 e3 fun ps B3 H3 r3 s3 a b => k _ B3 H3 r3 (s1.tr (s2.tr s3)) (.cons (z1.mono (s2.tr s3)) a) (.cons (z2.mono s3) b)
theorem stoI {K : PySem.W.Frag} {E : Ent} {B : Hp} {σ : L2.St} {env : Env} {p : Addr} {Q : VK} (hE : E.H0 p = none) (nB : B p = none) (nO : ∀ j, ¬ Own σ env j p) : ∀ {ps : List (V × V)} {ds : List (D × D)} {es : EV} {ep : Nat} {kvs acc : List (NK × D)} {H : Hp}, RR K E B H σ env → H p = some (DicO p es ep) →
    es.map (·.1) = acc.map (·.1) → (∀ e ∈ es, e.1.depth ≤ 8) → Reps B (es.map (·.2.1)) (es.map fun e => e.1.data) → Reps B (es.map (·.2.2)) (acc.map (·.2)) → Reps B (ps.map (·.1)) (ds.map (·.1)) → Reps B (ps.map (·.2)) (ds.map (·.2)) → putsN ds acc = some kvs →
    (∀ H' o, RR K E B H' σ env → H' p = some o → OwnO B p (.od false kvs) o → Q (.ref p) H') → tStoA p ps es ep H Q
  | [], [], es, ep, kvs, acc, H, r, h, hk, hd, r1, r2, _, _, e, k => by
    cases e
    exact k H _ r h ⟨es, ep, rfl, hk, hd, r1, r2⟩
  | [], _ :: _, _, _, _, _, _, _, _, _, _, _, _, z, _, _, _ => by cases z
  | _ :: _, [], _, _, _, _, _, _, _, _, _, _, _, z, _, _, _ => by cases z
  | a :: ps, d :: ds, es, ep, kvs, acc, H, r, h, hk, hd, r1, r2, .cons ra rb, .cons rc rd, e, k => by
    obtain ⟨ky, e1, e⟩ := bindS (show (keyN d.1).bind _ = _ from e)
    obtain ⟨hl, e⟩ := guardS e
    obtain ⟨_, y2, y3⟩ := keyN_of e1
    have hlen : es.length = acc.length := by simpa using congrArg List.length hk
    refine ⟨ky, dk_of r.bh h r1 (.inl ra) e1, by rw [hlen]; exact lcLine (of_decide_eq_true hl), fun ep' => ?_⟩
    obtain ⟨f1, f2, f3, f4⟩ := put_facts (k := ky) (y := a.1) (v := a.2) (d := d.2) hk hd r1 r2 y3 (by rw [y2]; exact ra) rc
    exact stoI hE nB nO (r.aside nB hE nO ⟨_, h, dic_apart⟩) upd_same f1 f2 f3 f4 rb rd e k
theorem e_disp {X : Cx} {pos : Pos} {keys : List (Option Expr)} {values : List Expr} {fs : List (Ev D × Ev D)} (hw : X.w = W.w) (hu : X.A.units + 8 < cLine) (h : PPs X pos keys values (fs.map fun f => (tE X.K f.1, tE X.K f.2))) (hall : keys.all (·.isSome) = true := by rfl) (hl : keys.length = values.length := by rfl) (h0 : keys ≠ [] := by exact List.cons_ne_nil _ _)
    (h15 : keys.length ≤ 15 := by decide) : PE X (.Dict keys values pos) (tR X.K (dispR fs)) := peImp (pe_dispA hw hu h hall hl h0 h15) fun σ H Q ⟨E, B, env, res, env', r, ef, k⟩ => by
  obtain ⟨p, e1, ef⟩ := bindS ef
  obtain ⟨kvs, e2, ef⟩ := bindS ef
  cases ef
  intro L hL
  have g : Grow B H B (upd H L (DicO L [] 0)) := Grow.heap r.bh hL
  have nL : B L = none := r.bh.off hL
  have hE : E.H0 L = none := r.off hL
  have r0 := r.grow g
  have n0 : ∀ j, ¬ Own σ env j L := fun j ⟨ov, w1, w2, w3⟩ => by
    obtain ⟨a, o, k1, k2, _⟩ := r.owns w1 w2
    rw [w3] at k1; cases k1
    rw [hL] at k2; cases k2
  refine tPrsI fs σ _ _ _ B env p.1 p.2 r0.loc e1 fun ps B1 H1 r1 s1 a b => ?_
  have f1 : H1 L = some (DicO L [] 0) := r1.keep L _ upd_same (fun ⟨j, w⟩ => n0 j w) dic_apart.1
  have f2 : B1 L = none := by
    cases e : B1 L with
    | none => rfl
    | some u =>
      rcases r1.new L u e with y | y | ⟨j, ov, y1, y2, _, y4⟩
      · rw [show (loc B (upd H L (DicO L [] 0)) σ env).B0 L = B L from rfl, nL] at y; cases y
      · rw [show (loc B (upd H L (DicO L [] 0)) σ env).H0 L = upd H L (DicO L [] 0) L from rfl, upd_same] at y; cases y
      · exact absurd ⟨ov, y1, y2, y4⟩ (n0 j)
  have f3 : ∀ j, ¬ Own σ p.2 j L := fun j w => by
    rcases r1.own j L w with ⟨j', y⟩ | y
    · exact n0 j' y
    · rw [show (loc B (upd H L (DicO L [] 0)) σ env).H0 L = upd H L (DicO L [] 0) L from rfl, upd_same] at y; cases y
  exact stoI hE f2 f3 (r0.comp r1) f1 rfl (fun e he => by cases he) .nil .nil a b e2 fun H' o rr hh ho => k _ B1 H' rr s1 ⟨L, o, rfl, hh, ho, f2, f3, .inl hE⟩
theorem ss_void {X : Cx} {K : PySem.W.Frag} {sts : List Stmt} : PSs X sts (tS K fun _ => none) := ⟨fun pins s σ H Q I h => by
  obtain ⟨E, B, env, fl, env', r, ef, k⟩ := h
  cases ef⟩
theorem room8 {k : Nat} {A : Around} (r : Room k A) : A.units + 8 < cLine := by have := r.un; omega
theorem pe_globI {X : Cx} {x : Str} {p : Pos} {i : Int} (hg : Gl X x) (h : ∃ t, X.mg x = some (.int i t)) (hd : (x == ("__debug__" : Str)) = false := by decide) : PE X (.Name x p) (tC (.int i)) := by
  obtain ⟨t, e⟩ := h
  exact pe_glob (hd := hd) hg e ⟨t, rfl⟩
theorem pe_globS {X : Cx} {x : Str} {p : Pos} {i : Str} (hg : Gl X x) (h : ∃ t, X.mg x = some (.str i t)) (hd : (x == ("__debug__" : Str)) = false := by decide) : PE X (.Name x p) (tC (.str i)) := by
  obtain ⟨t, e⟩ := h
  exact pe_glob (hd := hd) hg e ⟨t, rfl⟩
end NS

set_option Elab.async false
set_option linter.all false
set_option maxRecDepth 100000
set_option maxHeartbeats 4000000
/-! NtG: x, y, .. = a, b, ..: results stored in names. -/
namespace NS
open PySem L2 PyProof.Rows NT
variable [W : NT.Wd]
def resE : List (Ev Res) → Ev (List Res)
  | [] => fun env => some ([], env)
  | f :: r => fun env => (f env).bind fun p => (resE r p.2).bind fun q => some (p.1 :: q.1, q.2)
def tasR (K : PySem.W.Frag) : List (Ev Res) → TA
  | [] => tNil
  | f :: r => tCons (tR K f) (tasR K r)
def ResVs (E : Ent) (B H : Hp) (σ : L2.St) (env : Env) : List Res → List V → Prop
  | [], [] => True
  | x :: xs, u :: us => ResV E B H σ env x u ∧ (∀ (i : Nat) (y : Res) (v : V), xs[i]? = some y → us[i]? = some v → x.ov.owned = true → y.ov.owned = true → u ≠ v) ∧ ResVs E B H σ env xs us
  | _, _ => False
theorem ResVs.at {E : Ent} {B H : Hp} {σ : L2.St} {env : Env} : ∀ {xs : List Res} {us : List V} {i : Nat} {y : Res} {v : V}, ResVs E B H σ env xs us → xs[i]? = some y → us[i]? = some v → ResV E B H σ env y v
  | [], _, _, _, _, _, h1, _ => by simp at h1
  | _ :: _, [], _, _, _, h, _, _ => False.elim h
  | x :: xs, u :: us, 0, y, v, h, h1, h2 => by
    simp at h1 h2; subst h1 h2; exact h.1
  | x :: xs, u :: us, i + 1, y, v, h, h1, h2 => ResVs.at (i := i) h.2.2 (by simpa using h1) (by simpa using h2)
theorem ResVs.map {E E' : Ent} {B H B' H' : Hp} {σ : L2.St} {env : Env} (f : ∀ y v, ResV E B H σ env y v → ResV E' B' H' σ env y v) : ∀ {xs : List Res} {us : List V}, ResVs E B H σ env xs us → ResVs E' B' H' σ env xs us
  | [], [], _ => True.intro
  | [], _ :: _, h => False.elim h
  | _ :: _, [], h => False.elim h
  | x :: xs, u :: us, ⟨a, b, c⟩ => ⟨f _ _ a, b, ResVs.map f c⟩
theorem ResVs.len {E : Ent} {B H : Hp} {σ : L2.St} {env : Env} : ∀ {xs : List Res} {us : List V}, ResVs E B H σ env xs us → xs.length = us.length
  | [], [], _ => rfl
  | [], _ :: _, h => False.elim h
  | _ :: _, [], h => False.elim h
  | x :: xs, u :: us, ⟨a, b, c⟩ => by simp [ResVs.len c]
theorem taN {K : PySem.W.Frag} : ∀ (fs : List (Ev Res)) (σ : L2.St) (H : Hp) (Q : List V → Hp → Prop) (E : Ent) (B : Hp) (env : Env) (rs : List Res) (env' : Env), RR K E B H σ env → resE fs env = some (rs, env') →
    (∀ us B' H', RR K E B' H' σ env' → Sub B B' → ResVs E B' H' σ env' rs us → Q us H') → tasR K fs σ H Q
  | [], σ, H, Q, E, B, env, rs, env', r, e, k => by
    cases e
    exact k [] B H r Sub.rfl' True.intro
  | f :: fs, σ, H, Q, E, B, env, rs, env', r, e, k => by
    obtain ⟨p, e1, e⟩ := bindS (show (f env).bind _ = _ from e)
    obtain ⟨q, e2, e⟩ := bindS e
    cases e
    refine ⟨E, B, env, p.1, p.2, r, e1, fun u B1 H1 r1 s1 q1 => ?_⟩
    refine taN fs σ H1 _ (loc B1 H1 σ p.2) B1 p.2 q.1 q.2 r1.loc e2 fun us B2 H2 r2 s2 q2 => ?_
    exact k _ B2 H2 (r1.comp r2) (s1.tr s2) ⟨q1.hold r1 r2, fun i y v h1 h2 => q1.apart (q2.at h1 h2), q2.map fun y v z => z.out r1⟩
/-- stored one by one -/
def sets {α : Type} : List (Option α) → List Nat → List α → List (Option α)
  | l, i :: is, x :: xs => sets (l.set i (some x)) is xs
  | l, _, _ => l
theorem ResV.put {K : PySem.W.Frag} {E : Ent} {B H : Hp} {σ : L2.St} {env : Env} {i : Nat} {x y : Res} {u v : V} (r : RR K E B H σ env) (h : ResV E B H σ env y v) (ap : x.ov.owned = true → y.ov.owned = true → u ≠ v) :
    ResV E B H (σ.set i (some u)) (env.set i (some x.ov)) y v := by
  have own : y.ov.owned = true → (∃ p o, v = .ref p ∧ H p = some o ∧ OwnO B p y.ov o ∧ B p = none ∧ (∀ j, ¬ Own σ env j p) ∧ (E.H0 p = none ∨ E.Z p)) → ∃ p o, v = .ref p ∧ H p = some o ∧ OwnO B p y.ov o ∧ B p = none ∧ (∀ j, ¬ Own (σ.set i (some u)) (env.set i (some x.ov)) j p) ∧ (E.H0 p = none ∨ E.Z p) := by
    rintro w ⟨p, o, rfl, h1, h2, h3, h4, h5⟩
    refine ⟨p, o, rfl, h1, h2, h3, fun l ⟨ov, w1, w2, w3⟩ => ?_, h5⟩
    by_cases hl : l = i
    · subst hl
      by_cases hb : l < env.length
      · rw [List.getElem?_set_self hb] at w1
        cases w1
        rw [List.getElem?_set_self (by rw [r.len]; exact hb)] at w3
        cases w3
        exact ap w2 w rfl
      · rw [List.getElem?_eq_none (by simpa using hb)] at w1; cases w1
    · rw [List.getElem?_set_ne (Ne.symm hl)] at w1 w3
      exact h4 l ⟨ov, w1, w2, w3⟩
  cases y with
  | d d => exact h
  | l ds => exact own rfl h
  | k ds => exact own rfl h
theorem ResVs.put {K : PySem.W.Frag} {E : Ent} {B H : Hp} {σ : L2.St} {env : Env} {i : Nat} {x : Res} {u : V} (r : RR K E B H σ env) : ∀ {ys : List Res} {vs : List V}, ResVs E B H σ env ys vs → (∀ (j : Nat) (y : Res) (v : V), ys[j]? = some y → vs[j]? = some v → x.ov.owned = true → y.ov.owned = true → u ≠ v) →
    ResVs E B H (σ.set i (some u)) (env.set i (some x.ov)) ys vs
  | [], [], _, _ => True.intro
  | [], _ :: _, h, _ => False.elim h
  | _ :: _, [], h, _ => False.elim h
  | y :: ys, v :: vs, ⟨a, b, c⟩, f => ⟨a.put r (f 0 y v rfl rfl), b, ResVs.put r c fun j y v h1 h2 => f (j + 1) y v (by simpa using h1) (by simpa using h2)⟩
theorem RR.puts {K : PySem.W.Frag} {E : Ent} {B H : Hp} : ∀ {is : List Nat} {rs : List Res} {us : List V} {σ : L2.St} {env : Env}, RR K E B H σ env → ResVs E B H σ env rs us → RR K E B H (sets σ is us) (sets env is (rs.map Res.ov))
  | [], _, _, σ, env, r, _ => r
  | _ :: _, [], [], σ, env, r, _ => r
  | _ :: _, [], _ :: _, σ, env, r, h => False.elim h
  | _ :: _, _ :: _, [], σ, env, r, h => False.elim h
  | i :: is, x :: rs, u :: us, σ, env, r, ⟨a, b, c⟩ => by
    obtain ⟨x1, x2, x3⟩ := a.ok (K := K)
    show RR K E B H (sets (σ.set i (some u)) is us) (sets (env.set i (some x.ov)) is (rs.map Res.ov))
    exact RR.puts (r.put (i := i) x1 x2 x3) (c.put r b)
def parN (is : List Nat) (fs : List (Ev Res)) : Es := fun env => (resE fs env).bind fun p => guardO (decide (p.1.length = is.length)) (some (.nx, sets p.2 is (p.1.map Res.ov)))
def gNames : List Nat → TGs
  | [] => gNil
  | i :: is => gCons (gName i) (gNames is)
theorem gNamesI : ∀ {is : List Nat} {us : List V} {σ : L2.St} {H : Hp} {Q : L2.St → Hp → Prop}, us.length = is.length → Q (sets σ is us) H → gNames is us σ H Q
  | [], [], _, _, _, _, q => ⟨rfl, q⟩
  | [], _ :: _, _, _, _, l, _ => by cases l
  | _ :: _, [], _, _, _, l, _ => by cases l
  | i :: is, u :: us, σ, H, Q, l, q => ⟨u, us, rfl, gNamesI (by simpa using l) q⟩
/-- by way of a tuple: more than three names, or a name that is a cell -/
theorem s_unpN {X : Cx} {st : Stmt} {is : List Nat} {fs : List (Ev Res)} (hl : is.length ≤ 100000) (hst : PS X st (tAsg (tTup (tasR X.K fs)) (L2.gTup X.K is.length (gNames is)))) : PS X st (tS X.K (parN is fs)) := psImp hst fun D σ H ⟨E, B, env, fl, env', r, ef, k⟩ => by
  obtain ⟨p, e1, ef⟩ := bindS ef
  obtain ⟨hn, ef⟩ := guardS ef
  cases ef
  have hn := of_decide_eq_true hn
  refine taN fs σ H _ E B env p.1 p.2 r e1 fun us B2 H2 r2 s2 q => ⟨line5 (by rw [← q.len, hn]; exact hl), fun T hT => ?_⟩
  have g : Grow B2 H2 B2 (upd H2 T (.tup us)) := Grow.heap r2.bh hT
  refine ⟨T, us, rfl, SqT.of upd_same, by rw [← q.len, hn], gNamesI (by rw [← q.len, hn]) ?_⟩
  exact k _ B2 _ ((r2.grow g).puts (q.map fun y v z => ResV.grow (K := X.K) z g)) s2
/-- three plain local names -/
theorem s_parN3 {X : Cx} {i j l : Nat} {x y z : Str} {a b c : Expr} {fs : List (Ev Res)} {px py pz pt pos : Pos} {kt k2 pt2} (hc : X.calm = true) (hN : X.N.Nodup) (hi : X.N[i]? = some x) (hj : X.N[j]? = some y) (hl : X.N[l]? = some z) (hij : i ≠ j) (hil : i ≠ l) (hjl : j ≠ l)
    (hx : X.env.scope.names.lookup x = some .local) (hy : X.env.scope.names.lookup y = some .local) (hz : X.env.scope.names.lookup z = some .local) (ha : PA X [a, b, c] (tasR X.K fs))
    (hw : swappedStores [.Tuple [.Name x px, .Name y py, .Name z pz] kt pt] (.Tuple [a, b, c] k2 pt2) X.env = pure (some [x, y, z]))
    (hs : swapsWithSole [.Tuple [.Name x px, .Name y py, .Name z pz] kt pt] (.Tuple [a, b, c] k2 pt2) pos.line X.env = pure false := by rfl) :
    PS X (.Assign [.Tuple [.Name x px, .Name y py, .Name z pz] kt pt] (.Tuple [a, b, c] k2 pt2) pos) (tS X.K (parN [i, j, l] fs)) :=
  psImp (ps_par3 hc hN hi hj hl hij hil hjl hx hy hz ha hw hs) fun D σ H ⟨E, B, env, fl, env', r, ef, k⟩ => by
  obtain ⟨p, e1, ef⟩ := bindS ef
  obtain ⟨hn, ef⟩ := guardS ef
  cases ef
  have hn := of_decide_eq_true hn
  refine taN fs σ H _ E B env p.1 p.2 r e1 fun us B2 H2 r2 s2 q => ?_
  have hl := q.len
  rw [hn] at hl
  match us, hl, q with
  | [u, v, w], _, q => exact ⟨u, v, w, rfl, k _ B2 _ (show RR X.K E B2 H2 (sets σ [i, j, l] [u, v, w]) _ from RR.puts r2 q) s2⟩
end NS

set_option Elab.async false
set_option linter.all false
set_option maxRecDepth 100000
set_option maxHeartbeats 4000000
/-! NtH: tuple * n. -/
namespace NS
open PySem PySem.Spec L2 PyProof.Rows NT
variable [W : NT.Wd]
theorem tuple_mul1 (l : Addr) (items : Array Value) (n : Nat) (dd : Option Addr) (sl : Array (Option Value)) (u : Tok) :
    Meets (Builtin.«tuple.__mul__» ⟨[.ref l, .int 1 u], []⟩) (fun _ R s => s.heap.get? l = some { cls := .type "tuple", dict := dd, data := .seq items n, slots := sl } ∧
      R (.ok (.ret (Value.ref l))) s) :=
  .of_wp fun prog w A R s h => by
    obtain ⟨hp, g, d, tk, os⟩ := s
    obtain ⟨hl, h⟩ := h
    have f1 := AutoSeq1.idx_int
    wp_walk using wpAny_loadPart' hl
    exact ⟨_, rfl, h⟩
theorem tuple_mul0 (l : Addr) (items : Array Value) (n : Nat) (dd : Option Addr) (sl : Array (Option Value)) (u : Tok) :
    Meets (Builtin.«tuple.__mul__» ⟨[.ref l, .int 0 u], []⟩) (fun _ R s => s.heap.get? l = some { cls := .type "tuple", dict := dd, data := .seq items n, slots := sl } ∧ items.isEmpty = false ∧
      R (.ok (.ret (Value.ref s.heap.objs.size))) { s with heap := s.heap.push { cls := Value.type "tuple", data := Data.seq #[] } }) :=
  .of_wp fun prog w A R s h => by
    obtain ⟨hp, g, d, tk, os⟩ := s
    obtain ⟨hl, hi, h⟩ := h
    have f1 := AutoSeq1.idx_int
    wp_walk using wpAny_loadPart' hl
    exact ⟨_, rfl, h⟩
def rRep01 (K : PySem.W.Frag) : R2 := fun x y H Q => ∃ l xs, x = .ref l ∧ SqT K H l xs ∧ xs ≠ [] ∧ ((y = .int 1 ∧ Q (.ref l) H) ∨ (y = .int 0 ∧ ∀ p, H p = none → Q (.ref p) (upd H p (.tup []))))
theorem op_rep01 {X : Cx} : OpR X (binaryOp .Mult) (rRep01 X.K) := by
  intro pins s σ H x y v u Q I rx ry h
  obtain ⟨l, xs, rfl, hT, hne, q⟩ := h
  cases rx
  obtain ⟨its, r, ⟨⟨cls, dd, data, sl⟩, ho, hc, n, hd⟩, hs⟩ := I.tuple hT
  simp only at hc hd
  subst hc hd
  have hle : its.length = xs.length := r.length.symm
  have hn : its ≠ [] := fun e => hne (by
    rw [e] at hle
    exact List.eq_nil_of_length_eq_zero hle.symm)
  have hi : its.toArray.isEmpty = false := by
    cases its with
    | nil => exact absurd rfl hn
    | cons a b => rfl
  rcases q with ⟨rfl, q⟩ | ⟨rfl, q⟩
  · obtain ⟨t, rfl⟩ := ry
    refine wpAny_binaryOp_repeat_ref (T := "tuple") (U := "int") (by decide) ⟨_, ho, rfl⟩ (fun s' => typeIs_int s' 1 t) noFill_tuple_mul F.fills_int_mul F.slot_int_rmul repeat_tuple F.slot_int_index.lookup
      (call_meets F.slot_int_rmul (typeIs_int s 1 t) F.entry_int_rmul (F.args_int_rmul_2 _ _) (int_rmul_tuple 1 t l its.toArray n dd sl)
        ⟨ho, rfl, ⟨_, ho, rfl⟩, call_meets F.slot_tuple_mul ⟨_, ho, rfl⟩ F.entry_tuple_mul (F.args_tuple_mul_2 _ _) (tuple_mul1 l its.toArray n dd sl t) ⟨ho, ?_⟩⟩)
    exact ⟨.ref l, H, I, rfl, q⟩
  · obtain ⟨t, rfl⟩ := ry
    refine wpAny_binaryOp_repeat_ref (T := "tuple") (U := "int") (by decide) ⟨_, ho, rfl⟩ (fun s' => typeIs_int s' 0 t) noFill_tuple_mul F.fills_int_mul F.slot_int_rmul repeat_tuple F.slot_int_index.lookup
      (call_meets F.slot_int_rmul (typeIs_int s 0 t) F.entry_int_rmul (F.args_int_rmul_2 _ _) (int_rmul_tuple 0 t l its.toArray n dd sl)
        ⟨ho, rfl, ⟨_, ho, rfl⟩, call_meets F.slot_tuple_mul ⟨_, ho, rfl⟩ F.entry_tuple_mul (F.args_tuple_mul_2 _ _) (tuple_mul0 l its.toArray n dd sl t) ⟨ho, hi, ?_⟩⟩)
    refine ⟨.ref s.heap.objs.size, _, I.laid (t' := s.toks) (o := .tup []) (fun b ob q => Heap.get?_push_of_some _ q) (Nat.le_refl _) ?_, rfl, q _ (I.hok.fresh (Nat.le_refl _))⟩
    exact ⟨Nat.zero_le _, [], .nil, IsTup.new _ _⟩
def rMulTA (K : PySem.W.Frag) : R2 := fun x y H Q => rRep01 K x y H Q ∨ rRepT K x y H Q
theorem op_mulTA {X : Cx} : OpR X (binaryOp .Mult) (rMulTA X.K) := op_rep01.or op_repT
def gMulT : D → D → Option Res
  | .tuple (x :: xs), .int j => if j = 1 then some (.d (.tuple (x :: xs))) else if j = 0 then some (.d (.tuple [])) else guardO (decide (2 ≤ j) && decide (j ≤ 1000) && decide (xs.length < 1000)) (some (.d (.tuple (List.replicate j.toNat (x :: xs)).flatten)))
  | _, _ => none
theorem p_mulT {K : PySem.W.Frag} : Prim2 (rMulTA K) gMulT := fun B H u v dx dy res Q s hx hy e k => by
  unfold gMulT at e
  split at e
  · rename_i x xs j
    obtain ⟨p, vs, rfl, h1, r1⟩ := hx.tup s
    have hy := hy.int
    have hne : vs ≠ [] := fun z => by rw [z] at r1; cases r1
    by_cases h : j = 1
    · rw [if_pos h] at e
      cases e
      subst h
      have hB : Rep B (.ref p) (.tuple (x :: xs)) := by
        rcases hx with hx | ⟨a, o, ov, e1, e2, e3, e4, e5⟩
        · exact hx
        · cases ov <;> first | exact False.elim e3 | cases e4
      exact .inl ⟨p, vs, rfl, SqT.of h1, hne, .inl ⟨hy, k (.ref p) B H (Grow.id s) hB⟩⟩
    · rw [if_neg h] at e
      by_cases h0 : j = 0
      · rw [if_pos h0] at e
        cases e
        subst h0
        exact .inl ⟨p, vs, rfl, SqT.of h1, hne, .inr ⟨hy, fun c hc => newT s .nil hc k⟩⟩
      · rw [if_neg h0] at e
        obtain ⟨hg, e⟩ := guardS e
        cases e
        simp only [Bool.and_eq_true, decide_eq_true_eq] at hg
        refine .inr ⟨p, j, vs, rfl, hy, SqT.of h1, hne, hg.1.1, hg.1.2, ?_, fun c hc => newT s (r1.rep _) hc k⟩
        rw [r1.len, List.length_cons]
        omega
  · cases e
end NS

set_option Elab.async false
set_option linter.all false
set_option maxRecDepth 100000
set_option maxHeartbeats 4000000
/-! NtI: t[::-1] of a tuple. -/
namespace HT
open PySem PySem.Spec PyProof.Rows
section
variable {prog : Program} {w : World} {A : Around} {E : Value → Shared → Prop} {s : Shared}
theorem sliceApplied_rev {sl : Addr} {vl vu vs : Value} {n : Nat} {Q : Int × Int × Nat → Shared → Prop} (hs : s.heap.IsSliceOf sl vl vu vs) (pl : IsPart vl none) (pu : IsPart vu none) (ps : IsPart vs (some (-1)))
    (h : Q ((n : Int) - 1, -1, n) s) : wpAny (model prog w) A (Builtin.Slice.sliceApplied (.ref sl) (pure (n : Int))) Q E s := by
  obtain ⟨os, hos, hcs, hds⟩ := id hs
  unfold Builtin.Slice.sliceApplied Builtin.Slice.sliceFields
  refine wpAny_bind (wpAny_bind (wpAny_field hos hds (x := vl) rfl (wpAny_bind (wpAny_field hos hds (x := vu) rfl (wpAny_bind (wpAny_field hos hds (x := vs) rfl (wpAny_pure ?_)))))))
  refine wpAny_bind (slicePart_ ps ?_)
  show wpAny _ _ (if ((-1 : Int) == 0) = true then _ else _) _ _ s
  rw [if_neg (by decide)]
  refine wpAny_bind (slicePart_ pl (wpAny_bind (slicePart_ pu (wpAny_bind (wpAny_pure ?_)))))
  show wpAny _ _ (match Builtin.Slice.sliceAdjust none none (-1) (n : Int) with | (lo, hi) => pure (lo, (-1 : Int), Builtin.Slice.slicePlaces lo hi (-1))) _ _ s
  have e1 : Builtin.Slice.sliceAdjust none none (-1) (n : Int) = ((n : Int) - 1, -1) := by
    unfold Builtin.Slice.sliceAdjust
    simp
  rw [e1]
  have e2 : Builtin.Slice.slicePlaces ((n : Int) - 1) (-1) (-1) = n := by
    unfold Builtin.Slice.slicePlaces
    have h1 : ¬ ((-1 : Int) > 0) := by decide
    simp only [h1, if_false]
    split
    · rw [show (-(-1) : Int) = 1 by decide, Int.ediv_one]
      omega
    · omega
  show wpAny _ _ (pure ((n : Int) - 1, (-1 : Int), Builtin.Slice.slicePlaces ((n : Int) - 1) (-1) (-1))) _ _ s
  rw [e2]
  exact wpAny_pure h
theorem fm_congr {α β : Type} {f g : α → Option β} : ∀ (l : List α), (∀ m ∈ l, f m = g m) → l.filterMap f = l.filterMap g
  | [], _ => rfl
  | m :: l, h => by
    rw [List.filterMap_cons, List.filterMap_cons, h m List.mem_cons_self, fm_congr l fun x hx => h x (List.mem_cons_of_mem _ hx)]
theorem pick_rev (xs : Array Value) : ((List.range xs.size).filterMap fun (m : Nat) => xs[((xs.size : Int) - 1 + (m : Int) * -1).toNat]?).toArray = xs.toList.reverse.toArray := by
  have e := PySem.W.krv_pick xs
  unfold slicePick at e
  rw [show sliceBounds none none (some (-1)) xs.size = ((xs.size : Int) - 1, -1, -1) from by simp [sliceBounds]] at e
  rw [← e]
  show _ = ((sliceRange ((xs.size : Int) - 1) (-1) (-1)).filterMap (xs[·]?)).toArray
  rw [PySem.W.krv_sliceRange, List.filterMap_map]
  refine congrArg List.toArray (fm_congr _ fun m hm => ?_)
  have := List.mem_range.mp hm
  show xs[((xs.size : Int) - 1 + (m : Int) * -1).toNat]? = xs[xs.size - 1 - m]?
  rw [show ((xs.size : Int) - 1 + (m : Int) * -1).toNat = xs.size - 1 - m by omega]
theorem getItem_tuple_rev {t sl : Addr} {items : Array Value} {vl vu vs : Value} {Q : Value → Shared → Prop} (ht : IsTup s.heap t items) (hs : s.heap.IsSliceOf sl vl vu vs) (pl : IsPart vl none) (pu : IsPart vu none) (ps : IsPart vs (some (-1)))
    (h : Q (.ref s.heap.objs.size) { s with heap := s.heap.push { cls := .type "tuple", data := .seq items.toList.reverse.toArray } })
    (hsz : items.size ≤ sizeLine) : wpAny (model prog w) A (getItem (.ref t) (.ref sl)) Q E s := by
  have htake : sizeOk (.seq items.toList.reverse.toArray) := by
    show items.toList.reverse.toArray.size ≤ sizeLine
    rw [List.size_toArray, List.length_reverse, Array.length_toList]
    exact hsz
  obtain ⟨os, hos, hcs, hds⟩ := id hs
  have hTs : s.TypeIs (.ref sl) "slice" := ⟨os, hos, hcs⟩
  unfold getItem
  try with_reducible refine wpAny_holding ?_
  first | refine wpAny_bind (wpAny_pure ?_) | skip
  refine wpAny_bind (wpAny_sequenceKey ht.typeIs (by decide) ?_)
  refine wpAny_bind (wpAny_callSpecial?_slot (name := Str.ofString "__getitem__") ht.typeIs PyProof.Rows.slot_tuple_getitem
    (wpAny_call_entry PyProof.Rows.slot_tuple_getitem ht.typeIs entry_tuple_getitem ?_ (args_tuple_getitem _ _)))
  show wpAny _ _ (Builtin.Tuple.tupleItemsOf (.ref t) >>= _) _ _ s
  refine wpAny_bind (tupleItemsOf_ ht ?_)
  refine wpAny_bind (wpAny_typeOf hTs ?_)
  rw [if_pos (by decide)]
  refine wpAny_bind (sliceApplied_rev hs pl pu ps ?_)
  have hno : ¬ ((((items.size : Int) - 1) == 0 && (-1 : Int) == 1 && items.size == items.size) = true) := by
    intro q
    rw [Bool.and_eq_true, Bool.and_eq_true] at q
    exact absurd q.1.2 (by decide)
  show wpAny _ _ (if (((items.size : Int) - 1) == 0 && (-1 : Int) == 1 && items.size == items.size) = true then _ else _) _ _ s
  rw [if_neg hno, pick_rev]
  first
    | exact wpAny_bind (wpAny_bind (m := Builtin.Tuple.tupleExact _) (wpAny_newObj_type (wpAny_pure ⟨_, rfl, wpAny_pure h⟩) htake))
    | exact wpAny_bind (m := Builtin.Tuple.tupleExact _) (wpAny_newObj_type (wpAny_pure ⟨_, rfl, wpAny_pure h⟩) htake)
    | exact wpAny_bind (m := Builtin.Tuple.tupleExact _) (wpAny_newObj_type (wpAny_bind (wpAny_pure (wpAny_pure ⟨_, rfl, wpAny_pure h⟩))) htake)
    | exact wpAny_bind (wpAny_bind (m := Builtin.Tuple.tupleExact _) (wpAny_newObj_type (wpAny_pure (wpAny_pure ⟨_, rfl, wpAny_pure h⟩)) htake))
end
end HT
namespace NS
open PySem PySem.Spec L2 PyProof.Rows NT
variable [W : NT.Wd]
def tRevA (K : PySem.W.Frag) (te : TE) : TE := fun σ H Q => te σ H fun x H1 => (∃ a xs, x = .ref a ∧ SqL K H1 a xs ∧ ∀ p, H1 p = none → Q (.ref p) (upd H1 p (.lst xs.reverse))) ∨ (∃ a xs, x = .ref a ∧ SqT K H1 a xs ∧ ∀ p, H1 p = none → Q (.ref p) (upd H1 p (.tup xs.reverse)))
theorem pe_revA {X : Cx} {e : Expr} {te : TE} {k : Nat} {p1 p2 p3 pos : Pos} (he : PE X e te) : PE X (.Subscript e (.Slice none none (some (.UnaryOp .USub (.Constant (.int 1) k p1) p2)) p3) pos) (tRevA X.K te) := by
  refine ⟨fun pins s σ H Q I h => ?_⟩
  refine Subscript_ (thn (he.run pins s σ H _ I h) fun v s1 ⟨x, H1, I1, r1, q1⟩ => ?_)
  have hst : PO X (some (.UnaryOp .USub (.Constant (.int 1) k p1) p2)) (tPart (tUn (rU fun i => .int (-i)) (tC (.int 1)))) := po_some (pe_un un_neg pe_int)
  refine wpAny_Slice (thn (po_none.run pins s1 σ H1 (fun o H2 => o = none ∧ H2 = H1) I1 ⟨rfl, rfl⟩) fun vl s2 ⟨l, H2, I2, pl, el, e2⟩ => ?_)
  subst el e2
  refine thn (po_none.run pins s2 σ H2 (fun o H3 => o = none ∧ H3 = H2) I2 ⟨rfl, rfl⟩) fun vu s3 ⟨u, H3, I3, pu, eu, e3⟩ => ?_
  subst eu e3
  refine thn (hst.run pins s3 σ H3 (fun o H4 => o = some (-1) ∧ H4 = H3) I3 ⟨1, rfl, -1, rfl, rfl, rfl⟩) fun vs s4 ⟨o, H4, I4, ps, eo, e4⟩ => ?_
  subst eo e4
  have I5 : Inv X pins σ H4 { s4 with heap := s4.heap.push { cls := .type "slice", data := .fields #[vl, vu, vs] } } := I4.kept (t' := s4.toks) fun b ob q => Heap.get?_push_of_some _ q
  rcases q1 with ⟨a, xs, ex, hx, q⟩ | ⟨a, xs, ex, hx, q⟩
  · subst ex
    cases r1
    obtain ⟨its, r, ht, hz⟩ := I5.list hx
    have hlen := r.length
    show wpAny (model X.prog X.w) X.A (subscriptTail e (.Slice none none (some (.UnaryOp .USub (.Constant (.int 1) k p1) p2)) p3) (.ref a) (.ref s4.heap.objs.size)) (EP X pins σ Q) X.xe { s4 with heap := s4.heap.push { cls := .type "slice", data := .fields #[vl, vu, vs] } }
    refine tail_any (ops := [.ref a, .ref s4.heap.objs.size]) ht.isList.typeIs (PySem.slot_list_getitem.lookup) ?_ (by with_unfolding_all rfl)
    refine wpAny_getItem_list_slice ht.isList (Heap.IsSliceOf.new _ vl vu vs) pl pu ps (by decide) ?_ (by rw [List.size_toArray]; omega)
    rw [PySem.W.krv_pick]
    refine ⟨.ref _, _, I5.laid (t' := s4.toks) (o := .lst xs.reverse) (fun b ob q => Heap.get?_push_of_some _ q) (Nat.le_refl _) ?_, rfl, q _ (I5.hok.fresh (Nat.le_refl _))⟩
    exact ⟨by rw [List.length_reverse]; exact hz, _, 0, r.reverse, Heap.get?_push_size _ rfl⟩
  · subst ex
    cases r1
    obtain ⟨its, r, ht, hz⟩ := I5.tuple hx
    have hlen := r.length
    show wpAny (model X.prog X.w) X.A (subscriptTail e (.Slice none none (some (.UnaryOp .USub (.Constant (.int 1) k p1) p2)) p3) (.ref a) (.ref s4.heap.objs.size)) (EP X pins σ Q) X.xe { s4 with heap := s4.heap.push { cls := .type "slice", data := .fields #[vl, vu, vs] } }
    refine tail_any (ops := [.ref a, .ref s4.heap.objs.size]) ht.typeIs (PyProof.Rows.slot_tuple_getitem.lookup) ?_ (by with_unfolding_all rfl)
    refine HT.getItem_tuple_rev ht (Heap.IsSliceOf.new _ vl vu vs) pl pu ps ?_ (by rw [List.size_toArray]; omega)
    refine ⟨.ref _, _, I5.laid (t' := s4.toks) (o := .tup xs.reverse) (fun b ob q => Heap.get?_push_of_some _ q) (Nat.le_refl _) ?_, rfl, q _ (I5.hok.fresh (Nat.le_refl _))⟩
    exact ⟨by rw [List.length_reverse]; exact hz, _, r.reverse, IsTup.new _ _⟩
def revA (f : Ev Opd) : Ev Res := fun env => (f env).bind fun p => (opD p.2 p.1).bind fun d => match d with
  | .list ds => some (.l ds.reverse, p.2)
  | .tuple ds => some (.d (.tuple ds.reverse), p.2)
  | _ => none
theorem e_revA {X : Cx} {e : Expr} {f : Ev Opd} {k : Nat} {p1 p2 p3 pos : Pos} (he : PE X e (tP X.K f)) : PE X (.Subscript e (.Slice none none (some (.UnaryOp .USub (.Constant (.int 1) k p1) p2)) p3) pos) (tR X.K (revA f)) := peImp (pe_revA he) fun σ H Q ⟨E, B, env, x, env', r, ef, kk⟩ => by
  obtain ⟨p, e1, ef⟩ := bindS ef
  obtain ⟨d, e2, ef⟩ := bindS ef
  cases d with
  | list ds =>
    cases ef
    refine ⟨E, B, env, p.1, p.2, r, e1, fun v B' H' r' s' z => .inl ?_⟩
    obtain ⟨a, vs, rfl, h1, r1⟩ := (opRd r' z e2).lst r'.bh
    refine ⟨a, vs, rfl, SqL.of h1, fun c hc => ?_⟩
    exact newL (Q := Q) r'.bh r1.rev hc fun w B2 H2 gr nw => kk w B2 H2 (r'.grow gr) (s'.tr gr.bb) (nw.res r')
  | tuple ds =>
    cases ef
    refine ⟨E, B, env, p.1, p.2, r, e1, fun v B' H' r' s' z => .inr ?_⟩
    obtain ⟨a, vs, rfl, h1, r1⟩ := (opRd r' z e2).tup r'.bh
    refine ⟨a, vs, rfl, SqT.of h1, fun c hc => ?_⟩
    exact newT (Q := Q) r'.bh r1.rev hc fun w B2 H2 gr nw => kk w B2 H2 (r'.grow gr) (s'.tr gr.bb) (nw.res r')
  | _ => cases ef
/-! ### text * n -/
def repS (x : Str) (n : Nat) : Str := ⟨(List.replicate n x.cps).foldl (· ++ ·) #[]⟩
theorem rep_size (a : Array Nat) : ∀ (n : Nat) (acc : Array Nat), ((List.replicate n a).foldl (· ++ ·) acc).size = acc.size + a.size * n
  | 0, acc => by simp
  | n + 1, acc => by
    rw [List.replicate_succ, List.foldl_cons, rep_size a n, Array.size_append, Nat.mul_succ]
    omega
theorem repS_len (x : Str) (n : Nat) : (repS x n).length = x.length * n := by
  show ((List.replicate n x.cps).foldl (· ++ ·) #[]).size = x.cps.size * n
  rw [rep_size]; simp
def rMulS : R2 := fun x y H Q => ∃ (i : Str) (n : Int), x = .str i ∧ y = .int n ∧ 2 ≤ n ∧ n ≤ 1000 ∧ 0 < i.length ∧ i.length ≤ 1000 ∧ Q (.str (repS i n.toNat)) H
theorem op_mulS {X : Cx} : OpR X (binaryOp .Mult) rMulS := by
  intro pins s σ H x y v u Q I rx ry h
  obtain ⟨i, n, rfl, rfl, h1, h2, h3, h4, q⟩ := h
  obtain ⟨t, rfl⟩ := rx
  obtain ⟨t', rfl⟩ := ry
  have c : (n == 1 || i.length == 0) = false := by
    rw [Bool.or_eq_false_iff]
    exact ⟨beq_eq_false_iff_ne.mpr (by omega), beq_eq_false_iff_ne.mpr (by omega)⟩
  have hm : i.length * n.toNat ≤ 1000 * 1000 := Nat.mul_le_mul h4 (by omega)
  refine P.mul_str (by rw [decide_eq_false (by omega), decide_eq_false (by omega)]; rfl) (fun _ _ z => ?_) (fun _ _ => ?_) ?_
  · have : (9223372036854775 : Int) ≤ (2 ^ 63 - 1) / n := Int.le_ediv_of_mul_le (by omega) (by omega)
    omega
  · show decide (i.length * n.toNat > sizeLine) = false
    rw [sizeLine_eq]
    exact decide_eq_false (by omega)
  · rw [if_neg (by omega), c, if_neg Bool.false_ne_true]
    refine ⟨?_, ⟨.str (repS i n.toNat), H, I.tok _, ⟨_, rfl⟩, q⟩⟩
    show (repS i n.toNat).length ≤ sizeLine
    rw [repS_len, sizeLine_eq]
    omega
def gMulS : D → D → Option Res
  | .str x, .int j => guardO (decide (2 ≤ j) && decide (j ≤ 1000) && decide (0 < x.length) && decide (x.length ≤ 1000)) (some (.d (.str (repS x j.toNat))))
  | _, _ => none
theorem p_mulS : Prim2 rMulS gMulS := fun B H u v dx dy res Q s hx hy e k => by
  unfold gMulS at e
  split at e
  · rename_i x j
    obtain ⟨hg, e⟩ := guardS e
    cases e
    simp only [Bool.and_eq_true, decide_eq_true_eq] at hg
    exact ⟨x, j, hx.str, hy.int, hg.1.1.1, hg.1.1.2, hg.1.2, hg.2, newD s (.str _) k⟩
  · cases e
end NS

set_option Elab.async false
set_option linter.all false
set_option maxRecDepth 100000
set_option maxHeartbeats 4000000
/-! NsL: a lambda of one parameter handed to a def, beside other arguments, and called there. -/
namespace NS
open PySem L2 PyProof.Rows NT
variable [W : NT.Wd]
/-! ### what it answers -/
def capOf : Option OV → Option D
  | some (.fz d) => some d
  | _ => none
def capsOf (env : Env) : List (Option D) := env.map capOf
def lamEnvOf (ds : List (Option D)) (d : D) : Env := ds.map (fun o => o.map OV.fz) ++ [some (.fz d)]
def lamG (fb : Ev Res) (ds : List (Option D)) : List Opd → Option Res
  | [.v d] => (fb (lamEnvOf ds d)).bind fun p => match p.1 with
    | .d x => some (.d x)
    | _ => none
  | _ => none
open Classical in
/-- a call of the function in slot i -/
noncomputable def callF (i : Nat) (F : FnI) (g : List Opd → Option Res) (fa : Ev (List Opd)) : Ev Res := fun env =>
  if env[i]? = some (some (.fn F)) then (fa env).bind fun p => if p.2[i]? = some (some (.fn F)) then (g p.1).bind fun r => some (r, p.2) else none else none
/-- a def whose first argument is a function -/
def runF (n : Nat) (F : FnI) (body : Es) (avs : List Opd) : Option Res := (body (some (.fn F) :: envOf (n - 1) avs)).bind fun p => resOfFl p.1
open Classical in
/-- f(lambda p: .., ..) -/
noncomputable def callL (n na : Nat) (body : FnI → (List Opd → Option Res) → Es) (fb : Ev Res) (fa : Ev (List Opd)) : Ev Res := fun env => (fa env).bind fun p => guardO (noR p.1 && p.1.length == na)
  (if h : ∃ res, ∀ F : FnI, F.ds = capsOf p.2 → runF n F (body F (lamG fb F.ds)) p.1 = some res then some (Classical.choose h, p.2) else none)

/-! ### the lambda's frame -/
structure LamP (sc scope : Scope) (a : Str) : Prop where
  kind : scope.kind = .function
  co : scope.isCoroutine = false
  gen : scope.isGenerator = false
  nocell : ∀ y ∈ scope.names, y.2 ≠ .cell
  par : scope.names.lookup a = some .local
  own : ∀ y ∈ scope.names, y.2 = .local → y.1 = a
  free : ∀ y ∈ scope.names, y.2 = .free → sc.names.lookup y.1 = some .cell ∨ sc.names.lookup y.1 = some .free
def lamPB (sc scope : Scope) (a : Str) : Bool :=
  decide (scope.kind = .function) && !scope.isCoroutine && !scope.isGenerator && decide (scope.names.lookup a = some .local) && scope.names.all fun y => !decide (y.2 = .cell) && (!decide (y.2 = .local) || decide (y.1 = a)) && (!decide (y.2 = .free) || decide (sc.names.lookup y.1 = some .cell) || decide (sc.names.lookup y.1 = some .free))
theorem lamP_by {sc scope : Scope} {a : Str} (h : lamPB sc scope a = true) : LamP sc scope a := by
  unfold lamPB at h
  simp only [Bool.and_eq_true, Bool.or_eq_true, Bool.not_eq_true', decide_eq_true_eq, decide_eq_false_iff_not, List.all_eq_true] at h
  obtain ⟨⟨⟨⟨h1, h2⟩, h3⟩, h4⟩, h5⟩ := h
  refine ⟨h1, h2, h3, fun y hy => (h5 y hy).1.1, h4, fun y hy e => ?_, fun y hy e => ?_⟩
  · rcases (h5 y hy).1.2 with z | z
    · exact absurd e z
    · exact z
  · rcases (h5 y hy).2 with (z | z) | z
    · exact absurd e z
    · exact .inl z
    · exact .inr z
abbrev lamE (X : Cx) (scope : Scope) (L f c' : Addr) : PySem.Env := PySem.W.envX (X.env.qual ++ "<lambda>") scope L f (.ref c') (cloFrom X.env.cells scope.names [])
/-- the context of the lambda's body, entered at s -/
def lamC (X : Cx) (a : Str) (A : Around) (outer : List PySem.Env) (s : Shared) (H : Hp) (scope : Scope) (f c' : Addr) : Cx where
  prog := X.prog
  w := X.w
  K := X.K
  mg := X.mg
  base := X.base
  A := A.deeper (lamE X scope s.heap.objs.size f c')
  N := X.N ++ [a]
  s_0 := s
  H_0 := H
  env := lamE X scope s.heap.objs.size f c'
  outer := outer
  stack := lamE X scope s.heap.objs.size f c' :: outer
  ex := []
  fn := fun _ => false
  calm := true
  pn := []
  xe := fun _ _ => False
section
variable {X : Cx} {pins : List (Addr × Obj)} {σ : L2.St} {H HZ : Hp} {s s1 : Shared}
theorem lam_entry {A : Around} {outer : List PySem.Env} {scope : Scope} {a : Str} {f c' : Addr} {h₁ : Heap} {tk : Nat} {v : V} {u : Value} (I : Inv X pins σ H s) (L : LamP X.env.scope scope a) (hna : a ∉ X.N) (rv : RelV v u)
    (e0 : Env0 X.prog X.w X.K X.mg X.base A outer s1 HZ) (hd : A.handled = none) (un : Un (frs X.stack) [] H HZ s.heap s1.heap) (hns : h₁.Ns s1.heap.objs.size fun y => ([(a, u)] : List (Str × Value)).reverse.lookup y)
    (kp : ∀ b o, s1.heap.get? b = some o → h₁.get? b = some o) : Inv (lamC X a A outer s1 HZ scope f c') [] (σ ++ [some v]) HZ { s1 with heap := h₁, toks := tk } := by
  have hfree : ∀ y ∈ scope.names, y.2 = .free → ∃ c, X.env.cells.lookup y.1 = some c := fun y hy e => (L.free y hy e).elim (fun k => I.ok.has _ (.inl k)) fun k => I.ok.has _ (.inr k)
  -- the captured cells are the maker's
  have back : ∀ {y c}, (cloFrom X.env.cells scope.names []).lookup y = some c → X.env.cells.lookup y = some c := fun {y c} e => by
    rcases cloFrom_mem (PySem.mem_of_lookup e) with hm | ⟨h1, h2⟩
    · cases hm
    · obtain ⟨c1, hc⟩ := hfree _ h1 rfl
      have hc : X.env.cells.lookup y = some c1 := hc
      have e2 : c = c1 := by
        rw [h2, hc] <;> rfl
      rw [e2]
      exact hc
  have there : ∀ {y}, scope.names.lookup y = some .free → ∃ c, (cloFrom X.env.cells scope.names []).lookup y = some c := fun {y} hl => by
    have hy : (y, NameKind.free) ∈ scope.names := PySem.mem_of_lookup hl
    exact mem_lookup (cloFrom_has (cells := X.env.cells) (acc := []) hy)
  have cellK : ∀ {c : Addr} {w : Option Value}, H c = none → s.heap.IsCell c w → h₁.IsCell c w := fun {c w} n ⟨o, ho, hd⟩ => by
    obtain ⟨sl, q⟩ := un.any ho n (by simp)
    exact ⟨_, kp _ _ q, hd⟩
  have nx : ∀ b : Addr, b ∉ (lamC X a A outer s1 HZ scope f c').ex := fun b z => absurd (show b ∈ ([] : List Addr) from z) (by simp)
  have ok : (lamC X a A outer s1 HZ scope f c').Ok := by
    refine ⟨e0.mod, L.kind, rfl, rfl, Nat.le_refl _, fun y z c e1 e2 => I.ok.inj y z c (back e1) (back e2), fun y hy => ?_, fun y c z _ => ?_, fun _ => hd, Around.frames_deeper e0.frames, .inr ⟨rfl, rfl⟩, fun b z => absurd z (nx b), e0.bs, e0.bsz, fun b _ _ => nx b, fun b z => absurd z (nx b), e0.funs, e0.frf⟩
    · have hy : scope.names.lookup y = some .cell ∨ scope.names.lookup y = some .free := hy
      rcases hy with hy | hy
      · exact absurd rfl (L.nocell _ (PySem.mem_of_lookup hy))
      · exact there hy
    · have z : false = true := z
      cases z
  refine ⟨ok, rfl, e0.bare, Un.kept kp, ⟨_, hns, fun i y w e1 e2 e3 => ?_⟩, fun y c e => ?_, e0.hok.fresh (Nat.le_refl _), fun y c e => ?_, fun q hq => absurd (show q ∈ ([] : List (Addr × Obj)) ++ [] from hq) (by simp), e0.hok.kept kp, ?_⟩
  · have e1 : (X.N ++ [a])[i]? = some y := e1
    have e3 : Vis scope y := e3
    have hlen := I.len
    by_cases hi : i < X.N.length
    · rw [List.getElem?_append_left hi] at e1
      rw [List.getElem?_append_left (by omega)] at e2
      have ym : y ∈ X.N := List.mem_of_getElem? e1
      rcases e3 with k | k | k
      · exact absurd (by have := L.own _ (PySem.mem_of_lookup k) rfl; simp only at this; rw [← this]; exact ym) hna
      · exact absurd rfl (L.nocell _ (PySem.mem_of_lookup k))
      · obtain ⟨m, hn, hl⟩ := I.loc
        have hvis : Vis X.env.scope y := (L.free _ (PySem.mem_of_lookup k) rfl).elim (fun k => .inr (.inl k)) fun k => .inr (.inr k)
        obtain ⟨w', r, q⟩ := hl i y w e1 e2 hvis
        obtain ⟨c2, h2⟩ := there k
        refine ⟨w', r, .inr ⟨.inr k, c2, h2, ?_⟩⟩
        have c1 := back h2
        rcases q with ⟨k', _⟩ | ⟨_, c3, e', z⟩
        · have k' : X.env.scope.names.lookup y = some .local := k'
          rcases L.free _ (PySem.mem_of_lookup k) rfl with k2 | k2 <;> rw [show X.env.scope.names.lookup y = _ from k2] at k' <;> cases k'
        · rw [c1] at e'
          cases e'
          exact cellK (I.freeC y _ c1) z
    · rw [List.getElem?_append_right (by omega)] at e1 e2
      by_cases h0 : i - X.N.length = 0
      · rw [h0] at e1
        have ea : a = y := by simpa using e1
        subst ea
        rw [hlen, h0] at e2
        have ev : v = w := by simpa using e2
        subst ev
        exact ⟨u, rv, .inl ⟨L.par, by simp⟩⟩
      · obtain ⟨j, hj⟩ : ∃ j, i - X.N.length = j + 1 := ⟨i - X.N.length - 1, by omega⟩
        rw [hj] at e1
        simp at e1
  · obtain ⟨w', z⟩ := I.cell y c (back e)
    exact ⟨w', cellK (I.freeC y c (back e)) z⟩
  · obtain ⟨w, o, ho, hd⟩ := I.cell y c (back e)
    exact un.free c o ho (I.freeC y c (back e)) (by simp)
  · show (σ ++ [some v]).length = (X.N ++ [a]).length
    rw [List.length_append, List.length_append, I.len]
    rfl
/-- the slots of the lambda's frame -/
theorem rrL {K : PySem.W.Frag} {B H : Hp} {σ : L2.St} {ds : List (Option D)} {v : V} {d : D} (s : Sub B H) (tb : TabsK K B H) (hl : σ.length = ds.length) (hold : ∀ (i : Nat) (d : D), ds[i]? = some (some d) → ∃ u, σ[i]? = some (some u) ∧ Rep B u d) (rv : Rep B v d) :
    RR K (entT H B (σ ++ [some v])) B H (σ ++ [some v]) (lamEnvOf ds d) := by
  have look : ∀ (i : Nat) (ov : OV), (lamEnvOf ds d)[i]? = some (some ov) → ∃ x u, ov = .fz x ∧ (σ ++ [some v])[i]? = some (some u) ∧ Rep B u x := fun i ov e => by
    unfold lamEnvOf at e
    by_cases hi : i < ds.length
    · rw [List.getElem?_append_left (by simpa using hi), List.getElem?_map] at e
      cases q : ds[i]? with
      | none => rw [q] at e; cases e
      | some o =>
        rw [q] at e
        cases o with
        | none => cases e
        | some x =>
          cases e
          obtain ⟨u, h1, h2⟩ := hold i x q
          exact ⟨x, u, rfl, by rw [List.getElem?_append_left (by omega)]; exact h1, h2⟩
    · rw [List.getElem?_append_right (by simpa using hi), List.length_map] at e
      by_cases h0 : i - ds.length = 0
      · rw [h0] at e
        have e' : ov = .fz d := by simpa using e.symm
        exact ⟨d, v, e', by rw [List.getElem?_append_right (by omega), hl, h0]; rfl, rv⟩
      · obtain ⟨j, hj⟩ : ∃ j, i - ds.length = j + 1 := ⟨i - ds.length - 1, by omega⟩
        rw [hj] at e
        simp at e
  refine ⟨s, Sub.rfl', fun _ z => z, fun _ _ e _ _ => e, tb, fun _ e => e, fun _ _ e => .inl e, ?_, fun i ov e => ?_, fun i a ⟨ov, e, w, _⟩ => ?_, fun i a ov e w _ _ => ?_, fun i j a ⟨ov, e, w, _⟩ _ => ?_, fun i ov e w => ?_⟩
  · unfold lamEnvOf
    simp [hl]
  · obtain ⟨x, u, rfl, h1, h2⟩ := look i ov e
    exact ⟨u, h1, h2⟩
  · obtain ⟨x, u, rfl, _, _⟩ := look i ov e; cases w
  · obtain ⟨x, u, rfl, _, _⟩ := look i ov e; cases w
  · obtain ⟨x, u, rfl, _, _⟩ := look i ov e; cases w
  · obtain ⟨x, u, rfl, _, _⟩ := look i ov e; cases w
/-- what a call of the function in slot i does -/
def Acts (Z : Cx) (a : Str) (i : Nat) (F : FnI) (g : List Opd → Option Res) : Prop := ∀ {e : Expr} {p1 p2 : Pos} {fa : Ev (List Opd)}, PA Z [e] (tA Z.K fa) → (starEach [e] Z.env = (false, eval e Z.env) :: starEach [] Z.env) → PE Z (.Call (.Name a p1) [e] [] p2) (tR Z.K (callF i F g fa))
theorem acts {CXg : CXT} {Eg : XK} {Ng : List Str} {qg : Str} {sg : Scope} {g : Addr} {cdg pm ctv : Value} {params : Arguments} {body : Expr} {scope : Scope} {k i : Nat} {a a' : Str} {F : FnI} {fb : Ev Res} (I : Inv X pins σ H s) (L : LamP X.env.scope scope a') (hna : a' ∉ X.N)
    (hf : s.heap.get? F.f = some (PySem.W.kla_obj "<lambda>" (X.env.qual ++ "<lambda>") params body scope (cloFrom X.env.cells scope.names []) pm F.c ctv)) (hfn : H F.f = none) (hfr : F.f ∉ frs X.stack) (hq : F.q = X.env.qual ++ "<lambda>") (hσ : F.σ = σ) (hds : F.ds.length = σ.length)
    (hbind : ∀ u : Value, bindArgs (PySem.W.kla_fn "<lambda>" (X.env.qual ++ "<lambda>") params body scope (cloFrom X.env.cells scope.names []) pm (.ref F.c) ctv) ⟨[u], []⟩ = pure [(a', u)])
    (hgd : X.A.guards = some []) (hr : Room (k + 1) (X.A.deeper (envOfC qg sg s.heap.objs.size g cdg)))
    (hbody : ∀ (A : Around) (outer : List PySem.Env) (s : Shared) (H : Hp), A.guards = some [] → Room k (A.deeper (lamE X scope s.heap.objs.size F.f F.c)) → PE (lamC X a' A outer s H scope F.f F.c) body (tR X.K fb))
    (hN : Ng[i]? = some a) (hv : Vis sg a) (hd : (a == ("__debug__" : Str)) = false := by decide) (hcd : (a == ("__classdict__" : Str)) = false := by decide) :
    Acts (cxOf CXg X.prog X.w X.K X.mg X.base Ng qg sg g cdg X.A X.stack s H Eg).nox a i F (lamG fb F.ds) := by
  intro e p1 p2 fa ha he
  refine ⟨fun pinsZ sZ σZ HZ Q IZ h => ?_⟩
  obtain ⟨E, B, env, res, env', r, ef, kk⟩ := h
  unfold callF at ef
  by_cases hi : env[i]? = some (some (.fn F))
  case neg => rw [if_neg hi] at ef; cases ef
  rw [if_pos hi] at ef
  obtain ⟨q, e1, ef⟩ := bindS ef
  by_cases hi2 : q.2[i]? = some (some (.fn F))
  case neg => rw [if_neg hi2] at ef; cases ef
  rw [if_pos hi2] at ef
  obtain ⟨rs, e2, ef⟩ := bindS ef
  cases ef
  obtain ⟨v0, hs, hv0, _⟩ := r.slot i _ hi
  subst hv0
  refine wpAny_Call_Name_kw (thn ((pe_var (pos := p1) (i := i) hN hv hd hcd).run pinsZ sZ σZ HZ (fun v H1 => v = .ref F.f ∧ H1 = HZ) IZ ⟨.ref F.f, hs, rfl, rfl⟩) fun u s1 ⟨v, H1, I1, r1, q1⟩ => ?_)
  obtain ⟨ev, eH⟩ := q1
  subst ev
  rw [eH] at I1
  obtain rfl : u = Value.ref F.f := r1
  have keepF : ∀ {s2 : Shared} {H2 : Hp} {ps : List (Addr × Obj)}, Inv (cxOf CXg X.prog X.w X.K X.mg X.base Ng qg sg g cdg X.A X.stack s H Eg).nox ps σZ H2 s2 → s2.heap.get? F.f = some (PySem.W.kla_obj "<lambda>" (X.env.qual ++ "<lambda>") params body scope (cloFrom X.env.cells scope.names []) pm F.c ctv) :=
    fun {s2 H2 ps} J => J.base.keep F.f _ hf hfn hfr (fun z => nomatch (show F.f ∈ ([] : List Addr) from z))
  refine PySem.W.callWith_F (q := F.f) ⟨_, _, _, _, keepF I1⟩ ?_ he
  refine thn (ha.run p2 pinsZ s1 σZ HZ (fun vs H2 => ∃ B2, RR X.K E B2 H2 σZ q.2 ∧ Sub B B2 ∧ OpVs X.K B2 σZ q.1 vs) I1 ⟨E, B, env, q.1, q.2, r, e1, fun vs B2 H2 r2 s2 z => ⟨B2, r2, s2, z⟩⟩) fun us s2 ⟨vs, H2, I2, rus, B2, r2, sB, z⟩ => ?_
  have of2 := keepF I2
  refine ⟨⟨_, _, _, _, of2⟩, ?_⟩
  -- the argument
  have hex : ∃ d x p, q.1 = [Opd.v d] ∧ res = Res.d x ∧ fb (lamEnvOf F.ds d) = some p ∧ p.1 = .d x := by
    unfold lamG at e2
    split at e2
    · rename_i d hq1
      obtain ⟨p, f1, f2⟩ := bindS e2
      split at f2
      · rename_i x hx
        cases f2
        exact ⟨d, x, p, hq1, rfl, f1, hx⟩
      · cases f2
    · cases e2
  obtain ⟨d, x, p, hq1, hrs, f1, f2⟩ := hex
  subst hrs
  rw [hq1] at z
  obtain ⟨v1, rest, ez, z1, z2⟩ := z
  have z2 : rest = [] := z2
  subst z2
  subst ez
  obtain ⟨u1, ru, hu1⟩ : ∃ u1, RelV v1 u1 ∧ us = [u1] := by
    obtain ⟨u, e3, r3⟩ := rus.one
    exact ⟨u, r3, e3⟩
  subst hu1
  obtain ⟨v2, hs2, _, hold⟩ := r2.slot i _ hi2
  have hco : H2 F.c = some (LamX.CodeO F.c F.q) := hold.1
  obtain ⟨⟨oc, cvs, t, hoc, hdc, hvc⟩, _, _⟩ := I2.hok F.c _ hco
  have un : Un (frs X.stack) [] H H2 s.heap s2.heap := I2.base
  have hσl : σ.length = F.ds.length := hds.symm
  have rc : codeAny (model X.prog X.w) (X.A.deeper (envOfC qg sg s.heap.objs.size g cdg)) (.call (.ref F.f) ⟨[u1], []⟩) (CR CX0 (envOfC qg sg s.heap.objs.size g cdg :: X.stack) X.prog X.w H2 s2 Q E0) s2 := by
    refine PySem.W.kla_callFunE hr.depth of2 rfl L.co L.gen rfl ⟨F.c, oc, cvs, t, rfl, hoc, hdc, by rw [← hq]; exact hvc⟩ ?_
    rw [hbind]
    have hpar : ∀ y ∈ ([(a', u1)] : List (Str × Value)), scope.names.lookup y.1 = some .local := fun y hy => by
      have hy' : y = (a', u1) := by simpa using hy
      rw [hy']
      exact L.par
    refine wpAny_pure (wpAny_newFunctionEnv (fun y hy => L.nocell y hy) hpar (fun h₁ hns hsb => ⟨I2.nolimit.fresh _ hsb, ?_⟩) L.kind)
    show codeAny _ _ (.expr body (lamE X scope s2.heap.objs.size F.f F.c)) _ _
    have kp : ∀ b o, s2.heap.get? b = some o → h₁.get? b = some o := fun b o e => hsb.extBut b o (Nat.ne_of_lt (Heap.lt_size e)) (Heap.get?_push_of_some _ e)
    have J : Inv (lamC X a' (X.A.deeper (envOfC qg sg s.heap.objs.size g cdg)) (envOfC qg sg s.heap.objs.size g cdg :: X.stack) s2 H2 scope F.f F.c) [] (σ ++ [some v1]) H2 { s2 with heap := h₁, toks := s2.toks + ([(a', u1)] : List (Str × Value)).length } :=
      lam_entry I L hna ru I2.env0 hr.hd un hns kp
    refine PySem.W.kla_codeExpr (wpAny_mono ((hbody (X.A.deeper (envOfC qg sg s.heap.objs.size g cdg)) _ s2 H2 hgd (hr.deeper _)).run [] _ _ H2 Q J ?_) (fun v s' hq => ?_) fun e s' hq => False.elim hq)
    · rw [← hσ]
      refine ⟨entT H2 B2 (F.σ ++ [some v1]), B2, lamEnvOf F.ds d, p.1, p.2, rrL r2.bh r2.tb (by rw [hσ]; exact hσl) hold.2 z1, f1, fun v B3 H3 r3 s3 z3 => ?_⟩
      rw [f2] at z3
      exact kk v B3 H3 (r2.growC r3.growT) (sB.tr r3.b0) z3
    · obtain ⟨w', H', J', rv, q⟩ := hq
      exact ⟨w', H', J'.os, J'.bare, J'.base, J'.hok, rv, q⟩
  refine wpAny_call (codeAny_mono rc fun r s' hq => ?_)
  cases r with
  | error e => exact False.elim hq
  | ok fl =>
    cases fl with
    | ret u => exact I2.after hq
    | next => exact False.elim hq
    | brk => exact False.elim hq
    | cont => exact False.elim hq
end

/-! ### a def whose first argument is a function -/
theorem rrF {K : PySem.W.Frag} {B H : Hp} {N : List Str} {avs : List Opd} {vs : List V} {F : FnI} (s : Sub B H) (tb : TabsK K B H) (hl : avs.length + 1 ≤ N.length) (h : OpVs K B [] avs vs) (hold : FnHold B H F) :
    RR K (entT H B (L2.start N (.ref F.f :: vs))) B H (L2.start N (.ref F.f :: vs)) (some (.fn F) :: envOf (N.length - 1) avs) := by
  have hvl := opvs_len h
  have look : ∀ (i : Nat) (ov : OV), (some (OV.fn F) :: envOf (N.length - 1) avs)[i]? = some (some ov) → (i = 0 ∧ ov = .fn F) ∨ ∃ j a, i = j + 1 ∧ avs[j]? = some a ∧ argOv a = some ov := fun i ov e => by
    cases i with
    | zero => simp at e; exact .inl ⟨rfl, e.symm⟩
    | succ j =>
      obtain ⟨x, e1, e2⟩ := envOf_get (show (envOf (N.length - 1) avs)[j]? = _ by simpa using e)
      exact .inr ⟨j, x, rfl, e1, e2⟩
  have plain : ∀ (i : Nat) (ov : OV), (some (OV.fn F) :: envOf (N.length - 1) avs)[i]? = some (some ov) → ov.owned = false ∧ ov.io = false := fun i ov e => by
    rcases look i ov e with ⟨_, rfl⟩ | ⟨j, a, _, _, e2⟩
    · exact ⟨rfl, rfl⟩
    · exact argOv_plain e2
  refine ⟨s, Sub.rfl', fun _ z => z, fun _ _ e _ _ => e, tb, fun _ e => e, fun _ _ e => .inl e, ?_, fun i ov e => ?_, fun i a ⟨ov, e, w, _⟩ => ?_, fun i a ov e w _ _ => ?_, fun i j a ⟨ov, e, w, _⟩ _ => ?_, fun i ov e w => ?_⟩
  · unfold L2.start envOf
    simp [hvl]
    omega
  · rcases look i ov e with ⟨rfl, rfl⟩ | ⟨j, a, rfl, e1, e2⟩
    · exact ⟨_, start_of (by simp), rfl, hold⟩
    · obtain ⟨u, h1, h2⟩ := opvs_get h e1
      refine ⟨u, start_of (by simpa using h1), ?_⟩
      cases a with
      | v d => cases e2; exact h2
      | s ns => cases e2; exact h2
      | r i => cases e2
  · rw [(plain i ov e).1] at w; cases w
  · rw [(plain i ov e).1] at w; cases w
  · rw [(plain i ov e).1] at w; cases w
  · rw [(plain i ov e).2] at w; cases w
/-- a def whose first argument is a function, called by its name: its body, whatever the function does -/
structure CalleeF (P : Program) (w : World) (K : PySem.W.Frag) (mg : Str → Option Value) (base : Heap) (x : Str) (k : Nat) (a : Str) (ps : List Str) (n : Nat) (b : FnI → (List Opd → Option Res) → Es) : Prop where
  ex : ∃ (f : Addr) (st : Stmt) (N : List Str) (oc : Value) (od : Option Addr) (kV doc pm : Value) (an : Option Addr) (cdv ct : Value) (osl : Array (Option Value)),
    K.lookup f = some ⟨oc, od, .func (PySem.W.fnOf x x (defArgs st) (defBody st) (defScope st) .none kV doc pm an cdv ct), osl⟩ ∧ PySem.W.codeIn K cdv x = true ∧ mg x = some (.ref f) ∧ PySem.W.keepIn K (.ref f) = true ∧
      Binds K (PySem.W.fnOf x x (defArgs st) (defBody st) (defScope st) .none kV doc pm an cdv ct) (a :: ps) [] ∧ FnScope N (a :: ps) (defScope st) ∧ N.length = n ∧ N[0]? = some a ∧ Vis (defScope st) a ∧ ps.length + 1 ≤ n ∧
      ∀ (F : FnI) (g : List Opd → Option Res) (A : Around) (outer : List PySem.Env) (s : Shared) (H : Hp), A.guards = some [] → Room k (A.deeper (envOfC x (defScope st) s.heap.objs.size f cdv)) → Acts (cxOf CX0 P w K mg base N x (defScope st) f cdv A outer s H E0).nox a 0 F g →
        PSs (cxOf CX0 P w K mg base N x (defScope st) f cdv A outer s H E0).nox (defBody st) (tS K (b F g))
theorem DefAt.f {P : Program} {w : World} {K : PySem.W.Frag} {mg : Str → Option Value} {base : Heap} {x a : Str} {st : Stmt} {N ps : List Str} {k : Nat} {b : FnI → (List Opd → Option Res) → Es} (D : DefAt K mg x st (a :: ps)) (S : FnScope N (a :: ps) (defScope st)) (hv : Vis (defScope st) a) (h0 : N[0]? = some a) (hnl : ps.length + 1 ≤ N.length)
    (hb : ∀ (f : Addr) (cdv : Value) (F : FnI) (g : List Opd → Option Res) (A : Around) (outer : List PySem.Env) (s : Shared) (H : Hp), A.guards = some [] → Room k (A.deeper (envOfC x (defScope st) s.heap.objs.size f cdv)) → Acts (cxOf CX0 P w K mg base N x (defScope st) f cdv A outer s H E0).nox a 0 F g →
      PSs (cxOf CX0 P w K mg base N x (defScope st) f cdv A outer s H E0).nox (defBody st) (tS K (b F g))) : CalleeF P w K mg base x k a ps N.length b := by
  obtain ⟨f, fd, F, hm, hbi⟩ := D.ex
  have kp := F.kp
  obtain ⟨oc, od, kV, doc, pm, an, cdv, ct, osl, rfl, lk, hcd⟩ := F.ex
  exact ⟨f, st, N, oc, od, kV, doc, pm, an, cdv, ct, osl, lk, hcd, hm, kp, hbi, S, rfl, h0, hv, hnl, hb f cdv⟩
/-- all makers' tables, with the names of their lambdas -/
def allT (K : PySem.W.Frag) : List (Addr × Str) := lamNames.filterMap fun x => (PySem.W.tabIn K x).map fun p => (p.2, lamQ x)
theorem allT_mem {K : PySem.W.Frag} {x : Str} {c P : Addr} (hx : x ∈ lamNames) (h : PySem.W.tabIn K x = some (c, P)) : (P, lamQ x) ∈ allT K := by
  unfold allT
  rw [List.mem_filterMap]
  exact ⟨x, hx, by rw [h]; rfl⟩
theorem allT_of {K : PySem.W.Frag} {p : Addr × Str} (h : p ∈ allT K) : ∃ x c, x ∈ lamNames ∧ PySem.W.tabIn K x = some (c, p.1) ∧ p.2 = lamQ x := by
  unfold allT at h
  rw [List.mem_filterMap] at h
  obtain ⟨x, hx, e⟩ := h
  cases q : PySem.W.tabIn K x with
  | none => rw [q] at e; cases e
  | some cp =>
    rw [q] at e
    cases e
    exact ⟨x, cp.1, hx, q, rfl⟩
/-- the making of a lambda: what has changed -/
def Made (P c' : Addr) (q : Str) (H H1 : Hp) : Prop := H1 = H ∨ ∃ (ps more : Array Value), H P = some (.tbl ps) ∧ H c' = none ∧ H1 = upd (upd H P (.tbl (ps ++ more))) c' (LamX.CodeO c' q)
theorem lam_make {X : Cx} {pins : List (Addr × Obj)} {σ : L2.St} {H : Hp} {s : Shared} {c P : Addr} {params : Arguments} {body : Expr} {scope : Scope} {pos : Pos} {E : Value → Shared → Prop} {Q : Value → Shared → Prop} (I : Inv X pins σ H s) (TB : LamX.TabB X.base X.mg c P) (hcode : X.env.code = .ref c)
    (hT : LamX.TabS H P (X.env.qual ++ "<lambda>")) (hdef : defaultsOf params X.env = ([], [])) (hfree : ∀ y ∈ scope.names, y.2 = .free → ∃ c, X.env.cells.lookup y.1 = some c)
    (h : ∀ (f c' : Addr) (pm ctv : Value) (H1 : Hp) (s' : Shared), Inv X pins σ H1 s' → Made P c' (X.env.qual ++ "<lambda>") H H1 → LamX.TabS H1 P (X.env.qual ++ "<lambda>") →
      s'.heap.get? f = some (PySem.W.kla_obj "<lambda>" (X.env.qual ++ "<lambda>") params body scope (cloFrom X.env.cells scope.names []) pm c' ctv) → H1 f = none → f ∉ frs X.stack → H1 c' = some (LamX.CodeO c' (X.env.qual ++ "<lambda>")) → Q (.ref f) s') :
    wpAny (model X.prog X.w) X.A (eval (.Lambda params body scope pos) X.env) Q E s := by
  obtain ⟨ps, hP, ht, ha⟩ := hT
  refine PySem.W.kla_eval hdef ?_
  have bP : s.heap.BuiltinsAt X.mg P := TB.bm.keeps I.bk
  have oP : s.heap.get? P = some { cls := .none, data := .fields ps } := I.hok P _ hP
  have new : ∀ f, s.heap.objs.size ≤ f → f ∉ frs X.stack := fun f hf z => by
    rcases List.mem_cons.mp (I.stkSub _ z) with e | e
    · have q := I.lt
      rw [← e] at q
      exact Nat.lt_irrefl _ (Nat.lt_of_lt_of_le q hf)
    · exact I.nofs hf e
  cases hc : codeAmong pos ps.toList with
  | some cv =>
    obtain ⟨c', e, hco⟩ := ha pos cv hc
    subst e
    refine PySem.W.kla_makeFunctionHit (mg := X.mg) (c := c) (P := P) (ps := ps) (closure_ok hfree) I.ok.glob (I.mod.glob.keeps I.bk) hcode (TB.code.keeps I.bk) oP ht hc bP fun ctv h' tk hx hsz => ?_
    have J : Inv X pins σ H { s with heap := h'.push (PySem.W.kla_obj "<lambda>" (X.env.qual ++ "<lambda>") params body scope (cloFrom X.env.cells scope.names []) ((X.mg "__name__").getD .none) c' ctv), toks := tk } := I.kept fun b o e => Heap.get?_push_of_some _ (hx b o e)
    exact h _ c' _ ctv H _ J (.inl rfl) ⟨ps, hP, ht, ha⟩ (Heap.get?_push_size _ rfl) (I.hok.fresh hsz) (new _ hsz) hco
  | none =>
    refine PySem.W.kla_makeFunction (mg := X.mg) (c := c) (P := P) (ps := ps) (closure_ok hfree) I.ok.glob (I.mod.glob.keeps I.bk) hcode (TB.code.keeps I.bk) oP ht hc TB.gP bP fun c' ctv h' tk hx hge hlt hrec htb => ?_
    obtain ⟨c2, oc, vs, t, e2, hoc, hd, hv⟩ := hrec
    cases e2
    have nC : H c' = none := I.hok.fresh hge
    have hsz : s.heap.objs.size ≤ h'.objs.size := Nat.le_trans hge (Nat.le_of_lt hlt)
    have nPc : P ≠ c' := ne_of_none hP nC
    have J := LamX.inv_table (t' := tk) (more := #[rawInt pos.line, rawInt pos.col, .ref c']) (h' := h'.push (PySem.W.kla_obj "<lambda>" (X.env.qual ++ "<lambda>") params body scope (cloFrom X.env.cells scope.names []) ((X.mg "__name__").getD .none) c' ctv)) I hP
      (fun b o hb e => Heap.get?_push_of_some _ (hx b o hb e)) (Heap.get?_push_of_some _ htb) hge ⟨oc, vs, t, Heap.get?_push_of_some _ hoc, hd, hv⟩
    have eL : (ps ++ #[rawInt pos.line, rawInt pos.col, .ref c']).toList = ps.toList ++ [rawInt pos.line, rawInt pos.col, .ref c'] := by simp
    refine h _ c' _ ctv _ _ J (.inr ⟨ps, _, hP, nC, rfl⟩) ⟨_, by rw [upd_ne nPc, upd_same], by rw [eL]; exact PySem.TriplesOk_snoc _ _ _ _ ht, fun p' cv hcv => ?_⟩ (Heap.get?_push_size _ rfl) ?_ (new _ hsz) upd_same
    · rw [eL] at hcv
      rcases LamX.among_app _ ht hcv with z | z
      · obtain ⟨c0, e1, e2⟩ := ha p' cv z
        refine ⟨c0, e1, ?_⟩
        rw [upd_ne (ne_of_none e2 nC), upd_ne (fun z => by rw [z, hP] at e2; have := Option.some.inj e2; unfold LamX.CodeO at this; cases this)]
        exact e2
      · exact ⟨c', z, upd_same⟩
    · have n1 : h'.objs.size ≠ c' := Nat.ne_of_gt hlt
      have n2 : h'.objs.size ≠ P := Nat.ne_of_gt (Nat.lt_of_lt_of_le (Heap.lt_size oP) hsz)
      rw [upd_ne n1, upd_ne n2]
      exact I.hok.fresh hsz
theorem Made.keep {P c' : Addr} {q : Str} {H H1 : Hp} (m : Made P c' q H H1) : ∀ b o, H b = some o → (∀ ps, o ≠ .tbl ps) → H1 b = some o := fun b o e n => by
  rcases m with rfl | ⟨ps, more, hP, nC, rfl⟩
  · exact e
  · rw [upd_ne (ne_of_none e nC), upd_ne (fun z => by rw [z, hP] at e; exact n ps (Option.some.inj e).symm)]
    exact e
theorem Made.other {P c' : Addr} {q : Str} {H H1 : Hp} (m : Made P c' q H H1) : ∀ b o, H b = some o → b ≠ P → H1 b = some o := fun b o e n => by
  rcases m with rfl | ⟨ps, more, hP, nC, rfl⟩
  · exact e
  · rw [upd_ne (ne_of_none e nC), upd_ne n]
    exact e
theorem Made.dom {P c' : Addr} {q : Str} {H H1 : Hp} (m : Made P c' q H H1) : ∀ b, H b ≠ none → H1 b ≠ none := fun b e => by
  rcases m with rfl | ⟨ps, more, hP, nC, rfl⟩
  · exact e
  · by_cases h1 : b = c'
    · subst h1; rw [upd_same]; simp
    · rw [upd_ne h1]
      by_cases h2 : b = P
      · subst h2; rw [upd_same]; simp
      · rw [upd_ne h2]; exact e
/-- x(lambda a': body, ..), in a def y that makes it -/
theorem e_lam {X : Cx} {x y a a' : Str} {k j m n na : Nat} {ps : List Str} {b : FnI → (List Opd → Option Res) → Es} {fb : Ev Res} {fa : Ev (List Opd)} {params : Arguments} {body : Expr} {scope : Scope} {es : List Expr} {p lpos pos : Pos} {c Pt : Addr} (C : CalleeF X.prog X.w X.K X.mg X.base x k a ps n b) (M : MakersOk X.K X.mg X.base) (hy : y ∈ lamNames) (ht : PySem.W.tabIn X.K y = some (c, Pt))
    (hqual : X.env.qual ++ "<lambda>" = lamQ y) (hcode : X.env.code = .ref c) (hgd : X.A.guards = some []) (hr : Room m X.A) (hkm : k + 1 ≤ m) (hjk : j + 1 ≤ k) (hg : Gl X x) (L : LamP X.env.scope scope a') (hna : a' ∉ X.N) (hdef : defaultsOf params X.env = ([], []))
    (hbind : ∀ (q : Str) (cl : List (Str × Addr)) (pm cv ctv u : Value), bindArgs (PySem.W.kla_fn "<lambda>" q params body scope cl pm cv ctv) ⟨[u], []⟩ = pure [(a', u)])
    (hbody : ∀ (A : Around) (outer : List PySem.Env) (s : Shared) (H : Hp) (f c' : Addr), A.guards = some [] → Room j (A.deeper (lamE X scope s.heap.objs.size f c')) → PE (lamC X a' A outer s H scope f c') body (tR X.K fb))
    (ha : PA X es (tA X.K fa)) (hs : starEach (.Lambda params body scope lpos :: es) X.env = (false, eval (.Lambda params body scope lpos) X.env) :: starEach es X.env := by rfl) (hpl : (backTo pos (starEach es X.env)).any (·.1) = false := by rfl)
    (hpn : ps.length = na := by rfl) (hdb : (x == ("__debug__" : Str)) = false := by decide) (hd : (a == ("__debug__" : Str)) = false := by decide) (hcd : (a == ("__classdict__" : Str)) = false := by decide) :
    PE X (.Call (.Name x p) (.Lambda params body scope lpos :: es) [] pos) (tR X.K (callL n na b fb fa)) := by
  refine ⟨fun pins s σ H Q I h => ?_⟩
  obtain ⟨E, B, env, res, env', r, ef, kk⟩ := h
  obtain ⟨q, e1, ef⟩ := bindS ef
  obtain ⟨hn, ef⟩ := guardS ef
  rw [Bool.and_eq_true] at hn
  obtain ⟨hn, hl⟩ := hn
  have hl : q.1.length = na := by simpa using hl
  by_cases hex : ∃ res, ∀ F : FnI, F.ds = capsOf q.2 → runF n F (b F (lamG fb F.ds)) q.1 = some res
  case neg => rw [dif_neg hex] at ef; cases ef
  rw [dif_pos hex] at ef
  have hres := Classical.choose_spec hex
  revert ef hres
  generalize Classical.choose hex = rs
  intro ef hres
  cases ef
  obtain ⟨g, st, Ng, oc, od, kV, doc, pm, an, cdv, ct, osl, lk, hcg, hm, hk, hb, Sg, hNn, hN0, hvis, hps, hG⟩ := C.ex
  have isT : isTab X.K Pt := ⟨y, hy, c, ht⟩
  refine wpAny_Call_Name_kw (ld_glob I hg hm ?_ hdb)
  refine PySem.W.callWith_K (h₀ := X.base) I.ok.mod.kin hk ?_ hs hpl
  rw [hs]
  show wpAny _ _ (spliced ((false, eval (.Lambda params body scope lpos) X.env) :: backTo pos (starEach es X.env))) _ _ s
  refine Calls.spliced_cons (lam_make I (M.tb y c Pt hy ht) hcode (by rw [hqual]; exact r.tb.tab y Pt ⟨hy, c, ht⟩) hdef (fun z hz e => (L.free z hz e).elim (fun k => I.ok.has _ (.inl k)) fun k => I.ok.has _ (.inr k)) fun f c' pm' ctv H1 s1 I1 md T1 hf hfn hfr hco => ?_)
  -- the frame behind the making
  have bh1 : Sub B H1 := fun b o e => md.other b o (r.bh b o e) fun z => by
    rw [z, r.tb.off Pt isT] at e
    cases e
  have tb1 : TabsK X.K B H1 := ⟨fun z P e => by
    by_cases hz : P = Pt
    · subst hz
      obtain ⟨hz, c0, hc0⟩ := e
      rw [M.ap z y c0 c P hz hy hc0 ht, ← hqual]
      exact T1
    · obtain ⟨ps, q1, q2, q3⟩ := r.tb.tab z P e
      refine ⟨ps, md.other P _ q1 hz, q2, fun pos cv hcv => ?_⟩
      obtain ⟨c0, w1, w2⟩ := q3 pos cv hcv
      exact ⟨c0, w1, md.keep c0 _ w2 codeO_nt⟩, r.tb.off⟩
  have r1 : RR X.K E B H1 σ env := r.growC ⟨Sub.rfl', md.keep, md.dom, bh1, fun _ _ h => .inl h, tb1⟩
  -- the other arguments, the new function being held
  obtain ⟨m0, ⟨ol, es0, ep0, hol, hdl, _⟩, _⟩ := id I1.loc
  have neL : f ≠ X.env.locals := fun z => by
    rw [z, hol] at hf
    cases hf
    cases hdl
  have nfs : f ∉ X.fs := fun z => hfr (by
    rcases I1.ok.stk with e | ⟨e, hfm⟩
    · rw [e]; exact z
    · rw [e]
      show f ∈ frs (X.env :: X.outer)
      unfold frs
      rw [List.filterMap_cons, hfm]
      exact List.mem_cons_of_mem _ z)
  have I1p : Inv X ((f, PySem.W.kla_obj "<lambda>" (X.env.qual ++ "<lambda>") params body scope (cloFrom X.env.cells scope.names []) pm' c' ctv) :: pins) σ H1 s1 := I1.pins_of fun pr hpr => by
    rcases List.mem_cons.mp hpr with h2 | h2
    · subst h2
      exact ⟨hf, hfn, neL, nfs, fun v z => by cases z⟩
    · exact I1.pin pr (List.mem_append_right _ h2)
  refine thn (ha.run pos _ s1 σ H1 (fun vs H2 => ∃ B2, RR X.K (loc B H1 σ env) B2 H2 σ q.2 ∧ OpVs X.K B2 σ q.1 vs) I1p ⟨loc B H1 σ env, B, env, q.1, q.2, r1.loc, e1, fun vs B2 H2 r2 s2 z => ⟨B2, r2, z⟩⟩) fun us s2 ⟨vs, H2, I2, rus, B2, r2, z⟩ => ?_
  obtain ⟨hf2, hfn2, _, _, _⟩ := I2.pin (f, PySem.W.kla_obj "<lambda>" (X.env.qual ++ "<lambda>") params body scope (cloFrom X.env.cells scope.names []) pm' c' ctv) (List.mem_append_right _ List.mem_cons_self)
  have I3 : Inv X pins σ H2 s2 := I2.pins_of fun pr hpr => I2.pin pr (List.mem_append_right _ (List.mem_cons_of_mem _ hpr))
  have hco2 : H2 c' = some (LamX.CodeO c' (X.env.qual ++ "<lambda>")) := r2.keep c' _ hco (fun ⟨i, ov, w1, w2, w3⟩ => by
    obtain ⟨a1, o1, v1, v2, v3, _⟩ := r1.owns w1 w2
    rw [w3] at v1
    cases v1
    rw [hco] at v2
    cases v2
    exact v3.next) codeO_nt
  have hqlen := r2.len
  have hold : FnHold B2 H2 ⟨f, c', X.env.qual ++ "<lambda>", σ, capsOf q.2⟩ := ⟨hco2, fun i d e => by
    have e : (q.2.map capOf)[i]? = some (some d) := e
    rw [List.getElem?_map] at e
    cases hq : q.2[i]? with
    | none => rw [hq] at e; cases e
    | some o =>
      rw [hq] at e
      have e' : capOf o = some d := by simpa using e
      cases o with
      | none => cases e'
      | some ov =>
        cases ov with
        | fz d' =>
          cases e'
          obtain ⟨u, h1, h2⟩ := r2.slot i _ hq
          exact ⟨u, h1, h2⟩
        | fn _ => cases e'
        | scr _ => cases e'
        | ol _ _ => cases e'
        | od _ _ => cases e'⟩
  have hrun := hres ⟨f, c', X.env.qual ++ "<lambda>", σ, capsOf q.2⟩ rfl
  generalize hF : (⟨f, c', X.env.qual ++ "<lambda>", σ, capsOf q.2⟩ : FnI) = F at hold hrun
  have eF1 : F.f = f := by rw [← hF]
  have eF2 : F.c = c' := by rw [← hF]
  have eF3 : F.q = X.env.qual ++ "<lambda>" := by rw [← hF]
  have eF4 : F.σ = σ := by rw [← hF]
  have eF5 : F.ds = capsOf q.2 := by rw [← hF]
  obtain ⟨pb, f1, f2⟩ := bindS hrun
  have act : Acts (cxOf CX0 X.prog X.w X.K X.mg X.base Ng x (defScope st) g cdv X.A X.stack s2 H2 E0).nox a 0 F (lamG fb F.ds) :=
    acts (k := j) I3 L hna (by rw [eF1, eF2]; exact hf2) (by rw [eF1]; exact hfn2) (by rw [eF1]; exact hfr) eF3 eF4 (by rw [eF5]; unfold capsOf; rw [List.length_map, ← hqlen]) (fun u => hbind _ _ _ _ _ u) hgd (((hr.mono hkm).deeper _).mono hjk) (fun A outer s H hg' hr' => hbody A outer s H F.f F.c hg' hr') hN0 hvis hd hcd
  have body' := hG F (lamG fb F.ds) X.A X.stack s2 H2 hgd ((hr.mono hkm).deeper _) act
  have hvl := opvs_len z
  have hul := rus.length
  have hpl : q.1.length = ps.length := by omega
  have rc : codeAny (model X.prog X.w) X.A (.call (.ref g) ⟨.ref f :: us, []⟩) (CR CX0 X.stack X.prog X.w H2 s2 Q E0) s2 := by
    refine LamX.run_ofS (N := Ng) (ps := a :: ps) (us := .ref f :: us) (vs := .ref f :: vs) lk hcg Sg (hr.mono hkm) I3.env0 ?_ (.cons rfl rus) (by simp; omega) fun hr' => ⟨_, body'.nox, ?_⟩
    · have q := hb s2 (.ref f :: us) I3.kIn (by simp; omega)
      rw [List.append_nil] at q
      exact q
    · rw [← hNn] at f1
      refine ⟨entT H2 B2 (L2.start Ng (.ref f :: vs)), B2, _, pb.1, pb.2, by rw [← eF1]; exact rrF r2.bh r2.tb (by rw [hNn]; omega) (opvs_any hn z) hold, f1, ?_⟩
      have r3 := r1.comp r2
      cases hp : pb.1 with
      | nx =>
        rw [hp] at f2
        cases f2
        exact fun σ' B' H' r' s' => kk .non B' H' (r3.growC r'.growT) (r2.b0.tr s') (show Rep _ _ _ from .non)
      | bk => rw [hp] at f2; cases f2
      | ct => rw [hp] at f2; cases f2
      | rt rr =>
        rw [hp] at f2
        cases f2
        exact fun v σ' B' H' r' s' zz => kk v B' H' (r3.growC r'.growT) (r2.b0.tr s') (zz.newT.res r3)
  refine ⟨I3.kIn, ?_⟩
  refine wpAny_call (codeAny_mono rc fun r s' hq => ?_)
  cases r with
  | error e => exact False.elim hq
  | ok fl =>
    cases fl with
    | ret u => exact I3.after hq
    | next => exact False.elim hq
    | brk => exact False.elim hq
    | cont => exact False.elim hq
end NS

set_option Elab.async false
set_option linter.all false
set_option maxRecDepth 100000
set_option maxHeartbeats 4000000
/-! NsK: a lambda of one parameter handed to a def as the second of two arguments. -/
namespace NS
open PySem L2 PyProof.Rows NT
variable [W : NT.Wd]
def env2 (n : Nat) (F : FnI) (d : D) : Env := some (.fz d) :: some (.fn F) :: List.replicate (n - 2) none
/-- a def whose second argument is a function -/
def runF2 (n : Nat) (F : FnI) (body : Es) (d : D) : Option Res := (body (env2 n F d)).bind fun p => resOfFl p.1
open Classical in
/-- f(x, lambda p: ..) -/
noncomputable def callL2 (n : Nat) (body : FnI → (List Opd → Option Res) → Es) (fb : Ev Res) (fe : Ev Opd) : Ev Res := fun env => (fe env).bind fun p => match p.1 with
  | .v d => (if h : ∃ res, ∀ F : FnI, F.ds = capsOf p.2 → runF2 n F (body F (lamG fb F.ds)) d = some res then some (Classical.choose h, p.2) else none)
  | _ => none
theorem rrF2 {K : PySem.W.Frag} {B H : Hp} {N : List Str} {d : D} {v : V} {F : FnI} (s : Sub B H) (tb : TabsK K B H) (hl : 2 ≤ N.length) (h : Rep B v d) (hold : FnHold B H F) :
    RR K (entT H B (L2.start N [v, .ref F.f])) B H (L2.start N [v, .ref F.f]) (env2 N.length F d) := by
  have look : ∀ (i : Nat) (ov : OV), (env2 N.length F d)[i]? = some (some ov) → (i = 0 ∧ ov = .fz d) ∨ (i = 1 ∧ ov = .fn F) := fun i ov e => by
    unfold env2 at e
    match i with
    | 0 => simp at e; exact .inl ⟨rfl, e.symm⟩
    | 1 => simp at e; exact .inr ⟨rfl, e.symm⟩
    | j + 2 =>
      simp only [List.getElem?_cons_succ] at e
      rw [List.getElem?_replicate] at e
      split at e <;> simp at e
  have plain : ∀ (i : Nat) (ov : OV), (env2 N.length F d)[i]? = some (some ov) → ov.owned = false ∧ ov.io = false := fun i ov e => by
    rcases look i ov e with ⟨_, rfl⟩ | ⟨_, rfl⟩
    · exact ⟨rfl, rfl⟩
    · exact ⟨rfl, rfl⟩
  refine ⟨s, Sub.rfl', fun _ z => z, fun _ _ e _ _ => e, tb, fun _ e => e, fun _ _ e => .inl e, ?_, fun i ov e => ?_, fun i a ⟨ov, e, w, _⟩ => ?_, fun i a ov e w _ _ => ?_, fun i j a ⟨ov, e, w, _⟩ _ => ?_, fun i ov e w => ?_⟩
  · unfold L2.start env2
    simp
  · rcases look i ov e with ⟨rfl, rfl⟩ | ⟨rfl, rfl⟩
    · exact ⟨_, start_of (by simp), h⟩
    · exact ⟨_, start_of (by simp), rfl, hold⟩
  · rw [(plain i ov e).1] at w; cases w
  · rw [(plain i ov e).1] at w; cases w
  · rw [(plain i ov e).1] at w; cases w
  · rw [(plain i ov e).2] at w; cases w
/-- a def whose second argument is a function, called by its name: its body, whatever the function does -/
structure CalleeF2 (P : Program) (w : World) (K : PySem.W.Frag) (mg : Str → Option Value) (base : Heap) (x : Str) (k : Nat) (p0 a : Str) (n : Nat) (b : FnI → (List Opd → Option Res) → Es) : Prop where
  ex : ∃ (f : Addr) (st : Stmt) (N : List Str) (oc : Value) (od : Option Addr) (kV doc pm : Value) (an : Option Addr) (cdv ct : Value) (osl : Array (Option Value)),
    K.lookup f = some ⟨oc, od, .func (PySem.W.fnOf x x (defArgs st) (defBody st) (defScope st) .none kV doc pm an cdv ct), osl⟩ ∧ PySem.W.codeIn K cdv x = true ∧ mg x = some (.ref f) ∧ PySem.W.keepIn K (.ref f) = true ∧
      Binds K (PySem.W.fnOf x x (defArgs st) (defBody st) (defScope st) .none kV doc pm an cdv ct) [p0, a] [] ∧ FnScope N [p0, a] (defScope st) ∧ N.length = n ∧ N[1]? = some a ∧ Vis (defScope st) a ∧ 2 ≤ n ∧
      ∀ (F : FnI) (g : List Opd → Option Res) (A : Around) (outer : List PySem.Env) (s : Shared) (H : Hp), A.guards = some [] → Room k (A.deeper (envOfC x (defScope st) s.heap.objs.size f cdv)) → Acts (cxOf CX0 P w K mg base N x (defScope st) f cdv A outer s H E0).nox a 1 F g →
        PSs (cxOf CX0 P w K mg base N x (defScope st) f cdv A outer s H E0).nox (defBody st) (tS K (b F g))
theorem DefAt.f2 {P : Program} {w : World} {K : PySem.W.Frag} {mg : Str → Option Value} {base : Heap} {x p0 a : Str} {st : Stmt} {N : List Str} {k : Nat} {b : FnI → (List Opd → Option Res) → Es} (D : DefAt K mg x st [p0, a]) (S : FnScope N [p0, a] (defScope st)) (hv : Vis (defScope st) a) (h0 : N[1]? = some a) (hnl : 2 ≤ N.length)
    (hb : ∀ (f : Addr) (cdv : Value) (F : FnI) (g : List Opd → Option Res) (A : Around) (outer : List PySem.Env) (s : Shared) (H : Hp), A.guards = some [] → Room k (A.deeper (envOfC x (defScope st) s.heap.objs.size f cdv)) → Acts (cxOf CX0 P w K mg base N x (defScope st) f cdv A outer s H E0).nox a 1 F g →
      PSs (cxOf CX0 P w K mg base N x (defScope st) f cdv A outer s H E0).nox (defBody st) (tS K (b F g))) : CalleeF2 P w K mg base x k p0 a N.length b := by
  obtain ⟨f, fd, F, hm, hbi⟩ := D.ex
  have kp := F.kp
  obtain ⟨oc, od, kV, doc, pm, an, cdv, ct, osl, rfl, lk, hcd⟩ := F.ex
  exact ⟨f, st, N, oc, od, kV, doc, pm, an, cdv, ct, osl, lk, hcd, hm, kp, hbi, S, rfl, h0, hv, hnl, hb f cdv⟩
/-- what is held of a function that was just made -/
theorem hold_of {K : PySem.W.Frag} {E : Ent} {B H : Hp} {σ : L2.St} {env : Env} {f c' : Addr} {q : Str} (r : RR K E B H σ env) (hco : H c' = some (LamX.CodeO c' q)) : FnHold B H ⟨f, c', q, σ, capsOf env⟩ := ⟨hco, fun i d e => by
    have e : (env.map capOf)[i]? = some (some d) := e
    rw [List.getElem?_map] at e
    cases hq : env[i]? with
    | none => rw [hq] at e; cases e
    | some o =>
      rw [hq] at e
      have e' : capOf o = some d := by simpa using e
      cases o with
      | none => cases e'
      | some ov =>
        cases ov with
        | fz d' =>
          cases e'
          obtain ⟨u, h1, h2⟩ := r.slot i _ hq
          exact ⟨u, h1, h2⟩
        | fn _ => cases e'
        | scr _ => cases e'
        | ol _ _ => cases e'
        | od _ _ => cases e'⟩
/-- the frame behind the making of a lambda -/
theorem made_rr {X : Cx} {y : Str} {c Pt c' : Addr} {E : Ent} {B H H1 : Hp} {σ : L2.St} {env : Env} (M : MakersOk X.K X.mg X.base) (hy : y ∈ lamNames) (ht : PySem.W.tabIn X.K y = some (c, Pt)) (hqual : X.env.qual ++ "<lambda>" = lamQ y) (r : RR X.K E B H σ env)
    (md : Made Pt c' (X.env.qual ++ "<lambda>") H H1) (T1 : LamX.TabS H1 Pt (X.env.qual ++ "<lambda>")) : RR X.K E B H1 σ env := by
  have isT : isTab X.K Pt := ⟨y, hy, c, ht⟩
  have bh1 : Sub B H1 := fun b o e => md.other b o (r.bh b o e) fun z => by
    rw [z, r.tb.off Pt isT] at e
    cases e
  have tb1 : TabsK X.K B H1 := ⟨fun z P e => by
    by_cases hz : P = Pt
    · subst hz
      obtain ⟨hz, c0, hc0⟩ := e
      rw [M.ap z y c0 c P hz hy hc0 ht, ← hqual]
      exact T1
    · obtain ⟨ps, q1, q2, q3⟩ := r.tb.tab z P e
      refine ⟨ps, md.other P _ q1 hz, q2, fun pos cv hcv => ?_⟩
      obtain ⟨c0, w1, w2⟩ := q3 pos cv hcv
      exact ⟨c0, w1, md.keep c0 _ w2 codeO_nt⟩, r.tb.off⟩
  exact r.growC ⟨Sub.rfl', md.keep, md.dom, bh1, fun _ _ h => .inl h, tb1⟩
/-- x(e1, lambda a': body), in a def y that makes it -/
theorem e_lam2 {X : Cx} {x y p0 a a' : Str} {k j m n : Nat} {b : FnI → (List Opd → Option Res) → Es} {fb : Ev Res} {fe : Ev Opd} {params : Arguments} {body e1 : Expr} {scope : Scope} {p lpos pos : Pos} {c Pt : Addr} (C : CalleeF2 X.prog X.w X.K X.mg X.base x k p0 a n b) (M : MakersOk X.K X.mg X.base) (hy : y ∈ lamNames) (ht : PySem.W.tabIn X.K y = some (c, Pt))
    (hqual : X.env.qual ++ "<lambda>" = lamQ y) (hcode : X.env.code = .ref c) (hgd : X.A.guards = some []) (hr : Room m X.A) (hkm : k + 1 ≤ m) (hjk : j + 1 ≤ k) (hg : Gl X x) (L : LamP X.env.scope scope a') (hna : a' ∉ X.N) (hdef : defaultsOf params X.env = ([], []))
    (hbind : ∀ (q : Str) (cl : List (Str × Addr)) (pm cv ctv u : Value), bindArgs (PySem.W.kla_fn "<lambda>" q params body scope cl pm cv ctv) ⟨[u], []⟩ = pure [(a', u)])
    (hbody : ∀ (A : Around) (outer : List PySem.Env) (s : Shared) (H : Hp) (f c' : Addr), A.guards = some [] → Room j (A.deeper (lamE X scope s.heap.objs.size f c')) → PE (lamC X a' A outer s H scope f c') body (tR X.K fb))
    (he : PE X e1 (tP X.K fe)) (hs : starEach (e1 :: [.Lambda params body scope lpos]) X.env = (false, eval e1 X.env) :: [(false, eval (.Lambda params body scope lpos) X.env)] := by rfl)
    (hdb : (x == ("__debug__" : Str)) = false := by decide) (hd : (a == ("__debug__" : Str)) = false := by decide) (hcd : (a == ("__classdict__" : Str)) = false := by decide) :
    PE X (.Call (.Name x p) (e1 :: [.Lambda params body scope lpos]) [] pos) (tR X.K (callL2 n b fb fe)) := by
  refine ⟨fun pins s σ H Q I h => ?_⟩
  obtain ⟨E, B, env, res, env', r, ef, kk⟩ := h
  obtain ⟨q, ee, ef⟩ := bindS ef
  obtain ⟨d, hq1⟩ : ∃ d, q.1 = .v d := by
    cases hq : q.1 with
    | v d => exact ⟨d, rfl⟩
    | s ns => rw [hq] at ef; cases ef
    | r i => rw [hq] at ef; cases ef
  rw [hq1] at ef
  by_cases hex : ∃ res, ∀ F : FnI, F.ds = capsOf q.2 → runF2 n F (b F (lamG fb F.ds)) d = some res
  case neg => dsimp only at ef; rw [dif_neg hex] at ef; cases ef
  dsimp only at ef
  rw [dif_pos hex] at ef
  have hres := Classical.choose_spec hex
  revert ef hres
  generalize Classical.choose hex = rs
  intro ef hres
  cases ef
  obtain ⟨g, st, Ng, oc, od, kV, doc, pm, an, cdv, ct, osl, lk, hcg, hm, hk, hb, Sg, hNn, hN0, hvis, hps, hG⟩ := C.ex
  refine wpAny_Call_Name_kw (ld_glob I hg hm ?_ hdb)
  refine PySem.W.callWith_K (h₀ := X.base) I.ok.mod.kin hk ?_ hs rfl
  rw [hs]
  show wpAny _ _ (spliced ((false, eval e1 X.env) :: [(false, eval (.Lambda params body scope lpos) X.env)])) _ _ s
  refine Calls.spliced_cons (thn (he.run pins s σ H (fun v H1 => ∃ B1, RR X.K E B1 H1 σ q.2 ∧ Sub B B1 ∧ OpV X.K B1 σ q.1 v) I ⟨E, B, env, q.1, q.2, r, ee, fun v B1 H1 r1 s1 z => ⟨B1, r1, s1, z⟩⟩) fun u s1 ⟨v, H1, I1, ru, B1, r1, sB, z⟩ => ?_)
  rw [hq1] at z
  have z : Rep B1 v d := z
  refine Calls.spliced_cons (lam_make I1 (M.tb y c Pt hy ht) hcode (by rw [hqual]; exact r1.tb.tab y Pt ⟨hy, c, ht⟩) hdef (fun z hz e => (L.free z hz e).elim (fun k => I1.ok.has _ (.inl k)) fun k => I1.ok.has _ (.inr k)) fun f c' pm' ctv H2 s2 I2 md T1 hf hfn hfr hco => ?_)
  refine Calls.spliced_nil ?_
  have r2 := made_rr M hy ht hqual r1 md T1
  have hold : FnHold B1 H2 ⟨f, c', X.env.qual ++ "<lambda>", σ, capsOf q.2⟩ := hold_of r2 hco
  have hqlen := r2.len
  have hrun := hres ⟨f, c', X.env.qual ++ "<lambda>", σ, capsOf q.2⟩ rfl
  generalize hF : (⟨f, c', X.env.qual ++ "<lambda>", σ, capsOf q.2⟩ : FnI) = F at hold hrun
  have eF1 : F.f = f := by rw [← hF]
  have eF2 : F.c = c' := by rw [← hF]
  have eF3 : F.q = X.env.qual ++ "<lambda>" := by rw [← hF]
  have eF4 : F.σ = σ := by rw [← hF]
  have eF5 : F.ds = capsOf q.2 := by rw [← hF]
  obtain ⟨pb, f1, f2⟩ := bindS hrun
  have act : Acts (cxOf CX0 X.prog X.w X.K X.mg X.base Ng x (defScope st) g cdv X.A X.stack s2 H2 E0).nox a 1 F (lamG fb F.ds) :=
    acts (k := j) I2 L hna (by rw [eF1, eF2]; exact hf) (by rw [eF1]; exact hfn) (by rw [eF1]; exact hfr) eF3 eF4 (by rw [eF5]; unfold capsOf; rw [List.length_map, ← hqlen]) (fun u => hbind _ _ _ _ _ u) hgd (((hr.mono hkm).deeper _).mono hjk) (fun A outer s H hg' hr' => hbody A outer s H F.f F.c hg' hr') hN0 hvis hd hcd
  have body' := hG F (lamG fb F.ds) X.A X.stack s2 H2 hgd ((hr.mono hkm).deeper _) act
  have rc : codeAny (model X.prog X.w) X.A (.call (.ref g) ⟨[u, .ref f], []⟩) (CR CX0 X.stack X.prog X.w H2 s2 Q E0) s2 := by
    refine LamX.run_ofS (N := Ng) (ps := [p0, a]) (us := [u, .ref f]) (vs := [v, .ref f]) lk hcg Sg (hr.mono hkm) I2.env0 ?_ (.cons ru (.cons rfl .nil)) rfl fun hr' => ⟨_, body'.nox, ?_⟩
    · have q := hb s2 [u, .ref f] I2.kIn (by simp)
      rw [List.append_nil] at q
      exact q
    · rw [← hNn] at f1
      refine ⟨entT H2 B1 (L2.start Ng [v, .ref f]), B1, _, pb.1, pb.2, by rw [← eF1]; exact rrF2 r2.bh r2.tb (by rw [hNn]; omega) z hold, f1, ?_⟩
      cases hp : pb.1 with
      | nx =>
        rw [hp] at f2
        cases f2
        exact fun σ' B' H' r' s' => kk .non B' H' (r2.growC r'.growT) (sB.tr r'.b0) (show Rep _ _ _ from .non)
      | bk => rw [hp] at f2; cases f2
      | ct => rw [hp] at f2; cases f2
      | rt rr =>
        rw [hp] at f2
        cases f2
        exact fun v σ' B' H' r' s' zz => kk v B' H' (r2.growC r'.growT) (sB.tr r'.b0) (zz.newT.res r2)
  refine ⟨I2.kIn, ?_⟩
  refine wpAny_call (codeAny_mono rc fun r s' hq => ?_)
  cases r with
  | error e => exact False.elim hq
  | ok fl =>
    cases fl with
    | ret u => exact I2.after hq
    | next => exact False.elim hq
    | brk => exact False.elim hq
    | cont => exact False.elim hq
end NS

set_option Elab.async false
set_option linter.all false
set_option maxRecDepth 100000
set_option maxHeartbeats 4000000
/-! NsO: sorted(xs, key=lambda x: 0 - x), xs a list of ints. -/
namespace NS
open PySem L2 PyProof.Rows NT
variable [W : NT.Wd]
/-- a list of ints, falling -/
def sortN (ns : List Int) : List Int := (sortI ns).reverse
theorem sortN_is {ns ms : List Int} (p : ms.Perm ns) (h : ms.Pairwise (fun a b => b ≤ a)) : ms = sortN ns := by
  unfold sortN
  rw [← sorted_is (ns := ns) (ms := ms.reverse) ((List.reverse_perm _).trans p) (by rw [List.pairwise_reverse]; exact h), List.reverse_reverse]
def sortNegR (fa : Ev (List Opd)) : Ev Res := fun env => (fa env).bind fun p => match p.1 with
  | [.v (.list ds)] => (intsOf ds).bind fun ns => guardO (decide (ns.length ≤ 1000000)) (some (.l ((sortN ns).map .int), p.2))
  | _ => none
theorem each_ints : ∀ {vs : List Value} {ns : List Int}, IntsAre vs ns → PySem.W.EachIs (fun v n => ∃ t, v = Value.int n t) vs ns
  | _, _, .nil => .nil
  | _, _, .cons n t h => .cons ⟨t, rfl⟩ (each_ints h)
theorem ints_each : ∀ {vs : List Value} {ns : List Int}, PySem.W.EachIs (fun v n => ∃ t, v = Value.int n t) vs ns → IntsAre vs ns
  | _, _, .nil => .nil
  | _, _, .cons ⟨t, e⟩ h => by subst e; exact .cons _ t (ints_each h)
section
variable {prog : Program} {w : World} {A : Around} {s : Shared}
/-- the key's call -/
theorem neg_call {f c' oc : Addr} {q : Str} {params : Arguments} {scope : Scope} {clo : List (Str × Addr)} {pm ctv : Value} {a' : Str} {jp : Nat} {p1 p2 p3 : Pos} {n : Int} {t : Tok} (hdp : A.depth < recursionLimit)
    (hf : s.heap.get? f = some (PySem.W.kla_obj "<lambda>" q params (.BinOp (.Constant (.int 0) jp p1) .Sub (.Name a' p2) p3) scope clo pm c' ctv)) (hkind : scope.kind = .function) (hco : scope.isCoroutine = false) (hgen : scope.isGenerator = false) (hnc : ∀ y ∈ scope.names, y.2 ≠ .cell) (hpar : scope.names.lookup a' = some .local)
    (hrec : s.heap.CodeRec (.ref c') q) (hlim : s.heap.NoLimit) (hbind : bindArgs (PySem.W.kla_fn "<lambda>" q params (.BinOp (.Constant (.int 0) jp p1) .Sub (.Name a' p2) p3) scope clo pm (.ref c') ctv) ⟨[.int n t], []⟩ = pure [(a', .int n t)])
    (hd : (a' == ("__debug__" : Str)) = false) :
    wpAny (model prog w) A (call (.ref f) [.int n t]) (PySem.W.KeyPure (.int (0 - n)) s) (fun _ _ => False) s := by
  refine wpAny_call (PySem.W.kla_callFunE hdp hf rfl hco hgen rfl hrec ?_)
  rw [hbind]
  have hpar' : ∀ y ∈ ([(a', Value.int n t)] : List (Str × Value)), scope.names.lookup y.1 = some .local := fun y hy => by
    have hy' : y = (a', Value.int n t) := by simpa using hy
    rw [hy']; exact hpar
  refine wpAny_pure (wpAny_newFunctionEnv (fun y hy => hnc y hy) hpar' (fun h₁ hns hsb => ⟨hlim.fresh _ hsb, ?_⟩) hkind)
  have kp : ∀ b o, s.heap.get? b = some o → h₁.get? b = some o := fun b o e => hsb.extBut b o (Nat.ne_of_lt (Heap.lt_size e)) (Heap.get?_push_of_some _ e)
  refine PySem.W.kla_codeExpr (wpAny_BinOp (wpAny_Constant_int (wpAny_Name (wpAny_loadName_local (v := .int n t) hkind hpar hns (by simp) ?_) hd)))
  refine sub_int ?_
  exact ⟨h₁, _, rfl, kp, .int _ _⟩
end
/-- sorted(e, key=lambda a': 0 - a'), in a def y that makes it -/
theorem e_sortNeg {X : Cx} {x y a' : Str} {m jp : Nat} {fa : Ev (List Opd)} {params : Arguments} {e1 : Expr} {scope : Scope} {p lpos kpos pos p1 p2 p3 : Pos} {c Pt : Addr} (M : MakersOk X.K X.mg X.base) (hy : y ∈ lamNames) (ht : PySem.W.tabIn X.K y = some (c, Pt))
    (hqual : X.env.qual ++ "<lambda>" = lamQ y) (hcode : X.env.code = .ref c) (hgd : X.A.guards = some []) (hr : Room m X.A) (hg : Gl X x) (hm : X.mg x = none) (hv : bootBuiltins x = some (.builtin "sorted")) (L : LamP X.env.scope scope a') (hdef : defaultsOf params X.env = ([], []))
    (hbind : ∀ (q : Str) (cl : List (Str × Addr)) (pm cv ctv u : Value), bindArgs (PySem.W.kla_fn "<lambda>" q params (.BinOp (.Constant (.int 0) jp p1) .Sub (.Name a' p2) p3) scope cl pm cv ctv) ⟨[u], []⟩ = pure [(a', u)])
    (ha : PA X [e1] (tA X.K fa)) (hn : x ≠ "__name__" := by decide) (hdb : (x == ("__debug__" : Str)) = false := by decide) (hd : (a' == ("__debug__" : Str)) = false := by decide)
    (he : backTo pos (starEach (e1 :: []) X.env) = (false, eval e1 X.env) :: backTo pos (starEach [] X.env) := by rfl) (hpl : (backTo pos (starEach (e1 :: []) X.env)).any (·.1) = false := by rfl) :
    PE X (.Call (.Name x p) [e1] [⟨some "key", .Lambda params (.BinOp (.Constant (.int 0) jp p1) .Sub (.Name a' p2) p3) scope lpos, kpos⟩] pos) (tR X.K (sortNegR fa)) := by
  refine ⟨fun pins s σ H Q I h => ?_⟩
  obtain ⟨E, B, env, res, env', r, ef, kk⟩ := h
  obtain ⟨q, ee, ef⟩ := bindS ef
  have hex : ∃ ds ns, q.1 = [.v (.list ds)] ∧ intsOf ds = some ns ∧ ns.length ≤ 1000000 ∧ res = .l ((sortN ns).map .int) ∧ env' = q.2 := by
    split at ef
    · rename_i ds hq
      obtain ⟨ns, e2, ef⟩ := bindS ef
      obtain ⟨hl, ef⟩ := guardS ef
      cases ef
      exact ⟨ds, ns, hq, e2, of_decide_eq_true hl, rfl, rfl⟩
    · cases ef
  obtain ⟨ds, ns, hq1, hns, hlen, rfl, rfl⟩ := hex
  refine wpAny_Call_Name_kw (ld_blt I hg hm hv ?_ hn hdb)
  refine PyProof.Rows.callWith_kw (thn (ha.run pos pins s σ H (fun vs H1 => ∃ B1, RR X.K E B1 H1 σ q.2 ∧ Sub B B1 ∧ OpVs X.K B1 σ q.1 vs) I ⟨E, B, env, q.1, q.2, r, ee, fun vs B1 H1 r1 s1 z => ⟨B1, r1, s1, z⟩⟩) fun us s1 ⟨vs, H1, I1, rus, B1, r1, sB, z⟩ => PyProof.Rows.kwAll_cons (lam_make I1 (M.tb y c Pt hy ht) hcode (by rw [hqual]; exact r1.tb.tab y Pt ⟨hy, c, ht⟩) hdef (fun z hz e => (L.free z hz e).elim (fun k => I1.ok.has _ (.inl k)) fun k => I1.ok.has _ (.inr k)) fun f c' pm' ctv H2 s2 I2 md T1 hf hfn hfr hco => PyProof.Rows.kwAll_nil ?_)) he hpl rfl rfl
  rw [hq1] at z
  obtain ⟨v1, rest, ez, z1, z2⟩ := z
  have z2 : rest = [] := z2
  subst z2
  subst ez
  obtain ⟨u1, ru, hu1⟩ : ∃ u1, RelV v1 u1 ∧ us = [u1] := by
    obtain ⟨u, e3, r3⟩ := rus.one
    exact ⟨u, r3, e3⟩
  subst hu1
  have r2 := made_rr M hy ht hqual r1 md T1
  have z1 : Rep B1 v1 (.list ds) := z1
  obtain ⟨a, xs, rfl, h1, rx⟩ := Rd.lst r2.bh (show Rd B1 H2 v1 (.list ds) from .inl z1)
  have := intsV rx hns
  subst this
  obtain ⟨its, rv, hl, hz⟩ := I2.list (SqL.of (K := X.K) h1)
  obtain rfl : u1 = Value.ref a := ru
  have hi := rv.ints
  show wpAny _ _ (call (.builtin "sorted") [.ref a] [(Str.ofString "key", .ref f)]) _ _ s2
  obtain ⟨⟨oc, cvs, t, hoc, hdc, hvc⟩, _, _⟩ := I2.hok c' _ hco
  refine PySem.W.sorted_key_data (β := Int) (b := false) (R := fun v n => ∃ t, v = Value.int n t) (fun n => PyData.int (0 - n)) hl.isList (each_ints hi) (PySem.W.AllAlike.of fun _ _ => by simp [PySem.W.alike]) (PySem.W.Sortable.others fun _ => ⟨fun z => by (cases z), fun _ z => by (cases z)⟩) (by rw [sizeLine_eq]; omega) (fun x _ => ?u) (ksk_s1 _ _) (fun _ => ksk_l1 _ _) (fun _ => ksk_t1 _ _) (fun v n ⟨tt, ev⟩ _ h tk kp => ?turn) fun out cc h' tk kp fr hD hlo eo => ?fin
  case u =>
    have := hr.un
    show X.A.units + 2 + PyData.depth (.int _) < cLine
    simp only [PyData.depth]
    omega
  case turn =>
    subst ev
    exact neg_call (s := { s2 with heap := h, toks := tk }) (A := X.A.in1.in1) (oc := f) hr.depth (kp _ _ hf) L.kind L.co L.gen L.nocell L.par ⟨c', oc, cvs, t, rfl, kp _ _ hoc, hdc, hvc⟩ (I2.nolimit.keeps kp) (hbind _ _ _ _ _ _) hd
  case fin =>
    rw [PySem.W.dataLe_int] at eo
    have hp : (ns.mergeSort fun a b => decide (0 - a ≤ 0 - b)).Perm ns := List.mergeSort_perm _ _
    have hs : (ns.mergeSort fun a b => decide (0 - a ≤ 0 - b)).Pairwise (fun a b => b ≤ a) := by
      have h := List.pairwise_mergeSort (le := fun a b : Int => decide (0 - a ≤ 0 - b)) (fun a b c h1 h2 => by simp only [decide_eq_true_eq] at *; omega) (fun a b => by simp only [Bool.or_eq_true, decide_eq_true_eq]; omega) ns
      exact h.imp fun h => by have := of_decide_eq_true h; omega
    rw [sortN_is hp hs] at eo
    have hi2 := ints_each eo
    have hlen2 : ((sortN ns).map V.int).length ≤ sizeLine := by
      have : (sortN ns).length = ns.length := by rw [← sortN_is hp hs]; exact hp.length_eq
      rw [List.length_map, this, sizeLine_eq]; omega
    have hq : H2 (s2.heap.objs.size + 1) = none := I2.hok.fresh (Nat.le_succ _)
    exact ⟨.ref _, upd H2 (s2.heap.objs.size + 1) (.lst ((sortN ns).map V.int)), I2.laid (t' := tk) kp (Nat.le_succ _) ⟨hlen2, out, cc, vals_of_ints hi2, hD⟩, rfl, newL (Q := Q) r2.bh (Reps.ofInts _) hq fun w B3 H3 gr nw => kk w B3 H3 (r2.grow gr) (sB.tr gr.bb) (nw.res r2)⟩
end NS

set_option Elab.async false
set_option linter.all false
set_option maxRecDepth 100000
set_option maxHeartbeats 4000000
/-! NsV: how evaluators evaluate: a rule each; statements by what holds behind them (Ends). -/
namespace NS
open PySem L2 NT
variable [W : NT.Wd]
section
variable {env e1 e2 e3 e4 : Env}
theorem toD_d {x : D} : Res.toD (.d x) = x := rfl
theorem toD_l {xs : List D} : Res.toD (.l xs) = .list xs := rfl
theorem ov_d {x : D} : Res.ov (.d x) = .fz x := rfl
theorem ov_l {xs : List D} : Res.ov (.l xs) = .ol false xs := rfl
theorem opD_v {d : D} : opD env (.v d) = some d := rfl
theorem opD_r {i : Nat} {ov : OV} {d : D} (h : env[i]? = some (some ov)) (h2 : ov.owned = true) (h3 : ov.toD = d) : opD env (.r i) = some d := by
  show ownD env[i]? = _
  rw [h]; unfold ownD; dsimp only; rw [if_pos h2, h3]
theorem opDs_nil : opDs env [] = some [] := rfl
theorem opDs_cons {x : Opd} {xs : List Opd} {d : D} {ds : List D} (h : opD env x = some d) (h2 : opDs env xs = some ds) : opDs env (x :: xs) = some (d :: ds) := by
  unfold opDs; rw [h, h2]; rfl
theorem vals_nil : valsO [] = some [] := rfl
theorem vals_cons {xs : List Opd} {d : D} {ds : List D} (h2 : valsO xs = some ds) : valsO (.v d :: xs) = some (d :: ds) := by
  unfold valsO; rw [h2]; rfl
theorem guard_i {α : Type} {c : Bool} {x : Option α} {b : α} (h : c = true) (k : x = some b) : guardO c x = some b := by rw [h]; exact k
/-! ### expressions -/
theorem E_slotE {i : Nat} {d : D} (h : env[i]? = some (some (.fz d))) : slotE i env = some (d, env) := by
  show (match env[i]? with | some (some (.fz d)) => some (d, env) | some (some ov) => if (ov.owned && !ov.io) = true then some (ov.toD, env.set i (some (.fz ov.toD))) else none | _ => none) = _
  rw [h]
theorem E_slotE_l {i : Nat} {ds : List D} (h : env[i]? = some (some (.ol false ds))) (k : env.set i (some (.fz (.list ds))) = e1) : slotE i env = some (.list ds, e1) := by
  subst k
  show (match env[i]? with | some (some (.fz d)) => some (d, env) | some (some ov) => if (ov.owned && !ov.io) = true then some (ov.toD, env.set i (some (.fz ov.toD))) else none | _ => none) = _
  rw [h]; rfl
theorem E_slotP {i : Nat} {d : D} (h : env[i]? = some (some (.fz d))) : slotP i env = some (.v d, env) := by unfold slotP; rw [h]
theorem E_slotP_s {i : Nat} {d : List Int} (h : env[i]? = some (some (.scr d))) : slotP i env = some (.s d, env) := by unfold slotP; rw [h]
theorem E_slotP_r {i : Nat} {io : Bool} {ds : List D} (h : env[i]? = some (some (.ol io ds))) : slotP i env = some (.r i, env) := by unfold slotP; rw [h]
theorem E_slotF {i : Nat} {d : D} (h : env[i]? = some (some (.fz d))) : slotF i env = some (.v d, env) := by unfold slotF; rw [h]
theorem E_slotF_s {i : Nat} {d : List Int} (h : env[i]? = some (some (.scr d))) : slotF i env = some (.s d, env) := by unfold slotF; rw [h]
theorem E_slotF_l {i : Nat} {ds : List D} (h : env[i]? = some (some (.ol false ds))) (k : env.set i (some (.fz (.list ds))) = e1) : slotF i env = some (.v (.list ds), e1) := by
  subst k; unfold slotF; rw [h]; rfl
theorem E_take {i : Nat} {d : D} (h : env[i]? = some (some (.fz d))) : takeR i env = some (.d d, env) := by unfold takeR; rw [h]
theorem E_take_l {i : Nat} {ds : List D} (h : env[i]? = some (some (.ol false ds))) (k : env.set i none = e1) : takeR i env = some (.l ds, e1) := by
  subst k; unfold takeR; rw [h]
theorem E_cst {d : D} : cstE d env = some (d, env) := rfl
theorem E_opOf {f : Ev D} {d : D} (h : f env = some (d, e1)) : opOf f env = some (.v d, e1) := by unfold opOf; rw [h]; rfl
theorem E_resOf {f : Ev D} {d : D} (h : f env = some (d, e1)) : resOf f env = some (.d d, e1) := by unfold resOf; rw [h]; rfl
theorem E_layOf {f : Ev Res} {r : Res} {d : D} (h : f env = some (r, e1)) (k : r.toD = d) : layOf f env = some (d, e1) := by unfold layOf; rw [h, ← k]; rfl
theorem E_bin2 {g : D → D → Option Res} {fa fb : Ev Opd} {a b : Opd} {x y : D} {r : Res} (h1 : fa env = some (a, e1)) (h2 : fb e1 = some (b, e2)) (h3 : opD e2 a = some x) (h4 : opD e2 b = some y) (h5 : g x y = some r) : bin2 g fa fb env = some (r, e2) := by
  unfold bin2; rw [h1]; dsimp only [Option.bind]; rw [h2]; dsimp only [Option.bind]; rw [h3, h4]; dsimp only [Option.bind]; rw [h5]
theorem E_boolOf {f : Ev Res} {b : Bool} (h : f env = some (.d (.bool b), e1)) : boolOf f env = some (b, e1) := by unfold boolOf; rw [h]; rfl
theorem E_nilA : nilA env = some ([], env) := rfl
theorem E_consA {f : Ev Opd} {g : Ev (List Opd)} {x : Opd} {xs : List Opd} (h1 : f env = some (x, e1)) (h2 : g e1 = some (xs, e2)) : consA f g env = some (x :: xs, e2) := by
  unfold consA; rw [h1]; dsimp only [Option.bind]; rw [h2]
theorem E_tupR {f : Ev (List Opd)} {xs : List Opd} {ds : List D} (h1 : f env = some (xs, e1)) (h2 : valsO xs = some ds) (h3 : ds.length ≤ 100000) : tupR f env = some (.d (.tuple ds), e1) := by
  unfold tupR; rw [h1]; dsimp only [Option.bind]; rw [h2]; exact guard_i (decide_eq_true h3) rfl
theorem E_lstR {f : Ev (List Opd)} {xs : List Opd} {ds : List D} (h1 : f env = some (xs, e1)) (h2 : valsO xs = some ds) (h3 : ds.length ≤ 100000) : lstR f env = some (.l ds, e1) := by
  unfold lstR; rw [h1]; dsimp only [Option.bind]; rw [h2]; exact guard_i (decide_eq_true h3) rfl
theorem E_callN {g : List D → Option Res} {f : Ev (List Opd)} {xs : List Opd} {ds : List D} {r : Res} (h1 : f env = some (xs, e1)) (h2 : opDs e1 xs = some ds) (h3 : g ds = some r) : callN g f env = some (r, e1) := by
  unfold callN; rw [h1]; dsimp only [Option.bind]; rw [h2]; dsimp only [Option.bind]; rw [h3]
theorem E_bound0 : boundO none env = some (none, env) := rfl
theorem E_bound1 {f : Ev D} {i : Int} (h : f env = some (.int i, e1)) : boundO (some f) env = some (some i, e1) := by unfold boundO; dsimp only; rw [h]; rfl
theorem E_sl3 {g : D → Option Int → Option Int → Option Res} {fa : Ev Opd} {fl fh : Ev (Option Int)} {a : Opd} {lo hi : Option Int} {x : D} {r : Res} (h1 : fa env = some (a, e1)) (h2 : fl e1 = some (lo, e2)) (h3 : fh e2 = some (hi, e3)) (h4 : opD e3 a = some x) (h5 : g x lo hi = some r) : sl3 g fa fl fh env = some (r, e3) := by
  unfold sl3; rw [h1]; dsimp only [Option.bind]; rw [h2]; dsimp only [Option.bind]; rw [h3]; dsimp only [Option.bind]; rw [h4]; dsimp only [Option.bind]; rw [h5]
theorem E_slS {fa : Ev Opd} {fl fh : Ev (Option Int)} {ns : List Int} {lo hi : Option Int} (h1 : fa env = some (.s ns, e1)) (h2 : fl e1 = some (lo, e2)) (h3 : fh e2 = some (hi, e3)) : slS fa fl fh env = some (.l ((cutS ns lo hi).map .int), e3) := by
  unfold slS; rw [h1]; dsimp only [Option.bind]; rw [h2]; dsimp only [Option.bind]; rw [h3]
theorem E_revR {f : Ev Opd} {a : Opd} {ds : List D} (h1 : f env = some (a, e1)) (h2 : opD e1 a = some (.list ds)) : revR f env = some (.l ds.reverse, e1) := by
  unfold revR; rw [h1]; dsimp only [Option.bind]; rw [h2]
theorem E_negR {f : Ev D} {i : Int} (h : f env = some (.int i, e1)) : negR f env = some (.d (.int (-i)), e1) := by unfold negR; rw [h]; rfl
theorem E_andT {f g : Ev Bool} {a b : Bool} (h1 : f env = some (a, e1)) (h2 : a = true → g e1 = some (b, e1)) : andT f g env = some (a && b, e1) := by
  unfold andT; rw [h1]; dsimp only [Option.bind]
  cases a with
  | true => rw [h2 rfl]; rfl
  | false => rfl
theorem E_orT {f g : Ev Bool} {a b : Bool} (h1 : f env = some (a, e1)) (h2 : a = false → g e1 = some (b, e1)) : orT f g env = some (a || b, e1) := by
  unfold orT; rw [h1]; dsimp only [Option.bind]
  cases a with
  | false => rw [if_neg (by decide), h2 rfl]; rfl
  | true => rfl
theorem E_notT {f : Ev Bool} {a : Bool} (h1 : f env = some (a, e1)) : notT f env = some (!a, e1) := by unfold notT; rw [h1]; rfl
theorem E_yesT : yesT env = some (true, env) := rfl
theorem E_ofT {f : Ev Bool} {a : Bool} (h1 : f env = some (a, e1)) : ofT f env = some (.d (.bool a), e1) := by unfold ofT; rw [h1]; rfl
theorem E_andV {f g : Ev Res} {a b : Bool} (h1 : f env = some (.d (.bool a), e1)) (h2 : a = true → g e1 = some (.d (.bool b), e1)) : andV f g env = some (.d (.bool (a && b)), e1) := by
  unfold andV; rw [h1]; dsimp only [Option.bind]
  cases a with
  | true => dsimp only; rw [h2 rfl]; rfl
  | false => rfl
theorem E_orV {f g : Ev Res} {a b : Bool} (h1 : f env = some (.d (.bool a), e1)) (h2 : a = false → g e1 = some (.d (.bool b), e1)) : orV f g env = some (.d (.bool (a || b)), e1) := by
  unfold orV; rw [h1]; dsimp only [Option.bind]
  cases a with
  | false => dsimp only; rw [h2 rfl]; rfl
  | true => rfl
theorem E_notV {f : Ev Res} {a : Bool} (h1 : f env = some (.d (.bool a), e1)) : notV f env = some (.d (.bool (!a)), e1) := by unfold notV; rw [h1]; rfl
theorem E_ifR {c : Ev Bool} {f g : Ev Res} {b : Bool} {x y : D} (h1 : c env = some (b, e1)) (h2 : b = true → f e1 = some (.d x, e1)) (h3 : b = false → g e1 = some (.d y, e1)) : ifR c f g env = some (.d (if b = true then x else y), e1) := by
  unfold ifR; rw [h1]; dsimp only [Option.bind]
  cases b with
  | true => rw [if_pos rfl, if_pos rfl]; exact h2 rfl
  | false => rw [if_neg (by decide), if_neg (by decide)]; exact h3 rfl
def pickR (b : Bool) (f g : Ev Res) : Ev Res := fun e => if b = true then f e else g e
theorem E_ifRb {c : Ev Bool} {f g : Ev Res} {b : Bool} {r : Res} (h1 : c env = some (b, e1)) (h2 : pickR b f g e1 = some (r, e2)) : ifR c f g env = some (r, e2) := by
  unfold ifR; rw [h1]; exact h2
theorem pickR_t {f g : Ev Res} {x : Option (Res × Env)} (h : f env = x) : pickR true f g env = x := h
theorem pickR_f {f g : Ev Res} {x : Option (Res × Env)} (h : g env = x) : pickR false f g env = x := h
theorem pickR_d {f g : Ev Res} {b : Bool} {x y : D} (h2 : b = true → f env = some (.d x, env)) (h3 : b = false → g env = some (.d y, env)) : pickR b f g env = some (.d (if b = true then x else y), env) := by
  cases b with
  | true => exact h2 rfl
  | false => exact h3 rfl
theorem E_itSeq_l {f : Ev D} {ds : List D} (h : f env = some (.list ds, e1)) : itSeq f env = some (ds, e1) := by unfold itSeq; rw [h]; rfl
theorem E_itSeq_t {f : Ev D} {ds : List D} (h : f env = some (.tuple ds, e1)) : itSeq f env = some (ds, e1) := by unfold itSeq; rw [h]; rfl
def asSeqD : D → Option (List D)
  | .list ds => some ds
  | .tuple ds => some ds
  | _ => none
theorem sq_l {ds : List D} : asSeqD (.list ds) = some ds := rfl
theorem sq_t {ds : List D} : asSeqD (.tuple ds) = some ds := rfl
theorem E_itSeq {f : Ev D} {d : D} {ds : List D} (h : f env = some (d, e1)) (k : asSeqD d = some ds) : itSeq f env = some (ds, e1) := by
  unfold asSeqD at k
  split at k
  · cases k; exact E_itSeq_l h
  · cases k; exact E_itSeq_t h
  · cases k
theorem E_rg1 {f : Ev (List Opd)} {j : Int} (h : f env = some ([.v (.int j)], e1)) (k1 : -4611686018427387904 ≤ j) (k2 : j < 4611686018427387904) : itRange1 f env = some (rangeD 0 j.toNat, e1) := by
  unfold itRange1; rw [h]; exact guard_i (by rw [decide_eq_true (show -(2 ^ 62) ≤ j by omega), decide_eq_true (show j < 2 ^ 62 by omega)]; rfl) rfl
theorem E_rg2 {f : Ev (List Opd)} {i j : Int} (h : f env = some ([.v (.int i), .v (.int j)], e1)) (k1 : -4611686018427387904 ≤ i) (k2 : i < 4611686018427387904) (k3 : -4611686018427387904 ≤ j) (k4 : j < 4611686018427387904) : itRange2 f env = some (rangeD i (j - i).toNat, e1) := by
  unfold itRange2; rw [h]; exact guard_i (by rw [decide_eq_true (show -(2 ^ 62) ≤ i by omega), decide_eq_true (show i < 2 ^ 62 by omega), decide_eq_true (show -(2 ^ 62) ≤ j by omega), decide_eq_true (show j < 2 ^ 62 by omega)]; rfl) rfl
theorem E_lstRg2 {fa fb : Ev D} {i j : Int} (h1 : fa env = some (.int i, e1)) (h2 : fb e1 = some (.int j, e2)) (k1 : 0 ≤ i) (k2 : i ≤ 1000000) (k3 : 0 ≤ j) (k4 : j ≤ 1000000) : lstRg2 fa fb env = some (.l (rangeD i (j - i).toNat), e2) := by
  unfold lstRg2; rw [h1]; dsimp only [Option.bind]; rw [h2]; exact guard_i (by rw [decide_eq_true k1, decide_eq_true k2, decide_eq_true k3, decide_eq_true k4]; rfl) rfl
theorem E_callT {n : Nat} {g : List Opd → Option Res} {f : Ev (List Opd)} {xs : List Opd} {r : Res} (h1 : f env = some (xs, e1)) (h2 : (noR xs && xs.length == n) = true) (h3 : g xs = some r) : callT n g f env = some (r, e1) := by
  unfold callT; rw [h1]; dsimp only [Option.bind]; refine guard_i h2 ?_; rw [h3]
theorem E_callU {n : Nat} {g : OV → List Opd → Option (Res × OV)} {f : Ev (List Opd)} {i : Nat} {rest : List Opd} {ov ov' ov0 ov2 : OV} {r : Res} (h1 : f env = some (.r i :: rest, e1)) (h2 : e1[i]? = some (some ov)) (h3 : (ov.owned && noR rest && rest.length + 1 == n) = true) (h0 : ov.setIo false = ov0) (h4 : g ov0 rest = some (r, ov')) (h5 : ov'.owned = true) (h7 : ov'.setIo ov.io = ov2) (h6 : e1.set i (some ov2) = e2) : callU n g f env = some (r, e2) := by
  subst h0 h7 h6
  unfold callU; rw [h1]; dsimp only [Option.bind]; rw [h2]; dsimp only; refine guard_i h3 ?_; rw [h4]; exact guard_i h5 rfl
/-! ### list comprehensions: what each element gives -/
/-- one step of a comprehension: from d, at any environment whose slots agree -/
structure LcOk (tg : Tg) (cond : Ev Bool) (elt : Ev D) (own : List Nat) (I : List D → List D → Env → Prop) : Prop where
  step : ∀ d ds acc e, I (d :: ds) acc e → ∃ e1 b e2, tgE tg d e = some e1 ∧ cond e1 = some (b, e2) ∧ (b = true → ∃ x e3, elt e2 = some (x, e3) ∧ acc.length < 1000000 ∧ I ds (acc ++ [x]) (wipeE e3 own)) ∧ (b = false → I ds acc (wipeE e2 own))
theorem LcOk.go {tg : Tg} {cond : Ev Bool} {elt : Ev D} {own : List Nat} {I : List D → List D → Env → Prop} (S : LcOk tg cond elt own I) : ∀ {ds : List D} {acc : List D} {e : Env}, I ds acc e → ∃ acc' e', lcGo tg cond elt own ds e acc = some (acc', e') ∧ I [] acc' e' := by
  intro ds
  induction ds with
  | nil => exact fun {acc e} h => ⟨acc, e, rfl, h⟩
  | cons d ds ih =>
    intro acc e h
    obtain ⟨e1, b, e2, h1, h2, h3, h4⟩ := S.step d ds acc e h
    unfold lcGo
    rw [h1]; dsimp only [Option.bind]; rw [h2]; dsimp only [Option.bind]
    cases b with
    | true =>
      obtain ⟨x, e3, h5, h6, h7⟩ := h3 rfl
      rw [if_pos rfl, h5]; dsimp only [Option.bind]
      obtain ⟨a, e', q, k⟩ := ih h7
      exact ⟨a, e', guard_i (decide_eq_true h6) q, k⟩
    | false =>
      rw [if_neg (by decide)]
      exact ih (h4 rfl)
theorem E_lc {it : Ev (List D)} {tg : Tg} {cond : Ev Bool} {elt : Ev D} {own : List Nat} {ds acc : List D} (h1 : it env = some (ds, e1)) (h2 : (plainAt e1 own && tg.slots.all fun j => own.contains j) = true) (h0 : wipeE e1 own = e4) (h3 : lcGo tg cond elt own ds e4 [] = some (acc, e2)) (h4 : backE e1 e2 own = e3) : lcR it tg cond elt own env = some (.l acc, e3) := by
  subst h4 h0
  unfold lcR; rw [h1]; dsimp only [Option.bind]; refine guard_i h2 ?_; rw [h3]
def Ev1 {α : Type} (x : Option (α × Env)) (Q : α → Env → Prop) : Prop := ∃ a e, x = some (a, e) ∧ Q a e
theorem Ev1.i {α : Type} {x : Option (α × Env)} {Q : α → Env → Prop} {a : α} {e : Env} (h : x = some (a, e)) (q : Q a e) : Ev1 x Q := ⟨a, e, h, q⟩
/-- a comprehension without a condition over a mapped list, its environment kept -/
theorem lc_map {α : Type} {tg : Tg} {elt : Ev D} {own : List Nat} {P : α → Prop} {enc : α → D} {out : α → D} {e : Env} (H : ∀ x, P x → ∃ e1, tgE tg (enc x) e = some e1 ∧ Ev1 (elt e1) fun d e2 => d = out x ∧ wipeE e2 own = e) :
    ∀ (l : List α) (acc : List D), (∀ x ∈ l, P x) → acc.length + l.length ≤ 1000000 → lcGo tg yesT elt own (l.map enc) e acc = some (acc ++ l.map out, e) := by
  intro l
  induction l with
  | nil => intro acc _ _; simp [lcGo]
  | cons x l ih =>
    intro acc hp hl
    obtain ⟨e1, h1, d, e2, h2, hd, h3⟩ := H x (hp x (by simp))
    subst hd
    simp at hl
    rw [List.map_cons]
    unfold lcGo
    rw [h1]; dsimp only [Option.bind]; rw [E_yesT]; dsimp only [Option.bind]; rw [if_pos rfl, h2]; dsimp only [Option.bind]
    refine guard_i (decide_eq_true (by omega)) ?_
    rw [h3, ih (acc ++ [out x]) (fun y hy => hp y (by simp [hy])) (by simp; omega)]
    simp
theorem lc_map0 {α : Type} {tg : Tg} {elt : Ev D} {own : List Nat} (P : α → Prop) {enc : α → D} (out : α → D) {e : Env} (l : List α) (hp : ∀ x ∈ l, P x) (hl : l.length ≤ 1000000) (H : ∀ x, P x → ∃ e1, tgE tg (enc x) e = some e1 ∧ Ev1 (elt e1) fun d e2 => d = out x ∧ wipeE e2 own = e) : lcGo tg yesT elt own (l.map enc) e [] = some (l.map out, e) := by
  rw [lc_map H l [] hp (by simpa using hl), List.nil_append]
/-! ### statements -/
def Ends (x : Option (Fl × Env)) (Q : Fl → Env → Prop) : Prop := ∃ fl e, x = some (fl, e) ∧ Q fl e
theorem Ends.mono {x : Option (Fl × Env)} {Q Q' : Fl → Env → Prop} (h : Ends x Q) (k : ∀ fl e, Q fl e → Q' fl e) : Ends x Q' := by
  obtain ⟨fl, e, a, b⟩ := h; exact ⟨fl, e, a, k _ _ b⟩
variable {Q : Fl → Env → Prop}
def SeqQ (g : Es) (Q : Fl → Env → Prop) : Fl → Env → Prop
  | .nx, e => Ends (g e) Q
  | fl, e => Q fl e
theorem SeqQ.nx {g : Es} (h : Ends (g env) Q) : SeqQ g Q .nx env := h
theorem SeqQ.rt {g : Es} {r : Res} (h : Q (.rt r) env) : SeqQ g Q (.rt r) env := h
theorem SeqQ.bk {g : Es} (h : Q .bk env) : SeqQ g Q .bk env := h
theorem SeqQ.ct {g : Es} (h : Q .ct env) : SeqQ g Q .ct env := h
theorem S_seq {f g : Es} (h : Ends (f env) (SeqQ g Q)) : Ends (seqS f g env) Q := by
  obtain ⟨fl, e, a, b⟩ := h
  unfold seqS
  rw [a]; dsimp only [Option.bind]
  cases fl with
  | nx => exact b
  | bk => exact ⟨_, _, rfl, b⟩
  | ct => exact ⟨_, _, rfl, b⟩
  | rt r => exact ⟨_, _, rfl, b⟩
theorem S_nil (h : Q .nx env) : Ends (nilS env) Q := ⟨_, _, rfl, h⟩
theorem S_brk (h : Q .bk env) : Ends (brkS env) Q := ⟨_, _, rfl, h⟩
theorem S_cnt (h : Q .ct env) : Ends (cntS env) Q := ⟨_, _, rfl, h⟩
theorem S_asg {i : Nat} {f : Ev Res} {r : Res} {ov : OV} (h : f env = some (r, e1)) (k : r.ov = ov) (s : e1.set i (some ov) = e2) (q : Q .nx e2) : Ends (asgS i f env) Q := by
  subst k s; unfold asgS; rw [h]; exact ⟨_, _, rfl, q⟩
theorem S_unp {tg : Tg} {f : Ev D} {d : D} (h : f env = some (d, e1)) (s : tgE tg d e1 = some e2) (q : Q .nx e2) : Ends (unpS tg f env) Q := by
  unfold unpS; rw [h]; dsimp only [Option.bind]; rw [s]; exact ⟨_, _, rfl, q⟩
theorem S_par2 {i j : Nat} {fa fb : Ev Res} {a b : Res} {va vb : OV} (h : fa env = some (a, e1)) (h2 : fb e1 = some (b, e2)) (ka : a.ov = va) (kb : b.ov = vb) (s : (e2.set i (some va)).set j (some vb) = e3) (q : Q .nx e3) : Ends (par2 i j fa fb env) Q := by
  subst ka kb s; unfold par2; rw [h]; dsimp only [Option.bind]; rw [h2]; exact ⟨_, _, rfl, q⟩
theorem S_aug {i : Nat} {op : Int → Int → Int} {f : Ev D} {a b : Int} (h0 : env[i]? = some (some (.fz (.int a)))) (h : f env = some (.int b, e1)) (s : e1.set i (some (.fz (.int (op a b)))) = e2) (q : Q .nx e2) : Ends (augS i op f env) Q := by
  subst s; unfold augS intAt; rw [h0]; dsimp only [Option.bind]; rw [h]; exact ⟨_, _, rfl, q⟩
theorem S_set {i : Nat} {fi fe : Ev D} {v : D} {n : Int} {j : Nat} {io : Bool} {ds : List D} (h : fe env = some (v, e1)) (h0 : ownAt e1 i = true) (h1 : fi e1 = some (.int n, e2)) (h2 : e2[i]? = some (some (.ol io ds))) (h3 : ixN ds.length n = some j) (s : e2.set i (some (.ol io (ds.set j v))) = e3) (q : Q .nx e3) : Ends (setS i fi fe env) Q := by
  subst s
  refine ⟨_, _, ?_, q⟩
  unfold setS; rw [h]; dsimp only [Option.bind]; refine guard_i h0 ?_; rw [h1]; dsimp only [Option.bind]; rw [h2]; dsimp only; rw [h3]
theorem S_augx {i : Nat} {op : Int → Int → Int} {fi fe : Ev D} {n a b : Int} {j : Nat} {io io' : Bool} {ds ds' : List D} (h0 : ownAt env i = true) (h1 : fi env = some (.int n, e1)) (h2 : e1[i]? = some (some (.ol io ds))) (h3 : ixN ds.length n = some j) (h4 : ds[j]? = some (.int a)) (h5 : fe e1 = some (.int b, e2)) (h6 : e2[i]? = some (some (.ol io' ds'))) (h7 : ds'.length = ds.length) (s : e2.set i (some (.ol io' (ds'.set j (.int (op a b))))) = e3) (q : Q .nx e3) : Ends (augxS i op fi fe env) Q := by
  subst s
  refine ⟨_, _, ?_, q⟩
  unfold augxS; refine guard_i h0 ?_; rw [h1]; dsimp only [Option.bind]; rw [h2]; dsimp only; rw [h3]; dsimp only [Option.bind]; rw [h4]; dsimp only; rw [h5]; dsimp only [Option.bind]; rw [h6]; exact guard_i (decide_eq_true h7) rfl
theorem S_app {i : Nat} {f : Ev D} {v : D} {io io' : Bool} {ds ds' : List D} (h0 : env[i]? = some (some (.ol io ds))) (h1 : f env = some (v, e1)) (h2 : e1[i]? = some (some (.ol io' ds'))) (h3 : ds'.length < 1000000) (s : e1.set i (some (.ol io' (ds' ++ [v]))) = e2) (q : Q .nx e2) : Ends (appS i f env) Q := by
  subst s
  refine ⟨_, _, ?_, q⟩
  unfold appS; refine guard_i ?_ ?_
  · unfold ownAt; rw [h0]; rfl
  · rw [h1]; dsimp only [Option.bind]; rw [h0, h2]; exact guard_i (decide_eq_true h3) rfl
theorem S_ext {i : Nat} {f : Ev D} {es : List D} {io io' : Bool} {ds ds' : List D} (h0 : env[i]? = some (some (.ol io ds))) (h1 : f env = some (.list es, e1)) (h2 : e1[i]? = some (some (.ol io' ds'))) (h3 : ds'.length + es.length ≤ 1000000) (s : e1.set i (some (.ol io' (ds' ++ es))) = e2) (q : Q .nx e2) : Ends (extS i f env) Q := by
  subst s
  refine ⟨_, _, ?_, q⟩
  unfold extS; refine guard_i ?_ ?_
  · unfold ownAt; rw [h0]; rfl
  · rw [h1]; dsimp only [Option.bind]; rw [h0, h2]; exact guard_i (decide_eq_true h3) rfl
theorem S_drop {f : Ev Res} {r : Res} (h : f env = some (r, e1)) (q : Q .nx e1) : Ends (dropS f env) Q := by unfold dropS; rw [h]; exact ⟨_, _, rfl, q⟩
theorem S_ret {f : Ev Res} {r : Res} (h : f env = some (r, e1)) (q : Q (.rt r) e1) : Ends (retS f env) Q := by unfold retS; rw [h]; exact ⟨_, _, rfl, q⟩
theorem S_if {c : Ev Bool} {f g : Es} {b : Bool} (h : c env = some (b, e1)) (k1 : b = true → Ends (f e1) Q) (k2 : b = false → Ends (g e1) Q) : Ends (ifS c f g env) Q := by
  unfold ifS; rw [h]; dsimp only [Option.bind]
  cases b with
  | true => rw [if_pos rfl]; exact k1 rfl
  | false => rw [if_neg (by decide)]; exact k2 rfl
theorem S_if_and {f g : Ev Bool} {k h : Es} {a : Bool} (h1 : f env = some (a, e1)) (k1 : a = true → Ends (ifS g k h e1) Q) (k2 : a = false → Ends (h e1) Q) : Ends (ifS (andT f g) k h env) Q := by
  unfold ifS andT; rw [h1]; dsimp only [Option.bind]
  cases a with
  | true => rw [if_pos rfl]; exact k1 rfl
  | false => rw [if_neg (by decide)]; dsimp only; rw [if_neg (by decide)]; exact k2 rfl
theorem S_if_or {f g : Ev Bool} {k h : Es} {a : Bool} (h1 : f env = some (a, e1)) (k1 : a = true → Ends (k e1) Q) (k2 : a = false → Ends (ifS g k h e1) Q) : Ends (ifS (orT f g) k h env) Q := by
  unfold ifS orT; rw [h1]; dsimp only [Option.bind]
  cases a with
  | true => rw [if_pos rfl]; dsimp only; rw [if_pos rfl]; exact k1 rfl
  | false => rw [if_neg (by decide)]; exact k2 rfl
theorem S_if_not {f : Ev Bool} {k h : Es} (k1 : Ends (ifS f h k env) Q) : Ends (ifS (notT f) k h env) Q := by
  unfold ifS notT at *
  cases e : f env with
  | none => rw [e] at k1; obtain ⟨_, _, z, _⟩ := k1; cases z
  | some p =>
    rw [e] at k1
    dsimp only [Option.bind] at *
    cases hp : p.1 with
    | true => rw [hp, if_pos rfl] at k1; rw [Bool.not_true, if_neg (by decide)]; exact k1
    | false => rw [hp, if_neg (by decide)] at k1; rw [Bool.not_false, if_pos rfl]; exact k1
theorem S_for {it : Ev (List D)} {tg : Tg} {body : Es} {ds : List D} (h : it env = some (ds, e1)) (k : Ends (forGo tg body ds e1) Q) : Ends (forS it tg body env) Q := by
  unfold forS; rw [h]; exact k
def LoopQ (P : Env → Prop) (Q : Fl → Env → Prop) : Fl → Env → Prop
  | .nx, e => P e
  | .ct, e => P e
  | .bk, e => Q .nx e
  | .rt r, e => Q (.rt r) e
theorem LoopQ.nx {P : Env → Prop} (h : P env) : LoopQ P Q .nx env := h
theorem LoopQ.ct {P : Env → Prop} (h : P env) : LoopQ P Q .ct env := h
theorem LoopQ.bk {P : Env → Prop} (h : Q .nx env) : LoopQ P Q .bk env := h
theorem LoopQ.rt {P : Env → Prop} {r : Res} (h : Q (.rt r) env) : LoopQ P Q (.rt r) env := h
theorem for_nil {tg : Tg} {body : Es} (h : Q .nx env) : Ends (forGo tg body [] env) Q := ⟨_, _, rfl, h⟩
theorem for_cons {tg : Tg} {body : Es} {d : D} {ds : List D} (h : tgE tg d env = some e1) (k : Ends (body e1) (LoopQ (fun e => Ends (forGo tg body ds e) Q) Q)) : Ends (forGo tg body (d :: ds) env) Q := by
  unfold forGo; rw [h]; dsimp only [Option.bind]
  obtain ⟨fl, e, a, b⟩ := k
  rw [a]; dsimp only [Option.bind]
  cases fl with
  | nx => exact b
  | ct => exact b
  | bk => exact ⟨_, _, rfl, b⟩
  | rt r => exact ⟨_, _, rfl, b⟩
/-- a loop over a mapped list, by what holds ahead of each element -/
theorem for_map {α : Type} {tg : Tg} {body : Es} {enc : α → D} (I : List α → Env → Prop) (H : ∀ x xs e, I (x :: xs) e → ∃ e', tgE tg (enc x) e = some e' ∧ Ends (body e') (LoopQ (fun e => I xs e) Q)) (N : ∀ e, I [] e → Q .nx e) :
    ∀ (l : List α) {e : Env}, I l e → Ends (forGo tg body (l.map enc) e) Q := by
  intro l
  induction l with
  | nil => exact fun {e} h => for_nil (N e h)
  | cons x xs ih =>
    intro e h
    obtain ⟨e', h1, h2⟩ := H x xs e h
    refine for_cons h1 (h2.mono fun fl e k => ?_)
    cases fl with
    | nx => exact ih k
    | ct => exact ih k
    | bk => exact k
    | rt r => exact k
theorem runT_i {n : Nat} {e0 : Env} {body : Es} {avs : List Opd} {r : Res} (h0 : envOf n avs = e0) (h : Ends (body e0) fun fl _ => resOfFl fl = some r) : runT n body avs = some r := by
  subst h0
  obtain ⟨fl, e, a, b⟩ := h
  unfold runT; rw [a]; exact b
theorem runT_x {n : Nat} {e0 : Env} {body : Es} {avs : List Opd} {R : Res → Prop} (h0 : envOf n avs = e0) (h : Ends (body e0) fun fl _ => ∃ r, resOfFl fl = some r ∧ R r) : ∃ r, runT n body avs = some r ∧ R r := by
  subst h0
  obtain ⟨fl, e, a, r, b, c⟩ := h
  exact ⟨r, by unfold runT; rw [a]; exact b, c⟩
theorem runU_x {n : Nat} {e0 : Env} {body : Es} {ov : OV} {avs : List Opd} {R : Res → OV → Prop} (h0 : (some (ov.setIo true) :: envOf (n - 1) avs) = e0) (h : Ends (body e0) fun fl e => ∃ r ov', resOfFl fl = some r ∧ e[0]? = some (some ov') ∧ (ov'.owned && ov'.io) = true ∧ R r (ov'.setIo false)) : ∃ r ov', runU n body ov avs = some (r, ov') ∧ R r ov' := by
  subst h0
  obtain ⟨fl, e, a, r, ov', b, c, d, q⟩ := h
  refine ⟨r, _, ?_, q⟩
  unfold runU; rw [a]; dsimp only [Option.bind]; rw [b]; dsimp only [Option.bind]; rw [c]; exact guard_i d rfl
theorem runU_i {n : Nat} {e0 : Env} {body : Es} {ov ov2 : OV} {avs : List Opd} {r : Res} (h0 : (some (ov.setIo true) :: envOf (n - 1) avs) = e0) (h : Ends (body e0) fun fl e => ∃ ov', resOfFl fl = some r ∧ e[0]? = some (some ov') ∧ (ov'.owned && ov'.io) = true ∧ ov'.setIo false = ov2) : runU n body ov avs = some (r, ov2) := by
  subst h0
  obtain ⟨fl, e, a, ov', b, c, d, q⟩ := h
  subst q
  unfold runU; rw [a]; dsimp only [Option.bind]; rw [b]; dsimp only [Option.bind]; rw [c]; exact guard_i d rfl
/-! ### operations -/
theorem G_addL {a b : List D} (h : a.length + b.length ≤ 1000000) : gAdd (.list a) (.list b) = some (.l (a ++ b)) := guard_i (decide_eq_true h) rfl
theorem G_addT {a b : List D} (h : a.length + b.length ≤ 1000000) : gAdd (.tuple a) (.tuple b) = some (.d (.tuple (a ++ b))) := guard_i (decide_eq_true h) rfl
theorem G_addI {i j : Int} : gAdd (.int i) (.int j) = some (.d (.int (i + j))) := rfl
theorem G_subI {i j : Int} : gSub2 (.int i) (.int j) = some (.d (.int (i - j))) := rfl
theorem G_mulI {i j : Int} (h1 : i.natAbs < BIGN) (h2 : j.natAbs < BIGN) : gMul (.int i) (.int j) = some (.d (.int (i * j))) := guard_i (by rw [decide_eq_true h1, decide_eq_true h2]; rfl) rfl
theorem G_mulL {a : List D} {j : Int} (h1 : -1000000 ≤ j) (h2 : j ≤ 1000000) (h3 : a.length * j.toNat ≤ 1000000) : gMul (.list a) (.int j) = some (.l (List.replicate j.toNat a).flatten) := guard_i (by rw [decide_eq_true h1, decide_eq_true h2, decide_eq_true h3]; rfl) rfl
theorem G_mulL1 {x : D} {j : Int} (h1 : -1000000 ≤ j) (h2 : j ≤ 1000000) : gMul (.list [x]) (.int j) = some (.l (List.replicate j.toNat x)) := by
  rw [G_mulL h1 h2 (by simp; omega)]
  congr 2
  generalize j.toNat = n
  induction n with
  | zero => rfl
  | succ n ih => rw [List.replicate_succ, List.replicate_succ, List.flatten_cons, ih]; rfl
theorem G_fdiv {i j : Int} (h1 : 0 < j) (h2 : j.natAbs < BIGN) : gFdiv (.int i) (.int j) = some (.d (.int (i / j))) := guard_i (by rw [decide_eq_true h1, decide_eq_true h2]; rfl) rfl
theorem G_mod {i j : Int} (h1 : 0 < j) : gMod (.int i) (.int j) = some (.d (.int (i % j))) := guard_i (decide_eq_true h1) rfl
theorem G_pow {i j : Int} (h : (decide (0 ≤ j) && decide (j ≤ 1000) && decide (i.natAbs < 18446744073709551616)) = true) : gPow (.int i) (.int j) = some (.d (.int (i ^ j.toNat))) := guard_i h rfl
theorem G_cmp {p : Int → Int → Bool} {i j : Int} : gCmp p (.int i) (.int j) = some (.d (.bool (p i j))) := rfl
theorem G_eqI {i j : Int} : gEq (.int i) (.int j) = some (.d (.bool (i == j))) := rfl
theorem G_neI {i j : Int} : gNe (.int i) (.int j) = some (.d (.bool (!(i == j)))) := rfl
theorem G_ixL {ds : List D} {i : Int} {d : D} (h : atI ds i = some d) : gIx (.list ds) (.int i) = some (.d d) := by simp [gIx, h]
theorem G_ixT {ds : List D} {i : Int} {d : D} (h : atI ds i = some d) : gIx (.tuple ds) (.int i) = some (.d d) := by simp [gIx, h]
theorem G_min2 {i j : Int} : gMin2 [.int i, .int j] = some (.d (.int (min i j))) := by
  show some (Res.d (PyData.int (if j < i then j else i))) = _
  congr 3; split <;> omega
theorem G_max2 {i j : Int} : gMax2 [.int i, .int j] = some (.d (.int (max i j))) := by
  show some (Res.d (PyData.int (if j > i then j else i))) = _
  congr 3; split <;> omega
theorem G_abs {i : Int} : gAbs [.int i] = some (.d (.int (i.natAbs : Int))) := by
  show some (Res.d (PyData.int (if i < 0 then -i else i))) = _
  congr 3; split <;> omega
theorem G_sum {ns : List Int} : gSum [.list (ns.map .int)] = some (.d (.int ns.sum)) := by
  show (intsOf (ns.map PyData.int)).bind _ = _
  rw [intsOf_map]
  rfl
end
end NS

set_option Elab.async false
set_option linter.all false
/-! NsY: rules for the evaluators of NsX (the plain side). -/
namespace NS
open PySem L2 NT
variable [W : NT.Wd]
section
variable {env e1 e2 e3 : Env} {Q : Fl → Env → Prop}
theorem E_isi {T : String} {f : Ev Opd} {a : Opd} {d : D} (h1 : f env = some (a, e1)) (h2 : opD e1 a = some d) : isiR T f env = some (.d (.bool (isiB T d)), e1) := by
  unfold isiR; rw [h1]; dsimp only [Option.bind]; rw [h2]
theorem E_zipL {f : Ev (List Opd)} {a b : List D} (h1 : f env = some ([.v (.list a), .v (.list b)], e1)) : itZip f env = some (zipD a b, e1) := by unfold itZip; rw [h1]; rfl
theorem E_zipT {f : Ev (List Opd)} {a b : List D} (h1 : f env = some ([.v (.tuple a), .v (.tuple b)], e1)) : itZip f env = some (zipD a b, e1) := by unfold itZip; rw [h1]; rfl
theorem E_enum {f : Ev (List Opd)} {a : List D} (h1 : f env = some ([.v (.list a)], e1)) : itEnum f env = some (enumD a, e1) := by unfold itEnum; rw [h1]; rfl
theorem S_ins {i : Nat} {fi fe : Ev D} {n : Int} {v : D} {io io' : Bool} {ds ds' : List D} (h0 : env[i]? = some (some (.ol io ds))) (h1 : fi env = some (.int n, e1)) (h2 : fe e1 = some (v, e2)) (h3 : e2[i]? = some (some (.ol io' ds'))) (k1 : 0 ≤ n) (k2 : n ≤ 1000000) (k3 : ds'.length < 1000000)
    (s : e2.set i (some (.ol io' (ds'.take n.toNat ++ [v] ++ ds'.drop n.toNat))) = e3) (q : Q .nx e3) : Ends (insS i fi fe env) Q := by
  subst s
  refine ⟨_, _, ?_, q⟩
  unfold insS; refine guard_i ?_ ?_
  · unfold ownAt; rw [h0]; rfl
  · rw [h1]; dsimp only [Option.bind]; rw [h2]; dsimp only [Option.bind]; rw [h0, h3]; exact guard_i (by rw [decide_eq_true k1, decide_eq_true k2, decide_eq_true k3]; rfl) rfl
theorem G_slAL {ds : List D} {lo hi : Option Int} : gSlA (.list ds) lo hi = some (.l (cutD ds lo hi)) := rfl
theorem G_slAT {ds : List D} {lo hi : Option Int} : gSlA (.tuple ds) lo hi = some (.d (.tuple (cutD ds lo hi))) := rfl
theorem G_allL {bs : List Bool} : gAll [.list (bs.map .bool)] = some (.d (.bool (bs.all id))) := by
  show (boolsOf (bs.map PyData.bool)).bind _ = _
  rw [boolsOf_map]; rfl
theorem G_anyL {bs : List Bool} : gAny [.list (bs.map .bool)] = some (.d (.bool (bs.any id))) := by
  show (boolsOf (bs.map PyData.bool)).bind _ = _
  rw [boolsOf_map]; rfl
theorem G_strI {i : Int} (h : i.natAbs < BIGN) : gStr [.int i] = some (.d (.str (toString i : String))) := guard_i (decide_eq_true h) rfl
theorem G_strS {z : Str} : gStr [.str z] = some (.d (.str z)) := rfl
open Classical in
theorem E_callF {i : Nat} {F : FnI} {g : List Opd → Option Res} {fa : Ev (List Opd)} {xs : List Opd} {r : Res} (h0 : env[i]? = some (some (.fn F))) (h1 : fa env = some (xs, e1)) (h2 : e1[i]? = some (some (.fn F))) (h3 : g xs = some r) : callF i F g fa env = some (r, e1) := by
  unfold callF
  rw [if_pos h0, h1]
  show (if e1[i]? = some (some (.fn F)) then (g xs).bind fun r => some (r, e1) else none) = _
  rw [if_pos h2, h3]
  rfl
open Classical in
theorem E_callL {n na : Nat} {body : FnI → (List Opd → Option Res) → Es} {fb : Ev Res} {fa : Ev (List Opd)} {xs : List Opd} {r : Res} (h1 : fa env = some (xs, e1)) (h2 : (noR xs && xs.length == na) = true) (h3 : ∀ F : FnI, F.ds = capsOf e1 → runF n F (body F (lamG fb F.ds)) xs = some r) : callL n na body fb fa env = some (r, e1) := by
  unfold callL
  rw [h1]
  refine guard_i h2 ?_
  have h : ∃ res, ∀ F : FnI, F.ds = capsOf e1 → runF n F (body F (lamG fb F.ds)) xs = some res := ⟨r, h3⟩
  show (if h : ∃ res, ∀ F : FnI, F.ds = capsOf e1 → runF n F (body F (lamG fb F.ds)) xs = some res then some (Classical.choose h, e1) else none) = _
  rw [dif_pos h]
  have q := Classical.choose_spec h ⟨0, 0, "", [], capsOf e1⟩ rfl
  rw [h3 _ rfl] at q
  rw [← Option.some.inj q]
theorem lamG_i {fb : Ev Res} {ds : List (Option D)} {d x : D} {e e2 : Env} (h0 : lamEnvOf ds d = e) (h : fb e = some (.d x, e2)) : lamG fb ds [.v d] = some (.d x) := by
  subst h0
  unfold lamG
  show (fb (lamEnvOf ds d)).bind _ = _
  rw [h]
  rfl
theorem runF_i {n : Nat} {F : FnI} {e0 : Env} {body : Es} {avs : List Opd} {r : Res} (h0 : (some (.fn F) :: envOf (n - 1) avs) = e0) (h : Ends (body e0) fun fl _ => resOfFl fl = some r) : runF n F body avs = some r := by
  subst h0
  obtain ⟨fl, e, a, b⟩ := h
  unfold runF; rw [a]; exact b
/-- a comprehension with a condition over a mapped list, its environment kept -/
theorem lc_fil {α : Type} {tg : Tg} {cond : Ev Bool} {elt : Ev D} {own : List Nat} {P : α → Prop} {enc : α → D} {p : α → Bool} {out : α → D} {e : Env}
    (H : ∀ x, P x → ∃ e1, tgE tg (enc x) e = some e1 ∧ Ev1 (cond e1) fun b e2 => b = p x ∧ (p x = true → Ev1 (elt e2) fun d e3 => d = out x ∧ wipeE e3 own = e) ∧ (p x = false → wipeE e2 own = e)) :
    ∀ (l : List α) (acc : List D), (∀ x ∈ l, P x) → acc.length + l.length ≤ 1000000 → lcGo tg cond elt own (l.map enc) e acc = some (acc ++ (l.filter p).map out, e) := by
  intro l
  induction l with
  | nil => intro acc _ _; simp [lcGo]
  | cons x xs ih =>
    intro acc hp hl
    rw [List.length_cons] at hl
    obtain ⟨e1, h1, b, e2, h2, rfl, h3, h4⟩ := H x (hp x (by simp))
    rw [List.map_cons]
    unfold lcGo
    rw [h1]; dsimp only [Option.bind]; rw [h2]; dsimp only [Option.bind]
    cases hb : p x with
    | true =>
      obtain ⟨d, e3, h5, rfl, h6⟩ := h3 hb
      rw [if_pos rfl, h5]; dsimp only [Option.bind]
      rw [h6]
      refine guard_i (decide_eq_true (by omega)) ?_
      rw [ih _ (fun y hy => hp y (by simp [hy])) (by rw [List.length_append, List.length_singleton]; omega), List.filter_cons_of_pos hb, List.map_cons, List.append_assoc, List.singleton_append]
    | false =>
      rw [if_neg (by decide), h4 hb, ih _ (fun y hy => hp y (by simp [hy])) (by omega), List.filter_cons_of_neg (by rw [hb]; decide)]
theorem G_srtL {ns : List Int} (h : ns.length < 64) : gSortA [.list (ns.map .int)] = some (.l ((sortI ns).map .int)) := by
  show (intsOf (ns.map PyData.int)).bind _ = _
  rw [intsOf_map]
  exact guard_i (decide_eq_true h) rfl
theorem G_srtT {ns : List Int} (h : ns.length < 64) : gSortA [.tuple (ns.map .int)] = some (.l ((sortI ns).map .int)) := by
  show (intsOf (ns.map PyData.int)).bind _ = _
  rw [intsOf_map]
  exact guard_i (decide_eq_true h) rfl
theorem lc_fil0 {α : Type} {tg : Tg} {cond : Ev Bool} {elt : Ev D} {own : List Nat} {enc : α → D} {e : Env} (P : α → Prop) (p : α → Bool) (out : α → D) (l : List α) (hp : ∀ x ∈ l, P x) (hl : l.length ≤ 1000000)
    (H : ∀ x, P x → ∃ e1, tgE tg (enc x) e = some e1 ∧ Ev1 (cond e1) fun b e2 => b = p x ∧ (p x = true → Ev1 (elt e2) fun d e3 => d = out x ∧ wipeE e3 own = e) ∧ (p x = false → wipeE e2 own = e)) :
    lcGo tg cond elt own (l.map enc) e [] = some ((l.filter p).map out, e) := lc_fil H l [] hp (by simp; exact hl)
theorem E_enumAL {f : Ev (List Opd)} {a : List D} (h1 : f env = some ([.v (.list a)], e1)) : itEnumA f env = some (enumD a, e1) := by unfold itEnumA; rw [h1]; rfl
theorem E_enumAT {f : Ev (List Opd)} {a : List D} (h1 : f env = some ([.v (.tuple a)], e1)) : itEnumA f env = some (enumD a, e1) := by unfold itEnumA; rw [h1]; rfl
theorem E_enumA {f : Ev (List Opd)} {d : D} {a : List D} (h1 : f env = some ([.v d], e1)) (h2 : asSeqD d = some a) : itEnumA f env = some (enumD a, e1) := by
  unfold itEnumA; rw [h1]
  cases d with
  | list ds => cases h2; rfl
  | tuple ds => cases h2; rfl
  | _ => cases h2
theorem G_minP {p : Int × Int} {ps : List (Int × Int)} : gMinA [.list ((p :: ps).map pairD)] = some (.d (pairD (PySem.W.minOf p ps))) := by
  show (match intsOf ((p :: ps).map pairD) with
    | some ns => ns.min?.bind fun m => some (Res.d (.int m))
    | none => (pairsOf ((p :: ps).map pairD)).bind fun ps => match ps with
      | p :: ps => some (Res.d (pairD (PySem.W.minOf p ps)))
      | [] => none) = _
  rw [show intsOf ((p :: ps).map pairD) = none from rfl, pairsOf_map]
  rfl
theorem E_chain3 {g g' : D → D → Option Res} {fa fb fc : Ev Opd} {a b c : Opd} {x y z : D} {t u : Bool} (h1 : fa env = some (a, e1)) (h2 : fb e1 = some (b, e2)) (h3 : opD e2 a = some x) (h4 : opD e2 b = some y) (h5 : g x y = some (.d (.bool t))) (h6 : fc e2 = some (c, e2)) (h7 : opD e2 c = some z) (h8 : g' y z = some (.d (.bool u))) :
    chain3 g g' fa fb fc env = some (.d (.bool (t && u)), e2) := by
  unfold chain3; rw [h1]; dsimp only [Option.bind]; rw [h2]; dsimp only [Option.bind]; rw [h3, h4]; dsimp only [Option.bind]; rw [h5]
  cases t with
  | true => dsimp only; rw [h6]; dsimp only [Option.bind]; rw [h4, h7]; dsimp only [Option.bind]; rw [h8]; rfl
  | false => rfl
/-- `x[0][0] if x != () else 0` of a tuple of rows -/
def FirstOf (R : D) (f : Int) : Prop := (gNe R (.tuple []) = some (.d (.bool false)) ∧ f = 0) ∨ (gNe R (.tuple []) = some (.d (.bool true)) ∧ ∃ (a : Int) (b : List D) (l : List D), R = .tuple (.tuple (.int a :: b) :: l) ∧ f = a)
theorem E_first {i : Nat} {R : D} {f : Int} (h1 : env[i]? = some (some (.fz R))) (h2 : FirstOf R f) : ifR (boolOf (bin2 gNe (slotP i) (opOf (layOf (tupR nilA))))) (bin2 gIxA (opOf (layOf (bin2 gIxA (slotP i) (opOf (cstE (.int 0)))))) (opOf (cstE (.int 0)))) (resOf (cstE (.int 0))) env = some (.d (.int f), env) := by
  have hn : ∀ b, gNe R (.tuple []) = some (.d (.bool b)) → boolOf (bin2 gNe (slotP i) (opOf (layOf (tupR nilA)))) env = some (b, env) := fun b h => E_boolOf (E_bin2 (E_slotP h1) (E_opOf (E_layOf (E_tupR E_nilA rfl (by decide)) rfl)) opD_v opD_v h)
  rcases h2 with ⟨h, rfl⟩ | ⟨h, a, b, l, rfl, rfl⟩
  · exact E_ifRb (hn false h) (pickR_f (E_resOf E_cst))
  · exact E_ifRb (hn true h) (pickR_t (E_bin2 (E_opOf (E_layOf (E_bin2 (E_slotP h1) (E_opOf E_cst) opD_v opD_v (show gIxA (.tuple _) (.int 0) = _ from G_ixT (atI_nat (j := 0) rfl))) rfl)) (E_opOf E_cst) opD_v opD_v (show gIxA (.tuple _) (.int 0) = _ from G_ixT (atI_nat (j := 0) rfl))))
theorem E_callB2 {g : List Opd → Option Res} {fa fb : Ev (List Opd)} {xs ys : List Opd} {da db : List D} {b : Bool} (h1 : fa env = some (xs, e1)) (h2 : fb e1 = some (ys, e2)) (h3 : opDs e2 xs = some da) (h4 : opDs e2 ys = some db) (h5 : da.length ≤ 100000) (h6 : db.length ≤ 100000) (h7 : g [.v (.list da), .v (.list db)] = some (.d (.bool b))) : callB2 g fa fb env = some (.d (.bool b), e2) := by
  unfold callB2
  rw [h1]; dsimp only [Option.bind]; rw [h2]; dsimp only [Option.bind]; rw [h3]; dsimp only [Option.bind]; rw [h4]; dsimp only [Option.bind]
  refine guard_i (by rw [decide_eq_true h5, decide_eq_true h6]; rfl) ?_
  rw [h7]
theorem E_sortNeg {fa : Ev (List Opd)} {ns : List Int} (h1 : fa env = some ([.v (.list (ns.map .int))], e1)) (h2 : ns.length ≤ 1000000) : sortNegR fa env = some (.l ((sortN ns).map .int), e1) := by
  unfold sortNegR
  rw [h1]
  show (intsOf (ns.map PyData.int)).bind _ = _
  rw [intsOf_map]
  exact guard_i (decide_eq_true h2) rfl
theorem runF2_i {n : Nat} {F : FnI} {e0 : Env} {body : Es} {d : D} {r : Res} (h0 : env2 n F d = e0) (h : Ends (body e0) fun fl _ => resOfFl fl = some r) : runF2 n F body d = some r := by
  subst h0
  obtain ⟨fl, e, a, b⟩ := h
  unfold runF2; rw [a]; exact b
open Classical in
theorem E_callL2 {n : Nat} {body : FnI → (List Opd → Option Res) → Es} {fb : Ev Res} {fe : Ev Opd} {d : D} {r : Res} (h1 : fe env = some (.v d, e1)) (h3 : ∀ F : FnI, F.ds = capsOf e1 → runF2 n F (body F (lamG fb F.ds)) d = some r) : callL2 n body fb fe env = some (r, e1) := by
  unfold callL2
  rw [h1]
  have h : ∃ res, ∀ F : FnI, F.ds = capsOf e1 → runF2 n F (body F (lamG fb F.ds)) d = some res := ⟨r, h3⟩
  show (if h : ∃ res, ∀ F : FnI, F.ds = capsOf e1 → runF2 n F (body F (lamG fb F.ds)) d = some res then some (Classical.choose h, e1) else none) = _
  rw [dif_pos h]
  have q := Classical.choose_spec h ⟨0, 0, "", [], capsOf e1⟩ rfl
  rw [h3 _ rfl] at q
  rw [← Option.some.inj q]
theorem G_maxL {ns : List Int} {m : Int} (h : ns.max? = some m) : gMaxL [.list (ns.map .int)] = some (.d (.int m)) := by
  show (intsOf (ns.map PyData.int)).bind _ = _
  rw [intsOf_map]
  show (ns.max?).bind _ = _
  rw [h]; rfl
theorem S_extA {i : Nat} {f : Ev D} {d : D} {es : List D} {io io' : Bool} {ds ds' : List D} (h0 : env[i]? = some (some (.ol io ds))) (h1 : f env = some (d, e1)) (hd : asSeqD d = some es) (h2 : e1[i]? = some (some (.ol io' ds'))) (h3 : ds'.length + es.length ≤ 1000000) (s : e1.set i (some (.ol io' (ds' ++ es))) = e2) (q : Q .nx e2) : Ends (extS i f env) Q := by
  cases d with
  | list xs => cases hd; exact S_ext h0 h1 h2 h3 s q
  | tuple xs =>
    cases hd
    subst s
    refine ⟨_, _, ?_, q⟩
    unfold extS; refine guard_i ?_ ?_
    · unfold ownAt; rw [h0]; rfl
    · rw [h1]; dsimp only [Option.bind]; rw [h0, h2]; exact guard_i (decide_eq_true h3) rfl
  | _ => cases hd
theorem pickR_k {f g : Ev Res} {b : Bool} {x : Option (Res × Env)} (hb : b = true) (h : f env = x) : pickR b f g env = x := by subst hb; exact h
theorem sh_orV {f g : Ev Res} {x : Option (Res × Env)} (h : orV f g env = x) : orV f g env = x := h
theorem pickR_kf {f g : Ev Res} {b : Bool} {x : Option (Res × Env)} (hb : b = false) (h : g env = x) : pickR b f g env = x := by subst hb; exact h
end
end NS

set_option Elab.async false
set_option linter.all false
set_option maxRecDepth 100000
set_option maxHeartbeats 4000000
/-! NtV: the plain side of the Nt texts. -/
namespace NS
open PySem L2 NT
variable [W : NT.Wd]
section
variable {env e1 e2 e3 e4 : Env} {Q : Fl → Env → Prop}
/-- the tree of a dict -/
def dOf (kvs : List (NK × D)) : List (D × D) := kvs.map fun p => (p.1.data, p.2)
theorem look_at {kvs : List (NK × D)} {k : NK} : lookD k (dOf kvs) = atN kvs k := by
  unfold dOf atN
  induction kvs with
  | nil => rfl
  | cons p kvs ih =>
    rw [List.map_cons, List.find?_cons]
    unfold lookD
    rw [asNk_data]
    by_cases h : p.1 = k
    · rw [if_pos (by rw [h]), decide_eq_true h]; rfl
    · rw [if_neg (fun z => h (Option.some.inj z)), decide_eq_false h]; exact ih
theorem opD_rd {i : Nat} {io : Bool} {kvs : List (NK × D)} (h : env[i]? = some (some (.od io kvs))) : opD env (.r i) = some (.dict (dOf kvs)) := opD_r h rfl rfl
theorem ov_k {xs : List (NK × D)} : Res.ov (.k xs) = .od false xs := rfl
theorem toD_k {xs : List (NK × D)} : Res.toD (.k xs) = .dict (dOf xs) := rfl
theorem key_int {i : Int} : keyN (.int i) = some (.num i) := rfl
theorem key_str {x : Str} : keyN (.str x) = some (.text x) := rfl
theorem key_non : keyN .none = some .none := rfl
theorem key_ss {x y : Str} : keyN (.tuple [.str x, .str y]) = some (.tup [.text x, .text y]) := rfl
theorem G_ixAL {ds : List D} {i : Int} {d : D} (h : atI ds i = some d) : gIxA (.list ds) (.int i) = some (.d d) := G_ixL h
theorem G_ixAT {ds : List D} {i : Int} {d : D} (h : atI ds i = some d) : gIxA (.tuple ds) (.int i) = some (.d d) := G_ixT h
theorem G_ixAD {kvs : List (NK × D)} {y d : D} {k : NK} (h : keyN y = some k) (h2 : atN kvs k = some d) : gIxA (.dict (dOf kvs)) y = some (.d d) := by
  show ((keyN y).bind fun k => (lookD k (dOf kvs)).bind fun d => some (Res.d d)) = _
  rw [h]
  show ((lookD k (dOf kvs)).bind fun d => some (Res.d d)) = _
  rw [look_at, h2]; rfl
theorem G_inAD {kvs : List (NK × D)} {y : D} {k : NK} (h : keyN y = some k) : gInA y (.dict (dOf kvs)) = some (.d (.bool (atN kvs k).isSome)) := by
  show (inD y (.dict (dOf kvs))).bind _ = _
  have e : inD y (.dict (dOf kvs)) = some (atN kvs k).isSome := by
    unfold inD
    split
    · rename_i e; cases e
    · rename_i e; cases e
    · rename_i e; cases e
    · rename_i e
      cases e
      rw [h]
      show some (lookD k (dOf kvs)).isSome = _
      rw [look_at]
    · exfalso; simp_all
  rw [e]; rfl
theorem G_notinAD {kvs : List (NK × D)} {y : D} {k : NK} (h : keyN y = some k) : gNotInA y (.dict (dOf kvs)) = some (.d (.bool (!(atN kvs k).isSome))) := by
  have e := G_inAD (kvs := kvs) h
  unfold gInA at e
  obtain ⟨b, e1, e2⟩ := bindS e
  cases e2
  unfold gNotInA
  rw [e1]; rfl
theorem S_setA {i : Nat} {fi fe : Ev D} {v : D} {n : Int} {j : Nat} {io : Bool} {ds : List D} (h : fe env = some (v, e1)) (h0 : ownAt e1 i = true) (h1 : fi e1 = some (.int n, e2)) (h2 : e2[i]? = some (some (.ol io ds))) (h3 : ixN ds.length n = some j) (s : e2.set i (some (.ol io (ds.set j v))) = e3) (q : Q .nx e3) : Ends (setAS i fi fe env) Q := by
  subst s
  refine ⟨_, _, ?_, q⟩
  unfold setAS; rw [h]; dsimp only [Option.bind]; refine guard_i h0 ?_; rw [h1]; dsimp only [Option.bind]; rw [h2]; dsimp only; rw [h3]
theorem S_setAD {i : Nat} {fi fe : Ev D} {v y : D} {k : NK} {io : Bool} {kvs : List (NK × D)} (h : fe env = some (v, e1)) (h0 : ownAt e1 i = true) (h1 : fi e1 = some (y, e2)) (h2 : e2[i]? = some (some (.od io kvs))) (hk : keyN y = some k) (hl : kvs.length < 1000000) (s : e2.set i (some (.od io (putN kvs k v))) = e3) (q : Q .nx e3) : Ends (setAS i fi fe env) Q := by
  subst s
  refine ⟨_, _, ?_, q⟩
  unfold setAS; rw [h]; dsimp only [Option.bind]; refine guard_i h0 ?_; rw [h1]; dsimp only [Option.bind]; rw [h2]; dsimp only; rw [hk]; dsimp only [Option.bind]; exact guard_i (decide_eq_true hl) rfl
theorem S_augA {i : Nat} {op : Int → Int → Int} {fi fe : Ev D} {n a b : Int} {j : Nat} {io io' : Bool} {ds ds' : List D} (h0 : ownAt env i = true) (h1 : fi env = some (.int n, e1)) (h2 : e1[i]? = some (some (.ol io ds))) (h3 : ixN ds.length n = some j) (h4 : ds[j]? = some (.int a)) (h5 : fe e1 = some (.int b, e2)) (h6 : e2[i]? = some (some (.ol io' ds'))) (h7 : ds'.length = ds.length) (s : e2.set i (some (.ol io' (ds'.set j (.int (op a b))))) = e3) (q : Q .nx e3) : Ends (augAS i op fi fe env) Q := by
  subst s
  refine ⟨_, _, ?_, q⟩
  unfold augAS; refine guard_i h0 ?_; rw [h1]; dsimp only [Option.bind]; rw [h2]; dsimp only; rw [h3]; dsimp only [Option.bind]; rw [h4]; dsimp only; rw [h5]; dsimp only [Option.bind]; rw [h6]; exact guard_i (decide_eq_true h7) rfl
theorem S_augAD {i : Nat} {op : Int → Int → Int} {fi fe : Ev D} {y : D} {k : NK} {a b : Int} {io io' : Bool} {kvs kvs' : List (NK × D)} (h0 : ownAt env i = true) (h1 : fi env = some (y, e1)) (h2 : e1[i]? = some (some (.od io kvs))) (h3 : keyN y = some k) (h4 : atN kvs k = some (.int a)) (h5 : fe e1 = some (.int b, e2)) (h6 : e2[i]? = some (some (.od io' kvs'))) (h7 : kvs'.length < 1000000) (s : e2.set i (some (.od io' (putN kvs' k (.int (op a b))))) = e3) (q : Q .nx e3) : Ends (augAS i op fi fe env) Q := by
  subst s
  refine ⟨_, _, ?_, q⟩
  unfold augAS; refine guard_i h0 ?_; rw [h1]; dsimp only [Option.bind]; rw [h2]; dsimp only; rw [h3]; dsimp only [Option.bind]; rw [h4]; dsimp only; rw [h5]; dsimp only [Option.bind]; rw [h6]; exact guard_i (decide_eq_true h7) rfl
def setOV : OV → D → D → Option OV
  | .ol io ds, .int n, v => (ixN ds.length n).bind fun j => some (.ol io (ds.set j v))
  | .od io kvs, y, v => (keyN y).bind fun k => guardO (decide (kvs.length < 1000000)) (some (.od io (putN kvs k v)))
  | _, _, _ => none
def getOV : OV → D → Option Int
  | .ol _ ds, .int n => (ixN ds.length n).bind fun j => match ds[j]? with
    | some (.int a) => some a
    | _ => none
  | .od _ kvs, y => (keyN y).bind fun k => match atN kvs k with
    | some (.int a) => some a
    | _ => none
  | _, _ => none
def lenOV : OV → Nat
  | .ol _ ds => ds.length
  | _ => 0
def kindOV : OV → Bool
  | .ol _ _ => true
  | _ => false
theorem setOV_l {io : Bool} {ds : List D} {n : Int} {v : D} {j : Nat} (h : ixN ds.length n = some j) : setOV (.ol io ds) (.int n) v = some (.ol io (ds.set j v)) := by
  show (ixN ds.length n).bind _ = _
  rw [h]; rfl
theorem setOV_d {io : Bool} {kvs : List (NK × D)} {y v : D} {k : NK} (hk : keyN y = some k) (hl : kvs.length < 1000000) : setOV (.od io kvs) y v = some (.od io (putN kvs k v)) := by
  show (keyN y).bind _ = _
  rw [hk]; exact guard_i (decide_eq_true hl) rfl
theorem getOV_l {io : Bool} {ds : List D} {n a : Int} {j : Nat} (h : ixN ds.length n = some j) (h2 : ds[j]? = some (.int a)) : getOV (.ol io ds) (.int n) = some a := by
  show (ixN ds.length n).bind _ = _
  rw [h]; dsimp only [Option.bind]; rw [h2]
theorem getOV_d {io : Bool} {kvs : List (NK × D)} {y : D} {a : Int} {k : NK} (hk : keyN y = some k) (h2 : atN kvs k = some (.int a)) : getOV (.od io kvs) y = some a := by
  show (keyN y).bind _ = _
  rw [hk]; dsimp only [Option.bind]; rw [h2]
theorem S_setX {i : Nat} {fi fe : Ev D} {v y : D} {ov ov' : OV} (h : fe env = some (v, e1)) (h0 : ownAt e1 i = true) (h1 : fi e1 = some (y, e2)) (h2 : e2[i]? = some (some ov)) (h3 : setOV ov y v = some ov') (s : e2.set i (some ov') = e3) (q : Q .nx e3) : Ends (setAS i fi fe env) Q := by
  cases ov with
  | ol io ds =>
    cases y with
    | int n =>
      obtain ⟨j, e1, e2⟩ := bindS (show (ixN ds.length n).bind _ = _ from h3)
      cases e2
      exact S_setA h h0 h1 h2 e1 s q
    | _ => cases h3
  | od io kvs =>
    obtain ⟨k, e1, e2⟩ := bindS (show (keyN y).bind _ = _ from h3)
    obtain ⟨hl, e2⟩ := guardS e2
    cases e2
    exact S_setAD h h0 h1 h2 e1 (of_decide_eq_true hl) s q
  | _ => cases h3
theorem S_augX {i : Nat} {op : Int → Int → Int} {fi fe : Ev D} {y : D} {a b : Int} {ov ov' ov2 : OV} (h0 : ownAt env i = true) (h1 : fi env = some (y, e1)) (h2 : e1[i]? = some (some ov)) (h3 : getOV ov y = some a) (h5 : fe e1 = some (.int b, e2)) (h6 : e2[i]? = some (some ov')) (h7 : lenOV ov' = lenOV ov) (h9 : kindOV ov' = kindOV ov) (h8 : setOV ov' y (.int (op a b)) = some ov2) (s : e2.set i (some ov2) = e3) (q : Q .nx e3) : Ends (augAS i op fi fe env) Q := by
  cases ov with
  | ol io ds =>
    cases ov' with
    | ol io' ds' =>
      cases y with
      | int n =>
        obtain ⟨j, e3, e4⟩ := bindS (show (ixN ds.length n).bind _ = _ from h3)
        split at e4
        · rename_i a' ha
          cases e4
          have h7 : ds'.length = ds.length := h7
          obtain ⟨j', e5, e6⟩ := bindS (show (ixN ds'.length n).bind _ = _ from h8)
          rw [h7, e3] at e5
          cases e5
          cases e6
          exact S_augA h0 h1 h2 e3 ha h5 h6 h7 s q
        · cases e4
      | _ => cases h3
    | _ => cases h9
  | od io kvs =>
    cases ov' with
    | od io' kvs' =>
      obtain ⟨k, e3, e4⟩ := bindS (show (keyN y).bind _ = _ from h3)
      split at e4
      · rename_i a' ha
        cases e4
        obtain ⟨k', e5, e6⟩ := bindS (show (keyN y).bind _ = _ from h8)
        rw [e3] at e5
        cases e5
        obtain ⟨hl, e6⟩ := guardS e6
        cases e6
        exact S_augAD h0 h1 h2 e3 ha h5 h6 (of_decide_eq_true hl) s q
      · cases e4
    | ol _ _ => cases h9
    | _ => cases h8
  | _ => cases h3
theorem sh_lenO {a b : OV} (h : lenOV a = lenOV b) : lenOV a = lenOV b := h
theorem sh_kindO {a b : OV} (h : kindOV a = kindOV b) : kindOV a = kindOV b := h
theorem sh_ltN {l : List (NK × D)} {n : Nat} (h : l.length < n) : l.length < n := h
theorem E_dict0 : dict0 env = some (.k [], env) := rfl
theorem E_prs0 : prsE [] env = some ([], env) := rfl
theorem E_prs {f : Ev D × Ev D} {r : List (Ev D × Ev D)} {a b : D} {t : List (D × D)} (h1 : f.1 env = some (a, e1)) (h2 : f.2 e1 = some (b, e2)) (h3 : prsE r e2 = some (t, e3)) : prsE (f :: r) env = some ((a, b) :: t, e3) := by
  show (f.1 env).bind _ = _
  rw [h1]; dsimp only [Option.bind]; rw [h2]; dsimp only [Option.bind]; rw [h3]
theorem E_disp {fs : List (Ev D × Ev D)} {ps : List (D × D)} {kvs : List (NK × D)} (h1 : prsE fs env = some (ps, e1)) (h2 : putsN ps [] = some kvs) : dispR fs env = some (.k kvs, e1) := by
  unfold dispR; rw [h1]; dsimp only [Option.bind]; rw [h2]
theorem sh_puts {ps : List (D × D)} {acc : List (NK × D)} {x : Option (List (NK × D))} (h : putsN ps acc = x) : putsN ps acc = x := h
theorem E_res0 : resE [] env = some ([], env) := rfl
theorem E_res {f : Ev Res} {r : List (Ev Res)} {a : Res} {t : List Res} (h1 : f env = some (a, e1)) (h2 : resE r e1 = some (t, e2)) : resE (f :: r) env = some (a :: t, e2) := by
  show (f env).bind _ = _
  rw [h1]; dsimp only [Option.bind]; rw [h2]
theorem S_parN {is : List Nat} {fs : List (Ev Res)} {rs : List Res} (h1 : resE fs env = some (rs, e1)) (h2 : decide (rs.length = is.length) = true) (s : sets e1 is (rs.map Res.ov) = e2) (q : Q .nx e2) : Ends (parN is fs env) Q := by
  subst s
  refine ⟨_, _, ?_, q⟩
  unfold parN; rw [h1]; dsimp only [Option.bind]
  exact guard_i h2 rfl
theorem G_mulT1 {x : D} {j : Int} (h1 : 0 ≤ j) (h2 : j ≤ 1000) : gMulT (.tuple [x]) (.int j) = some (.d (.tuple (List.replicate j.toNat x))) := by
  show (if j = 1 then some (Res.d (.tuple [x])) else if j = 0 then some (Res.d (.tuple [])) else guardO (decide (2 ≤ j) && decide (j ≤ 1000) && decide (([] : List D).length < 1000)) (some (Res.d (.tuple (List.replicate j.toNat [x]).flatten)))) = _
  by_cases h : j = 1
  · rw [if_pos h]; subst h; rfl
  · rw [if_neg h]
    by_cases h0 : j = 0
    · rw [if_pos h0]; subst h0; rfl
    · rw [if_neg h0]
      refine guard_i (by rw [decide_eq_true (show 2 ≤ j by omega), decide_eq_true h2]; rfl) ?_
      have : ∀ n : Nat, (List.replicate n [x]).flatten = List.replicate n x := fun n => by
        induction n with
        | zero => rfl
        | succ n ih => rw [List.replicate_succ, List.replicate_succ, List.flatten_cons, ih]; rfl
      rw [this]
theorem G_mulS {x : Str} {j : Int} (h : (decide (2 ≤ j) && decide (j ≤ 1000) && decide (0 < x.length) && decide (x.length ≤ 1000)) = true) : gMulS (.str x) (.int j) = some (.d (.str (repS x j.toNat))) := guard_i h rfl
theorem E_revAL {f : Ev Opd} {a : Opd} {ds : List D} (h1 : f env = some (a, e1)) (h2 : opD e1 a = some (.list ds)) : revA f env = some (.l ds.reverse, e1) := by
  unfold revA; rw [h1]; dsimp only [Option.bind]; rw [h2]
theorem E_revAT {f : Ev Opd} {a : Opd} {ds : List D} (h1 : f env = some (a, e1)) (h2 : opD e1 a = some (.tuple ds)) : revA f env = some (.d (.tuple ds.reverse), e1) := by
  unfold revA; rw [h1]; dsimp only [Option.bind]; rw [h2]
theorem G_minI {ns : List Int} {m : Int} (h : ns.min? = some m) : gMinA [.list (ns.map .int)] = some (.d (.int m)) := by
  unfold gMinA
  dsimp only
  rw [intsOf_map]
  dsimp only
  rw [h]; rfl
theorem sh_sets {l e : Env} {is : List Nat} {xs : List OV} (h : sets l is xs = e) : sets l is xs = e := h
def zipSq : D → D → Option (List D)
  | .list a, .list b => some (zipD a b)
  | .tuple a, .tuple b => some (zipD a b)
  | _, _ => none
theorem zs_l {a b : List D} : zipSq (.list a) (.list b) = some (zipD a b) := rfl
theorem zs_t {a b : List D} : zipSq (.tuple a) (.tuple b) = some (zipD a b) := rfl
theorem E_zip {f : Ev (List Opd)} {x y : D} {ds : List D} (h1 : f env = some ([.v x, .v y], e1)) (h2 : zipSq x y = some ds) : itZip f env = some (ds, e1) := by
  unfold zipSq at h2
  split at h2
  · cases h2; exact E_zipL h1
  · cases h2; exact E_zipT h1
  · cases h2
theorem E_slotP_rd {i : Nat} {io : Bool} {kvs : List (NK × D)} (h : env[i]? = some (some (.od io kvs))) : slotP i env = some (.r i, env) := by unfold slotP; rw [h]
theorem E_slotE_d {i : Nat} {kvs : List (NK × D)} (h : env[i]? = some (some (.od false kvs))) (k : env.set i (some (.fz (.dict (dOf kvs)))) = e1) : slotE i env = some (.dict (dOf kvs), e1) := by
  subst k
  show (match env[i]? with | some (some (.fz d)) => some (d, env) | some (some ov) => if (ov.owned && !ov.io) = true then some (ov.toD, env.set i (some (.fz ov.toD))) else none | _ => none) = _
  rw [h]; rfl
theorem E_slotF_d {i : Nat} {kvs : List (NK × D)} (h : env[i]? = some (some (.od false kvs))) (k : env.set i (some (.fz (.dict (dOf kvs)))) = e1) : slotF i env = some (.v (.dict (dOf kvs)), e1) := by
  subst k; unfold slotF; rw [h]; rfl
theorem E_take_d {i : Nat} {kvs : List (NK × D)} (h : env[i]? = some (some (.od false kvs))) (k : env.set i none = e1) : takeR i env = some (.k kvs, e1) := by
  subst k; unfold takeR; rw [h]
def pickT (a : Bool) (g : Ev Bool) : Ev Bool := fun e => if a = true then g e else some (false, e)
def pickF (a : Bool) (g : Ev Bool) : Ev Bool := fun e => if a = true then some (true, e) else g e
theorem E_andT2 {f g : Ev Bool} {a b : Bool} (h1 : f env = some (a, e1)) (h2 : pickT a g e1 = some (b, e2)) : andT f g env = some (b, e2) := by
  unfold andT; rw [h1]; dsimp only [Option.bind]
  unfold pickT at h2
  cases a with
  | true => rw [if_pos rfl] at h2 ⊢; exact h2
  | false => rw [if_neg (by decide)] at h2 ⊢; exact h2
theorem E_orT2 {f g : Ev Bool} {a b : Bool} (h1 : f env = some (a, e1)) (h2 : pickF a g e1 = some (b, e2)) : orT f g env = some (b, e2) := by
  unfold orT; rw [h1]; dsimp only [Option.bind]
  unfold pickF at h2
  cases a with
  | true => rw [if_pos rfl] at h2 ⊢; exact h2
  | false => rw [if_neg (by decide)] at h2 ⊢; exact h2
theorem pickT_k {g : Ev Bool} {a : Bool} {x : Option (Bool × Env)} (ha : a = true) (h : g env = x) : pickT a g env = x := by subst ha; exact h
theorem pickT_kf {g : Ev Bool} {a : Bool} (ha : a = false) : pickT a g env = some (false, env) := by subst ha; rfl
theorem pickT_d {g : Ev Bool} {a b : Bool} (h : a = true → g env = some (b, env)) : pickT a g env = some (a && b, env) := by
  cases a with
  | true => exact h rfl
  | false => rfl
theorem pickF_k {g : Ev Bool} {a : Bool} {x : Option (Bool × Env)} (ha : a = false) (h : g env = x) : pickF a g env = x := by subst ha; exact h
theorem pickF_kt {g : Ev Bool} {a : Bool} (ha : a = true) : pickF a g env = some (true, env) := by subst ha; rfl
theorem pickF_d {g : Ev Bool} {a b : Bool} (h : a = false → g env = some (b, env)) : pickF a g env = some (a || b, env) := by
  cases a with
  | true => rfl
  | false => exact h rfl
def revSq : D → Option Res
  | .list ds => some (.l ds.reverse)
  | .tuple ds => some (.d (.tuple ds.reverse))
  | _ => none
theorem rs_l {ds : List D} : revSq (.list ds) = some (.l ds.reverse) := rfl
theorem rs_t {ds : List D} : revSq (.tuple ds) = some (.d (.tuple ds.reverse)) := rfl
theorem E_revA {f : Ev Opd} {a : Opd} {d : D} {r : Res} (h1 : f env = some (a, e1)) (h2 : opD e1 a = some d) (h3 : revSq d = some r) : revA f env = some (r, e1) := by
  unfold revSq at h3
  split at h3
  · cases h3; exact E_revAL h1 h2
  · cases h3; exact E_revAT h1 h2
  · cases h3
theorem isi_tuple_int {x : Int} : isiB "tuple" (PyData.int x) = false := rfl
theorem isi_tuple_tuple {x : List D} : isiB "tuple" (PyData.tuple x) = true := rfl
theorem isi_tuple_str {x : Str} : isiB "tuple" (PyData.str x) = false := rfl
theorem isi_tuple_list {x : List D} : isiB "tuple" (PyData.list x) = false := rfl
theorem isi_tuple_dict {x : List (D × D)} : isiB "tuple" (PyData.dict x) = false := rfl
theorem isi_tuple_bool {x : Bool} : isiB "tuple" (PyData.bool x) = false := by cases x <;> rfl
theorem isi_tuple_none : isiB "tuple" PyData.none = false := rfl
theorem isi_str_int {x : Int} : isiB "str" (PyData.int x) = false := rfl
theorem isi_str_tuple {x : List D} : isiB "str" (PyData.tuple x) = false := rfl
theorem isi_str_str {x : Str} : isiB "str" (PyData.str x) = true := rfl
theorem isi_str_list {x : List D} : isiB "str" (PyData.list x) = false := rfl
theorem isi_str_dict {x : List (D × D)} : isiB "str" (PyData.dict x) = false := rfl
theorem isi_str_bool {x : Bool} : isiB "str" (PyData.bool x) = false := by cases x <;> rfl
theorem isi_str_none : isiB "str" PyData.none = false := rfl
theorem isi_int_int {x : Int} : isiB "int" (PyData.int x) = true := rfl
theorem isi_int_tuple {x : List D} : isiB "int" (PyData.tuple x) = false := rfl
theorem isi_int_str {x : Str} : isiB "int" (PyData.str x) = false := rfl
theorem isi_int_list {x : List D} : isiB "int" (PyData.list x) = false := rfl
theorem isi_int_dict {x : List (D × D)} : isiB "int" (PyData.dict x) = false := rfl
theorem isi_int_bool {x : Bool} : isiB "int" (PyData.bool x) = true := by cases x <;> rfl
theorem isi_int_none : isiB "int" PyData.none = false := rfl
theorem isi_bool_int {x : Int} : isiB "bool" (PyData.int x) = false := rfl
theorem isi_bool_tuple {x : List D} : isiB "bool" (PyData.tuple x) = false := rfl
theorem isi_bool_str {x : Str} : isiB "bool" (PyData.str x) = false := rfl
theorem isi_bool_list {x : List D} : isiB "bool" (PyData.list x) = false := rfl
theorem isi_bool_dict {x : List (D × D)} : isiB "bool" (PyData.dict x) = false := rfl
theorem isi_bool_bool {x : Bool} : isiB "bool" (PyData.bool x) = true := by cases x <;> rfl
theorem isi_bool_none : isiB "bool" PyData.none = false := rfl
theorem isi_list_int {x : Int} : isiB "list" (PyData.int x) = false := rfl
theorem isi_list_tuple {x : List D} : isiB "list" (PyData.tuple x) = false := rfl
theorem isi_list_str {x : Str} : isiB "list" (PyData.str x) = false := rfl
theorem isi_list_list {x : List D} : isiB "list" (PyData.list x) = true := rfl
theorem isi_list_dict {x : List (D × D)} : isiB "list" (PyData.dict x) = false := rfl
theorem isi_list_bool {x : Bool} : isiB "list" (PyData.bool x) = false := by cases x <;> rfl
theorem isi_list_none : isiB "list" PyData.none = false := rfl
theorem isi_dict_int {x : Int} : isiB "dict" (PyData.int x) = false := rfl
theorem isi_dict_tuple {x : List D} : isiB "dict" (PyData.tuple x) = false := rfl
theorem isi_dict_str {x : Str} : isiB "dict" (PyData.str x) = false := rfl
theorem isi_dict_list {x : List D} : isiB "dict" (PyData.list x) = false := rfl
theorem isi_dict_dict {x : List (D × D)} : isiB "dict" (PyData.dict x) = true := rfl
theorem isi_dict_bool {x : Bool} : isiB "dict" (PyData.bool x) = false := by cases x <;> rfl
theorem isi_dict_none : isiB "dict" PyData.none = false := rfl
theorem isN_non : isNone PyData.none = true := rfl
theorem isN_int {i : Int} : isNone (PyData.int i) = false := rfl
theorem isN_bool {i : Bool} : isNone (PyData.bool i) = false := rfl
theorem isN_str {i : Str} : isNone (PyData.str i) = false := rfl
theorem isN_list {i : List D} : isNone (PyData.list i) = false := rfl
theorem isN_tup {i : List D} : isNone (PyData.tuple i) = false := rfl
theorem isN_dict {i : List (D × D)} : isNone (PyData.dict i) = false := rfl
theorem G_intB {b : Bool} : gInt [.bool b] = some (.d (.int (if b then 1 else 0))) := rfl
theorem G_isN {d : D} : gIsN d .none = some (.d (.bool (isNone d))) := rfl
theorem G_notN {d : D} : gNotN d .none = some (.d (.bool (!isNone d))) := rfl
end
end NS

set_option Elab.async false
set_option linter.all false
set_option maxRecDepth 100000
set_option maxHeartbeats 400000
/-! NsW: the laws' drawing. -/
namespace NS
open PySem L2 NT
variable [W : NT.Wd]
abbrev bTake : Es := (seqS (ifS (boolOf (bin2 gEq (opOf (layOf (bin2 gIxA (slotP 0) (opOf (cstE (.int 0)))))) (opOf (cstE (.int 0))))) (seqS (asgS 2 (bin2 gIxA (opOf (layOf (bin2 gAdd (opOf (layOf (sl3 gSl (opOf (layOf (bin2 gIxA (slotP 0) (opOf (cstE (.int 3)))))) (boundO (some (layOf (bin2 gIxA (slotP 0) (opOf (cstE (.int 2))))))) (boundO none)))) (opOf (layOf (lstR (consA (opOf (cstE (.int 0))) nilA))))))) (opOf (cstE (.int 0)))))
    (seqS (augAS 0 (fun i j => i + j) (cstE (.int 2)) (cstE (.int 1)))
    (seqS (ifS (boolOf (bin2 (gCmp fun i j => decide (j ≤ i)) (slotP 2) (opOf (layOf (bin2 gPow (opOf (cstE (.int 10))) (opOf (cstE (.int 18)))))))) (setAS 0 (cstE (.int 0)) (slotE 2)) nilS)
    (seqS (asgS 3 (bin2 gAdd (opOf (layOf (bin2 gAdd (opOf (layOf (bin2 gMul (opOf (layOf (bin2 gIxA (slotP 0) (opOf (cstE (.int 1)))))) (opOf (cstE (.int 48271)))))) (opOf (layOf (bin2 gMod (opOf (layOf (callN gInt (consA (slotP 2) nilA)))) (opOf (cstE (.int 2147483647))))))))) (opOf (layOf (bin2 gMul (opOf (cstE (.int 7919))) (opOf (layOf (bin2 gIxA (slotP 0) (opOf (cstE (.int 2)))))))))))
    (setAS 0 (cstE (.int 1)) (layOf (bin2 gMod (opOf (layOf (callN gInt (consA (slotP 3) nilA)))) (opOf (cstE (.int 2147483647)))))))))) nilS)
    (seqS (ifS (boolOf (bin2 (gCmp fun i j => decide (j < i)) (opOf (layOf (bin2 gIxA (slotP 0) (opOf (cstE (.int 0)))))) (opOf (cstE (.int 0))))) (seqS (asgS 4 (bin2 gMod (opOf (layOf (callN gInt (consA (opOf (layOf (bin2 gIxA (slotP 0) (opOf (cstE (.int 0)))))) nilA)))) (slotP 1)))
    (seqS (setAS 0 (cstE (.int 0)) (layOf (bin2 gFdiv (opOf (layOf (callN gInt (consA (opOf (layOf (bin2 gIxA (slotP 0) (opOf (cstE (.int 0)))))) nilA)))) (slotP 1))))
    (retS (takeR 4)))) nilS)
    (seqS (asgS 5 (bin2 gMod (opOf (layOf (callN gInt (consA (opOf (layOf (bin2 gMul (opOf (layOf (bin2 gAdd (opOf (layOf (bin2 gIxA (slotP 0) (opOf (cstE (.int 1)))))) (opOf (cstE (.int 1)))))) (opOf (cstE (.int 39373)))))) nilA)))) (opOf (cstE (.int 1000000007)))))
    (seqS (asgS 6 (bin2 gMod (opOf (layOf (callN gInt (consA (opOf (layOf (bin2 gMul (opOf (layOf (bin2 gMod (opOf (layOf (callN gInt (consA (opOf (layOf (bin2 gMul (slotP 5) (slotP 5)))) nilA)))) (opOf (cstE (.int 998244353)))))) (opOf (cstE (.int 30011)))))) nilA)))) (opOf (cstE (.int 998244353)))))
    (retS (bin2 gMod (opOf (layOf (callN gInt (consA (opOf (layOf (bin2 gFdiv (slotP 6) (opOf (cstE (.int 7)))))) nilA)))) (slotP 1)))))))
def mTake := runU 7 bTake
abbrev bSome : Es := (retS (bin2 gIxA (slotP 1) (opOf (layOf (callU 2 mTake (consA (slotP 0) (consA (opOf (layOf (callN gLen (consA (slotP 1) nilA)))) nilA)))))))
def mSome := runU 2 bSome
abbrev bBag : Es := (retS (lstR (consA (opOf (cstE (.int 0))) (consA (opOf (cstE (.int 1234567891))) (consA (opOf (cstE (.int 0))) (consA (opOf (layOf (lcR (itSeq (layOf (slS (slotP 0) (boundO none) (boundO (some (cstE (.int 63))))))) (.nm 1) yesT (layOf (callN gAbs (consA (slotP 1) nilA))) [1]))) nilA))))))
def mBag := runT 2 bBag
abbrev bAlike : Es := (retS (andV (bin2 gEq (slotP 0) (slotP 1)) (bin2 gEq (opOf (layOf (callN gRepr (consA (slotP 0) nilA)))) (opOf (layOf (callN gRepr (consA (slotP 1) nilA)))))))
def mAlike := runT 2 bAlike

theorem G_int {i : Int} : gInt [.int i] = some (.d (.int i)) := rfl
theorem G_lenL {ds : List D} : gLen [.list ds] = some (.d (.int ds.length)) := rfl
theorem G_lenT {ds : List D} : gLen [.tuple ds] = some (.d (.int ds.length)) := rfl
theorem G_tupL {ds : List D} : gTup [.list ds] = some (.d (.tuple ds)) := rfl
theorem G_tupT {ds : List D} : gTup [.tuple ds] = some (.d (.tuple ds)) := rfl
theorem G_lstL {ds : List D} : gList [.list ds] = some (.l ds) := rfl
theorem G_lstT {ds : List D} : gList [.tuple ds] = some (.l ds) := rfl
theorem sh_ix {l : Env} {i : Nat} {x : Option (Option OV)} (h : l[i]? = x) : l[i]? = x := h
theorem sh_ixD {l : List D} {i : Nat} {x : Option D} (h : l[i]? = x) : l[i]? = x := h
theorem sh_io {o x : OV} {b : Bool} (h : o.setIo b = x) : o.setIo b = x := h
theorem sh_ixN {n : Nat} {k : Int} {x : Option Nat} (h : ixN n k = x) : ixN n k = x := h
theorem sh_len {l l' : List D} (h : l.length = l'.length) : l.length = l'.length := h
theorem sh_le {l : List D} {n : Nat} (h : l.length ≤ n) : l.length ≤ n := h
theorem sh_set {l e : Env} {i : Nat} {v : Option OV} (h : l.set i v = e) : l.set i v = e := h
theorem sh_tg {t : Tg} {d : D} {e : Env} {x : Option Env} (h : tgE t d e = x) : tgE t d e = x := h
theorem sh_ift {b : Bool} {P : Prop} (h : b = true → P) : b = true → P := h
theorem sh_iff {b : Bool} {P : Prop} (h : b = false → P) : b = false → P := h
theorem opD_rl {env : Env} {i : Nat} {io : Bool} {ds : List D} (h : env[i]? = some (some (.ol io ds))) : opD env (.r i) = some (.list ds) := opD_r h rfl rfl
theorem sh_call {α : Type} {x y : Option α} (h : x = y) : x = y := h
theorem sh_ends {x : Option (Fl × Env)} {Q : Fl → Env → Prop} (h : Ends x Q) : Ends x Q := h
theorem sh_ev {α : Type} {x : Option (α × Env)} {y : α × Env} (h : x = some y) : x = some y := h
theorem big_of {x : Int} (h : x.natAbs < 2 ^ 256) : x.natAbs < BIGN := by
  have : (2 : Nat) ^ 256 ≤ BIGN := by unfold BIGN; exact Nat.pow_le_pow_right (by decide) (by decide)
  omega
theorem G_slL {ds : List D} {lo hi : Option Int} : gSl (.list ds) lo hi = some (.l (cutD ds lo hi)) := rfl
theorem sh_pos {j : Int} (h : 0 < j) : 0 < j := h
theorem sh_big {j : Int} (h : j.natAbs < BIGN) : j.natAbs < BIGN := h
theorem sh_le2 {a b : List D} {n : Nat} (h : a.length + b.length ≤ n) : a.length + b.length ≤ n := h
theorem sh_lt2 {a : List D} {n : Nat} (h : a.length < n) : a.length < n := h
theorem sh_wipe {l e : Env} {vs : List Nat} (h : wipeE l vs = e) : wipeE l vs = e := h
theorem sh_back {a b e : Env} {vs : List Nat} (h : backE a b vs = e) : backE a b vs = e := h
theorem sh_env {n : Nat} {avs : List Opd} {e : Env} (h : envOf n avs = e) : envOf n avs = e := h
theorem sh_envU {n : Nat} {o : OV} {avs : List Opd} {e : Env} (h : (some (o.setIo true) :: envOf n avs) = e) : (some (o.setIo true) :: envOf n avs) = e := h
def plain2 : Option (Option OV) → Bool
  | some (some ov) => ov.plain
  | _ => true
theorem plain2_map {o : Option D} : plain2 (some (o.map OV.fz)) = true := by cases o <;> rfl
theorem plain2_fz {d : D} : plain2 (some (some (.fz d))) = true := rfl
theorem plain2_no : plain2 (some none) = true := rfl
theorem plain_nil {e : Env} : plainAt e [] = true := rfl
theorem plain_cons {e : Env} {v : Nat} {vs : List Nat} : plainAt e (v :: vs) = (plain2 e[v]? && plainAt e vs) := rfl
theorem sh_leI {a b : Int} (h : a ≤ b) : a ≤ b := h
theorem sh_ltI {a b : Int} (h : a < b) : a < b := h
theorem sh_mulN {a : List D} {n m : Nat} (h : a.length * n ≤ m) : a.length * n ≤ m := h
theorem sh_bool {b : Bool} (h : b = true) : b = true := h
theorem at0 {α : Type} (x : α) (xs : List α) : atI (x :: xs) 0 = some x := atI_nat (j := 0) rfl
theorem at1 {α : Type} (x y : α) (xs : List α) : atI (x :: y :: xs) 1 = some y := atI_nat (j := 1) rfl
theorem at2 {α : Type} (x y z : α) (xs : List α) : atI (x :: y :: z :: xs) 2 = some z := atI_nat (j := 2) rfl
theorem at3 {α : Type} (x y z u : α) (xs : List α) : atI (x :: y :: z :: u :: xs) 3 = some u := atI_nat (j := 3) rfl
local macro_rules | `(tactic| and_intros) => `(tactic| repeat' (first
  | ((with_reducible refine sh_ends ?_); first
    | (with_reducible apply S_seq)
    | (with_reducible apply S_asg)
    | (with_reducible apply S_ret)
    | (with_reducible apply S_if_and)
    | (with_reducible apply S_if_or)
    | (with_reducible apply S_if_not)
    | (with_reducible apply S_if)
    | (with_reducible apply S_nil)
    | (with_reducible apply S_par2)
    | (with_reducible apply S_aug)
    | (with_reducible apply S_unp)
    | (with_reducible apply S_setX)
    | (with_reducible apply S_augX)
    | (with_reducible apply S_parN)
    | (with_reducible apply S_ins)
    | (with_reducible apply S_app)
    | (with_reducible apply S_extA)
    | (with_reducible apply S_drop)
    | (with_reducible apply S_brk)
    | (with_reducible apply S_cnt)
    | (with_reducible apply S_for))
  | ((with_reducible refine sh_ev ?_); first
    | ((with_reducible apply E_first); (· exact rfl); (· with_reducible assumption))
    | (with_reducible apply E_opOf)
    | (with_reducible apply E_layOf)
    | (with_reducible apply E_consA)
    | with_reducible exact E_cst
    | with_reducible exact E_nilA
    | with_reducible exact E_dict0
    | with_reducible exact E_prs0
    | with_reducible exact E_res0
    | (with_reducible apply E_prs)
    | (with_reducible apply E_disp)
    | (with_reducible apply E_res)
    | (with_reducible apply E_bin2)
    | ((with_reducible apply E_slotE); (exact rfl))
    | ((with_reducible apply E_slotE_l); (exact rfl))
    | ((with_reducible apply E_slotP); (exact rfl))
    | ((with_reducible apply E_slotP_s); (exact rfl))
    | ((with_reducible apply E_slotP_r); (exact rfl))
    | ((with_reducible apply E_slotP_rd); (exact rfl))
    | ((with_reducible apply E_slotF); (exact rfl))
    | ((with_reducible apply E_slotF_s); (exact rfl))
    | ((with_reducible apply E_slotF_l); (exact rfl))
    | ((with_reducible apply E_slotF_d); (exact rfl))
    | ((with_reducible apply E_take); (exact rfl))
    | ((with_reducible apply E_take_l); (exact rfl))
    | ((with_reducible apply E_take_d); (exact rfl))
    | ((with_reducible apply E_slotE_d); (exact rfl))
    | ((with_reducible apply pickT_k); (· with_reducible assumption))
    | ((with_reducible apply pickT_kf); (with_reducible assumption))
    | (with_reducible apply pickT_d)
    | ((with_reducible apply pickF_k); (· with_reducible assumption))
    | ((with_reducible apply pickF_kt); (with_reducible assumption))
    | (with_reducible apply pickF_d)
    | ((with_reducible refine sh_orV ?_); (with_reducible assumption))
    | ((with_reducible apply pickR_kf); (· with_reducible assumption))
    | ((with_reducible apply pickR_k); (· with_reducible assumption))
    | (with_reducible apply E_callN)
    | (with_reducible apply E_boolOf)
    | (with_reducible apply E_callT)
    | (with_reducible apply E_callU)
    | (with_reducible apply E_resOf)
    | (with_reducible apply E_tupR)
    | (with_reducible apply E_lstR)
    | (with_reducible apply E_bound1)
    | (with_reducible apply E_sl3)
    | (with_reducible apply E_slS)
    | (with_reducible apply E_revA)
    | (with_reducible apply E_negR)
    | (with_reducible apply E_andT2)
    | (with_reducible apply E_orT2)
    | (with_reducible apply E_notT)
    | (with_reducible apply E_ofT)
    | (with_reducible apply E_andV)
    | (with_reducible apply E_orV)
    | (with_reducible apply E_notV)
    | (with_reducible apply E_ifRb)
    | (with_reducible apply pickR_t)
    | (with_reducible apply pickR_f)
    | (with_reducible apply pickR_d)
    | (with_reducible apply E_rg1)
    | (with_reducible apply E_rg2)
    | (with_reducible apply E_lstRg2)
    | (with_reducible apply E_lc)
    | (with_reducible apply E_zip)
    | (with_reducible apply E_enum)
    | (with_reducible apply E_enumA)
    | (with_reducible apply E_chain3)
    | (with_reducible apply E_isi)
    | (with_reducible apply E_callF)
    | (with_reducible apply E_callB2)
    | (with_reducible apply E_sortNeg)
    | (with_reducible apply E_itSeq)
    | with_reducible exact E_bound0
    | with_reducible exact E_yesT)
  | ((with_reducible refine sh_call ?_); first
    | with_reducible assumption
    | with_reducible exact rs_l
    | with_reducible exact rs_t
    | with_reducible exact zs_l
    | with_reducible exact zs_t
    | with_reducible exact sq_l
    | with_reducible exact sq_t
    | with_reducible exact opD_v
    | with_reducible exact opDs_nil
    | with_reducible exact vals_nil
    | (with_reducible apply opDs_cons)
    | (with_reducible apply vals_cons)
    | ((with_reducible apply opD_rl); (exact rfl))
    | ((with_reducible apply opD_rd); (exact rfl))
    | ((with_reducible apply sh_ix); (exact rfl))
    | with_reducible exact G_addI
    | with_reducible exact G_subI
    | with_reducible exact G_cmp
    | with_reducible exact G_eqI
    | with_reducible exact G_neI
    | with_reducible exact G_min2
    | with_reducible exact G_max2
    | with_reducible exact G_abs
    | with_reducible exact G_int
    | with_reducible exact G_lenL
    | with_reducible exact G_lenT
    | with_reducible exact G_tupL
    | with_reducible exact G_tupT
    | with_reducible exact G_lstL
    | with_reducible exact G_lstT
    | with_reducible exact G_slL
    | with_reducible exact G_slAL
    | with_reducible exact G_slAT
    | with_reducible exact key_int
    | with_reducible exact key_str
    | with_reducible exact key_non
    | with_reducible exact key_ss
    | with_reducible exact G_intB
    | with_reducible exact G_allL
    | with_reducible exact G_anyL
    | with_reducible exact G_isN
    | with_reducible exact G_notN
    | with_reducible exact G_strS
    | (with_reducible apply G_addL)
    | (with_reducible apply G_addT)
    | (with_reducible apply G_mulI)
    | (with_reducible apply G_mulL1)
    | (with_reducible apply G_mulL)
    | (with_reducible apply G_fdiv)
    | (with_reducible apply G_mod)
    | (with_reducible apply G_pow)
    | (with_reducible apply G_ixAL)
    | (with_reducible apply G_ixAT)
    | (with_reducible apply G_ixAD)
    | (with_reducible apply G_inAD)
    | (with_reducible apply G_notinAD)
    | (with_reducible apply setOV_l)
    | (with_reducible apply setOV_d)
    | (with_reducible apply getOV_l)
    | (with_reducible apply getOV_d)
    | (with_reducible apply G_mulT1)
    | (with_reducible apply G_mulS)
    | (with_reducible apply G_strI)
    | (with_reducible apply G_minI)
    | ((with_reducible refine sh_ixN (x := some 0) ?_); (exact rfl))
    | ((with_reducible refine sh_ixN (x := some 1) ?_); (exact rfl))
    | ((with_reducible refine sh_ixN (x := some 2) ?_); (exact rfl))
    | ((with_reducible refine sh_ixN (x := some 3) ?_); (exact rfl))
    | ((with_reducible refine sh_ixN (x := some 4) ?_); (exact rfl))
    | ((with_reducible refine sh_ixN (x := some 5) ?_); (exact rfl))
    | ((with_reducible refine sh_ixN (x := some 6) ?_); (exact rfl))
    | ((with_reducible refine sh_ixN (x := some 7) ?_); (exact rfl))
    | ((with_reducible apply sh_ixN); (exact rfl))
    | ((with_reducible apply sh_ixD); (exact rfl))
    | ((with_reducible apply sh_tg); (first | (dsimp only [tgE, tgsE, List.set]; done) | (dsimp only [tgE, tgsE, List.set]; exact rfl) | exact rfl))
    | with_reducible exact at0 _ _
    | with_reducible exact at1 _ _ _
    | with_reducible exact at2 _ _ _ _
    | with_reducible exact at3 _ _ _ _ _
    | with_reducible exact G_sum)
  | (with_reducible apply SeqQ.nx)
  | (with_reducible apply SeqQ.rt)
  | (with_reducible apply SeqQ.bk)
  | (with_reducible apply SeqQ.ct)
  | (with_reducible apply LoopQ.nx)
  | (with_reducible apply LoopQ.ct)
  | (with_reducible apply LoopQ.bk)
  | (with_reducible apply LoopQ.rt)
  | with_reducible exact toD_d
  | with_reducible exact toD_l
  | with_reducible exact toD_k
  | with_reducible exact ov_d
  | with_reducible exact ov_l
  | with_reducible exact ov_k
  | ((with_reducible apply sh_set); (first | (dsimp only [List.set]; done) | (dsimp only [List.set]; exact rfl) | exact rfl))
  | ((with_reducible apply sh_io); (first | (dsimp only [OV.setIo, OV.io]; done) | (dsimp only [OV.setIo, OV.io]; exact rfl) | exact rfl))
  | ((with_reducible apply sh_lenO); (exact rfl))
  | ((with_reducible apply sh_kindO); (exact rfl))
  | ((with_reducible apply sh_ltN); (first | with_reducible assumption | omega))
  | ((with_reducible apply sh_sets); (first | (dsimp only [sets, List.set, List.map, Res.ov]; done) | (dsimp only [sets, List.set, List.map, Res.ov]; exact rfl) | exact rfl))
  | ((with_reducible apply sh_puts); (exact rfl))
  | ((with_reducible apply sh_len); (exact rfl))
  | ((with_reducible apply sh_le); (exact Nat.le_of_ble_eq_true rfl))
  | ((with_reducible refine sh_ift ?_); intro hb; (try simp only [isi_tuple_int, isi_tuple_tuple, isi_tuple_str, isi_tuple_list, isi_tuple_dict, isi_tuple_bool, isi_tuple_none, isi_str_int, isi_str_tuple, isi_str_str, isi_str_list, isi_str_dict, isi_str_bool, isi_str_none, isi_int_int, isi_int_tuple, isi_int_str, isi_int_list, isi_int_dict, isi_int_bool, isi_int_none, isi_bool_int, isi_bool_tuple, isi_bool_str, isi_bool_list, isi_bool_dict, isi_bool_bool, isi_bool_none, isi_list_int, isi_list_tuple, isi_list_str, isi_list_list, isi_list_dict, isi_list_bool, isi_list_none, isi_dict_int, isi_dict_tuple, isi_dict_str, isi_dict_list, isi_dict_dict, isi_dict_bool, isi_dict_none, isN_non, isN_int, isN_bool, isN_str, isN_list, isN_tup, isN_dict, Bool.false_eq_true, Bool.true_eq_false, Bool.not_eq_true, Bool.not_eq_false, Bool.not_eq_eq_eq_not, Bool.not_true, Bool.not_false, beq_iff_eq, beq_eq_false_iff_ne, ne_eq, decide_eq_true_eq, decide_eq_false_iff_not, Bool.and_eq_true, Bool.or_eq_true, Bool.and_eq_false_iff, Bool.or_eq_false_iff] at hb); (first | (exfalso; omega) | (exfalso; exact hb trivial) | skip))
  | ((with_reducible refine sh_iff ?_); intro hb; (try simp only [isi_tuple_int, isi_tuple_tuple, isi_tuple_str, isi_tuple_list, isi_tuple_dict, isi_tuple_bool, isi_tuple_none, isi_str_int, isi_str_tuple, isi_str_str, isi_str_list, isi_str_dict, isi_str_bool, isi_str_none, isi_int_int, isi_int_tuple, isi_int_str, isi_int_list, isi_int_dict, isi_int_bool, isi_int_none, isi_bool_int, isi_bool_tuple, isi_bool_str, isi_bool_list, isi_bool_dict, isi_bool_bool, isi_bool_none, isi_list_int, isi_list_tuple, isi_list_str, isi_list_list, isi_list_dict, isi_list_bool, isi_list_none, isi_dict_int, isi_dict_tuple, isi_dict_str, isi_dict_list, isi_dict_dict, isi_dict_bool, isi_dict_none, isN_non, isN_int, isN_bool, isN_str, isN_list, isN_tup, isN_dict, Bool.false_eq_true, Bool.true_eq_false, Bool.not_eq_true, Bool.not_eq_false, Bool.not_eq_eq_eq_not, Bool.not_true, Bool.not_false, beq_iff_eq, beq_eq_false_iff_ne, ne_eq, decide_eq_true_eq, decide_eq_false_iff_not, Bool.and_eq_true, Bool.or_eq_true, Bool.and_eq_false_iff, Bool.or_eq_false_iff] at hb); (first | (exfalso; omega) | (exfalso; exact hb trivial) | skip))
  | ((with_reducible apply sh_wipe); (first | (dsimp only [wipeE, List.set]; done) | (dsimp only [wipeE, List.set]; exact rfl) | exact rfl))
  | ((with_reducible apply sh_env); (first | (dsimp only [OV.setIo, envOf, List.map, argOv, List.replicate, List.length_cons, List.length_nil, List.append, List.cons_append, List.nil_append, Nat.reduceAdd, Nat.reduceSub]; done) | (dsimp only [OV.setIo, envOf, List.map, argOv, List.replicate, List.length_cons, List.length_nil, List.append, List.cons_append, List.nil_append, Nat.reduceAdd, Nat.reduceSub]; exact rfl) | exact rfl))
  | ((with_reducible apply sh_envU); (first | (dsimp only [OV.setIo, envOf, List.map, argOv, List.replicate, List.length_cons, List.length_nil, List.append, List.cons_append, List.nil_append, Nat.reduceAdd, Nat.reduceSub]; done) | (dsimp only [OV.setIo, envOf, List.map, argOv, List.replicate, List.length_cons, List.length_nil, List.append, List.cons_append, List.nil_append, Nat.reduceAdd, Nat.reduceSub]; exact rfl) | exact rfl))
  | ((with_reducible apply sh_back); (first | (simp only [backE, List.getElem?_cons_succ, List.getElem?_cons_zero, List.set_cons_succ, List.set_cons_zero]; done) | (simp only [backE, List.getElem?_cons_succ, List.getElem?_cons_zero, List.set_cons_succ, List.set_cons_zero]; exact rfl) | exact rfl))
  | ((with_reducible apply sh_bool); (first | exact rfl | (simp only [plain_cons, plain_nil, List.getElem?_cons_succ, List.getElem?_cons_zero, plain2_map, plain2_fz, plain2_no, Bool.true_and]; exact rfl)))
  | ((with_reducible apply sh_pos); (first | with_reducible assumption | omega | decide))
  | ((with_reducible apply sh_big); (first | with_reducible assumption | (apply big_of; omega)))
  | ((with_reducible apply sh_leI); (first | with_reducible assumption | omega))
  | ((with_reducible apply sh_ltI); (first | with_reducible assumption | omega))
  | ((with_reducible apply sh_mulN); ((try simp only [List.length_append, List.length_cons, List.length_nil, List.length_map, List.length_replicate]); omega))
  | ((with_reducible apply sh_le2); ((try simp only [List.length_append, List.length_cons, List.length_nil, List.length_map, List.length_replicate]); omega))
  | ((with_reducible apply sh_lt2); ((try simp only [List.length_append, List.length_cons, List.length_nil, List.length_map, List.length_replicate]); omega))))
theorem at_mem {α : Type} {ds : List α} {i : Int} (h0 : 0 ≤ i) (h : i < ds.length) : ∃ d, atI ds i = some d ∧ d ∈ ds := by
  obtain ⟨k, rfl⟩ := Int.eq_ofNat_of_zero_le h0
  have hk : k < ds.length := by omega
  exact ⟨ds[k], atI_nat (j := k) (List.getElem?_eq_getElem hk), List.getElem_mem hk⟩
theorem cut_from (ds : List D) (k : Nat) : cutD ds (some (k : Int)) none = ds.drop k := by
  unfold cutD
  rw [HT.sIx_nat]
  show (ds.drop (min k ds.length)).take (ds.length - min k ds.length) = ds.drop k
  by_cases h : k ≤ ds.length
  · rw [Nat.min_eq_left h]
    exact List.take_of_length_le (by rw [List.length_drop]; exact Nat.le_refl _)
  · rw [Nat.min_eq_right (by omega), List.drop_length, List.drop_eq_nil_of_le (by omega)]
    simp
/-- what a bag holds, with room for f more draws -/
structure BagD (f : Nat) (ds : List D) : Prop where
  ex : ∃ (big stir at_ : Int) (cells : List Int), ds = [.int big, .int stir, .int at_, .list (cells.map .int)] ∧ 0 ≤ big ∧ 0 ≤ stir ∧ stir < 2147483647 ∧ 0 ≤ at_ ∧ at_ + f ≤ 1000000 ∧ (∀ c ∈ cells, 0 ≤ c) ∧ cells.length ≤ 63
theorem BagD.down {f f' : Nat} {ds : List D} (h : BagD f ds) (k : f' ≤ f) : BagD f' ds := by
  obtain ⟨b, s, a, c, e, h1, h2, h3, h0, h4, h5, h6⟩ := h.ex
  exact ⟨b, s, a, c, e, h1, h2, h3, h0, by omega, h5, h6⟩
theorem natAbs_mod {x k : Int} (h : 0 < k) : (x % k).natAbs < k.natAbs := by
  have h1 := Int.emod_nonneg x (b := k) (by omega)
  have h2 := Int.emod_lt_of_pos x h
  omega
theorem take_x {f : Nat} {ds : List D} {many : Int} (h : BagD (f + 1) ds) (hm : 0 < many) (hb : many.natAbs < BIGN) : ∃ v ds', mTake (.ol false ds) [.v (.int many)] = some (.d (.int v), .ol false ds') ∧ BagD f ds' ∧ 0 ≤ v ∧ v < many := by
  obtain ⟨big, stir, at_, cells, rfl, h1, h2, h3, h0, h4, h5, h6⟩ := h.ex
  obtain ⟨at_, rfl⟩ := Int.eq_ofNat_of_zero_le h0
  have hc : ∃ cell, atI (cutD (cells.map PyData.int) (some (at_ : Int)) none ++ [PyData.int 0]) 0 = some (.int cell) ∧ 0 ≤ cell := by
    rw [cut_from, ← List.map_drop]
    cases e : cells.drop at_ with
    | nil => exact ⟨0, at0 _ _, Int.le_refl 0⟩
    | cons c l => exact ⟨c, at0 _ _, h5 c (List.mem_of_mem_drop (by rw [e]; simp))⟩
  obtain ⟨cell, hc1, hc2⟩ := hc
  have hcl : (cutD (cells.map PyData.int) (some (at_ : Int)) none).length ≤ 63 := by rw [cut_from, List.length_drop, List.length_map]; omega
  have key : ∃ r ov', mTake (.ol false [.int big, .int stir, .int (at_ : Int), .list (cells.map .int)]) [.v (.int many)] = some (r, ov') ∧ ∃ v ds', r = .d (.int v) ∧ ov' = .ol false ds' ∧ BagD f ds' ∧ 0 ≤ v ∧ v < many := by
    apply runU_x
    all_goals and_intros
    all_goals refine ⟨_, _, rfl, rfl, rfl, _, _, rfl, rfl, ⟨_, _, _, _, rfl, ?_, ?_, ?_, ?_, ?_, h5, h6⟩, ?_, ?_⟩
    all_goals first
      | omega
      | (with_reducible refine Int.emod_nonneg _ ?_; omega)
      | (with_reducible refine Int.emod_lt_of_pos _ ?_; omega)
      | (with_reducible refine Int.ediv_nonneg ?_ ?_ <;> omega)
  obtain ⟨r, ov', e, v, ds', rfl, rfl, k⟩ := key
  exact ⟨v, ds', e, k⟩
theorem some_x {f : Nat} {bs ds : List D} (h : BagD (f + 1) bs) (hl : 0 < ds.length) (hb : ds.length ≤ 1000000) : ∃ d bs', mSome (.ol false bs) [.v (.list ds)] = some (.d d, .ol false bs') ∧ BagD f bs' ∧ d ∈ ds := by
  obtain ⟨v, bs', h1, h2, h3, h4⟩ := take_x (many := ds.length) h (by omega) (big_of (by omega))
  obtain ⟨d, h5, h6⟩ := at_mem h3 h4
  have key : mSome (.ol false bs) [.v (.list ds)] = some (.d d, .ol false bs') := by
    apply runU_i
    all_goals and_intros
    exact ⟨_, rfl, rfl, rfl, rfl⟩
  exact ⟨d, bs', key, h2, h6⟩
theorem some_xt {f : Nat} {bs ds : List D} (h : BagD (f + 1) bs) (hl : 0 < ds.length) (hb : ds.length ≤ 1000000) : ∃ d bs', mSome (.ol false bs) [.v (.tuple ds)] = some (.d d, .ol false bs') ∧ BagD f bs' ∧ d ∈ ds := by
  obtain ⟨v, bs', h1, h2, h3, h4⟩ := take_x (many := ds.length) h (by omega) (big_of (by omega))
  obtain ⟨d, h5, h6⟩ := at_mem h3 h4
  have key : mSome (.ol false bs) [.v (.tuple ds)] = some (.d d, .ol false bs') := by
    apply runU_i
    all_goals and_intros
    exact ⟨_, rfl, rfl, rfl, rfl⟩
  exact ⟨d, bs', key, h2, h6⟩
theorem cutS_63 (ns : List Int) (h : ns.length ≤ 63) : cutS ns none (some 63) = ns := by
  have e : HT.sIx ns.length ns.length (some ((63 : Nat) : Int)) = min 63 ns.length := HT.sIx_nat _ _ _
  have e0 : HT.sIx ns.length 0 none = 0 := rfl
  unfold cutS
  rw [e0, show ((63 : Int)) = ((63 : Nat) : Int) from rfl, e]
  rw [Nat.min_eq_right h]
  simp
theorem bag_x {ns : List Int} (h : ns.length ≤ 63) : ∃ bs, mBag [.s ns] = some (.l bs) ∧ BagD 1000000 bs := by
  have hlc : ∀ l : List Int, l.length ≤ 63 → lcGo (.nm 1) yesT (layOf (callN gAbs (consA (slotP 1) nilA))) [1] (l.map PyData.int) [some (.scr ns), none] [] = some (l.map (fun i => PyData.int (i.natAbs : Int)), [some (.scr ns), none]) := by
    intro l hl
    refine lc_map0 (fun _ => True) _ l (fun _ _ => trivial) (by omega) (fun x _ => ⟨_, rfl, ?_⟩)
    apply Ev1.i
    · and_intros
    · exact ⟨rfl, rfl⟩
  have hc := cutS_63 ns h
  have hlc1 := hlc (cutS ns none (some 63)) (by rw [hc]; exact h)
  have key : mBag [.s ns] = some (.l [.int 0, .int 1234567891, .int 0, .list ((ns.map fun i => (i.natAbs : Int)).map .int)]) := by
    rw [List.map_map]
    apply runT_i
    all_goals and_intros
    rw [hc]
    rfl
  exact ⟨_, key, ⟨0, 1234567891, 0, _, rfl, by omega, by omega, by omega, by omega, by omega, by simp, by simpa using h⟩⟩
/-! ### what can be shown and compared -/
theorem ok_app {a b : Str} (ha : PyData.strOk a = true) (hb : PyData.strOk b = true) : PyData.strOk (a ++ b) = true := by
  show (a.cps ++ b.cps).all _ = true
  rw [Array.all_append]
  exact Bool.and_eq_true_iff.mpr ⟨ha, hb⟩
theorem ok_text (s : String) : PyData.strOk (Str.ofString s) = true := by
  rw [Str.ofString_eq_toList]
  show ((s.toList.map Char.toNat).toArray).all _ = true
  rw [List.all_toArray, List.all_map, List.all_eq_true]
  intro c _
  have h := c.valid
  show decide (c.toNat < 0x110000) = true
  refine decide_eq_true ?_
  rcases h with h | h
  · have : c.toNat < 0xd800 := h
    omega
  · exact h.2
theorem ok_from : ∀ (ts : List Str) (k : Nat) (acc : Str), PyData.strOk acc = true → (∀ t ∈ ts, PyData.strOk t = true) → PyData.strOk (textFrom k acc ts) = true
  | [], _, _, h, _ => h
  | t :: ts, k, acc, h, hs => by
    refine ok_from ts (k + 1) _ (ok_app (ok_app h (ok_text _)) (hs t (by simp))) (fun x hx => hs x (by simp [hx]))
theorem ok_list {ts : List Str} (hs : ∀ t ∈ ts, PyData.strOk t = true) : PyData.strOk (listText ts) = true := ok_app (ok_from ts 0 _ (ok_text _) hs) (ok_text _)
theorem ok_join : ∀ (ts : List Str), (∀ t ∈ ts, PyData.strOk t = true) → PyData.strOk (Str.join ", " ts) = true
  | [], _ => by unfold Str.join; show (#[] : Array Nat).all _ = true; simp
  | [x], h => h x (by simp)
  | x :: y :: r, h => ok_app (ok_app (h x (by simp)) (ok_text _)) (ok_join (y :: r) fun t ht => h t (List.mem_cons_of_mem _ ht))
theorem ok_tup {ts : List Str} (hs : ∀ t ∈ ts, PyData.strOk t = true) : PyData.strOk (tupleText ts) = true := ok_app (ok_app (ok_text _) (ok_join ts hs)) (ok_text _)
structure Fine (n m : Nat) (d : D) : Prop where
  lay : d.canLay0 = true
  sh : d.showable = true
  dp : d.depth ≤ n
  len : d.shown.length ≤ m
  ok : PyData.strOk d.shown = true
theorem Fine.up {n m n' m' : Nat} {d : D} (h : Fine n m d) (hn : n ≤ n') (hm : m ≤ m') : Fine n' m' d := ⟨h.lay, h.sh, Nat.le_trans h.dp hn, Nat.le_trans h.len hm, h.ok⟩
theorem Fine.bool (b : Bool) : Fine 0 5 (.bool b) := ⟨rfl, rfl, Nat.le_refl 0, by cases b <;> decide, by cases b <;> exact ok_text _⟩
theorem Fine.none : Fine 0 4 .none := ⟨rfl, rfl, Nat.le_refl 0, by decide, ok_text _⟩
theorem Fine.int {i : Int} (h : i.natAbs < 10 ^ 400) : Fine 0 401 (.int i) := by
  refine ⟨rfl, ?_, Nat.le_refl 0, ?_, ok_text _⟩
  · have : i.natAbs.log2 < 1920 := by
      by_cases h0 : i.natAbs = 0
      · rw [h0]; decide
      · exact (Nat.log2_lt h0).mpr (Nat.lt_of_lt_of_le h (by decide +kernel))
    simpa only [PyData.showable, decide_eq_true_eq] using this
  · have e := int_text_length_le10 (k := 400) (by decide) h
    show (Str.ofString (toString i)).length ≤ 401
    rw [ofString_length]
    exact e
structure FineAll (n m : Nat) (ds : List D) : Prop where
  lay : PyData.canLayAll0 ds = true
  sh : PyData.showableAll ds = true
  dp : PyData.depthAll ds ≤ n
  len : ((PyData.shownAll ds).map (·.length)).sum ≤ m * ds.length
  ok : ∀ t ∈ PyData.shownAll ds, PyData.strOk t = true
theorem FineAll.of {n m : Nat} : ∀ {ds : List D}, (∀ d ∈ ds, Fine n m d) → FineAll n m ds
  | [], _ => ⟨rfl, rfl, Nat.zero_le _, Nat.zero_le _, fun _ h => nomatch h⟩
  | d :: ds, h => by
    have h1 := h d (by simp)
    have h2 := FineAll.of (ds := ds) (fun x hx => h x (by simp [hx]))
    refine ⟨?_, ?_, ?_, ?_, ?_⟩
    · simp only [PyData.canLayAll0, h1.lay, h2.lay, Bool.and_self]
    · simp only [PyData.showableAll, h1.sh, h2.sh, Bool.and_self]
    · simp only [PyData.depthAll]
      exact Nat.max_le.mpr ⟨h1.dp, h2.dp⟩
    · have a := h1.len
      have b := h2.len
      simp only [PyData.shownAll, List.map_cons, List.sum_cons, List.length_cons, Nat.mul_add, Nat.mul_one]
      omega
    · intro t ht
      simp only [PyData.shownAll, List.mem_cons] at ht
      rcases ht with rfl | ht
      · exact h1.ok
      · exact h2.ok t ht
theorem Fine.list {n m : Nat} {ds : List D} (h : ∀ d ∈ ds, Fine n m d) : Fine (n + 1) ((m + 2) * ds.length + 3) (.list ds) := by
  have k := FineAll.of h
  refine ⟨?_, ?_, ?_, ?_, ok_list k.ok⟩
  · simpa only [PyData.canLay0] using k.lay
  · simpa only [PyData.showable] using k.sh
  · simpa only [PyData.depth] using Nat.succ_le_succ k.dp
  · have a := listText_len_le (PyData.shownAll ds)
    have b := PyData.shownAll_length ds
    have c := k.len
    simp only [PyData.shown, Nat.add_mul]
    omega
theorem Fine.tup {n m : Nat} {ds : List D} (h : ∀ d ∈ ds, Fine n m d) : Fine (n + 1) ((m + 2) * ds.length + 3) (.tuple ds) := by
  have k := FineAll.of h
  refine ⟨?_, ?_, ?_, ?_, ok_tup k.ok⟩
  · simpa only [PyData.canLay0] using k.lay
  · simpa only [PyData.showable] using k.sh
  · simpa only [PyData.depth] using Nat.succ_le_succ k.dp
  · have a := tupleText_len_le (PyData.shownAll ds)
    have b := PyData.shownAll_length ds
    have c := k.len
    simp only [PyData.shown, Nat.add_mul]
    omega
theorem alike_x {n m : Nat} {d : D} (h : Fine n m d) (hn : n ≤ 60) (hm : m ≤ 1000000) : mAlike [.v d, .v d] = some (.d (.bool true)) := by
  have hs : SeqAt.shaped d = true := by
    unfold SeqAt.shaped
    rw [h.lay, decide_eq_true (Nat.le_trans h.dp (by omega))]; rfl
  have h1 : gEq d d = some (.d (.bool true)) := by
    unfold gEq
    rw [hs, SeqAt.eqv_refl d h.lay]; rfl
  have h2 : gRepr [d] = some (.d (.str d.shown)) := by
    unfold gRepr
    refine guard_i ?_ rfl
    rw [h.lay, h.sh, PyData.hasDict_of_canLay d h.lay, decide_eq_true (Nat.le_trans h.dp hn), decide_eq_true (Nat.le_trans h.len hm)]; rfl
  have h3 : gEq (.str d.shown) (.str d.shown) = some (.d (.bool true)) := by
    have hq : SeqAt.shaped (.str d.shown) = true := by
      unfold SeqAt.shaped
      rw [show PyData.canLay0 (.str d.shown) = true from h.ok]; rfl
    unfold gEq
    rw [hq, SeqAt.eqv_refl (.str d.shown) h.ok]; rfl
  apply runT_i
  all_goals and_intros
  all_goals rfl
theorem lc_mapI {α : Type} {tg : Tg} {elt : Ev D} {own : List Nat} (P : α → Prop) {enc : α → D} (out : α → Int) {e : Env} (l : List α) (hp : ∀ x ∈ l, P x) (hl : l.length ≤ 1000000) (H : ∀ x, P x → ∃ e1, tgE tg (enc x) e = some e1 ∧ Ev1 (elt e1) fun d e2 => d = .int (out x) ∧ wipeE e2 own = e) : lcGo tg yesT elt own (l.map enc) e [] = some ((l.map out).map .int, e) := by
  rw [lc_map0 P (fun x => PyData.int (out x)) l hp hl H, List.map_map]; rfl
theorem lc_inv {tg : Tg} {elt : Ev D} {own : List Nat} (I : List D → List D → Env → Prop) (S : ∀ d ds acc e, I (d :: ds) acc e → ∃ e1, tgE tg d e = some e1 ∧ acc.length < 1000000 ∧ Ev1 (elt e1) fun x e3 => I ds (acc ++ [x]) (wipeE e3 own)) {ds : List D} {e : Env} (h : I ds [] e) : ∃ acc e', lcGo tg yesT elt own ds e [] = some (acc, e') ∧ I [] acc e' := by
  refine LcOk.go (I := I) ⟨fun d ds acc e hi => ?_⟩ h
  obtain ⟨e1, h1, h2, x, e3, h3, h4⟩ := S d ds acc e hi
  exact ⟨e1, true, e1, h1, rfl, fun _ => ⟨x, e3, h3, h2, h4⟩, fun z => nomatch z⟩
end NS

set_option Elab.async false
set_option linter.all false
set_option maxRecDepth 100000
set_option maxHeartbeats 4000000
namespace Law
open PySem L2 PyProof.Rows NS
def top (i : Nat) : Stmt := PySem.Challenge.pw_nightstairs_k11_throughs_judged.main.body.getD i (.Pass ⟨0, 0, 0, 0⟩)
theorem bb_abs : bootBuiltins ("abs" : Str) = some (.builtin "abs") := by decide +kernel
theorem bb_all : bootBuiltins ("all" : Str) = some (.builtin "all") := by decide +kernel
theorem bb_bool : bootBuiltins ("bool" : Str) = some (.type "bool") := by decide +kernel
theorem bb_enumerate : bootBuiltins ("enumerate" : Str) = some (.type "enumerate") := by decide +kernel
theorem bb_int : bootBuiltins ("int" : Str) = some (.type "int") := by decide +kernel
theorem bb_isinstance : bootBuiltins ("isinstance" : Str) = some (.builtin "isinstance") := by decide +kernel
theorem bb_len : bootBuiltins ("len" : Str) = some (.builtin "len") := by decide +kernel
theorem bb_list : bootBuiltins ("list" : Str) = some (.type "list") := by decide +kernel
theorem bb_max : bootBuiltins ("max" : Str) = some (.builtin "max") := by decide +kernel
theorem bb_min : bootBuiltins ("min" : Str) = some (.builtin "min") := by decide +kernel
theorem bb_range : bootBuiltins ("range" : Str) = some (.type "range") := by decide +kernel
theorem bb_repr : bootBuiltins ("repr" : Str) = some (.builtin "repr") := by decide +kernel
theorem bb_str : bootBuiltins ("str" : Str) = some (.type "str") := by decide +kernel
theorem bb_sum : bootBuiltins ("sum" : Str) = some (.builtin "sum") := by decide +kernel
theorem bb_tuple : bootBuiltins ("tuple" : Str) = some (.type "tuple") := by decide +kernel
theorem bb_zip : bootBuiltins ("zip" : Str) = some (.type "zip") := by decide +kernel
structure Tops (mg : Str → Option Value) : Prop where
  b_abs : mg "abs" = none
  b_all : mg "all" = none
  b_bool : mg "bool" = none
  b_enumerate : mg "enumerate" = none
  b_int : mg "int" = none
  b_isinstance : mg "isinstance" = none
  b_len : mg "len" = none
  b_list : mg "list" = none
  b_max : mg "max" = none
  b_min : mg "min" = none
  b_range : mg "range" = none
  b_repr : mg "repr" = none
  b_str : mg "str" = none
  b_sum : mg "sum" = none
  b_tuple : mg "tuple" = none
  b_zip : mg "zip" = none
  g_SINK : ∃ t, mg "SINK" = some (.int 1 t)
section
variable {P : Program} [W : NT.Wd] {K : PySem.W.Frag} {mg : Str → Option Value} {base : Heap}
abbrev s_is_integer : Stmt := top 1
abbrev N_is_integer : List Str := ["thing"]
theorem sc_is_integer : FnScope N_is_integer ["thing"] (defScope s_is_integer) := ⟨rfl, rfl, rfl, by decide +kernel, rfl, by decide +kernel, by decide +kernel⟩
abbrev b_is_integer : Es := (retS (andV (isiR "int" (slotP 0)) (notV (isiR "bool" (slotP 0)))))
def m_is_integer := runT 1 b_is_integer
theorem ok_is_integer (T : Tops mg) (D : DefAt K mg "is_integer" s_is_integer ["thing"]) : Callee P W.w K mg base "is_integer" 1 ["thing"] (spT K 1 m_is_integer) :=
  D.t (N := N_is_integer) sc_is_integer (by decide) fun f cdv A outer s H E hg hr =>
    (ss_one (s_ret (e_and (e_isi (e_slotP (pv 0)) (by rfl) T.b_isinstance (by rfl) T.b_int bb_int kit_int) (e_one (e_not (e_isi (e_slotP (pv 0)) (by rfl) T.b_isinstance (by rfl) T.b_bool bb_bool kit_bool))))))
abbrev s_is_count : Stmt := top 2
abbrev N_is_count : List Str := ["thing"]
theorem sc_is_count : FnScope N_is_count ["thing"] (defScope s_is_count) := ⟨rfl, rfl, rfl, by decide +kernel, rfl, by decide +kernel, by decide +kernel⟩
abbrev b_is_count : Es := (retS (andV (callT 1 m_is_integer (consA (slotF 0) nilA)) (bin2 (gCmp fun i j => decide (j ≤ i)) (slotP 0) (opOf (cstE (.int 0))))))
def m_is_count := runT 1 b_is_count
theorem ok_is_count (T : Tops mg) (D : DefAt K mg "is_count" s_is_count ["thing"]) (C_is_integer : Callee P W.w K mg base "is_integer" 1 ["thing"] (spT K 1 m_is_integer)) : Callee P W.w K mg base "is_count" 2 ["thing"] (spT K 1 m_is_count) :=
  D.t (N := N_is_count) sc_is_count (by decide) fun f cdv A outer s H E hg hr =>
    (ss_one (s_ret (e_and (e_fun C_is_integer hg hr (by decide) (by rfl) (a_cons (e_slotF (pv 0)) a_nil)) (e_one (e_cmp op_ge p_cmp (nomark _) (e_slotP (pv 0)) (pE_P (e_cst pe_int (fun _ => .int _))))))))
abbrev s_value_of : Stmt := top 5
abbrev N_value_of : List Str := ["net", "through", "found", "start", "end", "cap", "many"]
theorem sc_value_of : FnScope N_value_of ["net", "through"] (defScope s_value_of) := ⟨rfl, rfl, rfl, by decide +kernel, rfl, by decide +kernel, by decide +kernel⟩
abbrev b_value_of : Es := (seqS (asgS 2 (resOf (cstE (.int 0))))
    (seqS (forS (itZip (consA (opOf (layOf (bin2 gIxA (slotP 0) (opOf (cstE (.int 1)))))) (consA (opOf (slotE 1)) nilA))) (.tp [(.tp [(.nm 3), (.nm 4), (.nm 5)]), (.nm 6)]) (augS 2 (fun i j => i + j) (layOf (bin2 gMul (slotP 6) (opOf (layOf (bin2 gSub2 (opOf (layOf (callN gInt (consA (opOf (layOf (bin2 gEq (slotP 4) (opOf (cstE (.int 1)))))) nilA)))) (opOf (layOf (callN gInt (consA (opOf (layOf (bin2 gEq (slotP 3) (opOf (cstE (.int 1)))))) nilA)))))))))))
    (retS (takeR 2))))
def m_value_of := runT 7 b_value_of
theorem ok_value_of (T : Tops mg) (D : DefAt K mg "value_of" s_value_of ["net", "through"]) : Callee P W.w K mg base "value_of" 1 ["net", "through"] (spT K 2 m_value_of) :=
  D.t (N := N_value_of) sc_value_of (by decide) fun f cdv A outer s H E hg hr =>
    (ss_cons (s_asg (i := 2) sc_value_of.nd (by rfl) (Or.inl (by rfl)) (pE_R (e_cst pe_int (fun _ => .int _))))
    (ss_cons (s_for (tg := (.tp [(.tp [(.nm 3), (.nm 4), (.nm 5)]), (.nm 6)])) PassesOwn.never (by rfl) (i_zip (by rfl) T.b_zip (a_cons (pE_P (pR_E (e_ix (ix_any rfl (room9 hr)) p_ixA (e_slotP (pv 0)) (pE_P (e_cst pe_int (fun _ => .int _)))))) (a_cons (pE_P (e_slotE (pv 1))) a_nil))) (pg_tup (by rfl) (pgs_cons (pg_tup (by rfl) (pgs_cons (g_nm (i := 3) sc_value_of.nd (by rfl) (Or.inl (by rfl))) (pgs_cons (g_nm (i := 4) sc_value_of.nd (by rfl) (Or.inl (by rfl))) (pgs_cons (g_nm (i := 5) sc_value_of.nd (by rfl) (Or.inl (by rfl))) pgs_nil)))) (pgs_cons (g_nm (i := 6) sc_value_of.nd (by rfl) (Or.inl (by rfl))) pgs_nil))) (ss_one (s_aug (i := 2) ip_add sc_value_of.nd (by rfl) (Or.inl (by rfl)) (pR_E (e_bin o_mul p_mul (e_slotP (pv 6)) (pE_P (pR_E (e_bin op_sub p_sub (pE_P (pR_E (e_callTy call_int1 p_int (by rfl) T.b_int bb_int (a_cons (pE_P (pR_E (e_cmp (op_eqD hr.units) p_eq (nomark _) (e_slotP (pv 4)) (pE_P (e_cst (pe_globI (by rfl) T.g_SINK) (fun _ => .int _)))))) a_nil)))) (pE_P (pR_E (e_callTy call_int1 p_int (by rfl) T.b_int bb_int (a_cons (pE_P (pR_E (e_cmp (op_eqD hr.units) p_eq (nomark _) (e_slotP (pv 3)) (pE_P (e_cst (pe_globI (by rfl) T.g_SINK) (fun _ => .int _)))))) a_nil))))))))))))
    (ss_one (s_ret (e_take (pv 2))))))
abbrev s_is_through : Stmt := top 6
abbrev N_is_through : List Str := ["net", "thing", "many", "arcs", "left", "start", "end", "cap", "one"]
theorem sc_is_through : FnScope N_is_through ["net", "thing"] (defScope s_is_through) := ⟨rfl, rfl, rfl, by decide +kernel, rfl, by decide +kernel, by decide +kernel⟩
abbrev b_is_through : Es := (seqS (unpS (.tp [(.nm 2), (.nm 3)]) (slotE 0))
    (seqS (ifS (orT (notT (boolOf (isiR "tuple" (slotP 1)))) (orT (boolOf (bin2 gNe (opOf (layOf (callN gLen (consA (slotP 1) nilA)))) (opOf (layOf (callN gLen (consA (slotP 3) nilA)))))) (notT (boolOf (callN gAll (consA (opOf (layOf (lcR (itSeq (slotE 1)) (.nm 8) yesT (layOf (callT 1 m_is_count (consA (slotF 8) nilA))) [8]))) nilA)))))) (retS (resOf (cstE (.bool false)))) nilS)
    (seqS (asgS 4 (bin2 gMul (opOf (layOf (lstR (consA (opOf (cstE (.int 0))) nilA)))) (slotP 2)))
    (seqS (forS (itZip (consA (opOf (slotE 3)) (consA (opOf (slotE 1)) nilA))) (.tp [(.tp [(.nm 5), (.nm 6), (.nm 7)]), (.nm 8)]) (seqS (ifS (andT (boolOf (bin2 gNotN (slotP 7) (opOf (cstE .none)))) (boolOf (bin2 (gCmp fun i j => decide (j < i)) (slotP 8) (slotP 7)))) (retS (resOf (cstE (.bool false)))) nilS)
    (seqS (augAS 4 (fun i j => i - j) (slotE 5) (slotE 8))
    (augAS 4 (fun i j => i + j) (slotE 6) (slotE 8)))))
    (retS (callN gAll (consA (opOf (layOf (lcR (itSeq (layOf (sl3 gSlA (slotP 4) (boundO (some (cstE (.int 2)))) (boundO none)))) (.nm 8) yesT (layOf (bin2 gEq (slotP 8) (opOf (cstE (.int 0))))) [8]))) nilA)))))))
def m_is_through := runT 9 b_is_through
theorem ok_is_through (T : Tops mg) (D : DefAt K mg "is_through" s_is_through ["net", "thing"]) (C_is_count : Callee P W.w K mg base "is_count" 2 ["thing"] (spT K 1 m_is_count)) : Callee P W.w K mg base "is_through" 3 ["net", "thing"] (spT K 2 m_is_through) :=
  D.t (N := N_is_through) sc_is_through (by decide) fun f cdv A outer s H E hg hr =>
    (ss_cons (s_unp (tg := (.tp [(.nm 2), (.nm 3)])) (f := (slotE 0)) (ps_asg (e_slotE (pv 0)) (pg_tup (by rfl) (pgs_cons (g_nm (i := 2) sc_is_through.nd (by rfl) (Or.inl (by rfl))) (pgs_cons (g_nm (i := 3) sc_is_through.nd (by rfl) (Or.inl (by rfl))) pgs_nil)))))
    (ss_cons (s_if ((w_or (t_not (t_val (e_isi (e_slotP (pv 1)) (by rfl) T.b_isinstance (by rfl) T.b_tuple bb_tuple kit_tuple) (by intro _; rfl))) (w_or (t_cmp (op_neD hr.units) p_ne (nomark _) (pE_P (pR_E (e_callB c_len p_len (by rfl) T.b_len bb_len (a_cons (e_slotP (pv 1)) a_nil)))) (pE_P (pR_E (e_callB c_len p_len (by rfl) T.b_len bb_len (a_cons (e_slotP (pv 3)) a_nil))))) (w_or1 (t_not (t_val (e_callB (cr_all (by rfl)) p_all (by rfl) T.b_all bb_all (a_cons (pE_P (pR_E (e_lc (by rfl) sc_is_through.nd (own := [("one", 8)]) (tgt := (.nm 8)) (it := (itSeq (slotE 1))) (fc := yesT) (fe := (layOf (callT 1 m_is_count (consA (slotF 8) nilA)))) (i_seq (e_slotE (pv 1))) (blkOk_by (N := N_is_through) (sc := defScope s_is_through) (by decide +kernel)) (fun _ _ _ _ _ => (g_nm (i := 8) sc_is_through.nd (by rfl) (Or.inl (by rfl)))) (fun _ _ _ _ _ => ts_nil) (fun _ _ _ _ _ => (pR_E (e_fun C_is_count hg hr (by decide) (by rfl) (a_cons (e_slotF (pv 8)) a_nil))))))) a_nil)) (by intro _; rfl))))))).pt (ss_one (s_ret (pE_R (e_cst pe_bl (fun _ => .bl _))))) ss_nil)
    (ss_cons (s_asg (i := 4) sc_is_through.nd (by rfl) (Or.inl (by rfl)) (e_bin o_mul p_mul (pE_P (pR_E (e_lst (a_cons (pE_P (e_cst pe_int (fun _ => .int _))) a_nil)))) (e_slotP (pv 2))))
    (ss_cons (s_for (tg := (.tp [(.tp [(.nm 5), (.nm 6), (.nm 7)]), (.nm 8)])) PassesOwn.never (by rfl) (i_zip (by rfl) T.b_zip (a_cons (pE_P (e_slotE (pv 3))) (a_cons (pE_P (e_slotE (pv 1))) a_nil))) (pg_tup (by rfl) (pgs_cons (pg_tup (by rfl) (pgs_cons (g_nm (i := 5) sc_is_through.nd (by rfl) (Or.inl (by rfl))) (pgs_cons (g_nm (i := 6) sc_is_through.nd (by rfl) (Or.inl (by rfl))) (pgs_cons (g_nm (i := 7) sc_is_through.nd (by rfl) (Or.inl (by rfl))) pgs_nil)))) (pgs_cons (g_nm (i := 8) sc_is_through.nd (by rfl) (Or.inl (by rfl))) pgs_nil))) (ss_cons (s_if ((w_and (t_cmp op_notN p_notN (nomark _) (e_slotP (pv 7)) (pE_P (e_cst pe_non (fun _ => .non)))) (w_and1 (t_cmp op_gt p_cmp (nomark _) (e_slotP (pv 8)) (e_slotP (pv 7)))))).pt (ss_one (s_ret (pE_R (e_cst pe_bl (fun _ => .bl _))))) ss_nil)
    (ss_cons (s_augA rfl (room9 hr) ip_sub (pv 4) (e_slotE (pv 5)) (e_slotE (pv 8)))
    (ss_one (s_augA rfl (room9 hr) ip_add (pv 4) (e_slotE (pv 6)) (e_slotE (pv 8)))))))
    (ss_one (s_ret (e_callB (cr_all (by rfl)) p_all (by rfl) T.b_all bb_all (a_cons (pE_P (pR_E (e_lc (by rfl) sc_is_through.nd (own := [("one", 8)]) (tgt := (.nm 8)) (it := (itSeq (layOf (sl3 gSlA (slotP 4) (boundO (some (cstE (.int 2)))) (boundO none))))) (fc := yesT) (fe := (layOf (bin2 gEq (slotP 8) (opOf (cstE (.int 0)))))) (i_seq (pR_E (e_slice sl_all p_slA (e_slotP (pv 4)) (o_some (e_cst pe_int (fun _ => .int _))) o_none))) (blkOk_by (N := N_is_through) (sc := defScope s_is_through) (by decide +kernel)) (fun _ _ _ _ _ => (g_nm (i := 8) sc_is_through.nd (by rfl) (Or.inl (by rfl)))) (fun _ _ _ _ _ => ts_nil) (fun _ _ _ _ _ => (pR_E (e_cmp (op_eqD hr.units) p_eq (nomark _) (e_slotP (pv 8)) (pE_P (e_cst pe_int (fun _ => .int _))))))))) a_nil))))))))
abbrev s_law_bag : Stmt := top 8
abbrev N_law_bag : List Str := ["script", "cell"]
theorem sc_law_bag : FnScope N_law_bag ["script"] (defScope s_law_bag) := ⟨rfl, rfl, rfl, by decide +kernel, rfl, by decide +kernel, by decide +kernel⟩
abbrev b_law_bag : Es := (retS (lstR (consA (opOf (cstE (.int 0))) (consA (opOf (cstE (.int 1234567891))) (consA (opOf (cstE (.int 0))) (consA (opOf (layOf (lcR (itSeq (layOf (slS (slotP 0) (boundO none) (boundO (some (cstE (.int 63))))))) (.nm 1) yesT (layOf (callN gAbs (consA (slotP 1) nilA))) [1]))) nilA))))))
def m_law_bag := runT 2 b_law_bag
theorem ok_law_bag (T : Tops mg) (D : DefAt K mg "_law_bag" s_law_bag ["script"]) : Callee P W.w K mg base "_law_bag" 1 ["script"] (spT K 1 m_law_bag) :=
  D.t (N := N_law_bag) sc_law_bag (by decide) fun f cdv A outer s H E hg hr =>
    (ss_one (s_ret (e_lst (a_cons (pE_P (e_cst pe_int (fun _ => .int _))) (a_cons (pE_P (e_cst pe_int (fun _ => .int _))) (a_cons (pE_P (e_cst pe_int (fun _ => .int _))) (a_cons (pE_P (pR_E (e_lc (by rfl) sc_law_bag.nd (own := [("cell", 1)]) (tgt := (.nm 1)) (it := (itSeq (layOf (slS (slotP 0) (boundO none) (boundO (some (cstE (.int 63)))))))) (fc := yesT) (fe := (layOf (callN gAbs (consA (slotP 1) nilA)))) (i_seq (pR_E (e_sliceS (e_slotP (pv 0)) o_none (o_some (e_cst pe_int (fun _ => .int _)))))) (blkOk_by (N := N_law_bag) (sc := defScope s_law_bag) (by decide +kernel)) (fun _ _ _ _ _ => (g_nm (i := 1) sc_law_bag.nd (by rfl) (Or.inl (by rfl)))) (fun _ _ _ _ _ => ts_nil) (fun _ _ _ _ _ => (pR_E (e_callB call_abs p_abs (by rfl) T.b_abs bb_abs (a_cons (e_slotP (pv 1)) a_nil))))))) a_nil)))))))
abbrev s_law_take : Stmt := top 9
abbrev N_law_take : List Str := ["bag", "many", "cell", "stirred", "value", "begin", "second"]
theorem sc_law_take : FnScope N_law_take ["bag", "many"] (defScope s_law_take) := ⟨rfl, rfl, rfl, by decide +kernel, rfl, by decide +kernel, by decide +kernel⟩
abbrev b_law_take : Es := (seqS (ifS (boolOf (bin2 gEq (opOf (layOf (bin2 gIxA (slotP 0) (opOf (cstE (.int 0)))))) (opOf (cstE (.int 0))))) (seqS (asgS 2 (bin2 gIxA (opOf (layOf (bin2 gAdd (opOf (layOf (sl3 gSl (opOf (layOf (bin2 gIxA (slotP 0) (opOf (cstE (.int 3)))))) (boundO (some (layOf (bin2 gIxA (slotP 0) (opOf (cstE (.int 2))))))) (boundO none)))) (opOf (layOf (lstR (consA (opOf (cstE (.int 0))) nilA))))))) (opOf (cstE (.int 0)))))
    (seqS (augAS 0 (fun i j => i + j) (cstE (.int 2)) (cstE (.int 1)))
    (seqS (ifS (boolOf (bin2 (gCmp fun i j => decide (j ≤ i)) (slotP 2) (opOf (layOf (bin2 gPow (opOf (cstE (.int 10))) (opOf (cstE (.int 18)))))))) (setAS 0 (cstE (.int 0)) (slotE 2)) nilS)
    (seqS (asgS 3 (bin2 gAdd (opOf (layOf (bin2 gAdd (opOf (layOf (bin2 gMul (opOf (layOf (bin2 gIxA (slotP 0) (opOf (cstE (.int 1)))))) (opOf (cstE (.int 48271)))))) (opOf (layOf (bin2 gMod (opOf (layOf (callN gInt (consA (slotP 2) nilA)))) (opOf (cstE (.int 2147483647))))))))) (opOf (layOf (bin2 gMul (opOf (cstE (.int 7919))) (opOf (layOf (bin2 gIxA (slotP 0) (opOf (cstE (.int 2)))))))))))
    (setAS 0 (cstE (.int 1)) (layOf (bin2 gMod (opOf (layOf (callN gInt (consA (slotP 3) nilA)))) (opOf (cstE (.int 2147483647)))))))))) nilS)
    (seqS (ifS (boolOf (bin2 (gCmp fun i j => decide (j < i)) (opOf (layOf (bin2 gIxA (slotP 0) (opOf (cstE (.int 0)))))) (opOf (cstE (.int 0))))) (seqS (asgS 4 (bin2 gMod (opOf (layOf (callN gInt (consA (opOf (layOf (bin2 gIxA (slotP 0) (opOf (cstE (.int 0)))))) nilA)))) (slotP 1)))
    (seqS (setAS 0 (cstE (.int 0)) (layOf (bin2 gFdiv (opOf (layOf (callN gInt (consA (opOf (layOf (bin2 gIxA (slotP 0) (opOf (cstE (.int 0)))))) nilA)))) (slotP 1))))
    (retS (takeR 4)))) nilS)
    (seqS (asgS 5 (bin2 gMod (opOf (layOf (callN gInt (consA (opOf (layOf (bin2 gMul (opOf (layOf (bin2 gAdd (opOf (layOf (bin2 gIxA (slotP 0) (opOf (cstE (.int 1)))))) (opOf (cstE (.int 1)))))) (opOf (cstE (.int 39373)))))) nilA)))) (opOf (cstE (.int 1000000007)))))
    (seqS (asgS 6 (bin2 gMod (opOf (layOf (callN gInt (consA (opOf (layOf (bin2 gMul (opOf (layOf (bin2 gMod (opOf (layOf (callN gInt (consA (opOf (layOf (bin2 gMul (slotP 5) (slotP 5)))) nilA)))) (opOf (cstE (.int 998244353)))))) (opOf (cstE (.int 30011)))))) nilA)))) (opOf (cstE (.int 998244353)))))
    (retS (bin2 gMod (opOf (layOf (callN gInt (consA (opOf (layOf (bin2 gFdiv (slotP 6) (opOf (cstE (.int 7)))))) nilA)))) (slotP 1)))))))
def m_law_take := runU 7 b_law_take
theorem ok_law_take (T : Tops mg) (D : DefAt K mg "_law_take" s_law_take ["bag", "many"]) : Callee P W.w K mg base "_law_take" 1 ["bag", "many"] (spU K 2 m_law_take) :=
  D.u (N := N_law_take) sc_law_take (by decide) fun f cdv A outer s H E hg hr =>
    (ss_cons (s_if (t_cmp (op_eqD hr.units) p_eq (nomark _) (pE_P (pR_E (e_ix (ix_any rfl (room9 hr)) p_ixA (e_slotP (pv 0)) (pE_P (e_cst pe_int (fun _ => .int _)))))) (pE_P (e_cst pe_int (fun _ => .int _)))) (ss_cons (s_asg (i := 2) sc_law_take.nd (by rfl) (Or.inl (by rfl)) (e_ix (ix_any rfl (room9 hr)) p_ixA (pE_P (pR_E (e_bin o_add p_add (pE_P (pR_E (e_slice sl_list p_sl (pE_P (pR_E (e_ix (ix_any rfl (room9 hr)) p_ixA (e_slotP (pv 0)) (pE_P (e_cst pe_int (fun _ => .int _)))))) (o_some (pR_E (e_ix (ix_any rfl (room9 hr)) p_ixA (e_slotP (pv 0)) (pE_P (e_cst pe_int (fun _ => .int _)))))) o_none))) (pE_P (pR_E (e_lst (a_cons (pE_P (e_cst pe_int (fun _ => .int _))) a_nil))))))) (pE_P (e_cst pe_int (fun _ => .int _)))))
    (ss_cons (s_augA rfl (room9 hr) ip_add (pv 0) (e_cst pe_int (fun _ => .int _)) (e_cst pe_int (fun _ => .int _)))
    (ss_cons (s_if (t_cmp op_ge p_cmp (nomark _) (e_slotP (pv 2)) (pE_P (pR_E (e_bin op_pow p_pow (pE_P (e_cst pe_int (fun _ => .int _))) (pE_P (e_cst pe_int (fun _ => .int _))))))) (ss_one (s_setA (ps_asg (e_slotE (pv 2)) (pg_sub (pv 0) (e_cst pe_int (fun _ => .int _)) (set_any rfl (room9 hr)))))) ss_nil)
    (ss_cons (s_asg (i := 3) sc_law_take.nd (by rfl) (Or.inl (by rfl)) (e_bin o_add p_add (pE_P (pR_E (e_bin o_add p_add (pE_P (pR_E (e_bin o_mul p_mul (pE_P (pR_E (e_ix (ix_any rfl (room9 hr)) p_ixA (e_slotP (pv 0)) (pE_P (e_cst pe_int (fun _ => .int _)))))) (pE_P (e_cst pe_int (fun _ => .int _)))))) (pE_P (pR_E (e_bin op_mod p_mod (pE_P (pR_E (e_callTy call_int1 p_int (by rfl) T.b_int bb_int (a_cons (e_slotP (pv 2)) a_nil)))) (pE_P (e_cst pe_int (fun _ => .int _))))))))) (pE_P (pR_E (e_bin o_mul p_mul (pE_P (e_cst pe_int (fun _ => .int _))) (pE_P (pR_E (e_ix (ix_any rfl (room9 hr)) p_ixA (e_slotP (pv 0)) (pE_P (e_cst pe_int (fun _ => .int _)))))))))))
    (ss_one (s_setA (ps_asg (pR_E (e_bin op_mod p_mod (pE_P (pR_E (e_callTy call_int1 p_int (by rfl) T.b_int bb_int (a_cons (e_slotP (pv 3)) a_nil)))) (pE_P (e_cst pe_int (fun _ => .int _))))) (pg_sub (pv 0) (e_cst pe_int (fun _ => .int _)) (set_any rfl (room9 hr)))))))))) ss_nil)
    (ss_cons (s_if (t_cmp op_gt p_cmp (nomark _) (pE_P (pR_E (e_ix (ix_any rfl (room9 hr)) p_ixA (e_slotP (pv 0)) (pE_P (e_cst pe_int (fun _ => .int _)))))) (pE_P (e_cst pe_int (fun _ => .int _)))) (ss_cons (s_asg (i := 4) sc_law_take.nd (by rfl) (Or.inl (by rfl)) (e_bin op_mod p_mod (pE_P (pR_E (e_callTy call_int1 p_int (by rfl) T.b_int bb_int (a_cons (pE_P (pR_E (e_ix (ix_any rfl (room9 hr)) p_ixA (e_slotP (pv 0)) (pE_P (e_cst pe_int (fun _ => .int _)))))) a_nil)))) (e_slotP (pv 1))))
    (ss_cons (s_setA (ps_asg (pR_E (e_bin op_fdivW p_fdiv (pE_P (pR_E (e_callTy call_int1 p_int (by rfl) T.b_int bb_int (a_cons (pE_P (pR_E (e_ix (ix_any rfl (room9 hr)) p_ixA (e_slotP (pv 0)) (pE_P (e_cst pe_int (fun _ => .int _)))))) a_nil)))) (e_slotP (pv 1)))) (pg_sub (pv 0) (e_cst pe_int (fun _ => .int _)) (set_any rfl (room9 hr)))))
    (ss_one (s_ret (e_take (pv 4)))))) ss_nil)
    (ss_cons (s_asg (i := 5) sc_law_take.nd (by rfl) (Or.inl (by rfl)) (e_bin op_mod p_mod (pE_P (pR_E (e_callTy call_int1 p_int (by rfl) T.b_int bb_int (a_cons (pE_P (pR_E (e_bin o_mul p_mul (pE_P (pR_E (e_bin o_add p_add (pE_P (pR_E (e_ix (ix_any rfl (room9 hr)) p_ixA (e_slotP (pv 0)) (pE_P (e_cst pe_int (fun _ => .int _)))))) (pE_P (e_cst pe_int (fun _ => .int _)))))) (pE_P (e_cst pe_int (fun _ => .int _)))))) a_nil)))) (pE_P (e_cst pe_int (fun _ => .int _)))))
    (ss_cons (s_asg (i := 6) sc_law_take.nd (by rfl) (Or.inl (by rfl)) (e_bin op_mod p_mod (pE_P (pR_E (e_callTy call_int1 p_int (by rfl) T.b_int bb_int (a_cons (pE_P (pR_E (e_bin o_mul p_mul (pE_P (pR_E (e_bin op_mod p_mod (pE_P (pR_E (e_callTy call_int1 p_int (by rfl) T.b_int bb_int (a_cons (pE_P (pR_E (e_bin o_mul p_mul (e_slotP (pv 5)) (e_slotP (pv 5))))) a_nil)))) (pE_P (e_cst pe_int (fun _ => .int _)))))) (pE_P (e_cst pe_int (fun _ => .int _)))))) a_nil)))) (pE_P (e_cst pe_int (fun _ => .int _)))))
    (ss_one (s_ret (e_bin op_mod p_mod (pE_P (pR_E (e_callTy call_int1 p_int (by rfl) T.b_int bb_int (a_cons (pE_P (pR_E (e_bin op_fdivW p_fdiv (e_slotP (pv 6)) (pE_P (e_cst pe_int (fun _ => .int _)))))) a_nil)))) (e_slotP (pv 1)))))))))
abbrev s_law_some : Stmt := top 10
abbrev N_law_some : List Str := ["bag", "things"]
theorem sc_law_some : FnScope N_law_some ["bag", "things"] (defScope s_law_some) := ⟨rfl, rfl, rfl, by decide +kernel, rfl, by decide +kernel, by decide +kernel⟩
abbrev b_law_some : Es := (retS (bin2 gIxA (slotP 1) (opOf (layOf (callU 2 m_law_take (consA (slotP 0) (consA (opOf (layOf (callN gLen (consA (slotP 1) nilA)))) nilA)))))))
def m_law_some := runU 2 b_law_some
theorem ok_law_some (T : Tops mg) (D : DefAt K mg "_law_some" s_law_some ["bag", "things"]) (C_law_take : Callee P W.w K mg base "_law_take" 1 ["bag", "many"] (spU K 2 m_law_take)) : Callee P W.w K mg base "_law_some" 2 ["bag", "things"] (spU K 2 m_law_some) :=
  D.u (N := N_law_some) sc_law_some (by decide) fun f cdv A outer s H E hg hr =>
    (ss_one (s_ret (e_ix (ix_any rfl (room9 hr)) p_ixA (e_slotP (pv 1)) (pE_P (pR_E (e_funU C_law_take hg hr (by decide) (by rfl) (a_cons (e_slotP (pv 0)) (a_cons (pE_P (pR_E (e_callB c_len p_len (by rfl) T.b_len bb_len (a_cons (e_slotP (pv 1)) a_nil)))) a_nil))))))))
abbrev s_law_alike : Stmt := top 11
abbrev N_law_alike : List Str := ["found", "due"]
theorem sc_law_alike : FnScope N_law_alike ["found", "due"] (defScope s_law_alike) := ⟨rfl, rfl, rfl, by decide +kernel, rfl, by decide +kernel, by decide +kernel⟩
abbrev b_law_alike : Es := (retS (andV (bin2 gEq (slotP 0) (slotP 1)) (bin2 gEq (opOf (layOf (callN gRepr (consA (slotP 0) nilA)))) (opOf (layOf (callN gRepr (consA (slotP 1) nilA)))))))
def m_law_alike := runT 2 b_law_alike
theorem ok_law_alike (T : Tops mg) (D : DefAt K mg "_law_alike" s_law_alike ["found", "due"]) : Callee P W.w K mg base "_law_alike" 1 ["found", "due"] (spT K 2 m_law_alike) :=
  D.t (N := N_law_alike) sc_law_alike (by decide) fun f cdv A outer s H E hg hr =>
    (ss_one (s_ret (e_and (e_cmp (op_eqD hr.units) p_eq (nomark _) (e_slotP (pv 0)) (e_slotP (pv 1))) (e_one (e_cmp (op_eqD hr.units) p_eq (nomark _) (pE_P (pR_E (e_callB (c_repr hg hr.units) p_repr (by rfl) T.b_repr bb_repr (a_cons (e_slotP (pv 0)) a_nil)))) (pE_P (pR_E (e_callB (c_repr hg hr.units) p_repr (by rfl) T.b_repr bb_repr (a_cons (e_slotP (pv 1)) a_nil)))))))))
abbrev s_law_size : Stmt := top 12
abbrev N_law_size : List Str := ["bag", "most", "small"]
theorem sc_law_size : FnScope N_law_size ["bag", "most"] (defScope s_law_size) := ⟨rfl, rfl, rfl, by decide +kernel, rfl, by decide +kernel, by decide +kernel⟩
abbrev b_law_size : Es := (seqS (asgS 2 (callU 2 m_law_take (consA (slotP 0) (consA (opOf (layOf (bin2 gAdd (opOf (layOf (callN gMin2 (consA (slotP 1) (consA (opOf (cstE (.int 6))) nilA))))) (opOf (cstE (.int 1)))))) nilA))))
    (retS (callU 2 m_law_some (consA (slotP 0) (consA (opOf (layOf (lstR (consA (opOf (slotE 2)) (consA (opOf (slotE 2)) (consA (opOf (slotE 2)) (consA (opOf (layOf (callN gMin2 (consA (slotP 1) (consA (opOf (cstE (.int 1))) nilA))))) (consA (opOf (layOf (callU 2 m_law_take (consA (slotP 0) (consA (opOf (layOf (bin2 gAdd (slotP 1) (opOf (cstE (.int 1)))))) nilA))))) (consA (opOf (slotE 1)) nilA))))))))) nilA)))))
def m_law_size := runU 3 b_law_size
theorem ok_law_size (T : Tops mg) (D : DefAt K mg "_law_size" s_law_size ["bag", "most"]) (C_law_some : Callee P W.w K mg base "_law_some" 2 ["bag", "things"] (spU K 2 m_law_some)) (C_law_take : Callee P W.w K mg base "_law_take" 1 ["bag", "many"] (spU K 2 m_law_take)) : Callee P W.w K mg base "_law_size" 3 ["bag", "most"] (spU K 2 m_law_size) :=
  D.u (N := N_law_size) sc_law_size (by decide) fun f cdv A outer s H E hg hr =>
    (ss_cons (s_asg (i := 2) sc_law_size.nd (by rfl) (Or.inl (by rfl)) (e_funU C_law_take hg hr (by decide) (by rfl) (a_cons (e_slotP (pv 0)) (a_cons (pE_P (pR_E (e_bin o_add p_add (pE_P (pR_E (e_callB (call_min2 (by rfl)) p_min2 (by rfl) T.b_min bb_min (a_cons (e_slotP (pv 1)) (a_cons (pE_P (e_cst pe_int (fun _ => .int _))) a_nil))))) (pE_P (e_cst pe_int (fun _ => .int _)))))) a_nil))))
    (ss_one (s_ret (e_funU C_law_some hg hr (by decide) (by rfl) (a_cons (e_slotP (pv 0)) (a_cons (pE_P (pR_E (e_lst (a_cons (pE_P (e_slotE (pv 2))) (a_cons (pE_P (e_slotE (pv 2))) (a_cons (pE_P (e_slotE (pv 2))) (a_cons (pE_P (pR_E (e_callB (call_min2 (by rfl)) p_min2 (by rfl) T.b_min bb_min (a_cons (e_slotP (pv 1)) (a_cons (pE_P (e_cst pe_int (fun _ => .int _))) a_nil))))) (a_cons (pE_P (pR_E (e_funU C_law_take hg hr (by decide) (by rfl) (a_cons (e_slotP (pv 0)) (a_cons (pE_P (pR_E (e_bin o_add p_add (e_slotP (pv 1)) (pE_P (e_cst pe_int (fun _ => .int _)))))) a_nil))))) (a_cons (pE_P (e_slotE (pv 1))) a_nil))))))))) a_nil))))))
abbrev s_law_whole : Stmt := top 13
abbrev N_law_whole : List Str := ["thing"]
theorem sc_law_whole : FnScope N_law_whole ["thing"] (defScope s_law_whole) := ⟨rfl, rfl, rfl, by decide +kernel, rfl, by decide +kernel, by decide +kernel⟩
abbrev b_law_whole : Es := (retS (andV (isiR "int" (slotP 0)) (notV (isiR "bool" (slotP 0)))))
def m_law_whole := runT 1 b_law_whole
theorem ok_law_whole (T : Tops mg) (D : DefAt K mg "_law_whole" s_law_whole ["thing"]) : Callee P W.w K mg base "_law_whole" 1 ["thing"] (spT K 1 m_law_whole) :=
  D.t (N := N_law_whole) sc_law_whole (by decide) fun f cdv A outer s H E hg hr =>
    (ss_one (s_ret (e_and (e_isi (e_slotP (pv 0)) (by rfl) T.b_isinstance (by rfl) T.b_int bb_int kit_int) (e_one (e_not (e_isi (e_slotP (pv 0)) (by rfl) T.b_isinstance (by rfl) T.b_bool bb_bool kit_bool))))))
abbrev s_law_odd : Stmt := top 14
abbrev N_law_odd : List Str := ["bag", "some", "more"]
theorem sc_law_odd : FnScope N_law_odd ["bag"] (defScope s_law_odd) := ⟨rfl, rfl, rfl, by decide +kernel, rfl, by decide +kernel, by decide +kernel⟩
abbrev b_law_odd : Es := (seqS (asgS 1 (lstR (consA (opOf (cstE .none)) (consA (opOf (cstE (.bool true))) (consA (opOf (cstE (.bool false))) (consA (opOf (layOf (negR (cstE (.int 1))))) (consA (opOf (cstE (.int 0))) (consA (opOf (cstE (.int 1))) (consA (opOf (layOf (bin2 gPow (opOf (cstE (.int 10))) (opOf (cstE (.int 39)))))) (consA (opOf (cstE (.str ""))) (consA (opOf (cstE (.str "a"))) (consA (opOf (cstE (.str "feed"))) (consA (opOf (cstE (.str "A"))) (consA (opOf (cstE (.str "a b"))) (consA (opOf (cstE (.str "7b"))) (consA (opOf (cstE (.str "a_b"))) (consA (opOf (layOf (bin2 gMulS (opOf (cstE (.str "b"))) (opOf (cstE (.int 21)))))) (consA (opOf (layOf (tupR nilA))) (consA (opOf (layOf (lstR nilA))) (consA (opOf (layOf dict0)) nilA))))))))))))))))))))
    (seqS (asgS 2 (lstR (consA (opOf (layOf (tupR (consA (opOf (cstE (.str "a"))) nilA)))) (consA (opOf (layOf (tupR (consA (opOf (cstE (.str "a"))) (consA (opOf (cstE (.str "b"))) nilA))))) (consA (opOf (layOf (tupR (consA (opOf (cstE (.str "a"))) (consA (opOf (cstE (.str "b"))) (consA (opOf (cstE (.int 1))) nilA)))))) (consA (opOf (layOf (lstR (consA (opOf (cstE (.int 0))) nilA)))) (consA (opOf (layOf (tupR (consA (opOf (cstE (.int 0))) nilA)))) (consA (opOf (layOf (tupR (consA (opOf (cstE .none)) nilA)))) (consA (opOf (layOf (tupR (consA (opOf (layOf (tupR nilA))) nilA)))) (consA (opOf (layOf (tupR (consA (opOf (layOf (tupR nilA))) (consA (opOf (layOf (tupR nilA))) nilA))))) (consA (opOf (layOf (dispR [((cstE (.str "a")), (cstE (.int 1)))]))) (consA (opOf (cstE (.str "
"))) (consA (opOf (layOf (tupR (consA (opOf (cstE (.int 0))) (consA (opOf (cstE (.int 1))) nilA))))) nilA)))))))))))))
    (retS (callU 2 m_law_some (consA (slotP 0) (consA (opOf (layOf (bin2 gAdd (slotP 1) (slotP 2)))) nilA))))))
def m_law_odd := runU 3 b_law_odd
theorem ok_law_odd (T : Tops mg) (D : DefAt K mg "_law_odd" s_law_odd ["bag"]) (C_law_some : Callee P W.w K mg base "_law_some" 2 ["bag", "things"] (spU K 2 m_law_some)) : Callee P W.w K mg base "_law_odd" 3 ["bag"] (spU K 1 m_law_odd) :=
  D.u (N := N_law_odd) sc_law_odd (by decide) fun f cdv A outer s H E hg hr =>
    (ss_cons (s_asg (i := 1) sc_law_odd.nd (by rfl) (Or.inl (by rfl)) (e_lst (a_cons (pE_P (e_cst pe_non (fun _ => .non))) (a_cons (pE_P (e_cst pe_bl (fun _ => .bl _))) (a_cons (pE_P (e_cst pe_bl (fun _ => .bl _))) (a_cons (pE_P (pR_E (e_neg (e_cst pe_int (fun _ => .int _))))) (a_cons (pE_P (e_cst pe_int (fun _ => .int _))) (a_cons (pE_P (e_cst pe_int (fun _ => .int _))) (a_cons (pE_P (pR_E (e_bin op_pow p_pow (pE_P (e_cst pe_int (fun _ => .int _))) (pE_P (e_cst pe_int (fun _ => .int _)))))) (a_cons (pE_P (e_cst pe_str (fun _ => .str _))) (a_cons (pE_P (e_cst pe_str (fun _ => .str _))) (a_cons (pE_P (e_cst pe_str (fun _ => .str _))) (a_cons (pE_P (e_cst pe_str (fun _ => .str _))) (a_cons (pE_P (e_cst pe_str (fun _ => .str _))) (a_cons (pE_P (e_cst pe_str (fun _ => .str _))) (a_cons (pE_P (e_cst pe_str (fun _ => .str _))) (a_cons (pE_P (pR_E (e_bin op_mulS p_mulS (pE_P (e_cst pe_str (fun _ => .str _))) (pE_P (e_cst pe_int (fun _ => .int _)))))) (a_cons (pE_P (pR_E (e_tup a_nil))) (a_cons (pE_P (pR_E (e_lst a_nil))) (a_cons (pE_P (pR_E e_dict0)) a_nil))))))))))))))))))))
    (ss_cons (s_asg (i := 2) sc_law_odd.nd (by rfl) (Or.inl (by rfl)) (e_lst (a_cons (pE_P (pR_E (e_tup (a_cons (pE_P (e_cst pe_str (fun _ => .str _))) a_nil)))) (a_cons (pE_P (pR_E (e_tup (a_cons (pE_P (e_cst pe_str (fun _ => .str _))) (a_cons (pE_P (e_cst pe_str (fun _ => .str _))) a_nil))))) (a_cons (pE_P (pR_E (e_tup (a_cons (pE_P (e_cst pe_str (fun _ => .str _))) (a_cons (pE_P (e_cst pe_str (fun _ => .str _))) (a_cons (pE_P (e_cst pe_int (fun _ => .int _))) a_nil)))))) (a_cons (pE_P (pR_E (e_lst (a_cons (pE_P (e_cst pe_int (fun _ => .int _))) a_nil)))) (a_cons (pE_P (pR_E (e_tup (a_cons (pE_P (e_cst pe_int (fun _ => .int _))) a_nil)))) (a_cons (pE_P (pR_E (e_tup (a_cons (pE_P (e_cst pe_non (fun _ => .non))) a_nil)))) (a_cons (pE_P (pR_E (e_tup (a_cons (pE_P (pR_E (e_tup a_nil))) a_nil)))) (a_cons (pE_P (pR_E (e_tup (a_cons (pE_P (pR_E (e_tup a_nil))) (a_cons (pE_P (pR_E (e_tup a_nil))) a_nil))))) (a_cons (pE_P (pR_E (e_disp (fs := [((cstE (.str "a")), (cstE (.int 1)))]) rfl (room8 hr) (pps_cons (e_cst pe_str (fun _ => .str _)) (e_cst pe_int (fun _ => .int _)) pps_nil)))) (a_cons (pE_P (e_cst pe_str (fun _ => .str _))) (a_cons (pE_P (pR_E (e_tup (a_cons (pE_P (e_cst pe_int (fun _ => .int _))) (a_cons (pE_P (e_cst pe_int (fun _ => .int _))) a_nil))))) a_nil)))))))))))))
    (ss_one (s_ret (e_funU C_law_some hg hr (by decide) (by rfl) (a_cons (e_slotP (pv 0)) (a_cons (pE_P (pR_E (e_bin o_add p_add (e_slotP (pv 1)) (e_slotP (pv 2))))) a_nil)))))))
abbrev s_law_bent_word : Stmt := top 15
abbrev N_law_bent_word : List Str := ["bag", "word", "at", "sign", "some"]
theorem sc_law_bent_word : FnScope N_law_bent_word ["bag", "word"] (defScope s_law_bent_word) := ⟨rfl, rfl, rfl, by decide +kernel, rfl, by decide +kernel, by decide +kernel⟩
abbrev b_law_bent_word : Es := (seqS (par2 2 3 (callU 2 m_law_take (consA (slotP 0) (consA (opOf (layOf (bin2 gAdd (opOf (layOf (callN gLen (consA (slotP 1) nilA)))) (opOf (cstE (.int 1)))))) nilA))) (callU 2 m_law_some (consA (slotP 0) (consA (opOf (layOf (lstR (consA (opOf (cstE (.str "z"))) (consA (opOf (cstE (.str "0"))) (consA (opOf (cstE (.str "A"))) (consA (opOf (cstE (.str " "))) (consA (opOf (cstE (.str "_"))) (consA (opOf (cstE (.str "9"))) (consA (opOf (cstE (.str "-"))) nilA)))))))))) nilA))))
    (seqS (asgS 4 (lstR (consA (opOf (layOf (bin2 gAdd (opOf (layOf (bin2 gAdd (opOf (layOf (sl3 gSlA (slotP 1) (boundO none) (boundO (some (slotE 2)))))) (slotP 3)))) (opOf (layOf (sl3 gSlA (slotP 1) (boundO (some (slotE 2))) (boundO none))))))) (consA (opOf (layOf (bin2 gAdd (opOf (layOf (sl3 gSlA (slotP 1) (boundO none) (boundO (some (slotE 2)))))) (opOf (layOf (sl3 gSlA (slotP 1) (boundO (some (layOf (bin2 gAdd (slotP 2) (opOf (cstE (.int 1))))))) (boundO none))))))) (consA (opOf (layOf (bin2 gAdd (opOf (layOf (bin2 gAdd (opOf (layOf (sl3 gSlA (slotP 1) (boundO none) (boundO (some (slotE 2)))))) (slotP 3)))) (opOf (layOf (sl3 gSlA (slotP 1) (boundO (some (layOf (bin2 gAdd (slotP 2) (opOf (cstE (.int 1))))))) (boundO none))))))) nilA)))))
    (retS (callU 2 m_law_some (consA (slotP 0) (consA (opOf (layOf (bin2 gAdd (slotP 4) (opOf (layOf (lstR (consA (opOf (cstE (.str "feed"))) (consA (opOf (layOf (bin2 gAdd (slotP 1) (slotP 1)))) nilA)))))))) nilA))))))
def m_law_bent_word := runU 5 b_law_bent_word
theorem ok_law_bent_word (T : Tops mg) (D : DefAt K mg "_law_bent_word" s_law_bent_word ["bag", "word"]) (C_law_some : Callee P W.w K mg base "_law_some" 2 ["bag", "things"] (spU K 2 m_law_some)) (C_law_take : Callee P W.w K mg base "_law_take" 1 ["bag", "many"] (spU K 2 m_law_take)) : Callee P W.w K mg base "_law_bent_word" 3 ["bag", "word"] (spU K 2 m_law_bent_word) :=
  D.u (N := N_law_bent_word) sc_law_bent_word (by decide) fun f cdv A outer s H E hg hr =>
    (ss_cons (s_par2 (i := 2) (j := 3) (by rfl) sc_law_bent_word.nd (by rfl) (by rfl) (by decide) (by rfl) (by rfl) (e_funU C_law_take hg hr (by decide) (by rfl) (a_cons (e_slotP (pv 0)) (a_cons (pE_P (pR_E (e_bin o_add p_add (pE_P (pR_E (e_callB c_len p_len (by rfl) T.b_len bb_len (a_cons (e_slotP (pv 1)) a_nil)))) (pE_P (e_cst pe_int (fun _ => .int _)))))) a_nil))) (e_funU C_law_some hg hr (by decide) (by rfl) (a_cons (e_slotP (pv 0)) (a_cons (pE_P (pR_E (e_lst (a_cons (pE_P (e_cst pe_str (fun _ => .str _))) (a_cons (pE_P (e_cst pe_str (fun _ => .str _))) (a_cons (pE_P (e_cst pe_str (fun _ => .str _))) (a_cons (pE_P (e_cst pe_str (fun _ => .str _))) (a_cons (pE_P (e_cst pe_str (fun _ => .str _))) (a_cons (pE_P (e_cst pe_str (fun _ => .str _))) (a_cons (pE_P (e_cst pe_str (fun _ => .str _))) a_nil)))))))))) a_nil))) (by rfl))
    (ss_cons (s_asg (i := 4) sc_law_bent_word.nd (by rfl) (Or.inl (by rfl)) (e_lst (a_cons (pE_P (pR_E (e_bin o_add p_add (pE_P (pR_E (e_bin o_add p_add (pE_P (pR_E (e_slice sl_all p_slA (e_slotP (pv 1)) o_none (o_some (e_slotE (pv 2)))))) (e_slotP (pv 3))))) (pE_P (pR_E (e_slice sl_all p_slA (e_slotP (pv 1)) (o_some (e_slotE (pv 2))) o_none)))))) (a_cons (pE_P (pR_E (e_bin o_add p_add (pE_P (pR_E (e_slice sl_all p_slA (e_slotP (pv 1)) o_none (o_some (e_slotE (pv 2)))))) (pE_P (pR_E (e_slice sl_all p_slA (e_slotP (pv 1)) (o_some (pR_E (e_bin o_add p_add (e_slotP (pv 2)) (pE_P (e_cst pe_int (fun _ => .int _)))))) o_none)))))) (a_cons (pE_P (pR_E (e_bin o_add p_add (pE_P (pR_E (e_bin o_add p_add (pE_P (pR_E (e_slice sl_all p_slA (e_slotP (pv 1)) o_none (o_some (e_slotE (pv 2)))))) (e_slotP (pv 3))))) (pE_P (pR_E (e_slice sl_all p_slA (e_slotP (pv 1)) (o_some (pR_E (e_bin o_add p_add (e_slotP (pv 2)) (pE_P (e_cst pe_int (fun _ => .int _)))))) o_none)))))) a_nil)))))
    (ss_one (s_ret (e_funU C_law_some hg hr (by decide) (by rfl) (a_cons (e_slotP (pv 0)) (a_cons (pE_P (pR_E (e_bin o_add p_add (e_slotP (pv 4)) (pE_P (pR_E (e_lst (a_cons (pE_P (e_cst pe_str (fun _ => .str _))) (a_cons (pE_P (pR_E (e_bin o_add p_add (e_slotP (pv 1)) (e_slotP (pv 1))))) a_nil)))))))) a_nil)))))))
abbrev s_law_bent : Stmt := top 16
abbrev N_law_bent : List Str := ["bag", "thing", "deep", "way", "at", "some"]
theorem sc_law_bent : FnScope N_law_bent ["bag", "thing", "deep"] (defScope s_law_bent) := ⟨rfl, rfl, rfl, by decide +kernel, rfl, by decide +kernel, by decide +kernel⟩
abbrev b_law_bent (rec : OV → List Opd → Option (Res × OV)) : Es := (seqS (asgS 3 (callU 2 m_law_take (consA (slotP 0) (consA (opOf (cstE (.int 10))) nilA))))
    (seqS (ifS (andT (boolOf (isiR "tuple" (slotP 1))) (andT (boolOf (bin2 gNe (slotP 1) (opOf (layOf (tupR nilA))))) (andT (boolOf (bin2 (gCmp fun i j => decide (j < i)) (slotP 2) (opOf (cstE (.int 0))))) (boolOf (bin2 (gCmp fun i j => decide (i < j)) (slotP 3) (opOf (cstE (.int 6)))))))) (seqS (asgS 4 (callU 2 m_law_take (consA (slotP 0) (consA (opOf (layOf (callN gLen (consA (slotP 1) nilA)))) nilA))))
    (retS (bin2 gAdd (opOf (layOf (bin2 gAdd (opOf (layOf (sl3 gSlA (slotP 1) (boundO none) (boundO (some (slotE 4)))))) (opOf (layOf (tupR (consA (opOf (layOf (callU 3 rec (consA (slotP 0) (consA (opOf (layOf (bin2 gIxA (slotP 1) (slotP 4)))) (consA (opOf (layOf (bin2 gSub2 (slotP 2) (opOf (cstE (.int 1)))))) nilA)))))) nilA))))))) (opOf (layOf (sl3 gSlA (slotP 1) (boundO (some (layOf (bin2 gAdd (slotP 4) (opOf (cstE (.int 1))))))) (boundO none))))))) nilS)
    (seqS (ifS (andT (boolOf (isiR "tuple" (slotP 1))) (boolOf (bin2 (gCmp fun i j => decide (i < j)) (slotP 3) (opOf (cstE (.int 9)))))) (seqS (asgS 4 (callU 2 m_law_take (consA (slotP 0) (consA (opOf (layOf (bin2 gAdd (opOf (layOf (callN gLen (consA (slotP 1) nilA)))) (opOf (cstE (.int 1)))))) nilA))))
    (seqS (asgS 5 (lstR (consA (opOf (layOf (callN gList (consA (slotP 1) nilA)))) (consA (opOf (layOf (revA (slotP 1)))) (consA (opOf (layOf (bin2 gAdd (opOf (layOf (sl3 gSlA (slotP 1) (boundO none) (boundO (some (slotE 4)))))) (opOf (layOf (sl3 gSlA (slotP 1) (boundO (some (layOf (bin2 gAdd (slotP 4) (opOf (cstE (.int 1))))))) (boundO none))))))) (consA (opOf (layOf (bin2 gAdd (opOf (layOf (bin2 gAdd (opOf (layOf (sl3 gSlA (slotP 1) (boundO none) (boundO (some (slotE 4)))))) (opOf (layOf (sl3 gSlA (slotP 1) (boundO none) (boundO (some (cstE (.int 1)))))))))) (opOf (layOf (sl3 gSlA (slotP 1) (boundO (some (slotE 4))) (boundO none))))))) nilA))))))
    (retS (callU 2 m_law_some (consA (slotP 0) (consA (opOf (layOf (bin2 gAdd (slotP 5) (opOf (layOf (lstR (consA (opOf (layOf (bin2 gAdd (opOf (layOf (sl3 gSlA (slotP 1) (boundO (some (slotE 4))) (boundO none)))) (opOf (layOf (sl3 gSlA (slotP 1) (boundO none) (boundO (some (slotE 4))))))))) (consA (opOf (layOf (bin2 gAdd (opOf (layOf (bin2 gAdd (opOf (layOf (sl3 gSlA (slotP 1) (boundO none) (boundO (some (slotE 4)))))) (opOf (layOf (tupR (consA (opOf (layOf (callU 1 m_law_odd (consA (slotP 0) nilA)))) nilA))))))) (opOf (layOf (sl3 gSlA (slotP 1) (boundO (some (slotE 4))) (boundO none))))))) nilA)))))))) nilA)))))) nilS)
    (seqS (ifS (andT (boolOf (isiR "str" (slotP 1))) (boolOf (bin2 (gCmp fun i j => decide (i < j)) (slotP 3) (opOf (cstE (.int 9)))))) (retS (callU 2 m_law_bent_word (consA (slotP 0) (consA (slotF 1) nilA)))) nilS)
    (seqS (ifS (andT (boolOf (isiR "int" (slotP 1))) (andT (notT (boolOf (isiR "bool" (slotP 1)))) (boolOf (bin2 (gCmp fun i j => decide (i < j)) (slotP 3) (opOf (cstE (.int 9))))))) (retS (callU 2 m_law_some (consA (slotP 0) (consA (opOf (layOf (lstR (consA (opOf (layOf (bin2 gAdd (slotP 1) (opOf (cstE (.int 1)))))) (consA (opOf (layOf (bin2 gSub2 (slotP 1) (opOf (cstE (.int 1)))))) (consA (opOf (layOf (bin2 gSub2 (opOf (cstE (.int 0))) (slotP 1)))) (consA (opOf (layOf (bin2 gEq (slotP 1) (opOf (cstE (.int 1)))))) (consA (opOf (layOf (callN gStr (consA (slotP 1) nilA)))) (consA (opOf (cstE .none)) (consA (opOf (cstE (.int 0))) (consA (opOf (layOf (bin2 gPow (opOf (cstE (.int 10))) (opOf (cstE (.int 30)))))) nilA))))))))))) nilA)))) nilS)
    (retS (callU 1 m_law_odd (consA (slotP 0) nilA))))))))
def n_law_bent : Nat → OV → List Opd → Option (Res × OV)
  | 0 => runU 6 fun _ => none
  | n + 1 => runU 6 (b_law_bent (n_law_bent n))
def m_law_bent := n_law_bent 8
theorem okN_law_bent (T : Tops mg) (D : DefAt K mg "_law_bent" s_law_bent ["bag", "thing", "deep"]) (C_law_odd : Callee P W.w K mg base "_law_odd" 3 ["bag"] (spU K 1 m_law_odd)) (C_law_some : Callee P W.w K mg base "_law_some" 2 ["bag", "things"] (spU K 2 m_law_some)) (C_law_bent_word : Callee P W.w K mg base "_law_bent_word" 3 ["bag", "word"] (spU K 2 m_law_bent_word)) (C_law_take : Callee P W.w K mg base "_law_take" 1 ["bag", "many"] (spU K 2 m_law_take)) : ∀ n : Nat, Callee P W.w K mg base "_law_bent" (4 + n) ["bag", "thing", "deep"] (spU K 3 (n_law_bent n))
  | 0 => D.u (k := 3) (N := N_law_bent) sc_law_bent (by decide) fun f cdv A outer s H E hg hr => ss_void
  | n + 1 => by
    have C_law_bent := okN_law_bent T D C_law_odd C_law_some C_law_bent_word C_law_take n
    exact D.u (k := 4 + n) (N := N_law_bent) sc_law_bent (by decide) fun f cdv A outer s H E hg hr =>
    (ss_cons (s_asg (i := 3) sc_law_bent.nd (by rfl) (Or.inl (by rfl)) (e_funU C_law_take hg hr (by omega) (by rfl) (a_cons (e_slotP (pv 0)) (a_cons (pE_P (e_cst pe_int (fun _ => .int _))) a_nil))))
    (ss_cons (s_if ((w_and (t_val (e_isi (e_slotP (pv 1)) (by rfl) T.b_isinstance (by rfl) T.b_tuple bb_tuple kit_tuple) (by intro _; rfl)) (w_and (t_cmp (op_neD hr.units) p_ne (nomark _) (e_slotP (pv 1)) (pE_P (pR_E (e_tup a_nil)))) (w_and (t_cmp op_gt p_cmp (nomark _) (e_slotP (pv 2)) (pE_P (e_cst pe_int (fun _ => .int _)))) (w_and1 (t_cmp op_lt p_cmp (nomark _) (e_slotP (pv 3)) (pE_P (e_cst pe_int (fun _ => .int _))))))))).pt (ss_cons (s_asg (i := 4) sc_law_bent.nd (by rfl) (Or.inl (by rfl)) (e_funU C_law_take hg hr (by omega) (by rfl) (a_cons (e_slotP (pv 0)) (a_cons (pE_P (pR_E (e_callB c_len p_len (by rfl) T.b_len bb_len (a_cons (e_slotP (pv 1)) a_nil)))) a_nil))))
    (ss_one (s_ret (e_bin o_add p_add (pE_P (pR_E (e_bin o_add p_add (pE_P (pR_E (e_slice sl_all p_slA (e_slotP (pv 1)) o_none (o_some (e_slotE (pv 4)))))) (pE_P (pR_E (e_tup (a_cons (pE_P (pR_E (e_funU C_law_bent hg hr (by omega) (by rfl) (a_cons (e_slotP (pv 0)) (a_cons (pE_P (pR_E (e_ix (ix_any rfl (room9 hr)) p_ixA (e_slotP (pv 1)) (e_slotP (pv 4))))) (a_cons (pE_P (pR_E (e_bin op_sub p_sub (e_slotP (pv 2)) (pE_P (e_cst pe_int (fun _ => .int _)))))) a_nil)))))) a_nil))))))) (pE_P (pR_E (e_slice sl_all p_slA (e_slotP (pv 1)) (o_some (pR_E (e_bin o_add p_add (e_slotP (pv 4)) (pE_P (e_cst pe_int (fun _ => .int _)))))) o_none))))))) ss_nil)
    (ss_cons (s_if ((w_and (t_val (e_isi (e_slotP (pv 1)) (by rfl) T.b_isinstance (by rfl) T.b_tuple bb_tuple kit_tuple) (by intro _; rfl)) (w_and1 (t_cmp op_lt p_cmp (nomark _) (e_slotP (pv 3)) (pE_P (e_cst pe_int (fun _ => .int _))))))).pt (ss_cons (s_asg (i := 4) sc_law_bent.nd (by rfl) (Or.inl (by rfl)) (e_funU C_law_take hg hr (by omega) (by rfl) (a_cons (e_slotP (pv 0)) (a_cons (pE_P (pR_E (e_bin o_add p_add (pE_P (pR_E (e_callB c_len p_len (by rfl) T.b_len bb_len (a_cons (e_slotP (pv 1)) a_nil)))) (pE_P (e_cst pe_int (fun _ => .int _)))))) a_nil))))
    (ss_cons (s_asg (i := 5) sc_law_bent.nd (by rfl) (Or.inl (by rfl)) (e_lst (a_cons (pE_P (pR_E (e_callTy call_list_of p_list (by rfl) T.b_list bb_list (a_cons (e_slotP (pv 1)) a_nil)))) (a_cons (pE_P (pR_E (e_revA (e_slotP (pv 1))))) (a_cons (pE_P (pR_E (e_bin o_add p_add (pE_P (pR_E (e_slice sl_all p_slA (e_slotP (pv 1)) o_none (o_some (e_slotE (pv 4)))))) (pE_P (pR_E (e_slice sl_all p_slA (e_slotP (pv 1)) (o_some (pR_E (e_bin o_add p_add (e_slotP (pv 4)) (pE_P (e_cst pe_int (fun _ => .int _)))))) o_none)))))) (a_cons (pE_P (pR_E (e_bin o_add p_add (pE_P (pR_E (e_bin o_add p_add (pE_P (pR_E (e_slice sl_all p_slA (e_slotP (pv 1)) o_none (o_some (e_slotE (pv 4)))))) (pE_P (pR_E (e_slice sl_all p_slA (e_slotP (pv 1)) o_none (o_some (e_cst pe_int (fun _ => .int _))))))))) (pE_P (pR_E (e_slice sl_all p_slA (e_slotP (pv 1)) (o_some (e_slotE (pv 4))) o_none)))))) a_nil))))))
    (ss_one (s_ret (e_funU C_law_some hg hr (by omega) (by rfl) (a_cons (e_slotP (pv 0)) (a_cons (pE_P (pR_E (e_bin o_add p_add (e_slotP (pv 5)) (pE_P (pR_E (e_lst (a_cons (pE_P (pR_E (e_bin o_add p_add (pE_P (pR_E (e_slice sl_all p_slA (e_slotP (pv 1)) (o_some (e_slotE (pv 4))) o_none))) (pE_P (pR_E (e_slice sl_all p_slA (e_slotP (pv 1)) o_none (o_some (e_slotE (pv 4))))))))) (a_cons (pE_P (pR_E (e_bin o_add p_add (pE_P (pR_E (e_bin o_add p_add (pE_P (pR_E (e_slice sl_all p_slA (e_slotP (pv 1)) o_none (o_some (e_slotE (pv 4)))))) (pE_P (pR_E (e_tup (a_cons (pE_P (pR_E (e_funU C_law_odd hg hr (by omega) (by rfl) (a_cons (e_slotP (pv 0)) a_nil)))) a_nil))))))) (pE_P (pR_E (e_slice sl_all p_slA (e_slotP (pv 1)) (o_some (e_slotE (pv 4))) o_none)))))) a_nil)))))))) a_nil))))))) ss_nil)
    (ss_cons (s_if ((w_and (t_val (e_isi (e_slotP (pv 1)) (by rfl) T.b_isinstance (by rfl) T.b_str bb_str kit_str) (by intro _; rfl)) (w_and1 (t_cmp op_lt p_cmp (nomark _) (e_slotP (pv 3)) (pE_P (e_cst pe_int (fun _ => .int _))))))).pt (ss_one (s_ret (e_funU C_law_bent_word hg hr (by omega) (by rfl) (a_cons (e_slotP (pv 0)) (a_cons (e_slotF (pv 1)) a_nil))))) ss_nil)
    (ss_cons (s_if ((w_and (t_val (e_isi (e_slotP (pv 1)) (by rfl) T.b_isinstance (by rfl) T.b_int bb_int kit_int) (by intro _; rfl)) (w_and (t_not (t_val (e_isi (e_slotP (pv 1)) (by rfl) T.b_isinstance (by rfl) T.b_bool bb_bool kit_bool) (by intro _; rfl))) (w_and1 (t_cmp op_lt p_cmp (nomark _) (e_slotP (pv 3)) (pE_P (e_cst pe_int (fun _ => .int _)))))))).pt (ss_one (s_ret (e_funU C_law_some hg hr (by omega) (by rfl) (a_cons (e_slotP (pv 0)) (a_cons (pE_P (pR_E (e_lst (a_cons (pE_P (pR_E (e_bin o_add p_add (e_slotP (pv 1)) (pE_P (e_cst pe_int (fun _ => .int _)))))) (a_cons (pE_P (pR_E (e_bin op_sub p_sub (e_slotP (pv 1)) (pE_P (e_cst pe_int (fun _ => .int _)))))) (a_cons (pE_P (pR_E (e_bin op_sub p_sub (pE_P (e_cst pe_int (fun _ => .int _))) (e_slotP (pv 1))))) (a_cons (pE_P (pR_E (e_cmp (op_eqD hr.units) p_eq (nomark _) (e_slotP (pv 1)) (pE_P (e_cst pe_int (fun _ => .int _)))))) (a_cons (pE_P (pR_E (e_callTy call_strAll p_str (by rfl) T.b_str bb_str (a_cons (e_slotP (pv 1)) a_nil)))) (a_cons (pE_P (e_cst pe_non (fun _ => .non))) (a_cons (pE_P (e_cst pe_int (fun _ => .int _))) (a_cons (pE_P (pR_E (e_bin op_pow p_pow (pE_P (e_cst pe_int (fun _ => .int _))) (pE_P (e_cst pe_int (fun _ => .int _)))))) a_nil))))))))))) a_nil))))) ss_nil)
    (ss_one (s_ret (e_funU C_law_odd hg hr (by omega) (by rfl) (a_cons (e_slotP (pv 0)) a_nil)))))))))
theorem ok_law_bent (T : Tops mg) (D : DefAt K mg "_law_bent" s_law_bent ["bag", "thing", "deep"]) (C_law_odd : Callee P W.w K mg base "_law_odd" 3 ["bag"] (spU K 1 m_law_odd)) (C_law_some : Callee P W.w K mg base "_law_some" 2 ["bag", "things"] (spU K 2 m_law_some)) (C_law_bent_word : Callee P W.w K mg base "_law_bent_word" 3 ["bag", "word"] (spU K 2 m_law_bent_word)) (C_law_take : Callee P W.w K mg base "_law_take" 1 ["bag", "many"] (spU K 2 m_law_take)) : Callee P W.w K mg base "_law_bent" 12 ["bag", "thing", "deep"] (spU K 3 m_law_bent) := okN_law_bent T D C_law_odd C_law_some C_law_bent_word C_law_take 8
abbrev s_law_net : Stmt := top 17
abbrev N_law_net : List Str := ["bag", "many", "most", "arcs", "k", "start", "end", "cap"]
theorem sc_law_net : FnScope N_law_net ["bag"] (defScope s_law_net) := ⟨rfl, rfl, rfl, by decide +kernel, rfl, by decide +kernel, by decide +kernel⟩
abbrev b_law_net : Es := (seqS (asgS 1 (bin2 gAdd (opOf (cstE (.int 2))) (opOf (layOf (callU 2 m_law_take (consA (slotP 0) (consA (opOf (cstE (.int 6))) nilA)))))))
    (seqS (par2 2 3 (callU 2 m_law_some (consA (slotP 0) (consA (opOf (layOf (lstR (consA (opOf (cstE (.int 3))) (consA (opOf (cstE (.int 9))) (consA (opOf (layOf (bin2 gSub2 (opOf (layOf (bin2 gPow (opOf (cstE (.int 10))) (opOf (cstE (.int 12)))))) (opOf (cstE (.int 1)))))) nilA)))))) nilA))) (lstR nilA))
    (seqS (forS (itRange1 (consA (opOf (layOf (callU 2 m_law_some (consA (slotP 0) (consA (opOf (layOf (lstR (consA (opOf (cstE (.int 2))) (consA (opOf (cstE (.int 5))) (consA (opOf (cstE (.int 9))) (consA (opOf (cstE (.int 14))) (consA (opOf (cstE (.int 0))) nilA)))))))) nilA))))) nilA)) (.nm 4) (seqS (par2 5 6 (callU 2 m_law_take (consA (slotP 0) (consA (slotF 1) nilA))) (callU 2 m_law_take (consA (slotP 0) (consA (slotF 1) nilA))))
    (seqS (ifS (boolOf (bin2 gEq (opOf (layOf (callU 2 m_law_take (consA (slotP 0) (consA (opOf (cstE (.int 3))) nilA))))) (opOf (cstE (.int 0))))) (par2 5 6 (callN gMin2 (consA (slotP 5) (consA (slotP 6) nilA))) (callN gMax2 (consA (slotP 5) (consA (slotP 6) nilA)))) nilS)
    (seqS (ifS (boolOf (bin2 gEq (opOf (layOf (callU 2 m_law_take (consA (slotP 0) (consA (opOf (cstE (.int 4))) nilA))))) (opOf (cstE (.int 0))))) (asgS 6 (resOf (cstE (.int 1)))) nilS)
    (ifS (boolOf (bin2 gNe (slotP 5) (slotP 6))) (seqS (asgS 7 (ifR (andT (boolOf (bin2 gNe (slotP 5) (opOf (cstE (.int 0))))) (boolOf (bin2 gEq (opOf (layOf (callU 2 m_law_take (consA (slotP 0) (consA (opOf (cstE (.int 5))) nilA))))) (opOf (cstE (.int 0)))))) (resOf (cstE .none)) (callU 2 m_law_size (consA (slotP 0) (consA (slotF 2) nilA)))))
    (appS 3 (layOf (tupR (consA (opOf (slotE 5)) (consA (opOf (slotE 6)) (consA (opOf (slotE 7)) nilA))))))) nilS)))))
    (retS (tupR (consA (opOf (slotE 1)) (consA (opOf (layOf (callN gTup (consA (slotP 3) nilA)))) nilA)))))))
def m_law_net := runU 8 b_law_net
theorem ok_law_net (T : Tops mg) (D : DefAt K mg "_law_net" s_law_net ["bag"]) (C_law_some : Callee P W.w K mg base "_law_some" 2 ["bag", "things"] (spU K 2 m_law_some)) (C_law_take : Callee P W.w K mg base "_law_take" 1 ["bag", "many"] (spU K 2 m_law_take)) (C_law_size : Callee P W.w K mg base "_law_size" 3 ["bag", "most"] (spU K 2 m_law_size)) : Callee P W.w K mg base "_law_net" 4 ["bag"] (spU K 1 m_law_net) :=
  D.u (N := N_law_net) sc_law_net (by decide) fun f cdv A outer s H E hg hr =>
    (ss_cons (s_asg (i := 1) sc_law_net.nd (by rfl) (Or.inl (by rfl)) (e_bin o_add p_add (pE_P (e_cst pe_int (fun _ => .int _))) (pE_P (pR_E (e_funU C_law_take hg hr (by decide) (by rfl) (a_cons (e_slotP (pv 0)) (a_cons (pE_P (e_cst pe_int (fun _ => .int _))) a_nil)))))))
    (ss_cons (s_par2 (i := 2) (j := 3) (by rfl) sc_law_net.nd (by rfl) (by rfl) (by decide) (by rfl) (by rfl) (e_funU C_law_some hg hr (by decide) (by rfl) (a_cons (e_slotP (pv 0)) (a_cons (pE_P (pR_E (e_lst (a_cons (pE_P (e_cst pe_int (fun _ => .int _))) (a_cons (pE_P (e_cst pe_int (fun _ => .int _))) (a_cons (pE_P (pR_E (e_bin op_sub p_sub (pE_P (pR_E (e_bin op_pow p_pow (pE_P (e_cst pe_int (fun _ => .int _))) (pE_P (e_cst pe_int (fun _ => .int _)))))) (pE_P (e_cst pe_int (fun _ => .int _)))))) a_nil)))))) a_nil))) (e_lst a_nil) (by rfl))
    (ss_cons (s_for (tg := (.nm 4)) PassesOwn.never (by rfl) (i_range1 (by rfl) T.b_range (a_cons (pE_P (pR_E (e_funU C_law_some hg hr (by decide) (by rfl) (a_cons (e_slotP (pv 0)) (a_cons (pE_P (pR_E (e_lst (a_cons (pE_P (e_cst pe_int (fun _ => .int _))) (a_cons (pE_P (e_cst pe_int (fun _ => .int _))) (a_cons (pE_P (e_cst pe_int (fun _ => .int _))) (a_cons (pE_P (e_cst pe_int (fun _ => .int _))) (a_cons (pE_P (e_cst pe_int (fun _ => .int _))) a_nil)))))))) a_nil))))) a_nil)) (g_nm (i := 4) sc_law_net.nd (by rfl) (Or.inl (by rfl))) (ss_cons (s_par2 (i := 5) (j := 6) (by rfl) sc_law_net.nd (by rfl) (by rfl) (by decide) (by rfl) (by rfl) (e_funU C_law_take hg hr (by decide) (by rfl) (a_cons (e_slotP (pv 0)) (a_cons (e_slotF (pv 1)) a_nil))) (e_funU C_law_take hg hr (by decide) (by rfl) (a_cons (e_slotP (pv 0)) (a_cons (e_slotF (pv 1)) a_nil))) (by rfl))
    (ss_cons (s_if (t_cmp (op_eqD hr.units) p_eq (nomark _) (pE_P (pR_E (e_funU C_law_take hg hr (by decide) (by rfl) (a_cons (e_slotP (pv 0)) (a_cons (pE_P (e_cst pe_int (fun _ => .int _))) a_nil))))) (pE_P (e_cst pe_int (fun _ => .int _)))) (ss_one (s_par2 (i := 5) (j := 6) (by rfl) sc_law_net.nd (by rfl) (by rfl) (by decide) (by rfl) (by rfl) (e_callB (call_min2 (by rfl)) p_min2 (by rfl) T.b_min bb_min (a_cons (e_slotP (pv 5)) (a_cons (e_slotP (pv 6)) a_nil))) (e_callB (call_max2 (by rfl)) p_max2 (by rfl) T.b_max bb_max (a_cons (e_slotP (pv 5)) (a_cons (e_slotP (pv 6)) a_nil))) (by rfl))) ss_nil)
    (ss_cons (s_if (t_cmp (op_eqD hr.units) p_eq (nomark _) (pE_P (pR_E (e_funU C_law_take hg hr (by decide) (by rfl) (a_cons (e_slotP (pv 0)) (a_cons (pE_P (e_cst pe_int (fun _ => .int _))) a_nil))))) (pE_P (e_cst pe_int (fun _ => .int _)))) (ss_one (s_asg (i := 6) sc_law_net.nd (by rfl) (Or.inl (by rfl)) (pE_R (e_cst pe_int (fun _ => .int _))))) ss_nil)
    (ss_one (s_if (t_cmp (op_neD hr.units) p_ne (nomark _) (e_slotP (pv 5)) (e_slotP (pv 6))) (ss_cons (s_asg (i := 7) sc_law_net.nd (by rfl) (Or.inl (by rfl)) (e_if ((w_and (t_cmp (op_neD hr.units) p_ne (nomark _) (e_slotP (pv 5)) (pE_P (e_cst pe_int (fun _ => .int _)))) (w_and1 (t_cmp (op_eqD hr.units) p_eq (nomark _) (pE_P (pR_E (e_funU C_law_take hg hr (by decide) (by rfl) (a_cons (e_slotP (pv 0)) (a_cons (pE_P (e_cst pe_int (fun _ => .int _))) a_nil))))) (pE_P (e_cst pe_int (fun _ => .int _))))))).pt (pE_R (e_cst pe_non (fun _ => .non))) (e_funU C_law_size hg hr (by decide) (by rfl) (a_cons (e_slotP (pv 0)) (a_cons (e_slotF (pv 2)) a_nil)))))
    (ss_one (s_app (pv 3) (pR_E (e_tup (a_cons (pE_P (e_slotE (pv 5))) (a_cons (pE_P (e_slotE (pv 6))) (a_cons (pE_P (e_slotE (pv 7))) a_nil)))))))) ss_nil))))))
    (ss_one (s_ret (e_tup (a_cons (pE_P (e_slotE (pv 1))) (a_cons (pE_P (pR_E (e_callTy call_tuple_of p_tup (by rfl) T.b_tuple bb_tuple (a_cons (e_slotP (pv 3)) a_nil)))) a_nil))))))))
abbrev s_law_value : Stmt := top 18
abbrev N_law_value : List Str := ["net", "through", "arc", "many"]
theorem sc_law_value : FnScope N_law_value ["net", "through"] (defScope s_law_value) := ⟨rfl, rfl, rfl, by decide +kernel, rfl, by decide +kernel, by decide +kernel⟩
abbrev b_law_value : Es := (retS (callN gSum (consA (opOf (layOf (lcR (itZip (consA (opOf (layOf (bin2 gIxA (slotP 0) (opOf (cstE (.int 1)))))) (consA (opOf (slotE 1)) nilA))) (.tp [(.nm 2), (.nm 3)]) yesT (layOf (bin2 gMul (slotP 3) (opOf (layOf (bin2 gSub2 (opOf (layOf (callN gInt (consA (opOf (layOf (bin2 gEq (opOf (layOf (bin2 gIxA (slotP 2) (opOf (cstE (.int 1)))))) (opOf (cstE (.int 1)))))) nilA)))) (opOf (layOf (callN gInt (consA (opOf (layOf (bin2 gEq (opOf (layOf (bin2 gIxA (slotP 2) (opOf (cstE (.int 0)))))) (opOf (cstE (.int 1)))))) nilA))))))))) [2, 3]))) nilA)))
def m_law_value := runT 4 b_law_value
theorem ok_law_value (T : Tops mg) (D : DefAt K mg "_law_value" s_law_value ["net", "through"]) : Callee P W.w K mg base "_law_value" 1 ["net", "through"] (spT K 2 m_law_value) :=
  D.t (N := N_law_value) sc_law_value (by decide) fun f cdv A outer s H E hg hr =>
    (ss_one (s_ret (e_callB (cr_sum (by rfl)) p_sum (by rfl) T.b_sum bb_sum (a_cons (pE_P (pR_E (e_lc (by rfl) sc_law_value.nd (own := [("arc", 2), ("many", 3)]) (tgt := (.tp [(.nm 2), (.nm 3)])) (it := (itZip (consA (opOf (layOf (bin2 gIxA (slotP 0) (opOf (cstE (.int 1)))))) (consA (opOf (slotE 1)) nilA)))) (fc := yesT) (fe := (layOf (bin2 gMul (slotP 3) (opOf (layOf (bin2 gSub2 (opOf (layOf (callN gInt (consA (opOf (layOf (bin2 gEq (opOf (layOf (bin2 gIxA (slotP 2) (opOf (cstE (.int 1)))))) (opOf (cstE (.int 1)))))) nilA)))) (opOf (layOf (callN gInt (consA (opOf (layOf (bin2 gEq (opOf (layOf (bin2 gIxA (slotP 2) (opOf (cstE (.int 0)))))) (opOf (cstE (.int 1)))))) nilA)))))))))) (i_zip (by rfl) T.b_zip (a_cons (pE_P (pR_E (e_ix (ix_any rfl (room9 hr)) p_ixA (e_slotP (pv 0)) (pE_P (e_cst pe_int (fun _ => .int _)))))) (a_cons (pE_P (e_slotE (pv 1))) a_nil))) (blkOk_by (N := N_law_value) (sc := defScope s_law_value) (by decide +kernel)) (fun _ _ _ _ _ => (pg_tup (by rfl) (pgs_cons (g_nm (i := 2) sc_law_value.nd (by rfl) (Or.inl (by rfl))) (pgs_cons (g_nm (i := 3) sc_law_value.nd (by rfl) (Or.inl (by rfl))) pgs_nil)))) (fun _ _ _ _ _ => ts_nil) (fun _ _ _ _ _ => (pR_E (e_bin o_mul p_mul (e_slotP (pv 3)) (pE_P (pR_E (e_bin op_sub p_sub (pE_P (pR_E (e_callTy call_int1 p_int (by rfl) T.b_int bb_int (a_cons (pE_P (pR_E (e_cmp (op_eqD hr.units) p_eq (nomark _) (pE_P (pR_E (e_ix (ix_any rfl (room9 hr)) p_ixA (e_slotP (pv 2)) (pE_P (e_cst pe_int (fun _ => .int _)))))) (pE_P (e_cst pe_int (fun _ => .int _)))))) a_nil)))) (pE_P (pR_E (e_callTy call_int1 p_int (by rfl) T.b_int bb_int (a_cons (pE_P (pR_E (e_cmp (op_eqD hr.units) p_eq (nomark _) (pE_P (pR_E (e_ix (ix_any rfl (room9 hr)) p_ixA (e_slotP (pv 2)) (pE_P (e_cst pe_int (fun _ => .int _)))))) (pE_P (e_cst pe_int (fun _ => .int _)))))) a_nil))))))))))))) a_nil))))
abbrev s_law_is_through : Stmt := top 19
abbrev N_law_is_through : List Str := ["net", "thing", "lack", "start", "end", "cap", "many", "k"]
theorem sc_law_is_through : FnScope N_law_is_through ["net", "thing"] (defScope s_law_is_through) := ⟨rfl, rfl, rfl, by decide +kernel, rfl, by decide +kernel, by decide +kernel⟩
abbrev b_law_is_through : Es := (seqS (ifS (orT (notT (boolOf (isiR "tuple" (slotP 1)))) (boolOf (bin2 gNe (opOf (layOf (callN gLen (consA (slotP 1) nilA)))) (opOf (layOf (callN gLen (consA (opOf (layOf (bin2 gIxA (slotP 0) (opOf (cstE (.int 1)))))) nilA))))))) (retS (resOf (cstE (.bool false)))) nilS)
    (seqS (asgS 2 (bin2 gMul (opOf (layOf (lstR (consA (opOf (cstE (.int 0))) nilA)))) (opOf (layOf (bin2 gIxA (slotP 0) (opOf (cstE (.int 0))))))))
    (seqS (forS (itZip (consA (opOf (layOf (bin2 gIxA (slotP 0) (opOf (cstE (.int 1)))))) (consA (opOf (slotE 1)) nilA))) (.tp [(.tp [(.nm 3), (.nm 4), (.nm 5)]), (.nm 6)]) (seqS (ifS (orT (notT (boolOf (callT 1 m_law_whole (consA (slotF 6) nilA)))) (orT (boolOf (bin2 (gCmp fun i j => decide (i < j)) (slotP 6) (opOf (cstE (.int 0))))) (andT (boolOf (bin2 gNotN (slotP 5) (opOf (cstE .none)))) (boolOf (bin2 (gCmp fun i j => decide (j < i)) (slotP 6) (slotP 5)))))) (retS (resOf (cstE (.bool false)))) nilS)
    (seqS (augAS 2 (fun i j => i - j) (slotE 3) (slotE 6))
    (augAS 2 (fun i j => i + j) (slotE 4) (slotE 6)))))
    (retS (bin2 gEq (opOf (layOf (lcR (itRange2 (consA (opOf (cstE (.int 2))) (consA (opOf (layOf (bin2 gIxA (slotP 0) (opOf (cstE (.int 0)))))) nilA))) (.nm 7) (boolOf (bin2 gNe (opOf (layOf (bin2 gIxA (slotP 2) (slotP 7)))) (opOf (cstE (.int 0))))) (slotE 7) [7]))) (opOf (layOf (lstR nilA))))))))
def m_law_is_through := runT 8 b_law_is_through
theorem ok_law_is_through (T : Tops mg) (D : DefAt K mg "_law_is_through" s_law_is_through ["net", "thing"]) (C_law_whole : Callee P W.w K mg base "_law_whole" 1 ["thing"] (spT K 1 m_law_whole)) : Callee P W.w K mg base "_law_is_through" 2 ["net", "thing"] (spT K 2 m_law_is_through) :=
  D.t (N := N_law_is_through) sc_law_is_through (by decide) fun f cdv A outer s H E hg hr =>
    (ss_cons (s_if ((w_or (t_not (t_val (e_isi (e_slotP (pv 1)) (by rfl) T.b_isinstance (by rfl) T.b_tuple bb_tuple kit_tuple) (by intro _; rfl))) (w_or1 (t_cmp (op_neD hr.units) p_ne (nomark _) (pE_P (pR_E (e_callB c_len p_len (by rfl) T.b_len bb_len (a_cons (e_slotP (pv 1)) a_nil)))) (pE_P (pR_E (e_callB c_len p_len (by rfl) T.b_len bb_len (a_cons (pE_P (pR_E (e_ix (ix_any rfl (room9 hr)) p_ixA (e_slotP (pv 0)) (pE_P (e_cst pe_int (fun _ => .int _)))))) a_nil)))))))).pt (ss_one (s_ret (pE_R (e_cst pe_bl (fun _ => .bl _))))) ss_nil)
    (ss_cons (s_asg (i := 2) sc_law_is_through.nd (by rfl) (Or.inr (by rfl)) (e_bin o_mul p_mul (pE_P (pR_E (e_lst (a_cons (pE_P (e_cst pe_int (fun _ => .int _))) a_nil)))) (pE_P (pR_E (e_ix (ix_any rfl (room9 hr)) p_ixA (e_slotP (pv 0)) (pE_P (e_cst pe_int (fun _ => .int _))))))))
    (ss_cons (s_for (tg := (.tp [(.tp [(.nm 3), (.nm 4), (.nm 5)]), (.nm 6)])) PassesOwn.never (by rfl) (i_zip (by rfl) T.b_zip (a_cons (pE_P (pR_E (e_ix (ix_any rfl (room9 hr)) p_ixA (e_slotP (pv 0)) (pE_P (e_cst pe_int (fun _ => .int _)))))) (a_cons (pE_P (e_slotE (pv 1))) a_nil))) (pg_tup (by rfl) (pgs_cons (pg_tup (by rfl) (pgs_cons (g_nm (i := 3) sc_law_is_through.nd (by rfl) (Or.inl (by rfl))) (pgs_cons (g_nm (i := 4) sc_law_is_through.nd (by rfl) (Or.inl (by rfl))) (pgs_cons (g_nm (i := 5) sc_law_is_through.nd (by rfl) (Or.inl (by rfl))) pgs_nil)))) (pgs_cons (g_nm (i := 6) sc_law_is_through.nd (by rfl) (Or.inl (by rfl))) pgs_nil))) (ss_cons (s_if ((w_or (t_not (t_val (e_fun C_law_whole hg hr (by decide) (by rfl) (a_cons (e_slotF (pv 6)) a_nil)) (by intro _; rfl))) (w_or (t_cmp op_lt p_cmp (nomark _) (e_slotP (pv 6)) (pE_P (e_cst pe_int (fun _ => .int _)))) (w_or1 ((w_and (t_cmp op_notN p_notN (nomark _) (e_slotP (pv 5)) (pE_P (e_cst pe_non (fun _ => .non)))) (w_and1 (t_cmp op_gt p_cmp (nomark _) (e_slotP (pv 6)) (e_slotP (pv 5)))))).pt)))).pt (ss_one (s_ret (pE_R (e_cst pe_bl (fun _ => .bl _))))) ss_nil)
    (ss_cons (s_augA rfl (room9 hr) ip_sub (pv 2) (e_slotE (pv 3)) (e_slotE (pv 6)))
    (ss_one (s_augA rfl (room9 hr) ip_add (pv 2) (e_slotE (pv 4)) (e_slotE (pv 6)))))))
    (ss_one (s_ret (e_cmp (op_eqD hr.units) p_eq (nomark _) (pE_P (pR_E (e_lc (by rfl) sc_law_is_through.nd (own := [("k", 7)]) (tgt := (.nm 7)) (it := (itRange2 (consA (opOf (cstE (.int 2))) (consA (opOf (layOf (bin2 gIxA (slotP 0) (opOf (cstE (.int 0)))))) nilA)))) (fc := (boolOf (bin2 gNe (opOf (layOf (bin2 gIxA (slotP 2) (slotP 7)))) (opOf (cstE (.int 0)))))) (fe := (slotE 7)) (i_range2 (by rfl) T.b_range (a_cons (pE_P (e_cst pe_int (fun _ => .int _))) (a_cons (pE_P (pR_E (e_ix (ix_any rfl (room9 hr)) p_ixA (e_slotP (pv 0)) (pE_P (e_cst pe_int (fun _ => .int _)))))) a_nil))) (blkOk_by (N := N_law_is_through) (sc := defScope s_law_is_through) (by decide +kernel)) (fun _ _ _ _ _ => (g_nm (i := 7) sc_law_is_through.nd (by rfl) (Or.inl (by rfl)))) (fun _ _ _ _ _ => (ts_one (t_cmp (op_neD hr.units) p_ne (nomark _) (pE_P (pR_E (e_ix (ix_any rfl (room9 hr)) p_ixA (e_slotP (pv 2)) (e_slotP (pv 7))))) (pE_P (e_cst pe_int (fun _ => .int _)))))) (fun _ _ _ _ _ => (e_slotE (pv 7)))))) (pE_P (pR_E (e_lst a_nil)))))))))
abbrev s_law_room : Stmt := top 20
abbrev N_law_room : List Str := ["net", "through", "found", "at", "start", "end", "cap", "most"]
theorem sc_law_room : FnScope N_law_room ["net", "through"] (defScope s_law_room) := ⟨rfl, rfl, rfl, by decide +kernel, rfl, by decide +kernel, by decide +kernel⟩
abbrev b_law_room : Es := (seqS (asgS 2 (lstR nilA))
    (seqS (forS (itEnumA (consA (opOf (layOf (bin2 gIxA (slotP 0) (opOf (cstE (.int 1)))))) nilA)) (.tp [(.nm 3), (.tp [(.nm 4), (.nm 5), (.nm 6)])]) (seqS (asgS 7 (ifR (boolOf (bin2 gIsN (slotP 6) (opOf (cstE .none)))) (bin2 gPow (opOf (cstE (.int 10))) (opOf (cstE (.int 30)))) (bin2 gSub2 (slotP 6) (opOf (layOf (bin2 gIxA (slotP 1) (slotP 3)))))))
    (seqS (extS 2 (layOf (ifR (boolOf (bin2 (gCmp fun i j => decide (j < i)) (slotP 7) (opOf (cstE (.int 0))))) (lstR (consA (opOf (layOf (tupR (consA (opOf (slotE 4)) (consA (opOf (slotE 5)) (consA (opOf (slotE 7)) (consA (opOf (slotE 3)) (consA (opOf (cstE (.bool true))) nilA)))))))) nilA)) (lstR nilA))))
    (extS 2 (layOf (ifR (boolOf (bin2 (gCmp fun i j => decide (j < i)) (opOf (layOf (bin2 gIxA (slotP 1) (slotP 3)))) (opOf (cstE (.int 0))))) (lstR (consA (opOf (layOf (tupR (consA (opOf (slotE 5)) (consA (opOf (slotE 4)) (consA (opOf (layOf (bin2 gIxA (slotP 1) (slotP 3)))) (consA (opOf (slotE 3)) (consA (opOf (cstE (.bool false))) nilA)))))))) nilA)) (lstR nilA)))))))
    (retS (takeR 2))))
def m_law_room := runT 8 b_law_room
theorem ok_law_room (T : Tops mg) (D : DefAt K mg "_law_room" s_law_room ["net", "through"]) : Callee P W.w K mg base "_law_room" 1 ["net", "through"] (spT K 2 m_law_room) :=
  D.t (N := N_law_room) sc_law_room (by decide) fun f cdv A outer s H E hg hr =>
    (ss_cons (s_asg (i := 2) sc_law_room.nd (by rfl) (Or.inl (by rfl)) (e_lst a_nil))
    (ss_cons (s_for (tg := (.tp [(.nm 3), (.tp [(.nm 4), (.nm 5), (.nm 6)])])) PassesOwn.never (by rfl) (i_enumA (by rfl) T.b_enumerate (a_cons (pE_P (pR_E (e_ix (ix_any rfl (room9 hr)) p_ixA (e_slotP (pv 0)) (pE_P (e_cst pe_int (fun _ => .int _)))))) a_nil)) (pg_tup (by rfl) (pgs_cons (g_nm (i := 3) sc_law_room.nd (by rfl) (Or.inl (by rfl))) (pgs_cons (pg_tup (by rfl) (pgs_cons (g_nm (i := 4) sc_law_room.nd (by rfl) (Or.inl (by rfl))) (pgs_cons (g_nm (i := 5) sc_law_room.nd (by rfl) (Or.inl (by rfl))) (pgs_cons (g_nm (i := 6) sc_law_room.nd (by rfl) (Or.inl (by rfl))) pgs_nil)))) pgs_nil))) (ss_cons (s_asg (i := 7) sc_law_room.nd (by rfl) (Or.inl (by rfl)) (e_if (t_cmp op_isN p_isN (nomark _) (e_slotP (pv 6)) (pE_P (e_cst pe_non (fun _ => .non)))) (e_bin op_pow p_pow (pE_P (e_cst pe_int (fun _ => .int _))) (pE_P (e_cst pe_int (fun _ => .int _)))) (e_bin op_sub p_sub (e_slotP (pv 6)) (pE_P (pR_E (e_ix (ix_any rfl (room9 hr)) p_ixA (e_slotP (pv 1)) (e_slotP (pv 3))))))))
    (ss_cons (s_ext (ps_expr (pe_bm PySem.F.plainAttrs_list PySem.F.slot_list_extend PySem.F.type_list_extend mt_ext (pv 2) (pa_cons (pR_E (e_if (t_cmp op_gt p_cmp (nomark _) (e_slotP (pv 7)) (pE_P (e_cst pe_int (fun _ => .int _)))) (e_lst (a_cons (pE_P (pR_E (e_tup (a_cons (pE_P (e_slotE (pv 4))) (a_cons (pE_P (e_slotE (pv 5))) (a_cons (pE_P (e_slotE (pv 7))) (a_cons (pE_P (e_slotE (pv 3))) (a_cons (pE_P (e_cst pe_bl (fun _ => .bl _))) a_nil)))))))) a_nil)) (e_lst a_nil))) pa_nil))))
    (ss_one (s_ext (ps_expr (pe_bm PySem.F.plainAttrs_list PySem.F.slot_list_extend PySem.F.type_list_extend mt_ext (pv 2) (pa_cons (pR_E (e_if (t_cmp op_gt p_cmp (nomark _) (pE_P (pR_E (e_ix (ix_any rfl (room9 hr)) p_ixA (e_slotP (pv 1)) (e_slotP (pv 3))))) (pE_P (e_cst pe_int (fun _ => .int _)))) (e_lst (a_cons (pE_P (pR_E (e_tup (a_cons (pE_P (e_slotE (pv 5))) (a_cons (pE_P (e_slotE (pv 4))) (a_cons (pE_P (pR_E (e_ix (ix_any rfl (room9 hr)) p_ixA (e_slotP (pv 1)) (e_slotP (pv 3))))) (a_cons (pE_P (e_slotE (pv 3))) (a_cons (pE_P (e_cst pe_bl (fun _ => .bl _))) a_nil)))))))) a_nil)) (e_lst a_nil))) pa_nil))))))))
    (ss_one (s_ret (e_take (pv 2))))))
abbrev s_law_way : Stmt := top 22
abbrev N_law_way : List Str := ["net", "through", "came", "room", "line", "at", "row", "found", "node", "turn"]
theorem sc_law_way : FnScope N_law_way ["net", "through"] (defScope s_law_way) := ⟨rfl, rfl, rfl, by decide +kernel, rfl, by decide +kernel, by decide +kernel⟩
abbrev b_law_way : Es := (seqS (parN [2, 3, 4] [(dispR [((cstE (.int 0)), (cstE .none))]), (callT 2 m_law_room (consA (slotF 0) (consA (slotF 1) nilA))), (lstR (consA (opOf (cstE (.int 0))) nilA))])
    (seqS (forS (itRange1 (consA (opOf (layOf (bin2 gIxA (slotP 0) (opOf (cstE (.int 0)))))) nilA)) (.nm 5) (ifS (boolOf (bin2 (gCmp fun i j => decide (i < j)) (slotP 5) (opOf (layOf (callN gLen (consA (slotP 4) nilA)))))) (forS (itSeq (slotE 3)) (.nm 6) (ifS (andT (boolOf (bin2 gEq (opOf (layOf (bin2 gIxA (slotP 6) (opOf (cstE (.int 0)))))) (opOf (layOf (bin2 gIxA (slotP 4) (slotP 5)))))) (boolOf (bin2 gNotInA (opOf (layOf (bin2 gIxA (slotP 6) (opOf (cstE (.int 1)))))) (slotP 2)))) (seqS (setAS 2 (layOf (bin2 gIxA (slotP 6) (opOf (cstE (.int 1))))) (slotE 6))
    (appS 4 (layOf (bin2 gIxA (slotP 6) (opOf (cstE (.int 1))))))) nilS)) nilS))
    (seqS (ifS (boolOf (bin2 gNotInA (opOf (cstE (.int 1))) (slotP 2))) (retS (resOf (cstE .none))) nilS)
    (seqS (par2 7 8 (lstR nilA) (resOf (cstE (.int 1))))
    (seqS (forS (itRange1 (consA (opOf (layOf (bin2 gIxA (slotP 0) (opOf (cstE (.int 0)))))) nilA)) (.nm 9) (ifS (boolOf (bin2 gNotN (opOf (layOf (bin2 gIxA (slotP 2) (slotP 8)))) (opOf (cstE .none)))) (seqS (appS 7 (layOf (bin2 gIxA (slotP 2) (slotP 8))))
    (asgS 8 (bin2 gIxA (opOf (layOf (bin2 gIxA (slotP 2) (slotP 8)))) (opOf (cstE (.int 0)))))) nilS))
    (retS (takeR 7)))))))
def m_law_way := runT 10 b_law_way
theorem ok_law_way (T : Tops mg) (D : DefAt K mg "_law_way" s_law_way ["net", "through"]) (C_law_room : Callee P W.w K mg base "_law_room" 1 ["net", "through"] (spT K 2 m_law_room)) : Callee P W.w K mg base "_law_way" 2 ["net", "through"] (spT K 2 m_law_way) :=
  D.t (N := N_law_way) sc_law_way (by decide) fun f cdv A outer s H E hg hr =>
    (ss_cons (s_parN3 (i := 2) (j := 3) (l := 4) (fs := [(dispR [((cstE (.int 0)), (cstE .none))]), (callT 2 m_law_room (consA (slotF 0) (consA (slotF 1) nilA))), (lstR (consA (opOf (cstE (.int 0))) nilA))]) (by rfl) sc_law_way.nd (by rfl) (by rfl) (by rfl) (by decide) (by decide) (by decide) (by rfl) (by rfl) (by rfl) (pa_cons (e_disp (fs := [((cstE (.int 0)), (cstE .none))]) rfl (room8 hr) (pps_cons (e_cst pe_int (fun _ => .int _)) (e_cst pe_non (fun _ => .non)) pps_nil)) (pa_cons (e_fun C_law_room hg hr (by decide) (by rfl) (a_cons (e_slotF (pv 0)) (a_cons (e_slotF (pv 1)) a_nil))) (pa_cons (e_lst (a_cons (pE_P (e_cst pe_int (fun _ => .int _))) a_nil)) pa_nil))) (by rfl))
    (ss_cons (s_for (tg := (.nm 5)) PassesOwn.never (by rfl) (i_range1 (by rfl) T.b_range (a_cons (pE_P (pR_E (e_ix (ix_any rfl (room9 hr)) p_ixA (e_slotP (pv 0)) (pE_P (e_cst pe_int (fun _ => .int _)))))) a_nil)) (g_nm (i := 5) sc_law_way.nd (by rfl) (Or.inl (by rfl))) (ss_one (s_if (t_cmp op_lt p_cmp (nomark _) (e_slotP (pv 5)) (pE_P (pR_E (e_callB c_len p_len (by rfl) T.b_len bb_len (a_cons (e_slotP (pv 4)) a_nil))))) (ss_one (s_for (tg := (.nm 6)) PassesOwn.never (by rfl) (i_seq (e_slotE (pv 3))) (g_nm (i := 6) sc_law_way.nd (by rfl) (Or.inl (by rfl))) (ss_one (s_if ((w_and (t_cmp (op_eqD hr.units) p_eq (nomark _) (pE_P (pR_E (e_ix (ix_any rfl (room9 hr)) p_ixA (e_slotP (pv 6)) (pE_P (e_cst pe_int (fun _ => .int _)))))) (pE_P (pR_E (e_ix (ix_any rfl (room9 hr)) p_ixA (e_slotP (pv 4)) (e_slotP (pv 5)))))) (w_and1 (t_cmp (op_notInA rfl (room65 hr)) p_notinA (by with_unfolding_all rfl) (pE_P (pR_E (e_ix (ix_any rfl (room9 hr)) p_ixA (e_slotP (pv 6)) (pE_P (e_cst pe_int (fun _ => .int _)))))) (e_slotP (pv 2)))))).pt (ss_cons (s_setA (ps_asg (e_slotE (pv 6)) (pg_sub (pv 2) (pR_E (e_ix (ix_any rfl (room9 hr)) p_ixA (e_slotP (pv 6)) (pE_P (e_cst pe_int (fun _ => .int _))))) (set_any rfl (room9 hr)))))
    (ss_one (s_app (pv 4) (pR_E (e_ix (ix_any rfl (room9 hr)) p_ixA (e_slotP (pv 6)) (pE_P (e_cst pe_int (fun _ => .int _)))))))) ss_nil)))) ss_nil)))
    (ss_cons (s_if (t_cmp (op_notInA rfl (room65 hr)) p_notinA (by with_unfolding_all rfl) (pE_P (e_cst pe_int (fun _ => .int _))) (e_slotP (pv 2))) (ss_one (s_ret (pE_R (e_cst pe_non (fun _ => .non))))) ss_nil)
    (ss_cons (s_par2 (i := 7) (j := 8) (by rfl) sc_law_way.nd (by rfl) (by rfl) (by decide) (by rfl) (by rfl) (e_lst a_nil) (pE_R (e_cst pe_int (fun _ => .int _))) (by rfl))
    (ss_cons (s_for (tg := (.nm 9)) PassesOwn.never (by rfl) (i_range1 (by rfl) T.b_range (a_cons (pE_P (pR_E (e_ix (ix_any rfl (room9 hr)) p_ixA (e_slotP (pv 0)) (pE_P (e_cst pe_int (fun _ => .int _)))))) a_nil)) (g_nm (i := 9) sc_law_way.nd (by rfl) (Or.inl (by rfl))) (ss_one (s_if (t_cmp op_notN p_notN (nomark _) (pE_P (pR_E (e_ix (ix_any rfl (room9 hr)) p_ixA (e_slotP (pv 2)) (e_slotP (pv 8))))) (pE_P (e_cst pe_non (fun _ => .non)))) (ss_cons (s_app (pv 7) (pR_E (e_ix (ix_any rfl (room9 hr)) p_ixA (e_slotP (pv 2)) (e_slotP (pv 8)))))
    (ss_one (s_asg (i := 8) sc_law_way.nd (by rfl) (Or.inl (by rfl)) (e_ix (ix_any rfl (room9 hr)) p_ixA (pE_P (pR_E (e_ix (ix_any rfl (room9 hr)) p_ixA (e_slotP (pv 2)) (e_slotP (pv 8))))) (pE_P (e_cst pe_int (fun _ => .int _))))))) ss_nil)))
    (ss_one (s_ret (e_take (pv 7)))))))))
abbrev s_law_part : Stmt := top 24
abbrev N_law_part : List Str := ["bag", "net", "through", "turn", "way", "most", "rows", "many", "start", "end", "room", "at", "onwards", "row"]
theorem sc_law_part : FnScope N_law_part ["bag", "net"] (defScope s_law_part) := ⟨rfl, rfl, rfl, by decide +kernel, rfl, by decide +kernel, by decide +kernel⟩
abbrev b_law_part : Es := (seqS (asgS 2 (bin2 gMulT (opOf (layOf (tupR (consA (opOf (cstE (.int 0))) nilA)))) (opOf (layOf (callN gLen (consA (opOf (layOf (bin2 gIxA (slotP 1) (opOf (cstE (.int 1)))))) nilA))))))
    (seqS (forS (itRange1 (consA (opOf (layOf (callU 2 m_law_take (consA (slotP 0) (consA (opOf (cstE (.int 4))) nilA))))) nilA)) (.nm 3) (seqS (asgS 4 (callT 2 m_law_way (consA (slotF 1) (consA (slotF 2) nilA))))
    (ifS (boolOf (bin2 gNotN (slotP 4) (opOf (cstE .none)))) (seqS (par2 5 6 (callN gMinA (consA (opOf (layOf (lcR (itSeq (slotE 4)) (.nm 13) yesT (layOf (bin2 gIxA (slotP 13) (opOf (cstE (.int 2))))) [13]))) nilA)) (callN gList (consA (slotP 2) nilA)))
    (seqS (asgS 7 (callU 2 m_law_some (consA (slotP 0) (consA (opOf (layOf (lstR (consA (opOf (slotE 5)) (consA (opOf (cstE (.int 1))) (consA (opOf (layOf (bin2 gAdd (opOf (cstE (.int 1))) (opOf (layOf (callU 2 m_law_take (consA (slotP 0) (consA (slotF 5) nilA)))))))) nilA)))))) nilA))))
    (seqS (forS (itSeq (slotE 4)) (.tp [(.nm 8), (.nm 9), (.nm 10), (.nm 11), (.nm 12)]) (augAS 6 (fun i j => i + j) (slotE 11) (layOf (ifR (boolOf (resOf (slotE 12))) (resOf (slotE 7)) (bin2 gSub2 (opOf (cstE (.int 0))) (slotP 7))))))
    (asgS 2 (callN gTup (consA (slotP 6) nilA)))))) nilS)))
    (retS (takeR 2))))
def m_law_part := runU 14 b_law_part
theorem ok_law_part (T : Tops mg) (D : DefAt K mg "_law_part" s_law_part ["bag", "net"]) (C_law_take : Callee P W.w K mg base "_law_take" 1 ["bag", "many"] (spU K 2 m_law_take)) (C_law_some : Callee P W.w K mg base "_law_some" 2 ["bag", "things"] (spU K 2 m_law_some)) (C_law_way : Callee P W.w K mg base "_law_way" 2 ["net", "through"] (spT K 2 m_law_way)) : Callee P W.w K mg base "_law_part" 3 ["bag", "net"] (spU K 2 m_law_part) :=
  D.u (N := N_law_part) sc_law_part (by decide) fun f cdv A outer s H E hg hr =>
    (ss_cons (s_asg (i := 2) sc_law_part.nd (by rfl) (Or.inl (by rfl)) (e_bin op_mulTA p_mulT (pE_P (pR_E (e_tup (a_cons (pE_P (e_cst pe_int (fun _ => .int _))) a_nil)))) (pE_P (pR_E (e_callB c_len p_len (by rfl) T.b_len bb_len (a_cons (pE_P (pR_E (e_ix (ix_any rfl (room9 hr)) p_ixA (e_slotP (pv 1)) (pE_P (e_cst pe_int (fun _ => .int _)))))) a_nil))))))
    (ss_cons (s_for (tg := (.nm 3)) PassesOwn.never (by rfl) (i_range1 (by rfl) T.b_range (a_cons (pE_P (pR_E (e_funU C_law_take hg hr (by decide) (by rfl) (a_cons (e_slotP (pv 0)) (a_cons (pE_P (e_cst pe_int (fun _ => .int _))) a_nil))))) a_nil)) (g_nm (i := 3) sc_law_part.nd (by rfl) (Or.inl (by rfl))) (ss_cons (s_asg (i := 4) sc_law_part.nd (by rfl) (Or.inl (by rfl)) (e_fun C_law_way hg hr (by decide) (by rfl) (a_cons (e_slotF (pv 1)) (a_cons (e_slotF (pv 2)) a_nil))))
    (ss_one (s_if (t_cmp op_notN p_notN (nomark _) (e_slotP (pv 4)) (pE_P (e_cst pe_non (fun _ => .non)))) (ss_cons (s_par2 (i := 5) (j := 6) (by rfl) sc_law_part.nd (by rfl) (by rfl) (by decide) (by rfl) (by rfl) (e_callB (cr_minA (by rfl) (room65 hr)) p_minA (by rfl) T.b_min bb_min (a_cons (pE_P (pR_E (e_lc (by rfl) sc_law_part.nd (own := [("row", 13)]) (tgt := (.nm 13)) (it := (itSeq (slotE 4))) (fc := yesT) (fe := (layOf (bin2 gIxA (slotP 13) (opOf (cstE (.int 2)))))) (i_seq (e_slotE (pv 4))) (blkOk_by (N := N_law_part) (sc := defScope s_law_part) (by decide +kernel)) (fun _ _ _ _ _ => (g_nm (i := 13) sc_law_part.nd (by rfl) (Or.inl (by rfl)))) (fun _ _ _ _ _ => ts_nil) (fun _ _ _ _ _ => (pR_E (e_ix (ix_any rfl (room9 hr)) p_ixA (e_slotP (pv 13)) (pE_P (e_cst pe_int (fun _ => .int _))))))))) a_nil)) (e_callTy call_list_of p_list (by rfl) T.b_list bb_list (a_cons (e_slotP (pv 2)) a_nil)) (by rfl))
    (ss_cons (s_asg (i := 7) sc_law_part.nd (by rfl) (Or.inl (by rfl)) (e_funU C_law_some hg hr (by decide) (by rfl) (a_cons (e_slotP (pv 0)) (a_cons (pE_P (pR_E (e_lst (a_cons (pE_P (e_slotE (pv 5))) (a_cons (pE_P (e_cst pe_int (fun _ => .int _))) (a_cons (pE_P (pR_E (e_bin o_add p_add (pE_P (e_cst pe_int (fun _ => .int _))) (pE_P (pR_E (e_funU C_law_take hg hr (by decide) (by rfl) (a_cons (e_slotP (pv 0)) (a_cons (e_slotF (pv 5)) a_nil)))))))) a_nil)))))) a_nil))))
    (ss_cons (s_for (tg := (.tp [(.nm 8), (.nm 9), (.nm 10), (.nm 11), (.nm 12)])) PassesOwn.never (by rfl) (i_seq (e_slotE (pv 4))) (pg_tup (by rfl) (pgs_cons (g_nm (i := 8) sc_law_part.nd (by rfl) (Or.inl (by rfl))) (pgs_cons (g_nm (i := 9) sc_law_part.nd (by rfl) (Or.inl (by rfl))) (pgs_cons (g_nm (i := 10) sc_law_part.nd (by rfl) (Or.inl (by rfl))) (pgs_cons (g_nm (i := 11) sc_law_part.nd (by rfl) (Or.inl (by rfl))) (pgs_cons (g_nm (i := 12) sc_law_part.nd (by rfl) (Or.inl (by rfl))) pgs_nil)))))) (ss_one (s_augA rfl (room9 hr) ip_add (pv 6) (e_slotE (pv 11)) (pR_E (e_if (t_val (pE_R (e_slotE (pv 12))) (by intro _; rfl)) (pE_R (e_slotE (pv 7))) (e_bin op_sub p_sub (pE_P (e_cst pe_int (fun _ => .int _))) (e_slotP (pv 7))))))))
    (ss_one (s_asg (i := 2) sc_law_part.nd (by rfl) (Or.inl (by rfl)) (e_callTy call_tuple_of p_tup (by rfl) T.b_tuple bb_tuple (a_cons (e_slotP (pv 6)) a_nil))))))) ss_nil))))
    (ss_one (s_ret (e_take (pv 2))))))
abbrev s_law_near : Stmt := top 25
abbrev N_law_near : List Str := ["bag", "net", "through", "found", "at", "cap", "many", "one", "other"]
theorem sc_law_near : FnScope N_law_near ["bag", "net", "through"] (defScope s_law_near) := ⟨rfl, rfl, rfl, by decide +kernel, rfl, by decide +kernel, by decide +kernel⟩
abbrev b_law_near : Es := (seqS (asgS 3 (lstR (consA (opOf (layOf (callU 3 m_law_bent (consA (slotP 0) (consA (slotF 2) (consA (opOf (cstE (.int 1))) nilA)))))) (consA (opOf (layOf (callU 3 m_law_bent (consA (slotP 0) (consA (slotF 2) (consA (opOf (cstE (.int 1))) nilA)))))) (consA (opOf (layOf (callN gList (consA (slotP 2) nilA)))) (consA (opOf (layOf (bin2 gAdd (slotP 2) (opOf (layOf (tupR (consA (opOf (cstE (.int 0))) nilA))))))) (consA (opOf (layOf (callU 1 m_law_odd (consA (slotP 0) nilA)))) nilA)))))))
    (seqS (forS (itRange1 (consA (opOf (layOf (callN gLen (consA (slotP 2) nilA)))) nilA)) (.nm 4) (seqS (asgS 5 (bin2 gIxA (opOf (layOf (bin2 gIxA (opOf (layOf (bin2 gIxA (slotP 1) (opOf (cstE (.int 1)))))) (slotP 4)))) (opOf (cstE (.int 2)))))
    (seqS (asgS 6 (callU 2 m_law_some (consA (slotP 0) (consA (opOf (layOf (lstR (consA (opOf (layOf (bin2 gAdd (opOf (layOf (bin2 gIxA (slotP 2) (slotP 4)))) (opOf (cstE (.int 1)))))) (consA (opOf (layOf (bin2 gSub2 (opOf (layOf (bin2 gIxA (slotP 2) (slotP 4)))) (opOf (cstE (.int 1)))))) (consA (opOf (layOf (ifR (boolOf (bin2 gIsN (slotP 5) (opOf (cstE .none)))) (resOf (cstE (.int 0))) (bin2 gAdd (slotP 5) (opOf (cstE (.int 1))))))) (consA (opOf (layOf (bin2 gEq (opOf (layOf (bin2 gIxA (slotP 2) (slotP 4)))) (opOf (cstE (.int 1)))))) nilA))))))) nilA))))
    (appS 3 (layOf (bin2 gAdd (opOf (layOf (bin2 gAdd (opOf (layOf (sl3 gSlA (slotP 2) (boundO none) (boundO (some (slotE 4)))))) (opOf (layOf (tupR (consA (opOf (slotE 6)) nilA))))))) (opOf (layOf (sl3 gSlA (slotP 2) (boundO (some (layOf (bin2 gAdd (slotP 4) (opOf (cstE (.int 1))))))) (boundO none))))))))))
    (seqS (ifS (boolOf (bin2 (gCmp fun i j => decide (j < i)) (opOf (layOf (callN gLen (consA (slotP 2) nilA)))) (opOf (cstE (.int 1))))) (seqS (asgS 4 (callU 2 m_law_take (consA (slotP 0) (consA (opOf (layOf (bin2 gSub2 (opOf (layOf (callN gLen (consA (slotP 2) nilA)))) (opOf (cstE (.int 1)))))) nilA))))
    (seqS (unpS (.tp [(.nm 7), (.nm 8)]) (layOf (sl3 gSlA (slotP 2) (boundO (some (slotE 4))) (boundO (some (layOf (bin2 gAdd (slotP 4) (opOf (cstE (.int 2))))))))))
    (seqS (appS 3 (layOf (bin2 gAdd (opOf (layOf (bin2 gAdd (opOf (layOf (sl3 gSlA (slotP 2) (boundO none) (boundO (some (slotE 4)))))) (opOf (layOf (tupR (consA (opOf (layOf (bin2 gAdd (slotP 7) (opOf (cstE (.int 1)))))) (consA (opOf (layOf (bin2 gSub2 (slotP 8) (opOf (cstE (.int 1)))))) nilA)))))))) (opOf (layOf (sl3 gSlA (slotP 2) (boundO (some (layOf (bin2 gAdd (slotP 4) (opOf (cstE (.int 2))))))) (boundO none)))))))
    (appS 3 (layOf (bin2 gAdd (opOf (layOf (bin2 gAdd (opOf (layOf (sl3 gSlA (slotP 2) (boundO none) (boundO (some (slotE 4)))))) (opOf (layOf (tupR (consA (opOf (layOf (bin2 gAdd (slotP 7) (opOf (cstE (.int 1)))))) (consA (opOf (layOf (bin2 gAdd (slotP 8) (opOf (cstE (.int 1)))))) nilA)))))))) (opOf (layOf (sl3 gSlA (slotP 2) (boundO (some (layOf (bin2 gAdd (slotP 4) (opOf (cstE (.int 2))))))) (boundO none)))))))))) nilS)
    (retS (takeR 3)))))
def m_law_near := runU 9 b_law_near
theorem ok_law_near (T : Tops mg) (D : DefAt K mg "_law_near" s_law_near ["bag", "net", "through"]) (C_law_take : Callee P W.w K mg base "_law_take" 1 ["bag", "many"] (spU K 2 m_law_take)) (C_law_some : Callee P W.w K mg base "_law_some" 2 ["bag", "things"] (spU K 2 m_law_some)) (C_law_odd : Callee P W.w K mg base "_law_odd" 3 ["bag"] (spU K 1 m_law_odd)) (C_law_bent : Callee P W.w K mg base "_law_bent" 12 ["bag", "thing", "deep"] (spU K 3 m_law_bent)) : Callee P W.w K mg base "_law_near" 13 ["bag", "net", "through"] (spU K 3 m_law_near) :=
  D.u (N := N_law_near) sc_law_near (by decide) fun f cdv A outer s H E hg hr =>
    (ss_cons (s_asg (i := 3) sc_law_near.nd (by rfl) (Or.inl (by rfl)) (e_lst (a_cons (pE_P (pR_E (e_funU C_law_bent hg hr (by decide) (by rfl) (a_cons (e_slotP (pv 0)) (a_cons (e_slotF (pv 2)) (a_cons (pE_P (e_cst pe_int (fun _ => .int _))) a_nil)))))) (a_cons (pE_P (pR_E (e_funU C_law_bent hg hr (by decide) (by rfl) (a_cons (e_slotP (pv 0)) (a_cons (e_slotF (pv 2)) (a_cons (pE_P (e_cst pe_int (fun _ => .int _))) a_nil)))))) (a_cons (pE_P (pR_E (e_callTy call_list_of p_list (by rfl) T.b_list bb_list (a_cons (e_slotP (pv 2)) a_nil)))) (a_cons (pE_P (pR_E (e_bin o_add p_add (e_slotP (pv 2)) (pE_P (pR_E (e_tup (a_cons (pE_P (e_cst pe_int (fun _ => .int _))) a_nil))))))) (a_cons (pE_P (pR_E (e_funU C_law_odd hg hr (by decide) (by rfl) (a_cons (e_slotP (pv 0)) a_nil)))) a_nil)))))))
    (ss_cons (s_for (tg := (.nm 4)) PassesOwn.never (by rfl) (i_range1 (by rfl) T.b_range (a_cons (pE_P (pR_E (e_callB c_len p_len (by rfl) T.b_len bb_len (a_cons (e_slotP (pv 2)) a_nil)))) a_nil)) (g_nm (i := 4) sc_law_near.nd (by rfl) (Or.inl (by rfl))) (ss_cons (s_asg (i := 5) sc_law_near.nd (by rfl) (Or.inl (by rfl)) (e_ix (ix_any rfl (room9 hr)) p_ixA (pE_P (pR_E (e_ix (ix_any rfl (room9 hr)) p_ixA (pE_P (pR_E (e_ix (ix_any rfl (room9 hr)) p_ixA (e_slotP (pv 1)) (pE_P (e_cst pe_int (fun _ => .int _)))))) (e_slotP (pv 4))))) (pE_P (e_cst pe_int (fun _ => .int _)))))
    (ss_cons (s_asg (i := 6) sc_law_near.nd (by rfl) (Or.inl (by rfl)) (e_funU C_law_some hg hr (by decide) (by rfl) (a_cons (e_slotP (pv 0)) (a_cons (pE_P (pR_E (e_lst (a_cons (pE_P (pR_E (e_bin o_add p_add (pE_P (pR_E (e_ix (ix_any rfl (room9 hr)) p_ixA (e_slotP (pv 2)) (e_slotP (pv 4))))) (pE_P (e_cst pe_int (fun _ => .int _)))))) (a_cons (pE_P (pR_E (e_bin op_sub p_sub (pE_P (pR_E (e_ix (ix_any rfl (room9 hr)) p_ixA (e_slotP (pv 2)) (e_slotP (pv 4))))) (pE_P (e_cst pe_int (fun _ => .int _)))))) (a_cons (pE_P (pR_E (e_if (t_cmp op_isN p_isN (nomark _) (e_slotP (pv 5)) (pE_P (e_cst pe_non (fun _ => .non)))) (pE_R (e_cst pe_int (fun _ => .int _))) (e_bin o_add p_add (e_slotP (pv 5)) (pE_P (e_cst pe_int (fun _ => .int _))))))) (a_cons (pE_P (pR_E (e_cmp (op_eqD hr.units) p_eq (nomark _) (pE_P (pR_E (e_ix (ix_any rfl (room9 hr)) p_ixA (e_slotP (pv 2)) (e_slotP (pv 4))))) (pE_P (e_cst pe_int (fun _ => .int _)))))) a_nil))))))) a_nil))))
    (ss_one (s_app (pv 3) (pR_E (e_bin o_add p_add (pE_P (pR_E (e_bin o_add p_add (pE_P (pR_E (e_slice sl_all p_slA (e_slotP (pv 2)) o_none (o_some (e_slotE (pv 4)))))) (pE_P (pR_E (e_tup (a_cons (pE_P (e_slotE (pv 6))) a_nil))))))) (pE_P (pR_E (e_slice sl_all p_slA (e_slotP (pv 2)) (o_some (pR_E (e_bin o_add p_add (e_slotP (pv 4)) (pE_P (e_cst pe_int (fun _ => .int _)))))) o_none))))))))))
    (ss_cons (s_if (t_cmp op_gt p_cmp (nomark _) (pE_P (pR_E (e_callB c_len p_len (by rfl) T.b_len bb_len (a_cons (e_slotP (pv 2)) a_nil)))) (pE_P (e_cst pe_int (fun _ => .int _)))) (ss_cons (s_asg (i := 4) sc_law_near.nd (by rfl) (Or.inl (by rfl)) (e_funU C_law_take hg hr (by decide) (by rfl) (a_cons (e_slotP (pv 0)) (a_cons (pE_P (pR_E (e_bin op_sub p_sub (pE_P (pR_E (e_callB c_len p_len (by rfl) T.b_len bb_len (a_cons (e_slotP (pv 2)) a_nil)))) (pE_P (e_cst pe_int (fun _ => .int _)))))) a_nil))))
    (ss_cons (s_unp (tg := (.tp [(.nm 7), (.nm 8)])) (f := (layOf (sl3 gSlA (slotP 2) (boundO (some (slotE 4))) (boundO (some (layOf (bin2 gAdd (slotP 4) (opOf (cstE (.int 2)))))))))) (ps_asg (pR_E (e_slice sl_all p_slA (e_slotP (pv 2)) (o_some (e_slotE (pv 4))) (o_some (pR_E (e_bin o_add p_add (e_slotP (pv 4)) (pE_P (e_cst pe_int (fun _ => .int _)))))))) (pg_tup (by rfl) (pgs_cons (g_nm (i := 7) sc_law_near.nd (by rfl) (Or.inl (by rfl))) (pgs_cons (g_nm (i := 8) sc_law_near.nd (by rfl) (Or.inl (by rfl))) pgs_nil)))))
    (ss_cons (s_app (pv 3) (pR_E (e_bin o_add p_add (pE_P (pR_E (e_bin o_add p_add (pE_P (pR_E (e_slice sl_all p_slA (e_slotP (pv 2)) o_none (o_some (e_slotE (pv 4)))))) (pE_P (pR_E (e_tup (a_cons (pE_P (pR_E (e_bin o_add p_add (e_slotP (pv 7)) (pE_P (e_cst pe_int (fun _ => .int _)))))) (a_cons (pE_P (pR_E (e_bin op_sub p_sub (e_slotP (pv 8)) (pE_P (e_cst pe_int (fun _ => .int _)))))) a_nil)))))))) (pE_P (pR_E (e_slice sl_all p_slA (e_slotP (pv 2)) (o_some (pR_E (e_bin o_add p_add (e_slotP (pv 4)) (pE_P (e_cst pe_int (fun _ => .int _)))))) o_none))))))
    (ss_one (s_app (pv 3) (pR_E (e_bin o_add p_add (pE_P (pR_E (e_bin o_add p_add (pE_P (pR_E (e_slice sl_all p_slA (e_slotP (pv 2)) o_none (o_some (e_slotE (pv 4)))))) (pE_P (pR_E (e_tup (a_cons (pE_P (pR_E (e_bin o_add p_add (e_slotP (pv 7)) (pE_P (e_cst pe_int (fun _ => .int _)))))) (a_cons (pE_P (pR_E (e_bin o_add p_add (e_slotP (pv 8)) (pE_P (e_cst pe_int (fun _ => .int _)))))) a_nil)))))))) (pE_P (pR_E (e_slice sl_all p_slA (e_slotP (pv 2)) (o_some (pR_E (e_bin o_add p_add (e_slotP (pv 4)) (pE_P (e_cst pe_int (fun _ => .int _)))))) o_none)))))))))) ss_nil)
    (ss_one (s_ret (e_take (pv 3)))))))
abbrev s_law : Stmt := top 26
abbrev N_law : List Str := ["script", "bag", "turn", "net", "through", "said", "again", "thing"]
theorem sc_law : FnScope N_law ["script"] (defScope s_law) := ⟨rfl, rfl, rfl, by decide +kernel, rfl, by decide +kernel, by decide +kernel⟩
abbrev b_law : Es := (seqS (asgS 1 (callT 1 m_law_bag (consA (slotF 0) nilA)))
    (seqS (forS (itRange1 (consA (opOf (cstE (.int 6))) nilA)) (.nm 2) (seqS (asgS 3 (callU 1 m_law_net (consA (slotP 1) nilA)))
    (seqS (asgS 4 (callU 2 m_law_part (consA (slotP 1) (consA (slotF 3) nilA))))
    (seqS (asgS 5 (callN gRepr (consA (opOf (layOf (tupR (consA (opOf (slotE 3)) (consA (opOf (slotE 4)) nilA))))) nilA)))
    (seqS (forS (itRange1 (consA (opOf (cstE (.int 2))) nilA)) (.nm 6) (ifS (notT (boolOf (callT 2 m_law_alike (consA (opOf (layOf (callT 2 m_value_of (consA (slotF 3) (consA (slotF 4) nilA))))) (consA (opOf (layOf (callT 2 m_law_value (consA (slotF 3) (consA (slotF 4) nilA))))) nilA))))) (retS (resOf (cstE (.bool false)))) nilS))
    (seqS (forS (itSeq (layOf (bin2 gAdd (opOf (layOf (lstR (consA (opOf (slotE 4)) nilA)))) (opOf (layOf (callU 3 m_law_near (consA (slotP 1) (consA (slotF 3) (consA (slotF 4) nilA))))))))) (.nm 7) (seqS (ifS (notT (boolOf (callT 2 m_law_alike (consA (opOf (layOf (callT 2 m_is_through (consA (slotF 3) (consA (slotF 7) nilA))))) (consA (opOf (layOf (callT 2 m_law_is_through (consA (slotF 3) (consA (slotF 7) nilA))))) nilA))))) (retS (resOf (cstE (.bool false)))) nilS)
    (ifS (andT (boolOf (callT 2 m_law_is_through (consA (slotF 3) (consA (slotF 7) nilA)))) (notT (boolOf (callT 2 m_law_alike (consA (opOf (layOf (callT 2 m_value_of (consA (slotF 3) (consA (slotF 7) nilA))))) (consA (opOf (layOf (callT 2 m_law_value (consA (slotF 3) (consA (slotF 7) nilA))))) nilA)))))) (retS (resOf (cstE (.bool false)))) nilS)))
    (ifS (boolOf (bin2 gNe (opOf (layOf (callN gRepr (consA (opOf (layOf (tupR (consA (opOf (slotE 3)) (consA (opOf (slotE 4)) nilA))))) nilA)))) (slotP 5))) (retS (resOf (cstE (.bool false)))) nilS)))))))
    (retS (resOf (cstE (.bool true))))))
def m_law := runT 8 b_law
theorem ok_law {fa : Addr} {fd : FuncData} (T : Tops mg) (F : L2.Fun K "law" "law" s_law fa fd) (C_law_near : Callee P W.w K mg base "_law_near" 13 ["bag", "net", "through"] (spU K 3 m_law_near)) (C_law_is_through : Callee P W.w K mg base "_law_is_through" 2 ["net", "thing"] (spT K 2 m_law_is_through)) (C_law_alike : Callee P W.w K mg base "_law_alike" 1 ["found", "due"] (spT K 2 m_law_alike)) (C_law_value : Callee P W.w K mg base "_law_value" 1 ["net", "through"] (spT K 2 m_law_value)) (C_value_of : Callee P W.w K mg base "value_of" 1 ["net", "through"] (spT K 2 m_value_of)) (C_is_through : Callee P W.w K mg base "is_through" 3 ["net", "thing"] (spT K 2 m_is_through)) (C_law_part : Callee P W.w K mg base "_law_part" 3 ["bag", "net"] (spU K 2 m_law_part)) (C_law_net : Callee P W.w K mg base "_law_net" 4 ["bag"] (spU K 1 m_law_net)) (C_law_bag : Callee P W.w K mg base "_law_bag" 1 ["script"] (spT K 1 m_law_bag)) : FnG P W.w K mg base CX0 14 fa fd ["script"] (spT K 1 m_law) :=
  okT (N := N_law) F sc_law (by decide) fun cdv A outer s H E hg hr =>
    (ss_cons (s_asg (i := 1) sc_law.nd (by rfl) (Or.inl (by rfl)) (e_fun C_law_bag hg hr (by decide) (by rfl) (a_cons (e_slotF (pv 0)) a_nil)))
    (ss_cons (s_for (tg := (.nm 2)) PassesOwn.never (by rfl) (i_range1 (by rfl) T.b_range (a_cons (pE_P (e_cst pe_int (fun _ => .int _))) a_nil)) (g_nm (i := 2) sc_law.nd (by rfl) (Or.inl (by rfl))) (ss_cons (s_asg (i := 3) sc_law.nd (by rfl) (Or.inl (by rfl)) (e_funU C_law_net hg hr (by decide) (by rfl) (a_cons (e_slotP (pv 1)) a_nil)))
    (ss_cons (s_asg (i := 4) sc_law.nd (by rfl) (Or.inl (by rfl)) (e_funU C_law_part hg hr (by decide) (by rfl) (a_cons (e_slotP (pv 1)) (a_cons (e_slotF (pv 3)) a_nil))))
    (ss_cons (s_asg (i := 5) sc_law.nd (by rfl) (Or.inl (by rfl)) (e_callB (c_repr hg hr.units) p_repr (by rfl) T.b_repr bb_repr (a_cons (pE_P (pR_E (e_tup (a_cons (pE_P (e_slotE (pv 3))) (a_cons (pE_P (e_slotE (pv 4))) a_nil))))) a_nil)))
    (ss_cons (s_for (tg := (.nm 6)) PassesOwn.never (by rfl) (i_range1 (by rfl) T.b_range (a_cons (pE_P (e_cst pe_int (fun _ => .int _))) a_nil)) (g_nm (i := 6) sc_law.nd (by rfl) (Or.inl (by rfl))) (ss_one (s_if (t_not (t_val (e_fun C_law_alike hg hr (by decide) (by rfl) (a_cons (pE_P (pR_E (e_fun C_value_of hg hr (by decide) (by rfl) (a_cons (e_slotF (pv 3)) (a_cons (e_slotF (pv 4)) a_nil))))) (a_cons (pE_P (pR_E (e_fun C_law_value hg hr (by decide) (by rfl) (a_cons (e_slotF (pv 3)) (a_cons (e_slotF (pv 4)) a_nil))))) a_nil))) (by intro _; rfl))) (ss_one (s_ret (pE_R (e_cst pe_bl (fun _ => .bl _))))) ss_nil)))
    (ss_cons (s_for (tg := (.nm 7)) PassesOwn.never (by rfl) (i_seq (pR_E (e_bin o_add p_add (pE_P (pR_E (e_lst (a_cons (pE_P (e_slotE (pv 4))) a_nil)))) (pE_P (pR_E (e_funU C_law_near hg hr (by decide) (by rfl) (a_cons (e_slotP (pv 1)) (a_cons (e_slotF (pv 3)) (a_cons (e_slotF (pv 4)) a_nil))))))))) (g_nm (i := 7) sc_law.nd (by rfl) (Or.inl (by rfl))) (ss_cons (s_if (t_not (t_val (e_fun C_law_alike hg hr (by decide) (by rfl) (a_cons (pE_P (pR_E (e_fun C_is_through hg hr (by decide) (by rfl) (a_cons (e_slotF (pv 3)) (a_cons (e_slotF (pv 7)) a_nil))))) (a_cons (pE_P (pR_E (e_fun C_law_is_through hg hr (by decide) (by rfl) (a_cons (e_slotF (pv 3)) (a_cons (e_slotF (pv 7)) a_nil))))) a_nil))) (by intro _; rfl))) (ss_one (s_ret (pE_R (e_cst pe_bl (fun _ => .bl _))))) ss_nil)
    (ss_one (s_if ((w_and (t_val (e_fun C_law_is_through hg hr (by decide) (by rfl) (a_cons (e_slotF (pv 3)) (a_cons (e_slotF (pv 7)) a_nil))) (by intro _; rfl)) (w_and1 (t_not (t_val (e_fun C_law_alike hg hr (by decide) (by rfl) (a_cons (pE_P (pR_E (e_fun C_value_of hg hr (by decide) (by rfl) (a_cons (e_slotF (pv 3)) (a_cons (e_slotF (pv 7)) a_nil))))) (a_cons (pE_P (pR_E (e_fun C_law_value hg hr (by decide) (by rfl) (a_cons (e_slotF (pv 3)) (a_cons (e_slotF (pv 7)) a_nil))))) a_nil))) (by intro _; rfl)))))).pt (ss_one (s_ret (pE_R (e_cst pe_bl (fun _ => .bl _))))) ss_nil))))
    (ss_one (s_if (t_cmp (op_neD hr.units) p_ne (nomark _) (pE_P (pR_E (e_callB (c_repr hg hr.units) p_repr (by rfl) T.b_repr bb_repr (a_cons (pE_P (pR_E (e_tup (a_cons (pE_P (e_slotE (pv 3))) (a_cons (pE_P (e_slotE (pv 4))) a_nil))))) a_nil)))) (e_slotP (pv 5))) (ss_one (s_ret (pE_R (e_cst pe_bl (fun _ => .bl _))))) ss_nil))))))))
    (ss_one (s_ret (pE_R (e_cst pe_bl (fun _ => .bl _)))))))
end
theorem all_mk {l : PySem.W.OpenLaw} [W : NT.Wd] {K : PySem.W.Frag} {h : Heap} {mg : Str → Option Value} {fa : Addr} (X : K.In h) (G : h.Ns mainGlobals mg) (hfa : mg "law" = some (.ref fa))
    {f0 : Addr} {oc0 kV0 dc0 pm0 cd0 ct0 : Value} {od0 an0 : Option Addr} {sl0 : Array (Option Value)}
    (a0 : PySem.W.nsIn K mainGlobals "is_integer" = some (some (.ref f0))) (l0 : K.lookup f0 = some ⟨oc0, od0, .func (PySem.W.fnOf "is_integer" "is_integer" (defArgs s_is_integer) (defBody s_is_integer) (defScope s_is_integer) .none kV0 dc0 pm0 an0 cd0 ct0), sl0⟩) (c0 : PySem.W.codeIn K cd0 "is_integer" = true) (k0 : PySem.W.keepIn K (.ref f0) = true)
    {f1 : Addr} {oc1 kV1 dc1 pm1 cd1 ct1 : Value} {od1 an1 : Option Addr} {sl1 : Array (Option Value)}
    (a1 : PySem.W.nsIn K mainGlobals "is_count" = some (some (.ref f1))) (l1 : K.lookup f1 = some ⟨oc1, od1, .func (PySem.W.fnOf "is_count" "is_count" (defArgs s_is_count) (defBody s_is_count) (defScope s_is_count) .none kV1 dc1 pm1 an1 cd1 ct1), sl1⟩) (c1 : PySem.W.codeIn K cd1 "is_count" = true) (k1 : PySem.W.keepIn K (.ref f1) = true)
    {f2 : Addr} {oc2 kV2 dc2 pm2 cd2 ct2 : Value} {od2 an2 : Option Addr} {sl2 : Array (Option Value)}
    (a2 : PySem.W.nsIn K mainGlobals "value_of" = some (some (.ref f2))) (l2 : K.lookup f2 = some ⟨oc2, od2, .func (PySem.W.fnOf "value_of" "value_of" (defArgs s_value_of) (defBody s_value_of) (defScope s_value_of) .none kV2 dc2 pm2 an2 cd2 ct2), sl2⟩) (c2 : PySem.W.codeIn K cd2 "value_of" = true) (k2 : PySem.W.keepIn K (.ref f2) = true)
    {f3 : Addr} {oc3 kV3 dc3 pm3 cd3 ct3 : Value} {od3 an3 : Option Addr} {sl3 : Array (Option Value)}
    (a3 : PySem.W.nsIn K mainGlobals "is_through" = some (some (.ref f3))) (l3 : K.lookup f3 = some ⟨oc3, od3, .func (PySem.W.fnOf "is_through" "is_through" (defArgs s_is_through) (defBody s_is_through) (defScope s_is_through) .none kV3 dc3 pm3 an3 cd3 ct3), sl3⟩) (c3 : PySem.W.codeIn K cd3 "is_through" = true) (k3 : PySem.W.keepIn K (.ref f3) = true)
    {f4 : Addr} {oc4 kV4 dc4 pm4 cd4 ct4 : Value} {od4 an4 : Option Addr} {sl4 : Array (Option Value)}
    (a4 : PySem.W.nsIn K mainGlobals "_law_bag" = some (some (.ref f4))) (l4 : K.lookup f4 = some ⟨oc4, od4, .func (PySem.W.fnOf "_law_bag" "_law_bag" (defArgs s_law_bag) (defBody s_law_bag) (defScope s_law_bag) .none kV4 dc4 pm4 an4 cd4 ct4), sl4⟩) (c4 : PySem.W.codeIn K cd4 "_law_bag" = true) (k4 : PySem.W.keepIn K (.ref f4) = true)
    {f5 : Addr} {oc5 kV5 dc5 pm5 cd5 ct5 : Value} {od5 an5 : Option Addr} {sl5 : Array (Option Value)}
    (a5 : PySem.W.nsIn K mainGlobals "_law_take" = some (some (.ref f5))) (l5 : K.lookup f5 = some ⟨oc5, od5, .func (PySem.W.fnOf "_law_take" "_law_take" (defArgs s_law_take) (defBody s_law_take) (defScope s_law_take) .none kV5 dc5 pm5 an5 cd5 ct5), sl5⟩) (c5 : PySem.W.codeIn K cd5 "_law_take" = true) (k5 : PySem.W.keepIn K (.ref f5) = true)
    {f6 : Addr} {oc6 kV6 dc6 pm6 cd6 ct6 : Value} {od6 an6 : Option Addr} {sl6 : Array (Option Value)}
    (a6 : PySem.W.nsIn K mainGlobals "_law_some" = some (some (.ref f6))) (l6 : K.lookup f6 = some ⟨oc6, od6, .func (PySem.W.fnOf "_law_some" "_law_some" (defArgs s_law_some) (defBody s_law_some) (defScope s_law_some) .none kV6 dc6 pm6 an6 cd6 ct6), sl6⟩) (c6 : PySem.W.codeIn K cd6 "_law_some" = true) (k6 : PySem.W.keepIn K (.ref f6) = true)
    {f7 : Addr} {oc7 kV7 dc7 pm7 cd7 ct7 : Value} {od7 an7 : Option Addr} {sl7 : Array (Option Value)}
    (a7 : PySem.W.nsIn K mainGlobals "_law_alike" = some (some (.ref f7))) (l7 : K.lookup f7 = some ⟨oc7, od7, .func (PySem.W.fnOf "_law_alike" "_law_alike" (defArgs s_law_alike) (defBody s_law_alike) (defScope s_law_alike) .none kV7 dc7 pm7 an7 cd7 ct7), sl7⟩) (c7 : PySem.W.codeIn K cd7 "_law_alike" = true) (k7 : PySem.W.keepIn K (.ref f7) = true)
    {f8 : Addr} {oc8 kV8 dc8 pm8 cd8 ct8 : Value} {od8 an8 : Option Addr} {sl8 : Array (Option Value)}
    (a8 : PySem.W.nsIn K mainGlobals "_law_size" = some (some (.ref f8))) (l8 : K.lookup f8 = some ⟨oc8, od8, .func (PySem.W.fnOf "_law_size" "_law_size" (defArgs s_law_size) (defBody s_law_size) (defScope s_law_size) .none kV8 dc8 pm8 an8 cd8 ct8), sl8⟩) (c8 : PySem.W.codeIn K cd8 "_law_size" = true) (k8 : PySem.W.keepIn K (.ref f8) = true)
    {f9 : Addr} {oc9 kV9 dc9 pm9 cd9 ct9 : Value} {od9 an9 : Option Addr} {sl9 : Array (Option Value)}
    (a9 : PySem.W.nsIn K mainGlobals "_law_whole" = some (some (.ref f9))) (l9 : K.lookup f9 = some ⟨oc9, od9, .func (PySem.W.fnOf "_law_whole" "_law_whole" (defArgs s_law_whole) (defBody s_law_whole) (defScope s_law_whole) .none kV9 dc9 pm9 an9 cd9 ct9), sl9⟩) (c9 : PySem.W.codeIn K cd9 "_law_whole" = true) (k9 : PySem.W.keepIn K (.ref f9) = true)
    {f10 : Addr} {oc10 kV10 dc10 pm10 cd10 ct10 : Value} {od10 an10 : Option Addr} {sl10 : Array (Option Value)}
    (a10 : PySem.W.nsIn K mainGlobals "_law_odd" = some (some (.ref f10))) (l10 : K.lookup f10 = some ⟨oc10, od10, .func (PySem.W.fnOf "_law_odd" "_law_odd" (defArgs s_law_odd) (defBody s_law_odd) (defScope s_law_odd) .none kV10 dc10 pm10 an10 cd10 ct10), sl10⟩) (c10 : PySem.W.codeIn K cd10 "_law_odd" = true) (k10 : PySem.W.keepIn K (.ref f10) = true)
    {f11 : Addr} {oc11 kV11 dc11 pm11 cd11 ct11 : Value} {od11 an11 : Option Addr} {sl11 : Array (Option Value)}
    (a11 : PySem.W.nsIn K mainGlobals "_law_bent_word" = some (some (.ref f11))) (l11 : K.lookup f11 = some ⟨oc11, od11, .func (PySem.W.fnOf "_law_bent_word" "_law_bent_word" (defArgs s_law_bent_word) (defBody s_law_bent_word) (defScope s_law_bent_word) .none kV11 dc11 pm11 an11 cd11 ct11), sl11⟩) (c11 : PySem.W.codeIn K cd11 "_law_bent_word" = true) (k11 : PySem.W.keepIn K (.ref f11) = true)
    {f12 : Addr} {oc12 kV12 dc12 pm12 cd12 ct12 : Value} {od12 an12 : Option Addr} {sl12 : Array (Option Value)}
    (a12 : PySem.W.nsIn K mainGlobals "_law_bent" = some (some (.ref f12))) (l12 : K.lookup f12 = some ⟨oc12, od12, .func (PySem.W.fnOf "_law_bent" "_law_bent" (defArgs s_law_bent) (defBody s_law_bent) (defScope s_law_bent) .none kV12 dc12 pm12 an12 cd12 ct12), sl12⟩) (c12 : PySem.W.codeIn K cd12 "_law_bent" = true) (k12 : PySem.W.keepIn K (.ref f12) = true)
    {f13 : Addr} {oc13 kV13 dc13 pm13 cd13 ct13 : Value} {od13 an13 : Option Addr} {sl13 : Array (Option Value)}
    (a13 : PySem.W.nsIn K mainGlobals "_law_net" = some (some (.ref f13))) (l13 : K.lookup f13 = some ⟨oc13, od13, .func (PySem.W.fnOf "_law_net" "_law_net" (defArgs s_law_net) (defBody s_law_net) (defScope s_law_net) .none kV13 dc13 pm13 an13 cd13 ct13), sl13⟩) (c13 : PySem.W.codeIn K cd13 "_law_net" = true) (k13 : PySem.W.keepIn K (.ref f13) = true)
    {f14 : Addr} {oc14 kV14 dc14 pm14 cd14 ct14 : Value} {od14 an14 : Option Addr} {sl14 : Array (Option Value)}
    (a14 : PySem.W.nsIn K mainGlobals "_law_value" = some (some (.ref f14))) (l14 : K.lookup f14 = some ⟨oc14, od14, .func (PySem.W.fnOf "_law_value" "_law_value" (defArgs s_law_value) (defBody s_law_value) (defScope s_law_value) .none kV14 dc14 pm14 an14 cd14 ct14), sl14⟩) (c14 : PySem.W.codeIn K cd14 "_law_value" = true) (k14 : PySem.W.keepIn K (.ref f14) = true)
    {f15 : Addr} {oc15 kV15 dc15 pm15 cd15 ct15 : Value} {od15 an15 : Option Addr} {sl15 : Array (Option Value)}
    (a15 : PySem.W.nsIn K mainGlobals "_law_is_through" = some (some (.ref f15))) (l15 : K.lookup f15 = some ⟨oc15, od15, .func (PySem.W.fnOf "_law_is_through" "_law_is_through" (defArgs s_law_is_through) (defBody s_law_is_through) (defScope s_law_is_through) .none kV15 dc15 pm15 an15 cd15 ct15), sl15⟩) (c15 : PySem.W.codeIn K cd15 "_law_is_through" = true) (k15 : PySem.W.keepIn K (.ref f15) = true)
    {f16 : Addr} {oc16 kV16 dc16 pm16 cd16 ct16 : Value} {od16 an16 : Option Addr} {sl16 : Array (Option Value)}
    (a16 : PySem.W.nsIn K mainGlobals "_law_room" = some (some (.ref f16))) (l16 : K.lookup f16 = some ⟨oc16, od16, .func (PySem.W.fnOf "_law_room" "_law_room" (defArgs s_law_room) (defBody s_law_room) (defScope s_law_room) .none kV16 dc16 pm16 an16 cd16 ct16), sl16⟩) (c16 : PySem.W.codeIn K cd16 "_law_room" = true) (k16 : PySem.W.keepIn K (.ref f16) = true)
    {f17 : Addr} {oc17 kV17 dc17 pm17 cd17 ct17 : Value} {od17 an17 : Option Addr} {sl17 : Array (Option Value)}
    (a17 : PySem.W.nsIn K mainGlobals "_law_way" = some (some (.ref f17))) (l17 : K.lookup f17 = some ⟨oc17, od17, .func (PySem.W.fnOf "_law_way" "_law_way" (defArgs s_law_way) (defBody s_law_way) (defScope s_law_way) .none kV17 dc17 pm17 an17 cd17 ct17), sl17⟩) (c17 : PySem.W.codeIn K cd17 "_law_way" = true) (k17 : PySem.W.keepIn K (.ref f17) = true)
    {f18 : Addr} {oc18 kV18 dc18 pm18 cd18 ct18 : Value} {od18 an18 : Option Addr} {sl18 : Array (Option Value)}
    (a18 : PySem.W.nsIn K mainGlobals "_law_part" = some (some (.ref f18))) (l18 : K.lookup f18 = some ⟨oc18, od18, .func (PySem.W.fnOf "_law_part" "_law_part" (defArgs s_law_part) (defBody s_law_part) (defScope s_law_part) .none kV18 dc18 pm18 an18 cd18 ct18), sl18⟩) (c18 : PySem.W.codeIn K cd18 "_law_part" = true) (k18 : PySem.W.keepIn K (.ref f18) = true)
    {f19 : Addr} {oc19 kV19 dc19 pm19 cd19 ct19 : Value} {od19 an19 : Option Addr} {sl19 : Array (Option Value)}
    (a19 : PySem.W.nsIn K mainGlobals "_law_near" = some (some (.ref f19))) (l19 : K.lookup f19 = some ⟨oc19, od19, .func (PySem.W.fnOf "_law_near" "_law_near" (defArgs s_law_near) (defBody s_law_near) (defScope s_law_near) .none kV19 dc19 pm19 an19 cd19 ct19), sl19⟩) (c19 : PySem.W.codeIn K cd19 "_law_near" = true) (k19 : PySem.W.keepIn K (.ref f19) = true)
    {f20 : Addr} {oc20 kV20 dc20 pm20 cd20 ct20 : Value} {od20 an20 : Option Addr} {sl20 : Array (Option Value)}
    (a20 : PySem.W.nsIn K mainGlobals "law" = some (some (.ref f20))) (l20 : K.lookup f20 = some ⟨oc20, od20, .func (PySem.W.fnOf "law" "law" (defArgs s_law) (defBody s_law) (defScope s_law) .none kV20 dc20 pm20 an20 cd20 ct20), sl20⟩) (c20 : PySem.W.codeIn K cd20 "law" = true) (k20 : PySem.W.keepIn K (.ref f20) = true)
    (z_abs : PySem.W.nsIn K mainGlobals "abs" = some none)
    (z_all : PySem.W.nsIn K mainGlobals "all" = some none)
    (z_bool : PySem.W.nsIn K mainGlobals "bool" = some none)
    (z_enumerate : PySem.W.nsIn K mainGlobals "enumerate" = some none)
    (z_int : PySem.W.nsIn K mainGlobals "int" = some none)
    (z_isinstance : PySem.W.nsIn K mainGlobals "isinstance" = some none)
    (z_len : PySem.W.nsIn K mainGlobals "len" = some none)
    (z_list : PySem.W.nsIn K mainGlobals "list" = some none)
    (z_max : PySem.W.nsIn K mainGlobals "max" = some none)
    (z_min : PySem.W.nsIn K mainGlobals "min" = some none)
    (z_range : PySem.W.nsIn K mainGlobals "range" = some none)
    (z_repr : PySem.W.nsIn K mainGlobals "repr" = some none)
    (z_str : PySem.W.nsIn K mainGlobals "str" = some none)
    (z_sum : PySem.W.nsIn K mainGlobals "sum" = some none)
    (z_tuple : PySem.W.nsIn K mainGlobals "tuple" = some none)
    (z_zip : PySem.W.nsIn K mainGlobals "zip" = some none)
    {t_SINK : Tok} (g_SINK : PySem.W.nsIn K mainGlobals "SINK" = some (some (.int 1 t_SINK)))
    : ∃ fd : FuncData, (∀ (s : Shared) (v : Value), BindsTo s fd ⟨[v], []⟩ [("script", v)]) ∧ ∀ base : Heap, K.In base → base.Ns mainGlobals mg → MakersOk K mg base → FnG l.prog W.w K mg base CX0 14 fa fd ["script"] (spT K 1 m_law) := by
  have e := hfa.symm.trans (PySem.W.mg_of X G a20)
  cases e
  have T : Tops mg := ⟨PySem.W.mg_none_of X G z_abs, PySem.W.mg_none_of X G z_all, PySem.W.mg_none_of X G z_bool, PySem.W.mg_none_of X G z_enumerate, PySem.W.mg_none_of X G z_int, PySem.W.mg_none_of X G z_isinstance, PySem.W.mg_none_of X G z_len, PySem.W.mg_none_of X G z_list, PySem.W.mg_none_of X G z_max, PySem.W.mg_none_of X G z_min, PySem.W.mg_none_of X G z_range, PySem.W.mg_none_of X G z_repr, PySem.W.mg_none_of X G z_str, PySem.W.mg_none_of X G z_sum, PySem.W.mg_none_of X G z_tuple, PySem.W.mg_none_of X G z_zip, ⟨t_SINK, PySem.W.mg_of X G g_SINK⟩⟩
  have F := fun_mk (st := s_law) l20 c20 k20
  refine ⟨PySem.W.fnOf "law" "law" (defArgs s_law) (defBody s_law) (defScope s_law) .none kV20 dc20 pm20 an20 cd20 ct20, fun s v => .of_eq rfl, fun base _ _ M => ?_⟩
  have D_is_integer : DefAt K mg "is_integer" s_is_integer ["thing"] := defAt (l := l) X G a0 l0 c0 k0 fun _ _ _ _ _ _ us hl => match us, hl with | [_], _ => rfl
  have C_is_integer := ok_is_integer (P := l.prog) (base := base) T D_is_integer
  have D_is_count : DefAt K mg "is_count" s_is_count ["thing"] := defAt (l := l) X G a1 l1 c1 k1 fun _ _ _ _ _ _ us hl => match us, hl with | [_], _ => rfl
  have C_is_count := ok_is_count (P := l.prog) (base := base) T D_is_count C_is_integer
  have D_value_of : DefAt K mg "value_of" s_value_of ["net", "through"] := defAt (l := l) X G a2 l2 c2 k2 fun _ _ _ _ _ _ us hl => match us, hl with | [_, _], _ => rfl
  have C_value_of := ok_value_of (P := l.prog) (base := base) T D_value_of
  have D_is_through : DefAt K mg "is_through" s_is_through ["net", "thing"] := defAt (l := l) X G a3 l3 c3 k3 fun _ _ _ _ _ _ us hl => match us, hl with | [_, _], _ => rfl
  have C_is_through := ok_is_through (P := l.prog) (base := base) T D_is_through C_is_count
  have D_law_bag : DefAt K mg "_law_bag" s_law_bag ["script"] := defAt (l := l) X G a4 l4 c4 k4 fun _ _ _ _ _ _ us hl => match us, hl with | [_], _ => rfl
  have C_law_bag := ok_law_bag (P := l.prog) (base := base) T D_law_bag
  have D_law_take : DefAt K mg "_law_take" s_law_take ["bag", "many"] := defAt (l := l) X G a5 l5 c5 k5 fun _ _ _ _ _ _ us hl => match us, hl with | [_, _], _ => rfl
  have C_law_take := ok_law_take (P := l.prog) (base := base) T D_law_take
  have D_law_some : DefAt K mg "_law_some" s_law_some ["bag", "things"] := defAt (l := l) X G a6 l6 c6 k6 fun _ _ _ _ _ _ us hl => match us, hl with | [_, _], _ => rfl
  have C_law_some := ok_law_some (P := l.prog) (base := base) T D_law_some C_law_take
  have D_law_alike : DefAt K mg "_law_alike" s_law_alike ["found", "due"] := defAt (l := l) X G a7 l7 c7 k7 fun _ _ _ _ _ _ us hl => match us, hl with | [_, _], _ => rfl
  have C_law_alike := ok_law_alike (P := l.prog) (base := base) T D_law_alike
  have D_law_size : DefAt K mg "_law_size" s_law_size ["bag", "most"] := defAt (l := l) X G a8 l8 c8 k8 fun _ _ _ _ _ _ us hl => match us, hl with | [_, _], _ => rfl
  have C_law_size := ok_law_size (P := l.prog) (base := base) T D_law_size C_law_some C_law_take
  have D_law_whole : DefAt K mg "_law_whole" s_law_whole ["thing"] := defAt (l := l) X G a9 l9 c9 k9 fun _ _ _ _ _ _ us hl => match us, hl with | [_], _ => rfl
  have C_law_whole := ok_law_whole (P := l.prog) (base := base) T D_law_whole
  have D_law_odd : DefAt K mg "_law_odd" s_law_odd ["bag"] := defAt (l := l) X G a10 l10 c10 k10 fun _ _ _ _ _ _ us hl => match us, hl with | [_], _ => rfl
  have C_law_odd := ok_law_odd (P := l.prog) (base := base) T D_law_odd C_law_some
  have D_law_bent_word : DefAt K mg "_law_bent_word" s_law_bent_word ["bag", "word"] := defAt (l := l) X G a11 l11 c11 k11 fun _ _ _ _ _ _ us hl => match us, hl with | [_, _], _ => rfl
  have C_law_bent_word := ok_law_bent_word (P := l.prog) (base := base) T D_law_bent_word C_law_some C_law_take
  have D_law_bent : DefAt K mg "_law_bent" s_law_bent ["bag", "thing", "deep"] := defAt (l := l) X G a12 l12 c12 k12 fun _ _ _ _ _ _ us hl => match us, hl with | [_, _, _], _ => rfl
  have C_law_bent := ok_law_bent (P := l.prog) (base := base) T D_law_bent C_law_odd C_law_some C_law_bent_word C_law_take
  have D_law_net : DefAt K mg "_law_net" s_law_net ["bag"] := defAt (l := l) X G a13 l13 c13 k13 fun _ _ _ _ _ _ us hl => match us, hl with | [_], _ => rfl
  have C_law_net := ok_law_net (P := l.prog) (base := base) T D_law_net C_law_some C_law_take C_law_size
  have D_law_value : DefAt K mg "_law_value" s_law_value ["net", "through"] := defAt (l := l) X G a14 l14 c14 k14 fun _ _ _ _ _ _ us hl => match us, hl with | [_, _], _ => rfl
  have C_law_value := ok_law_value (P := l.prog) (base := base) T D_law_value
  have D_law_is_through : DefAt K mg "_law_is_through" s_law_is_through ["net", "thing"] := defAt (l := l) X G a15 l15 c15 k15 fun _ _ _ _ _ _ us hl => match us, hl with | [_, _], _ => rfl
  have C_law_is_through := ok_law_is_through (P := l.prog) (base := base) T D_law_is_through C_law_whole
  have D_law_room : DefAt K mg "_law_room" s_law_room ["net", "through"] := defAt (l := l) X G a16 l16 c16 k16 fun _ _ _ _ _ _ us hl => match us, hl with | [_, _], _ => rfl
  have C_law_room := ok_law_room (P := l.prog) (base := base) T D_law_room
  have D_law_way : DefAt K mg "_law_way" s_law_way ["net", "through"] := defAt (l := l) X G a17 l17 c17 k17 fun _ _ _ _ _ _ us hl => match us, hl with | [_, _], _ => rfl
  have C_law_way := ok_law_way (P := l.prog) (base := base) T D_law_way C_law_room
  have D_law_part : DefAt K mg "_law_part" s_law_part ["bag", "net"] := defAt (l := l) X G a18 l18 c18 k18 fun _ _ _ _ _ _ us hl => match us, hl with | [_, _], _ => rfl
  have C_law_part := ok_law_part (P := l.prog) (base := base) T D_law_part C_law_take C_law_some C_law_way
  have D_law_near : DefAt K mg "_law_near" s_law_near ["bag", "net", "through"] := defAt (l := l) X G a19 l19 c19 k19 fun _ _ _ _ _ _ us hl => match us, hl with | [_, _, _], _ => rfl
  have C_law_near := ok_law_near (P := l.prog) (base := base) T D_law_near C_law_take C_law_some C_law_odd C_law_bent
  exact ok_law T F C_law_near C_law_is_through C_law_alike C_law_value C_value_of C_is_through C_law_part C_law_net C_law_bag
end Law

section
open NS PySem L2 NT
variable [W : NT.Wd]
local macro_rules | `(tactic| and_intros) => `(tactic| repeat' (first
  | ((with_reducible refine sh_ends ?_); first
    | (with_reducible apply S_seq)
    | (with_reducible apply S_asg)
    | (with_reducible apply S_ret)
    | (with_reducible apply S_if_and)
    | (with_reducible apply S_if_or)
    | (with_reducible apply S_if_not)
    | (with_reducible apply S_if)
    | (with_reducible apply S_nil)
    | (with_reducible apply S_par2)
    | (with_reducible apply S_aug)
    | (with_reducible apply S_unp)
    | (with_reducible apply S_setX)
    | (with_reducible apply S_augX)
    | (with_reducible apply S_parN)
    | (with_reducible apply S_ins)
    | (with_reducible apply S_app)
    | (with_reducible apply S_extA)
    | (with_reducible apply S_drop)
    | (with_reducible apply S_brk)
    | (with_reducible apply S_cnt)
    | (with_reducible apply S_for))
  | ((with_reducible refine sh_ev ?_); first
    | ((with_reducible apply E_first); (· exact rfl); (· with_reducible assumption))
    | (with_reducible apply E_opOf)
    | (with_reducible apply E_layOf)
    | (with_reducible apply E_consA)
    | with_reducible exact E_cst
    | with_reducible exact E_nilA
    | with_reducible exact E_dict0
    | with_reducible exact E_prs0
    | with_reducible exact E_res0
    | (with_reducible apply E_prs)
    | (with_reducible apply E_disp)
    | (with_reducible apply E_res)
    | (with_reducible apply E_bin2)
    | ((with_reducible apply E_slotE); (exact rfl))
    | ((with_reducible apply E_slotE_l); (exact rfl))
    | ((with_reducible apply E_slotP); (exact rfl))
    | ((with_reducible apply E_slotP_s); (exact rfl))
    | ((with_reducible apply E_slotP_r); (exact rfl))
    | ((with_reducible apply E_slotP_rd); (exact rfl))
    | ((with_reducible apply E_slotF); (exact rfl))
    | ((with_reducible apply E_slotF_s); (exact rfl))
    | ((with_reducible apply E_slotF_l); (exact rfl))
    | ((with_reducible apply E_slotF_d); (exact rfl))
    | ((with_reducible apply E_take); (exact rfl))
    | ((with_reducible apply E_take_l); (exact rfl))
    | ((with_reducible apply E_take_d); (exact rfl))
    | ((with_reducible apply E_slotE_d); (exact rfl))
    | ((with_reducible apply pickT_k); (· with_reducible assumption))
    | ((with_reducible apply pickT_kf); (with_reducible assumption))
    | (with_reducible apply pickT_d)
    | ((with_reducible apply pickF_k); (· with_reducible assumption))
    | ((with_reducible apply pickF_kt); (with_reducible assumption))
    | (with_reducible apply pickF_d)
    | ((with_reducible refine sh_orV ?_); (with_reducible assumption))
    | ((with_reducible apply pickR_kf); (· with_reducible assumption))
    | ((with_reducible apply pickR_k); (· with_reducible assumption))
    | (with_reducible apply E_callN)
    | (with_reducible apply E_boolOf)
    | (with_reducible apply E_callT)
    | (with_reducible apply E_callU)
    | (with_reducible apply E_resOf)
    | (with_reducible apply E_tupR)
    | (with_reducible apply E_lstR)
    | (with_reducible apply E_bound1)
    | (with_reducible apply E_sl3)
    | (with_reducible apply E_slS)
    | (with_reducible apply E_revA)
    | (with_reducible apply E_negR)
    | (with_reducible apply E_andT2)
    | (with_reducible apply E_orT2)
    | (with_reducible apply E_notT)
    | (with_reducible apply E_ofT)
    | (with_reducible apply E_andV)
    | (with_reducible apply E_orV)
    | (with_reducible apply E_notV)
    | (with_reducible apply E_ifRb)
    | (with_reducible apply pickR_t)
    | (with_reducible apply pickR_f)
    | (with_reducible apply pickR_d)
    | (with_reducible apply E_rg1)
    | (with_reducible apply E_rg2)
    | (with_reducible apply E_lstRg2)
    | (with_reducible apply E_lc)
    | (with_reducible apply E_zip)
    | (with_reducible apply E_enum)
    | (with_reducible apply E_enumA)
    | (with_reducible apply E_chain3)
    | (with_reducible apply E_isi)
    | (with_reducible apply E_callF)
    | (with_reducible apply E_callB2)
    | (with_reducible apply E_sortNeg)
    | (with_reducible apply E_itSeq)
    | with_reducible exact E_bound0
    | with_reducible exact E_yesT)
  | ((with_reducible refine sh_call ?_); first
    | with_reducible assumption
    | with_reducible exact rs_l
    | with_reducible exact rs_t
    | with_reducible exact zs_l
    | with_reducible exact zs_t
    | with_reducible exact sq_l
    | with_reducible exact sq_t
    | with_reducible exact opD_v
    | with_reducible exact opDs_nil
    | with_reducible exact vals_nil
    | (with_reducible apply opDs_cons)
    | (with_reducible apply vals_cons)
    | ((with_reducible apply opD_rl); (exact rfl))
    | ((with_reducible apply opD_rd); (exact rfl))
    | ((with_reducible apply sh_ix); (exact rfl))
    | with_reducible exact G_addI
    | with_reducible exact G_subI
    | with_reducible exact G_cmp
    | with_reducible exact G_eqI
    | with_reducible exact G_neI
    | with_reducible exact G_min2
    | with_reducible exact G_max2
    | with_reducible exact G_abs
    | with_reducible exact G_int
    | with_reducible exact G_lenL
    | with_reducible exact G_lenT
    | with_reducible exact G_tupL
    | with_reducible exact G_tupT
    | with_reducible exact G_lstL
    | with_reducible exact G_lstT
    | with_reducible exact G_slL
    | with_reducible exact G_slAL
    | with_reducible exact G_slAT
    | with_reducible exact key_int
    | with_reducible exact key_str
    | with_reducible exact key_non
    | with_reducible exact key_ss
    | with_reducible exact G_intB
    | with_reducible exact G_allL
    | with_reducible exact G_anyL
    | with_reducible exact G_isN
    | with_reducible exact G_notN
    | with_reducible exact G_strS
    | (with_reducible apply G_addL)
    | (with_reducible apply G_addT)
    | (with_reducible apply G_mulI)
    | (with_reducible apply G_mulL1)
    | (with_reducible apply G_mulL)
    | (with_reducible apply G_fdiv)
    | (with_reducible apply G_mod)
    | (with_reducible apply G_pow)
    | (with_reducible apply G_ixAL)
    | (with_reducible apply G_ixAT)
    | (with_reducible apply G_ixAD)
    | (with_reducible apply G_inAD)
    | (with_reducible apply G_notinAD)
    | (with_reducible apply setOV_l)
    | (with_reducible apply setOV_d)
    | (with_reducible apply getOV_l)
    | (with_reducible apply getOV_d)
    | (with_reducible apply G_mulT1)
    | (with_reducible apply G_mulS)
    | (with_reducible apply G_strI)
    | (with_reducible apply G_minI)
    | ((with_reducible refine sh_ixN (x := some 0) ?_); (exact rfl))
    | ((with_reducible refine sh_ixN (x := some 1) ?_); (exact rfl))
    | ((with_reducible refine sh_ixN (x := some 2) ?_); (exact rfl))
    | ((with_reducible refine sh_ixN (x := some 3) ?_); (exact rfl))
    | ((with_reducible refine sh_ixN (x := some 4) ?_); (exact rfl))
    | ((with_reducible refine sh_ixN (x := some 5) ?_); (exact rfl))
    | ((with_reducible refine sh_ixN (x := some 6) ?_); (exact rfl))
    | ((with_reducible refine sh_ixN (x := some 7) ?_); (exact rfl))
    | ((with_reducible apply sh_ixN); (exact rfl))
    | ((with_reducible apply sh_ixD); (exact rfl))
    | ((with_reducible apply sh_tg); (first | (dsimp only [tgE, tgsE, List.set]; done) | (dsimp only [tgE, tgsE, List.set]; exact rfl) | exact rfl))
    | with_reducible exact at0 _ _
    | with_reducible exact at1 _ _ _
    | with_reducible exact at2 _ _ _ _
    | with_reducible exact at3 _ _ _ _ _
    | with_reducible exact G_sum)
  | (with_reducible apply SeqQ.nx)
  | (with_reducible apply SeqQ.rt)
  | (with_reducible apply SeqQ.bk)
  | (with_reducible apply SeqQ.ct)
  | (with_reducible apply LoopQ.nx)
  | (with_reducible apply LoopQ.ct)
  | (with_reducible apply LoopQ.bk)
  | (with_reducible apply LoopQ.rt)
  | with_reducible exact toD_d
  | with_reducible exact toD_l
  | with_reducible exact toD_k
  | with_reducible exact ov_d
  | with_reducible exact ov_l
  | with_reducible exact ov_k
  | ((with_reducible apply sh_set); (first | (dsimp only [List.set]; done) | (dsimp only [List.set]; exact rfl) | exact rfl))
  | ((with_reducible apply sh_io); (first | (dsimp only [OV.setIo, OV.io]; done) | (dsimp only [OV.setIo, OV.io]; exact rfl) | exact rfl))
  | ((with_reducible apply sh_lenO); (exact rfl))
  | ((with_reducible apply sh_kindO); (exact rfl))
  | ((with_reducible apply sh_ltN); (first | with_reducible assumption | omega))
  | ((with_reducible apply sh_sets); (first | (dsimp only [sets, List.set, List.map, Res.ov]; done) | (dsimp only [sets, List.set, List.map, Res.ov]; exact rfl) | exact rfl))
  | ((with_reducible apply sh_puts); (exact rfl))
  | ((with_reducible apply sh_len); (exact rfl))
  | ((with_reducible apply sh_le); (exact Nat.le_of_ble_eq_true rfl))
  | ((with_reducible refine sh_ift ?_); intro hb; (try simp only [isi_tuple_int, isi_tuple_tuple, isi_tuple_str, isi_tuple_list, isi_tuple_dict, isi_tuple_bool, isi_tuple_none, isi_str_int, isi_str_tuple, isi_str_str, isi_str_list, isi_str_dict, isi_str_bool, isi_str_none, isi_int_int, isi_int_tuple, isi_int_str, isi_int_list, isi_int_dict, isi_int_bool, isi_int_none, isi_bool_int, isi_bool_tuple, isi_bool_str, isi_bool_list, isi_bool_dict, isi_bool_bool, isi_bool_none, isi_list_int, isi_list_tuple, isi_list_str, isi_list_list, isi_list_dict, isi_list_bool, isi_list_none, isi_dict_int, isi_dict_tuple, isi_dict_str, isi_dict_list, isi_dict_dict, isi_dict_bool, isi_dict_none, isN_non, isN_int, isN_bool, isN_str, isN_list, isN_tup, isN_dict, Bool.false_eq_true, Bool.true_eq_false, Bool.not_eq_true, Bool.not_eq_false, Bool.not_eq_eq_eq_not, Bool.not_true, Bool.not_false, beq_iff_eq, beq_eq_false_iff_ne, ne_eq, decide_eq_true_eq, decide_eq_false_iff_not, Bool.and_eq_true, Bool.or_eq_true, Bool.and_eq_false_iff, Bool.or_eq_false_iff] at hb); (first | (exfalso; omega) | (exfalso; exact hb trivial) | skip))
  | ((with_reducible refine sh_iff ?_); intro hb; (try simp only [isi_tuple_int, isi_tuple_tuple, isi_tuple_str, isi_tuple_list, isi_tuple_dict, isi_tuple_bool, isi_tuple_none, isi_str_int, isi_str_tuple, isi_str_str, isi_str_list, isi_str_dict, isi_str_bool, isi_str_none, isi_int_int, isi_int_tuple, isi_int_str, isi_int_list, isi_int_dict, isi_int_bool, isi_int_none, isi_bool_int, isi_bool_tuple, isi_bool_str, isi_bool_list, isi_bool_dict, isi_bool_bool, isi_bool_none, isi_list_int, isi_list_tuple, isi_list_str, isi_list_list, isi_list_dict, isi_list_bool, isi_list_none, isi_dict_int, isi_dict_tuple, isi_dict_str, isi_dict_list, isi_dict_dict, isi_dict_bool, isi_dict_none, isN_non, isN_int, isN_bool, isN_str, isN_list, isN_tup, isN_dict, Bool.false_eq_true, Bool.true_eq_false, Bool.not_eq_true, Bool.not_eq_false, Bool.not_eq_eq_eq_not, Bool.not_true, Bool.not_false, beq_iff_eq, beq_eq_false_iff_ne, ne_eq, decide_eq_true_eq, decide_eq_false_iff_not, Bool.and_eq_true, Bool.or_eq_true, Bool.and_eq_false_iff, Bool.or_eq_false_iff] at hb); (first | (exfalso; omega) | (exfalso; exact hb trivial) | skip))
  | ((with_reducible apply sh_wipe); (first | (dsimp only [wipeE, List.set]; done) | (dsimp only [wipeE, List.set]; exact rfl) | exact rfl))
  | ((with_reducible apply sh_env); (first | (dsimp only [OV.setIo, envOf, List.map, argOv, List.replicate, List.length_cons, List.length_nil, List.append, List.cons_append, List.nil_append, Nat.reduceAdd, Nat.reduceSub]; done) | (dsimp only [OV.setIo, envOf, List.map, argOv, List.replicate, List.length_cons, List.length_nil, List.append, List.cons_append, List.nil_append, Nat.reduceAdd, Nat.reduceSub]; exact rfl) | exact rfl))
  | ((with_reducible apply sh_envU); (first | (dsimp only [OV.setIo, envOf, List.map, argOv, List.replicate, List.length_cons, List.length_nil, List.append, List.cons_append, List.nil_append, Nat.reduceAdd, Nat.reduceSub]; done) | (dsimp only [OV.setIo, envOf, List.map, argOv, List.replicate, List.length_cons, List.length_nil, List.append, List.cons_append, List.nil_append, Nat.reduceAdd, Nat.reduceSub]; exact rfl) | exact rfl))
  | ((with_reducible apply sh_back); (first | (simp only [backE, List.getElem?_cons_succ, List.getElem?_cons_zero, List.set_cons_succ, List.set_cons_zero]; done) | (simp only [backE, List.getElem?_cons_succ, List.getElem?_cons_zero, List.set_cons_succ, List.set_cons_zero]; exact rfl) | exact rfl))
  | ((with_reducible apply sh_bool); (first | exact rfl | (simp only [plain_cons, plain_nil, List.getElem?_cons_succ, List.getElem?_cons_zero, plain2_map, plain2_fz, plain2_no, Bool.true_and]; exact rfl)))
  | ((with_reducible apply sh_pos); (first | with_reducible assumption | omega | decide))
  | ((with_reducible apply sh_big); (first | with_reducible assumption | (apply big_of; omega)))
  | ((with_reducible apply sh_leI); (first | with_reducible assumption | omega))
  | ((with_reducible apply sh_ltI); (first | with_reducible assumption | omega))
  | ((with_reducible apply sh_mulN); ((try simp only [List.length_append, List.length_cons, List.length_nil, List.length_map, List.length_replicate]); omega))
  | ((with_reducible apply sh_le2); ((try simp only [List.length_append, List.length_cons, List.length_nil, List.length_map, List.length_replicate]); omega))
  | ((with_reducible apply sh_lt2); ((try simp only [List.length_append, List.length_cons, List.length_nil, List.length_map, List.length_replicate]); omega))))

namespace Law
open PySem L2 NS
/-! ### whole numbers -/
def isI : D → Bool
  | .int _ => true
  | _ => false
def cnt : D → Bool
  | .int i => decide (0 ≤ i)
  | _ => false
theorem isInt_x (d : D) : m_is_integer [.v d] = some (.d (.bool (isI d))) := by
  cases d with
  | bool b => cases b <;> rfl
  | _ => rfl
theorem count_x (d : D) : m_is_count [.v d] = some (.d (.bool (cnt d))) := by
  cases d with
  | bool b => cases b <;> rfl
  | _ => rfl
theorem whole_x (d : D) : m_law_whole [.v d] = some (.d (.bool (isI d))) := by
  cases d with
  | bool b => cases b <;> rfl
  | _ => rfl
end Law

namespace Law
open PySem L2 NS
abbrev Arc := Int × Int × Option Int
def optD : Option Int → D
  | none => .none
  | some c => .int c
abbrev encA (a : Arc) : D := .tuple [.int a.1, .int a.2.1, optD a.2.2]
abbrev netD (many : Int) (as : List Arc) : D := .tuple [.int many, .tuple (as.map encA)]
structure NetOk (many : Int) (as : List Arc) : Prop where
  lo : 2 ≤ many
  hi : many ≤ 20
  len : as.length ≤ 30
  arc : ∀ a ∈ as, 0 ≤ a.1 ∧ a.1 < many ∧ 0 ≤ a.2.1 ∧ a.2.1 < many ∧ a.1 ≠ a.2.1 ∧ ∀ c, a.2.2 = some c → 0 ≤ c ∧ c ≤ 1000000000000
def over (a : Arc) (i : Int) : Bool := match a.2.2 with
  | none => false
  | some c => decide (c < i)
def addN (L : List Int) (k : Nat) (i : Int) : List Int := L.set k ((L[k]?).getD 0 + i)
def bal (L : List Int) (a : Arc) (i : Int) : List Int := addN (addN L a.1.toNat (-i)) a.2.1.toNat i
theorem addN_len (L : List Int) (k : Nat) (i : Int) : (addN L k i).length = L.length := List.length_set
def go1 : List Int → List (Arc × Int) → Option (List Int)
  | L, [] => some L
  | L, (a, i) :: r => if over a i = true then none else go1 (bal L a i) r
def zeros (L : List Int) : Bool := (L.drop 2).all fun i => i == 0
def verdict : Option (List Int) → Bool
  | none => false
  | some L => zeros L
def vals (ds : List D) : List Int := ds.map fun d => match d with
  | .int i => i
  | _ => 0
def isThr (many : Int) (as : List Arc) (d : D) : Bool := match d with
  | .tuple ds => decide (ds.length = as.length) && (ds.all cnt && verdict (go1 (List.replicate many.toNat 0) (as.zip (vals ds))))
  | _ => false
theorem cnt_vals : ∀ {ds : List D}, ds.all cnt = true → ds = (vals ds).map .int ∧ ∀ i ∈ vals ds, 0 ≤ i
  | [], _ => ⟨rfl, fun _ h => nomatch h⟩
  | d :: ds, h => by
    rw [List.all_cons, Bool.and_eq_true] at h
    obtain ⟨h1, h2⟩ := cnt_vals h.2
    cases d with
    | int i =>
      refine ⟨?_, fun j hj => ?_⟩
      · show PyData.int i :: ds = PyData.int i :: (vals ds).map .int
        rw [← h1]
      · rcases List.mem_cons.mp hj with e | hj
        · subst e; exact of_decide_eq_true h.1
        · exact h2 j hj
    | _ => exact absurd h.1 Bool.false_ne_true
abbrev encZ (p : Arc × Int) : D := .tuple [encA p.1, .int p.2]
theorem zip_is : ∀ (as : List Arc) (is : List Int), zipD (as.map encA) (is.map .int) = (as.zip is).map encZ
  | [], _ => rfl
  | _ :: _, [] => rfl
  | a :: as, i :: is => by
    show PyData.tuple [encA a, .int i] :: zipD (as.map encA) (is.map .int) = _
    rw [zip_is as is]; rfl
theorem ix_at {L : List Int} {j : Int} (h0 : 0 ≤ j) (h : j < L.length) : ixN (L.map PyData.int).length j = some j.toNat ∧ ∃ x, L[j.toNat]? = some x ∧ (L.map PyData.int)[j.toNat]? = some (.int x) := by
  obtain ⟨k, rfl⟩ := Int.eq_ofNat_of_zero_le h0
  have hk : k < L.length := by omega
  refine ⟨?_, L[k], ?_, ?_⟩
  · rw [List.length_map]
    simp only [ixN]
    split <;> rename_i hh <;> simp at hh ⊢ <;> omega
  · exact List.getElem?_eq_getElem hk
  · rw [List.getElem?_map, show ((k : Int)).toNat = k from rfl, List.getElem?_eq_getElem hk]; rfl
theorem bal_step {L : List Int} {s e : Int} {c : Option Int} (i : Int) (h0 : 0 ≤ s) (h1 : s < L.length) (h2 : 0 ≤ e) (h3 : e < L.length) : ∃ x y, ixN (L.map PyData.int).length s = some s.toNat ∧ (L.map PyData.int)[s.toNat]? = some (.int x) ∧ ixN ((L.map PyData.int).set s.toNat (.int (x - i))).length e = some e.toNat ∧
    ((L.map PyData.int).set s.toNat (.int (x - i)))[e.toNat]? = some (.int y) ∧ ((L.map PyData.int).set s.toNat (.int (x - i))).set e.toNat (.int (y + i)) = (bal L (s, e, c) i).map PyData.int := by
  obtain ⟨a1, x, a2, a3⟩ := ix_at h0 h1
  have hl : ((L.set s.toNat (x - i)).length : Int) = L.length := by rw [List.length_set]
  obtain ⟨b1, y, b2, b3⟩ := ix_at (L := L.set s.toNat (x - i)) h2 (by omega)
  have hm : (L.map PyData.int).set s.toNat (.int (x - i)) = (L.set s.toNat (x - i)).map .int := (List.map_set ..).symm
  refine ⟨x, y, a1, a3, by rw [hm]; exact b1, by rw [hm]; exact b3, ?_⟩
  rw [hm, ← List.map_set]
  unfold bal addN
  dsimp only
  rw [a2]
  show _ = List.map PyData.int ((L.set s.toNat (x + -i)).set e.toNat (((L.set s.toNat (x + -i))[e.toNat]?).getD 0 + i))
  rw [show x + -i = x - i from rfl, b2]
  rfl
theorem bal_len (L : List Int) (a : Arc) (i : Int) : (bal L a i).length = L.length := by
  unfold bal; rw [addN_len, addN_len]
end Law

namespace Law
open PySem L2 NS
theorem arcs_mem {as : List Arc} {is : List Int} {p : Arc × Int} (h : p ∈ as.zip is) : p.1 ∈ as := (List.of_mem_zip h).1
theorem lc_cnt (N : Int) (as : List Arc) (ds : List D) (hd : ds.length ≤ 100) : lcGo (.nm 8) yesT (layOf (callT 1 m_is_count (consA (slotF 8) nilA))) [8] ds [some (.fz (netD N as)), some (.fz (.tuple ds)), some (.fz (.int N)), some (.fz (.tuple (as.map encA))), none, none, none, none, none] [] = some ((ds.map cnt).map .bool, [some (.fz (netD N as)), some (.fz (.tuple ds)), some (.fz (.int N)), some (.fz (.tuple (as.map encA))), none, none, none, none, none]) := by
  have h := lc_map0 (fun _ => True) (enc := fun d : D => d) (fun d => PyData.bool (cnt d)) (tg := .nm 8) (elt := layOf (callT 1 m_is_count (consA (slotF 8) nilA))) (own := [8]) (e := [some (.fz (netD N as)), some (.fz (.tuple ds)), some (.fz (.int N)), some (.fz (.tuple (as.map encA))), none, none, none, none, none]) ds (fun _ _ => trivial) (by omega) (fun x _ => ⟨_, rfl, by
      have hc := count_x x
      dsimp only [List.set]
      apply Ev1.i
      · and_intros
      · exact ⟨rfl, rfl⟩⟩)
  rw [List.map_id'] at h
  rw [h, List.map_map]; rfl
theorem lc_zero {s0 s1 s2 s3 s4 s5 s6 s7 : Option OV} (L : List Int) (hL : L.length ≤ 100) : lcGo (.nm 8) yesT (layOf (bin2 gEq (slotP 8) (opOf (cstE (PyData.int 0))))) [8] (L.map PyData.int) [s0, s1, s2, s3, s4, s5, s6, s7, none] [] = some ((L.map fun i => i == 0).map .bool, [s0, s1, s2, s3, s4, s5, s6, s7, none]) := by
  rw [List.map_map]
  exact lc_map0 (fun _ => True) _ L (fun _ _ => trivial) (by omega) (fun x _ => ⟨_, rfl, by
      dsimp only [List.set]
      apply Ev1.i
      · and_intros
      · exact ⟨rfl, rfl⟩⟩)
theorem thr_loop {N : Int} {as : List Arc} (h : NetOk N as) {Q : Fl → NS.Env → Prop} {s0 s1 s2 s3 s5 s6 s7 : Option OV} (o8 : Option D) {L : List Int} {ps : List (Arc × Int)} (hp : ∀ p ∈ ps, p.1 ∈ as) (hL : (L.length : Int) = N)
    (k : ∀ L' s5 s6 s7 (o8 : Option D), go1 L ps = some L' → (L'.length : Int) = N → Q .nx [s0, s1, s2, s3, some (.ol false (L'.map .int)), s5, s6, s7, o8.map .fz]) (kf : ∀ e, go1 L ps = none → Q (.rt (.d (.bool false))) e) :
    Ends (forGo (Tg.tp [Tg.tp [Tg.nm 5, Tg.nm 6, Tg.nm 7], Tg.nm 8])
      (seqS
        (ifS
          (andT (boolOf (bin2 gNotN (slotP 7) (opOf (cstE PyData.none))))
            (boolOf (bin2 (gCmp fun i j => decide (j < i)) (slotP 8) (slotP 7))))
          (retS (resOf (cstE (PyData.bool false)))) nilS)
        (seqS (augAS 4 (fun i j => i - j) (slotE 5) (slotE 8)) (augAS 4 (fun i j => i + j) (slotE 6) (slotE 8)))) (ps.map encZ) [s0, s1, s2, s3, some (.ol false (L.map .int)), s5, s6, s7, o8.map .fz]) Q := by
  refine for_map (fun (xs : List (Arc × Int)) e => ∃ (L' : List Int) (s5 s6 s7 : Option OV) (o8 : Option D), e = [s0, s1, s2, s3, some (.ol false (L'.map PyData.int)), s5, s6, s7, o8.map .fz] ∧ (L'.length : Int) = N ∧ go1 L' xs = go1 L ps ∧ ∀ p ∈ xs, p.1 ∈ as) ?_ ?_ ps ⟨L, s5, s6, s7, o8, rfl, hL, rfl, hp⟩
  · rintro ⟨⟨s, e, c⟩, i⟩ xs env ⟨L', s5, s6, s7, o8, rfl, hL', hg, hm⟩
    obtain ⟨a1, a2, a3, a4, a5, a6⟩ := h.arc _ (hm _ List.mem_cons_self)
    dsimp only at a1 a2 a3 a4 a5 a6
    obtain ⟨x, y, b1, b2, b3, b4, b5⟩ := bal_step (L := L') (c := c) i a1 (by omega) a3 (by omega)
    have hrest : ∀ p ∈ xs, p.1 ∈ as := fun p hp => hm p (List.mem_cons_of_mem _ hp)
    refine ⟨_, rfl, ?_⟩
    dsimp only [List.set, optD]
    cases c with
    | none =>
      have hov : over (s, e, none) i = false := rfl
      have hg2 : go1 (bal L' (s, e, none) i) xs = go1 L ps := by rw [← hg]; show _ = (if over (s, e, none) i = true then none else go1 (bal L' (s, e, none) i) xs); rw [hov]; rfl
      and_intros
      all_goals (try (exfalso; simp_all [isNone]; done))
      all_goals (first | (exact ⟨_, _, _, _, some (.int i), by rw [b5]; rfl, by rw [bal_len]; exact hL', hg2, hrest⟩) | skip)
    | some c =>
      by_cases hlt : c < i
      · have hov : over (s, e, some c) i = true := decide_eq_true hlt
        have hg2 : go1 L ps = none := by rw [← hg]; show (if over (s, e, some c) i = true then none else go1 (bal L' (s, e, some c) i) xs) = none; rw [hov]; rfl
        and_intros
        all_goals (try (exfalso; simp_all [isNone]; done))
        all_goals (first | exact kf _ hg2 | (exfalso; simp_all [isNone]; omega))
      · have hov : over (s, e, some c) i = false := decide_eq_false hlt
        have hg2 : go1 (bal L' (s, e, some c) i) xs = go1 L ps := by rw [← hg]; show _ = (if over (s, e, some c) i = true then none else go1 (bal L' (s, e, some c) i) xs); rw [hov]; rfl
        and_intros
        all_goals (try (exfalso; simp_all [isNone]; done))
        all_goals (first | (exact ⟨_, _, _, _, some (.int i), by rw [b5]; rfl, by rw [bal_len]; exact hL', hg2, hrest⟩) | skip)
  · rintro env ⟨L', s5, s6, s7, o8, rfl, hL', hg, _⟩
    exact k L' s5 s6 s7 o8 hg.symm hL'
theorem is_through_x {N : Int} {as : List Arc} (h : NetOk N as) (d : D) : m_is_through [.v (netD N as), .v d] = some (.d (.bool (isThr N as d))) := by
  have hl := h.len
  have hlo := h.lo
  have hhi := h.hi
  by_cases ht : isiB "tuple" d = true
  · obtain ⟨ds, rfl⟩ : ∃ ds, d = .tuple ds := by
      cases d with
      | tuple ds => exact ⟨ds, rfl⟩
      | bool b => cases b <;> exact absurd ht (by decide)
      | none => exact absurd ht (by decide)
      | int i => exact absurd ht (by simp [isiB, dTy])
      | str x => exact absurd ht (by simp [isiB, dTy])
      | list x => exact absurd ht (by simp [isiB, dTy])
      | dict x => exact absurd ht (by simp [isiB, dTy])
    by_cases hn : ds.length = as.length
    · have hlc := lc_cnt N as ds (by omega)
      by_cases hc : ds.all cnt = true
      · have hid : (ds.map cnt).all id = true := by rw [List.all_map]; exact hc
        obtain ⟨e1, e2⟩ := cnt_vals hc
        generalize hv : vals ds = vs at e1 e2
        have hz := zip_is as vs
        subst e1
        rw [List.length_map] at hn
        have hdec : decide ((vs.map PyData.int).length = as.length) = true := decide_eq_true (by rw [List.length_map]; exact hn)
        have hR : isThr N as (.tuple (vs.map .int)) = verdict (go1 (List.replicate N.toNat 0) (as.zip vs)) := by
          show (decide ((vs.map PyData.int).length = as.length) && ((vs.map PyData.int).all cnt && verdict (go1 (List.replicate N.toNat 0) (as.zip (vals (vs.map PyData.int)))))) = _
          rw [hdec, hc, hv, Bool.true_and, Bool.true_and]
        rw [hR]
        apply runT_i
        all_goals and_intros
        all_goals (first | (exfalso; simp_all; done) | (rename_i hb; rw [hid] at hb; cases hb; done) | skip)
        rw [hz]
        have h0 : List.replicate N.toNat (PyData.int 0) = (List.replicate N.toNat (0 : Int)).map .int := by rw [List.map_replicate]
        rw [h0]
        refine thr_loop h none (fun p hp => arcs_mem hp) (by rw [List.length_replicate]; omega) (fun L' s5 s6 s7 o8 hg hL' => ?_) (fun e hg => ?_)
        · rw [hg]
          have hcut : cutD (L'.map PyData.int) (some 2) none = (L'.drop 2).map PyData.int := by
            rw [List.map_drop]; exact cut_from (L'.map PyData.int) 2
          have hl2 := lc_zero (s0 := some (.fz (netD N as))) (s1 := some (.fz (.tuple (vs.map .int)))) (s2 := some (.fz (.int N))) (s3 := some (.fz (.tuple (as.map encA)))) (s4 := some (.ol false (L'.map PyData.int))) (s5 := s5) (s6 := s6) (s7 := s7) (L'.drop 2) (by rw [List.length_drop]; omega)
          rw [← hcut] at hl2
          refine SeqQ.nx ?_
          and_intros
          show some (Res.d (PyData.bool (((L'.drop 2).map fun i => i == 0).all id))) = some (Res.d (PyData.bool (zeros L')))
          rw [List.all_map]; rfl
        · rw [hg]; exact SeqQ.rt rfl
      · have hR : isThr N as (.tuple ds) = false := by
          show (decide (ds.length = as.length) && (ds.all cnt && _)) = false
          rw [Bool.eq_false_iff.mpr hc, Bool.false_and, Bool.and_false]
        have hid : (ds.map cnt).all id = false := by rw [List.all_map]; exact Bool.eq_false_iff.mpr hc
        rw [hR]
        apply runT_i
        all_goals and_intros
        all_goals first
          | rfl
          | (rename_i hb; rw [hid] at hb; cases hb; done)
          | (exfalso; simp_all; done)
    · have hR : isThr N as (.tuple ds) = false := by
        show (decide (ds.length = as.length) && _) = false
        rw [decide_eq_false hn, Bool.false_and]
      rw [hR]
      apply runT_i
      all_goals and_intros
      all_goals first
        | rfl
        | (exfalso; rename_i hb _; rw [List.length_map] at hb; omega)
        | (exfalso; rename_i hb; rw [List.length_map] at hb; omega)
        | (exfalso; simp_all; done)
  · have hR : isThr N as d = false := by
      cases d with
      | tuple ds => exact absurd rfl ht
      | _ => rfl
    rw [hR]
    apply runT_i
    all_goals and_intros
    all_goals first
      | rfl
      | (exfalso; simp_all; done)
end Law

namespace Law
open PySem L2 NS
def valD : D → Int
  | .int i => i
  | _ => 0
abbrev encY (p : Arc × D) : D := .tuple [encA p.1, p.2]
theorem zipY : ∀ (as : List Arc) (ds : List D), zipD (as.map encA) ds = (as.zip ds).map encY
  | [], _ => rfl
  | _ :: _, [] => rfl
  | a :: as, d :: ds => by
    show PyData.tuple [encA a, d] :: zipD (as.map encA) ds = _
    rw [zipY as ds]; rfl
def go2 : List Int → List (Arc × D) → Option (List Int)
  | L, [] => some L
  | L, (a, d) :: r => if (cnt d && !over a (valD d)) = true then go2 (bal L a (valD d)) r else none
theorem go2_is : ∀ (as : List Arc) (ds : List D) (L : List Int), ds.length = as.length → verdict (go2 L (as.zip ds)) = (ds.all cnt && verdict (go1 L (as.zip (vals ds))))
  | [], [], L, _ => rfl
  | [], _ :: _, _, h => by cases h
  | _ :: _, [], _, h => by cases h
  | a :: as, d :: ds, L, h => by
    have ih := go2_is as ds (bal L a (valD d)) (by simpa using h)
    have hv : vals (d :: ds) = valD d :: vals ds := by cases d <;> rfl
    rw [hv, List.all_cons]
    show verdict (if (cnt d && !over a (valD d)) = true then go2 (bal L a (valD d)) (as.zip ds) else none) = (cnt d && ds.all cnt && verdict (if over a (valD d) = true then none else go1 (bal L a (valD d)) (as.zip (vals ds))))
    cases hc : cnt d <;> cases ho : over a (valD d) <;> simp [show verdict none = false from rfl, ih]
theorem thr_loop2 {N : Int} {as : List Arc} (h : NetOk N as) {Q : Fl → NS.Env → Prop} {s0 s1 s3 s4 s5 s6 : Option OV} {L : List Int} {ps : List (Arc × D)} (hp : ∀ p ∈ ps, p.1 ∈ as) (hL : (L.length : Int) = N)
    (k : ∀ L' s3 s4 s5 s6, go2 L ps = some L' → (L'.length : Int) = N → Q .nx [s0, s1, some (.ol false (L'.map .int)), s3, s4, s5, s6, none]) (kf : ∀ e, go2 L ps = none → Q (.rt (.d (.bool false))) e) :
    Ends (forGo (Tg.tp [Tg.tp [Tg.nm 3, Tg.nm 4, Tg.nm 5], Tg.nm 6])
      (seqS (ifS (orT (notT (boolOf (callT 1 m_law_whole (consA (slotF 6) nilA)))) (orT (boolOf (bin2 (gCmp fun i j => decide (i < j)) (slotP 6) (opOf (cstE (.int 0))))) (andT (boolOf (bin2 gNotN (slotP 5) (opOf (cstE .none)))) (boolOf (bin2 (gCmp fun i j => decide (j < i)) (slotP 6) (slotP 5)))))) (retS (resOf (cstE (.bool false)))) nilS)
    (seqS (augAS 2 (fun i j => i - j) (slotE 3) (slotE 6))
    (augAS 2 (fun i j => i + j) (slotE 4) (slotE 6)))) (ps.map encY) [s0, s1, some (.ol false (L.map .int)), s3, s4, s5, s6, none]) Q := by
  refine for_map (fun (xs : List (Arc × D)) e => ∃ (L' : List Int) (s3 s4 s5 s6 : Option OV), e = [s0, s1, some (.ol false (L'.map PyData.int)), s3, s4, s5, s6, none] ∧ (L'.length : Int) = N ∧ go2 L' xs = go2 L ps ∧ ∀ p ∈ xs, p.1 ∈ as) ?_ ?_ ps ⟨L, s3, s4, s5, s6, rfl, hL, rfl, hp⟩
  · rintro ⟨⟨s, e, c⟩, d⟩ xs env ⟨L', s3, s4, s5, s6, rfl, hL', hg, hm⟩
    obtain ⟨a1, a2, a3, a4, a5, a6⟩ := h.arc _ (hm _ List.mem_cons_self)
    dsimp only at a1 a2 a3 a4 a5 a6
    have hrest : ∀ p ∈ xs, p.1 ∈ as := fun p hp => hm p (List.mem_cons_of_mem _ hp)
    have hw := whole_x d
    have bad : (cnt d && !over (s, e, c) (valD d)) = false → go2 L ps = none := fun z => by
      rw [← hg]; show (if (cnt d && !over (s, e, c) (valD d)) = true then go2 (bal L' (s, e, c) (valD d)) xs else none) = none
      rw [z]; rfl
    have good : (cnt d && !over (s, e, c) (valD d)) = true → go2 (bal L' (s, e, c) (valD d)) xs = go2 L ps := fun z => by
      rw [← hg]; show _ = (if (cnt d && !over (s, e, c) (valD d)) = true then go2 (bal L' (s, e, c) (valD d)) xs else none)
      rw [z]; rfl
    refine ⟨_, rfl, ?_⟩
    dsimp only [List.set, optD]
    by_cases hi : isI d = true
    · obtain ⟨i, rfl⟩ : ∃ i, d = .int i := by cases d <;> first | exact ⟨_, rfl⟩ | cases hi
      obtain ⟨x, y, b1, b2, b3, b4, b5⟩ := bal_step (L := L') (c := c) i a1 (by omega) a3 (by omega)
      by_cases h0 : 0 ≤ i
      · cases c with
        | none =>
          have hg2 : go2 (bal L' (s, e, none) i) xs = go2 L ps := good (by show (decide (0 ≤ i) && true) = true; rw [decide_eq_true h0]; rfl)
          and_intros
          all_goals (try (exfalso; simp_all [isNone, isI]; done))
          all_goals (first | (exact ⟨_, _, _, _, _, by rw [b5], by rw [bal_len]; exact hL', hg2, hrest⟩) | (exfalso; omega) | skip)
        | some c =>
          by_cases hlt : c < i
          · have hg2 := bad (by show (decide (0 ≤ i) && !decide (c < i)) = false; rw [decide_eq_true h0, decide_eq_true hlt]; rfl)
            and_intros
            all_goals (try (exfalso; simp_all [isNone, isI]; done))
            all_goals (first | exact kf _ hg2 | (exfalso; simp_all [isNone, isI]; omega))
          · have hg2 : go2 (bal L' (s, e, some c) i) xs = go2 L ps := good (by show (decide (0 ≤ i) && !decide (c < i)) = true; rw [decide_eq_true h0, decide_eq_false hlt]; rfl)
            and_intros
            all_goals (try (exfalso; simp_all [isNone, isI]; done))
            all_goals (first | (exact ⟨_, _, _, _, _, by rw [b5], by rw [bal_len]; exact hL', hg2, hrest⟩) | (exfalso; omega) | skip)
      · have hg2 := bad (by show (decide (0 ≤ i) && !over (s, e, c) i) = false; rw [decide_eq_false h0]; rfl)
        and_intros
        all_goals (try (exfalso; simp_all [isNone, isI]; done))
        all_goals (first | exact kf _ hg2 | (exfalso; omega))
    · have hg2 := bad (by
        have hc : cnt d = false := by cases d <;> first | rfl | exact absurd rfl hi
        rw [hc]; rfl)
      and_intros
      all_goals (first | exact kf _ hg2 | (exfalso; simp_all; done))
  · rintro env ⟨L', s3, s4, s5, s6, rfl, hL', hg, _⟩
    exact k L' s3 s4 s5 s6 hg.symm hL'
def rangeI (lo : Int) (n : Nat) : List Int := (List.range n).map fun (i : Nat) => lo + (i : Int)
theorem range_is (lo : Int) (n : Nat) : rangeD lo n = (rangeI lo n).map .int := by
  unfold rangeD rangeI
  rw [List.map_map]; rfl
theorem mem_rangeI {lo x : Int} {n : Nat} (h : x ∈ rangeI lo n) : lo ≤ x ∧ x < lo + n := by
  unfold rangeI at h
  obtain ⟨k, hk, rfl⟩ := List.mem_map.mp h
  have := List.mem_range.mp hk
  omega
def atL (L : List Int) (x : Int) : Int := (L[x.toNat]?).getD 0
theorem zeros_is {L : List Int} (h : 2 ≤ L.length) : ((rangeI 2 (L.length - 2)).filter fun x => !(atL L x == 0)).isEmpty = zeros L := by
  rw [Bool.eq_iff_iff, List.isEmpty_iff, List.filter_eq_nil_iff]
  unfold zeros
  rw [List.all_eq_true]
  constructor
  · intro hz i hi
    obtain ⟨k, hk, rfl⟩ := List.mem_iff_getElem.mp hi
    rw [List.length_drop] at hk
    have := hz (2 + (k : Int)) (List.mem_map.mpr ⟨k, List.mem_range.mpr hk, rfl⟩)
    rw [List.getElem_drop]
    unfold atL at this
    rw [show (2 + (k : Int)).toNat = 2 + k by omega, List.getElem?_eq_getElem (by omega)] at this
    simpa using this
  · intro hz x hx
    obtain ⟨k, hk, rfl⟩ := List.mem_map.mp hx
    have hk := List.mem_range.mp hk
    have hk2 : k < (L.drop 2).length := by rw [List.length_drop]; exact hk
    have := hz (L.drop 2)[k] (List.getElem_mem hk2)
    rw [List.getElem_drop] at this
    unfold atL
    rw [show (2 + (k : Int)).toNat = 2 + k by omega, List.getElem?_eq_getElem (by omega)]
    simpa using this
theorem ints_lay : ∀ l : List Int, PyData.canLayAll0 (l.map PyData.int) = true
  | [] => rfl
  | x :: l => by simp only [List.map_cons, PyData.canLayAll0, PyData.canLay0, ints_lay l, Bool.and_self]
theorem ints_dep : ∀ l : List Int, PyData.depthAll (l.map PyData.int) = 0
  | [] => rfl
  | x :: l => by simp only [List.map_cons, PyData.depthAll, PyData.depth, ints_dep l, Nat.max_self]
theorem ints_shL (l : List Int) : SeqAt.shaped (.list (l.map PyData.int)) = true := by
  unfold SeqAt.shaped
  rw [show PyData.canLay0 (.list (l.map PyData.int)) = true from ints_lay l, Bool.true_and]
  exact decide_eq_true (Nat.le_trans (show PyData.depth (.list (l.map PyData.int)) ≤ 2 by simp only [PyData.depth, ints_dep]; omega) (by decide))
theorem ints_shT (l : List Int) : SeqAt.shaped (.tuple (l.map PyData.int)) = true := by
  unfold SeqAt.shaped
  rw [show PyData.canLay0 (.tuple (l.map PyData.int)) = true from ints_lay l, Bool.true_and]
  exact decide_eq_true (Nat.le_trans (show PyData.depth (.tuple (l.map PyData.int)) ≤ 2 by simp only [PyData.depth, ints_dep]; omega) (by decide))
theorem eq_nilI (l : List Int) : gEq (.list (l.map .int)) (.list []) = some (.d (.bool l.isEmpty)) := by
  unfold gEq
  rw [ints_shL]
  cases l with
  | nil => rfl
  | cons x l =>
    show some (Res.d (PyData.bool (PyData.eqv (.list ((x :: l).map PyData.int)) (.list [])))) = _
    simp [PyData.eqv, PyData.eqvAll]
theorem lc_lack {s0 s1 s3 s4 s5 s6 : Option OV} (L : List Int) (hl : 2 ≤ L.length) (hL : L.length ≤ 100) : lcGo (.nm 7) (boolOf (bin2 gNe (opOf (layOf (bin2 gIxA (slotP 2) (slotP 7)))) (opOf (cstE (.int 0))))) (slotE 7) [7] (rangeD 2 (L.length - 2)) [s0, s1, some (.ol false (L.map .int)), s3, s4, s5, s6, none] [] = some (((rangeI 2 (L.length - 2)).filter fun x => !(atL L x == 0)).map .int, [s0, s1, some (.ol false (L.map .int)), s3, s4, s5, s6, none]) := by
  rw [range_is]
  refine lc_fil0 (α := Int) (enc := PyData.int) (fun x => 2 ≤ x ∧ x < (L.length : Int)) (fun x => !(atL L x == 0)) PyData.int _ (fun x hx => by have := mem_rangeI hx; omega) (by unfold rangeI; simp; omega) (fun x hx => ⟨_, rfl, ?_⟩)
  obtain ⟨b1, z, b2, b3⟩ := ix_at (L := L) (j := x) (by omega) hx.2
  have hat : atI (L.map PyData.int) x = some (.int (atL L x)) := by
    unfold atI atL
    rw [b1, b2]
    exact b3
  dsimp only [List.set]
  apply Ev1.i
  · and_intros
  · refine ⟨rfl, fun _ => ?_, fun _ => rfl⟩
    apply Ev1.i
    · and_intros
    · exact ⟨rfl, rfl⟩
theorem law_is_through_x {N : Int} {as : List Arc} (h : NetOk N as) (d : D) : m_law_is_through [.v (netD N as), .v d] = some (.d (.bool (isThr N as d))) := by
  have hl := h.len
  have hlo := h.lo
  have hhi := h.hi
  by_cases ht : isiB "tuple" d = true
  · obtain ⟨ds, rfl⟩ : ∃ ds, d = .tuple ds := by
      cases d with
      | tuple ds => exact ⟨ds, rfl⟩
      | bool b => cases b <;> exact absurd ht (by decide)
      | none => exact absurd ht (by decide)
      | int i => exact absurd ht (by simp [isiB, dTy])
      | str x => exact absurd ht (by simp [isiB, dTy])
      | list x => exact absurd ht (by simp [isiB, dTy])
      | dict x => exact absurd ht (by simp [isiB, dTy])
    by_cases hn : ds.length = as.length
    · have hR : isThr N as (.tuple ds) = verdict (go2 (List.replicate N.toNat 0) (as.zip ds)) := by
        rw [go2_is as ds _ hn]
        show (decide (ds.length = as.length) && _) = _
        rw [decide_eq_true hn, Bool.true_and]
      rw [hR]
      apply runT_i
      all_goals and_intros
      all_goals (first | (exfalso; simp_all; done) | skip)
      rw [zipY]
      have h0 : List.replicate N.toNat (PyData.int 0) = (List.replicate N.toNat (0 : Int)).map .int := by rw [List.map_replicate]
      rw [h0]
      refine thr_loop2 h (fun p hp => (List.of_mem_zip hp).1) (by rw [List.length_replicate]; omega) (fun L' s3 s4 s5 s6 hg hL' => ?_) (fun e hg => ?_)
      · rw [hg]
        have hlc := lc_lack (s0 := some (.fz (netD N as))) (s1 := some (.fz (.tuple ds))) (s3 := s3) (s4 := s4) (s5 := s5) (s6 := s6) L' (by omega) (by omega)
        have hN : (N - 2).toNat = L'.length - 2 := by omega
        rw [← hN] at hlc
        have he := eq_nilI ((rangeI 2 ((N - 2).toNat)).filter fun x => !(atL L' x == 0))
        rw [hN, zeros_is (by omega)] at he
        rw [hN] at hlc
        refine SeqQ.nx ?_
        rw [← hN] at hlc he
        and_intros
        all_goals rfl
      · rw [hg]; exact SeqQ.rt rfl
    · have hR : isThr N as (.tuple ds) = false := by
        show (decide (ds.length = as.length) && _) = false
        rw [decide_eq_false hn, Bool.false_and]
      rw [hR]
      apply runT_i
      all_goals and_intros
      all_goals first
        | rfl
        | (exfalso; rename_i hb _; rw [List.length_map] at hb; omega)
        | (exfalso; rename_i hb; rw [List.length_map] at hb; omega)
        | (exfalso; simp_all; done)
  · have hR : isThr N as d = false := by
      cases d with
      | tuple ds => exact absurd rfl ht
      | _ => rfl
    rw [hR]
    apply runT_i
    all_goals and_intros
    all_goals first
      | rfl
      | (exfalso; simp_all; done)
end Law

namespace Law
open PySem L2 NS
theorem take_l {f : Nat} {ds : List D} {many : Int} (h : BagD (f + 1) ds) (hm : 0 < many) (hb : many.natAbs < BIGN) : ∃ v ds', m_law_take (.ol false ds) [.v (.int many)] = some (.d (.int v), .ol false ds') ∧ BagD f ds' ∧ 0 ≤ v ∧ v < many := take_x h hm hb
theorem some_l {f : Nat} {bs ds : List D} (h : BagD (f + 1) bs) (hl : 0 < ds.length) (hb : ds.length ≤ 1000000) : ∃ d bs', m_law_some (.ol false bs) [.v (.list ds)] = some (.d d, .ol false bs') ∧ BagD f bs' ∧ d ∈ ds := some_x h hl hb
/-! ### what goes into the sink -/
abbrev sgn (a : Arc) : Int := (if (a.2.1 == 1) = true then 1 else 0) - (if (a.1 == 1) = true then 1 else 0)
def term (p : Arc × Int) : Int := p.2 * sgn p.1
def valN (as : List Arc) (is : List Int) : Int := ((as.zip is).map term).sum
theorem sgn_le (a : Arc) : (sgn a).natAbs ≤ 1 := by
  unfold sgn
  split <;> split <;> decide
def Small (is : List Int) : Prop := ∀ i ∈ is, i.natAbs < 10 ^ 60
theorem small_big {i : Int} (h : i.natAbs < 10 ^ 60) : i.natAbs < BIGN := big_of (Nat.lt_trans h (by decide))
theorem value_of_x {N : Int} {as : List Arc} {is : List Int} (hs : Small is) : m_value_of [.v (netD N as), .v (.tuple (is.map .int))] = some (.d (.int (valN as is))) := by
  apply runT_i
  all_goals and_intros
  rw [zip_is]
  refine for_map (fun (xs : List (Arc × Int)) e => ∃ (c : Int) (s3 s4 s5 s6 : Option OV), e = [some (.fz (netD N as)), some (.fz (.tuple (is.map .int))), some (.fz (.int c)), s3, s4, s5, s6] ∧ c + (xs.map term).sum = valN as is ∧ ∀ p ∈ xs, p.2 ∈ is) ?_ ?_ (as.zip is) ⟨0, none, none, none, none, rfl, by rw [Int.zero_add]; rfl, fun p hp => (List.of_mem_zip hp).2⟩
  · rintro ⟨⟨s, e, c⟩, i⟩ xs env ⟨f, s3, s4, s5, s6, rfl, hf, hm⟩
    have hi := small_big (hs i (hm _ List.mem_cons_self))
    have hg : (sgn (s, e, c)).natAbs < BIGN := big_of (Nat.lt_of_le_of_lt (sgn_le _) (by decide))
    refine ⟨_, rfl, ?_⟩
    dsimp only [List.set]
    and_intros
    exact ⟨_, _, _, _, _, rfl, by rw [← hf, List.map_cons, List.sum_cons]; show f + i * sgn (s, e, c) + _ = f + (i * sgn (s, e, c) + _); omega, fun p hp => hm p (List.mem_cons_of_mem _ hp)⟩
  · rintro env ⟨f, s3, s4, s5, s6, rfl, hf, _⟩
    rw [List.map_nil, List.sum_nil, Int.add_zero] at hf
    subst hf
    refine SeqQ.nx ?_
    and_intros
    rfl
theorem law_value_x {N : Int} {as : List Arc} {is : List Int} (hs : Small is) (hl : as.length ≤ 100) : m_law_value [.v (netD N as), .v (.tuple (is.map .int))] = some (.d (.int (valN as is))) := by
  have hlc : ∀ (s0 s1 : Option OV), lcGo (.tp [(.nm 2), (.nm 3)]) yesT (layOf (bin2 gMul (slotP 3) (opOf (layOf (bin2 gSub2 (opOf (layOf (callN gInt (consA (opOf (layOf (bin2 gEq (opOf (layOf (bin2 gIxA (slotP 2) (opOf (cstE (.int 1)))))) (opOf (cstE (.int 1)))))) nilA)))) (opOf (layOf (callN gInt (consA (opOf (layOf (bin2 gEq (opOf (layOf (bin2 gIxA (slotP 2) (opOf (cstE (.int 0)))))) (opOf (cstE (.int 1)))))) nilA))))))))) [2, 3] (zipD (as.map encA) (is.map .int)) [s0, s1, none, none] [] = some (((as.zip is).map term).map .int, [s0, s1, none, none]) := fun s0 s1 => by
    rw [zip_is]
    refine lc_mapI (fun p => p.2 ∈ is) term (as.zip is) (fun p hp => (List.of_mem_zip hp).2) (by rw [List.length_zip]; omega) (fun p hp => ⟨_, rfl, ?_⟩)
    obtain ⟨⟨s, e, c⟩, i⟩ := p
    have hi := small_big (hs i hp)
    have hg : (sgn (s, e, c)).natAbs < BIGN := big_of (Nat.lt_of_le_of_lt (sgn_le _) (by decide))
    dsimp only [List.set]
    apply Ev1.i
    · and_intros
    · exact ⟨rfl, rfl⟩
  have h1 := hlc (some (.fz (netD N as))) (some (.fz (.tuple (is.map .int))))
  apply runT_i
  all_goals and_intros
  all_goals rfl
end Law

namespace Law
open PySem L2 NS
/-! ### what may still be led -/
abbrev RRow := Int × Int × Int × Int × Bool
abbrev encRow (r : RRow) : D := .tuple [.int r.1, .int r.2.1, .int r.2.2.1, .int r.2.2.2.1, .bool r.2.2.2.2]
abbrev big30 : Int := 10 ^ (30 : Int).toNat
/-- an arc with its place and what goes through it -/
abbrev ZRow := Int × Arc × Int
abbrev encE (z : ZRow) : D := .tuple [.int z.1, encA z.2.1]
def zAll : Int → List (Arc × Int) → List ZRow
  | _, [] => []
  | k, p :: r => (k, p.1, p.2) :: zAll (k + 1) r
def capOf (c : Option Int) (t : Int) : Int := match c with
  | none => big30
  | some c => c - t
def fwd (z : ZRow) : List RRow := if decide (0 < capOf z.2.1.2.2 z.2.2) = true then [(z.2.1.1, z.2.1.2.1, capOf z.2.1.2.2 z.2.2, z.1, true)] else []
def bwd (z : ZRow) : List RRow := if decide (0 < z.2.2) = true then [(z.2.1.2.1, z.2.1.1, z.2.2, z.1, false)] else []
def rowsZ (z : ZRow) : List RRow := fwd z ++ bwd z
def rooms (as : List Arc) (is : List Int) : List RRow := (zAll 0 (as.zip is)).flatMap rowsZ
theorem zAll_at : ∀ {l : List (Arc × Int)} {k : Int} {z : ZRow}, z ∈ zAll k l → ∃ j : Nat, z.1 = k + j ∧ l[j]? = some z.2
  | [], _, _, h => nomatch h
  | p :: r, k, z, h => by
    rcases List.mem_cons.mp h with e | h
    · subst e; exact ⟨0, by simp, rfl⟩
    · obtain ⟨j, h1, h2⟩ := zAll_at h
      exact ⟨j + 1, by rw [h1]; push_cast; omega, by simpa using h2⟩
theorem zAll_len : ∀ (l : List (Arc × Int)) (k : Int), (zAll k l).length = l.length
  | [], _ => rfl
  | p :: r, k => by show (zAll (k + 1) r).length + 1 = _; rw [zAll_len r]; rfl
theorem enum_z : ∀ (as : List Arc) (is : List Int) (k : Nat), as.length = is.length → (as.mapIdx fun i a => PyData.tuple [.int ((k + i : Nat) : Int), encA a]) = (zAll (k : Int) (as.zip is)).map encE
  | [], [], _, _ => rfl
  | [], _ :: _, _, h => by cases h
  | _ :: _, [], _, h => by cases h
  | a :: as, i :: is, k, h => by
    rw [List.mapIdx_cons]
    have := enum_z as is (k + 1) (by simpa using h)
    show _ = encE ((k : Int), a, i) :: (zAll ((k : Int) + 1) (as.zip is)).map encE
    rw [show ((k : Int) + 1) = ((k + 1 : Nat) : Int) by push_cast; rfl, ← this]
    congr 1
    apply List.ext_getElem (by simp)
    intro n h1 h2
    simp only [List.getElem_mapIdx]
    congr 3
    omega
theorem enum_as {as : List Arc} {is : List Int} (h : as.length = is.length) : enumD (as.map encA) = (zAll 0 (as.zip is)).map encE := by
  rw [← show ((0 : Nat) : Int) = 0 from rfl, ← enum_z as is 0 h]
  unfold enumD
  apply List.ext_getElem (by simp)
  intro n h1 h2
  simp only [List.getElem_mapIdx, List.getElem_map, Nat.zero_add]
theorem ix_int {L : List Int} {k : Nat} {t : Int} (h : L[k]? = some t) : atI (L.map PyData.int) (k : Int) = some (.int t) := atI_nat (by rw [List.getElem?_map, h]; rfl)
theorem room_x {N : Int} {as : List Arc} {is : List Int} (hl : as.length = is.length) (h30 : as.length ≤ 30) : m_law_room [.v (netD N as), .v (.tuple (is.map .int))] = some (.l ((rooms as is).map encRow)) := by
  apply runT_i
  all_goals and_intros
  rw [enum_as hl]
  refine for_map (fun (xs : List ZRow) e => ∃ (G : List RRow) (s3 s4 s5 s6 s7 : Option OV), e = [some (.fz (netD N as)), some (.fz (.tuple (is.map .int))), some (.ol false (G.map encRow)), s3, s4, s5, s6, s7] ∧ G ++ xs.flatMap rowsZ = rooms as is ∧ (∀ z ∈ xs, ∃ j : Nat, z.1 = j ∧ is[j]? = some z.2.2) ∧ G.length + 2 * xs.length ≤ 100) ?_ ?_ (zAll 0 (as.zip is)) ⟨[], none, none, none, none, none, rfl, rfl, fun z hz => ?_, ?_⟩
  · rintro ⟨at_, ⟨s, e, c⟩, t⟩ xs env ⟨G, s3, s4, s5, s6, s7, rfl, hG, hm, hlen⟩
    obtain ⟨j, hj, ht⟩ := hm _ List.mem_cons_self
    dsimp only at hj ht
    subst hj
    have hix := ix_int ht
    have hrest : ∀ z ∈ xs, ∃ j : Nat, z.1 = j ∧ is[j]? = some z.2.2 := fun z hz => hm z (List.mem_cons_of_mem _ hz)
    rw [List.flatMap_cons, ← List.append_assoc] at hG
    rw [List.length_cons] at hlen
    have fin : ∀ R : List RRow, rowsZ ((j : Int), (s, e, c), t) = R → ∀ s3 s4 s5 s6 s7 (g : List D), g = (G ++ R).map encRow → R.length ≤ 2 → ∃ (G : List RRow) (s3' s4' s5' s6' s7' : Option OV), [some (OV.fz (netD N as)), some (.fz (.tuple (is.map .int))), some (.ol false g), s3, s4, s5, s6, s7] = [some (.fz (netD N as)), some (.fz (.tuple (is.map .int))), some (.ol false (G.map encRow)), s3', s4', s5', s6', s7'] ∧ G ++ xs.flatMap rowsZ = rooms as is ∧ (∀ z ∈ xs, ∃ j : Nat, z.1 = j ∧ is[j]? = some z.2.2) ∧ G.length + 2 * xs.length ≤ 100 := fun R hR s3 s4 s5 s6 s7 g hg h2 =>
      ⟨G ++ R, s3, s4, s5, s6, s7, by rw [hg], by rw [← hR]; exact hG, hrest, by rw [List.length_append]; omega⟩
    have hn1 : isNone PyData.none = true := rfl
    have hn2 : ∀ c, isNone (PyData.int c) = false := fun _ => rfl
    refine ⟨_, rfl, ?_⟩
    cases c with
    | none =>
      have hp : decide ((0 : Int) < 10 ^ (30 : Int).toNat) = true := by decide
      dsimp only [List.set, optD]
      cases hb : decide ((0 : Int) < t) with
      | true =>
        have hR : rowsZ ((j : Int), (s, e, none), t) = [(s, e, big30, (j : Int), true), (e, s, t, (j : Int), false)] := by
          unfold rowsZ fwd bwd capOf; dsimp only; rw [if_pos hp, if_pos hb]; rfl
        and_intros
        exact fin _ hR _ _ _ _ _ _ (by rw [List.map_append]; first | rfl | (rw [List.append_assoc]; rfl) | (rw [List.append_nil]; rfl) | (rw [List.append_nil, List.append_nil]; rfl)) (by simp)
      | false =>
        have hR : rowsZ ((j : Int), (s, e, none), t) = [(s, e, big30, (j : Int), true)] := by
          unfold rowsZ fwd bwd capOf; dsimp only; rw [if_pos hp, if_neg (by rw [hb]; decide)]; rfl
        and_intros
        exact fin _ hR _ _ _ _ _ _ (by rw [List.map_append]; first | rfl | (rw [List.append_assoc]; rfl) | (rw [List.append_nil]; rfl) | (rw [List.append_nil, List.append_nil]; rfl)) (by simp)
    | some c =>
      have hn3 := hn2 c
      dsimp only [List.set, optD]
      cases hp : decide ((0 : Int) < c - t) with
      | true =>
        cases hb : decide ((0 : Int) < t) with
        | true =>
          have hR : rowsZ ((j : Int), (s, e, some c), t) = [(s, e, c - t, (j : Int), true), (e, s, t, (j : Int), false)] := by
            unfold rowsZ fwd bwd capOf; dsimp only; rw [if_pos hp, if_pos hb]; rfl
          and_intros
          exact fin _ hR _ _ _ _ _ _ (by rw [List.map_append]; first | rfl | (rw [List.append_assoc]; rfl) | (rw [List.append_nil]; rfl) | (rw [List.append_nil, List.append_nil]; rfl)) (by simp)
        | false =>
          have hR : rowsZ ((j : Int), (s, e, some c), t) = [(s, e, c - t, (j : Int), true)] := by
            unfold rowsZ fwd bwd capOf; dsimp only; rw [if_pos hp, if_neg (by rw [hb]; decide)]; rfl
          and_intros
          exact fin _ hR _ _ _ _ _ _ (by rw [List.map_append]; first | rfl | (rw [List.append_assoc]; rfl) | (rw [List.append_nil]; rfl) | (rw [List.append_nil, List.append_nil]; rfl)) (by simp)
      | false =>
        cases hb : decide ((0 : Int) < t) with
        | true =>
          have hR : rowsZ ((j : Int), (s, e, some c), t) = [(e, s, t, (j : Int), false)] := by
            unfold rowsZ fwd bwd capOf; dsimp only; rw [if_neg (by rw [hp]; decide), if_pos hb]; rfl
          and_intros
          exact fin _ hR _ _ _ _ _ _ (by rw [List.map_append]; first | rfl | (rw [List.append_assoc]; rfl) | (rw [List.append_nil]; rfl) | (rw [List.append_nil, List.append_nil]; rfl)) (by simp)
        | false =>
          have hR : rowsZ ((j : Int), (s, e, some c), t) = [] := by
            unfold rowsZ fwd bwd capOf; dsimp only; rw [if_neg (by rw [hp]; decide), if_neg (by rw [hb]; decide)]; rfl
          and_intros
          exact fin _ hR _ _ _ _ _ _ (by rw [List.map_append]; first | rfl | (rw [List.append_assoc]; rfl) | (rw [List.append_nil]; rfl) | (rw [List.append_nil, List.append_nil]; rfl)) (by simp)
  · rintro env ⟨G, s3, s4, s5, s6, s7, rfl, hG, _, _⟩
    rw [List.flatMap_nil, List.append_nil] at hG
    subst hG
    refine SeqQ.nx ?_
    and_intros
    rfl
  · obtain ⟨j, h1, h2⟩ := zAll_at hz
    refine ⟨j, by rw [h1]; simp, ?_⟩
    rw [List.getElem?_zip_eq_some] at h2
    exact h2.2
  · rw [zAll_len, List.length_zip, List.length_nil]; omega
end Law

namespace Law
open PySem L2 NS NT
abbrev Came := List (Int × Option RRow)
def getC (C : Came) (k : Int) : Option (Option RRow) := (C.find? fun p => p.1 == k).map (·.2)
def stepR (cur : Int) (S : Came × List Int) (r : RRow) : Came × List Int := if (r.1 == cur && !(getC S.1 r.2.1).isSome) = true then (S.1 ++ [(r.2.1, some r)], S.2 ++ [r.2.1]) else S
def stepA (rows : List RRow) (S : Came × List Int) (k : Nat) : Came × List Int := match S.2[k]? with
  | some cur => rows.foldl (stepR cur) S
  | none => S
def bfs (rows : List RRow) (n : Nat) : Came × List Int := (List.range n).foldl (stepA rows) ([(0, none)], [0])
def stepB (C : Came) (T : List RRow × Int) : List RRow × Int := match getC C T.2 with
  | some (some r) => (T.1 ++ [r], r.1)
  | _ => T
def backs (C : Came) : Nat → List RRow × Int → List RRow × Int
  | 0, T => T
  | n + 1, T => backs C n (stepB C T)
def wayN (n : Nat) (rows : List RRow) : Option (List RRow) := let C := (bfs rows n).1
  if (getC C 1).isSome = true then some (backs C n ([], 1)).1 else none
def optR : Option RRow → D
  | none => .none
  | some r => encRow r
def encC (C : Came) : List (NK × D) := C.map fun p => (NestedKey.num p.1, optR p.2)
theorem at_enc (C : Came) (k : Int) : atN (encC C) (.num k) = (getC C k).map optR := by
  unfold atN encC getC
  induction C with
  | nil => rfl
  | cons p C ih =>
    rw [List.map_cons, List.find?_cons, List.find?_cons]
    by_cases h : p.1 = k
    · have h1 : decide ((NestedKey.num p.1 : NK) = .num k) = true := decide_eq_true (by rw [h])
      have h2 : (p.1 == k) = true := beq_iff_eq.mpr h
      rw [h1, h2]; rfl
    · have h1 : decide ((NestedKey.num p.1 : NK) = .num k) = false := decide_eq_false fun z => h (by injection z)
      have h2 : (p.1 == k) = false := beq_eq_false_iff_ne.mpr h
      rw [h1, h2]
      exact ih
theorem put_enc {C : Came} {k : Int} {r : RRow} (h : (getC C k).isSome = false) : putN (encC C) (.num k) (encRow r) = encC (C ++ [(k, some r)]) := by
  have hn : ((encC C).any fun p => decide (p.1 = (NestedKey.num k : NK))) = false := by
    unfold encC getC at *
    rw [List.any_map, List.any_eq_false]
    intro p hp
    simp only [Function.comp]
    intro z
    have z := of_decide_eq_true z
    have z : p.1 = k := by injection z
    rw [Option.isSome_map] at h
    have h2 : (C.find? fun p => p.1 == k).isSome = true := List.find?_isSome.mpr ⟨p, hp, by simp [z]⟩
    rw [h] at h2; cases h2
  unfold putN
  rw [hn, if_neg (by decide)]
  unfold encC
  rw [List.map_append]; rfl
theorem stepR_grow (cur : Int) (S : Came × List Int) (r : RRow) : ∃ t u, (stepR cur S r).1 = S.1 ++ u ∧ (stepR cur S r).2 = S.2 ++ t ∧ t.length ≤ 1 ∧ u.length ≤ 1 := by
  unfold stepR
  split
  · exact ⟨_, _, rfl, rfl, Nat.le_refl 1, Nat.le_refl 1⟩
  · exact ⟨[], [], by simp, by simp, Nat.zero_le 1, Nat.zero_le 1⟩
abbrev bRow : Es := (ifS (andT (boolOf (bin2 gEq (opOf (layOf (bin2 gIxA (slotP 6) (opOf (cstE (.int 0)))))) (opOf (layOf (bin2 gIxA (slotP 4) (slotP 5)))))) (boolOf (bin2 gNotInA (opOf (layOf (bin2 gIxA (slotP 6) (opOf (cstE (.int 1)))))) (slotP 2)))) (seqS (setAS 2 (layOf (bin2 gIxA (slotP 6) (opOf (cstE (.int 1))))) (slotE 6))
    (appS 4 (layOf (bin2 gIxA (slotP 6) (opOf (cstE (.int 1))))))) nilS)
theorem row_loop {Q : Fl → NS.Env → Prop} {s0 s1 s3 s6 s7 s8 s9 : Option OV} {k : Nat} {cur : Int} (rows : List RRow) (S : Came × List Int) (hc : S.2[k]? = some cur) (h1 : S.1.length + rows.length ≤ 10000) (h2 : S.2.length + rows.length ≤ 10000)
    (q : ∀ s6, Q .nx [s0, s1, some (.od false (encC (rows.foldl (stepR cur) S).1)), s3, some (.ol false ((rows.foldl (stepR cur) S).2.map .int)), some (.fz (.int (k : Int))), s6, s7, s8, s9]) :
    Ends (forGo (.nm 6) bRow (rows.map encRow) [s0, s1, some (.od false (encC S.1)), s3, some (.ol false (S.2.map .int)), some (.fz (.int (k : Int))), s6, s7, s8, s9]) Q := by
  refine for_map (fun (xs : List RRow) e => ∃ (T : Came × List Int) (s6 : Option OV), e = [s0, s1, some (.od false (encC T.1)), s3, some (.ol false (T.2.map .int)), some (.fz (.int (k : Int))), s6, s7, s8, s9] ∧ xs.foldl (stepR cur) T = rows.foldl (stepR cur) S ∧ T.2[k]? = some cur ∧ T.1.length + xs.length ≤ 10000 ∧ T.2.length + xs.length ≤ 10000) ?_ ?_ rows ⟨S, s6, rfl, rfl, hc, h1, h2⟩
  · rintro ⟨s, e, m, at_, b⟩ xs env ⟨T, s6, rfl, hT, hc, l1, l2⟩
    have hat : atI (T.2.map PyData.int) (k : Int) = some (.int cur) := ix_int hc
    obtain ⟨t, u, g1, g2, g3, g4⟩ := stepR_grow cur T (s, e, m, at_, b)
    rw [List.foldl_cons] at hT
    rw [List.length_cons] at l1 l2
    have hle : (encC T.1).length = T.1.length := by unfold encC; rw [List.length_map]
    have hin : (atN (encC T.1) (.num e)).isSome = (getC T.1 e).isSome := by rw [at_enc, Option.isSome_map]
    refine ⟨_, rfl, ?_⟩
    dsimp only [List.set, encRow]
    cases he : (s == cur) with
    | false =>
      have hst : stepR cur T (s, e, m, at_, b) = T := by
        unfold stepR
        rw [if_neg (by show ¬ ((s == cur && !(getC T.1 e).isSome) = true); rw [he, Bool.false_and]; decide)]
      rw [hst] at hT
      and_intros
      all_goals (first | exact ⟨T, _, rfl, hT, hc, by omega, by omega⟩ | (exfalso; simp_all; done))
    | true =>
      cases hi : (getC T.1 e).isSome with
      | true =>
        have hst : stepR cur T (s, e, m, at_, b) = T := by
          unfold stepR
          rw [if_neg (by show ¬ ((s == cur && !(getC T.1 e).isSome) = true); rw [hi, Bool.not_true, Bool.and_false]; decide)]
        rw [hst] at hT
        rw [hi] at hin
        and_intros
        all_goals (first | exact ⟨T, _, rfl, hT, hc, by omega, by omega⟩ | (exfalso; simp_all; done))
      | false =>
        have hst : stepR cur T (s, e, m, at_, b) = (T.1 ++ [(e, some (s, e, m, at_, b))], T.2 ++ [e]) := by
          unfold stepR
          rw [if_pos (by show (s == cur && !(getC T.1 e).isSome) = true; rw [he, hi]; rfl)]
        rw [hst] at hT
        rw [hi] at hin
        have hp := put_enc (r := (s, e, m, at_, b)) hi
        have hl1 : (encC T.1).length < 1000000 := by omega
        have hl2 : (T.2.map PyData.int).length < 1000000 := by rw [List.length_map]; omega
        and_intros
        all_goals (first | (exact ⟨(T.1 ++ [(e, some (s, e, m, at_, b))], T.2 ++ [e]), _, by rw [← hp, List.map_append]; rfl, hT, by rw [List.getElem?_append_left]; exact hc; exact (List.getElem?_eq_some_iff.mp hc).1, by rw [List.length_append, List.length_singleton]; omega, by rw [List.length_append, List.length_singleton]; omega⟩) | (exfalso; simp_all; done) | skip)
  · rintro env ⟨T, s6, rfl, hT, hc, l1, l2⟩
    rw [List.foldl_nil] at hT
    subst hT
    exact q s6
end Law

namespace Law
open PySem L2 NS NT
theorem range0 (n : Nat) : rangeD 0 n = (List.range n).map fun k => PyData.int ((k : Nat) : Int) := by
  unfold rangeD
  apply List.map_congr_left
  intro k _
  rw [Int.zero_add]
theorem getC_app {C : Came} {k j : Int} {o : Option RRow} (h : (getC C k).isSome = true) : getC (C ++ [(j, o)]) k = getC C k := by
  unfold getC at *
  rw [Option.isSome_map] at h
  rw [List.find?_append]
  obtain ⟨p, hp⟩ := Option.isSome_iff_exists.mp h
  rw [hp]; rfl
theorem getC_new {C : Came} {k : Int} {o : Option RRow} (h : (getC C k).isSome = false) : getC (C ++ [(k, o)]) k = some o := by
  unfold getC at *
  rw [Option.isSome_map] at h
  rw [List.find?_append]
  cases e : C.find? fun p => p.1 == k with
  | some p => rw [e] at h; cases h
  | none => simp
theorem getC_mem {C : Came} {k : Int} {o : Option RRow} (h : getC C k = some o) : (k, o) ∈ C := by
  unfold getC at h
  obtain ⟨p, h1, h2⟩ := Option.map_eq_some_iff.mp h
  have h3 := List.find?_some h1
  have h4 := List.mem_of_find?_eq_some h1
  have h3 : p.1 = k := by simpa using h3
  subst h2 h3
  exact h4
/-- what has come so far stands well -/
structure CameOk (rows : List RRow) (S : Came × List Int) : Prop where
  line : ∀ x ∈ S.2, (getC S.1 x).isSome = true
  row : ∀ (k : Int) (r : RRow), (k, some r) ∈ S.1 → r ∈ rows ∧ r.2.1 = k ∧ (getC S.1 r.1).isSome = true
  zero : getC S.1 0 = some none
theorem CameOk.step {rows : List RRow} {S : Came × List Int} {cur : Int} {r : RRow} (h : CameOk rows S) (hr : r ∈ rows) (hc : cur ∈ S.2) : CameOk rows (stepR cur S r) := by
  unfold stepR
  split
  · rename_i z
    rw [Bool.and_eq_true, Bool.not_eq_true'] at z
    obtain ⟨z1, z2⟩ := z
    have z1 : r.1 = cur := by simpa using z1
    have keep : ∀ x, (getC S.1 x).isSome = true → (getC (S.1 ++ [(r.2.1, some r)]) x).isSome = true := fun x hx => by rw [getC_app hx]; exact hx
    refine ⟨fun x hx => ?_, fun k q hq => ?_, ?_⟩
    · rcases List.mem_append.mp hx with hx | hx
      · exact keep x (h.line x hx)
      · rw [List.mem_singleton.mp hx, getC_new z2]; rfl
    · rcases List.mem_append.mp hq with hq | hq
      · obtain ⟨a, b, c⟩ := h.row k q hq
        exact ⟨a, b, keep _ c⟩
      · have e := List.mem_singleton.mp hq
        injection e with e1 e2
        injection e2 with e2
        subst e1 e2
        exact ⟨hr, rfl, keep _ (by rw [z1]; exact h.line cur hc)⟩
    · show getC (S.1 ++ [(r.2.1, some r)]) 0 = _
      rw [getC_app (by rw [h.zero]; rfl)]; exact h.zero
  · exact h
theorem CameOk.rows {rows : List RRow} {cur : Int} : ∀ {l : List RRow} {S : Came × List Int}, CameOk rows S → (∀ r ∈ l, r ∈ rows) → cur ∈ S.2 → CameOk rows (l.foldl (stepR cur) S)
  | [], _, h, _, _ => h
  | r :: l, S, h, hl, hc => by
    rw [List.foldl_cons]
    refine CameOk.rows (h.step (hl r List.mem_cons_self) hc) (fun q hq => hl q (List.mem_cons_of_mem _ hq)) ?_
    obtain ⟨t, u, _, g2, _⟩ := stepR_grow cur S r
    rw [g2]
    exact List.mem_append_left _ hc
theorem CameOk.stepA {rows : List RRow} {S : Came × List Int} {k : Nat} (h : CameOk rows S) : CameOk rows (stepA rows S k) := by
  unfold Law.stepA
  split
  · rename_i cur hc
    exact h.rows (fun _ h => h) (List.mem_of_getElem? hc)
  · exact h
theorem CameOk.all {rows : List RRow} : ∀ {l : List Nat} {S : Came × List Int}, CameOk rows S → CameOk rows (l.foldl (Law.stepA rows) S)
  | [], _, h => h
  | k :: l, S, h => by rw [List.foldl_cons]; exact CameOk.all h.stepA
theorem bfs_ok (rows : List RRow) (n : Nat) : CameOk rows (bfs rows n) := by
  refine CameOk.all ⟨fun x hx => ?_, fun k r h => ?_, rfl⟩
  · rw [List.mem_singleton.mp hx]; rfl
  · have := List.mem_singleton.mp h
    injection this with _ h2
    cases h2
theorem foldR_len (cur : Int) : ∀ (l : List RRow) (S : Came × List Int), (l.foldl (stepR cur) S).1.length ≤ S.1.length + l.length ∧ (l.foldl (stepR cur) S).2.length ≤ S.2.length + l.length
  | [], S => ⟨Nat.le_refl _, Nat.le_refl _⟩
  | r :: l, S => by
    obtain ⟨t, u, g1, g2, g3, g4⟩ := stepR_grow cur S r
    have := foldR_len cur l (stepR cur S r)
    rw [g1, g2, List.length_append, List.length_append] at this
    rw [List.foldl_cons, List.length_cons]
    omega
theorem stepA_len (rows : List RRow) (S : Came × List Int) (k : Nat) : (stepA rows S k).1.length ≤ S.1.length + rows.length ∧ (stepA rows S k).2.length ≤ S.2.length + rows.length := by
  unfold stepA
  split
  · exact foldR_len _ _ _
  · omega
abbrev bWay1 : Es := (ifS (boolOf (bin2 (gCmp fun i j => decide (i < j)) (slotP 5) (opOf (layOf (callN gLen (consA (slotP 4) nilA)))))) (forS (itSeq (slotE 3)) (.nm 6) bRow) nilS)
theorem way_loop {Q : Fl → NS.Env → Prop} {s0 s1 s3 s5 s6 s7 s8 s9 : Option OV} {rows : List RRow} (hr : rows.length ≤ 60) (n : Nat) (hn : n ≤ 20) (h3 : s3 = some (.ol false (rows.map encRow)) ∨ s3 = some (.fz (.list (rows.map encRow))))
    (q : ∀ s3 s5 s6, Q .nx [s0, s1, some (.od false (encC (bfs rows n).1)), s3, some (.ol false ((bfs rows n).2.map .int)), s5, s6, s7, s8, s9]) :
    Ends (forGo (.nm 5) bWay1 (rangeD 0 n) [s0, s1, some (.od false (encC [(0, none)])), s3, some (.ol false ([0].map .int)), s5, s6, s7, s8, s9]) Q := by
  rw [range0]
  refine for_map (fun (xs : List Nat) e => ∃ (S : Came × List Int) (s3 s5 s6 : Option OV), e = [s0, s1, some (.od false (encC S.1)), s3, some (.ol false (S.2.map .int)), s5, s6, s7, s8, s9] ∧ (s3 = some (.ol false (rows.map encRow)) ∨ s3 = some (.fz (.list (rows.map encRow)))) ∧ xs.foldl (stepA rows) S = bfs rows n ∧ S.1.length + 60 * xs.length ≤ 2000 ∧ S.2.length + 60 * xs.length ≤ 2000) ?_ ?_ (List.range n) ⟨([(0, none)], [0]), s3, s5, s6, rfl, h3, rfl, by rw [List.length_range]; show 1 + _ ≤ _; omega, by rw [List.length_range]; show 1 + _ ≤ _; omega⟩
  · rintro k xs env ⟨S, s3, s5, s6, rfl, h3, hS, l1, l2⟩
    rw [List.foldl_cons] at hS
    rw [List.length_cons] at l1 l2
    obtain ⟨g1, g2⟩ := stepA_len rows S k
    have hlm : (S.2.map PyData.int).length = S.2.length := List.length_map ..
    refine ⟨_, rfl, ?_⟩
    dsimp only [List.set]
    have fin : ∀ (T : Came × List Int), T = stepA rows S k → ∀ s3 s5 s6, (s3 = some (OV.ol false (rows.map encRow)) ∨ s3 = some (.fz (.list (rows.map encRow)))) → ∃ (S : Came × List Int) (s3' s5' s6' : Option OV), [s0, s1, some (OV.od false (encC T.1)), s3, some (.ol false (T.2.map .int)), s5, s6, s7, s8, s9] = [s0, s1, some (.od false (encC S.1)), s3', some (.ol false (S.2.map .int)), s5', s6', s7, s8, s9] ∧ (s3' = some (.ol false (rows.map encRow)) ∨ s3' = some (.fz (.list (rows.map encRow)))) ∧ xs.foldl (stepA rows) S = bfs rows n ∧ S.1.length + 60 * xs.length ≤ 2000 ∧ S.2.length + 60 * xs.length ≤ 2000 := fun T hT s3 s5 s6 h3 => by
      subst hT
      exact ⟨_, s3, s5, s6, rfl, h3, hS, by omega, by omega⟩
    by_cases hk : k < S.2.length
    · have hc : S.2[k]? = some S.2[k] := List.getElem?_eq_getElem hk
      have hst : stepA rows S k = rows.foldl (stepR S.2[k]) S := by unfold stepA; rw [hc]
      rcases h3 with rfl | rfl
      · and_intros
        exact row_loop rows S hc (by omega) (by omega) fun s6 => fin _ hst.symm _ _ _ (.inr rfl)
      · and_intros
        exact row_loop rows S hc (by omega) (by omega) fun s6 => fin _ hst.symm _ _ _ (.inr rfl)
    · have hst : stepA rows S k = S := by unfold stepA; rw [List.getElem?_eq_none (by omega)]
      rcases h3 with rfl | rfl
      · and_intros
        exact fin S hst.symm _ _ _ (.inl rfl)
      · and_intros
        exact fin S hst.symm _ _ _ (.inr rfl)
  · rintro env ⟨S, s3, s5, s6, rfl, h3, hS, l1, l2⟩
    rw [List.foldl_nil] at hS
    subst hS
    exact q s3 s5 s6
theorem backs_loop {Q : Fl → NS.Env → Prop} {s0 s1 s3 s4 s5 s6 s9 : Option OV} {rows : List RRow} {C : Came} {L : List Int} (hC : CameOk rows (C, L)) (h1 : (getC C 1).isSome = true) (n : Nat) (hn : n ≤ 20)
    (q : ∀ s9, Q .nx [s0, s1, some (.od false (encC C)), s3, s4, s5, s6, some (.ol false ((backs C n ([], 1)).1.map encRow)), some (.fz (.int (backs C n ([], 1)).2)), s9]) :
    Ends (forGo (.nm 9) (ifS (boolOf (bin2 gNotN (opOf (layOf (bin2 gIxA (slotP 2) (slotP 8)))) (opOf (cstE .none)))) (seqS (appS 7 (layOf (bin2 gIxA (slotP 2) (slotP 8))))
    (asgS 8 (bin2 gIxA (opOf (layOf (bin2 gIxA (slotP 2) (slotP 8)))) (opOf (cstE (.int 0)))))) nilS) (rangeD 0 n) [s0, s1, some (.od false (encC C)), s3, s4, s5, s6, some (.ol false []), some (.fz (.int 1)), s9]) Q := by
  rw [range0]
  refine for_map (fun (xs : List Nat) e => ∃ (T : List RRow × Int) (s9 : Option OV), e = [s0, s1, some (.od false (encC C)), s3, s4, s5, s6, some (.ol false (T.1.map encRow)), some (.fz (.int T.2)), s9] ∧ backs C xs.length T = backs C n ([], 1) ∧ (getC C T.2).isSome = true ∧ T.1.length + xs.length ≤ 20) ?_ ?_ (List.range n) ⟨([], 1), s9, rfl, by rw [List.length_range], h1, by rw [List.length_range]; show 0 + n ≤ 20; omega⟩
  · rintro k xs env ⟨⟨F, nd⟩, s9, rfl, hT, hg, hl⟩
    rw [List.length_cons] at hT hl
    dsimp only at hg hl ⊢
    obtain ⟨o, ho⟩ := Option.isSome_iff_exists.mp hg
    have hat : atN (encC C) (.num nd) = some (optR o) := by rw [at_enc, ho]; rfl
    have hT : backs C xs.length (stepB C (F, nd)) = backs C n ([], 1) := hT
    have hFl : (F.map encRow).length < 1000000 := by rw [List.length_map]; omega
    refine ⟨_, rfl, ?_⟩
    dsimp only [List.set]
    cases o with
    | none =>
      have hst : stepB C (F, nd) = (F, nd) := by unfold stepB; dsimp only; rw [ho]
      rw [hst] at hT
      dsimp only [optR] at hat
      and_intros
      all_goals (first | exact ⟨(F, nd), _, rfl, hT, hg, by show F.length + xs.length ≤ 20; omega⟩ | (exfalso; simp_all [isNone]; done))
    | some r =>
      have hst : stepB C (F, nd) = (F ++ [r], r.1) := by unfold stepB; dsimp only; rw [ho]
      rw [hst] at hT
      dsimp only [optR, encRow] at hat
      have hg2 := (hC.row nd r (getC_mem ho)).2.2
      and_intros
      all_goals (first | exact ⟨(F ++ [r], r.1), _, by rw [List.map_append]; rfl, hT, hg2, by show (F ++ [r]).length + xs.length ≤ 20; rw [List.length_append, List.length_singleton]; omega⟩ | (exfalso; simp_all [isNone]; done))
  · rintro env ⟨⟨F, nd⟩, s9, rfl, hT, hg, hl⟩
    have hT : (F, nd) = backs C n ([], 1) := hT
    have := q s9
    rw [← hT] at this
    exact this
def wayR : Option (List RRow) → Res
  | none => .d .none
  | some rs => .l (rs.map encRow)
theorem rooms_len (as : List Arc) (is : List Int) (h30 : as.length ≤ 30) : (rooms as is).length ≤ 60 := by
  have h : ∀ l : List ZRow, (l.flatMap rowsZ).length ≤ 2 * l.length := fun l => by
    induction l with
    | nil => exact Nat.le_refl _
    | cons z l ih =>
      rw [List.flatMap_cons, List.length_append, List.length_cons]
      have : (rowsZ z).length ≤ 2 := by unfold rowsZ fwd bwd; split <;> split <;> simp
      omega
  have := h (zAll 0 (as.zip is))
  rw [zAll_len, List.length_zip] at this
  unfold rooms; omega
theorem way_x {n : Nat} {as : List Arc} {is : List Int} (hn : n ≤ 20) (hl : as.length = is.length) (h30 : as.length ≤ 30) : m_law_way [.v (netD (n : Int) as), .v (.tuple (is.map .int))] = some (wayR (wayN n (rooms as is))) := by
  have hrm := room_x (N := (n : Int)) hl h30
  have hr := rooms_len as is h30
  generalize hrows : rooms as is = rows at hrm hr ⊢
  have hok := bfs_ok rows n
  have hC : CameOk rows ((bfs rows n).1, (bfs rows n).2) := hok
  apply runT_i
  all_goals and_intros
  rw [Int.toNat_natCast]
  refine way_loop hr n hn (.inl rfl) fun s3 s5 s6 => ?_
  have hat : (atN (encC (bfs rows n).1) (.num 1)).isSome = (getC (bfs rows n).1 1).isSome := by rw [at_enc, Option.isSome_map]
  refine SeqQ.nx ?_
  cases h1 : (getC (bfs rows n).1 1).isSome with
  | false =>
    have hw : wayN n rows = none := by unfold wayN; dsimp only; rw [h1]; rfl
    rw [h1] at hat
    rw [hw]
    and_intros
    all_goals (first | rfl | (exfalso; simp_all; done))
  | true =>
    have hw : wayN n rows = some (backs (bfs rows n).1 n ([], 1)).1 := by unfold wayN; dsimp only; rw [h1]; rfl
    rw [h1] at hat
    rw [hw]
    and_intros
    all_goals (first | (exfalso; simp_all; done) | skip)
    rw [Int.toNat_natCast]
    refine backs_loop hC h1 n hn fun s9 => ?_
    refine SeqQ.nx ?_
    and_intros
    rfl
theorem backs_mem {rows : List RRow} {C : Came} {L : List Int} (hC : CameOk rows (C, L)) : ∀ (n : Nat) (T : List RRow × Int), (∀ r ∈ T.1, r ∈ rows) → ∀ r ∈ (backs C n T).1, r ∈ rows
  | 0, _, h => h
  | n + 1, T, h => by
    refine backs_mem hC n _ ?_
    unfold stepB
    split
    · rename_i q hq
      intro r hr
      rcases List.mem_append.mp hr with hr | hr
      · exact h r hr
      · rw [List.mem_singleton.mp hr]; exact (hC.row _ q (getC_mem hq)).1
    · exact h
theorem backs_len (C : Came) : ∀ (n : Nat) (T : List RRow × Int), T.1.length ≤ (backs C n T).1.length ∧ (backs C n T).1.length ≤ T.1.length + n
  | 0, T => ⟨Nat.le_refl _, Nat.le_refl _⟩
  | n + 1, T => by
    have h := backs_len C n (stepB C T)
    have h2 : T.1.length ≤ (stepB C T).1.length ∧ (stepB C T).1.length ≤ T.1.length + 1 := by
      unfold stepB
      split
      · rw [List.length_append, List.length_singleton]; omega
      · omega
    show T.1.length ≤ (backs C n (stepB C T)).1.length ∧ (backs C n (stepB C T)).1.length ≤ T.1.length + (n + 1)
    omega
theorem wayN_ok {n : Nat} {rows rs : List RRow} (h0 : 0 < n) (h : wayN n rows = some rs) : (∀ r ∈ rs, r ∈ rows) ∧ rs ≠ [] ∧ rs.length ≤ n := by
  unfold wayN at h
  dsimp only at h
  split at h
  · rename_i h1
    cases h
    have hC : CameOk rows ((bfs rows n).1, (bfs rows n).2) := bfs_ok rows n
    refine ⟨backs_mem hC n _ (fun r hr => by cases hr), ?_, by have := (backs_len (bfs rows n).1 n ([], 1)).2; simpa using this⟩
    obtain ⟨o, ho⟩ := Option.isSome_iff_exists.mp h1
    cases o with
    | none =>
      -- only the source came from nowhere
      exfalso
      have z : ∀ (l : List Nat) (S : Came × List Int), (∀ k, (k, none) ∈ S.1 → k = (0 : Int)) → ∀ k, (k, none) ∈ (l.foldl (stepA rows) S).1 → k = (0 : Int) := fun l => by
        induction l with
        | nil => intro S h; exact h
        | cons j l ih =>
          intro S h
          refine ih _ ?_
          unfold stepA
          split
          · rename_i cur _
            have z2 : ∀ (q : List RRow) (S : Came × List Int), (∀ k, (k, none) ∈ S.1 → k = (0 : Int)) → ∀ k, (k, none) ∈ (q.foldl (stepR cur) S).1 → k = (0 : Int) := fun q => by
              induction q with
              | nil => intro S h; exact h
              | cons r q ih2 =>
                intro S h
                refine ih2 _ ?_
                unfold stepR
                split
                · intro k hk
                  rcases List.mem_append.mp hk with hk | hk
                  · exact h k hk
                  · have := List.mem_singleton.mp hk
                    injection this with _ e; cases e
                · exact h
            exact z2 rows S h
          · exact h
      have := z (List.range n) ([(0, none)], [0]) (fun k hk => by have := List.mem_singleton.mp hk; injection this) 1 (getC_mem ho)
      exact absurd this (by decide)
    | some r =>
      obtain ⟨m, rfl⟩ : ∃ m, n = m + 1 := ⟨n - 1, by omega⟩
      have h2 := (backs_len (bfs rows (m + 1)).1 m (stepB (bfs rows (m + 1)).1 ([], 1))).1
      have h3 : (stepB (bfs rows (m + 1)).1 ([], 1)) = ([r], r.1) := by unfold stepB; dsimp only; rw [ho]; rfl
      rw [h3] at h2
      intro e
      have e : (backs (bfs rows (m + 1)).1 m (stepB (bfs rows (m + 1)).1 ([], 1))).1 = [] := e
      rw [h3] at e
      rw [e] at h2
      exact absurd h2 (Nat.not_succ_le_zero 0)
  · cases h
end Law

namespace Law
open PySem L2 NS NT
theorem size_x {f : Nat} {b : List D} {most : Int} (h : BagD (f + 3) b) (h0 : 0 ≤ most) (h1 : most ≤ 1000000000000) : ∃ v b', m_law_size (.ol false b) [.v (.int most)] = some (.d (.int v), .ol false b') ∧ BagD f b' ∧ 0 ≤ v ∧ v ≤ most := by
  obtain ⟨v1, b1, t1, k1, p1, q1⟩ := take_l (f := f + 2) (many := min most 6 + 1) h (by omega) (big_of (by omega))
  obtain ⟨v2, b2, t2, k2, p2, q2⟩ := take_l (f := f + 1) (many := most + 1) k1 (by omega) (big_of (by omega))
  obtain ⟨d, b3, t3, k3, m3⟩ := some_l (f := f) (ds := [.int v1, .int v1, .int v1, .int (min most 1), .int v2, .int most]) k2 (by simp) (by simp)
  have hv : ∃ v, d = .int v ∧ 0 ≤ v ∧ v ≤ most := by
    simp only [List.mem_cons, List.not_mem_nil, or_false] at m3
    rcases m3 with rfl | rfl | rfl | rfl | rfl | rfl
    all_goals exact ⟨_, rfl, by omega, by omega⟩
  obtain ⟨v, rfl, p3, q3⟩ := hv
  refine ⟨v, b3, ?_, k3, p3, q3⟩
  apply runU_i
  all_goals and_intros
  exact ⟨_, rfl, rfl, rfl, rfl⟩
abbrev bNetTail : Es := (ifS (boolOf (bin2 gNe (slotP 5) (slotP 6))) (seqS (asgS 7 (ifR (andT (boolOf (bin2 gNe (slotP 5) (opOf (cstE (.int 0))))) (boolOf (bin2 gEq (opOf (layOf (callU 2 m_law_take (consA (slotP 0) (consA (opOf (cstE (.int 5))) nilA))))) (opOf (cstE (.int 0)))))) (resOf (cstE .none)) (callU 2 m_law_size (consA (slotP 0) (consA (slotF 2) nilA)))))
    (appS 3 (layOf (tupR (consA (opOf (slotE 5)) (consA (opOf (slotE 6)) (consA (opOf (slotE 7)) nilA))))))) nilS)
theorem net_tail {Q : Fl → NS.Env → Prop} {f : Nat} {b : List D} {s1 s4 s7 : Option OV} {most s e : Int} {G : List Arc} (hb : BagD (f + 4) b) (h0 : 0 ≤ most) (h1 : most ≤ 1000000000000) (hG : G.length < 1000)
    (q : ∀ (b' : List D) (G' : List Arc) (s7 : Option OV), BagD f b' → (G' = G ∨ ∃ c : Option Int, G' = G ++ [(s, e, c)] ∧ s ≠ e ∧ (∀ x, c = some x → 0 ≤ x ∧ x ≤ 1000000000000) ∧ (s = 0 → c ≠ none)) → Q .nx [some (.ol true b'), s1, some (.fz (.int most)), some (.ol false (G'.map encA)), s4, some (.fz (.int s)), some (.fz (.int e)), s7]) :
    Ends (bNetTail [some (.ol true b), s1, some (.fz (.int most)), some (.ol false (G.map encA)), s4, some (.fz (.int s)), some (.fz (.int e)), s7]) Q := by
  have hGl : (G.map encA).length < 1000000 := by rw [List.length_map]; omega
  have hm : ∀ c, (G ++ [(s, e, c)]).map encA = G.map encA ++ [.tuple [.int s, .int e, optD c]] := fun c => by rw [List.map_append]; rfl
  by_cases hse : s = e
  · have hne : (!(s == e)) = false := by rw [hse]; simp
    and_intros
    all_goals (first | exact q b G _ (hb.down (by omega)) (.inl rfl) | (exfalso; simp_all; done))
  · by_cases hs : s = 0
    · obtain ⟨v, b1, t1, k1, p1, q1⟩ := size_x (f := f) (most := most) (hb.down (by omega)) h0 h1
      have hz : (!(s == 0)) = false := by rw [hs]; rfl
      have hff : false = false := rfl
      and_intros
      have z := q b1 (G ++ [(s, e, some v)]) (some (.fz (.int v))) k1 (.inr ⟨some v, rfl, hse, fun x hx => by cases hx; omega, fun _ z => nomatch z⟩)
      rw [hm] at z
      exact z
    · obtain ⟨w, b1, t1, k1, p1, q1⟩ := take_l (f := f + 3) (many := 5) hb (by decide) (big_of (by decide))
      have hz : (!(s == 0)) = true := by simp [hs]
      cases hw : (w == (0 : Int)) with
      | true =>
        and_intros
        have z := q b1 (G ++ [(s, e, none)]) (some (.fz .none)) (k1.down (by omega)) (.inr ⟨none, rfl, hse, fun x hx => (nomatch hx), fun z => absurd z hs⟩)
        rw [hm] at z
        exact z
      | false =>
        obtain ⟨v, b2, t2, k2, p2, q2⟩ := size_x (f := f) (most := most) k1 h0 h1
        and_intros
        have z := q b2 (G ++ [(s, e, some v)]) (some (.fz (.int v))) k2 (.inr ⟨some v, rfl, hse, fun x hx => by cases hx; omega, fun _ z => nomatch z⟩)
        rw [hm] at z
        exact z
abbrev bNetArc : Es := (seqS (par2 5 6 (callU 2 m_law_take (consA (slotP 0) (consA (slotF 1) nilA))) (callU 2 m_law_take (consA (slotP 0) (consA (slotF 1) nilA))))
    (seqS (ifS (boolOf (bin2 gEq (opOf (layOf (callU 2 m_law_take (consA (slotP 0) (consA (opOf (cstE (.int 3))) nilA))))) (opOf (cstE (.int 0))))) (par2 5 6 (callN gMin2 (consA (slotP 5) (consA (slotP 6) nilA))) (callN gMax2 (consA (slotP 5) (consA (slotP 6) nilA)))) nilS)
    (seqS (ifS (boolOf (bin2 gEq (opOf (layOf (callU 2 m_law_take (consA (slotP 0) (consA (opOf (cstE (.int 4))) nilA))))) (opOf (cstE (.int 0))))) (asgS 6 (resOf (cstE (.int 1)))) nilS) bNetTail)))
theorem net_arc {Q : Fl → NS.Env → Prop} {f : Nat} {b : List D} {s4 s5 s6 s7 : Option OV} {N most : Int} {G : List Arc} (hb : BagD (f + 8) b) (n0 : 2 ≤ N) (n1 : N ≤ 20) (h0 : 0 ≤ most) (h1 : most ≤ 1000000000000) (hG : G.length < 1000)
    (q : ∀ (b' : List D) (G' : List Arc) (s5 s6 s7 : Option OV), BagD f b' → (G' = G ∨ ∃ (s e : Int) (c : Option Int), G' = G ++ [(s, e, c)] ∧ (0 ≤ s ∧ s < N ∧ 0 ≤ e ∧ e < N ∧ s ≠ e ∧ ∀ x, c = some x → 0 ≤ x ∧ x ≤ 1000000000000) ∧ (s = 0 → c ≠ none)) → Q .nx [some (.ol true b'), some (.fz (.int N)), some (.fz (.int most)), some (.ol false (G'.map encA)), s4, s5, s6, s7]) :
    Ends (bNetArc [some (.ol true b), some (.fz (.int N)), some (.fz (.int most)), some (.ol false (G.map encA)), s4, s5, s6, s7]) Q := by
  obtain ⟨T, hD⟩ : ∃ T, T = bNetTail := ⟨_, rfl⟩
  obtain ⟨v1, b1, t1, k1, p1, q1⟩ := take_l (f := f + 7) (many := N) hb (by omega) (big_of (by omega))
  obtain ⟨v2, b2, t2, k2, p2, q2⟩ := take_l (f := f + 6) (many := N) k1 (by omega) (big_of (by omega))
  obtain ⟨v3, b3, t3, k3, p3, q3⟩ := take_l (f := f + 5) (many := 3) k2 (by omega) (big_of (by decide))
  obtain ⟨v4, b4, t4, k4, p4, q4⟩ := take_l (f := f + 4) (many := 4) k3 (by omega) (big_of (by decide))
  have fin : ∀ (s e : Int) s7, 0 ≤ s → s < N → 0 ≤ e → e < N → Ends (T [some (.ol true b4), some (.fz (.int N)), some (.fz (.int most)), some (.ol false (G.map encA)), s4, some (.fz (.int s)), some (.fz (.int e)), s7]) Q := fun s e s7 a1 a2 a3 a4 => by
    rw [hD]
    refine net_tail k4 h0 h1 hG fun b' G' s7 hb' hg => q b' G' _ _ s7 hb' ?_
    rcases hg with hg | ⟨c, hg, hne, hc, hz⟩
    · exact .inl hg
    · exact .inr ⟨s, e, c, hg, ⟨a1, a2, a3, a4, hne, hc⟩, hz⟩
  change Ends (seqS _ (seqS _ (seqS _ bNetTail)) _) Q
  rw [← hD]
  and_intros
  all_goals exact fin _ _ _ (by omega) (by omega) (by omega) (by omega)
theorem net_x {f : Nat} {b : List D} (hb : BagD (f + 120) b) : ∃ (N : Int) (as : List Arc) (b' : List D), m_law_net (.ol false b) [] = some (.d (netD N as), .ol false b') ∧ BagD f b' ∧ NetOk N as ∧ N ≤ 7 ∧ as.length ≤ 14 ∧ ∀ a ∈ as, a.1 = 0 → a.2.2 ≠ none := by
  obtain ⟨v1, b1, t1, k1, p1, q1⟩ := take_l (f := f + 119) (many := 6) hb (by decide) (big_of (by decide))
  obtain ⟨d2, b2, t2, k2, m2⟩ := some_l (f := f + 118) (ds := [.int 3, .int 9, .int (10 ^ (12 : Int).toNat - 1)]) k1 (by simp) (by simp)
  obtain ⟨most, rfl, h0, h1⟩ : ∃ most : Int, d2 = .int most ∧ 0 ≤ most ∧ most ≤ 1000000000000 := by
    simp only [List.mem_cons, List.not_mem_nil, or_false] at m2
    rcases m2 with rfl | rfl | rfl
    all_goals exact ⟨_, rfl, by decide, by decide⟩
  obtain ⟨d3, b3, t3, k3, m3⟩ := some_l (f := f + 117) (ds := [.int 2, .int 5, .int 9, .int 14, .int 0]) k2 (by simp) (by simp)
  obtain ⟨n, rfl, hn⟩ : ∃ n : Nat, d3 = .int (n : Int) ∧ n ≤ 14 := by
    simp only [List.mem_cons, List.not_mem_nil, or_false] at m3
    rcases m3 with rfl | rfl | rfl | rfl | rfl
    · exact ⟨2, rfl, by decide⟩
    · exact ⟨5, rfl, by decide⟩
    · exact ⟨9, rfl, by decide⟩
    · exact ⟨14, rfl, by decide⟩
    · exact ⟨0, rfl, by decide⟩
  obtain ⟨T, hD⟩ : ∃ T, T = bNetArc := ⟨_, rfl⟩
  have key : ∃ r ov', m_law_net (.ol false b) [] = some (r, ov') ∧ ∃ (N : Int) (as : List Arc) (b' : List D), r = .d (netD N as) ∧ ov' = .ol false b' ∧ BagD f b' ∧ NetOk N as ∧ N ≤ 7 ∧ as.length ≤ 14 ∧ ∀ a ∈ as, a.1 = 0 → a.2.2 ≠ none := by
    apply runU_x
    · and_intros
    · change Ends (seqS _ (seqS _ (seqS (forS _ _ bNetArc) _)) _) _
      rw [← hD]
      and_intros
      rw [Int.toNat_natCast, range0]
      refine for_map (fun (xs : List Nat) e => ∃ (b' : List D) (G : List Arc) (s4 s5 s6 s7 : Option OV), e = [some (.ol true b'), some (.fz (.int (2 + v1))), some (.fz (.int most)), some (.ol false (G.map encA)), s4, s5, s6, s7] ∧ BagD (f + 8 * xs.length) b' ∧ G.length + xs.length ≤ 14 ∧ (∀ a ∈ G, (0 ≤ a.1 ∧ a.1 < 2 + v1 ∧ 0 ≤ a.2.1 ∧ a.2.1 < 2 + v1 ∧ a.1 ≠ a.2.1 ∧ ∀ x, a.2.2 = some x → 0 ≤ x ∧ x ≤ 1000000000000) ∧ (a.1 = 0 → a.2.2 ≠ none))) ?_ ?_ (List.range n) ⟨b3, [], none, none, none, none, rfl, k3.down (by rw [List.length_range]; omega), by rw [List.length_range]; show 0 + n ≤ 14; omega, fun a ha => nomatch ha⟩
      · rintro k xs env ⟨b', G, s4, s5, s6, s7, rfl, hb', hl, ha⟩
        rw [List.length_cons] at hb' hl
        refine ⟨_, rfl, ?_⟩
        dsimp only [List.set]
        rw [hD]
        refine net_arc (f := f + 8 * xs.length) (hb'.down (by omega)) (by omega) (by omega) h0 h1 (by omega) fun b2 G' s5 s6 s7 hb2 hg => ?_
        refine LoopQ.nx ?_
        rcases hg with rfl | ⟨s, e, c, rfl, h2, h3⟩
        · exact ⟨b2, G', _, _, _, _, rfl, hb2, by omega, ha⟩
        · refine ⟨b2, _, _, _, _, _, rfl, hb2, by rw [List.length_append, List.length_singleton]; omega, fun a hm => ?_⟩
          rcases List.mem_append.mp hm with hm | hm
          · exact ha a hm
          · rw [List.mem_singleton.mp hm]; exact ⟨h2, h3⟩
      · rintro env ⟨b', G, s4, s5, s6, s7, rfl, hb', hl, ha⟩
        refine SeqQ.nx ?_
        and_intros
        exact ⟨_, _, rfl, rfl, rfl, 2 + v1, G, b', rfl, rfl, hb'.down (by omega), ⟨by omega, by omega, by simp at hl; omega, fun a h => (ha a h).1⟩, by omega, by simpa using hl, fun a h => (ha a h).2⟩
  obtain ⟨r, ov', e, N, as, b', rfl, rfl, h⟩ := key
  exact ⟨N, as, b', e, h⟩
end Law

namespace Law
open PySem L2 NS NT
def Bd (C : Int) (L : List Int) : Prop := ∀ i ∈ L, -C ≤ i ∧ i ≤ C
theorem Bd.set {C c : Int} {L : List Int} {k : Nat} {v : Int} (h : Bd C L) (hc : C ≤ c) (hv : -c ≤ v ∧ v ≤ c) : Bd c (L.set k v) := fun i hi => by
  rcases List.mem_or_eq_of_mem_set hi with hi | rfl
  · have := h i hi; omega
  · exact hv
theorem part_inner {Q : Fl → NS.Env → Prop} {s0 s1 s2 s3 s4 s5 s8 s9 s10 s11 s12 s13 : Option OV} {many C : Int} {L : List Int} (rs : List RRow) (hm : 0 ≤ many) (hr : ∀ r ∈ rs, 0 ≤ r.2.2.2.1 ∧ r.2.2.2.1 < L.length) (hL : Bd C L)
    (q : ∀ (L' : List Int) s8 s9 s10 s11 s12, L'.length = L.length → Bd (C + many * rs.length) L' → Q .nx [s0, s1, s2, s3, s4, s5, some (.ol false (L'.map .int)), some (.fz (.int many)), s8, s9, s10, s11, s12, s13]) :
    Ends (forGo (.tp [(.nm 8), (.nm 9), (.nm 10), (.nm 11), (.nm 12)]) (augAS 6 (fun i j => i + j) (slotE 11) (layOf (ifR (boolOf (resOf (slotE 12))) (resOf (slotE 7)) (bin2 gSub2 (opOf (cstE (.int 0))) (slotP 7))))) (rs.map encRow) [s0, s1, s2, s3, s4, s5, some (.ol false (L.map .int)), some (.fz (.int many)), s8, s9, s10, s11, s12, s13]) Q := by
  refine for_map (fun (xs : List RRow) e => ∃ (L' : List Int) (c : Int) (s8 s9 s10 s11 s12 : Option OV), e = [s0, s1, s2, s3, s4, s5, some (.ol false (L'.map .int)), some (.fz (.int many)), s8, s9, s10, s11, s12, s13] ∧ L'.length = L.length ∧ Bd c L' ∧ c + many * xs.length = C + many * rs.length ∧ ∀ r ∈ xs, 0 ≤ r.2.2.2.1 ∧ r.2.2.2.1 < L.length) ?_ ?_ rs ⟨L, C, s8, s9, s10, s11, s12, rfl, rfl, hL, rfl, hr⟩
  · rintro ⟨s, e, m, at_, b⟩ xs env ⟨L', c, s8, s9, s10, s11, s12, rfl, hl, hB, hc, hr⟩
    obtain ⟨a1, a2⟩ := hr _ List.mem_cons_self
    dsimp only at a1 a2
    obtain ⟨b1, x, b2, b3⟩ := ix_at (L := L') (j := at_) a1 (by omega)
    have hx := hB x (List.mem_of_getElem? b2)
    rw [List.length_cons, Int.natCast_succ, Int.mul_add, Int.mul_one] at hc
    refine ⟨_, rfl, ?_⟩
    dsimp only [List.set, encRow]
    cases b with
    | true =>
      and_intros
      exact ⟨L'.set at_.toNat (x + many), c + many, _, _, _, _, _, by rw [List.map_set], by rw [List.length_set]; exact hl, hB.set (by omega) (by omega), by omega, fun r h => hr r (List.mem_cons_of_mem _ h)⟩
    | false =>
      and_intros
      exact ⟨L'.set at_.toNat (x + (0 - many)), c + many, _, _, _, _, _, by rw [List.map_set], by rw [List.length_set]; exact hl, hB.set (by omega) (by omega), by omega, fun r h => hr r (List.mem_cons_of_mem _ h)⟩
  · rintro env ⟨L', c, s8, s9, s10, s11, s12, rfl, hl, hB, hc, _⟩
    rw [List.length_nil, Int.natCast_zero, Int.mul_zero, Int.add_zero] at hc
    subst hc
    exact q L' _ _ _ _ _ hl hB
theorem rooms_ok {as : List Arc} {is : List Int} {C : Int} (hl : as.length = is.length) (hB : Bd C is) (hcap : ∀ a ∈ as, ∀ c, a.2.2 = some c → 0 ≤ c ∧ c ≤ 1000000000000) {r : RRow} (h : r ∈ rooms as is) : 0 < r.2.2.1 ∧ r.2.2.1 ≤ big30 + 1000000000000 + C ∧ 0 ≤ r.2.2.2.1 ∧ r.2.2.2.1 < is.length := by
  unfold rooms at h
  obtain ⟨z, hz, hr⟩ := List.mem_flatMap.mp h
  obtain ⟨j, h1, h2⟩ := zAll_at hz
  obtain ⟨k, ⟨s, e, c⟩, t⟩ := z
  dsimp only at h1 h2
  have h3 := h2
  rw [List.getElem?_zip_eq_some] at h3
  have hj : j < is.length := (List.getElem?_eq_some_iff.mp h3.2).1
  have ht := hB t (List.mem_of_getElem? h3.2)
  have ha := List.mem_of_getElem? h3.1
  have hb : (0 : Int) < big30 := by decide +kernel
  unfold rowsZ fwd bwd at hr
  dsimp only at hr
  rcases List.mem_append.mp hr with hr | hr
  · split at hr
    · rename_i hp
      have hp := of_decide_eq_true hp
      rw [List.mem_singleton.mp hr]
      dsimp only
      refine ⟨hp, ?_, by omega, by omega⟩
      cases c with
      | none => show big30 ≤ _; omega
      | some c => have := hcap _ ha c rfl; show c - t ≤ _; omega
    · cases hr
  · split at hr
    · rename_i hp
      have hp := of_decide_eq_true hp
      rw [List.mem_singleton.mp hr]
      dsimp only
      refine ⟨hp, by omega, by omega, by omega⟩
    · cases hr
theorem lc_rooms {s0 s1 s2 s3 s4 s5 s6 s7 s8 s9 s10 s11 s12 : Option OV} (rs : List RRow) (hl : rs.length ≤ 1000) : lcGo (.nm 13) yesT (layOf (bin2 gIxA (slotP 13) (opOf (cstE (.int 2))))) [13] (rs.map encRow) [s0, s1, s2, s3, s4, s5, s6, s7, s8, s9, s10, s11, s12, none] [] = some ((rs.map fun r => r.2.2.1).map .int, [s0, s1, s2, s3, s4, s5, s6, s7, s8, s9, s10, s11, s12, none]) := by
  refine lc_mapI (fun _ => True) (fun r : RRow => r.2.2.1) rs (fun _ _ => trivial) (by omega) (fun p _ => ⟨_, rfl, ?_⟩)
  dsimp only [List.set, encRow]
  apply Ev1.i
  · and_intros
  · exact ⟨rfl, rfl⟩
structure CB (C : Int) (k : Nat) : Prop where
  lo : 10000000000000000000000000000000 ≤ C
  hi : C * 100 ^ k ≤ 10 ^ 40
theorem CB.down {C : Int} {k : Nat} (h : CB C (k + 1)) : CB C k := ⟨h.lo, by
  have h1 := h.lo
  have h2 := h.hi
  have h3 : 0 ≤ C * 100 ^ k := Int.mul_nonneg (by omega) (Int.pow_nonneg (by decide))
  rw [Int.pow_succ, ← Int.mul_assoc] at h2
  generalize C * 100 ^ k = z at *
  omega⟩
theorem CB.up {C : Int} {k : Nat} (h : CB C (k + 1)) : CB (C * 100) k := ⟨by have h1 := h.lo; omega, by
  have h2 := h.hi
  rw [Int.pow_succ, Int.mul_comm (100 ^ k), ← Int.mul_assoc] at h2
  exact h2⟩
theorem CB.fin {C : Int} {k : Nat} (h : CB C k) : C ≤ 10 ^ 40 := by
  induction k with
  | zero => have := h.hi; rw [Int.pow_zero, Int.mul_one] at this; exact this
  | succ k ih => exact ih h.down
theorem part_x {f : Nat} {b : List D} {n : Nat} {as : List Arc} (hb : BagD (f + 9) b) (h : NetOk (n : Int) as) (hn : n ≤ 7) (h14 : as.length ≤ 14) : ∃ (is : List Int) (b' : List D), m_law_part (.ol false b) [.v (netD (n : Int) as)] = some (.d (.tuple (is.map .int)), .ol false b') ∧ BagD f b' ∧ is.length = as.length ∧ Bd (10 ^ 40) is := by
  obtain ⟨v, b1, t1, k1, p1, q1⟩ := take_l (f := f + 8) (many := 4) hb (by decide) (big_of (by decide))
  obtain ⟨k, rfl⟩ := Int.eq_ofNat_of_zero_le p1
  have hlen := h.lo
  have key : ∃ r ov', m_law_part (.ol false b) [.v (netD (n : Int) as)] = some (r, ov') ∧ ∃ (is : List Int) (b' : List D), r = .d (.tuple (is.map .int)) ∧ ov' = .ol false b' ∧ BagD f b' ∧ is.length = as.length ∧ Bd (10 ^ 40) is := by
    apply runU_x
    all_goals and_intros
    all_goals (try (rw [List.length_map]; omega))
    rw [Int.toNat_natCast, Int.toNat_natCast, range0, List.length_map, show List.replicate as.length (PyData.int 0) = (List.replicate as.length (0 : Int)).map .int by rw [List.map_replicate]]
    refine for_map (fun (xs : List Nat) e => ∃ (b' : List D) (is : List Int) (C : Int) (s3 s4 s5 s6 s7 s8 s9 s10 s11 s12 : Option OV), e = [some (.ol true b'), some (.fz (netD (n : Int) as)), some (.fz (.tuple (is.map .int))), s3, s4, s5, s6, s7, s8, s9, s10, s11, s12, none] ∧ BagD (f + 2 * xs.length) b' ∧ is.length = as.length ∧ Bd C is ∧ CB C xs.length) ?_ ?_ (List.range k) ⟨b1, _, 10000000000000000000000000000000, none, none, none, none, none, none, none, none, none, none, rfl, k1.down (by rw [List.length_range]; omega), List.length_replicate, fun i hi => by rw [List.eq_of_mem_replicate hi]; decide +kernel, ⟨by decide +kernel, ?_⟩⟩
    · rintro j xs env ⟨b', is, C, s3, s4, s5, s6, s7, s8, s9, s10, s11, s12, rfl, hb', hl, hB, hC⟩
      rw [List.length_cons] at hb' hC
      have hw := way_x (n := n) (as := as) (is := is) (by omega) hl.symm (by omega)
      have hn1 : isNone PyData.none = true := rfl
      have hn2 : ∀ l, isNone (PyData.list l) = false := fun _ => rfl
      refine ⟨_, rfl, ?_⟩
      dsimp only [List.set]
      cases hwn : wayN n (rooms as is) with
      | none =>
        rw [hwn] at hw
        dsimp only [wayR] at hw
        and_intros
        exact ⟨b', is, C, _, _, _, _, _, _, _, _, _, _, rfl, hb'.down (by omega), hl, hB, hC.down⟩
      | some rs =>
        rw [hwn] at hw
        dsimp only [wayR] at hw
        obtain ⟨w1, w2, w3⟩ := wayN_ok (by omega) hwn
        have hro : ∀ r ∈ rs, 0 < r.2.2.1 ∧ r.2.2.1 ≤ big30 + 1000000000000 + C ∧ 0 ≤ r.2.2.2.1 ∧ r.2.2.2.1 < is.length := fun r hr => rooms_ok hl.symm hB (fun a ha => (h.arc a ha).2.2.2.2.2) (w1 r hr)
        have hlc := lc_rooms (s0 := some (.ol true b')) (s1 := some (.fz (netD (n : Int) as))) (s2 := some (.fz (.tuple (is.map .int)))) (s3 := some (.fz (.int (j : Int)))) (s4 := some (.fz (.list (rs.map encRow)))) (s5 := s5) (s6 := s6) (s7 := s7) (s8 := s8) (s9 := s9) (s10 := s10) (s11 := s11) (s12 := s12) rs (by omega)
        obtain ⟨m, hm⟩ : ∃ m, (rs.map fun r => r.2.2.1).min? = some m := by
          cases e : (rs.map fun r => r.2.2.1).min? with
          | some m => exact ⟨m, rfl⟩
          | none =>
            rw [List.min?_eq_none_iff, List.map_eq_nil_iff] at e
            exact absurd e w2
        obtain ⟨r0, hr0, hm0⟩ := List.mem_map.mp (List.min?_mem hm)
        have hm0 : r0.2.2.1 = m := hm0
        have hmr := hro r0 hr0
        rw [hm0] at hmr
        have hmb : m.natAbs < 2 ^ 256 := by
          have h1 := hmr.1
          have h2 := hmr.2.1
          have h3 := hC.fin
          have h4 : big30 = 1000000000000000000000000000000 := by decide +kernel
          have h5 : (10 : Int) ^ 40 = 10000000000000000000000000000000000000000 := by decide +kernel
          have h6 : (2 : Nat) ^ 256 = 115792089237316195423570985008687907853269984665640564039457584007913129639936 := by decide +kernel
          rw [h6]
          rw [h4] at h2
          rw [h5] at h3
          clear hmr hro hC hB
          omega
        obtain ⟨u, b2, t2, k2, p2, q2⟩ := take_l (f := f + 2 * xs.length + 1) (many := m) (hb'.down (by omega)) hmr.1 (big_of hmb)
        obtain ⟨d, b3, t3, k3, m3⟩ := some_l (f := f + 2 * xs.length) (ds := [.int m, .int 1, .int (1 + u)]) k2 (by simp) (by simp)
        obtain ⟨many, rfl, a1, a2⟩ : ∃ x : Int, d = .int x ∧ 0 ≤ x ∧ x ≤ m := by
          simp only [List.mem_cons, List.not_mem_nil, or_false] at m3
          rcases m3 with rfl | rfl | rfl
          all_goals exact ⟨_, rfl, by omega, by omega⟩
        and_intros
        refine part_inner rs a1 (fun r hr => ⟨(hro r hr).2.2.1, (hro r hr).2.2.2⟩) hB fun L' s8 s9 s10 s11 s12 hl' hB' => ?_
        refine SeqQ.nx ?_
        and_intros
        refine ⟨b3, L', C * 100, _, _, _, _, _, _, _, _, _, _, rfl, k3, by omega, fun i hi => ?_, hC.up⟩
        have h7 := hB' i hi
        have h8 : many * (rs.length : Int) ≤ m * 7 := by
          have z1 : many * (rs.length : Int) ≤ m * (rs.length : Int) := Int.mul_le_mul_of_nonneg_right a2 (by omega)
          have z2 : m * (rs.length : Int) ≤ m * 7 := Int.mul_le_mul_of_nonneg_left (by omega) (by omega)
          omega
        have h9 := hmr.2.1
        have h4 : big30 = 1000000000000000000000000000000 := by decide +kernel
        rw [h4] at h9
        have h10 := hC.lo
        generalize many * (rs.length : Int) = z at *
        clear hro hmr hB hB' hC hlc hw t1 t2 t3 m3
        omega
    · rintro env ⟨b', is, C, s3, s4, s5, s6, s7, s8, s9, s10, s11, s12, rfl, hb', hl, hB, hC⟩
      have hC2 := hC.fin
      refine SeqQ.nx ?_
      and_intros
      exact ⟨_, _, rfl, rfl, rfl, is, b', rfl, rfl, hb'.down (by omega), hl, fun i hi => by have := hB i hi; generalize (10 : Int) ^ 40 = z at *; omega⟩
    · rw [List.length_range]
      have : k ≤ 3 := by omega
      match k, this with
      | 0, _ => decide +kernel
      | 1, _ => decide +kernel
      | 2, _ => decide +kernel
      | 3, _ => decide +kernel
  obtain ⟨r, ov', e, is, b', rfl, rfl, h⟩ := key
  exact ⟨is, b', e, h⟩
end Law

namespace Law
open PySem L2 NS NT
abbrev oddA : List D := [.none, .bool true, .bool false, .int (-1), .int 0, .int 1, .int (10 ^ (39 : Int).toNat), .str "", .str "a", .str "feed", .str "A", .str "a b", .str "7b", .str "a_b", .str (repS "b" (21 : Int).toNat), .tuple [], .list [], .dict (dOf [])]
abbrev oddB : List D := [.tuple [.str "a"], .tuple [.str "a", .str "b"], .tuple [.str "a", .str "b", .int 1], .list [.int 0], .tuple [.int 0], .tuple [.none], .tuple [.tuple []], .tuple [.tuple [], .tuple []], .dict (dOf (putN [] (NestedKey.text "a") (.int 1))), .str "\n", .tuple [.int 0, .int 1]]
/-- a number that is small, or something else -/
def sm1 : D → Bool
  | .int i => decide (i.natAbs < 10 ^ 60)
  | _ => true
def tame : D → Bool
  | .tuple ds => ds.all sm1
  | _ => true
theorem odd_x {f : Nat} {b : List D} (h : BagD (f + 1) b) : ∃ d b', m_law_odd (.ol false b) [] = some (.d d, .ol false b') ∧ BagD f b' ∧ sm1 d = true ∧ tame d = true := by
  obtain ⟨d, b1, t1, k1, m1⟩ := some_l (f := f) (ds := oddA ++ oddB) h (by simp) (by simp)
  have hall : (oddA ++ oddB).all (fun d => sm1 d && tame d) = true := by decide +kernel
  have hd := List.all_eq_true.mp hall d m1
  rw [Bool.and_eq_true] at hd
  refine ⟨d, b1, ?_, k1, hd.1, hd.2⟩
  apply runU_i
  all_goals and_intros
  exact ⟨_, rfl, rfl, rfl, rfl⟩
theorem bentI_x {f k : Nat} {b : List D} {i z : Int} (h : BagD (f + 2) b) (hi : i.natAbs < 10 ^ 50) : ∃ d b', n_law_bent (k + 1) (.ol false b) [.v (.int i), .v (.int z)] = some (.d d, .ol false b') ∧ BagD f b' ∧ sm1 d = true := by
  obtain ⟨v, b1, t1, k1, p1, q1⟩ := take_l (f := f + 1) (many := 10) h (by decide) (big_of (by decide))
  have hib : i.natAbs < BIGN := big_of (Nat.lt_trans hi (by decide))
  by_cases hv : v < 9
  · obtain ⟨d, b2, t2, k2, m2⟩ := some_l (f := f) (ds := [.int (i + 1), .int (i - 1), .int (0 - i), .bool (i == 1), .str (toString i : String), .none, .int 0, .int (10 ^ (30 : Int).toNat)]) k1 (by simp) (by simp)
    have hd : sm1 d = true := by
      have h50 : (10 : Nat) ^ 60 = 10000000000 * 10 ^ 50 := by decide +kernel
      have hpos : (1 : Nat) ≤ 10 ^ 50 := by decide +kernel
      simp only [List.mem_cons, List.not_mem_nil, or_false] at m2
      rcases m2 with rfl | rfl | rfl | rfl | rfl | rfl | rfl | rfl
      · refine decide_eq_true ?_; rw [h50]; generalize (10 : Nat) ^ 50 = q at *; omega
      · refine decide_eq_true ?_; rw [h50]; generalize (10 : Nat) ^ 50 = q at *; omega
      · refine decide_eq_true ?_; rw [h50]; generalize (10 : Nat) ^ 50 = q at *; omega
      · rfl
      · rfl
      · rfl
      · decide +kernel
      · decide +kernel
    refine ⟨d, b2, ?_, k2, hd⟩
    apply runU_i
    all_goals and_intros
    exact ⟨_, rfl, rfl, rfl, rfl⟩
  · obtain ⟨d, b2, t2, k2, hd, _⟩ := odd_x (f := f) k1
    refine ⟨d, b2, ?_, k2, hd⟩
    apply runU_i
    all_goals and_intros
    exact ⟨_, rfl, rfl, rfl, rfl⟩
theorem cut_len (ds : List D) (lo hi : Option Int) : (cutD ds lo hi).length ≤ ds.length := by
  unfold cutD
  rw [List.length_take, List.length_drop]
  omega
theorem cut_mem {ds : List D} {lo hi : Option Int} {d : D} (h : d ∈ cutD ds lo hi) : d ∈ ds := by
  unfold cutD at h
  exact List.mem_of_mem_drop (List.mem_of_mem_take h)
theorem cut_sm {ds : List D} {lo hi : Option Int} (h : ds.all sm1 = true) : (cutD ds lo hi).all sm1 = true := List.all_eq_true.mpr fun _ hd => List.all_eq_true.mp h _ (cut_mem hd)
theorem app_sm {a b : List D} (ha : a.all sm1 = true) (hb : b.all sm1 = true) : (a ++ b).all sm1 = true := by rw [List.all_append, ha, hb]; rfl
theorem ints_sm {is : List Int} (h : ∀ i ∈ is, i.natAbs < 10 ^ 50) : (is.map PyData.int).all sm1 = true := by
  rw [List.all_map, List.all_eq_true]
  intro i hi
  exact decide_eq_true (Nat.lt_trans (h i hi) (by decide +kernel))
theorem ne_nilT (is : List Int) : gNe (.tuple (is.map .int)) (.tuple []) = some (.d (.bool (!is.isEmpty))) := by
  unfold gNe
  rw [ints_shT]
  cases is with
  | nil => rfl
  | cons x l =>
    show some (Res.d (PyData.bool (!PyData.eqv (.tuple ((x :: l).map PyData.int)) (.tuple [])))) = _
    simp [PyData.eqv, PyData.eqvAll]
theorem bentT_x {f k : Nat} {b : List D} {is : List Int} (h : BagD (f + 5) b) (hl : is.length ≤ 14) (hi : ∀ i ∈ is, i.natAbs < 10 ^ 50) : ∃ d b', n_law_bent (k + 2) (.ol false b) [.v (.tuple (is.map .int)), .v (.int 1)] = some (.d d, .ol false b') ∧ BagD f b' ∧ tame d = true := by
  obtain ⟨w, b1, t1, k1, p1, q1⟩ := take_l (f := f + 4) (many := 10) h (by decide) (big_of (by decide))
  have hne := ne_nilT is
  have hsm := ints_sm hi
  by_cases hw : w < 9
  · by_cases hA : is.isEmpty = false ∧ w < 6
    · obtain ⟨he, h6⟩ := hA
      rw [he] at hne
      have hpos : 0 < is.length := by
        cases is with
        | nil => cases he
        | cons x l => simp
      obtain ⟨at_, b2, t2, k2, p2, q2⟩ := take_l (f := f + 3) (many := ((is.map PyData.int).length : Int)) k1 (by rw [List.length_map]; omega) (big_of (by rw [List.length_map]; omega))
      rw [List.length_map] at q2
      obtain ⟨b1', x, b2', b3'⟩ := ix_at (L := is) (j := at_) p2 q2
      have hat : atI (is.map PyData.int) at_ = some (.int x) := by unfold atI; rw [b1']; exact b3'
      obtain ⟨d, b3, t3, k3, hd⟩ := bentI_x (f := f + 1) (k := k) (i := x) (z := 1 - 1) k2 (hi x (List.mem_of_getElem? b2'))
      have c1 := cut_len (is.map PyData.int) none (some at_)
      have c2 := cut_len (is.map PyData.int) (some (at_ + 1)) none
      rw [List.length_map] at c1 c2
      refine ⟨.tuple (cutD (is.map PyData.int) none (some at_) ++ [d] ++ cutD (is.map PyData.int) (some (at_ + 1)) none), b3, ?_, k3.down (by omega), app_sm (app_sm (cut_sm hsm) (by rw [List.all_cons, hd]; rfl)) (cut_sm hsm)⟩
      apply runU_i
      all_goals and_intros
      exact ⟨_, rfl, rfl, rfl, rfl⟩
    · obtain ⟨at_, b2, t2, k2, p2, q2⟩ := take_l (f := f + 3) (many := ((is.map PyData.int).length : Int) + 1) k1 (by rw [List.length_map]; omega) (big_of (by rw [List.length_map]; omega))
      obtain ⟨o, b3, t3, k3, ho, _⟩ := odd_x (f := f + 2) k2
      have c1 := cut_len (is.map PyData.int) none (some at_)
      have c2 := cut_len (is.map PyData.int) (some (at_ + 1)) none
      have c3 := cut_len (is.map PyData.int) (some at_) none
      have c4 := cut_len (is.map PyData.int) none (some 1)
      rw [List.length_map] at c1 c2 c3 c4
      obtain ⟨d, b4, t4, k4, m4⟩ := some_l (f := f + 1) (ds := [.list (is.map PyData.int), .tuple (is.map PyData.int).reverse, .tuple (cutD (is.map PyData.int) none (some at_) ++ cutD (is.map PyData.int) (some (at_ + 1)) none), .tuple (cutD (is.map PyData.int) none (some at_) ++ cutD (is.map PyData.int) none (some 1) ++ cutD (is.map PyData.int) (some at_) none)] ++ [.tuple (cutD (is.map PyData.int) (some at_) none ++ cutD (is.map PyData.int) none (some at_)), .tuple (cutD (is.map PyData.int) none (some at_) ++ [o] ++ cutD (is.map PyData.int) (some at_) none)]) k3 (by simp) (by simp)
      have hd : tame d = true := by
        simp only [List.mem_cons, List.not_mem_nil, or_false, List.cons_append, List.nil_append] at m4
        rcases m4 with rfl | rfl | rfl | rfl | rfl | rfl
        · rfl
        · show (is.map PyData.int).reverse.all sm1 = true
          rw [List.all_reverse]; exact hsm
        · exact app_sm (cut_sm hsm) (cut_sm hsm)
        · exact app_sm (app_sm (cut_sm hsm) (cut_sm hsm)) (cut_sm hsm)
        · exact app_sm (cut_sm hsm) (cut_sm hsm)
        · exact app_sm (app_sm (cut_sm hsm) (by rw [List.all_cons, ho]; rfl)) (cut_sm hsm)
      refine ⟨d, b4, ?_, k4.down (by omega), hd⟩
      cases he : is.isEmpty with
      | true =>
        rw [he] at hne
        apply runU_i
        all_goals and_intros
        exact ⟨_, rfl, rfl, rfl, rfl⟩
      | false =>
        have h6 : ¬ w < 6 := fun z => hA ⟨he, z⟩
        rw [he] at hne
        apply runU_i
        all_goals and_intros
        exact ⟨_, rfl, rfl, rfl, rfl⟩
  · obtain ⟨d, b2, t2, k2, _, hd⟩ := odd_x (f := f + 3) k1
    refine ⟨d, b2, ?_, k2.down (by omega), hd⟩
    have h6 : ¬ w < 6 := by omega
    cases he : is.isEmpty with
    | true =>
      rw [he] at hne
      apply runU_i
      all_goals and_intros
      exact ⟨_, rfl, rfl, rfl, rfl⟩
    | false =>
      rw [he] at hne
      apply runU_i
      all_goals and_intros
      exact ⟨_, rfl, rfl, rfl, rfl⟩
end Law

namespace Law
open PySem L2 NS NT
theorem bent_l {f : Nat} {b : List D} {is : List Int} (h : BagD (f + 5) b) (hl : is.length ≤ 14) (hi : ∀ i ∈ is, i.natAbs < 10 ^ 50) : ∃ d b', m_law_bent (.ol false b) [.v (.tuple (is.map .int)), .v (.int 1)] = some (.d d, .ol false b') ∧ BagD f b' ∧ tame d = true := bentT_x (k := 6) h hl hi
theorem cut_two {is : List Int} {at_ : Int} (h0 : 0 ≤ at_) (h : at_ + 1 < is.length) : ∃ x y, gSlA (.tuple (is.map PyData.int)) (some at_) (some (at_ + 2)) = some (.d (.tuple [.int x, .int y])) ∧ x ∈ is ∧ y ∈ is := by
  obtain ⟨k, rfl⟩ := Int.eq_ofNat_of_zero_le h0
  have hk : k + 1 < is.length := by omega
  refine ⟨is[k], is[k + 1], ?_, List.getElem_mem _, List.getElem_mem _⟩
  show some (Res.d (.tuple (cutD (is.map PyData.int) (some (k : Int)) (some ((k : Int) + 2))))) = _
  have : cutD (is.map PyData.int) (some (k : Int)) (some ((k : Int) + 2)) = [.int is[k], .int is[k + 1]] := by
    unfold cutD
    rw [show ((k : Int) + 2) = ((k + 2 : Nat) : Int) by push_cast; rfl, HT.sIx_nat, HT.sIx_nat, List.length_map, Nat.min_eq_left (by omega), Nat.min_eq_left (by omega), show k + 2 - k = 2 by omega, ← List.map_drop, ← List.map_take]
    rw [List.drop_eq_getElem_cons (by omega), List.drop_eq_getElem_cons hk]
    rfl
  rw [this]
theorem near_x {f n : Nat} {b : List D} {N : Int} {as : List Arc} {is : List Int} (hb : BagD (f + 40) b) (h : NetOk N as) (hl : is.length = as.length) (h14 : as.length ≤ 14) (hi : ∀ i ∈ is, i.natAbs < 10 ^ 49) :
    ∃ (G : List D) (b' : List D), m_law_near (.ol false b) [.v (netD N as), .v (.tuple (is.map .int))] = some (.l G, .ol false b') ∧ BagD f b' ∧ G.all tame = true ∧ G.length ≤ 30 := by
  have hi50 : ∀ i ∈ is, i.natAbs < 10 ^ 50 := fun i h => Nat.lt_trans (hi i h) (by decide +kernel)
  have hsm := ints_sm hi50
  obtain ⟨d1, b1, t1, k1, e1⟩ := bent_l (f := f + 35) hb (by omega) hi50
  obtain ⟨d2, b2, t2, k2, e2⟩ := bent_l (f := f + 30) k1 (by omega) hi50
  obtain ⟨d3, b3, t3, k3, _, e3⟩ := odd_x (f := f + 29) k2
  have hml : (is.map PyData.int).length = is.length := List.length_map ..
  have hz : (is.map PyData.int ++ [PyData.int 0]).all sm1 = true := app_sm hsm (by decide +kernel)
  have key : ∃ r ov', m_law_near (.ol false b) [.v (netD N as), .v (.tuple (is.map .int))] = some (r, ov') ∧ ∃ (G : List D) (b' : List D), r = .l G ∧ ov' = .ol false b' ∧ BagD f b' ∧ G.all tame = true ∧ G.length ≤ 30 := by
    apply runU_x
    all_goals and_intros
    rw [Int.toNat_natCast, hml, range0]
    have hn1 : isNone PyData.none = true := rfl
    have hn2 : ∀ c, isNone (PyData.int c) = false := fun _ => rfl
    have b1e : ∀ {x y : Int}, x ∈ is → (y = x + 1 ∨ y = x - 1) → sm1 (.int y) = true := fun {x y} hx hy => by
      have h1 := hi50 x hx
      refine decide_eq_true ?_
      have h50 : (10 : Nat) ^ 60 = 10000000000 * 10 ^ 50 := by decide +kernel
      have hpos : (1 : Nat) ≤ 10 ^ 50 := by decide +kernel
      rw [h50]
      generalize (10 : Nat) ^ 50 = q at *
      omega
    refine for_map (fun (xs : List Nat) e => ∃ (b' : List D) (G : List D) (s4 s5 s6 : Option OV), e = [some (.ol true b'), some (.fz (netD N as)), some (.fz (.tuple (is.map .int))), some (.ol false G), s4, s5, s6, none, none] ∧ BagD (f + 10 + xs.length) b' ∧ G.all tame = true ∧ G.length + xs.length ≤ 20 ∧ ∀ j ∈ xs, j < is.length) ?_ ?_ (List.range is.length) ⟨b3, _, none, none, none, rfl, k3.down (by rw [List.length_range]; omega), ?_, ?_, fun j hj => List.mem_range.mp hj⟩
    · rintro j xs env ⟨b', G, s4, s5, s6, rfl, hb', hG, hl2, hj⟩
      rw [List.length_cons] at hb' hl2
      have hjl := hj j List.mem_cons_self
      have hix : atI (is.map PyData.int) (j : Int) = some (.int is[j]) := ix_int (List.getElem?_eq_getElem hjl)
      have hja : j < as.length := by omega
      have hia : atI (as.map encA) (j : Int) = some (encA as[j]) := atI_nat (by rw [List.getElem?_map, List.getElem?_eq_getElem hja]; rfl)
      have hx : is[j] ∈ is := List.getElem_mem _
      have hcap := (h.arc as[j] (List.getElem_mem _)).2.2.2.2.2
      generalize is[j] = x at *
      generalize as[j] = ar at *
      obtain ⟨s, e, c⟩ := ar
      dsimp only [encA] at hia hcap
      have c1 := cut_len (is.map PyData.int) none (some (j : Int))
      have c2 := cut_len (is.map PyData.int) (some ((j : Int) + 1)) none
      rw [hml] at c1 c2
      refine ⟨_, rfl, ?_⟩
      dsimp only [List.set]
      have fin : ∀ (d : D) (b4 : List D) s5 s6, sm1 d = true → BagD (f + 10 + xs.length) b4 → ∃ (b' : List D) (G' : List D) (s4' s5' s6' : Option OV), [some (OV.ol true b4), some (.fz (netD N as)), some (.fz (.tuple (is.map .int))), some (.ol false (G ++ [.tuple (cutD (is.map PyData.int) none (some (j : Int)) ++ [d] ++ cutD (is.map PyData.int) (some ((j : Int) + 1)) none)])), some (.fz (.int (j : Int))), s5, s6, none, none] = [some (.ol true b'), some (.fz (netD N as)), some (.fz (.tuple (is.map .int))), some (.ol false G'), s4', s5', s6', none, none] ∧ BagD (f + 10 + xs.length) b' ∧ G'.all tame = true ∧ G'.length + xs.length ≤ 20 ∧ ∀ j ∈ xs, j < is.length := fun d b4 s5 s6 hd hb4 =>
        ⟨b4, _, _, s5, s6, rfl, hb4, by rw [List.all_append, hG, Bool.true_and, List.all_cons, List.all_nil, Bool.and_true]; exact app_sm (app_sm (cut_sm hsm) (by rw [List.all_cons, hd]; rfl)) (cut_sm hsm), by rw [List.length_append, List.length_singleton]; omega, fun j hj' => hj j (List.mem_cons_of_mem _ hj')⟩
      cases c with
      | none =>
        dsimp only [optD] at hia
        obtain ⟨d, b4, t4, k4, m4⟩ := some_l (f := f + 10 + xs.length) (ds := [.int (x + 1), .int (x - 1), .int 0, .bool (x == 1)]) (hb'.down (by omega)) (by simp) (by simp)
        have hd : sm1 d = true := by
          simp only [List.mem_cons, List.not_mem_nil, or_false] at m4
          rcases m4 with rfl | rfl | rfl | rfl
          · exact b1e hx (.inl rfl)
          · exact b1e hx (.inr rfl)
          · decide +kernel
          · rfl
        and_intros
        exact fin d b4 _ _ hd k4
      | some c =>
        dsimp only [optD] at hia
        have hn3 := hn2 c
        have hc := hcap c rfl
        obtain ⟨d, b4, t4, k4, m4⟩ := some_l (f := f + 10 + xs.length) (ds := [.int (x + 1), .int (x - 1), .int (c + 1), .bool (x == 1)]) (hb'.down (by omega)) (by simp) (by simp)
        have hd : sm1 d = true := by
          simp only [List.mem_cons, List.not_mem_nil, or_false] at m4
          rcases m4 with rfl | rfl | rfl | rfl
          · exact b1e hx (.inl rfl)
          · exact b1e hx (.inr rfl)
          · refine decide_eq_true (Nat.lt_of_le_of_lt (show (c + 1).natAbs ≤ 1000000000001 by omega) (by decide +kernel))
          · rfl
        and_intros
        exact fin d b4 _ _ hd k4
    · rintro env ⟨b', G, s4, s5, s6, rfl, hb', hG, hl2, _⟩
      refine SeqQ.nx ?_
      by_cases h1 : 1 < is.length
      · obtain ⟨at_, b4, t4, k4, p4, q4⟩ := take_l (f := f + 9) (many := ((is.map PyData.int).length : Int) - 1) (hb'.down (by omega)) (by rw [hml]; omega) (big_of (by rw [hml]; omega))
        rw [hml] at q4
        obtain ⟨x, y, hs, hx, hy⟩ := cut_two (is := is) p4 (by omega)
        have c1 := cut_len (is.map PyData.int) none (some at_)
        have c2 := cut_len (is.map PyData.int) (some (at_ + 2)) none
        rw [hml] at c1 c2
        simp only [List.length_nil, Nat.add_zero] at hl2
        and_intros
        refine ⟨_, _, rfl, rfl, rfl, _, b4, rfl, rfl, k4.down (by omega), ?_, by rw [List.length_append, List.length_append, List.length_singleton, List.length_singleton]; omega⟩
        have two : ∀ {u v : Int}, sm1 (.int u) = true → sm1 (.int v) = true → tame (.tuple (cutD (is.map PyData.int) none (some at_) ++ [.int u, .int v] ++ cutD (is.map PyData.int) (some (at_ + 2)) none)) = true := fun hu hv => app_sm (app_sm (cut_sm hsm) (by rw [List.all_cons, List.all_cons, hu, hv]; rfl)) (cut_sm hsm)
        rw [List.all_append, List.all_append, hG, List.all_cons, List.all_cons, two (b1e hx (.inl rfl)) (b1e hy (.inr rfl)), two (b1e hx (.inl rfl)) (b1e hy (.inl rfl))]
        rfl
      · simp only [List.length_nil, Nat.add_zero] at hl2
        and_intros
        exact ⟨_, _, rfl, rfl, rfl, G, b', rfl, rfl, hb'.down (by omega), hG, by omega⟩
    · rw [List.all_cons, List.all_cons, List.all_cons, List.all_cons, List.all_cons, e1, e2, e3, show tame (.tuple (is.map PyData.int ++ [PyData.int 0])) = true from hz]
      rfl
    · rw [List.length_range]
      show 5 + _ ≤ 20
      omega
  obtain ⟨r, ov', e, G, b', rfl, rfl, h⟩ := key
  exact ⟨G, b', e, h⟩
end Law

namespace Law
open PySem L2 NS NT
theorem alike_l {n m : Nat} {d : D} (h : Fine n m d) (hn : n ≤ 60) (hm : m ≤ 1000000) : m_law_alike [.v d, .v d] = some (.d (.bool true)) := alike_x h hn hm
theorem bag_l {ns : List Int} (h : ns.length ≤ 63) : ∃ bs, m_law_bag [.s ns] = some (.l bs) ∧ BagD 1000000 bs := bag_x h
theorem repr_x {n m : Nat} {d : D} (h : Fine n m d) (hn : n ≤ 60) (hm : m ≤ 1000000) : gRepr [d] = some (.d (.str d.shown)) ∧ gNe (.str d.shown) (.str d.shown) = some (.d (.bool false)) := by
  refine ⟨?_, ?_⟩
  · unfold gRepr
    refine guard_i ?_ rfl
    rw [h.lay, h.sh, PyData.hasDict_of_canLay d h.lay, decide_eq_true (Nat.le_trans h.dp hn), decide_eq_true (Nat.le_trans h.len hm)]; rfl
  · have hq : SeqAt.shaped (.str d.shown) = true := by
      unfold SeqAt.shaped
      rw [show PyData.canLay0 (.str d.shown) = true from h.ok]; rfl
    unfold gNe
    rw [hq, SeqAt.eqv_refl (.str d.shown) h.ok]; rfl
theorem fine_opt {a : Arc} (h : ∀ c, a.2.2 = some c → 0 ≤ c ∧ c ≤ 1000000000000) : Fine 0 401 (optD a.2.2) := by
  obtain ⟨s, e, c⟩ := a
  cases c with
  | none => exact Fine.none.up (Nat.le_refl _) (by decide)
  | some c =>
    have := h c rfl
    exact Fine.int (Nat.lt_of_le_of_lt (show c.natAbs ≤ 1000000000000 by omega) (by decide +kernel))
theorem fine_net {N : Int} {as : List Arc} (h : NetOk N as) (h14 : as.length ≤ 14) : Fine 3 34005 (netD N as) := by
  have ha : ∀ a ∈ as, Fine 1 1212 (encA a) := fun a ha => by
    obtain ⟨a1, a2, a3, a4, a5, a6⟩ := h.arc a ha
    have hhi := h.hi
    refine (Fine.tup (n := 0) (m := 401) fun d hd => ?_).up (n' := 1) (m' := 1212) (by decide) (by show 1212 ≤ 1212; exact Nat.le_refl _)
    simp only [List.mem_cons, List.not_mem_nil, or_false] at hd
    rcases hd with rfl | rfl | rfl
    · exact Fine.int (Nat.lt_of_le_of_lt (show a.1.natAbs ≤ 20 by omega) (by decide +kernel))
    · exact Fine.int (Nat.lt_of_le_of_lt (show a.2.1.natAbs ≤ 20 by omega) (by decide +kernel))
    · exact fine_opt a6
  have hA : Fine 2 16999 (.tuple (as.map encA)) := (Fine.tup (n := 1) (m := 1212) fun d hd => by
    obtain ⟨a, h1, rfl⟩ := List.mem_map.mp hd
    exact ha a h1).up (Nat.le_refl _) (by rw [List.length_map]; omega)
  refine (Fine.tup (n := 2) (m := 16999) fun d hd => ?_).up (n' := 3) (m' := 34005) (by decide) (by show 34005 ≤ 34005; exact Nat.le_refl _)
  simp only [List.mem_cons, List.not_mem_nil, or_false] at hd
  rcases hd with rfl | rfl
  · have h1 := h.lo
    have h2 := h.hi
    exact (Fine.int (Nat.lt_of_le_of_lt (show N.natAbs ≤ 20 by omega) (by decide +kernel))).up (by decide) (by decide)
  · exact hA
theorem fine_pair {N : Int} {as : List Arc} {is : List Int} (h : NetOk N as) (h14 : as.length ≤ 14) (hl : is.length ≤ 14) (hi : ∀ i ∈ is, i.natAbs < 10 ^ 49) : Fine 4 68017 (.tuple [netD N as, .tuple (is.map .int)]) := by
  refine (Fine.tup (n := 3) (m := 34005) fun d hd => ?_).up (n' := 4) (m' := 68017) (by decide) (by show 68017 ≤ 68017; exact Nat.le_refl _)
  simp only [List.mem_cons, List.not_mem_nil, or_false] at hd
  rcases hd with rfl | rfl
  · exact fine_net h h14
  · exact (Fine.tup (n := 0) (m := 401) fun d hd => by
      obtain ⟨i, h1, rfl⟩ := List.mem_map.mp hd
      exact Fine.int (Nat.lt_trans (hi i h1) (by decide +kernel))).up (by decide) (by rw [List.length_map]; omega)
theorem val_le : ∀ (l : List (Arc × Int)), (∀ p ∈ l, p.2.natAbs < 10 ^ 60) → ((l.map term).sum).natAbs ≤ l.length * 10 ^ 60
  | [], _ => by simp
  | p :: l, h => by
    have h1 := val_le l fun q hq => h q (List.mem_cons_of_mem _ hq)
    have h2 := h p List.mem_cons_self
    have h3 := sgn_le p.1
    have h4 : (term p).natAbs ≤ 10 ^ 60 := by
      unfold term
      rw [Int.natAbs_mul]
      exact Nat.le_trans (Nat.mul_le_mul (Nat.le_of_lt h2) h3) (by omega)
    rw [List.map_cons, List.sum_cons, List.length_cons, Nat.succ_mul]
    generalize (10 : Nat) ^ 60 = z at *
    omega
theorem fine_val {as : List Arc} {is : List Int} (hs : Small is) (hl : as.length ≤ 14) : Fine 0 401 (.int (valN as is)) := by
  have h := val_le (as.zip is) fun p hp => hs _ (List.of_mem_zip hp).2
  have h2 : (as.zip is).length ≤ 14 := by rw [List.length_zip]; omega
  refine Fine.int (Nat.lt_of_le_of_lt h (Nat.lt_of_le_of_lt (Nat.mul_le_mul_right _ h2) (by decide +kernel)))
theorem thr_ints {N : Int} {as : List Arc} {d : D} (ht : tame d = true) (h : isThr N as d = true) : ∃ vs : List Int, d = .tuple (vs.map .int) ∧ Small vs := by
  cases d with
  | tuple ds =>
    have h : (decide (ds.length = as.length) && (ds.all cnt && verdict (go1 (List.replicate N.toNat 0) (as.zip (vals ds))))) = true := h
    rw [Bool.and_eq_true, Bool.and_eq_true] at h
    obtain ⟨e1, _⟩ := cnt_vals h.2.1
    refine ⟨vals ds, by rw [← e1], fun i hi => ?_⟩
    have ht : ds.all sm1 = true := ht
    have := List.all_eq_true.mp ht (.int i) (by rw [e1]; exact List.mem_map_of_mem hi)
    exact of_decide_eq_true this
  | _ => cases h
theorem bd_small {is : List Int} (h : Bd (10 ^ 40) is) : ∀ i ∈ is, i.natAbs < 10 ^ 49 := fun i hi => by
  have h1 := h i hi
  have h2 : (10 : Nat) ^ 49 = 10000000000000000000000000000000000000000000000000 := by decide +kernel
  have h3 : (10 : Int) ^ 40 = 10000000000000000000000000000000000000000 := by decide +kernel
  rw [h3] at h1
  rw [h2]
  omega
abbrev bThing : Es := (seqS (ifS (notT (boolOf (callT 2 m_law_alike (consA (opOf (layOf (callT 2 m_is_through (consA (slotF 3) (consA (slotF 7) nilA))))) (consA (opOf (layOf (callT 2 m_law_is_through (consA (slotF 3) (consA (slotF 7) nilA))))) nilA))))) (retS (resOf (cstE (.bool false)))) nilS)
    (ifS (andT (boolOf (callT 2 m_law_is_through (consA (slotF 3) (consA (slotF 7) nilA)))) (notT (boolOf (callT 2 m_law_alike (consA (opOf (layOf (callT 2 m_value_of (consA (slotF 3) (consA (slotF 7) nilA))))) (consA (opOf (layOf (callT 2 m_law_value (consA (slotF 3) (consA (slotF 7) nilA))))) nilA)))))) (retS (resOf (cstE (.bool false)))) nilS))
theorem things_loop {Q : Fl → NS.Env → Prop} {s0 s1 s2 s4 s5 s6 s7 : Option OV} {N : Int} {as : List Arc} {l : List D} (h : NetOk N as) (h14 : as.length ≤ 14) (hl : l.all tame = true)
    (q : ∀ s7, Q .nx [s0, s1, s2, some (.fz (netD N as)), s4, s5, s6, s7]) :
    Ends (forGo (.nm 7) bThing l [s0, s1, s2, some (.fz (netD N as)), s4, s5, s6, s7]) Q := by
  rw [← List.map_id' l]
  refine for_map (fun (xs : List D) e => ∃ s7, e = [s0, s1, s2, some (.fz (netD N as)), s4, s5, s6, s7] ∧ xs.all tame = true) ?_ ?_ l ⟨s7, rfl, hl⟩
  · rintro d xs env ⟨s7, rfl, ht⟩
    rw [List.all_cons, Bool.and_eq_true] at ht
    have h1 := is_through_x h d
    have h2 := law_is_through_x h d
    have h3 := alike_l (Fine.bool (isThr N as d)) (by decide) (by decide)
    refine ⟨_, rfl, ?_⟩
    dsimp only [List.set]
    cases hT : isThr N as d with
    | false =>
      rw [hT] at h1 h2 h3
      and_intros
      exact ⟨_, rfl, ht.2⟩
    | true =>
      rw [hT] at h1 h2 h3
      obtain ⟨vs, rfl, hs⟩ := thr_ints ht.1 hT
      have h4 := value_of_x (N := N) (as := as) hs
      have h5 := law_value_x (N := N) (as := as) hs (by omega)
      have h6 := alike_l (fine_val (as := as) hs h14) (by decide) (by decide)
      and_intros
      exact ⟨_, rfl, ht.2⟩
  · rintro env ⟨s7, rfl, _⟩
    exact q s7
theorem law_true (ns : List Int) (hn : ns.length ≤ 63) : m_law [.s ns] = some (.d (.bool true)) := by
  obtain ⟨b0, t0, k0⟩ := bag_l hn
  obtain ⟨T, hT⟩ : ∃ T, T = bThing := ⟨_, rfl⟩
  apply runT_i
  · and_intros
  · and_intros
    rw [show (6 : Int).toNat = 6 from rfl, range0]
    refine for_map (fun (xs : List Nat) e => ∃ (b : List D) (s2 s3 s4 s5 s6 s7 : Option OV), e = [some (.scr ns), some (.ol false b), s2, s3, s4, s5, s6, s7] ∧ BagD (200 * xs.length) b) ?_ ?_ (List.range 6) ⟨b0, none, none, none, none, none, none, rfl, k0.down (by rw [List.length_range]; omega)⟩
    · rintro j xs env ⟨b, s2, s3, s4, s5, s6, s7, rfl, hb⟩
      rw [List.length_cons] at hb
      obtain ⟨N, as, b1, t1, k1, hnet, n7, h14, _⟩ := net_x (f := 200 * xs.length + 60) (hb.down (by omega))
      obtain ⟨n, rfl⟩ := Int.eq_ofNat_of_zero_le (show 0 ≤ N by have := hnet.lo; omega)
      obtain ⟨is, b2, t2, k2, hl, hbd⟩ := part_x (f := 200 * xs.length + 50) (k1.down (by omega)) hnet (by omega) h14
      have hi := bd_small hbd
      obtain ⟨G, b3, t3, k3, hG, hGl⟩ := near_x (f := 200 * xs.length) (n := n) (k2.down (by omega)) hnet hl h14 hi
      have hs : Small is := fun i h => Nat.lt_trans (hi i h) (by decide +kernel)
      obtain ⟨r1, r2⟩ := repr_x (fine_pair hnet h14 (by omega) hi) (by decide) (by decide)
      have h4 := value_of_x (N := (n : Int)) (as := as) hs
      have h5 := law_value_x (N := (n : Int)) (as := as) hs (by omega)
      have h6 := alike_l (fine_val (as := as) hs h14) (by decide) (by decide)
      have ht : ([PyData.tuple (is.map .int)] ++ G).all tame = true := by
        rw [List.all_append, hG, Bool.and_true, List.all_cons, List.all_nil, Bool.and_true]
        exact ints_sm fun i h => Nat.lt_trans (hi i h) (by decide +kernel)
      refine ⟨_, rfl, ?_⟩
      dsimp only [List.set]
      generalize hS : PyData.shown (.tuple [netD (n : Int) as, .tuple (is.map .int)]) = S at r1 r2
      clear hS
      and_intros
      rw [show (2 : Int).toNat = 2 from rfl, range0]
      refine for_map (fun (ys : List Nat) e => ∃ s6, e = [some (.scr ns), some (.ol false b2), some (.fz (.int (j : Int))), some (.fz (netD (n : Int) as)), some (.fz (.tuple (is.map .int))), some (.fz (.str S)), s6, s7]) ?_ ?_ (List.range 2) ⟨_, rfl⟩
      · rintro i ys env ⟨s6, rfl⟩
        refine ⟨_, rfl, ?_⟩
        dsimp only [List.set]
        and_intros
        exact ⟨_, rfl⟩
      · rintro env ⟨s6, rfl⟩
        refine SeqQ.nx ?_
        and_intros
        refine things_loop hnet h14 ht fun s7 => ?_
        refine SeqQ.nx ?_
        and_intros
        exact ⟨b3, _, _, _, _, _, _, rfl, k3⟩
    · rintro env ⟨b, s2, s3, s4, s5, s6, s7, rfl, hb⟩
      refine SeqQ.nx ?_
      and_intros
      rfl
end Law

end
open NS PySem L2 in
theorem Law.true_law : NT.Wd → ∀ ns : List Int, ns.length ≤ 63 → Law.m_law [.s ns] = some (.d (.bool true)) := by
  intro W ns h
  exact Law.law_true ns h
open PySem PySem.W PyProof.Rows
set_option maxRecDepth 100000 in
set_option maxHeartbeats 0 in
theorem PySem.Challenge.cw_nightstairs_k11_throughs_judged_holds : PySem.Challenge.rw_nightstairs_k11_throughs_judged.Holds := by
  w_on; o_law; k_head; (case hw => w_witness2)
  k_fill
  refine NS.lawWalk (l := PySem.Challenge.rw_nightstairs_k11_throughs_judged) (k := 14) (x := "script") (g := Law.m_law) rfl rfl ⟨rfl, by decide, by decide⟩ (fun w h Y => PySem.W.kIn_of Y) ?hno ?hmk ?F Law.true_law
  case hno => intro p; kernel_rfl
  case hmk => intro p; kernel_rfl
  case F =>
    intro w mg fa h KX G hmg
    refine' Law.all_mk (W := ⟨w⟩) KX G hmg ?a0 ?l0 ?c0 ?k0 ?a1 ?l1 ?c1 ?k1 ?a2 ?l2 ?c2 ?k2 ?a3 ?l3 ?c3 ?k3 ?a4 ?l4 ?c4 ?k4 ?a5 ?l5 ?c5 ?k5 ?a6 ?l6 ?c6 ?k6 ?a7 ?l7 ?c7 ?k7 ?a8 ?l8 ?c8 ?k8 ?a9 ?l9 ?c9 ?k9 ?a10 ?l10 ?c10 ?k10 ?a11 ?l11 ?c11 ?k11 ?a12 ?l12 ?c12 ?k12 ?a13 ?l13 ?c13 ?k13 ?a14 ?l14 ?c14 ?k14 ?a15 ?l15 ?c15 ?k15 ?a16 ?l16 ?c16 ?k16 ?a17 ?l17 ?c17 ?k17 ?a18 ?l18 ?c18 ?k18 ?a19 ?l19 ?c19 ?k19 ?a20 ?l20 ?c20 ?k20 ?z_abs ?z_all ?z_bool ?z_enumerate ?z_int ?z_isinstance ?z_len ?z_list ?z_max ?z_min ?z_range ?z_repr ?z_str ?z_sum ?z_tuple ?z_zip ?g_SINK
    (case a0 => k_is)
    (case l0 => k_is)
    (case c0 => k_is)
    (case k0 => k_is)
    (case a1 => k_is)
    (case l1 => k_is)
    (case c1 => k_is)
    (case k1 => k_is)
    (case a2 => k_is)
    (case l2 => k_is)
    (case c2 => k_is)
    (case k2 => k_is)
    (case a3 => k_is)
    (case l3 => k_is)
    (case c3 => k_is)
    (case k3 => k_is)
    (case a4 => k_is)
    (case l4 => k_is)
    (case c4 => k_is)
    (case k4 => k_is)
    (case a5 => k_is)
    (case l5 => k_is)
    (case c5 => k_is)
    (case k5 => k_is)
    (case a6 => k_is)
    (case l6 => k_is)
    (case c6 => k_is)
    (case k6 => k_is)
    (case a7 => k_is)
    (case l7 => k_is)
    (case c7 => k_is)
    (case k7 => k_is)
    (case a8 => k_is)
    (case l8 => k_is)
    (case c8 => k_is)
    (case k8 => k_is)
    (case a9 => k_is)
    (case l9 => k_is)
    (case c9 => k_is)
    (case k9 => k_is)
    (case a10 => k_is)
    (case l10 => k_is)
    (case c10 => k_is)
    (case k10 => k_is)
    (case a11 => k_is)
    (case l11 => k_is)
    (case c11 => k_is)
    (case k11 => k_is)
    (case a12 => k_is)
    (case l12 => k_is)
    (case c12 => k_is)
    (case k12 => k_is)
    (case a13 => k_is)
    (case l13 => k_is)
    (case c13 => k_is)
    (case k13 => k_is)
    (case a14 => k_is)
    (case l14 => k_is)
    (case c14 => k_is)
    (case k14 => k_is)
    (case a15 => k_is)
    (case l15 => k_is)
    (case c15 => k_is)
    (case k15 => k_is)
    (case a16 => k_is)
    (case l16 => k_is)
    (case c16 => k_is)
    (case k16 => k_is)
    (case a17 => k_is)
    (case l17 => k_is)
    (case c17 => k_is)
    (case k17 => k_is)
    (case a18 => k_is)
    (case l18 => k_is)
    (case c18 => k_is)
    (case k18 => k_is)
    (case a19 => k_is)
    (case l19 => k_is)
    (case c19 => k_is)
    (case k19 => k_is)
    (case a20 => k_is)
    (case l20 => k_is)
    (case c20 => k_is)
    (case k20 => k_is)
    (case z_abs => k_is)
    (case z_all => k_is)
    (case z_bool => k_is)
    (case z_enumerate => k_is)
    (case z_int => k_is)
    (case z_isinstance => k_is)
    (case z_len => k_is)
    (case z_list => k_is)
    (case z_max => k_is)
    (case z_min => k_is)
    (case z_range => k_is)
    (case z_repr => k_is)
    (case z_str => k_is)
    (case z_sum => k_is)
    (case z_tuple => k_is)
    (case z_zip => k_is)
    (case g_SINK => k_is)

