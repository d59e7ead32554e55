import PyProof.Rows.All
import Wide.All
import OpenK.AllK
import Wide.FinOn
import KE.KDictKeyed
import HandS.ForMost
import HandS.Dict
import HandS.Iter
import KE.GoesEnum
import HandS.TupAny
import HandS.TupMul
import PyProof.ListMulRoad
import PyProof.FactsAll.tuple_2
import HandS.List
import HandS.Zip
import HandS.SortKw
import HandS.ForExc
import HandS.ExcInit
import HandS.ExcField
import HandS.TryMany
import PyProof.ExcBaseAll.LookupError
import PyProof.ExcBaseAll.RuntimeError
import PyProof.ExcBaseAll.OverflowError
import HandS.WordsExc
import HandS.ExcOwn
import PyProof.ReprRoads
import HandS.DictComp
import HandS.Lambda
import HandS.DictTup
import KE.KDictItemsList
import HandS.More
import HandS.ExcIs
import HandS.EndBits
import HandS.Deep
import HandS.Style
import HandS.Wide
import HandS.Flow
import HandS.FStrTup
import HandS.IsInst
import HandS.WordsDict
import HandS.TupLe
import PyProof.SeqIndex
import HandS.Conv
import HandS.Codes
import PyProof.NeKinds
import Wide.Loose
import PyProof.EqKinds
import HandS.EndTab
import HandS.NestedK
import HandS.SortInts
import KE.KDictCopyH
import HandS.NoneIn
import HandS.FStr
import HandS.Text
import HandS.RaiseMore
import PyProof.StrBlock2
import PySem.Challenge.RW_seenbefore_k77_streams_written_and_read
set_option Elab.async false
set_option linter.all false
set_option maxRecDepth 100000
/-! Dicts whose keys are data: numbers, texts, None, tuples of such. -/
namespace Sb
open PySem PySem.Spec L2

section
variable {prog : Program} {w : World} {A : Around} {E : Value → Shared → Prop} {s : Shared}
theorem nd_eq {x y : NestedKey} {a b : Value} {Q : Bool → Shared → Prop} (room : A.units + 8 < cLine) (hx : NestedIs s.heap x a) (hy : NestedIs s.heap y b) (dx : x.depth ≤ 8) (h : Q (decide (x = y)) s) :
    wpAny (model prog w) A (eqBool a b) Q E s := eqAt_key x y A s a b hx hy (by omega) _ _ _ _ (by rw [← NestedKey.decide_eq]; exact h)
theorem nd_quiet {x : NestedKey} {a : Value} {Q : Bool → Shared → Prop} (hx : NestedIs s.heap x a) (dx : x.depth ≤ 8) (h : Q true s) : wpAny (model prog w) A (eqIsQuiet 8 a) Q E s :=
  quiet_key x a 8 s hx dx A E Q h
theorem nd_silent {x : NestedKey} {a : Value} {vs : List Value} {Q : Bool → Shared → Prop} (hx : NestedIs s.heap x a) (dx : x.depth ≤ 8) (hv : ∀ v ∈ vs, ∃ y, NestedIs s.heap y v ∧ y.depth ≤ 8) (h : Q false s) :
    wpAny (model prog w) A (tableMayTell a vs) Q E s := by
  unfold tableMayTell
  split
  · exact wpAny_pure h
  refine wpAny_bind (nd_quiet hx dx ?_)
  rw [if_neg (by decide)]
  refine wpAny_bind (wpAny_forIn_list _ (fun rest r t => t = s ∧ r = (none, ()) ∧ ∀ v ∈ rest, ∃ y, NestedIs s.heap y v ∧ y.depth ≤ 8) _ ?_ ?_ _ _ ⟨rfl, rfl, hv⟩)
  · rintro v rest r t ⟨e1, e2, hr⟩
    subst e1 e2
    obtain ⟨y, hy, dy⟩ := hr v List.mem_cons_self
    refine wpAny_bind (nd_quiet hy dy ?_)
    rw [if_neg (by decide)]
    exact wpAny_pure ⟨rfl, rfl, fun u hu => hr u (List.mem_cons_of_mem _ hu)⟩
  · rintro r t ⟨e1, e2, _⟩
    subst e1 e2
    exact wpAny_pure h

/-- the entries of a dict have these keys -/
structure Ents (w : World) (h : Heap) (es : Array DictEntry) (ks : List NestedKey) : Prop where
  size : es.size = ks.length
  at_ : ∀ (i : Nat) (k : NestedKey), ks[i]? = some k → ∃ e, es[i]? = some e ∧ e.hash = k.hash w ∧ NestedIs h k e.key ∧ k.depth ≤ 8
  nodup : ks.Nodup
theorem Ents.back {h : Heap} {es : Array DictEntry} {ks : List NestedKey} (x : Ents w h es ks) {i : Nat} {e : DictEntry} (he : es[i]? = some e) : ∃ k, ks[i]? = some k ∧ e.hash = k.hash w ∧ NestedIs h k e.key ∧ k.depth ≤ 8 := by
  obtain ⟨hi, _⟩ := Array.getElem?_eq_some_iff.mp he
  have hk : i < ks.length := by rw [← x.size]; exact hi
  obtain ⟨e', h1, h2⟩ := x.at_ i ks[i] (List.getElem?_eq_getElem hk)
  rw [he] at h1; cases h1
  exact ⟨_, List.getElem?_eq_getElem hk, h2⟩
theorem one_place {ks : List NestedKey} (n : ks.Nodup) {i j : Nat} {k : NestedKey} (hi : ks[i]? = some k) (hj : ks[j]? = some k) : i = j :=
  (List.getElem?_inj (List.getElem?_eq_some_iff.mp hi).1 n).mp (hi.trans hj.symm)
/-- dictFind's last loop -/
def findLoop (d : Addr) (key : Value) (h : Int) (es : Array DictEntry) (places : List Nat) (stored : List Value) (tells : Bool) : Sem (Option Nat) := do
  let mut hit : Option Nat := none
  for i in places do
    if let some e := es[i]? then
      if e.hash == h then
        let before ← dictEpoch d (keyPart key)
        let same ← eqBool e.key key
        if (← dictEpoch d (keyPart key)) != before then unsupported "dict.changed-during-lookup"
        if same then
          if hit.isSome then unsupported "dict.find:order-among-keys-of-one-hash"
          rule "dict.find.hit"
          if stored.length < 2 then return some i
          hit := some i
        else
          rule "dict.find.same-hash-other-key"
          if tells && !(0 ≤ h && h < 32) then unsupported "dict.find:asked-again-or-not-hangs-on-the-table"
  return hit
def findTold (d : Addr) (key : Value) (h : Int) (es : Array DictEntry) (places : List Nat) (stored : List Value) : Sem (Option Nat) := do
  let tells ← if stored == [key] then pure false else tableMayTell key stored
  if tells && stored.length ≥ 2 then unsupported "dict.find:order-among-keys-of-one-hash"
  findLoop d key h es places stored tells
def findMid (d : Addr) (key : Value) (h : Int) (es : Array DictEntry) (places : List Nat) (stored : List Value) : Sem (Option Nat) := do
  if let .ref _ := key then
    if es.any fun e => e.key == key && e.hash != h then unsupported "dict.find:a-stored-key-whose-hash-has-changed"
  findTold d key h es places stored
/-- what dictFind does behind its short way for texts -/
def findBehind (d : Addr) (key : Value) (h : Int) (es : Array DictEntry) : Sem (Option Nat) := do
  let places := placesWithHash es.size (fun i => es[i]?.map (·.hash)) h
  let stored := places.filterMap fun i => es[i]?.map (·.key)
  if (key :: stored).all carriedByValue then return ← dictWalkPlain d key h es places
  findMid d key h es places stored
theorem find_text {d : Addr} {x : Str} {t : Tok} {h : Int} : dictFind d (.str x t) h = holding [.str x t] (do
    let es ← dictEntries d (keyPart (.str x t))
    if es.all fun e => isExactStrKey e.key then return ← foundByValue d (.str x t) es x
    findBehind d (.str x t) h es) := rfl
theorem find_other {d : Addr} {key : Value} {h : Int} (hn : ∀ x t, key ≠ .str x t) : dictFind d key h = holding [key] (do
    let es ← dictEntries d (keyPart key)
    findBehind d key h es) := by
  cases key <;> first | rfl | exact absurd rfl (hn _ _)

theorem mem_places {n : Nat} {f : Nat → Option Int} {h : Int} {i : Nat} : i ∈ placesWithHash n f h ↔ i < n ∧ f i = some h := by
  unfold placesWithHash
  rw [List.mem_filter, List.mem_range, beq_iff_eq]
theorem nodup_places {n : Nat} {f : Nat → Option Int} {h : Int} : (placesWithHash n f h).Nodup := List.Pairwise.filter _ List.nodup_range

theorem nd_behind {d : Addr} {o : Obj} {es : Array DictEntry} {ep : Nat} {ks : List NestedKey} {k : NestedKey} {u : Value} {Q : Option Nat → Shared → Prop} (room : A.units + 8 < cLine) (hk : NestedIs s.heap k u) (dk : k.depth ≤ 8)
    (ho : s.heap.get? d = some o) (hd : o.data = .dict es ep) (x : Ents w s.heap es ks) (hnone : k ∉ ks → Q none s) (hsome : ∀ j, ks[j]? = some k → Q (some j) s) :
    wpAny (model prog w) A (findBehind d u (k.hash w) es) Q E s := by
  have atp : ∀ j, ks[j]? = some k → j ∈ placesWithHash es.size (fun i => es[i]?.map (·.hash)) (k.hash w) := fun j hj => by
    obtain ⟨e, e1, e2, _⟩ := x.at_ j k hj
    exact mem_places.mpr ⟨(Array.getElem?_eq_some_iff.mp e1).1, by rw [e1, Option.map_some, e2]⟩
  have none_of : (∀ j, ks[j]? = some k → False) → k ∉ ks := fun h m => by
    obtain ⟨j, hj⟩ := List.mem_iff_getElem?.mp m
    exact h j hj
  have nd := nodup_places (n := es.size) (f := fun i => es[i]?.map (·.hash)) (h := k.hash w)
  have inp : ∀ i ∈ placesWithHash es.size (fun i => es[i]?.map (·.hash)) (k.hash w), ∃ e k', es[i]? = some e ∧ e.hash = k.hash w ∧ ks[i]? = some k' ∧ NestedIs s.heap k' e.key ∧ k'.depth ≤ 8 := fun i hi => by
    obtain ⟨h1, h2⟩ := mem_places.mp hi
    obtain ⟨e, e1, e2⟩ := Option.map_eq_some_iff.mp h2
    obtain ⟨k', k1, _, k2, k3⟩ := x.back e1
    exact ⟨e, k', e1, e2, k1, k2, k3⟩
  unfold findBehind
  dsimp only
  by_cases hv : ((u :: (placesWithHash es.size (fun i => es[i]?.map (·.hash)) (k.hash w)).filterMap fun i => es[i]?.map (·.key)).all carriedByValue) = true
  · rw [if_pos hv]
    unfold dictWalkPlain
    refine wpAny_bind ?_
    refine wpAny_forIn_list _ (fun rest b t => t = s ∧ b = (none, ()) ∧ (∀ i ∈ rest, i ∈ placesWithHash es.size (fun i => es[i]?.map (·.hash)) (k.hash w)) ∧ ∀ j, ks[j]? = some k → j ∈ rest) _ ?_ ?_ _ _ ⟨rfl, rfl, fun _ h => h, atp⟩
    · rintro i rest b t ⟨e1, e2, hr, hj⟩
      subst e1 e2
      obtain ⟨e, k', e1, e2, k1, k2, k3⟩ := inp i (hr i List.mem_cons_self)
      rw [e1]
      dsimp only
      rw [if_pos (by rw [e2]; exact beq_self_eq_true _)]
      refine wpAny_bind (wpAny_dictEpoch ho hd (wpAny_bind (nd_eq room k2 hk k3 (wpAny_bind (wpAny_dictEpoch ho hd ?_)))))
      rw [if_neg (by simp)]
      by_cases hkk : k' = k
      · rw [decide_eq_true hkk, if_pos rfl]
        subst hkk
        exact wpAny_bind (wpAny_rule (wpAny_pure (wpAny_pure (hsome i k1))))
      · rw [decide_eq_false hkk, if_neg (by decide)]
        refine wpAny_bind (wpAny_rule (wpAny_pure ⟨rfl, rfl, fun i hi => hr i (List.mem_cons_of_mem _ hi), fun j h => ?_⟩))
        rcases List.mem_cons.mp (hj j h) with z | z
        · subst z; rw [k1] at h; cases h; exact absurd rfl hkk
        · exact z
    · rintro b t ⟨e1, e2, hr, hj⟩
      subst e1 e2
      exact wpAny_pure (hnone (none_of fun j h => by cases hj j h))
  · rw [if_neg hv]
    clear hv
    generalize (placesWithHash es.size (fun i => es[i]?.map (·.hash)) (k.hash w)) = ps at atp nd inp
    have hst : ∀ v ∈ ps.filterMap fun i => es[i]?.map (·.key), ∃ y, NestedIs s.heap y v ∧ y.depth ≤ 8 := fun v hv => by
      obtain ⟨i, hi, e0⟩ := List.mem_filterMap.mp hv
      obtain ⟨e, k', e1, _, _, k2, k3⟩ := inp i hi
      rw [e1] at e0; cases e0
      exact ⟨k', k2, k3⟩
    have hany : ¬ (es.any fun e => e.key == u && e.hash != k.hash w) = true := by
      intro hc
      obtain ⟨i, hi, q⟩ := Array.any_eq_true.mp hc
      rw [Bool.and_eq_true, beq_iff_eq, bne_iff_ne] at q
      obtain ⟨k', _, k1, k2, _⟩ := x.back (Array.getElem?_eq_getElem hi)
      rw [q.1] at k2
      rw [NestedIs.inj _ _ _ k2 hk] at k1
      exact q.2 k1
    generalize (ps.filterMap fun i => es[i]?.map (·.key)) = st at hst
    have last : wpAny (model prog w) A (findTold d u (k.hash w) es ps st) Q E s := by
      have lp : wpAny (model prog w) A (findLoop d u (k.hash w) es ps st false) Q E s := by
        unfold findLoop
        refine wpAny_bind ?_
        refine wpAny_forIn_list _ (fun rest (b : Option (Option Nat) × Option Nat) t => t = s ∧ b.1 = none ∧ (∀ i ∈ rest, i ∈ ps) ∧ rest.Nodup ∧ ((b.2 = none ∧ ∀ j, ks[j]? = some k → j ∈ rest) ∨ ∃ j, b.2 = some j ∧ ks[j]? = some k ∧ j ∉ rest)) _ ?_ ?_ _ _ ⟨rfl, rfl, fun _ h => h, nd, .inl ⟨rfl, atp⟩⟩
        · rintro i rest ⟨b1, b2⟩ t ⟨e1, e2, hr, hn, hj⟩
          dsimp only at e2 hj
          subst e1 e2
          obtain ⟨hni, hn'⟩ := List.nodup_cons.mp hn
          obtain ⟨e, k', e1, e2, k1, k2, k3⟩ := inp i (hr i List.mem_cons_self)
          rw [e1]
          dsimp only
          rw [if_pos (by rw [e2]; exact beq_self_eq_true _)]
          refine wpAny_bind (wpAny_dictEpoch ho hd (wpAny_bind (nd_eq room k2 hk k3 (wpAny_bind (wpAny_dictEpoch ho hd ?_)))))
          rw [if_neg (by simp)]
          by_cases hkk : k' = k
          · rw [decide_eq_true hkk, if_pos rfl]
            subst hkk
            rcases hj with ⟨rfl, hj⟩ | ⟨j, rfl, hj1, hj2⟩
            · rw [if_neg (by decide)]
              refine wpAny_bind (wpAny_rule ?_)
              by_cases hl : st.length < 2
              · rw [if_pos hl]
                exact wpAny_pure (wpAny_pure (hsome i k1))
              · rw [if_neg hl]
                exact wpAny_pure ⟨rfl, rfl, fun i hi => hr i (List.mem_cons_of_mem _ hi), hn', .inr ⟨i, rfl, k1, hni⟩⟩
            · exact absurd (one_place x.nodup hj1 k1 ▸ List.mem_cons_self) hj2
          · rw [decide_eq_false hkk, if_neg (by decide)]
            refine wpAny_bind (wpAny_rule ?_)
            rw [if_neg (by simp)]
            refine wpAny_pure ⟨rfl, rfl, fun i hi => hr i (List.mem_cons_of_mem _ hi), hn', ?_⟩
            rcases hj with ⟨rfl, hj⟩ | ⟨j, rfl, hj1, hj2⟩
            · refine .inl ⟨rfl, fun j h => ?_⟩
              rcases List.mem_cons.mp (hj j h) with z | z
              · subst z; rw [k1] at h; cases h; exact absurd rfl hkk
              · exact z
            · exact .inr ⟨j, rfl, hj1, fun m => hj2 (List.mem_cons_of_mem _ m)⟩
        · rintro ⟨b1, b2⟩ t ⟨e1, e2, hr, hn, hj⟩
          dsimp only at e2 hj
          subst e1 e2
          rcases hj with ⟨rfl, hj⟩ | ⟨j, rfl, hj1, hj2⟩
          · exact wpAny_pure (hnone (none_of fun j h => by cases hj j h))
          · exact wpAny_pure (hsome j hj1)
      unfold findTold
      by_cases hone : (st == [u]) = true
      · rw [if_pos hone]
        exact wpAny_bind (wpAny_pure lp)
      · rw [if_neg hone]
        exact wpAny_bind (nd_silent hk dk hst lp)
    unfold findMid
    cases u with
    | ref a =>
      dsimp only
      rw [if_neg hany]
      exact last
    | _ => exact last
/-- a key is found at its place, or not -/
theorem nd_find {d : Addr} {o : Obj} {es : Array DictEntry} {ep : Nat} {ks : List NestedKey} {k : NestedKey} {u : Value} {Q : Option Nat → Shared → Prop} (room : A.units + 8 < cLine) (hk : NestedIs s.heap k u) (dk : k.depth ≤ 8)
    (ho : s.heap.get? d = some o) (hd : o.data = .dict es ep) (x : Ents w s.heap es ks) (hnone : k ∉ ks → Q none s) (hsome : ∀ j, ks[j]? = some k → Q (some j) s) :
    wpAny (model prog w) A (dictFind d u (k.hash w)) Q E s := by
  have last := nd_behind (prog := prog) (E := E) room hk dk ho hd x hnone hsome
  have other : (∀ y t, u ≠ .str y t) → wpAny (model prog w) A (dictFind d u (k.hash w)) Q E s := fun hn => by
    rw [find_other hn]
    exact wpAny_holding (wpAny_bind (wpAny_dictEntries ho hd last))
  cases hk with
  | text y t =>
    rw [find_text]
    refine wpAny_holding (wpAny_bind (wpAny_dictEntries ho hd ?_))
    by_cases hall : (es.all fun e => isExactStrKey e.key) = true
    · rw [if_pos hall]
      have isk : ∀ (i : Nat) (e : DictEntry) (k' : NestedKey), es[i]? = some e → ks[i]? = some k' → (e.key.isStr y = true ↔ k' = .text y) := fun i e k' h1 h2 => by
        obtain ⟨e', h3, _, h4, _⟩ := x.at_ i k' h2
        rw [h1] at h3; cases h3
        have h5 : isExactStrKey e.key = true := by
          obtain ⟨hi, rfl⟩ := Array.getElem?_eq_some_iff.mp h1
          exact (Array.all_eq_true.mp hall) i hi
        cases hkey : e.key with
        | str z t' =>
          rw [hkey] at h4
          cases h4
          show (z == y) = true ↔ _
          simp
        | _ => rw [hkey] at h5; exact absurd h5 Bool.false_ne_true
      unfold foundByValue
      cases hf : es.findIdx? (fun e => e.key.isStr y) with
      | none =>
        refine wpAny_pure (hnone fun m => ?_)
        obtain ⟨j, hj⟩ := List.mem_iff_getElem?.mp m
        obtain ⟨e, h3, _⟩ := x.at_ j _ hj
        have := Array.findIdx?_eq_none_iff.mp hf e (Array.mem_of_getElem? h3)
        rw [(isk j e _ h3 hj).mpr rfl] at this
        cases this
      | some i =>
        obtain ⟨hlt, hi, _⟩ := Array.findIdx?_eq_some_iff_getElem.mp hf
        obtain ⟨k', k1, k2, k3, k4⟩ := x.back (Array.getElem?_eq_getElem hlt)
        have hkk := (isk i _ _ (Array.getElem?_eq_getElem hlt) k1).mp hi
        subst hkk
        dsimp only
        rw [Array.getElem?_eq_getElem hlt]
        dsimp only
        refine wpAny_bind (wpAny_dictEpoch ho hd (wpAny_bind (nd_eq room k3 (.text y t) k4 (wpAny_bind (wpAny_dictEpoch ho hd ?_)))))
        rw [if_neg (by simp), decide_eq_true rfl, if_pos rfl]
        exact wpAny_bind (wpAny_rule (wpAny_pure (hsome i k1)))
    · rw [if_neg hall]
      exact last
  | none => exact other fun _ _ h => by cases h
  | bool h => exact other fun _ _ h => by cases h
  | int i t => exact other fun _ _ h => by cases h
  | tup h1 h2 h3 h4 => exact other fun _ _ h => by cases h
end
end Sb

/-! Dicts over data keys: the operations, over the heap. -/
namespace Sb
open PySem PySem.Spec L2

/-! ### entries as lists -/
section
variable {α β : Type}
abbrev NL (α β : Type) := List (NestedKey × α × β)
def ngetp (es : NL α β) (k : NestedKey) : Option (α × β) := (es.find? fun e => decide (e.1 = k)).map (·.2)
def nput (es : NL α β) (k : NestedKey) (a : α) (b : β) : NL α β := if k ∈ es.map (·.1) then es.map fun e => if e.1 = k then (e.1, e.2.1, b) else e else es ++ [(k, a, b)]
def ndrop (es : NL α β) (k : NestedKey) : NL α β := es.filter fun e => !decide (e.1 = k)
theorem ngetp_at : ∀ {es : NL α β} {i : Nat} {k : NestedKey} {p : α × β}, (es.map (·.1)).Nodup → es[i]? = some (k, p) → ngetp es k = some p
  | [], _, _, _, _, h => by simp at h
  | e :: es, 0, k, p, _, h => by
    simp only [List.getElem?_cons_zero, Option.some.injEq] at h
    subst h
    simp [ngetp]
  | e :: es, i + 1, k, p, n, h => by
    simp only [List.map_cons, List.nodup_cons] at n
    simp only [List.getElem?_cons_succ] at h
    have hm : k ∈ es.map (·.1) := List.mem_map.mpr ⟨(k, p), List.mem_of_getElem? h, rfl⟩
    have hk : ¬ e.1 = k := fun z => n.1 (z ▸ hm)
    have ih := ngetp_at n.2 h
    simpa [ngetp, List.find?_cons, hk] using ih
theorem ngetp_none {es : NL α β} {k : NestedKey} (h : k ∉ es.map (·.1)) : ngetp es k = none := by
  unfold ngetp
  rw [Option.map_eq_none_iff, List.find?_eq_none]
  intro e he hk
  exact h (List.mem_map.mpr ⟨e, he, of_decide_eq_true hk⟩)
theorem keys_at {es : NL α β} {i : Nat} {k : NestedKey} (h : (es.map (·.1))[i]? = some k) : ∃ p, es[i]? = some (k, p) := by
  rw [List.getElem?_map] at h
  obtain ⟨e, h1, h2⟩ := Option.map_eq_some_iff.mp h
  exact ⟨e.2, by rw [h1, ← h2]⟩
theorem nput_keys {es : NL α β} {k : NestedKey} {a : α} {b : β} : (nput es k a b).map (·.1) = if k ∈ es.map (·.1) then es.map (·.1) else es.map (·.1) ++ [k] := by
  unfold nput
  split
  · rw [List.map_map]
    refine List.map_congr_left fun e _ => ?_
    simp only [Function.comp]
    split <;> rfl
  · simp
theorem nput_nodup {es : NL α β} {k : NestedKey} {a : α} {b : β} (n : (es.map (·.1)).Nodup) : ((nput es k a b).map (·.1)).Nodup := by
  rw [nput_keys]
  split
  · exact n
  · rename_i h
    refine List.nodup_append.mpr ⟨n, by simp, fun x hx y hy => ?_⟩
    simp only [List.mem_singleton] at hy
    subst hy
    exact fun z => h (z ▸ hx)
theorem nput_mem {es : NL α β} {k : NestedKey} {a : α} {b : β} {x : NestedKey × α × β} (h : x ∈ nput es k a b) : (∃ e ∈ es, e.1 = x.1 ∧ e.2.1 = x.2.1 ∧ (e.2.2 = x.2.2 ∨ (x.1 = k ∧ x.2.2 = b))) ∨ x = (k, a, b) := by
  unfold nput at h
  split at h
  · obtain ⟨e, he, rfl⟩ := List.mem_map.mp h
    refine .inl ⟨e, he, ?_⟩
    split
    · rename_i z; exact ⟨rfl, rfl, .inr ⟨z, rfl⟩⟩
    · exact ⟨rfl, rfl, .inl rfl⟩
  · rcases List.mem_append.mp h with h | h
    · exact .inl ⟨x, h, rfl, rfl, .inl rfl⟩
    · simp only [List.mem_singleton] at h; exact .inr h
theorem ndrop_nodup {es : NL α β} {k : NestedKey} (n : (es.map (·.1)).Nodup) : ((ndrop es k).map (·.1)).Nodup := by
  unfold ndrop
  exact n.sublist (List.filter_sublist.map _)
theorem nput_modify {γ : Type} (f : NestedKey × α × β → γ) (g : γ → γ) (k : NestedKey) (a : α) (b : β) (hg : ∀ x y, g (f (k, x, y)) = f (k, x, b)) : ∀ {es : NL α β} {j : Nat} {p : α × β}, (es.map (·.1)).Nodup → es[j]? = some (k, p) → (es.map f).modify j g = (nput es k a b).map f := by
  intro es j p n h
  have hm : k ∈ es.map (·.1) := List.mem_map.mpr ⟨(k, p), List.mem_of_getElem? h, rfl⟩
  unfold nput
  rw [if_pos hm]
  refine List.ext_getElem? fun i => ?_
  rw [List.getElem?_modify, List.getElem?_map, List.getElem?_map, List.getElem?_map]
  cases e : es[i]? with
  | none => rfl
  | some x =>
    have hx : (x.1 = k) ↔ j = i := by
      constructor
      · intro z
        refine one_place n (k := k) ?_ ?_
        · rw [List.getElem?_map, h]; rfl
        · rw [List.getElem?_map, e]; exact congrArg some z
      · intro z
        subst z
        rw [h] at e; cases e; rfl
    obtain ⟨x1, x2, x3⟩ := x
    by_cases z : j = i
    · have := hx.mpr z
      simp only at this
      subst this
      simp [z, hg]
    · have : ¬ x1 = k := fun q => z (hx.mp q)
      simp [z, this]
theorem ndrop_erase {es : NL α β} {j : Nat} {k : NestedKey} {p : α × β} (n : (es.map (·.1)).Nodup) (h : es[j]? = some (k, p)) : es.eraseIdx j = ndrop es k := by
  induction es generalizing j with
  | nil => simp at h
  | cons e es ih =>
    simp only [List.map_cons, List.nodup_cons] at n
    cases j with
    | zero =>
      simp only [List.getElem?_cons_zero, Option.some.injEq] at h
      subst h
      have : es.filter (fun e => !decide (e.1 = k)) = es := by
        refine List.filter_eq_self.mpr fun x hx => ?_
        have : ¬ x.1 = k := fun z => n.1 (z ▸ List.mem_map.mpr ⟨x, hx, rfl⟩)
        simp [this]
      simp [ndrop, List.filter_cons, this]
    | succ j =>
      simp only [List.getElem?_cons_succ] at h
      have hm : k ∈ es.map (·.1) := List.mem_map.mpr ⟨(k, p), List.mem_of_getElem? h, rfl⟩
      have hk : ¬ e.1 = k := fun z => n.1 (z ▸ hm)
      have := ih n.2 h
      simp only [ndrop] at this
      simp [ndrop, List.filter_cons, hk, this]
end

/-! ### the dict in the heap -/
def entN (w : World) (e : NestedKey × Value × Value) : DictEntry := ⟨e.1.hash w, e.2.1, e.2.2⟩
structure NAt (w : World) (h : Heap) (d : Addr) (es : NL Value Value) : Prop where
  low : (d == sysModules) = false
  len : es.length ≤ sizeLine
  obj : ∃ o arr ep, h.get? d = some o ∧ o.ExactDict ∧ o.data = .dict arr ep ∧ arr.toList = es.map (entN w)
  key : ∀ e ∈ es, NestedIs h e.1 e.2.1 ∧ e.1.depth ≤ 8
  nodup : (es.map (·.1)).Nodup
theorem arr_at {w : World} {arr : Array DictEntry} {es : NL Value Value} (he : arr.toList = es.map (entN w)) (i : Nat) : arr[i]? = (es[i]?).map (entN w) := by rw [← Array.getElem?_toList, he, List.getElem?_map]
theorem arr_size {w : World} {arr : Array DictEntry} {es : NL Value Value} (he : arr.toList = es.map (entN w)) : arr.size = es.length := by rw [← Array.length_toList, he, List.length_map]
theorem ents_of {w : World} {h : Heap} {arr : Array DictEntry} {es : NL Value Value} (he : arr.toList = es.map (entN w)) (hk : ∀ e ∈ es, NestedIs h e.1 e.2.1 ∧ e.1.depth ≤ 8) (n : (es.map (·.1)).Nodup) : Ents w h arr (es.map (·.1)) where
  size := by rw [arr_size he, List.length_map]
  at_ := fun i k e => by
    obtain ⟨p, hp⟩ := keys_at e
    have := hk _ (List.mem_of_getElem? hp)
    exact ⟨entN w (k, p), by rw [arr_at he, hp]; rfl, rfl, this.1, this.2⟩
  nodup := n
theorem nested_but {d : Addr} {h h' : Heap} {o : Obj} {arr : Array DictEntry} {ep : Nat} (ho : h.get? d = some o) (hd : o.data = .dict arr ep) (hs : Heap.SameBut d h h') {k : NestedKey} {v : Value} (x : NestedIs h k v) : NestedIs h' k v :=
  NestedIs.at (fun b ob vs n e q => by
    by_cases z : b = d
    · subst z; rw [ho] at e; cases e; rw [hd] at q; cases q
    · exact (hs.2 b z).trans e) k v x
section
variable {prog : Program} {w : World} {A : Around} {E : Value → Shared → Prop} {s : Shared} {d : Addr} {es : NL Value Value} {k : NestedKey} {u v : Value}
theorem NAt.typeIs (x : NAt w s.heap d es) : s.TypeIs (.ref d) "dict" := let ⟨o, _, _, ho, hc, _⟩ := x.obj; ⟨o, ho, hc.1⟩
theorem NAt.plain (x : NAt w s.heap d es) : ∀ b, Value.ref d = .ref b → ∃ ob, s.heap.get? b = some ob ∧ ob.dict = none := fun b q => by
  cases q
  obtain ⟨o, _, _, ho, hc, _⟩ := x.obj
  exact ⟨o, ho, hc.2.1⟩
theorem nd_hash {Q : Int → Shared → Prop} (room : A.units + 8 < cLine) (hk : NestedIs s.heap k u) (dk : k.depth ≤ 8) (h : Q (k.hash w) { s with toks := s.toks + k.draws }) : wpAny (model prog w) A (pyHash u) Q E s :=
  pyHash_key k u A s Q hk (by omega) h
theorem nd_get {Q : Option Value → Shared → Prop} (room : A.units + 8 < cLine) (hk : NestedIs s.heap k u) (dk : k.depth ≤ 8) (x : NAt w s.heap d es) (h : Q ((ngetp es k).map (·.2)) { s with toks := s.toks + k.draws }) :
    wpAny (model prog w) A (dictGet d u) Q E s := by
  obtain ⟨o, arr, ep, ho, _, hd, he⟩ := x.obj
  unfold dictGet
  refine wpAny_holding (wpAny_bind (nd_hash room hk dk (wpAny_bind ?_)))
  refine nd_find (s := { s with toks := s.toks + k.draws }) room hk dk ho hd (ents_of he x.key x.nodup) (fun hn => ?_) fun j hj => ?_
  · rw [ngetp_none hn] at h
    exact wpAny_pure h
  · obtain ⟨p, hp⟩ := keys_at hj
    rw [ngetp_at x.nodup hp] at h
    refine wpAny_bind (wpAny_dictEntries (s := { s with toks := s.toks + k.draws }) ho hd ?_)
    rw [arr_at he, hp]
    exact wpAny_pure h
theorem nd_set {Q : Unit → Shared → Prop} (room : A.units + 8 < cLine) (hk : NestedIs s.heap k u) (dk : k.depth ≤ 8) (x : NAt w s.heap d es) (hl : es.length < sizeLine)
    (h : ∀ h', NAt w h' d (nput es k u v) → Heap.SameBut d s.heap h' → Q () { s with heap := h', toks := s.toks + k.draws }) : wpAny (model prog w) A (dictSet d u v) Q E s := by
  obtain ⟨o, arr, ep, ho, hc, hd, he⟩ := x.obj
  have ln : (nput es k u v).length ≤ sizeLine := by
    unfold nput
    split
    · rw [List.length_map]; exact x.len
    · rw [List.length_append]; exact hl
  have kn : ∀ h', Heap.SameBut d s.heap h' → ∀ e ∈ nput es k u v, NestedIs h' e.1 e.2.1 ∧ e.1.depth ≤ 8 := fun h' hs e he' => by
    rcases nput_mem he' with ⟨e', m, e1, e2, _⟩ | e1
    · have := x.key e' m
      rw [← e1, ← e2]
      exact ⟨nested_but ho hd hs this.1, this.2⟩
    · rw [e1]; exact ⟨nested_but ho hd hs hk, dk⟩
  unfold dictSet
  refine wpAny_holding (wpAny_bind (nd_hash room hk dk ?_))
  unfold dictSetHashed
  refine wpAny_holding (wpAny_bind ?_)
  refine nd_find (s := { s with toks := s.toks + k.draws }) room hk dk ho hd (ents_of he x.key x.nodup) (fun hn => ?_) fun j hj => ?_
  · refine wpAny_bind (wpAny_rule (wpAny_updateDictKeys (hz := by have e := arr_size he; have := x.len; omega) (s := { s with toks := s.toks + k.draws }) ho hd (h _ ⟨x.low, ln, ⟨_, _, ep + 1, Heap.get?_update_self _ ho (Obj.isFreed_of_dict (Obj.data_mapDictKeys hd _)), hc.mapDictKeys _, Obj.data_mapDictKeys hd _, ?_⟩, kn _ (Heap.SameBut.update ..), nput_nodup x.nodup⟩ (Heap.SameBut.update ..))))
    unfold nput
    rw [if_neg hn]
    simp [he, entN]
  · obtain ⟨p, hp⟩ := keys_at hj
    refine wpAny_bind (wpAny_rule (wpAny_bind (wpAny_updateDict (s := { s with toks := s.toks + k.draws }) ho hd (wpAny_point (h _ ⟨x.low, ln, ⟨_, _, ep, Heap.get?_update_self _ ho (Obj.isFreed_of_dict (Obj.data_mapDict hd _)), hc.mapDict _, Obj.data_mapDict hd _, ?_⟩, kn _ (Heap.SameBut.update ..), nput_nodup x.nodup⟩ (Heap.SameBut.update ..))))))
    have := nput_modify (entN w) (fun e : DictEntry => { e with val := v }) k u v (fun _ _ => rfl) x.nodup hp
    rw [← he] at this
    obtain ⟨l⟩ := arr
    simpa using this
theorem nd_take {Q : Option DictEntry → Shared → Prop} {p : Value × Value} (room : A.units + 8 < cLine) (hk : NestedIs s.heap k u) (dk : k.depth ≤ 8) (x : NAt w s.heap d es) (hp : ngetp es k = some p)
    (h : ∀ e h', e.val = p.2 → NAt w h' d (ndrop es k) → Heap.SameBut d s.heap h' → Q (some e) { s with heap := h', toks := s.toks + k.draws }) : wpAny (model prog w) A (Builtin.Dict.takeOut d u) Q E s := by
  obtain ⟨o, arr, ep, ho, hc, hd, he⟩ := x.obj
  unfold Builtin.Dict.takeOut
  refine wpAny_holding (wpAny_bind (nd_hash room hk dk (wpAny_bind ?_)))
  refine nd_find (s := { s with toks := s.toks + k.draws }) room hk dk ho hd (ents_of he x.key x.nodup) (fun hn => ?_) fun j hj => ?_
  · rw [ngetp_none hn] at hp; cases hp
  · obtain ⟨p', hp'⟩ := keys_at hj
    rw [ngetp_at x.nodup hp'] at hp; cases hp
    refine wpAny_bind (wpAny_dictEntries (s := { s with toks := s.toks + k.draws }) ho hd ?_)
    rw [arr_at he, hp']
    refine wpAny_bind (wpAny_updateDictKeys (hz := by have e := arr_size he; have := x.len; omega) (s := { s with toks := s.toks + k.draws }) ho hd (wpAny_pure (h _ _ rfl ⟨x.low, ?_, ⟨_, _, ep + 1, Heap.get?_update_self _ ho (Obj.isFreed_of_dict (Obj.data_mapDictKeys hd _)), hc.mapDictKeys _, Obj.data_mapDictKeys hd _, ?_⟩, fun e m => ?_, ndrop_nodup x.nodup⟩ (Heap.SameBut.update ..))))
    · exact Nat.le_trans (List.length_filter_le _ _) x.len
    · rw [← ndrop_erase x.nodup hp', PySem.map_eraseIdx, ← he]
      obtain ⟨l⟩ := arr
      simp
    · have := x.key e ((List.mem_filter.mp m).1)
      exact ⟨nested_but ho hd (Heap.SameBut.update ..) this.1, this.2⟩
end
end Sb

/-! Dicts over data keys: what Python does with them. -/
namespace Sb
open PySem PySem.Spec L2

section
variable {prog : Program} {w : World} {A : Around} {E : Value → Shared → Prop} {s : Shared} {d : Addr} {es : NL Value Value} {k : NestedKey} {u v : Value}
theorem room1 (h : A.units + 9 < cLine) : A.in1.units + 8 < cLine := by
  show A.units + 1 + 8 < cLine
  omega
theorem nd_contains {Q : Value → Shared → Prop} (room : A.units + 9 < cLine) (hk : NestedIs s.heap k u) (dk : k.depth ≤ 8) (x : NAt w s.heap d es) (h : Q (.bool (ngetp es k).isSome) { s with toks := s.toks + k.draws }) :
    wpAny (model prog w) A (compareOp .In u (.ref d)) Q E s := by
  show wpAny _ _ (do return .bool (← contains (.ref d) u)) Q E s
  refine wpAny_bind ?_
  unfold contains
  refine wpAny_holding (wpAny_bind (wpAny_specialOf x.typeIs slot_dict_contains.lookup ?_))
  show wpAny _ _ (if (some (Value.builtin "dict.__contains__") == some Value.none) = true then _ else _) _ E s
  rw [if_neg (by rw [beq_builtin_none]; exact Bool.false_ne_true)]
  refine wpAny_bind (wpAny_callSpecialUnlessNone?_slot (name := Str.ofString "__contains__") x.typeIs slot_dict_contains (wpAny_call_entry slot_dict_contains x.typeIs entry_dict_contains ?_ (args_dict_contains _ _)))
  show wpAny _ _ (dictGet d u >>= _) _ _ s
  refine wpAny_bind (nd_get (room1 room) hk dk x ?_)
  cases hf : ngetp es k with
  | some p =>
    rw [hf] at h
    show wpAny _ _ (ret (.bool true)) _ _ _
    exact wpAny_pure ⟨_, rfl, wpAny_truthy_bool (wpAny_pure h)⟩
  | none =>
    rw [hf] at h
    show wpAny _ _ (Builtin.Dict.pendingKey? d u >>= _) _ _ _
    exact wpAny_bind (wpAny_pendingKey_other x.low (wpAny_pure ⟨_, rfl, wpAny_truthy_bool (wpAny_pure h)⟩))
theorem nd_ncontains {Q : Value → Shared → Prop} (room : A.units + 9 < cLine) (hk : NestedIs s.heap k u) (dk : k.depth ≤ 8) (x : NAt w s.heap d es) (h : Q (.bool (!(ngetp es k).isSome)) { s with toks := s.toks + k.draws }) :
    wpAny (model prog w) A (compareOp .NotIn u (.ref d)) Q E s := by
  show wpAny _ _ (do return .bool (!(← contains (.ref d) u))) Q E s
  refine wpAny_bind ?_
  unfold contains
  refine wpAny_holding (wpAny_bind (wpAny_specialOf x.typeIs slot_dict_contains.lookup ?_))
  show wpAny _ _ (if (some (Value.builtin "dict.__contains__") == some Value.none) = true then _ else _) _ E s
  rw [if_neg (by rw [beq_builtin_none]; exact Bool.false_ne_true)]
  refine wpAny_bind (wpAny_callSpecialUnlessNone?_slot (name := Str.ofString "__contains__") x.typeIs slot_dict_contains (wpAny_call_entry slot_dict_contains x.typeIs entry_dict_contains ?_ (args_dict_contains _ _)))
  show wpAny _ _ (dictGet d u >>= _) _ _ s
  refine wpAny_bind (nd_get (room1 room) hk dk x ?_)
  cases hf : ngetp es k with
  | some p =>
    rw [hf] at h
    show wpAny _ _ (ret (.bool true)) _ _ _
    exact wpAny_pure ⟨_, rfl, wpAny_truthy_bool (wpAny_pure h)⟩
  | none =>
    rw [hf] at h
    show wpAny _ _ (Builtin.Dict.pendingKey? d u >>= _) _ _ _
    exact wpAny_bind (wpAny_pendingKey_other x.low (wpAny_pure ⟨_, rfl, wpAny_truthy_bool (wpAny_pure h)⟩))
theorem nd_item {Q : Value → Shared → Prop} {p : Value × Value} (room : A.units + 9 < cLine) (hk : NestedIs s.heap k u) (dk : k.depth ≤ 8) (x : NAt w s.heap d es) (hp : ngetp es k = some p) (h : Q p.2 { s with toks := s.toks + k.draws }) :
    wpAny (model prog w) A (getItem (.ref d) u) Q E s := by
  unfold getItem
  refine wpAny_holding (wpAny_bind (wpAny_sequenceKey x.typeIs (by decide) ?_))
  refine wpAny_bind (wpAny_callSpecial?_slot (name := Str.ofString "__getitem__") x.typeIs slot_dict_getitem (wpAny_call_entry slot_dict_getitem x.typeIs entry_dict_getitem ?_ (args_dict_getitem _ _)))
  show wpAny _ _ (dictGet d u >>= _) _ _ s
  refine wpAny_bind (nd_get (room1 room) hk dk x ?_)
  rw [hp]
  exact wpAny_pure ⟨p.2, rfl, wpAny_pure h⟩
theorem nd_store {Q : Unit → Shared → Prop} (room : A.units + 9 < cLine) (hk : NestedIs s.heap k u) (dk : k.depth ≤ 8) (x : NAt w s.heap d es) (hl : es.length < sizeLine)
    (h : ∀ h', NAt w h' d (nput es k u v) → Heap.SameBut d s.heap h' → Q () { s with heap := h', toks := s.toks + k.draws }) : wpAny (model prog w) A (setItem (.ref d) u v) Q E s := by
  unfold setItem
  refine wpAny_holding (wpAny_bind (wpAny_sequenceKey x.typeIs (by decide) ?_))
  refine wpAny_bind (wpAny_callSpecial?_slot (name := Str.ofString "__setitem__") x.typeIs slot_dict_setitem (wpAny_call_entry slot_dict_setitem x.typeIs entry_dict_setitem ?_ (args_dict_setitem _ _ _)))
  show wpAny _ _ (Builtin.Dict.notOrdered "__setitem__" ⟨[.ref d, u, v], []⟩ >>= _) _ _ s
  refine wpAny_bind (wpAny_notOrdered_dict x.typeIs ?_)
  show wpAny _ _ (dictSet d u v >>= _) _ _ s
  exact wpAny_bind (nd_set (room1 room) hk dk x hl fun h' x' hs => wpAny_pure ⟨.none, rfl, wpAny_pure (h h' x' hs)⟩)
theorem nd_meets_get (d : Addr) (u : Value) : MeetsIn prog w (Builtin.«dict.get» ⟨[.ref d, u], []⟩) (fun A R s => A.units + 9 < cLine ∧ ∃ k es, NestedIs s.heap k u ∧ k.depth ≤ 8 ∧ NAt w s.heap d es ∧ R (.ok (.ret (((ngetp es k).map (·.2)).getD .none))) { s with toks := s.toks + k.draws }) :=
  .of_wp fun A R s ⟨room, k, es, hk, dk, x, h⟩ => by
    show wpAny _ _ (dictGet d u >>= _) _ _ s
    refine wpAny_bind (nd_get (room1 room) hk dk x ?_)
    cases hf : (ngetp es k).map (·.2) with
    | some y =>
      rw [hf] at h
      exact wpAny_pure ⟨y, rfl, h⟩
    | none =>
      rw [hf] at h
      show wpAny _ _ (Builtin.Dict.missed d u >>= _) _ _ _
      exact wpAny_bind (wpAny_missed_other x.low (wpAny_pure ⟨.none, rfl, h⟩))
theorem nd_meets_getD (d : Addr) (u y : Value) : MeetsIn prog w (Builtin.«dict.get» ⟨[.ref d, u, y], []⟩) (fun A R s => A.units + 9 < cLine ∧ ∃ k es, NestedIs s.heap k u ∧ k.depth ≤ 8 ∧ NAt w s.heap d es ∧ R (.ok (.ret (((ngetp es k).map (·.2)).getD y))) { s with toks := s.toks + k.draws }) :=
  .of_wp fun A R s ⟨room, k, es, hk, dk, x, h⟩ => by
    show wpAny _ _ (dictGet d u >>= _) _ _ s
    refine wpAny_bind (nd_get (room1 room) hk dk x ?_)
    cases hf : (ngetp es k).map (·.2) with
    | some z =>
      rw [hf] at h
      exact wpAny_pure ⟨z, rfl, h⟩
    | none =>
      rw [hf] at h
      show wpAny _ _ (Builtin.Dict.missed d u >>= _) _ _ _
      exact wpAny_bind (wpAny_missed_other x.low (wpAny_pure ⟨y, rfl, h⟩))
/-- d.pop(k), the key there -/
theorem nd_meets_pop (d : Addr) (u : Value) : MeetsIn prog w (Builtin.«dict.pop» ⟨[.ref d, u], []⟩) (fun A R s => A.units + 9 < cLine ∧ ∃ k es p, NestedIs s.heap k u ∧ k.depth ≤ 8 ∧ NAt w s.heap d es ∧ ngetp es k = some p ∧
      ∀ h', NAt w h' d (ndrop es k) → Heap.SameBut d s.heap h' → R (.ok (.ret p.2)) { s with heap := h', toks := s.toks + k.draws }) :=
  .of_wp fun A R s ⟨room, k, es, p, hk, dk, x, hp, h⟩ => by
    obtain ⟨o, arr, ep, ho, hc, hd, he⟩ := x.obj
    unfold Builtin.«dict.pop»
    refine wpAny_bind ?_
    unfold Builtin.Dict.keyAndDefault
    refine wpAny_bind (wpAny_notOrdered_dict x.typeIs ?_)
    show wpAny _ _ (pure (d, u, none)) _ _ s
    refine wpAny_pure ?_
    have ne : arr.isEmpty = false := by
      cases hq : arr.isEmpty with
      | false => rfl
      | true =>
        have h0 : arr.size = 0 := by simpa using hq
        have : es = [] := List.length_eq_zero_iff.mp (by rw [← arr_size he]; exact h0)
        subst this
        cases hp
    have fin : ∀ (e : DictEntry) (h' : Heap), e.val = p.2 → NAt w h' d (ndrop es k) → Heap.SameBut d s.heap h' → wpAny (model prog w) A.in1 (do letGo [e.key] [e.val]; ret e.val) (fun fin s' => ∃ v, fin = .done (Flow.ret v) ∧ R (Except.ok (Flow.ret v)) s') (fun e s' => R (Except.error e) s') { s with heap := h', toks := s.toks + k.draws } :=
      fun e h' hv x' hs => wpAny_bind (wpAny_letGo (wpAny_pure ⟨e.val, rfl, by rw [hv]; exact h h' x' hs⟩))
    dsimp only
    by_cases hq : (keyPart u).isSome = true
    · rw [if_pos hq]
      refine wpAny_bind (wpAny_pure ?_)
      rw [if_neg (by decide)]
      refine wpAny_bind (nd_take (room1 room) hk dk x hp fun e h' hv x' hs => ?_)
      exact fin e h' hv x' hs
    · rw [if_neg hq]
      refine wpAny_bind (wpAny_dictEntries ho hd (wpAny_bind (wpAny_pure ?_)))
      rw [ne, if_neg (by decide)]
      refine wpAny_bind (nd_take (room1 room) hk dk x hp fun e h' hv x' hs => ?_)
      exact fin e h' hv x' hs
end

/-! ### keys as values -/
mutual
def KeyV (K : PySem.W.Frag) (H : Hp) : NestedKey → V → Prop
  | .none, v => v = .non
  | .num i, v => v = .int i
  | .text x, v => v = .str x
  | .tup ks, v => ∃ a xs, v = .ref a ∧ SqT K H a xs ∧ KeyVs K H ks xs
def KeyVs (K : PySem.W.Frag) (H : Hp) : List NestedKey → List V → Prop
  | [], xs => xs = []
  | k :: ks, xs => ∃ y ys, xs = y :: ys ∧ KeyV K H k y ∧ KeyVs K H ks ys
end
section
variable {X : Cx} {pins : List (Addr × Obj)} {σ : L2.St} {H : Hp} {s : Shared}
mutual
theorem KeyV.nested (I : Inv X pins σ H s) : ∀ (k : NestedKey) (v : V) (u : Value), KeyV X.K H k v → RelV v u → NestedIs s.heap k u
  | .none, v, u, h, r => by simp only [KeyV] at h; subst h; cases (show u = Value.none from r); exact .none
  | .num i, v, u, h, r => by simp only [KeyV] at h; subst h; obtain ⟨t, rfl⟩ := (show ∃ t, u = Value.int i t from r); exact .int i t
  | .text x, v, u, h, r => by simp only [KeyV] at h; subst h; obtain ⟨t, rfl⟩ := (show ∃ t, u = Value.str x t from r); exact .text x t
  | .tup ks, v, u, h, r => by
    simp only [KeyV] at h
    obtain ⟨a, xs, rfl, hT, hs⟩ := h
    cases (show u = Value.ref a from r)
    obtain ⟨its, rv, ⟨o, ho, hc, n, hd⟩, _⟩ := I.tuple hT
    exact .tup ho hc hd (by simpa using KeyVs.nested I ks xs its hs rv)
theorem KeyVs.nested (I : Inv X pins σ H s) : ∀ (ks : List NestedKey) (xs : List V) (us : List Value), KeyVs X.K H ks xs → Vals xs us → NestedAll s.heap ks us
  | [], xs, us, h, r => by simp only [KeyVs] at h; subst h; cases r; exact .nil
  | k :: ks, xs, us, h, r => by
    simp only [KeyVs] at h
    obtain ⟨y, ys, rfl, h1, h2⟩ := h
    cases r with
    | cons r1 r2 => exact .cons (KeyV.nested I k y _ h1 r1) (KeyVs.nested I ks ys _ h2 r2)
end
end

/-! ### the dict as an object of the abstract heap -/
def EntR (e : NestedKey × V × V) (x : NestedKey × Value × Value) : Prop := e.1 = x.1 ∧ RelV e.2.1 x.2.1 ∧ RelV e.2.2 x.2.2
def NObj (w : World) (h : Heap) (d : Addr) (es : NL Value Value) : Prop := (d == sysModules) = false ∧ es.length ≤ sizeLine ∧ (∃ o arr ep, h.get? d = some o ∧ o.ExactDict ∧ o.data = .dict arr ep ∧ arr.toList = es.map (entN w)) ∧ (es.map (·.1)).Nodup
def NdO (w : World) (d : Addr) (es : NL V V) : HO := .ext fun h => ∃ xs, NObj w h d xs ∧ Paired EntR es xs
/-- the keys as they ought to be -/
def NdK (K : PySem.W.Frag) (H : Hp) (es : NL V V) : Prop := ∀ e ∈ es, KeyV K H e.1 e.2.1 ∧ e.1.depth ≤ 8
theorem _root_.PySem.Paired.nkeys {es : NL V V} {xs : NL Value Value} (p : Paired EntR es xs) : xs.map (·.1) = es.map (·.1) := by
  induction p with
  | nil => rfl
  | cons a b ih => simp only [List.map_cons, ih, a.1]
theorem _root_.PySem.Paired.nlen {α β : Type} {R : α → β → Prop} {es : List α} {xs : List β} (p : Paired R es xs) : xs.length = es.length := by
  induction p with
  | nil => rfl
  | cons a b ih => simp only [List.length_cons, ih]
theorem _root_.PySem.Paired.nmem {α β : Type} {R : α → β → Prop} {es : List α} {xs : List β} (p : Paired R es xs) {x : β} (h : x ∈ xs) : ∃ e ∈ es, R e x := by
  induction p with
  | nil => cases h
  | cons a b ih =>
    rcases List.mem_cons.mp h with h | h
    · subst h; exact ⟨_, List.mem_cons_self, a⟩
    · obtain ⟨e, he, r⟩ := ih h; exact ⟨e, List.mem_cons_of_mem _ he, r⟩
theorem _root_.PySem.Paired.nget {es : NL V V} {xs : NL Value Value} (p : Paired EntR es xs) (k : NestedKey) : match ngetp es k, ngetp xs k with
    | some a, some b => RelV a.1 b.1 ∧ RelV a.2 b.2
    | none, none => True
    | _, _ => False := by
  induction p with
  | nil => trivial
  | @cons e x es xs a b ih =>
    obtain ⟨e1, e2, e3⟩ := e
    obtain ⟨x1, x2, x3⟩ := x
    obtain ⟨h1, h2⟩ := a
    simp only at h1
    subst h1
    by_cases z : e1 = k
    · subst z; simpa [ngetp, List.find?_cons] using h2
    · simpa [ngetp, List.find?_cons, z] using ih
theorem _root_.PySem.Paired.nput {es : NL V V} {xs : NL Value Value} (p : Paired EntR es xs) (k : NestedKey) {a b : V} {a' b' : Value} (ha : RelV a a') (hb : RelV b b') : Paired EntR (nput es k a b) (nput xs k a' b') := by
  unfold Sb.nput
  rw [p.nkeys]
  split
  · rename_i hh
    clear hh
    induction p with
    | nil => exact .nil
    | @cons e x es xs r t ih =>
      obtain ⟨e1, e2, e3⟩ := e
      obtain ⟨x1, x2, x3⟩ := x
      obtain ⟨h1, h2, h3⟩ := r
      simp only at h1
      subst h1
      refine .cons ?_ ih
      by_cases z : e1 = k
      · simp only [z, if_true]; exact ⟨rfl, h2, hb⟩
      · simp only [z, if_false]; exact ⟨rfl, h2, h3⟩
  · exact p.snoc ⟨rfl, ha, hb⟩
theorem _root_.PySem.Paired.ndrop {es : NL V V} {xs : NL Value Value} (p : Paired EntR es xs) (k : NestedKey) : Paired EntR (ndrop es k) (ndrop xs k) := by
  unfold Sb.ndrop
  induction p with
  | nil => exact .nil
  | @cons e x es xs r t ih =>
    obtain ⟨e1, e2, e3⟩ := e
    obtain ⟨x1, x2, x3⟩ := x
    obtain ⟨h1, h2, h3⟩ := r
    simp only at h1
    subst h1
    by_cases z : e1 = k
    · simpa [List.filter_cons, z] using ih
    · simp only [List.filter_cons, z, decide_false, Bool.not_false, if_true]
      exact .cons ⟨rfl, h2, h3⟩ ih
theorem ndo_stay {w : World} {d : Addr} {es : NL V V} {h1 h2 : Heap} (x : ∃ xs, NObj w h1 d xs ∧ Paired EntR es xs) (k : ∀ o, h1.get? d = some o → h2.get? d = some o) : ∃ xs, NObj w h2 d xs ∧ Paired EntR es xs := by
  obtain ⟨xs, ⟨a, b, ⟨o, arr, ep, ho, r⟩, c⟩, p⟩ := x
  exact ⟨xs, ⟨a, b, ⟨o, arr, ep, k o ho, r⟩, c⟩, p⟩
theorem ndo_new {w : World} {P : Program} {H : Hp} {h : Heap} {d : Addr} {es : NL V V} {xs : NL Value Value} (x : NAt w h d xs) (p : Paired EntR es xs) : ObjOk P w H h d (NdO w d es) :=
  ⟨⟨xs, ⟨x.low, x.len, x.obj, x.nodup⟩, p⟩, let ⟨o, _, _, ho, _⟩ := x.obj; ⟨o, ho⟩, fun _ _ a k => ndo_stay a k⟩
section
variable {X : Cx} {pins : List (Addr × Obj)} {σ : L2.St} {H : Hp} {s : Shared} {a : Addr} {es : NL V V} {k : NestedKey} {y v : V} {u r : Value} {A : Around} {E : Value → Shared → Prop}
theorem ndo_get (I : Inv X pins σ H s) (e : Rd H a (NdO X.w a es)) (kk : NdK X.K H es) : ∃ xs, NAt X.w s.heap a xs ∧ Paired EntR es xs := by
  obtain ⟨xs, ⟨h1, h2, h3, h4⟩, p⟩ := (e.ok I.hok).1
  refine ⟨xs, ⟨h1, h2, h3, fun x hx => ?_, h4⟩, p⟩
  obtain ⟨e, he, r1, r2, _⟩ := p.nmem hx
  obtain ⟨q1, q2⟩ := kk e he
  rw [← r1]
  exact ⟨KeyV.nested I _ _ _ q1 r2, q2⟩
def nval (es : NL V V) (k : NestedKey) : Option V := (ngetp es k).map (·.2)
theorem nval_some {xs : NL Value Value} (p : Paired EntR es xs) (h : nval es k = some v) : ∃ q, ngetp xs k = some q ∧ RelV v q.2 := by
  have := p.nget k
  unfold nval at h
  obtain ⟨z, hz, rfl⟩ := Option.map_eq_some_iff.mp h
  rw [hz] at this
  cases e : ngetp xs k with
  | none => rw [e] at this; exact this.elim
  | some q => rw [e] at this; exact ⟨q, rfl, this.2⟩
theorem nval_isSome {xs : NL Value Value} (p : Paired EntR es xs) : (ngetp xs k).isSome = (nval es k).isSome := by
  have := p.nget k
  unfold nval
  cases e : ngetp es k <;> cases e' : ngetp xs k <;> rw [e, e'] at this <;> first | rfl | exact this.elim
theorem nval_getD {xs : NL Value Value} {d : V} {d' : Value} (p : Paired EntR es xs) (hd : RelV d d') : RelV ((nval es k).getD d) (((ngetp xs k).map (·.2)).getD d') := by
  have := p.nget k
  unfold nval
  cases e : ngetp es k <;> cases e' : ngetp xs k <;> rw [e, e'] at this
  · exact hd
  · exact this.elim
  · exact this.elim
  · exact this.2
theorem ndo_write {h' : Heap} {t' : Nat} {es' : NL V V} {xs' : NL Value Value} (I : Inv X pins σ H s) (e : H a = some (NdO X.w a es)) (hs : Heap.SameBut a s.heap h') (x : NAt X.w h' a xs') (p : Paired EntR es' xs') : Inv X pins σ (upd H a (NdO X.w a es')) { s with heap := h', toks := t' } :=
  I.write (x := a) (e := a) (by rw [e]; exact True.intro) (.inl rfl) (fun b q hb z => (hs.2 b hb).trans z) (let ⟨o, _, _, ho, _⟩ := x.obj; ⟨o, ho⟩) (ndo_new x p)
theorem ndr_item {Q : Value → Shared → Prop} (room : A.units + 9 < cLine) (I : Inv X pins σ H s) (e : Rd H a (NdO X.w a es)) (kk : NdK X.K H es) (hk : KeyV X.K H k y) (dk : k.depth ≤ 8) (ry : RelV y u) (hv : nval es k = some v) (h : ∀ w' s', Inv X pins σ H s' → RelV v w' → Q w' s') :
    wpAny (model X.prog X.w) A (getItem (.ref a) u) Q E s := by
  obtain ⟨xs, x, p⟩ := ndo_get I e kk
  obtain ⟨q, hq, rq⟩ := nval_some p hv
  exact nd_item room (KeyV.nested I _ _ _ hk ry) dk x hq (h _ _ (I.tok _) rq)
theorem ndr_in {Q : Value → Shared → Prop} (room : A.units + 9 < cLine) (I : Inv X pins σ H s) (e : Rd H a (NdO X.w a es)) (kk : NdK X.K H es) (hk : KeyV X.K H k y) (dk : k.depth ≤ 8) (ry : RelV y u) (h : ∀ s', Inv X pins σ H s' → Q (.bool (nval es k).isSome) s') :
    wpAny (model X.prog X.w) A (compareOp .In u (.ref a)) Q E s := by
  obtain ⟨xs, x, p⟩ := ndo_get I e kk
  refine nd_contains room (KeyV.nested I _ _ _ hk ry) dk x ?_
  rw [nval_isSome p]
  exact h _ (I.tok _)
theorem ndr_notin {Q : Value → Shared → Prop} (room : A.units + 9 < cLine) (I : Inv X pins σ H s) (e : Rd H a (NdO X.w a es)) (kk : NdK X.K H es) (hk : KeyV X.K H k y) (dk : k.depth ≤ 8) (ry : RelV y u) (h : ∀ s', Inv X pins σ H s' → Q (.bool (!(nval es k).isSome)) s') :
    wpAny (model X.prog X.w) A (compareOp .NotIn u (.ref a)) Q E s := by
  obtain ⟨xs, x, p⟩ := ndo_get I e kk
  refine nd_ncontains room (KeyV.nested I _ _ _ hk ry) dk x ?_
  rw [nval_isSome p]
  exact h _ (I.tok _)
theorem ndr_store {Q : Unit → Shared → Prop} (room : A.units + 9 < cLine) (I : Inv X pins σ H s) (e : H a = some (NdO X.w a es)) (kk : NdK X.K H es) (hl : es.length < sizeLine) (hk : KeyV X.K H k y) (dk : k.depth ≤ 8) (ry : RelV y u) (rv : RelV v r)
    (h : ∀ s', Inv X pins σ (upd H a (NdO X.w a (nput es k y v))) s' → Q () s') : wpAny (model X.prog X.w) A (setItem (.ref a) u r) Q E s := by
  obtain ⟨xs, x, p⟩ := ndo_get I (.of e) kk
  exact nd_store room (KeyV.nested I _ _ _ hk ry) dk x (by rw [p.nlen]; exact hl) fun h' x' hs => h _ (ndo_write I e hs x' (p.nput k ry rv))
theorem ndr_set {Q : Unit → Shared → Prop} (room : A.units + 8 < cLine) (I : Inv X pins σ H s) (e : H a = some (NdO X.w a es)) (kk : NdK X.K H es) (hl : es.length < sizeLine) (hk : KeyV X.K H k y) (dk : k.depth ≤ 8) (ry : RelV y u) (rv : RelV v r)
    (h : ∀ s', Inv X pins σ (upd H a (NdO X.w a (nput es k y v))) s' → Q () s') : wpAny (model X.prog X.w) A (dictSet a u r) Q E s := by
  obtain ⟨xs, x, p⟩ := ndo_get I (.of e) kk
  exact nd_set room (KeyV.nested I _ _ _ hk ry) dk x (by rw [p.nlen]; exact hl) fun h' x' hs => h _ (ndo_write I e hs x' (p.nput k ry rv))
theorem ndr_get1 {Q : Value → Shared → Prop} (room : A.units + 9 < cLine) (I : Inv X pins σ H s) (e : Rd H a (NdO X.w a es)) (kk : NdK X.K H es) (hk : KeyV X.K H k y) (dk : k.depth ≤ 8) (ry : RelV y u) (h : ∀ w' s', Inv X pins σ H s' → RelV ((nval es k).getD .non) w' → Q w' s') :
    wpAny (model X.prog X.w) A (call (.builtin "dict.get") [.ref a, u]) Q E s := by
  obtain ⟨xs, x, p⟩ := ndo_get I e kk
  exact call_meetsIn PySem.F.slot_dict_get x.typeIs PySem.F.entry_dict_get (PySem.F.args_dict_get_2 _ _) (nd_meets_get a u) ⟨room, k, xs, KeyV.nested I _ _ _ hk ry, dk, x, h _ _ (I.tok _) (nval_getD p rfl)⟩
theorem ndr_get2 {Q : Value → Shared → Prop} {d : V} {d' : Value} (room : A.units + 9 < cLine) (I : Inv X pins σ H s) (e : Rd H a (NdO X.w a es)) (kk : NdK X.K H es) (hk : KeyV X.K H k y) (dk : k.depth ≤ 8) (ry : RelV y u) (rd : RelV d d') (h : ∀ w' s', Inv X pins σ H s' → RelV ((nval es k).getD d) w' → Q w' s') :
    wpAny (model X.prog X.w) A (call (.builtin "dict.get") [.ref a, u, d']) Q E s := by
  obtain ⟨xs, x, p⟩ := ndo_get I e kk
  exact call_meetsIn PySem.F.slot_dict_get x.typeIs PySem.F.entry_dict_get (PySem.F.args_dict_get_3 _ _ _) (nd_meets_getD a u d') ⟨room, k, xs, KeyV.nested I _ _ _ hk ry, dk, x, h _ _ (I.tok _) (nval_getD p rd)⟩
theorem ndr_pop {Q : Value → Shared → Prop} (room : A.units + 9 < cLine) (I : Inv X pins σ H s) (e : H a = some (NdO X.w a es)) (kk : NdK X.K H es) (hk : KeyV X.K H k y) (dk : k.depth ≤ 8) (ry : RelV y u) (hv : nval es k = some v) (h : ∀ w' s', Inv X pins σ (upd H a (NdO X.w a (ndrop es k))) s' → RelV v w' → Q w' s') :
    wpAny (model X.prog X.w) A (call (.builtin "dict.pop") [.ref a, u]) Q E s := by
  obtain ⟨xs, x, p⟩ := ndo_get I (.of e) kk
  obtain ⟨q, hq, rq⟩ := nval_some p hv
  exact call_meetsIn PySem.F.slot_dict_pop x.typeIs PySem.F.entry_dict_pop (PySem.F.args_dict_pop_2 _ _) (nd_meets_pop a u) ⟨room, k, xs, q, KeyV.nested I _ _ _ hk ry, dk, x, hq, fun h' x' hs => h _ _ (ndo_write I e hs x' (p.ndrop k)) rq⟩
theorem ndo_empty {P : Program} {w : World} {H : Hp} (h : Heap) (hb : sysModules < h.objs.size) : ObjOk P w H (h.push { cls := .type "dict", data := .dict #[] }) h.objs.size (NdO w h.objs.size []) :=
  ndo_new (xs := []) { low := beq_eq_false_iff_ne.mpr (Ne.symm (Nat.ne_of_lt hb)), len := Nat.zero_le _, obj := ⟨_, #[], 0, Heap.get?_push_size _ rfl, ⟨rfl, rfl, rfl⟩, rfl, rfl⟩, key := (fun _ h => nomatch h), nodup := List.nodup_nil } .nil
end
end Sb

/-! Walks: the keys of a dict over data keys, enumerate over a tuple. -/
namespace Sb
open PySem PySem.Spec L2

/-! ### the keys of a locked dict -/
theorem paired_at {α β : Type} {R : α → β → Prop} {l : List α} {m : List β} (p : Paired R l m) {i : Nat} {a : α} (h : l[i]? = some a) : ∃ b, m[i]? = some b ∧ R a b := by
  induction p generalizing i with
  | nil => simp at h
  | cons r t ih =>
    cases i with
    | zero => simp only [List.getElem?_cons_zero, Option.some.injEq] at h ⊢; subst h; exact ⟨_, rfl, r⟩
    | succ j => simp only [List.getElem?_cons_succ] at h ⊢; exact ih h
theorem ndo_lock {X : Cx} {pins : List (Addr × Obj)} {σ : L2.St} {H : Hp} {s : Shared} {d : Addr} {o : Obj} {es : NL V V} (I : Inv X pins σ H s) (h : H d = some (.frz o (NdO X.w d es))) :
    (d == sysModules) = false ∧ s.heap.get? d = some o ∧ o.ExactDict ∧ ∃ (arr : Array DictEntry) (ep : Nat), o.data = .dict arr ep ∧ arr.size = es.length ∧ ∀ (i : Nat) (e : NestedKey × V × V), es[i]? = some e → ∃ en, arr[i]? = some en ∧ RelV e.2.1 en.key ∧ RelV e.2.2 en.val := by
  obtain ⟨hd, ⟨xs, ⟨low, _, ⟨o', arr, ep, ho, hc, hda, he⟩, _⟩, p⟩, _⟩ := I.hok d _ h
  rw [hd] at ho; cases ho
  refine ⟨low, hd, hc, arr, ep, hda, (arr_size he).trans p.nlen, fun i e hi => ?_⟩
  obtain ⟨x, hx, _, r1, r2⟩ := paired_at p hi
  exact ⟨entN X.w x, by rw [arr_at he, hx]; rfl, r1, r2⟩
def Itn (w : World) (d : Addr) (o : Obj) (es : NL V V) : It :=
  ⟨fun i H => H d = some (.frz o (NdO w d es)) ∧ i < es.length, fun i H x H' => H' = H ∧ ∃ e, es[i]? = some e ∧ x = e.2.1, fun i H => H d = some (.frz o (NdO w d es)) ∧ es.length ≤ i⟩
theorem turn_nkeys {P : Program} {w : World} {K : PySem.W.Frag} {tg : Expr} {d : Addr} {o : Obj} {arr : Array DictEntry} {ep : Nat} {es : NL V V} (it : Addr) (hod : o.data = .dict arr ep) :
    Turn P w K tg (Itn w d o es) [it] it (fun i h => h.IsKeyIter it d i es.length ep) where
  mem := by simp
  obj := fun i h st b hb => by
    obtain rfl : b = it := by simpa using hb
    obtain ⟨oi, e, c, dd⟩ := st
    exact ⟨oi, e, fun v z => by rw [dd] at z; cases z⟩
  keep := fun i h h' st k => st.at fun oi e => k it (by simp) oi e
  item := by
    intro X hP hw hK hc i pins s σ H E I hf st hg
    subst hP hw hK
    obtain ⟨hd, hi⟩ := hg
    obtain ⟨f0, f1, f2, f3, f4, f5⟩ := hf it (by simp)
    obtain ⟨hs, hgd, hx, arr', ep', hdt, hsz, ent⟩ := ndo_lock I hd
    rw [hod] at hdt; cases hdt
    obtain ⟨e, he⟩ : ∃ p, es[i]? = some p := ⟨es[i], List.getElem?_eq_getElem hi⟩
    obtain ⟨en, hen, hkey, _⟩ := ent i e he
    refine next_key_item st hgd hod hsz hen fun h' st' sb => ?_
    have I1 : Inv X pins σ H { s with heap := h' } := I.turned (t' := s.toks) (fun b ob hb e => (sb.2 b hb).trans e) f0 f1 f3 f4 f5
    obtain ⟨oi, e1, c, dd⟩ := id st'
    exact ⟨en.key, rfl, go_of (s := { s with heap := h' }) e1 c dd (by decide) ⟨e.2.1, H, I1, hkey, ⟨rfl, e, he, rfl⟩, st', fun b hb => (hf b hb).1⟩⟩
  done := by
    intro X hP hw hK hc i pins s σ H E I hf st hg
    subst hP hw hK
    obtain ⟨hd, hi⟩ := hg
    obtain ⟨f0, f1, f2, f3, f4, f5⟩ := hf it (by simp)
    obtain ⟨hs, hgd, hx, arr', ep', hdt, hsz, ent⟩ := ndo_lock I hd
    rw [hod] at hdt; cases hdt
    exact next_key_end (I.ok.hd hc) st hgd hod hsz hi fun h' eb => ⟨rfl, I.turned (t' := s.toks) (fun b ob hb e => eb b ob hb e) f0 f1 f3 f4 f5⟩
  self := fun A i s Q E st h => by
    refine wpAny_pyIter_slot st.typeIs PySem.F.slot_dict_keyiterator_iter (wpAny_call_entry PySem.F.slot_dict_keyiterator_iter st.typeIs PySem.F.entry_dict_keyiterator_iter ?_ (PySem.F.args_dict_keyiterator_iter_1 _))
    show wpAny _ _ (ret (.ref it)) _ _ s
    exact wpAny_pure ⟨_, rfl, "dict_keyiterator", _, st.typeIs, PySem.F.slot_dict_keyiterator_next.lookup, h⟩
theorem pi_nkeys {X : Cx} {tg e : Expr} {td : TE} (he : PE X e td) : PI X tg e (fun σ H R => td σ H fun x H1 => ∃ d o es, x = .ref d ∧ H1 d = some (.frz o (NdO X.w d es)) ∧ R (Itn X.w d o es) H1) := by
  refine ⟨fun pins s σ H R I h => ?_⟩
  refine thn (he.run pins s σ H _ I h) fun u s1 ⟨x, H1, I1, rx, d, o, es, ex, hd, q⟩ => ?_
  subst ex
  obtain rfl : u = Value.ref d := rx
  obtain ⟨hs, hgd, hx, arr, ep, hdt, hsz, _⟩ := ndo_lock I1 hd
  refine iter_keys hs hgd hx hdt (pi_one (tk := s1.toks) I1 _ (turn_nkeys _ hdt) ⟨_, Heap.get?_push_size _ rfl, rfl, ?_⟩ q)
  rw [hsz] <;> rfl

/-! ### enumerate(t) -/
theorem meets_enum1 {v : Value} {o : Obj} {H : Heap → Prop} (B : Begins v o H) :
    Meets (Builtin.«enumerate.__new__» ⟨[.type "enumerate", v], []⟩) (fun _ R s => H s.heap ∧
      R (.ok (.ret (.ref (s.heap.push o).objs.size))) { s with heap := (s.heap.push o).push { cls := .type "enumerate", data := .fields #[.none, .bool false, .ref s.heap.objs.size, rawInt 0, .none, .none] } }) :=
  .of_wp fun prog w A R s h => by
    obtain ⟨hp, g, d, tk, os⟩ := s; obtain ⟨h1, h⟩ := h
    have hsub := sub_enumerate
    have go : ∀ {A' : Around} {E : Value → Shared → Prop} {Q : Value → Shared → Prop}, Q (.ref hp.objs.size) ⟨hp.push o, g, d, tk, os⟩ → wpAny (model prog w) A' (pyIter v) Q E ⟨hp, g, d, tk, os⟩ :=
      fun q => B.iter prog w _ _ ⟨hp, g, d, tk, os⟩ _ h1 q
    wp_walk using go
    refine wpAny_stack_any fun st => wpAny_pure ?_
    split
    · rename_i c _ _ _ _ _
      cases (c == Value.type "enumerate")
      · wp_walk using go
        exact ⟨_, rfl, h⟩
      · wp_walk using go
        exact ⟨_, rfl, h⟩
    · wp_walk using go
      exact ⟨_, rfl, h⟩

theorem enum1_new {prog : Program} {w : World} {A : Around} {E : Value → Shared → Prop} {s : Shared} {v : Value} {o : Obj} {H : Heap → Prop} {Q : Value → Shared → Prop} (B : Begins v o H) (h1 : H s.heap)
    (h : ∀ h', IsEnum h' (s.heap.objs.size + 1) s.heap.objs.size 0 .none → h'.get? s.heap.objs.size = some o → h'.objs.size = s.heap.objs.size + 2 → (∀ b o, s.heap.get? b = some o → h'.get? b = some o) → Q (.ref (s.heap.objs.size + 1)) { s with heap := h' }) :
    wpAny (model prog w) A (call (.type "enumerate") [v]) Q E s := by
  refine callType_new PySem.F.called_enumerate (by decide) (PySem.F.typeCall_enumerate_1 _) (PySem.F.newCall_enumerate_1 _) (fun obj => PySem.F.args_object_init_2 obj _) PySem.F.entry_enumerate_new (meets_enum1 B) ⟨h1, ?_⟩
  have z : (s.heap.push o).objs.size = s.heap.objs.size + 1 := Heap.size_push ..
  show _ ∧ _
  rw [z]
  have e : IsEnum ((s.heap.push o).push { cls := .type "enumerate", data := .fields #[.none, .bool false, .ref s.heap.objs.size, rawInt 0, .none, .none] }) (s.heap.objs.size + 1) s.heap.objs.size 0 .none := by
    have := Heap.get?_push_size (s.heap.push o) (o := { cls := .type "enumerate", data := .fields #[.none, .bool false, .ref s.heap.objs.size, rawInt 0, .none, .none] }) rfl
    rw [z] at this; exact this
  exact ⟨⟨_, e, rfl⟩, h _ e (Heap.get?_push_of_some _ (Heap.get?_push_size _ B.free)) (by rw [Heap.size_push, z]) fun b o x => Heap.get?_push_of_some _ (Heap.get?_push_of_some _ x)⟩
/-- the tuple at a, each item in a new pair with its place -/
def IteT (K : PySem.W.Frag) (a : Addr) : It :=
  ⟨fun i H => ∃ (xs : List V) (x : V), SqT K H a xs ∧ xs[i]? = some x, fun i H v H' => ∃ T x, ∃ o : Obj, v = .ref T ∧ H T = none ∧ o.dict = none ∧ H' = upd H T (.frz o (.tup [.int (i : Nat), x])) ∧ ∀ xs, SqT K H a xs → xs[i]? = some x, fun i H => ∃ xs : List V, SqT K H a xs ∧ xs.length = i⟩
theorem turn_enumT {P : Program} {w : World} {K : PySem.W.Frag} {elts : List Expr} {kk : Nat} {tpos : Pos} (a e it : Addr) (hai : a ≠ it) (hea : e ≠ a) :
    Turn P w K (.Tuple elts kk tpos) (IteT K a) [e, it] e (fun i h => (∃ old, IsEnum h e it ((i : Nat) : Int) old) ∧ h.IsTupleIter it a i ∧ e ≠ it) where
  mem := by simp
  obj := fun i h st b hb => by
    obtain ⟨⟨old, he⟩, ⟨o, ho, hc, hd⟩, _⟩ := st
    rcases (by simpa using hb : b = e ∨ b = it) with z | z
    · rw [z]; exact ⟨_, he, fun v q => nomatch q⟩
    · rw [z]; exact ⟨o, ho, fun v q => by rw [hd] at q; cases q⟩
  keep := fun i h h' st k => let ⟨⟨old, he⟩, hi, hne⟩ := st; ⟨⟨old, k e (by simp) _ he⟩, hi.at fun o q => k it (by simp) o q, hne⟩
  item := by
    intro X hP hw hK hc i pins s σ H E I hf st hg
    subst hP hw hK
    obtain ⟨⟨old, he⟩, hit, hne⟩ := st
    obtain ⟨xs, x, hq, hx⟩ := hg
    obtain ⟨its, rv, p, hz⟩ := I.tuple hq
    obtain ⟨u, hu, ru⟩ := rv.get hx
    have hel : e < s.heap.objs.size := Heap.lt_size he
    have hil : it < s.heap.objs.size := by obtain ⟨_, q, _⟩ := hit; exact Heap.lt_size q
    have hlt : i < its.toArray.size := by
      have := (List.getElem?_eq_some_iff.mp hu).1
      simpa using this
    have D := Draws.tuple (prog := X.prog) (w := X.w) (A := X.A.in1) (I.ok.hd hc) it a hai its.toArray
    refine wpAny_pyNext_enum_itemD D he ⟨hit, p⟩ hlt hne (by simp [hne, hea]) fun u' h' tk hu' ho hit' hT hsz hk => ?_
    have : u' = u := by
      have : its.toArray[i]? = some u := by simpa using hu
      rw [this] at hu'; exact (Option.some.inj hu').symm
    subst this
    refine ⟨_, rfl, wpAny_letOwnedTupleGo_enum (s := { s with heap := h', toks := tk + 1 }) ho fun h'' he' sb => ?_⟩
    have hT2 : h''.get? s.heap.objs.size = some { cls := .type "tuple", data := .seq #[.int i tk, u'] } := (sb.2 _ (Nat.ne_of_gt hel)).trans hT
    have new : ObjOk X.prog X.w (upd H s.heap.objs.size (.frz { cls := .type "tuple", data := .seq #[.int i tk, u'] } (.tup [.int (i : Nat), x]))) h'' s.heap.objs.size (.frz { cls := .type "tuple", data := .seq #[.int i tk, u'] } (.tup [.int (i : Nat), x])) :=
      ⟨hT2, by show 2 ≤ sizeLine; decide, [.int i tk, u'], .cons ⟨_, rfl⟩ (.cons ru .nil), ⟨_, hT2, rfl, _, rfl⟩⟩
    have I1 : Inv X pins σ (upd H s.heap.objs.size (.frz { cls := .type "tuple", data := .seq #[.int i tk, u'] } (.tup [.int (i : Nat), x]))) { s with heap := h'', toks := tk + 1 } :=
      I.turnedNew (ch := [e, it]) (fun b ob hb q => (sb.2 b (fun z => hb (by simp [z]))).trans (hk b ob (fun z => hb (by simp [z])) (fun z => hb (by simp [z])) q)) hf (Nat.le_refl _) new
    refine ⟨.ref s.heap.objs.size, _, I1, rfl, ⟨_, x, _, rfl, I.hok.fresh (Nat.le_refl _), rfl, rfl, fun ys hy => by rw [I.tuple_inj hy hq]; exact hx⟩, ⟨⟨u', ?_⟩, hit'.1.at fun o q => (sb.2 it (Ne.symm hne)).trans q, hne⟩, fun b hb => ?_⟩
    · have e1 : ((i + 1 : Nat) : Int) = (i : Int) + 1 := by omega
      rw [e1]; exact he'
    · have hb' : b < s.heap.objs.size := by
        rcases (by simpa using hb : b = e ∨ b = it) with z | z
        · rw [z]; exact hel
        · rw [z]; exact hil
      rw [upd_ne (Nat.ne_of_lt hb')]
      exact (hf b hb).1
  done := by
    intro X hP hw hK hc i pins s σ H E I hf st hg
    subst hP hw hK
    obtain ⟨⟨old, he⟩, hit, hne⟩ := st
    obtain ⟨xs, hq, hx⟩ := hg
    obtain ⟨its, rv, p, hz⟩ := I.tuple hq
    obtain ⟨f0, f1, f2, f3, f4, f5⟩ := hf it (by simp)
    have hl : its.toArray.size = i := by have := rv.length; simp; omega
    have D := Draws.tuple (prog := X.prog) (w := X.w) (A := X.A.in1) (I.ok.hd hc) it a hai its.toArray
    rw [hl] at D
    exact wpAny_pyNext_enum_endD D he ⟨hit, p⟩ fun h' eb => ⟨rfl, I.turned (t' := s.toks) (fun b o hb q => eb b o hb q) f0 f1 f3 f4 f5⟩
  self := fun A i s Q E st h => let ⟨⟨_, he⟩, _⟩ := st; wpAny_pyIter_enum he h
open PyProof.Rows in
theorem pi_enumT {X : Cx} {e : Expr} {ta : TA} {p pos tpos : Pos} {elts : List Expr} {kk : Nat} (hg : Gl X "enumerate") (hm : X.mg "enumerate" = none) (ha : PA X [e] ta) (hs : starEach [e] X.env = [(false, eval e X.env)] := by rfl) :
    PI X (.Tuple elts kk tpos) (.Call (.Name "enumerate" p) [e] [] pos) (fun σ H R => ta σ H fun vs H1 => ∃ a xs, vs = [.ref a] ∧ SqT X.K H1 a xs ∧ R (IteT X.K a) H1) := by
  refine ⟨fun pins s σ H R I h => ?_⟩
  refine Call_ (ld_blt I hg hm PyProof.Rows.boot_enumerate (PyProof.Rows.callWith_type1 (thn (ha.run pos pins s σ H _ I h) fun us s1 ⟨vs, H1, I1, r1, q1⟩ => ?_) hs rfl))
  obtain ⟨a, xs, ex, hq, q⟩ := q1
  subst ex
  cases r1 with
  | cons r rr =>
    cases rr
    cases r
    obtain ⟨its, rv, p', hz⟩ := I1.tuple hq
    refine enum1_new (begins_tuple a its.toArray) p' fun h' he hit hsz hk => wpAny_pyIter_enum he ?_
    have I2 : Inv X pins σ H1 { s1 with heap := h' } := I1.kept (t' := s1.toks) hk
    have la : a < s1.heap.objs.size := let ⟨_, q, _⟩ := p'; Heap.lt_size q
    refine ⟨s1.heap.objs.size + 1, [s1.heap.objs.size + 1, s1.heap.objs.size], _, _, H1, rfl, I2, turn_enumT a (s1.heap.objs.size + 1) s1.heap.objs.size (Nat.ne_of_lt la) (Nat.ne_of_gt (Nat.lt_succ_of_lt la)), ⟨⟨.none, he⟩, ⟨_, hit, rfl, rfl⟩, Nat.succ_ne_self _⟩, fun b hb => ?_, q⟩
    have hle : s1.heap.objs.size ≤ b := by
      rcases (by simpa using hb : b = s1.heap.objs.size + 1 ∨ b = s1.heap.objs.size) with z | z
      · rw [z]; exact Nat.le_add_right _ _
      · rw [z]; exact Nat.le_refl _
    exact I1.fpOk hle (I1.hok.fresh hle)
end Sb

/-! Tuples whose object is known to have no dict: what makes them. -/
namespace Sb
open PySem PySem.Spec PyProof.Rows L2

/-- a tuple without a dict -/
def SqN (K : PySem.W.Frag) (H : Hp) (a : Addr) (xs : List V) : Prop :=
  (∃ o, H a = some (.frz o (.tup xs)) ∧ o.dict = none) ∨
    ∃ (o : Obj) (its : Array Value) (n : Nat), K.lookup a = some o ∧ o.cls = .type "tuple" ∧ o.dict = none ∧ o.data = .seq its n ∧ its.size ≤ sizeLine ∧ Vals xs its.toList
theorem SqN.t {K : PySem.W.Frag} {H : Hp} {a : Addr} {xs : List V} (h : SqN K H a xs) : SqT K H a xs := by
  rcases h with ⟨o, h, _⟩ | ⟨o, its, n, h1, h2, _, h4, h5, h6⟩
  · exact .inl (.inr ⟨o, h⟩)
  · exact .inr ⟨o, its, n, h1, h2, h4, h5, h6⟩
/-- a new tuple wanted -/
def NewT (H : Hp) (xs : List V) (Q : VK) : Prop := ∀ p (o : Obj), H p = none → o.dict = none → Q (.ref p) (upd H p (.frz o (.tup xs)))
section
variable {X : Cx} {es : List Expr} {pos : Pos}
theorem laidN {pins : List (Addr × Obj)} {σ : L2.St} {H : Hp} {s : Shared} {its : List Value} {xs : List V} {t' : Nat} (I : Inv X pins σ H s) (r : Vals xs its) (hz : xs.length ≤ sizeLine) :
    Inv X pins σ (upd H s.heap.objs.size (.frz { cls := .type "tuple", data := .seq its.toArray } (.tup xs))) { s with heap := s.heap.push { cls := .type "tuple", data := .seq its.toArray }, toks := t' } :=
  I.laid (fun b u e => Heap.get?_push_of_some _ e) (Nat.le_refl _) ⟨Heap.get?_push_size _ rfl, hz, its, r, _, Heap.get?_push_size _ rfl, rfl, _, rfl⟩
def tTupN (t : TA) : TE := fun σ H Q => t σ H fun xs H1 => xs.length ≤ sizeLine ∧ NewT H1 xs Q
theorem pe_tupN {x1 : Nat} {t : TA} (h : PA X es t) : PE X (.Tuple es x1 pos) (tTupN t) := by
  refine ⟨fun pins s σ H Q I hq => ?_⟩
  refine wpAny_Tuple_spliced (thn (h.run pos pins s σ H _ I hq) fun us s1 ⟨xs, H1, I1, r, z, q⟩ => ⟨by rw [← r.length]; exact z, ?_⟩)
  exact ⟨.ref s1.heap.objs.size, _, laidN I1 r z, rfl, q _ _ (I1.hok.fresh (Nat.le_refl _)) rfl⟩
theorem call_tupN : CallR X (.type "tuple") (fun xs H Q => ∃ p ys, xs = [.ref p] ∧ ((SqL X.K H p ys ∧ NewT H ys Q) ∨ (SqT X.K H p ys ∧ Q (.ref p) H))) := by
  intro pins s σ H xs us Q I r h
  obtain ⟨p, ys, rfl, h⟩ := h
  obtain ⟨u, rfl, rx⟩ := vals1 r
  cases rx
  rcases h with ⟨hq, q⟩ | ⟨hq, q⟩
  · obtain ⟨its, r', pl, hz⟩ := I.list hq
    have hlen := r'.length
    refine call_tuple_list pl.isList (fun h' kp => ?_) (by simp only [List.size_toArray] <;> omega)
    have I1 : Inv X pins σ H { s with heap := h' } := I.kept (t' := s.toks) kp
    exact ⟨.ref h'.objs.size, _, laidN (t' := s.toks) I1 r' hz, rfl, q _ _ (I1.hok.fresh (Nat.le_refl _)) rfl⟩
  · obtain ⟨its, r', pl, hz⟩ := I.tuple hq
    exact call_tuple_same pl ⟨.ref p, H, I, rfl, q⟩
def rCatN (K : PySem.W.Frag) : R2 := fun x y H Q => ∃ a b xs ys, x = .ref a ∧ y = .ref b ∧ SqT K H a xs ∧ SqT K H b ys ∧ xs.length + ys.length ≤ sizeLine ∧
  (xs = [] → Q (.ref b) H) ∧ (xs ≠ [] → ys = [] → Q (.ref a) H) ∧ (xs ≠ [] → ys ≠ [] → NewT H (xs ++ ys) Q)
theorem op_catN : OpR X (binaryOp .Add) (rCatN X.K) := by
  intro pins s σ H x y v u Q I rx ry h
  obtain ⟨a, b, xs, ys, rfl, rfl, ha, hb, hz, q0, q1, q2⟩ := h
  cases rx
  cases ry
  obtain ⟨its, r1, p1, _⟩ := I.tuple ha
  obtain ⟨its2, r2, p2, _⟩ := I.tuple hb
  by_cases hx : xs = []
  · subst hx
    cases r1
    exact cat_tup0 p1 p2 ⟨.ref b, H, I, rfl, q0 rfl⟩
  · refine HT.cat_tup p1 p2 (fun z => hx (r1.nil_iff.mp z)) (fun z => ⟨.ref a, H, I, rfl, q1 hx (r2.nil_iff.mp z)⟩) (fun z => ?_) (by rw [← r1.length, ← r2.length]; exact hz)
    exact ⟨.ref s.heap.objs.size, _, laidN (t' := s.toks) I (r1.append r2) (by rw [List.length_append]; exact hz), rfl, q2 hx (fun w => z (r2.nil_iff.mpr w)) _ _ (I.hok.fresh (Nat.le_refl _)) rfl⟩
def rSlN (K : PySem.W.Frag) : V → Option Int → Option Int → Hp → VK → Prop := fun x lo hi H Q => ∃ a xs, x = .ref a ∧ SqT K H a xs ∧
  (HT.sIx xs.length 0 lo = 0 ∧ HT.sIx xs.length xs.length hi = xs.length → Q (.ref a) H) ∧ (¬ (HT.sIx xs.length 0 lo = 0 ∧ HT.sIx xs.length xs.length hi = xs.length) → NewT H (cutV xs lo hi) Q)
theorem sl_tupN : SlR X (rSlN X.K) := by
  intro pins s σ H x v vl vu lo hi sl Q I rx hs pl pu h
  obtain ⟨a, xs, rfl, hx, q1, q2⟩ := h
  cases rx
  obtain ⟨its, r, ht, hz⟩ := I.tuple hx
  have hlen : its.toArray.size = xs.length := by rw [List.size_toArray]; exact r.length.symm
  refine ⟨"tuple", _, PyProof.Rows.slot_tuple_getitem.lookup, ht.typeIs, ?_⟩
  by_cases hw : HT.sIx xs.length 0 lo = 0 ∧ HT.sIx xs.length xs.length hi = xs.length
  · exact getItem_tuple_whole ht hs pl pu (by rw [hlen]; exact hw) ⟨.ref a, H, I, rfl, q1 hw⟩
  · refine HT.getItem_tuple_cut ht hs pl pu (by rw [hlen]; exact hw) ?_ (by rw [hlen]; exact hz)
    rw [hlen]
    exact ⟨.ref s.heap.objs.size, _, laidN (t' := s.toks) I ((r.drop (HT.sIx xs.length 0 lo)).take (HT.sIx xs.length xs.length hi - HT.sIx xs.length 0 lo)) (Nat.le_trans (cutV_length xs lo hi) hz), rfl, q2 hw _ _ (I.hok.fresh (Nat.le_refl _)) rfl⟩
end
end Sb

/-! tuple * int, all counts; the tuple's object has no dict. -/
namespace Sb
open PySem PySem.Spec PyProof.Rows L2
set_option maxHeartbeats 4000000 in
theorem tmul_same (l : Addr) (vs : Array Value) (n : Nat) (sl : Array (Option Value)) (dd : Option Addr) (k : Int) (u : Tok) (c0 : (decide (k < -(2 ^ 63)) || decide (k ≥ 2 ^ 63)) = false) (c1 : (vs.isEmpty || k == 1) = true) :
    Meets (Builtin.«tuple.__mul__» ⟨[.ref l, .int k u], []⟩) (fun _ R s => s.heap.get? l = some { cls := .type "tuple", dict := dd, data := .seq vs n, slots := sl } ∧ R (.ok (.ret (Value.ref l))) s) :=
  .of_wp fun prog w A R s hh => by
    obtain ⟨hp, g, d, tk, os⟩ := s
    obtain ⟨hl, hh⟩ := hh
    have f1 := AutoSeq1.idx_int
    wp_walk using wpAny_loadPart' hl
    repeat (first
      | (refine wpAny_ite_false (decide_eq_false (by rw [c0]; exact Bool.false_ne_true)) ?_; wp_walk using wpAny_loadPart' hl)
      | (refine wpAny_ite_true (decide_eq_true c1) ?_; wp_walk using wpAny_loadPart' hl))
    exact ⟨_, rfl, hh⟩
set_option maxHeartbeats 4000000 in
theorem tmul_zero (l : Addr) (vs : Array Value) (n : Nat) (sl : Array (Option Value)) (dd : Option Addr) (k : Int) (u : Tok) (c0 : (decide (k < -(2 ^ 63)) || decide (k ≥ 2 ^ 63)) = false) (c1 : (vs.isEmpty || k == 1) = false) (c2 : (decide (k ≤ 0) || vs.isEmpty) = true) :
    Meets (Builtin.«tuple.__mul__» ⟨[.ref l, .int k u], []⟩) (fun _ R s => s.heap.get? l = some { cls := .type "tuple", dict := dd, data := .seq vs n, slots := sl } ∧
      R (.ok (.ret (Value.ref s.heap.objs.size))) { s with heap := s.heap.push { cls := Value.type "tuple", data := Data.seq #[] }, toks := s.toks }) :=
  .of_wp fun prog w A R s hh => by
    obtain ⟨hp, g, d, tk, os⟩ := s
    obtain ⟨hl, hh⟩ := hh
    have f1 := AutoSeq1.idx_int
    wp_walk using wpAny_loadPart' hl
    repeat (first
      | (refine wpAny_ite_false (decide_eq_false (by rw [c0]; exact Bool.false_ne_true)) ?_; wp_walk using wpAny_loadPart' hl)
      | (refine wpAny_ite_false (decide_eq_false (by rw [c1]; exact Bool.false_ne_true)) ?_; wp_walk using wpAny_loadPart' hl)
      | (refine wpAny_ite_true (decide_eq_true c2) ?_; wp_walk using wpAny_loadPart' hl))
    exact ⟨_, rfl, hh⟩
/-- the items of a tuple taken k times -/
def repV {α : Type} (xs : List α) (k : Int) : List α := (List.replicate k.toNat xs).flatten
def rRepN (K : PySem.W.Frag) : R2 := fun x y H Q => ∃ l k xs, x = .ref l ∧ y = .int k ∧ SqT K H l xs ∧ 0 ≤ k ∧ k ≤ 1000 ∧ xs.length ≤ 1000 ∧
  ((xs = [] ∨ k = 1) → Q (.ref l) H) ∧ (xs ≠ [] → k ≠ 1 → NewT H (repV xs k) Q)
section
variable {X : Cx}
theorem op_repN : OpR X (binaryOp .Mult) (rRepN X.K) := by
  intro pins s σ H x y v u Q I rx ry hh
  obtain ⟨l, k, xs, rfl, rfl, hT, k0, k1, hz, qs, qn⟩ := hh
  cases rx
  obtain ⟨t, rfl⟩ := ry
  obtain ⟨its, r, ⟨⟨cls, dd, data, sl⟩, ho, hc, n, hd⟩, hs⟩ := I.tuple hT
  simp only at hc hd
  subst hc hd
  have hle : its.length = xs.length := r.length.symm
  have c0 : (decide (k < -(2 ^ 63)) || decide (k ≥ 2 ^ 63)) = false := by simp; omega
  have ie : its.toArray.isEmpty = decide (xs = []) := by
    cases its with
    | nil => have : xs = [] := List.eq_nil_of_length_eq_zero hle.symm
             simp [this]
    | cons a b => cases xs with
      | nil => simp at hle
      | cons c d => simp
  refine wpAny_binaryOp_repeat_ref (T := "tuple") (U := "int") (by decide) ⟨_, ho, rfl⟩ (fun s' => typeIs_int s' k t) noFill_tuple_mul F.fills_int_mul F.slot_int_rmul repeat_tuple F.slot_int_index.lookup
    (call_meets F.slot_int_rmul (typeIs_int s k t) F.entry_int_rmul (F.args_int_rmul_2 _ _) (int_rmul_tuple k t l its.toArray n dd sl) ⟨ho, rfl, ⟨_, ho, rfl⟩, ?_⟩)
  by_cases h1 : xs = [] ∨ k = 1
  · have c1 : (its.toArray.isEmpty || k == 1) = true := by
      rw [ie]; rcases h1 with h1 | h1 <;> simp [h1]
    exact call_meets F.slot_tuple_mul ⟨_, ho, rfl⟩ F.entry_tuple_mul (F.args_tuple_mul_2 _ _) (tmul_same l its.toArray n sl dd k t c0 c1) ⟨ho, .ref l, H, I, rfl, qs h1⟩
  have hne : xs ≠ [] := fun e => h1 (.inl e)
  have hk1 : k ≠ 1 := fun e => h1 (.inr e)
  have c1 : (its.toArray.isEmpty || k == 1) = false := by rw [ie]; simp [hne, hk1]
  have q := qn hne hk1
  by_cases h0 : k = 0
  · have c2 : (decide (k ≤ 0) || its.toArray.isEmpty) = true := by simp [h0]
    have e : repV xs k = [] := by simp [repV, h0]
    rw [e] at q
    exact call_meets F.slot_tuple_mul ⟨_, ho, rfl⟩ F.entry_tuple_mul (F.args_tuple_mul_2 _ _) (tmul_zero l its.toArray n sl dd k t c0 c1 c2)
      ⟨ho, .ref s.heap.objs.size, _, laidN (its := []) (t' := s.toks) I .nil (by simp), rfl, q _ _ (I.hok.fresh (Nat.le_refl _)) rfl⟩
  · have c2 : (decide (k ≤ 0) || its.toArray.isEmpty) = false := by rw [ie]; simp [hne]; omega
    have a1 : k.toNat * xs.length ≤ 1000 * 1000 := Nat.mul_le_mul (by omega) hz
    have a2 : ((xs.length : Nat) : Int) * k ≤ 1000000 := by
      have : ((xs.length : Nat) : Int) * k ≤ 1000 * k := Int.mul_le_mul_of_nonneg_right (by omega) (by omega)
      omega
    have hm : ((its.toArray.size : Nat) : Int) * k ≤ 1000000 := by rw [List.size_toArray, hle]; exact a2
    have flen : (List.replicate k.toNat its).flatten.length ≤ sizeLine := by
      rw [PyProof.Rows.lm_len_rep_flat, hle, sizeLine_eq]; omega
    have flen2 : (repV xs k).length ≤ sizeLine := by
      unfold repV; rw [PyProof.Rows.lm_len_rep_flat, sizeLine_eq]; omega
    have c4 : Builtin.Tuple.tupleTooMany (((its.toArray.size : Nat) : Int) * k) = false := by
      unfold Builtin.Tuple.tupleTooMany
      rw [sizeLine_eq]; simp; simp at hm; omega
    refine call_meets F.slot_tuple_mul ⟨_, ho, rfl⟩ F.entry_tuple_mul (F.args_tuple_mul_2 _ _) (tuple_mulW l its.toArray n dd sl k t c0 c1 c2 (by omega) c4 (by rw [size_rep, List.size_toArray]; exact flen)) ⟨ho, ?_⟩
    rw [size_rep]
    exact ⟨.ref s.heap.objs.size, _, laidN (t' := s.toks) I (r.rep k.toNat) flen2, rfl, q _ _ (I.hok.fresh (Nat.le_refl _)) rfl⟩
end
end Sb

/-! zip over two sequences, lists and tuples mixed, strict or not. -/
namespace Sb
open PySem PySem.Spec PyProof.Rows L2
/-- an iterator over a tuple (true) or a list -/
def SI (t : Bool) (h : Heap) (it l : Addr) (i : Nat) : Prop := match t with | true => h.IsTupleIter it l i | false => h.IsListIter it l i
def SQ (t : Bool) (h : Heap) (l : Addr) (xs : Array Value) : Prop := match t with | true => h.IsTuple l xs | false => h.IsList l xs
theorem SI.ext {t : Bool} {h h' : Heap} {a b l : Addr} {i : Nat} (x : SI t h a l i) (hs : Heap.ExtBut b h h') (n : a ≠ b) : SI t h' a l i := by
  cases t with
  | true => exact Heap.IsTupleIter.extBut x hs n
  | false => exact Heap.IsListIter.extBut x hs n
theorem SI.at {t : Bool} {h h' : Heap} {a l : Addr} {i : Nat} (x : SI t h a l i) (e : ∀ o, h.get? a = some o → h'.get? a = some o) : SI t h' a l i := by
  cases t with
  | true => exact Heap.IsTupleIter.at x e
  | false => exact Heap.IsListIter.at x e
theorem SI.get {t : Bool} {h : Heap} {a l : Addr} {i : Nat} (x : SI t h a l i) : ∃ o, h.get? a = some o ∧ o.data = .fields #[.ref l, .int i 0] := by
  cases t with
  | true => obtain ⟨o, e, _, d⟩ := x; exact ⟨o, e, d⟩
  | false => obtain ⟨o, e, _, d⟩ := x; exact ⟨o, e, d⟩
theorem SQ.ext {t : Bool} {h h' : Heap} {a b : Addr} {xs : Array Value} (x : SQ t h a xs) (hs : Heap.ExtBut b h h') (n : a ≠ b) : SQ t h' a xs := by
  cases t with
  | true => exact Heap.IsTuple.extBut x hs n
  | false => exact Heap.IsList.extBut x hs n
theorem SQ.push {t : Bool} {h : Heap} {a : Addr} {xs : Array Value} (x : SQ t h a xs) (o : Obj) : SQ t (h.push o) a xs := by
  cases t with
  | true => exact Heap.IsTuple.push x o
  | false => exact Heap.IsList.push x o
theorem SQ.lt {t : Bool} {h : Heap} {a : Addr} {xs : Array Value} (x : SQ t h a xs) : a < h.objs.size := by
  cases t with
  | true => obtain ⟨o, e, _⟩ := x; exact Heap.lt_size e
  | false => obtain ⟨o, e, _⟩ := x; exact Heap.lt_size e
def itTy (t : Bool) : String := match t with | true => "tuple_iterator" | false => "list_iterator"
/-- the zip object -/
abbrev Zo (b : Bool) (h : Heap) (z TI TO : Addr) (f0 : Value) : Prop := h.get? z = some { cls := .type "zip", dict := none, data := .fields #[f0, .bool false, .bool b, .ref TI, .ref TO], slots := #[] }
def drawB (b : Bool) (it : Value) : Sem (Option Value) := match b with
  | true => Builtin.SmallTypes.nextOrEnd it
  | false => (do return some (← Builtin.SmallTypes.nextOf it))
theorem wp_eq {α : Type} {M : Model} {A : Around} {m m' : Sem α} {Q : α → Shared → Prop} {E : Value → Shared → Prop} {s : Shared} (e : m = m') (h : wpAny M A m' Q E s) : wpAny M A m Q E s := e ▸ h
section
variable {prog : Program} {w : World} {A : Around} {E : Value → Shared → Prop} {s : Shared}
theorem next_some {t : Bool} {it l : Addr} {i : Nat} {xs : Array Value} {x : Value} {Q : Value → Shared → Prop} (hit : SI t s.heap it l i) (hl : SQ t s.heap l xs) (hx : xs[i]? = some x)
    (hQ : ∀ h', SI t h' it l (i + 1) → Heap.SameBut it s.heap h' → Q x { s with heap := h' }) : wpAny (model prog w) A (Builtin.SmallTypes.nextOf (.ref it)) Q E s := by
  cases t with
  | true => exact RZ.nextOf_tuple_item hit hl hx hQ
  | false => exact wpAny_nextOf_list_item hit hl hx hQ
theorem next_end {t : Bool} {it l : Addr} {i : Nat} {xs : Array Value} {Q : Value → Shared → Prop} (hh : A.handled = none) (hit : SI t s.heap it l i) (hl : SQ t s.heap l xs) (hx : xs[i]? = none)
    (hE : ∀ h' e, Heap.ExtBut it s.heap h' → (∃ o, h'.get? e = some o ∧ o.cls = .type "StopIteration") → E (.ref e) { s with heap := h' }) : wpAny (model prog w) A (Builtin.SmallTypes.nextOf (.ref it)) Q E s := by
  cases t with
  | true => exact RZ.nextOf_tuple_end hh hit hl hx hE
  | false => exact wpAny_nextOf_list_end hh hit hl hx hE
theorem draw_some {b t : Bool} {it l : Addr} {i : Nat} {xs : Array Value} {x : Value} {Q : Option Value → Shared → Prop} (hit : SI t s.heap it l i) (hl : SQ t s.heap l xs) (hx : xs[i]? = some x)
    (hQ : ∀ h', SI t h' it l (i + 1) → Heap.SameBut it s.heap h' → Q (some x) { s with heap := h' }) : wpAny (model prog w) A (drawB b (.ref it)) Q E s := by
  cases b with
  | true => exact wpAny_bind (wpAny_attempt (next_some hit hl hx fun h' a c => wpAny_pure (hQ h' a c)))
  | false => exact wpAny_bind (next_some hit hl hx fun h' a c => wpAny_pure (hQ h' a c))
theorem drawT_end {t : Bool} {it l : Addr} {i : Nat} {xs : Array Value} {Q : Option Value → Shared → Prop} (hh : A.handled = none) (hit : SI t s.heap it l i) (hl : SQ t s.heap l xs) (hx : xs[i]? = none)
    (hQ : ∀ h', Heap.ExtBut it s.heap h' → Q none { s with heap := h' }) : wpAny (model prog w) A (Builtin.SmallTypes.nextOrEnd (.ref it)) Q E s := by
  refine wpAny_bind (wpAny_attempt (next_end hh hit hl hx fun h' e he ho => ?_))
  obtain ⟨o, ho, hc⟩ := ho
  exact wpAny_bind (wpAny_isInstance (T := "StopIteration") (b := true) ⟨o, ho, hc⟩ isSubtype_stop (wpAny_pure (hQ h' he)))
theorem stop_raised {Q : Fin → Shared → Prop} (hh : A.handled = none) (hE : ∀ h' e, (∀ c o, s.heap.get? c = some o → h'.get? c = some o) → (∃ o, h'.get? e = some o ∧ o.cls = .type "StopIteration") → E (.ref e) { s with heap := h' }) :
    wpAny (model prog w) A (Builtin.SmallTypes.stopIteration : Sem Fin) Q E s := by
  unfold Builtin.SmallTypes.stopIteration
  refine wpAny_bind ?_
  simp only [newExc, newTuple]
  refine wpAny_bind (wpAny_newObj_type ?_ (by size_fits))
  refine wpAny_bind (m := firstArgMember _ _) (wpAny_of_eq (a := Value.none) (by first | rfl | (simp only [firstArgMember]; rfl)) ?_)
  refine wpAny_newObj_type ?_ (by size_fits)
  simp only [raiseNew]
  refine wpAny_bind (wpAny_handled ?_)
  first | rw [show A.in1.handled = none from hh] | rw [hh]
  refine wpAny_bind (wpAny_pure (wpAny_throw ?_))
  exact hE _ _ (fun c o q => Heap.get?_push_of_some _ (Heap.get?_push_of_some _ q)) ⟨_, Heap.get?_push_size _ rfl, rfl⟩
theorem znext_item {b t1 t2 : Bool} {z TI TO i1 i2 l1 l2 : Addr} {k1 k2 : Nat} {xs ys : Array Value} {x y u v : Value} {Q : Value → Shared → Prop} (D : ZipApart z TI TO i1 i2 l1 l2)
    (hz : Zo b s.heap z TI TO .none) (hTI : IsPair s.heap TI (.ref i1) (.ref i2)) (hTO : IsPair s.heap TO u v) (h1 : SI t1 s.heap i1 l1 k1) (h2 : SI t2 s.heap i2 l2 k2) (hl1 : SQ t1 s.heap l1 xs) (hl2 : SQ t2 s.heap l2 ys) (hx : xs[k1]? = some x) (hy : ys[k2]? = some y)
    (hQ : ∀ h', Zo b h' z TI TO (rawInt s.heap.objs.size) → IsPair h' TO x y → SI t1 h' i1 l1 (k1 + 1) → SI t2 h' i2 l2 (k2 + 1) → IsPair h' s.heap.objs.size x y → h'.objs.size = s.heap.objs.size + 1 →
      (∀ c o, c ≠ z → c ≠ TO → c ≠ i1 → c ≠ i2 → s.heap.get? c = some o → h'.get? c = some o) → Q (.ref s.heap.objs.size) { s with heap := h' }) :
    wpAny (model prog w) A (Builtin.«zip.__next__» ⟨[.ref z], []⟩) (fun fin s' => ∃ v, fin = .done (.ret v) ∧ Q v s') E s := by
  show wpAny (model prog w) A (field (.ref z) 2 >>= _) _ E s
  refine wpAny_bind (wpAny_field hz rfl (x := .bool b) rfl ?_)
  show wpAny (model prog w) A (field (.ref z) 3 >>= _) _ E s
  refine wpAny_bind (wpAny_field hz rfl (x := .ref TI) rfl (wpAny_bind (wpAny_seqItems hTI rfl ?_)))
  show wpAny (model prog w) A (Builtin.SmallTypes.ownedTupleIsFree (.ref z) >>= _) _ E s
  refine wpAny_bind ?_
  unfold Builtin.SmallTypes.ownedTupleIsFree
  refine wpAny_bind (wpAny_field hz rfl (x := .none) rfl (wpAny_pure ?_))
  simp only [if_true]
  refine wpAny_bind (wpAny_rule (wpAny_bind (wpAny_field hz rfl (x := .ref TO) rfl (wpAny_bind (wpAny_setField_rec hz (by simp) fun g1 z1 s1 => ?_)))))
  replace z1 : Zo b g1 z TI TO .ellipsis := z1
  refine wpAny_bind ?_
  simp only [List.zipIdx_cons, List.zipIdx_nil, List.forIn_cons, List.forIn_nil]
  refine wpAny_bind (wpAny_bind (wpAny_onRaise ?_))
  have e1 : SI t1 g1 i1 l1 k1 := h1.ext s1.extBut D.i1z
  refine wp_eq (m' := drawB b (.ref i1)) (by cases b <;> rfl) (draw_some e1 (hl1.ext s1.extBut D.l1z) hx fun g2 p2 s2 => ?_)
  have T2 : IsPair g2 TO u v := s2.extBut _ _ D.TOi1 (s1.extBut _ _ D.TOz hTO)
  refine wpAny_bind (wpAny_seqItems T2 rfl (wpAny_bind (wpAny_updateSeq_pair T2 fun g3 T3 s3 => ?_)))
  replace T3 : IsPair g3 TO x v := T3
  refine wpAny_bind (wpAny_letGo (wpAny_pure ?_))
  refine wpAny_bind (wpAny_bind (wpAny_onRaise ?_))
  have e2 : SI t2 g3 i2 l2 k2 := ((h2.ext s1.extBut D.i2z).ext s2.extBut D.i12.symm).ext s3.extBut D.TOi2.symm
  have q2 : SQ t2 g3 l2 ys := ((hl2.ext s1.extBut D.l2z).ext s2.extBut D.l2i1).ext s3.extBut D.l2TO
  refine wp_eq (m' := drawB b (.ref i2)) (by cases b <;> rfl) (draw_some e2 q2 hy fun g4 p4 s4 => ?_)
  have T4 : IsPair g4 TO x v := s4.extBut _ _ D.TOi2 T3
  refine wpAny_bind (wpAny_seqItems T4 rfl (wpAny_bind (wpAny_updateSeq_pair T4 fun g5 T5 s5 => ?_)))
  replace T5 : IsPair g5 TO x y := T5
  refine wpAny_bind (wpAny_letGo (wpAny_pure (wpAny_pure ?_)))
  refine wpAny_bind (wpAny_seqItems T5 rfl (wpAny_bind (wpAny_newTuple ?_)))
  have sz : g5.objs.size = s.heap.objs.size := by rw [s5.1, s4.1, s3.1, s2.1, s1.1]
  have z5 : Zo b g5 z TI TO .ellipsis := s5.extBut _ _ D.TOz.symm (s4.extBut _ _ D.i2z.symm (s3.extBut _ _ D.TOz.symm (s2.extBut _ _ D.i1z.symm z1)))
  have old : ∀ c o, c ≠ z → c ≠ TO → c ≠ i1 → c ≠ i2 → s.heap.get? c = some o → g5.get? c = some o := fun c o c1 c2 c3 c4 e =>
    s5.extBut _ _ c2 (s4.extBut _ _ c4 (s3.extBut _ _ c2 (s2.extBut _ _ c3 (s1.extBut _ _ c1 e))))
  have p5 : SI t1 g5 i1 l1 (k1 + 1) := ((p2.ext s3.extBut D.TOi1.symm).ext s4.extBut D.i12).ext s5.extBut D.TOi1.symm
  have r5 : SI t2 g5 i2 l2 (k2 + 1) := p4.ext s5.extBut D.TOi2.symm
  have zlt : z < g5.objs.size := Heap.lt_size z5
  show wpAny (model prog w) A (Builtin.SmallTypes.ownedTupleHandOut (.ref z) (.ref g5.objs.size) >>= _) _ E _
  refine wpAny_bind ?_
  unfold Builtin.SmallTypes.ownedTupleHandOut
  have z6 : Zo b (g5.push { cls := .type "tuple", data := .seq #[x, y] }) z TI TO .ellipsis := Heap.get?_push_of_some _ z5
  refine wpAny_bind (wpAny_setField_rec z6 (by simp) fun g7 z7 s7 => ?_)
  replace z7 : Zo b g7 z TI TO (rawInt g5.objs.size) := z7
  refine wpAny_setField_rec z7 (by simp) fun g8 z8 s8 => ?_
  replace z8 : Zo b g8 z TI TO (rawInt g5.objs.size) := z8
  have more : ∀ c o, c ≠ z → g5.get? c = some o → g8.get? c = some o := fun c o c1 e => s8.extBut _ _ c1 (s7.extBut _ _ c1 (Heap.get?_push_of_some _ e))
  have P8 : IsPair g8 g5.objs.size x y := s8.extBut _ _ (Nat.ne_of_gt zlt) (s7.extBut _ _ (Nat.ne_of_gt zlt) (Heap.get?_push_size _ rfl))
  have n8 : g8.objs.size = g5.objs.size + 1 := by rw [s8.1, s7.1, Heap.size_push]
  rw [sz] at z8 P8 n8
  refine wpAny_pure ⟨_, rfl, ?_⟩
  show Q (.ref g5.objs.size) _
  rw [sz]
  exact hQ g8 z8 (more _ _ D.TOz T5) (p5.at fun o e => more _ o D.i1z e) (r5.at fun o e => more _ o D.i2z e) P8 n8 fun c o c1 c2 c3 c4 e => more c o c1 (old c o c1 c2 c3 c4 e)
theorem znext_end {b t1 t2 : Bool} {z TI TO i1 i2 l1 l2 : Addr} {k1 k2 : Nat} {xs ys : Array Value} {u v : Value} {Q : Fin → Shared → Prop} (hh : A.handled = none) (D : ZipApart z TI TO i1 i2 l1 l2)
    (hz : Zo b s.heap z TI TO .none) (hTI : IsPair s.heap TI (.ref i1) (.ref i2)) (hTO : IsPair s.heap TO u v) (h1 : SI t1 s.heap i1 l1 k1) (h2 : SI t2 s.heap i2 l2 k2) (hl1 : SQ t1 s.heap l1 xs) (hl2 : SQ t2 s.heap l2 ys)
    (hend : (b = false ∧ (xs[k1]? = none ∨ ys[k2]? = none)) ∨ (xs[k1]? = none ∧ ys[k2]? = none))
    (hE : ∀ h' e, (∀ c o, c ≠ z → c ≠ TO → c ≠ i1 → c ≠ i2 → s.heap.get? c = some o → h'.get? c = some o) → (∃ o, h'.get? e = some o ∧ o.cls = .type "StopIteration") → E (.ref e) { s with heap := h' }) :
    wpAny (model prog w) A (Builtin.«zip.__next__» ⟨[.ref z], []⟩) Q E s := by
  show wpAny (model prog w) A (field (.ref z) 2 >>= _) _ E s
  refine wpAny_bind (wpAny_field hz rfl (x := .bool b) rfl ?_)
  show wpAny (model prog w) A (field (.ref z) 3 >>= _) _ E s
  refine wpAny_bind (wpAny_field hz rfl (x := .ref TI) rfl (wpAny_bind (wpAny_seqItems hTI rfl ?_)))
  show wpAny (model prog w) A (Builtin.SmallTypes.ownedTupleIsFree (.ref z) >>= _) _ E s
  refine wpAny_bind ?_
  unfold Builtin.SmallTypes.ownedTupleIsFree
  refine wpAny_bind (wpAny_field hz rfl (x := .none) rfl (wpAny_pure ?_))
  simp only [if_true]
  refine wpAny_bind (wpAny_rule (wpAny_bind (wpAny_field hz rfl (x := .ref TO) rfl (wpAny_bind (wpAny_setField_rec hz (by simp) fun g1 z1 s1 => ?_)))))
  replace z1 : Zo b g1 z TI TO .ellipsis := z1
  refine wpAny_bind ?_
  simp only [List.zipIdx_cons, List.zipIdx_nil, List.forIn_cons, List.forIn_nil]
  refine wpAny_bind (wpAny_bind (wpAny_onRaise ?_))
  have e1 : SI t1 g1 i1 l1 k1 := h1.ext s1.extBut D.i1z
  cases hx : xs[k1]? with
  | none =>
    cases b with
    | false =>
      refine wp_eq (m' := drawB false (.ref i1)) rfl (wpAny_bind (next_end hh e1 (hl1.ext s1.extBut D.l1z) hx fun g2 e s2 he => ?_))
      obtain ⟨oe, hoe, hce⟩ := he
      have z2 : Zo false g2 z TI TO .ellipsis := s2 _ _ D.i1z.symm z1
      have ez : e ≠ z := fun q => by subst q; rw [z2] at hoe; cases hoe; simp at hce
      exact wpAny_setField_rec z2 (by simp) fun g3 _ s3 => hE g3 e (fun c o c1 _ c3 _ q => s3.extBut _ _ c1 (s2 _ _ c3 (s1.extBut _ _ c1 q))) ⟨oe, s3.extBut _ _ ez hoe, hce⟩
    | true =>
      have hy : ys[k2]? = none := by
        rcases hend with ⟨q, _⟩ | ⟨_, q⟩
        · cases q
        · exact q
      refine wp_eq (m' := Builtin.SmallTypes.nextOrEnd (.ref i1)) rfl (drawT_end hh e1 (hl1.ext s1.extBut D.l1z) hx fun g2 s2 => ?_)
      have z2 : Zo true g2 z TI TO .ellipsis := s2 _ _ D.i1z.symm z1
      refine wpAny_bind (wpAny_setField_rec z2 (by simp) fun g3 z3 s3 => wpAny_bind ?_)
      have e2 : SI t2 g3 i2 l2 k2 := ((h2.ext s1.extBut D.i2z).ext s2 D.i12.symm).ext s3.extBut D.i2z
      have q2 : SQ t2 g3 l2 ys := ((hl2.ext s1.extBut D.l2z).ext s2 D.l2i1).ext s3.extBut D.l2z
      show wpAny (model prog w) A (if (0 : Nat) > 0 then unsupported "x" else _) _ E _
      rw [if_neg (by decide)]
      refine wpAny_bind ?_
      simp only [List.drop_succ_cons, List.drop_zero, List.zipIdx_cons, List.zipIdx_nil, List.forIn_cons, List.forIn_nil]
      refine wpAny_bind (wpAny_bind (drawT_end hh e2 q2 hy fun g4 s4 => ?_))
      simp only [Option.isSome_none, Bool.false_eq_true, if_false]
      refine wpAny_pure (wpAny_pure ?_)
      refine wpAny_bind (wpAny_rule (stop_raised (s := { s with heap := g4 }) hh fun g5 e s5 he => hE g5 e (fun c o c1 _ c3 c4 q => s5 _ _ (s4 _ _ c4 (s3.extBut _ _ c1 (s2 _ _ c3 (s1.extBut _ _ c1 q))))) he))
  | some x =>
    obtain ⟨rfl, hy⟩ : b = false ∧ ys[k2]? = none := by
      rcases hend with ⟨q1, q | q⟩ | ⟨q, _⟩
      · rw [hx] at q; cases q
      · exact ⟨q1, q⟩
      · rw [hx] at q; cases q
    refine wp_eq (m' := drawB false (.ref i1)) rfl (draw_some e1 (hl1.ext s1.extBut D.l1z) hx fun g2 p2 s2 => ?_)
    have T2 : IsPair g2 TO u v := s2.extBut _ _ D.TOi1 (s1.extBut _ _ D.TOz hTO)
    refine wpAny_bind (wpAny_seqItems T2 rfl (wpAny_bind (wpAny_updateSeq_pair T2 fun g3 T3 s3 => ?_)))
    refine wpAny_bind (wpAny_letGo (wpAny_pure ?_))
    refine wpAny_bind (wpAny_bind (wpAny_onRaise ?_))
    have e2 : SI t2 g3 i2 l2 k2 := ((h2.ext s1.extBut D.i2z).ext s2.extBut D.i12.symm).ext s3.extBut D.TOi2.symm
    have q2 : SQ t2 g3 l2 ys := ((hl2.ext s1.extBut D.l2z).ext s2.extBut D.l2i1).ext s3.extBut D.l2TO
    refine wp_eq (m' := drawB false (.ref i2)) rfl (wpAny_bind (next_end hh e2 q2 hy fun g4 e s4 he => ?_))
    obtain ⟨oe, hoe, hce⟩ := he
    have z4 : Zo false g4 z TI TO .ellipsis := s4 _ _ D.i2z.symm (s3.extBut _ _ D.TOz.symm (s2.extBut _ _ D.i1z.symm z1))
    have ez : e ≠ z := fun q => by subst q; rw [z4] at hoe; cases hoe; simp at hce
    exact wpAny_setField_rec z4 (by simp) fun g5 _ s5 => hE g5 e (fun c o c1 c2 c3 c4 q => s5.extBut _ _ c1 (s4 _ _ c4 (s3.extBut _ _ c2 (s2.extBut _ _ c3 (s1.extBut _ _ c1 q))))) ⟨oe, s5.extBut _ _ ez hoe, hce⟩
theorem pyNext_item {b t1 t2 : Bool} {z TI TO i1 i2 l1 l2 : Addr} {k1 k2 : Nat} {xs ys : Array Value} {x y u v : Value} {Q : Option Value → Shared → Prop} (D : ZipApart z TI TO i1 i2 l1 l2)
    (hz : Zo b s.heap z TI TO .none) (hTI : IsPair s.heap TI (.ref i1) (.ref i2)) (hTO : IsPair s.heap TO u v) (h1 : SI t1 s.heap i1 l1 k1) (h2 : SI t2 s.heap i2 l2 k2) (hl1 : SQ t1 s.heap l1 xs) (hl2 : SQ t2 s.heap l2 ys) (hx : xs[k1]? = some x) (hy : ys[k2]? = some y)
    (hQ : ∀ h', Zo b h' z TI TO (rawInt s.heap.objs.size) → IsPair h' TO x y → SI t1 h' i1 l1 (k1 + 1) → SI t2 h' i2 l2 (k2 + 1) → IsPair h' s.heap.objs.size x y → h'.objs.size = s.heap.objs.size + 1 →
      (∀ c o, c ≠ z → c ≠ TO → c ≠ i1 → c ≠ i2 → s.heap.get? c = some o → h'.get? c = some o) → Q (some (.ref s.heap.objs.size)) { s with heap := h' }) :
    wpAny (model prog w) A (pyNext (.ref z)) Q E s := by
  have hT : s.TypeIs (.ref z) "zip" := ⟨_, hz, rfl⟩
  unfold pyNext
  exact wpAny_bind (wpAny_attempt (wpAny_callSpecial?_slot (name := Str.ofString "__next__") hT F.slot_zip_next (wpAny_call_entry F.slot_zip_next hT F.entry_zip_next
      (znext_item D hz hTI hTO h1 h2 hl1 hl2 hx hy fun h' a1 a2 a3 a4 a5 a6 a7 => wpAny_pure (hQ h' a1 a2 a3 a4 a5 a6 a7)) (F.args_zip_next_1 _))))
theorem pyNext_end {b t1 t2 : Bool} {z TI TO i1 i2 l1 l2 : Addr} {k1 k2 : Nat} {xs ys : Array Value} {u v : Value} {Q : Option Value → Shared → Prop} (hh : A.handled = none) (D : ZipApart z TI TO i1 i2 l1 l2)
    (hz : Zo b s.heap z TI TO .none) (hTI : IsPair s.heap TI (.ref i1) (.ref i2)) (hTO : IsPair s.heap TO u v) (h1 : SI t1 s.heap i1 l1 k1) (h2 : SI t2 s.heap i2 l2 k2) (hl1 : SQ t1 s.heap l1 xs) (hl2 : SQ t2 s.heap l2 ys)
    (hend : (b = false ∧ (xs[k1]? = none ∨ ys[k2]? = none)) ∨ (xs[k1]? = none ∧ ys[k2]? = none))
    (hQ : ∀ h', (∀ c o, c ≠ z → c ≠ TO → c ≠ i1 → c ≠ i2 → s.heap.get? c = some o → h'.get? c = some o) → Q none { s with heap := h' }) : wpAny (model prog w) A (pyNext (.ref z)) Q E s := by
  have hT : s.TypeIs (.ref z) "zip" := ⟨_, hz, rfl⟩
  unfold pyNext
  refine wpAny_bind (wpAny_attempt (wpAny_callSpecial?_slot (name := Str.ofString "__next__") hT F.slot_zip_next (wpAny_call_entry F.slot_zip_next hT F.entry_zip_next
    (znext_end hh D hz hTI hTO h1 h2 hl1 hl2 hend fun h' e hk he => ?_) (F.args_zip_next_1 _))))
  obtain ⟨o, ho, hc⟩ := he
  exact wpAny_bind (wpAny_isInstance (T := "StopIteration") (b := true) ⟨o, ho, hc⟩ isSubtype_stop (wpAny_pure (hQ _ hk)))
theorem zletgo {b : Bool} {elts : List Expr} {x1} {pos : Pos} {z TI TO T : Addr} {Q : Unit → Shared → Prop} (hz : Zo b s.heap z TI TO (rawInt T)) (hQ : ∀ h', Zo b h' z TI TO .none → Heap.SameBut z s.heap h' → Q () { s with heap := h' }) :
    wpAny (model prog w) A (letOwnedTupleGo (.Tuple elts x1 pos) (.ref z) (.ref T)) Q E s := by
  unfold letOwnedTupleGo
  refine wpAny_bind (wpAny_load hz ?_)
  show wpAny _ _ (if (["enumerate", "zip", "dict_itemiterator", "dict_reverseitemiterator", "odict_iterator", "itertools.zip_longest", "itertools.pairwise"].contains "zip" && (#[rawInt T, .bool false, .bool b, .ref TI, .ref TO] : Array Value)[0]? == some (rawInt T)) = true then _ else _) Q E s
  rw [if_pos (by simp)]
  exact wpAny_bind (wpAny_rule (wpAny_setField_rec hz (by simp) fun h' hz' hs' => hQ h' hz' hs'))
theorem zpyIter {b : Bool} {z TI TO : Addr} {f0 : Value} {Q : Value → Shared → Prop} (hz : Zo b s.heap z TI TO f0) (h : Q (.ref z) s) : wpAny (model prog w) A (pyIter (.ref z)) Q E s := by
  have hT : s.TypeIs (.ref z) "zip" := ⟨_, hz, rfl⟩
  refine wpAny_pyIter_slot hT F.slot_zip_iter (wpAny_call_entry F.slot_zip_iter hT F.entry_zip_iter ?_ (F.args_zip_iter_1 _))
  exact wpAny_pure ⟨_, rfl, "zip", _, hT, F.slot_zip_next.lookup, h⟩
end
abbrev zA (t1 : Bool) (h : Heap) (l1 : Addr) : Heap := h.push { cls := .type (itTy t1), data := .fields #[.ref l1, .int 0 0] }
abbrev zB (t1 t2 : Bool) (h : Heap) (l1 l2 : Addr) : Heap := (zA t1 h l1).push { cls := .type (itTy t2), data := .fields #[.ref l2, .int 0 0] }
abbrev zC (t1 t2 : Bool) (h : Heap) (l1 l2 : Addr) : Heap := (zB t1 t2 h l1 l2).push { cls := .type "tuple", data := .seq #[.ref h.objs.size, .ref (zA t1 h l1).objs.size] }
abbrev zD (t1 t2 : Bool) (h : Heap) (l1 l2 : Addr) : Heap := (zC t1 t2 h l1 l2).push { cls := .type "tuple", data := .seq #[.none, .none] }
abbrev zE (t1 t2 b : Bool) (h : Heap) (l1 l2 : Addr) : Heap := (zD t1 t2 h l1 l2).push { cls := .type "zip", data := .fields #[.none, .bool false, .bool b, .ref (zB t1 t2 h l1 l2).objs.size, .ref (zC t1 t2 h l1 l2).objs.size] }
theorem itr_s {prog : Program} {w : World} {A : Around} {E : Value → Shared → Prop} {s : Shared} {t : Bool} {l : Addr} {items : Array Value} {Q : Value → Shared → Prop} (hl : SQ t s.heap l items)
    (hQ : Q (.ref s.heap.objs.size) { s with heap := s.heap.push { cls := .type (itTy t), data := .fields #[.ref l, .int 0 0] } }) : wpAny (model prog w) A (pyIter (.ref l)) Q E s := by
  cases t with
  | true => exact wpAny_pyIter_tuple hl hQ
  | false => exact wpAny_pyIter_list hl hQ
set_option maxHeartbeats 4000000 in
theorem znew (t1 t2 : Bool) (l1 l2 : Addr) (xs ys : Array Value) : Meets (Builtin.«zip.__new__» ⟨[.type "zip", .ref l1, .ref l2], []⟩) (fun _ R s => SQ t1 s.heap l1 xs ∧ SQ t2 s.heap l2 ys ∧
      R (.ok (.ret (.ref (zD t1 t2 s.heap l1 l2).objs.size))) { s with heap := zE t1 t2 false s.heap l1 l2 }) :=
  .of_wp fun prog w A R s h => by
    obtain ⟨hp, g, d, tk, os⟩ := s; obtain ⟨q1, q2, h⟩ := h
    have hsub := sub_zip
    have a1 : SQ t1 (Shared.heap ⟨hp, g, d, tk, os⟩) l1 xs := q1
    have a2 : SQ t2 (Shared.heap ⟨hp.push { cls := .type (itTy t1), data := .fields #[.ref l1, .int 0 0] }, g, d, tk, os⟩) l2 ys := SQ.push q2 _
    wp_walk using itr_s a1, itr_s a2
    exact ⟨_, rfl, h⟩
set_option maxHeartbeats 4000000 in
theorem znewS (t1 t2 : Bool) (l1 l2 : Addr) (xs ys : Array Value) : Meets (Builtin.«zip.__new__» ⟨[.type "zip", .ref l1, .ref l2], [("strict", .bool true)]⟩) (fun _ R s => SQ t1 s.heap l1 xs ∧ SQ t2 s.heap l2 ys ∧
      R (.ok (.ret (.ref (zD t1 t2 s.heap l1 l2).objs.size))) { s with heap := zE t1 t2 true s.heap l1 l2 }) :=
  .of_wp fun prog w A R s h => by
    obtain ⟨hp, g, d, tk, os⟩ := s; obtain ⟨q1, q2, h⟩ := h
    have hsub := sub_zip
    have a1 : SQ t1 (Shared.heap ⟨hp, g, d, tk, os⟩) l1 xs := q1
    have a2 : SQ t2 (Shared.heap ⟨hp.push { cls := .type (itTy t1), data := .fields #[.ref l1, .int 0 0] }, g, d, tk, os⟩) l2 ys := SQ.push q2 _
    wp_walk using itr_s a1, itr_s a2
    exact ⟨_, rfl, h⟩
section
variable {prog : Program} {w : World} {A : Around} {E : Value → Shared → Prop} {s : Shared}
/-- what stands behind zip(a, b) -/
def ZMade (b t1 t2 : Bool) (s : Shared) (l1 l2 : Addr) (h' : Heap) : Prop :=
  Zo b h' (s.heap.objs.size + 4) (s.heap.objs.size + 2) (s.heap.objs.size + 3) .none ∧ IsPair h' (s.heap.objs.size + 2) (.ref s.heap.objs.size) (.ref (s.heap.objs.size + 1)) ∧ IsPair h' (s.heap.objs.size + 3) .none .none ∧
    SI t1 h' s.heap.objs.size l1 0 ∧ SI t2 h' (s.heap.objs.size + 1) l2 0 ∧ h'.objs.size = s.heap.objs.size + 5 ∧ ∀ c o, s.heap.get? c = some o → h'.get? c = some o
theorem si_new {t : Bool} {h : Heap} {a l : Addr} (e : h.get? a = some { cls := .type (itTy t), data := .fields #[.ref l, .int 0 0] }) : SI t h a l 0 := by
  cases t with
  | true => exact ⟨_, e, rfl, rfl⟩
  | false => exact ⟨_, e, rfl, rfl⟩
theorem zmade {b t1 t2 : Bool} {l1 l2 : Addr} : ZMade b t1 t2 s l1 l2 (zE t1 t2 b s.heap l1 l2) ∧ (zD t1 t2 s.heap l1 l2).objs.size = s.heap.objs.size + 4 := by
  have n1 : (zA t1 s.heap l1).objs.size = s.heap.objs.size + 1 := Heap.size_push ..
  have n2 : (zB t1 t2 s.heap l1 l2).objs.size = s.heap.objs.size + 2 := by rw [Heap.size_push, n1]
  have n3 : (zC t1 t2 s.heap l1 l2).objs.size = s.heap.objs.size + 3 := by rw [Heap.size_push, n2]
  have n4 : (zD t1 t2 s.heap l1 l2).objs.size = s.heap.objs.size + 4 := by rw [Heap.size_push, n3]
  have n5 : (zE t1 t2 b s.heap l1 l2).objs.size = s.heap.objs.size + 5 := by rw [Heap.size_push, n4]
  have o5 : (zE t1 t2 b s.heap l1 l2).get? (zD t1 t2 s.heap l1 l2).objs.size = some _ := Heap.get?_push_size _ rfl
  have o4 : (zE t1 t2 b s.heap l1 l2).get? (zC t1 t2 s.heap l1 l2).objs.size = some _ := Heap.get?_push_of_some _ (Heap.get?_push_size _ rfl)
  have o3 : (zE t1 t2 b s.heap l1 l2).get? (zB t1 t2 s.heap l1 l2).objs.size = some _ := Heap.get?_push_of_some _ (Heap.get?_push_of_some _ (Heap.get?_push_size _ rfl))
  have o2 : (zE t1 t2 b s.heap l1 l2).get? (zA t1 s.heap l1).objs.size = some _ := Heap.get?_push_of_some _ (Heap.get?_push_of_some _ (Heap.get?_push_of_some _ (Heap.get?_push_size _ rfl)))
  have o1 : (zE t1 t2 b s.heap l1 l2).get? s.heap.objs.size = some _ := Heap.get?_push_of_some _ (Heap.get?_push_of_some _ (Heap.get?_push_of_some _ (Heap.get?_push_of_some _ (Heap.get?_push_size _ rfl))))
  rw [n2, n3, n4] at o5
  rw [n1, n2] at o3
  rw [n3] at o4
  rw [n1] at o2
  exact ⟨⟨o5, o3, o4, si_new o1, si_new o2, n5, fun c o q => Heap.get?_push_of_some _ (Heap.get?_push_of_some _ (Heap.get?_push_of_some _ (Heap.get?_push_of_some _ (Heap.get?_push_of_some _ q))))⟩, n4⟩
theorem zcall {t1 t2 : Bool} {l1 l2 : Addr} {xs ys : Array Value} {Q : Value → Shared → Prop} (q1 : SQ t1 s.heap l1 xs) (q2 : SQ t2 s.heap l2 ys)
    (h : ∀ h', ZMade false t1 t2 s l1 l2 h' → Q (.ref (s.heap.objs.size + 4)) { s with heap := h' }) : wpAny (model prog w) A (call (.type "zip") [.ref l1, .ref l2]) Q E s := by
  refine callType_new F.called_zip (by decide) (F.typeCall_zip_2 _ _) (F.newCall_zip_2 _ _) (fun obj => F.args_object_init_3 obj _ _) F.entry_zip_new (znew t1 t2 l1 l2 xs ys) ⟨q1, q2, ?_⟩
  have z := zmade (b := false) (t1 := t1) (t2 := t2) (l1 := l1) (l2 := l2) (s := s)
  show _ ∧ _
  rw [z.2]
  exact ⟨⟨_, z.1.1, rfl⟩, h _ z.1⟩
end
end Sb

/-! zip: what is walked. -/
namespace Sb
open PySem PySem.Spec PyProof.Rows L2
/-- a sequence of the abstract heap -/
def QX (t : Bool) (K : PySem.W.Frag) (H : Hp) (a : Addr) (xs : List V) : Prop := match t with | true => SqT K H a xs | false => SqL K H a xs
theorem QX.at {X : Cx} {pins : List (Addr × Obj)} {σ : L2.St} {H : Hp} {s : Shared} {t : Bool} {a : Addr} {xs : List V} (I : Inv X pins σ H s) (q : QX t X.K H a xs) : ∃ its : List Value, Vals xs its ∧ SQ t s.heap a its.toArray := by
  cases t with
  | true => obtain ⟨its, r, p, _⟩ := I.tuple q; exact ⟨its, r, p⟩
  | false => obtain ⟨its, r, p, _⟩ := I.list q; exact ⟨its, r, p.isList⟩
theorem QX.same {X : Cx} {pins : List (Addr × Obj)} {σ : L2.St} {H : Hp} {s : Shared} {t : Bool} {a : Addr} {xs ys : List V} (I : Inv X pins σ H s) (q : QX t X.K H a xs) (q' : QX t X.K H a ys) : xs = ys := by
  cases t with
  | true => exact I.tuple_inj q q'
  | false => exact I.list_inj q q'
/-- the sequences at a and c, item by item in new pairs -/
def ItzB (b t1 t2 : Bool) (K : PySem.W.Frag) (a c : Addr) : It :=
  ⟨fun i H => ∃ (xs ys : List V) (x y : V), QX t1 K H a xs ∧ QX t2 K H c ys ∧ xs[i]? = some x ∧ ys[i]? = some y,
    fun i H v H' => ∃ T x y, ∃ o : Obj, v = .ref T ∧ H T = none ∧ o.dict = none ∧ H' = upd H T (.frz o (.tup [x, y])) ∧ (∀ xs, QX t1 K H a xs → xs[i]? = some x) ∧ ∀ ys, QX t2 K H c ys → ys[i]? = some y,
    fun i H => ∃ xs ys : List V, QX t1 K H a xs ∧ QX t2 K H c ys ∧ ((b = false ∧ (xs.length ≤ i ∨ ys.length ≤ i)) ∨ (xs.length ≤ i ∧ ys.length ≤ i))⟩
theorem turn_zipB {P : Program} {w : World} {K : PySem.W.Frag} {elts : List Expr} {kk : Nat} {tpos : Pos} {b t1 t2 : Bool} {a c z TI TO i1 i2 : Addr} (D : ZipApart z TI TO i1 i2 a c) :
    Turn P w K (.Tuple elts kk tpos) (ItzB b t1 t2 K a c) [z, TI, TO, i1, i2] z (fun i h => Zo b h z TI TO .none ∧ IsPair h TI (.ref i1) (.ref i2) ∧ (∃ x y, IsPair h TO x y) ∧ SI t1 h i1 a i ∧ SI t2 h i2 c i) where
  mem := by simp
  obj := fun i h st d hd => by
    obtain ⟨hz, hTI, ⟨x, y, hTO⟩, h1, h2⟩ := st
    obtain ⟨o1, e1, d1⟩ := h1.get
    obtain ⟨o2, e2, d2⟩ := h2.get
    rcases (by simpa using hd : d = z ∨ d = TI ∨ d = TO ∨ d = i1 ∨ d = i2) with q | q | q | q | q
    · rw [q]; exact ⟨_, hz, fun v q => nomatch q⟩
    · rw [q]; exact ⟨_, hTI, fun v q => nomatch q⟩
    · rw [q]; exact ⟨_, hTO, fun v q => nomatch q⟩
    · rw [q]; exact ⟨o1, e1, fun v q => by rw [d1] at q; cases q⟩
    · rw [q]; exact ⟨o2, e2, fun v q => by rw [d2] at q; cases q⟩
  keep := fun i h h' st k => by
    obtain ⟨hz, hTI, ⟨x, y, hTO⟩, h1, h2⟩ := st
    exact ⟨k z (by simp) _ hz, k TI (by simp) _ hTI, ⟨x, y, k TO (by simp) _ hTO⟩, h1.at fun o q => k i1 (by simp) o q, h2.at fun o q => k i2 (by simp) o q⟩
  item := by
    intro X hP hw hK hc i pins s σ H E I hf st hg
    subst hP hw hK
    obtain ⟨hz, hTI, ⟨x0, y0, hTO⟩, h1, h2⟩ := st
    obtain ⟨xs, ys, x, y, qx, qy, hx, hy⟩ := hg
    obtain ⟨its, rv, p1⟩ := qx.at I
    obtain ⟨its2, rv2, p2⟩ := qy.at I
    obtain ⟨u, hu, ru⟩ := rv.get hx
    obtain ⟨u2, hu2, ru2⟩ := rv2.get hy
    have zl : z < s.heap.objs.size := Heap.lt_size hz
    refine pyNext_item D hz hTI hTO h1 h2 p1 p2 (x := u) (y := u2) (by simpa using hu) (by simpa using hu2) fun g gz gT gi1 gi2 gp gn gk => ?_
    refine ⟨_, rfl, zletgo (s := { s with heap := g }) gz fun g2 gz2 sb => ?_⟩
    have hT2 : g2.get? s.heap.objs.size = some { cls := .type "tuple", data := .seq #[u, u2] } := (sb.2 _ (Nat.ne_of_gt zl)).trans gp
    have new : ObjOk X.prog X.w (upd H s.heap.objs.size (.frz { cls := .type "tuple", data := .seq #[u, u2] } (.tup [x, y]))) g2 s.heap.objs.size (.frz { cls := .type "tuple", data := .seq #[u, u2] } (.tup [x, y])) :=
      ⟨hT2, by show 2 ≤ sizeLine; decide, [u, u2], .cons ru (.cons ru2 .nil), ⟨_, hT2, rfl, _, rfl⟩⟩
    have I1 : Inv X pins σ (upd H s.heap.objs.size (.frz { cls := .type "tuple", data := .seq #[u, u2] } (.tup [x, y]))) { s with heap := g2 } :=
      I.turnedNew (t' := s.toks) (ch := [z, TI, TO, i1, i2]) (fun d o hb q => (sb.2 d (fun q' => hb (by simp [q']))).trans (gk d o (fun q' => hb (by simp [q'])) (fun q' => hb (by simp [q'])) (fun q' => hb (by simp [q'])) (fun q' => hb (by simp [q'])) q)) hf (Nat.le_refl _) new
    refine ⟨.ref s.heap.objs.size, _, I1, rfl, ⟨_, x, y, _, rfl, I.hok.fresh (Nat.le_refl _), rfl, rfl, fun l hl => by rw [QX.same I hl qx]; exact hx, fun l hl => by rw [QX.same I hl qy]; exact hy⟩, ⟨gz2, ?_, ⟨u, u2, ?_⟩, ?_, ?_⟩, fun d hdm => ?_⟩
    · exact (sb.2 _ D.TIz).trans (gk _ _ D.TIz D.TITO D.TIi1 D.TIi2 hTI)
    · exact (sb.2 _ D.TOz).trans gT
    · exact gi1.at fun o q => (sb.2 _ D.i1z).trans q
    · exact gi2.at fun o q => (sb.2 _ D.i2z).trans q
    · have hlt : d < s.heap.objs.size := by
        rcases (by simpa using hdm : d = z ∨ d = TI ∨ d = TO ∨ d = i1 ∨ d = i2) with q | q | q | q | q
        · rw [q]; exact zl
        · rw [q]; exact Heap.lt_size hTI
        · rw [q]; exact Heap.lt_size hTO
        · rw [q]; obtain ⟨_, e1, _⟩ := h1.get; exact Heap.lt_size e1
        · rw [q]; obtain ⟨_, e2, _⟩ := h2.get; exact Heap.lt_size e2
      rw [upd_ne (Nat.ne_of_lt hlt)]
      exact (hf d hdm).1
  done := by
    intro X hP hw hK hc i pins s σ H E I hf st hg
    subst hP hw hK
    obtain ⟨hz, hTI, ⟨x0, y0, hTO⟩, h1, h2⟩ := st
    obtain ⟨xs, ys, qx, qy, hend⟩ := hg
    obtain ⟨its, rv, p1⟩ := qx.at I
    obtain ⟨its2, rv2, p2⟩ := qy.at I
    have l1 := rv.length
    have l2 := rv2.length
    have he : (b = false ∧ (its.toArray[i]? = none ∨ its2.toArray[i]? = none)) ∨ (its.toArray[i]? = none ∧ its2.toArray[i]? = none) := by
      rcases hend with ⟨q0, q | q⟩ | ⟨q, q'⟩
      · exact .inl ⟨q0, .inl (by simp; omega)⟩
      · exact .inl ⟨q0, .inr (by simp; omega)⟩
      · exact .inr ⟨by simp; omega, by simp; omega⟩
    exact pyNext_end (I.ok.hd hc) D hz hTI hTO h1 h2 p1 p2 he fun g gk => ⟨rfl, I.turnedL (t' := s.toks) (ch := [z, TI, TO, i1, i2]) (fun d o hb q =>
      gk d o (fun q' => hb (by simp [q'])) (fun q' => hb (by simp [q'])) (fun q' => hb (by simp [q'])) (fun q' => hb (by simp [q'])) q) hf⟩
  self := fun A i s Q E st h => zpyIter st.1 h
theorem zstart {X : Cx} {pins : List (Addr × Obj)} {σ : L2.St} {H : Hp} {s : Shared} {b t1 t2 : Bool} {a c : Addr} {xs ys : List V} {h' : Heap} (I : Inv X pins σ H s) (q1 : QX t1 X.K H a xs) (q2 : QX t2 X.K H c ys) (z : ZMade b t1 t2 s a c h') :
    Inv X pins σ H { s with heap := h' } ∧ ZipApart (s.heap.objs.size + 4) (s.heap.objs.size + 2) (s.heap.objs.size + 3) s.heap.objs.size (s.heap.objs.size + 1) a c ∧
      ∀ d, d ∈ [s.heap.objs.size + 4, s.heap.objs.size + 2, s.heap.objs.size + 3, s.heap.objs.size, s.heap.objs.size + 1] → FpOk X pins H d := by
  obtain ⟨its, rv, p1⟩ := q1.at I
  obtain ⟨its2, rv2, p2⟩ := q2.at I
  refine ⟨I.kept (t' := s.toks) z.2.2.2.2.2.2, PySem.W.ktu_apart s.heap.objs.size a c p1.lt p2.lt, fun d hd => ?_⟩
  have hle : s.heap.objs.size ≤ d := by
    have : d = s.heap.objs.size + 4 ∨ d = s.heap.objs.size + 2 ∨ d = s.heap.objs.size + 3 ∨ d = s.heap.objs.size ∨ d = s.heap.objs.size + 1 := by simpa using hd
    unfold Addr at *
    omega
  exact I.fpOk hle (I.hok.fresh hle)
def iZipB (b : Bool) (K : PySem.W.Frag) (ta : TA) : TI := fun σ H R => ta σ H fun vs H1 => ∃ a c xs ys t1 t2, vs = [.ref a, .ref c] ∧ QX t1 K H1 a xs ∧ QX t2 K H1 c ys ∧ R (ItzB b t1 t2 K a c) H1
theorem pi_zipB {X : Cx} {e e2 : Expr} {ta : TA} {p pos tpos : Pos} {elts : List Expr} {kk : Nat} (hg : Gl X "zip") (hm : X.mg "zip" = none) (ha : PA X [e, e2] ta)
    (hs : starEach [e, e2] X.env = (false, eval e X.env) :: starEach [e2] X.env := by rfl) (hpl : (backTo pos (starEach [e2] X.env)).any (·.1) = false := by rfl) : PI X (.Tuple elts kk tpos) (.Call (.Name "zip" p) [e, e2] [] pos) (iZipB false X.K ta) := by
  refine ⟨fun pins s σ H R I h => ?_⟩
  refine Call_ (ld_blt I hg hm PyProof.Rows.boot_zip (PyProof.Rows.callWith_type1 (thn (ha.run pos pins s σ H _ I h) fun us s1 ⟨vs, H1, I1, r1, q1⟩ => ?_) hs hpl))
  obtain ⟨a, c, xs, ys, t1, t2, ex, qx, qy, q⟩ := q1
  subst ex
  obtain ⟨u1, us1, rfl, ru1, rr⟩ : ∃ u1 us1, us = u1 :: us1 ∧ RelV (.ref a) u1 ∧ Vals [.ref c] us1 := by cases r1 with | cons r rr => exact ⟨_, _, rfl, r, rr⟩
  obtain ⟨u2, rfl, ru2⟩ := vals1 rr
  cases ru1
  cases ru2
  obtain ⟨its, rv, p1⟩ := qx.at I1
  obtain ⟨its2, rv2, p2⟩ := qy.at I1
  refine zcall p1 p2 fun h' z => zpyIter z.1 ?_
  obtain ⟨I2, D, fr⟩ := zstart I1 qx qy z
  exact ⟨s1.heap.objs.size + 4, [s1.heap.objs.size + 4, s1.heap.objs.size + 2, s1.heap.objs.size + 3, s1.heap.objs.size, s1.heap.objs.size + 1], _, _, H1, rfl, I2, turn_zipB D, ⟨z.1, z.2.1, ⟨_, _, z.2.2.1⟩, z.2.2.2.1, z.2.2.2.2.1⟩, fr, q⟩
end Sb

/-! Own exception classes over any built-in one, with one field, made by an __init__ of two rows. -/
namespace Sb
open PySem PySem.Spec PyProof.Rows L2
/-- what is asked of the built-in class -/
structure XB (B newId initId : String) (bm : List Value) : Prop where
  F : ExcBaseFacts B newId initId bm
  pass : ∀ self : Value, refuseLoop self "__setattr__" bm = pure ()
  obj : bm.contains (.type "object") = true
  typ : typeOf (.type B) = pure (.type "type")
  stub : Manifest.isStub B = false
  boot : bootBuiltins (Str.ofString B) = some (.type B)
  n1 : Str.ofString B ≠ "__name__"
  n2 : (Str.ofString B == ("__debug__" : Str)) = false
  hd : PySem.W.handedIn (.builtin initId) = true
  nv : ∀ K : PySem.W.Frag, PySem.W.findCls K (.type B) (.type "type") "__init__" = some (.val (.builtin initId))
  pos : (Value.builtin initId) ≠ .none
theorem xb_value : XB "ValueError" "ValueError.__new__" "ValueError.__init__" [.type "ValueError", .type "Exception", .type "BaseException", .type "object"] where
  F := F.excBase_ValueError
  pass := fun self => by kernel_rfl
  obj := by decide +kernel
  typ := by kernel_rfl
  stub := by decide +kernel
  boot := PyProof.Rows.Boot.«ValueError»
  n1 := by decide
  n2 := by decide
  hd := by decide +kernel
  nv := fun K => by first | rfl | kernel_rfl
  pos := by simp
theorem xb_lookup : XB "LookupError" "LookupError.__new__" "LookupError.__init__" [.type "LookupError", .type "Exception", .type "BaseException", .type "object"] where
  F := F.excBase_LookupError
  pass := fun self => by kernel_rfl
  obj := by decide +kernel
  typ := by kernel_rfl
  stub := by decide +kernel
  boot := PyProof.Rows.Boot.«LookupError»
  n1 := by decide
  n2 := by decide
  hd := by decide +kernel
  nv := fun K => by first | rfl | kernel_rfl
  pos := by simp
theorem xb_runtime : XB "RuntimeError" "RuntimeError.__new__" "RuntimeError.__init__" [.type "RuntimeError", .type "Exception", .type "BaseException", .type "object"] where
  F := F.excBase_RuntimeError
  pass := fun self => by kernel_rfl
  obj := by decide +kernel
  typ := by kernel_rfl
  stub := by decide +kernel
  boot := PyProof.Rows.Boot.«RuntimeError»
  n1 := by decide
  n2 := by decide
  hd := by decide +kernel
  nv := fun K => by first | rfl | kernel_rfl
  pos := by simp
theorem xb_overflow : XB "OverflowError" "OverflowError.__new__" "OverflowError.__init__" [.type "OverflowError", .type "ArithmeticError", .type "Exception", .type "BaseException", .type "object"] where
  F := F.excBase_OverflowError
  pass := fun self => by kernel_rfl
  obj := by decide +kernel
  typ := by kernel_rfl
  stub := by decide +kernel
  boot := PyProof.Rows.Boot.«OverflowError»
  n1 := by decide
  n2 := by decide
  hd := by decide +kernel
  nv := fun K => by first | rfl | kernel_rfl
  pos := by simp
section
open Builtin Builtin.ObjectAttr
variable {pr : Program} {wo : World} {Ar : Around} {Rz : Result → Shared → Prop} {hq : Heap} {gg : Array GenState} {dd : Drawn} {tt : Nat} {oz : OsState}
/-- self.f = v on an exception without a dict -/
theorem osaG {Kf : PySem.W.Frag} {f : Str} {tk : Tok} {v : Value} {e C : Addr} {fv : Array Value} {cd : ClassData} {bm : List Value} (XK : Kf.In hq) (he : hq.get? e = some { cls := .ref C, data := .fields fv }) (hcd : PySem.W.clsIn Kf C = some cd)
    (hm : cd.mro = .ref C :: bm) (hp : ∀ self : Value, refuseLoop self "__setattr__" bm = pure ()) (ho : bm.contains (.type "object") = true) (hh : cd.hasDict = true) (hf : PySem.W.findIn Kf (.ref C) f = some none)
    (fin : ∀ h' tk' dx, (∀ b o, b ≠ e → hq.get? b = some o → h'.get? b = some o) → hq.objs.size ≤ dx → dx ≠ e → h'.get? e = some { cls := .ref C, dict := some dx, data := .fields fv } →
      h'.Ns1 dx (fun y => if y = f then some v else none) → Rz (.ok (.ret .none)) ⟨h', gg, dd, tk', oz⟩) : codeAny (model pr wo) Ar (.call (.builtin "object.__setattr__") ⟨[.ref e, .str f tk, v], []⟩) Rz ⟨hq, gg, dd, tt, oz⟩ := by
  have IA : PySem.W.InstAt hq e { cls := .ref C, data := .fields fv } C none := ⟨he, rfl, rfl, trivial⟩
  have SF := PySem.F.store_object
  have hob : cd.mro.contains (.type "object") = true := by rw [hm, List.contains_cons, ho, Bool.or_true]
  have ne : cd.mro.isEmpty = false := by rw [hm]; rfl
  have es : e ≠ hq.objs.size := Nat.ne_of_lt (Heap.lt_size he)
  have sub : PySem.W.Looks (model pr wo) hq (isInstance (.ref e) (.type "object")) true := IA.type.andThen (PySem.W.looks_mroIn XK (by unfold PySem.W.mroIn; rw [hcd, Option.bind_some, if_neg (by rw [ne]; decide), hob]))
  refine codeAny_call_builtin SF.slot.plain SF.entry (@PySem.W.check_slot (model pr wo) _ _ ⟨hq, gg, dd, tt, oz⟩ "object.__setattr__" "object" "__setattr__" (.ref e) [.str f tk, v] [] _ SF.kind SF.split sub (SF.args (.ref e) (.str f tk) v) ?_)
  have hmr : PySem.W.Looks (model pr wo) hq (mroOf (.ref C)) cd.mro := (PySem.W.looks_clsIn XK hcd).andThen .now
  have L3 : PySem.W.Looks (model pr wo) hq (storeTaker? none) none := .now
  have hcl : PySem.W.Looks (model pr wo) hq (classData C) cd := PySem.W.looks_clsIn XK hcd
  rw [PySem.W.osa_eq, refuse_eq]
  refine wpAny_bind (wpAny_bind (IA.type.at (wpAny_bind (hmr.at ?_))))
  rw [hm, refuseLoop_ref, hp]
  refine wpAny_pure (wpAny_bind (IA.type.at (wpAny_bind ((PySem.W.looks_findIn XK hf).at (wpAny_bind (L3.at ?_))))))
  show wpAny _ _ (storeInOwnDict (.ref e) (.ref C) (.str f tk) f v false) _ _ _
  obtain ⟨nm, bs, mro, ns, qn, hd, sn, sb, ab, col, del⟩ := cd
  dsimp only at hh
  subst hh
  unfold storeInOwnDict ownDictForStores
  repeat (first | with_reducible refine PySem.HandSPX.store_in_new ?_ ?_ | with_reducible refine wpAny_loadPart_at he ?_ | with_reducible refine hcl.at ?_ | wp_step)
  · exact ⟨_, #[], _, (Heap.get?_update_ne _ _ _ _ es.symm).trans (Heap.get?_push_at rfl rfl), rfl, fun z hz => absurd hz (by simp), fun _ => rfl⟩
  · intro h' tk' hn' hs
    have he1 : (hq.push { cls := .type "dict", data := .dict #[] }).get? e = some { cls := .ref C, data := .fields fv } := Heap.get?_push_of_some _ he
    refine fin h' tk' hq.objs.size (fun b o hb hbo => ?_) (Nat.le_refl _) es.symm ?_ hn'
    · exact (hs.2 b (Nat.ne_of_lt (Heap.lt_size hbo))).trans ((Heap.get?_update_ne _ _ _ _ hb).trans (Heap.get?_push_of_some _ hbo))
    · exact (hs.2 e es).trans (Heap.get?_update_self _ he1 rfl)
end
/-- what the written part says of an own class over B -/
structure OxC (K : PySem.W.Frag) (newId : String) (bm : List Value) (C : Addr) : Prop where
  cls : ∃ nm q N bs sn sub ab col dd k0 k1 k2 k3 k5, K.lookup C = some (excClassObj nm q C N bs bm true sn sub ab col dd k0 k1 k2 k3 k5 newId)
  sa : PySem.W.findIn K (.ref C) "__setattr__" = some (some (.builtin "object.__setattr__"))
  exC : PySem.W.subIn K (.ref C) (.type "BaseException") = some true
  tyC : PySem.W.typeIn K (.ref C) = some (.type "type")
  kC : PySem.W.keepIn K (.ref C) = true
section
variable {X : Cx} {pins : List (Addr × Obj)} {σ : L2.St} {H : Hp} {s : Shared} {a C : Addr} {B newId initId : String} {bm : List Value} {f : Str} {y : V} {u : Value} {E : Value → Shared → Prop} {A : Around}
theorem ostG {Q : Unit → Shared → Prop} (Xb : XB B newId initId bm) (T : OxC X.K newId bm C) (I : Inv X pins σ H s) (e : H a = some (exo a C none)) (hno : PySem.W.findIn X.K (.ref C) f = some none) (ry : RelV y u)
    (h : ∀ dx s', H dx = none → dx ≠ a → Inv X pins σ (upd (upd H dx (exd dx [(f, y)])) a (exo a C (some dx))) s' → Q () s') : wpAny (model X.prog X.w) A (setAttr (.ref a) f u) Q E s := by
  obtain ⟨nm, q, N, bs, sn, sub, ab, col, dd, k0, k1, k2, k3, k5, hC⟩ := T.cls
  have hcl : PySem.W.clsIn X.K C = some { name := nm, bases := bs, mro := .ref C :: bm, ns := N, qualname := q, hasDict := true, slotNames := sn, subclasses := sub, abstract := ab, collection := col, hasDel := false } := by unfold PySem.W.clsIn; rw [hC] <;> rfl
  obtain ⟨t1, ho⟩ := exo_at I.hok e
  obtain ⟨hp, g, d, t, os⟩ := s
  refine PySem.W.set_plain I.kIn (ox := { cls := .ref C, dict := none, data := .fields #[.ref t1, .none, .none, .none, .bool false, .none] }) (od := none) ⟨ho, rfl, rfl, trivial⟩ T.sa (osaG (bm := bm) I.kIn ho hcl rfl Xb.pass Xb.obj rfl hno fun h' tk' dx k dn dne hx hn => ?_)
  have hnd : H dx = none := I.hok.fresh dn
  have nd : ∀ {b : Addr} {o : Obj}, hp.get? b = some o → b ≠ dx := fun {b o} z => Nat.ne_of_lt (Nat.lt_of_lt_of_le (Heap.lt_size z) dn)
  have na : ∀ {b : Addr}, H b = none → b ≠ a := fun {b} n z => by rw [z, e] at n; cases n
  have U : Un X.fs [] H (upd (upd H dx (exd dx [(f, y)])) a (exo a C (some dx))) hp h' := {
    keep := fun b o z n _ _ => k b o (na n) z
    slot := fun b o z n _ _ => ⟨o.slots, k b o (na n) z⟩
    free := fun b o z n _ => by rw [upd_ne (na n), upd_ne (nd z)]; exact n
    there := fun b o z _ => by
      by_cases hb : b = a
      · exact ⟨_, by rw [hb]; exact hx⟩
      · exact ⟨o, k b o hb z⟩
    tups := fun b xs z => by rw [upd_ne (at_ne e z exo_tup), upd_ne (ne_of_none z hnd)]; exact z
    frzs := fun b o v z => by rw [upd_ne (at_ne e z exo_frz), upd_ne (ne_of_none z hnd)]; exact z
    tbls := fun b ps z => ⟨#[], by rw [upd_ne (at_ne e z exo_tbl), upd_ne (ne_of_none z hnd), z]; simp⟩ }
  refine h dx _ hnd dne (I.un (t' := tk') U fun b o z => ?_)
  by_cases hb : b = a
  · subst hb; rw [upd_same] at z; cases z
    exact exo_ok hx
  · rw [upd_ne hb] at z
    by_cases hd : b = dx
    · subst hd; rw [upd_same] at z; cases z
      exact exd_ok hn (relO_put (fs := []) ry fun g => True.intro)
    · rw [upd_ne hd] at z
      exact (I.hok b o z).stay (fun c v hc w => k c v (by
          rcases hc with hc | hc
          · rw [hc]; exact hb
          · exact at_ne e hc exo_own) w)
        (fun c hc => by rw [upd_ne (at_ne e hc exo_own), upd_ne (ne_of_none hc hnd)]; exact hc) (fun c xs hc => by rw [upd_ne (at_ne e hc exo_tup), upd_ne (ne_of_none hc hnd)]; exact hc)
theorem oinitG {us : List Value} {Q : Value → Shared → Prop} (Xb : XB B newId initId bm) (T : OxC X.K newId bm C) (I : Inv X pins σ H s) (e : H a = some (exo a C none)) (hl : us.length ≤ sizeLine) (h : ∀ s', Inv X pins σ H s' → Q .none s') :
    wpAny (model X.prog X.w) A (call (.builtin initId) (.ref a :: us)) Q E s := by
  obtain ⟨nm, q, N, bs, sn, sub, ab, col, dd, k0, k1, k2, k3, k5, hC⟩ := T.cls
  obtain ⟨t1, ho⟩ := exo_at I.hok e
  obtain ⟨hp, g, d, t, os⟩ := s
  refine wpAny_call (PySem.HandSPX.init_base Xb.F (fun _ => rfl) (I.kIn _ _ hC) ho hl fun h' t2 k hx => ?_)
  have J := I.write (t' := t) (x := a) (e := a) (o := exo a C none) (by rw [e]; exact True.intro) (.inl rfl) k ⟨_, hx⟩ (exo_ok hx)
  have eu : upd H a (exo a C none) = H := by
    funext b
    by_cases hb : b = a
    · rw [hb, upd_same, e]
    · rw [upd_ne hb]
  rw [eu] at J
  exact h _ J
end
section
variable {X : Cx} {o e : Expr} {es : List Expr} {to te : TE} {ta : TA} {f : Str} {p p' p1 p2 pos : Pos} {B newId initId : String} {bm : List Value}
/-- B.__init__(self, text) -/
theorem pe_initG {pl : Sem Bool} {C : Addr} (Xb : XB B newId initId bm) (T : OxC X.K newId bm C) (hg : Gl X (Str.ofString B)) (hm : X.mg (Str.ofString B) = none) (ha : PA X (e :: es) ta)
    (hc : eval (.Call (.Attribute (.Name (Str.ofString B) p1) "__init__" p2) (e :: es) [] pos) X.env = (do
      let ov ← eval (.Name (Str.ofString B) p1) X.env
      standAt p2.atName
      let (fn, first) ← holding [ov] (getMethod ov "__init__" pl)
      callWith pos fn first (backTo pos (starEach (e :: es) X.env)) (backToKw pos (keywordEach [] X.env))) := by rfl)
    (he : starEach (e :: es) X.env = (false, eval e X.env) :: starEach es X.env := by rfl) (hpl : (backTo pos (starEach es X.env)).any (·.1) = false := by rfl) :
    PE X (.Call (.Attribute (.Name (Str.ofString B) p1) "__init__" p2) (e :: es) [] pos) (fun σ H Q => ta σ H fun vs H1 => ∃ (a : Addr) (ws : List V), vs = .ref a :: ws ∧ ws.length ≤ 1000 ∧ H1 a = some (exo a C none) ∧ Q .non H1) := by
  refine ⟨fun pins s σ H Q I h => ?_⟩
  refine PySem.W.methodCall_KW (ld_blt I hg hm Xb.boot ?_ Xb.n1 Xb.n2) hc
  obtain ⟨m, fr⟩ := I.fr
  refine PySem.W.method_type fr I.ok.mod.kin Xb.typ Xb.stub (Xb.nv _) Xb.hd ?_
  show wpAny _ _ (callWith pos (Value.builtin initId) [] (backTo pos (starEach (e :: es) X.env)) []) _ _ _
  refine callWith_method1 (thn (ha.run pos pins _ σ H _ (I.tok _) h) fun us s1 hh => ?_) he hpl
  obtain ⟨vs, H1, I1, r1, a, ws, ev, hl, ea, q⟩ := hh
  subst ev
  cases r1 with
  | @cons _ u0 _ ur ra rw' =>
    obtain rfl : u0 = Value.ref a := ra
    have hlen : ur.length ≤ sizeLine := by
      rw [← Paired.length rw', sizeLine_eq]
      omega
    exact oinitG Xb T I1 ea hlen fun s' J => ⟨.non, H1, J, rfl, q⟩
end
end Sb

/-! Own exceptions: their __init__, C(..), try with several handlers, with or without a name. -/
namespace Sb
open PySem PySem.Spec PyProof.Rows L2
/-- what C.__init__ does: B.__init__, then the field f -/
def spI (f : Str) (C : Addr) (okv : V → Prop) : Sp := fun vs H Q _ => ∃ (a : Addr) (y : V), vs = [.ref a, y] ∧ okv y ∧ H a = some (exo a C none) ∧ ∀ dx, H dx = none → dx ≠ a → Q .non (upd (upd H dx (exd dx [(f, y)])) a (exo a C (some dx)))
section
variable {X : Cx} {o e : Expr} {es : List Expr} {to te : TE} {ta : TA} {f : Str} {p p' p1 p2 pos : Pos} {B newId initId : String} {bm : List Value} {C : Addr}
def tSf (f : Str) (C : Addr) (to te : TE) : TS := fun D σ H => te σ H fun y H1 => to σ H1 fun x H2 => ∃ a : Addr, x = .ref a ∧ H2 a = some (exo a C none) ∧ ∀ dx, H2 dx = none → dx ≠ a → D.nx σ (upd (upd H2 dx (exd dx [(f, y)])) a (exo a C (some dx)))
theorem ps_ostG (Xb : XB B newId initId bm) (T : OxC X.K newId bm C) (hno : PySem.W.findIn X.K (.ref C) f = some none) (ho : PE X o to) (he : PE X e te) (hs : swapsWith e (some (.Attribute o f p')) pos.line X.env = pure false) : PS X (.Assign [.Attribute o f p'] e pos) (tSf f C to te) := by
  refine ⟨fun pins s σ H D I h => plainObj_wpAny_Assign_Attribute (thn (he.run pins s σ H _ I h) fun v s1 q => ?_) hs⟩
  obtain ⟨y, Ha, Ia, ra, q⟩ := q
  refine thn (ho.run pins s1 σ Ha _ Ia q) fun u s2 q => ?_
  obtain ⟨x, Hb, Ib, rb, a, ex, ea, q⟩ := q
  subst ex
  obtain rfl : u = Value.ref a := rb
  exact ostG Xb T Ib ea hno ra fun dx s3 n ne J => ⟨σ, _, J, q dx n ne⟩
end
section
variable {P : Program} {w : World} {K : PySem.W.Frag} {mg : Str → Option Value} {base : Heap} {B newId initId : String} {bm : List Value} {C : Addr}
theorem init_okG {x qual sf vf f : Str} {st : Stmt} {fI : Addr} {fd : FuncData} {N : List Str} {e2 : Expr} {p1 p2 p3 p4 p5 p6 p7 p8 p9 : Pos} {te2 : TE} {okv : V → Prop} (Xb : XB B newId initId bm) (T : OxC K newId bm C) (hno : PySem.W.findIn K (.ref C) f = some none) (hmB : mg (Str.ofString B) = none)
    (F : Fun K x qual st fI fd) (Sc : FnScope N [sf, vf] (defScope st)) (hb : defBody st = [.Expr (.Call (.Attribute (.Name (Str.ofString B) p1) "__init__" p2) [.Name sf p3, e2] [] p4) p5, .Assign [.Attribute (.Name sf p6) f p7] (.Name vf p8) p9])
    (h0 : N[0]? = some sf) (h1 : N[1]? = some vf) (v0 : Vis (defScope st) sf) (v1 : Vis (defScope st) vf) (hgB : (defScope st).names.lookup (Str.ofString B) = some .globalImplicit)
    (d0 : (sf == ("__debug__" : Str)) = false) (d1 : (vf == ("__debug__" : Str)) = false) (c0 : (sf == ("__classdict__" : Str)) = false) (c1 : (vf == ("__classdict__" : Str)) = false)
    (s1 : ∀ env : Env, swapsWith (.Call (.Attribute (.Name (Str.ofString B) p1) "__init__" p2) [.Name sf p3, e2] [] p4) none p5.line env = pure false) (s2 : ∀ env : Env, swapsWith (.Name vf p8) (some (.Attribute (.Name sf p6) f p7)) p9.line env = pure false)
    (he2 : ∀ Y : Cx, Y.N = N → Y.env.scope = defScope st → PE Y e2 te2) (ht2 : ∀ σ H Q y, σ[1]? = some (some y) → okv y → (∀ z, Q z H) → te2 σ H Q)
    (hc2 : ∀ env : Env, ∃ pl : Sem Bool, eval (.Call (.Attribute (.Name (Str.ofString B) p1) "__init__" p2) [.Name sf p3, e2] [] p4) env = (do
      let ov ← eval (.Name (Str.ofString B) p1) env
      standAt p2.atName
      let (fn, first) ← holding [ov] (getMethod ov "__init__" pl)
      callWith p4 fn first (backTo p4 (starEach [.Name sf p3, e2] env)) (backToKw p4 (keywordEach [] env))))
    (hq1 : ∀ env : Env, starEach [.Name sf p3, e2] env = (false, eval (.Name sf p3) env) :: starEach [e2] env) (hq2 : ∀ env : Env, starEach [e2] env = (false, eval e2 env) :: starEach [] env) (hq3 : ∀ env : Env, (backTo p4 (starEach [e2] env)).any (·.1) = false) :
    FnOk P w K mg base (L2.CX P w) 1 fI fd [sf, vf] (spI f C okv) := by
  refine Fun.okX F Sc (fun vs H Q _ h => ?_) fun cdv A outer s H vs Q E hr h => ?_
  · obtain ⟨a, y, rfl, _⟩ := h; rfl
  obtain ⟨a, y, rfl, oy, ea, hq⟩ := h
  generalize hX : cxOf (L2.CX P w) P w K mg base N qual (defScope st) fI cdv A outer s H E = X
  have eN : X.N = N := by rw [← hX]; rfl
  have eK : X.K = K := by rw [← hX]; rfl
  have em : X.mg = mg := by rw [← hX]; rfl
  have esc : X.env.scope = defScope st := by rw [← hX]; rfl
  have n0 : ∀ pos, PE X (.Name sf pos) (tVar 0) := fun pos => pe_var (by rw [eN]; exact h0) (by rw [esc]; exact v0) d0 c0
  have n1 : ∀ pos, PE X (.Name vf pos) (tVar 1) := fun pos => pe_var (by rw [eN]; exact h1) (by rw [esc]; exact v1) d1 c1
  have gB : Gl X (Str.ofString B) := by show X.env.scope.names.lookup _ = _; rw [esc]; exact hgB
  have T' : OxC X.K newId bm C := by rw [eK]; exact T
  rw [hb]
  obtain ⟨pl, hc⟩ := hc2 X.env
  have A1 := ps_expr (pos := p5) (pe_initG Xb T' gB (by rw [em]; exact hmB) (pa_cons (n0 p3) (pa_cons (he2 X eN esc) pa_nil (hq2 _)) (hq1 _)) hc (hq1 _) (hq3 _)) (s1 _)
  have A2 := ps_ostG (p' := p7) (pos := p9) Xb T' (by rw [eK]; exact hno) (n0 p6) (n1 p8) (s2 _)
  refine ⟨_, pss_cons A1 (pss_cons A2 pss_nil), ?_⟩
  have g0 : (L2.start N [.ref a, y])[0]? = some (some (.ref a)) := by simp [L2.start]
  have g1 : (L2.start N [.ref a, y])[1]? = some (some y) := by simp [L2.start]
  refine ⟨_, g0, ht2 _ _ _ _ g1 oy fun z => ?_⟩
  refine ⟨a, [z], rfl, by simp, ea, ?_⟩
  exact ⟨_, g1, _, g0, a, rfl, ea, hq⟩
end
/-! ### C(e) -/
section
variable {X : Cx} {e : Expr} {es : List Expr} {ta : TA} {f : Str} {p pos : Pos} {B newId initId : String} {bm : List Value} {C fI : Addr} {fd : FuncData} {ps : List Str} {k : Nat} {x : Str}
/-- C(y): the exception with the dict d -/
def tMkG (C : Addr) (f : Str) (okv : V → Prop) (ta : TA) : L2.St → Hp → XK → Prop := fun σ H Q => ta σ H fun vs H1 => ∃ y, vs = [y] ∧ okv y ∧ ∀ d, H1 d = none → Q (.ref C) (some d) (upd H1 d (.xd [(f, y)]))
theorem pmk_oxG {okv : V → Prop} (Xb : XB B newId initId bm) (T : OxC X.K newId bm C) (iC : PySem.W.findIn X.K (.ref C) "__init__" = some (some (.ref fI))) (tI : PySem.W.typeIn X.K (.ref fI) = some (.type "function"))
    (F1 : FnOk X.prog X.w X.K X.mg X.base (L2.CX X.prog X.w) k fI fd ps (spI f C okv)) (hps : ps.length = 2) (hr : Room (k + 1) X.A) (hb : L2.Binds X.K fd ps []) (hg : Gl X x) (hm : X.mg x = some (.ref C)) (ha : PA X (e :: es) ta)
    (hdb : (x == ("__debug__" : Str)) = false := by decide) (he : starEach (e :: es) X.env = (false, eval e X.env) :: starEach es X.env := by rfl) (hpl : (backTo pos (starEach es X.env)).any (·.1) = false := by rfl) :
    PMk X (.Call (.Name x p) (e :: es) [] pos) (tMkG C f okv ta) := by
  intro pins s σ H Q I h
  obtain ⟨nm, q, N, bs, sn, sub, ab, col, dd, k0, k1, k2, k3, k5, hC⟩ := T.cls
  refine wpAny_Call_Name_kw (ld_glob I hg hm ?_ hdb)
  refine PySem.W.callWith_K (h₀ := X.base) I.ok.mod.kin T.kC (thn (ha.run pos pins s σ H _ I h) fun us s1 hh => ?_) he hpl
  obtain ⟨vs, Ha, Ia, ra, y, ev, oy, hq⟩ := hh
  refine ⟨Ia.kIn, ?_⟩
  show wpAny _ _ (call (.ref C) us) _ _ _
  subst ev
  obtain ⟨hp, g, dr, tk, os⟩ := s1
  have big : hp.objs.size ≤ hp.objs.size + 1 := Nat.le_succ _
  have fresh : Ha (hp.objs.size + 1) = none := Ia.hok.fresh big
  generalize hz : hp.objs.size + 1 = z at *
  have grow : ∀ b o, hp.get? b = some o → ((hp.push (PySem.W.kdv_tup us)).push (PySem.HandSPX.excO C hp.objs.size)).get? b = some o := fun b o q => Heap.get?_push_of_some _ (Heap.get?_push_of_some _ q)
  have there : ((hp.push (PySem.W.kdv_tup us)).push (PySem.HandSPX.excO C hp.objs.size)).get? z = some (PySem.HandSPX.excO C hp.objs.size) := by rw [← hz]; heap_get
  have Ib : Inv X pins σ (upd Ha z (exo z C none)) ⟨(hp.push (PySem.W.kdv_tup us)).push (PySem.HandSPX.excO C hp.objs.size), g, dr, tk, os⟩ := Ia.laid (t' := tk) grow big (exo_ok there)
  have rb : Vals [V.ref z, y] (Value.ref z :: us) := .cons rfl ra
  have few : us.length ≤ sizeLine := by
    rw [← Paired.length ra, sizeLine_eq]
    simp
  have ln : (Value.ref z :: us ++ []).length = ps.length := by
    have q1 := ra.length
    rw [hps]
    simp only [List.length_cons, List.length_nil] at q1
    simp only [List.length_append, List.length_cons, List.length_nil]
    omega
  have bnd := hb ⟨(hp.push (PySem.W.kdv_tup us)).push (PySem.HandSPX.excO C hp.objs.size), g, dr, tk, os⟩ (Value.ref z :: us) Ib.kIn ln
  rw [List.append_nil] at bnd
  have run := F1.run _ X.stack _ _ ⟨Value.ref z :: us, []⟩ (Value.ref z :: us) [V.ref z, y] (fun v Hb => v = .non ∧ ∃ d : Addr, Ha d = none ∧ d ≠ z ∧ Hb = upd (upd (upd Ha z (exo z C none)) d (exd d [(f, y)])) z (exo z C (some d))) (fun _ _ _ => False) (hr.make C us []) (Ib.env0.make C us []) bnd rb
    ⟨z, y, rfl, oy, upd_same, fun d hd dz => ⟨rfl, d, by rw [upd_ne dz] at hd; exact hd, dz, rfl⟩⟩
  have hz' : z = hp.objs.size + 1 := hz.symm
  subst hz'
  refine wpAny_call (PySem.HandSPX.call_own Xb.F (fun _ => rfl) (Ia.kIn _ _ hC) (PySem.W.looks_findIn Ia.kIn iC) (fun self => PySem.W.bind_fn Ia.kIn self tI) few (codeAny_mono run fun r s2 hq2 => ?_))
  cases r with
  | error er => exact let ⟨_, _, _, _, _, _, _, _, _, _, _, _, no⟩ := hq2; no.elim
  | ok fl =>
    cases fl with
    | ret u =>
      obtain ⟨v, Hb, os2, bare2, un2, hok2, rv, ev, d, hd, dz, eH⟩ := hq2
      subst ev
      obtain ⟨h2, g2, d2, t2, os'⟩ := s2
      refine ⟨rv, mk_end (Q := Q) (fs := [(f, y)]) (raises_own T.exC T.tyC) Ia big grow un2 hok2 os2 bare2 (by rw [eH, upd_same]) (by rw [eH, upd_ne dz, upd_same]) hd ?_⟩
      have same : upd (del Hb (hp.objs.size + 1)) d (.xd [(f, y)]) = upd Ha d (.xd [(f, y)]) := by
        funext b
        by_cases b1 : b = d
        · rw [b1, upd_same, upd_same]
        · rw [upd_ne b1, upd_ne b1]
          by_cases b2 : b = hp.objs.size + 1
          · rw [b2, del_same, fresh]
          · rw [del_ne b2, eH, upd_ne b2, upd_ne b1, upd_ne b2]
      rw [same]
      exact hq d hd
    | next => exact (show False from hq2).elim
    | brk => exact (show False from hq2).elim
    | cont => exact (show False from hq2).elim
end
/-! ### try with several handlers, each with a name or without -/
/-- a handler: the class, the slot of its name, its suite -/
structure Hnd where
  c : Value
  i : Option Nat
  t : Addr → Value → Option Addr → TS
/-- the ends of a suite whose name goes -/
def goneE (D : Ends) : Option Nat → Ends
  | none => D
  | some i => { nx := fun σ H => D.nx (σ.set i none) H, rt := D.rt, bk := fun σ H => D.bk (σ.set i none) H, ct := fun σ H => D.ct (σ.set i none) H }
def putE (σ : L2.St) (a : Addr) : Option Nat → L2.St
  | none => σ
  | some i => σ.set i (some (.ref a))
def wG (K : PySem.W.Frag) (W : WX) (D : Ends) : List Hnd → WX
  | [] => W
  | h :: r => fun cls d σ H => ∃ b, PySem.W.exmOne K cls h.c = some b ∧ (b = true → ∀ a, H a = none → h.t a cls d (goneE D h.i) (putE σ a h.i) H) ∧ (b = false → wG K W D r cls d σ H)
inductive HdsG (X : Cx) : List ExceptHandler → List Hnd → Prop
  | nil : HdsG X [] []
  | bare {x : Str} {c : Value} {t : Addr → Value → Option Addr → TS} {b₀ : Stmt} {bs : List Stmt} {np hp : Pos} {hds : List ExceptHandler} {l : List Hnd} (nm : Names X x c)
      (su : ∀ (a : Addr) (oe : Obj) (cls : Value) (d : Option Addr) (pn : List (Addr × Obj)), Zc cls d oe → (∃ vs, oe.data = .fields vs) → PSs (X.suite a ((a, oe) :: pn)) (b₀ :: bs) (t a cls d)) (r : HdsG X hds l) :
      HdsG X (.ExceptHandler (some (.Name x np)) none (b₀ :: bs) hp :: hds) (⟨c, none, t⟩ :: l)
  | named {x n : Str} {i : Nat} {c : Value} {t : Addr → Value → Option Addr → TS} {b₀ : Stmt} {bs : List Stmt} {np hp : Pos} {hds : List ExceptHandler} {l : List Hnd} (nm : Names X x c) (hi : X.N[i]? = some n) (hln : X.env.kindOf n = some .local)
      (su : ∀ (a : Addr) (oe : Obj) (cls : Value) (d : Option Addr) (pn : List (Addr × Obj)), Zc cls d oe → (∃ vs, oe.data = .fields vs) → PSs (X.suite a ((a, oe) :: pn)) (b₀ :: bs) (t a cls d)) (r : HdsG X hds l) :
      HdsG X (.ExceptHandler (some (.Name x np)) (some n) (b₀ :: bs) hp :: hds) (⟨c, some i, t⟩ :: l)
section
variable {X : Cx} {body : List Stmt} {h₀ : ExceptHandler} {hds : List ExceptHandler} {l : List Hnd} {pos : Pos} {tb : WX → TS} {W : WX}
theorem ps_tryG (hs : X.stack = X.env :: X.outer) (hf : X.env.frame = some X.env.locals) (hN : X.N.Nodup) (tk : Takes X W)
    (hb : ∀ (V : WX) (pn : List (Addr × Obj)) (xe : Value → Shared → Prop), Takes (X.tr pn xe) V → PassesOwn (model X.prog X.w) X.A X.env xe → PSs (X.tr pn xe) body (tb V)) (hh : HdsG X (h₀ :: hds) l) :
    PS X (.Try body (h₀ :: hds) [] [] pos) (fun D σ H => tb (wG X.K W D l) D σ H) := by
  refine ⟨fun pins s σ H D I h => ?_⟩
  have okX := I.ok
  have frm : X.A.frames = some (X.env :: X.outer) := by rw [okX.frames, hs]
  refine wpAny_Try_except ?_
  refine wpAny_mono ((hb (wG X.K W D l) (X.pn ++ pins) (fun er s1 => wpAny (model X.prog X.w) X.A (noteFrame er X.env) (fun _ s2 => wpAny (model X.prog X.w) X.A (setFlight er none) (fun _ s3 =>
    wpAny (model X.prog X.w) X.A (handleBy er X.env (h₀ :: hds)) (SP X pins D) X.xe s3) X.xe s2) X.xe s1) (fun u s1 xx => ?_) PassesOwn.looking).run [] s σ H D (I.toTry _) h) (fun fl s1 sp => ?_) (fun _ _ q => q)
  · obtain ⟨a, G, sI, pinsI, σx, Hx, cls, d, rfl, Jt, nb, up, sky, na, osq, bareq, want⟩ := xx
    have Jx : Inv X pins σx Hx sI := Jt.ofTry okX
    rw [show (X.tr (X.pn ++ pins) _).stack = X.env :: X.outer from hs] at sky
    show wpAny (model X.prog X.w) X.A (noteFrame (.ref a) X.env) _ _ _
    refine Sky.land Zc.steady frm hf sky fun hn fln upn => ?_
    have Jn : Inv X pins σx Hx { s1 with heap := hn } := Jx.landed nb fln.1 (up.trans upn) osq bareq
    obtain ⟨oen, vsn, hen, hzn, hdn⟩ := fln.there
    have apart : a ∉ frs (X.env :: X.outer) := fun hm => by
      obtain ⟨_, ob, eo, nope⟩ := fln.2.2.1.mem hm
      rw [hen] at eo; cases eo
      exact nope _ hdn
    have offL : a ≠ X.env.locals := fun q => apart (List.mem_filterMap.mpr ⟨X.env, List.mem_cons_self, by rw [hf, q]⟩)
    have offF : a ∉ X.fs := fun hm => by
      obtain ⟨en, hen', q⟩ := List.mem_filterMap.mp hm
      exact apart (List.mem_filterMap.mpr ⟨en, List.mem_cons_of_mem _ hen', q⟩)
    have Sn := Jn.suite hen hdn na offL offF
    have typ : PySem.W.Looks (model X.prog X.w) hn (typeOf (.ref a)) cls := fun A2 Q2 E2 s2 k2 q2 => wpAny_typeOf_ref (k2 _ _ hen) (by rw [hzn.1]; exact q2)
    have name : ∀ {x : Str} {c : Value} {np : Pos} {Q2 E2 : Value → Shared → Prop}, Names X x c → Q2 c { s1 with heap := hn } → wpAny (model X.prog X.w) (X.A.mark (some (.ref a))) (eval (.Name x np) X.env) Q2 E2 { s1 with heap := hn } := fun {x c np Q2 E2} nm q2 => by
      obtain ⟨g2, db2, m2 | ⟨m2, bv2, nn2⟩⟩ := nm
      · exact ld_glob (X := X.suite a ((a, oen) :: (X.pn ++ pins))) Sn g2 m2 q2 db2
      · exact ld_blt (X := X.suite a ((a, oen) :: (X.pn ++ pins))) Sn g2 m2 bv2 q2 nn2 db2
    have each : ∀ {hs2 : List ExceptHandler} {l2 : List Hnd}, HdsG X hs2 l2 → wG X.K W D l2 cls d σx Hx → wpAny (model X.prog X.w) X.A (handleBy (.ref a) X.env hs2) (SP X pins D) X.xe { s1 with heap := hn } := by
      intro hs2 l2 hk
      induction hk with
      | nil =>
        intro want
        refine wpAny_handleBy_nil ?_
        obtain ⟨_, _, _, ob, vs, tb2, _, _, heb, _, hdb, hb1, _⟩ := id fln
        unfold PySem.passOn
        refine wpAny_bind (wpAny_field heb hdb hb1 ?_)
        rw [if_neg (show ¬ ((Value.ref tb2 == Value.none) = true) from by simp)]
        have last : wpAny (model X.prog X.w) X.A (setFlight (.ref a) X.env.frame) (fun _ s4 => wpAny (model X.prog X.w) X.A (throw (.ref a) : Sem Flow) (SP X pins D) X.xe s4) X.xe { s1 with heap := hn } := by
          rw [hf]
          exact HandSPX.setFlight_upZ fln fun h4 held up4 => wpAny_throw (tk _ _ ⟨a, G, sI, pins, σx, Hx, cls, d, rfl, Jx, nb, (up.trans upn).trans up4, .inr (.inr (by rw [hs]; exact held)), na, osq, bareq, want⟩)
        first
          | exact wpAny_bind (wpAny_pure (wpAny_bind last))
          | exact wpAny_bind last
      | @bare x c t b₀ bs np hp hds2 l2 nm su r ih =>
        intro want
        obtain ⟨b, eb, yes, no⟩ := want
        refine wpAny_handleBy_cons (codeAny_handlers_test (name nm ((PySem.W.exm_one (M := model X.prog X.w) Jn.kIn typ eb).here ?_))) (by intro q; cases q)
        cases b with
        | false => exact ih (no rfl)
        | true =>
          refine codeAny_handlers_suite (HandSPX.lands_againZ fln fun hm flm upm => ?_)
          obtain ⟨oem, vsm, hem, hzm, hdm⟩ := flm.there
          have Sm := (Jx.landed (s' := { s1 with heap := hm }) nb flm.1 ((up.trans upn).trans upm) osq bareq).suite hem hdm na offL offF
          refine wpAny_mono ((su a oem cls d (X.pn ++ pins) hzm ⟨_, hdm⟩).run [] _ _ Hx _ Sm (yes rfl a na)) (fun fl s6 sp => ?_) (fun _ _ q => q.elim)
          cases fl with
          | next => exact let ⟨_, _, S6, q6⟩ := sp; ⟨_, _, S6.unsuite okX, q6⟩
          | brk => exact let ⟨_, _, S6, q6⟩ := sp; ⟨_, _, S6.unsuite okX, q6⟩
          | cont => exact let ⟨_, _, S6, q6⟩ := sp; ⟨_, _, S6.unsuite okX, q6⟩
          | ret u => exact let ⟨_, _, _, S6, r6, q6⟩ := sp; ⟨_, _, _, S6.unsuite okX, r6, q6⟩
      | @named x n i c t b₀ bs np hp hds2 l2 nm hi hln su r ih =>
        intro want
        obtain ⟨b, eb, yes, no⟩ := want
        refine wpAny_handleBy_cons (codeAny_handlers_test (name nm ((PySem.W.exm_one (M := model X.prog X.w) Jn.kIn typ eb).here ?_))) (by intro q; cases q)
        cases b with
        | false => exact ih (no rfl)
        | true =>
          refine codeAny_handlers_suite_as (HandSPX.lands_againZ fln fun hm flm upm => ?_)
          obtain ⟨oem, vsm, hem, hzm, hdm⟩ := flm.there
          have Sm := (Jx.landed (s' := { s1 with heap := hm }) nb flm.1 ((up.trans upn).trans upm) osq bareq).suite hem hdm na offL offF
          refine store_ok (X := X.suite a ((a, oem) :: (X.pn ++ pins))) (v := .ref a) Sm hN hi (.inl hln) rfl (fun s5 S5 => ?_) (.inr hln)
          refine wpAny_mono ((su a oem cls d (X.pn ++ pins) hzm ⟨_, hdm⟩).run [] s5 _ Hx _ S5 (yes rfl a na)) (fun fl s6 sp => ?_) (fun _ _ q => q.elim)
          have unname : ∀ {σ6 : L2.St} {H6 : Hp} {Q6 : Shared → Prop}, Inv (X.suite a ((a, oem) :: (X.pn ++ pins))) [] σ6 H6 s6 → (∀ s7, Inv X pins (σ6.set i none) H6 s7 → Q6 s7) →
              wpAny (model X.prog X.w) X.A (do bindName X.env n .none; unbindBehindTheSuite X.env n hp) (fun _ s7 => Q6 s7) X.xe s6 := fun {σ6 H6 Q6} S6 q6 => gone_ok (S6.unsuite okX) hN hi hln q6
          cases fl with
          | next => exact let ⟨_, _, S6, q6⟩ := sp; unname S6 fun _ J7 => ⟨_, _, J7, q6⟩
          | brk => exact let ⟨_, _, S6, q6⟩ := sp; unname S6 fun _ J7 => ⟨_, _, J7, q6⟩
          | cont => exact let ⟨_, _, S6, q6⟩ := sp; unname S6 fun _ J7 => ⟨_, _, J7, q6⟩
          | ret u => exact let ⟨_, _, _, S6, r6, q6⟩ := sp; unname S6 fun _ J7 => ⟨_, _, _, J7, r6, q6⟩
    exact each hh want
  · cases fl with
    | next => exact let ⟨_, _, J1, q⟩ := sp; wpAny_execs_nil ⟨_, _, J1.ofTry okX, q⟩
    | brk => exact let ⟨_, _, J1, q⟩ := sp; ⟨_, _, J1.ofTry okX, q⟩
    | cont => exact let ⟨_, _, J1, q⟩ := sp; ⟨_, _, J1.ofTry okX, q⟩
    | ret u => exact let ⟨_, _, _, J1, r1, q⟩ := sp; ⟨_, _, _, J1.ofTry okX, r1, q⟩
end
end Sb

/-! repr of values in which empty dicts stand: only their own addresses must not be that of sys.modules. -/
namespace Sb
open PySem PySem.Spec PyProof.Rows L2
mutual
/-- as Reads, told by the dicts' own addresses -/
inductive RX (h : Heap) : Value → PyData → List Addr → Prop
  | non : RX h .none .none []
  | bl (b : Bool) : RX h (.bool b) (.bool b) []
  | int (i : Int) (t : Tok) : RX h (.int i t) (.int i) []
  | str (x : Str) (t : Tok) : RX h (.str x t) (.str x) []
  | lst {a : Addr} {o : Obj} {its : Array Value} {n : Nat} {ds : List PyData} {l : List Addr} : h.get? a = some o → o.cls = .type "list" → o.data = .seq its n → RXs h its.toList ds l → RX h (.ref a) (.list ds) (a :: l)
  | tup {a : Addr} {o : Obj} {its : Array Value} {n : Nat} {ds : List PyData} {l : List Addr} : h.get? a = some o → o.cls = .type "tuple" → o.data = .seq its n → RXs h its.toList ds l → RX h (.ref a) (.tuple ds) l
  | dct {a : Addr} {o : Obj} {es : Array DictEntry} {n : Nat} {kvs : List (PyData × PyData)} {l m : List Addr} : h.get? a = some o → o.cls = .type "dict" → o.data = .dict es n → (a == sysModules) = false → RXs h (es.toList.map fun e => e.key) (kvs.map fun p => p.1) l → RXs h (es.toList.map fun e => e.val) (kvs.map fun p => p.2) m → RX h (.ref a) (.dict kvs) (a :: l ++ m)
inductive RXs (h : Heap) : List Value → List PyData → List Addr → Prop
  | nil : RXs h [] [] []
  | cons {v : Value} {vs : List Value} {d : PyData} {ds : List PyData} {l m : List Addr} : RX h v d l → RXs h vs ds m → RXs h (v :: vs) (d :: ds) (l ++ m)
end
section
variable {h : Heap} {P : Program} {w : World}
mutual
theorem RX.to : ∀ {v : Value} {d : PyData} {l : List Addr}, RX h v d l → Reads h v d l
  | _, _, _, .non => .none
  | _, _, _, .bl b => .bool b
  | _, _, _, .int i t => .int i t
  | _, _, _, .str x t => .str x t
  | _, _, _, .lst e c s r => .list e c s r.to
  | _, _, _, .tup e c s r => .tuple e c s r.to
  | _, _, _, .dct e c s _ p q => .dict e c s p.to q.to
theorem RXs.to : ∀ {vs : List Value} {ds : List PyData} {l : List Addr}, RXs h vs ds l → ReadsAll h vs ds l
  | _, _, _, .nil => .nil
  | _, _, _, .cons r rs => .cons r.to rs.to
end
theorem dictText_nil : dictText [] = ("{}" : Str) := by decide +kernel
mutual
theorem RX.shows : ∀ {v : Value} {d : PyData} {l : List Addr}, RX h v d l → d.showable = true → d.shown.length ≤ sizeLine → ∃ cs, ReadAtMost h d.depth cs ∧ ReprK P w cs h d.depth v d.shown
  | _, _, _, .non, _, _ => ⟨[], nofun, by simp only [PyData.shown]; exact .of_is ReprIs.none _ _ _⟩
  | _, _, _, .bl b, _, _ => ⟨[], nofun, by simp only [PyData.shown]; exact .of_is (ReprIs.bool b) _ _ _⟩
  | _, _, _, .int i t, q, _ => ⟨[], nofun, by simp only [PyData.shown]; exact .of_is (ReprIs.int t (by simpa [PyData.showable] using q)) _ _ _⟩
  | _, _, _, .str x t, _, z => ⟨[], nofun, by simp only [PyData.shown]; exact .of_is (ReprIs.str x t (by simpa only [PyData.shown] using z)) _ _ _⟩
  | _, _, _, .lst (a := a) (its := its) (ds := ds) e c s r, q, z => by
    simp only [PyData.shown] at z
    obtain ⟨cs, at_, all⟩ := RXs.shows r (by simpa [PyData.showable] using q) fun t ht => Nat.le_trans (listText_mem_le ht) z
    have whole : Reads h (.ref a) (.list ds) _ := (RX.lst e c s r).to
    have out : a ∉ cs := not_mem_of_deeper whole (by simp only [PyData.depth]; omega) at_
    refine ⟨a :: cs, ReadAtMost.cons whole (by simp only [PyData.depth]; omega) at_, ?_⟩
    simp only [PyData.depth, PyData.shown]
    obtain ⟨its⟩ := its
    cases its with
    | nil =>
      cases (show RXs h [] ds _ from r)
      simp only [PyData.shownAll, listText_nil]
      exact ReprK.listEmpty e c s
    | cons y ys => exact ReprK.list e c s out (by simpa using all.length_eq) fun i u eu => all.item i u (by simpa using eu)
  | _, _, _, .tup (a := a) (ds := ds) e c s r, q, z => by
    simp only [PyData.shown] at z
    obtain ⟨cs, at_, all⟩ := RXs.shows r (by simpa [PyData.showable] using q) fun t ht => Nat.le_trans (tupleText_mem_le ht) z
    have whole : Reads h (.ref a) (.tuple ds) _ := (RX.tup e c s r).to
    have out : a ∉ cs := not_mem_of_deeper whole (by simp only [PyData.depth]; omega) at_
    refine ⟨a :: cs, ReadAtMost.cons whole (by simp only [PyData.depth]; omega) at_, ?_⟩
    simp only [PyData.depth, PyData.shown]
    exact ReprK.tuple e c s out all
  | _, _, _, .dct (a := a) (es := es) (kvs := kvs) e c s ns p1 p2, q, z => by
    have z' : (dictText (PyData.shownKv kvs)).length ≤ sizeLine := by simpa only [PyData.shown] using z
    obtain ⟨y1, y2⟩ := PyData.showableKv_split kvs (by simpa [PyData.showable] using q)
    obtain ⟨c1, a1, k1⟩ := RXs.shows p1 y1 fun t ht => by
      obtain ⟨x, hx, hl⟩ := PyData.shownKv_key_le kvs t ht
      exact Nat.le_trans (Nat.le_trans hl (dictText_mem_le hx)) z'
    obtain ⟨c2, a2, k2⟩ := RXs.shows p2 y2 fun t ht => by
      obtain ⟨x, hx, hl⟩ := PyData.shownKv_val_le kvs t ht
      exact Nat.le_trans (Nat.le_trans hl (dictText_mem_le hx)) z'
    have d1 := PyData.depthAll_keys_le kvs
    have d2 := PyData.depthAll_vals_le kvs
    have at_ : ReadAtMost h (PyData.depthKv kvs) (c1 ++ c2) := (a1.mono d1).append (a2.mono d2)
    have whole := (RX.dct e c s ns p1 p2).to
    have out : a ∉ c1 ++ c2 := not_mem_of_deeper whole (by simp only [PyData.depth]; omega) at_
    refine ⟨a :: (c1 ++ c2), ReadAtMost.cons whole (by simp only [PyData.depth]; omega) at_, ?_⟩
    simp only [PyData.depth, PyData.shown]
    rw [PyData.shownKv_eq]
    exact ReprK.dict e c s ns out (ReprEntriesK.of_two es.toList _ _ (k1.more_le (fun y hy => List.mem_append_left _ hy) d1) (k2.more_le (fun y hy => List.mem_append_right _ hy) d2))
theorem RXs.shows : ∀ {vs : List Value} {ds : List PyData} {l : List Addr}, RXs h vs ds l → PyData.showableAll ds = true → (∀ t ∈ PyData.shownAll ds, t.length ≤ sizeLine) →
    ∃ cs, ReadAtMost h (PyData.depthAll ds) cs ∧ ReprAllK P w cs h (PyData.depthAll ds) vs (PyData.shownAll ds)
  | _, _, _, .nil, _, _ => ⟨[], nofun, by simp only [PyData.shownAll]; exact .nil⟩
  | _, _, _, .cons (d := d) (ds := ds) r rs, q, z => by
    obtain ⟨q1, q2⟩ : d.showable = true ∧ PyData.showableAll ds = true := by simpa [PyData.showableAll] using q
    simp only [PyData.shownAll, List.mem_cons, forall_eq_or_imp] at z
    obtain ⟨c1, a1, k1⟩ := RX.shows r q1 z.1
    obtain ⟨c2, a2, k2⟩ := RXs.shows rs q2 z.2
    simp only [PyData.depthAll, PyData.shownAll]
    exact ⟨c1 ++ c2, (a1.mono (Nat.le_max_left _ _)).append (a2.mono (Nat.le_max_right _ _)),
      .cons ((k1.more fun y hy => List.mem_append_left _ hy).level_le (Nat.le_max_left _ _)) (k2.more_le (fun y hy => List.mem_append_right _ hy) (Nat.le_max_right _ _))⟩
end
/-- repr(x) -/
theorem repr_rx {s : Shared} {A : Around} {E Q : Value → Shared → Prop} {a : Addr} {d : PyData} {l : List Addr} (r : RX s.heap (.ref a) d l) (q : d.showable = true) (z : d.shown.length ≤ sizeLine) (hg : A.guards = some []) (hu : A.units + (d.depth + 1) < cLine)
    (hQ : ∀ h' u tk, (∀ b o, s.heap.get? b = some o → h'.get? b = some o) → Q (.str d.shown u) { s with heap := h', toks := tk }) : wpAny (model P w) A (call (.builtin "repr") [.ref a]) Q E s := by
  have rm : A.in1.units + d.depth < cLine := by show A.units + 1 + d.depth < cLine; omega
  have whole := r.to
  cases r with
  | @lst _ o its n ds l e c sq r =>
    simp only [PyData.shown] at z hQ
    obtain ⟨cs, at_, all⟩ := RXs.shows (P := P) (w := w) r (by simpa [PyData.showable] using q) fun t ht => Nat.le_trans (listText_mem_le ht) z
    have out : a ∉ cs := not_mem_of_deeper whole (by simp only [PyData.depth]; omega) at_
    simp only [PyData.depth] at rm
    refine call_repr_slot (idr := "list.__repr__") (by omega) ⟨o, e, c⟩ F.slot_list_repr.toG ?_
    obtain ⟨its⟩ := its
    cases its with
    | nil =>
      cases (show RXs s.heap [] ds _ from r)
      simp only [PyData.shownAll, listText_nil] at hQ
      exact call_list_repr_empty ⟨o, e, c⟩ e sq ⟨_, _, rfl, hQ s.heap _ _ fun _ _ y => y⟩
    | cons y ys => exact call_list_reprK e c sq out (by simpa using all.length_eq) (fun i u eu => all.item i u (by simpa using eu)) hg (fun b _ => Clear.nil b) rm (fun _ _ y => y) (fun h' u tk k => ⟨_, _, rfl, hQ h' u tk k⟩) z
  | @tup _ o its n ds l e c sq r =>
    simp only [PyData.shown] at z hQ
    obtain ⟨cs, at_, all⟩ := RXs.shows (P := P) (w := w) r (by simpa [PyData.showable] using q) fun t ht => Nat.le_trans (tupleText_mem_le ht) z
    have out : a ∉ cs := not_mem_of_deeper whole (by simp only [PyData.depth]; omega) at_
    simp only [PyData.depth] at rm
    refine call_repr_slot (idr := "tuple.__repr__") (by omega) ⟨o, e, c⟩ F.slot_tuple_repr ?_
    exact call_tuple_reprK e c sq out all hg (fun b _ => Clear.nil b) rm (fun _ _ y => y) (fun h' u tk k => ⟨_, _, rfl, hQ h' u tk k⟩) z
  | @dct _ o es n kvs l m e c sq ns p1 p2 =>
    simp only [PyData.shown] at z hQ
    simp only [PyData.depth] at rm
    obtain ⟨y1, y2⟩ := PyData.showableKv_split kvs (by simpa [PyData.showable] using q)
    obtain ⟨c1, a1, k1⟩ := RXs.shows (P := P) (w := w) p1 y1 fun t ht => by
      obtain ⟨x, hx, hl⟩ := PyData.shownKv_key_le kvs t ht
      exact Nat.le_trans (Nat.le_trans hl (dictText_mem_le hx)) z
    obtain ⟨c2, a2, k2⟩ := RXs.shows (P := P) (w := w) p2 y2 fun t ht => by
      obtain ⟨x, hx, hl⟩ := PyData.shownKv_val_le kvs t ht
      exact Nat.le_trans (Nat.le_trans hl (dictText_mem_le hx)) z
    have d1 := PyData.depthAll_keys_le kvs
    have d2 := PyData.depthAll_vals_le kvs
    have out : a ∉ c1 ++ c2 := not_mem_of_deeper whole (by simp only [PyData.depth]; omega) ((a1.mono d1).append (a2.mono d2))
    rw [PyData.shownKv_eq] at z hQ
    refine call_repr_slot (idr := "dict.__repr__") (by omega) ⟨o, e, c⟩ F.slot_dict_repr ?_
    exact call_dict_reprK e c sq ns out (ReprEntriesK.of_two es.toList _ _ (k1.more_le (fun y hy => List.mem_append_left _ hy) d1) (k2.more_le (fun y hy => List.mem_append_right _ hy) d2)) hg (fun b _ => Clear.nil b) rm (fun _ _ y => y) (fun h' u tk k => ⟨_, _, rfl, hQ h' u tk k⟩) z
end
end Sb

/-! Dict comprehensions that fill a dict of any kind. -/
namespace Sb
open PySem PySem.Spec PyProof.Rows L2
/-- a kind of dict: the empty one, and what it asks to take a pair -/
structure Fill (X : Cx) where
  emp : Addr → HO
  put : Hp → Addr → V → V → (Hp → Prop) → Prop
  new : ∀ (H : Hp) (h : Heap), sysModules < h.objs.size → ObjOk X.prog X.w H (h.push { cls := .type "dict", data := .dict #[] }) h.objs.size (emp h.objs.size)
  set : ∀ {s0 : Shared} {H0 : Hp} {scope : Scope} {env : Env} {fp : List Addr} {pins : List (Addr × Obj)} {τ : L2.St} {H : Hp} {s : Shared} {D : Addr} {y z : V} {u r : Value} {N : Hp → Prop} {Q : Unit → Shared → Prop} {E : Value → Shared → Prop},
    Inv (X.blk s0 H0 scope env fp) pins τ H s → RelV y u → RelV z r → put H D y z N → (∀ H' s', N H' → Inv (X.blk s0 H0 scope env fp) pins τ H' s' → Q () s') → wpAny (model X.prog X.w) X.A (dictSet D u r) Q E s
section
variable {X : Cx} (F : Fill X)
/-- {k: v for target in iter if ..}: D the new dict -/
def tDcG (wi : TI) (g : TG) (tt : TT) (tk tv : TE) (vs : List Nat) : TE := fun σ H Q => wi σ H fun J H1 => ∀ D, H1 D = none → ∃ W : Nat → Nat → Hp → Prop, (∃ m, W 0 m (upd H1 D (F.emp D))) ∧ ∀ i m H2, W i m H2 →
  (J.stop i H2 ∧ Q (.ref D) H2) ∨ (J.go i H2 ∧ ∃ N : Hp → Prop, (∀ H3, N H3 → ∃ m', m' < m ∧ W (i + 1) m' H3) ∧ ∀ x H3, J.yld i H2 x H3 → g x (wipe σ vs) H3 fun τ H4 => wipe τ vs = wipe σ vs ∧ tt τ H4 fun b H5 =>
    if b = true then tk τ H5 fun y H6 => tv τ H6 fun z H7 => F.put H7 D y z N else N H5)
theorem pe_dcG {kx vx tg iter : Expr} {ifs : List Expr} {scope : Scope} {own : List (Str × Nat)} {pos : Pos} {wi : TI} {g : TG} {tt : TT} {tk tv : TE} (calm : X.calm = true) (nd : X.N.Nodup) (walk : PI X tg iter wi) (blk : BlkOk X.N X.env.scope scope own)
    (aim : ∀ (s : Shared) (H : Hp) (C : Addr) (cl : List (Str × Addr)) (fp : List Addr), PG (X.blk s H scope (compEnvC scope cl C X.env) fp) tg g) (test : ∀ (s : Shared) (H : Hp) (C : Addr) (cl : List (Str × Addr)) (fp : List Addr), PTs (X.blk s H scope (compEnvC scope cl C X.env) fp) ifs tt)
    (key : ∀ (s : Shared) (H : Hp) (C : Addr) (cl : List (Str × Addr)) (fp : List Addr), PE (X.blk s H scope (compEnvC scope cl C X.env) fp) kx tk)
    (val : ∀ (s : Shared) (H : Hp) (C : Addr) (cl : List (Str × Addr)) (fp : List Addr), PE (X.blk s H scope (compEnvC scope cl C X.env) fp) vx tv) (plain : ∀ x, foldedSetIterable iter X.env x = pure x := by intro _; rfl) :
    PE X (.DictComp kx vx [⟨tg, iter, ifs, 0⟩] scope pos) (tDcG F wi g tt tk tv (own.map (·.2))) := by
  refine ⟨fun pins s σ H Q I h => ?_⟩
  rw [arm_eval_DictComp]
  have cells : ∀ q ∈ scope.names, q.2 = .free → ∃ c, X.env.cells.lookup q.1 = some c := fun q hq e => (blk.free q hq e).elim (fun k => I.ok.has _ (.inl k)) fun k => I.ok.has _ (.inr k)
  refine wpAny_comprehension_free rfl plain (closure_ok cells) blk.kind (fun q hq e => by rw [blk.uniq q hq, e]) (thn (walk.run pins s σ H _ I h) fun xv sa ha => thn ha fun itv sb hb => ?_)
  obtain ⟨it, fp, tn, J, Hb, e, Ib, T, st, free, q⟩ := hb
  subst e
  refine wpAny_newObj_type (newEnv_comp ?_)
  -- the new dict stands at the heap's end
  have big := Ib.big
  have room : ∀ b ∈ fp, b < sb.heap.objs.size := fun b hb => (T.obj _ _ st b hb).elim fun _ k => Heap.lt_size k.1
  generalize eD : sb.heap.objs.size = D at *
  have none_D : Hb D = none := Ib.hok.fresh (Nat.le_of_eq eD)
  obtain ⟨W, ⟨m0, start⟩, each⟩ := q D none_D
  obtain ⟨sc, esc⟩ : ∃ sc : Shared, sc = { sb with heap := sb.heap.push { cls := .type "dict", data := .dict #[] } } := ⟨_, rfl⟩
  have hc : sc.heap = sb.heap.push { cls := .type "dict", data := .dict #[] } := by rw [esc]
  have grow : ∀ b o, sb.heap.get? b = some o → sc.heap.get? b = some o := fun b o k => by rw [hc]; exact Heap.get?_push_of_some _ k
  have Ic : Inv X pins σ (upd Hb D (F.emp D)) sc := by
    rw [esc]
    exact Ib.laid (t' := sb.toks) (fun b o k => Heap.get?_push_of_some _ k) (Nat.le_of_eq eD) (by rw [← eD]; exact F.new _ sb.heap (by rw [eD]; exact big))
  have outC : ∀ b ∈ fp, FpOk X pins (upd Hb D (F.emp D)) b ∧ b < sc.heap.objs.size := fun b hb => by
    have lt := room b hb
    refine ⟨⟨by rw [upd_ne (Nat.ne_of_lt lt)]; exact (free b hb).1, (free b hb).2⟩, ?_⟩
    rw [hc, Heap.size_push, eD]
    exact Nat.lt_succ_of_lt lt
  have stC : tn 0 sc.heap := T.keep _ _ _ st fun b _ o k => grow b o k
  generalize upd Hb D (F.emp D) = Hc at *
  have Id := block_start Ic blk nd outC
  have pa := aim sc Hc sc.heap.objs.size (cellsFrom (sc.heap.objs.size + 1) scope.names (cloFrom X.env.cells scope.names [])) fp
  have pt := test sc Hc sc.heap.objs.size (cellsFrom (sc.heap.objs.size + 1) scope.names (cloFrom X.env.cells scope.names [])) fp
  have pk := key sc Hc sc.heap.objs.size (cellsFrom (sc.heap.objs.size + 1) scope.names (cloFrom X.env.cells scope.names [])) fp
  have pv := val sc Hc sc.heap.objs.size (cellsFrom (sc.heap.objs.size + 1) scope.names (cloFrom X.env.cells scope.names [])) fp
  rw [← esc]
  show codeAny _ _ (.compStart (.DictComp kx vx [⟨tg, iter, ifs, 0⟩] scope pos) 0 (.ref it) (.ref D) (compEnvC scope (cellsFrom (sc.heap.objs.size + 1) scope.names (cloFrom X.env.cells scope.names [])) sc.heap.objs.size X.env)) (compPost (model X.prog X.w) X.A X.xe none _ (.ref D) sc.heap.objs.size) { sc with heap := pushCells (sc.heap.push { cls := .type "dict", data := .dict #[] }) scope.names }
  have loc : (compEnvC scope (cellsFrom (sc.heap.objs.size + 1) scope.names (cloFrom X.env.cells scope.names [])) sc.heap.objs.size X.env).locals = sc.heap.objs.size := rfl
  generalize compEnvC scope (cellsFrom (sc.heap.objs.size + 1) scope.names (cloFrom X.env.cells scope.names [])) sc.heap.objs.size X.env = env at *
  obtain ⟨sd, esd⟩ : ∃ sd : Shared, sd = { sc with heap := pushCells (sc.heap.push { cls := .type "dict", data := .dict #[] }) scope.names } := ⟨_, rfl⟩
  rw [← esd] at Id ⊢
  have stD : tn 0 sd.heap := T.keep _ _ _ stC fun b _ o k => by rw [esd]; exact pushCells_keeps _ _ _ _ (Heap.get?_push_of_some _ k)
  have static : ∀ {τ : L2.St} {G : Hp} {sx : Shared}, Inv (X.blk sc Hc scope env fp) [] τ G sx → (∀ b ∈ fp, G b = none) → ∀ b ∈ fp, FpOk (X.blk sc Hc scope env fp) [] G b := fun {τ G sx} Ix no b hb =>
    ⟨no b hb, (Ix.ok.exf b hb).1, Ix.ok.exfs b hb, .inl hb, (Ix.ok.exf b hb).2, fun p hp => absurd (show p ∈ ([] : List (Addr × Obj)) ++ [] from hp) (by simp)⟩
  suffices lp : codeAny (model X.prog X.w) X.A (.compLoop (.DictComp kx vx [⟨tg, iter, ifs, 0⟩] scope pos) 0 (.ref it) (.ref D) env) (compPost (model X.prog X.w) X.A X.xe none (EP X pins σ Q) (.ref D) sc.heap.objs.size) sd from codeAny_compStart_dict lp (T.self X.A 0 _ _ _ stD lp)
  refine compLoop_anyD (fun n sx => ∃ i G, Inv (X.blk sc Hc scope env fp) [] (wipe σ (own.map (·.2))) G sx ∧ tn i sx.heap ∧ (∀ b ∈ fp, G b = none) ∧ W i n G) ?_ m0 ⟨0, Hc, Id, stD, fun b hb => (outC b hb).1.1, start⟩
  rintro n sx ⟨i, G, Ix, stx, no, w⟩
  rcases each i n G w with ⟨stop, done⟩ | ⟨go, N, next, step⟩
  · -- the end: back to the def's own frame
    refine thnF (T.done (X.blk sc Hc scope env fp) rfl rfl rfl calm i [] sx _ G (fun _ _ => False) Ix (static Ix no) stx stop) fun r sy ⟨er, Iy⟩ => ?_
    subst er
    have back : Inv X pins σ G sy := Ic.call' (ch := fp) Iy.os Iy.base Iy.hok Iy.bare fun b hb => let f := (outC b hb).1; ⟨f.2.2.2.1, f.2.1, f.2.2.2.2.1, f.2.2.2.2.2⟩
    have noC : G sc.heap.objs.size = none := by
      have z : G env.locals = none := Iy.free
      rwa [loc] at z
    obtain ⟨m, ns, _⟩ := Iy.loc
    have ns : sy.heap.Ns env.locals m := ns
    rw [loc] at ns
    obtain ⟨f0, f1, f2, f3, f4, f5⟩ := Ic.fpOk (Nat.le_refl _) noC
    exact ⟨m, ns, fun hz sb => ⟨.ref D, G, back.turned (t' := sy.toks) (fun b o hb e => (sb.2 b hb).trans e) f0 f1 f3 f4 f5, rfl, done⟩⟩
  · refine thnF (T.item (X.blk sc Hc scope env fp) rfl rfl rfl calm i [] sx _ G (fun _ _ => False) Ix (static Ix no) stx go) fun r sy ⟨u, er, hy⟩ => ?_
    subst er
    refine thnF hy fun _ sy hy => ?_
    obtain ⟨x, Gy, Iy, ry, yld, sty, noy⟩ := hy
    refine thnF (pa.run _ sy _ Gy x u _ (Iy.pinned (static Iy noy) (T.obj _ _ sty)) ry (step x Gy yld)) fun _ s1 h1 => ?_
    obtain ⟨τ, G1, I1, same, q1⟩ := h1
    refine thnF (pt.run _ s1 τ G1 _ I1 q1) fun b s2 h2 => ?_
    obtain ⟨G2, I2, q2⟩ := h2
    have again : ∀ {sz : Shared} {Gz : Hp}, Inv (X.blk sc Hc scope env fp) ([] ++ pinsAt fp sy.heap) τ Gz sz → N Gz → ∃ m, m < n ∧ ∃ i G, Inv (X.blk sc Hc scope env fp) [] (wipe σ (own.map (·.2))) G sz ∧ tn i sz.heap ∧ (∀ b ∈ fp, G b = none) ∧ W i m G := fun {sz Gz} Iz hz => by
      obtain ⟨m', less, wm⟩ := next Gz hz
      have held : ∀ b ∈ fp, ∀ o, sy.heap.get? b = some o → sz.heap.get? b = some o ∧ Gz b = none := fun b hb o e => let p := Iz.pin (b, o) (List.mem_append_right _ (List.mem_append_right _ (mem_pinsAt hb e))); ⟨p.1, p.2.1⟩
      refine ⟨m', less, i + 1, Gz, (Iz.unpinned (pins := [])).weak (by rw [← same, wipe_length]) (fun j v e => ?_), T.keep _ _ _ sty fun b hb o e => (held b hb o e).1, fun b hb => (T.obj _ _ sty b hb).elim fun o k => (held b hb o k.1).2, wm⟩
      rw [← same] at e
      exact (wipe_some e).1
    cases b with
    | false =>
      simp only [Bool.false_eq_true, if_false] at q2 ⊢
      exact again I2 q2
    | true =>
      simp only [if_true] at q2 ⊢
      refine thnF (pk.run _ s2 τ G2 _ I2 q2) fun ku s3 h3 => ?_
      obtain ⟨y, G3, I3, r3, q3⟩ := h3
      refine thnF (pv.run _ s3 τ G3 _ I3 q3) fun vu s4 h4 => ?_
      obtain ⟨z, G4, I4, r4, q4⟩ := h4
      exact F.set I4 r3 r4 q4 fun Gz sz hz Iz => again Iz hz
end
end Sb

/-! list.sort by a key function, whatever the function changes elsewhere. -/
namespace Sb
open PySem PySem.Spec PyProof.Rows L2 Srt SrtO PySem.W
section
variable {P : Program} {w : World} {A : Around} {s : Shared} {a : Addr} {f : Value} {vs : List Value} {n : Nat} {R : PySem.Fin → Shared → Prop} {E : Value → Shared → Prop}
/-- the sort's own list of keys stands here -/
abbrev kAt (s : Shared) : Addr := s.heap.objs.size + 1
/-- the heap when the keys are asked for -/
def hAsk (h : Heap) (a : Addr) (vs : List Value) : Heap := ((h.update a (Obj.mapSeq fun _ => #[])).push (seqObj "tuple" vs.toArray 0)).push (seqObj "list" #[] 0)
theorem zip_pairs (ks vs : List Value) : (ks.toArray.zip vs.toArray).toList = ks.zip vs := by simp
theorem keyed_sort (ho : s.heap.get? a = some (seqObj "list" vs.toArray n)) (hz : vs.length ≤ 1000000) (J : List Value → Shared → Prop) (start : J [] { s with heap := hAsk s.heap a vs })
    (turn : ∀ v ks s' e, vs[ks.length]? = some v → J ks s' → s'.heap.get? (kAt s) = some (seqObj "list" ks.toArray e) → wpAny (model P w) A (call f [v]) (fun k s2 => s2.heap.get? (kAt s) = s'.heap.get? (kAt s) ∧ s2.heap.get? a = s'.heap.get? a ∧
      ∀ h', Heap.SameBut (kAt s) s2.heap h' → (∃ c, h'.get? (kAt s) = some (seqObj "list" (ks ++ [k]).toArray c)) → J (ks ++ [k]) { s2 with heap := h' }) (fun _ _ => False) s')
    (fin : ∀ ks s', J ks s' → ks.length = vs.length → ∃ ltk : Value → Value → Bool, Swo ltk ∧
      (2 ≤ ks.length → ∃ κ, (∀ (Q : SortKind → Shared → Prop) (E : Value → Shared → Prop), Q κ s' → wpAny (model P w) A (keyKind' ks.toArray) Q E s') ∧ Cmp P w A s' κ (fun p => p.1 ∈ ks) (fun p q => ltk p.1 q.1)) ∧
      ∀ (xs : List Keyed) (h1 h2 : Heap), Srtd (fun p q => ltk p.1 q.1) xs → xs.Perm (ks.zip vs) → Heap.SameBut (kAt s) s'.heap h1 → Heap.SameBut a h1 h2 → (∃ c, h2.get? a = some (seqObj "list" (xs.map (·.2)).toArray c)) → R (.done (.ret .none)) { s' with heap := h2 }) :
    wpAny (model P w) A (ksk_tree a f false) R E s := by
  have lt_a : a < s.heap.objs.size := Heap.lt_size ho
  have big : vs.length ≤ sizeLine := Nat.le_trans hz (by rw [sizeLine_eq]; decide)
  obtain ⟨e1, at1⟩ : ∃ e1, (s.heap.update a (Obj.mapSeq fun _ => #[])).get? a = some (seqObj "list" #[] e1) := ⟨_, get?_update_seq ho fun _ => #[]⟩
  have hk : ((s.heap.update a (Obj.mapSeq fun _ => #[])).push (seqObj "tuple" vs.toArray 0)).objs.size = kAt s := by rw [size_push', Heap.size_update]
  have at2 : (hAsk s.heap a vs).get? a = some (seqObj "list" #[] e1) := Heap.get?_push_of_some _ (Heap.get?_push_of_some _ at1)
  have at3 : (hAsk s.heap a vs).get? (kAt s) = some (seqObj "list" #[] 0) := by rw [← hk]; exact Heap.get?_push_size _ rfl
  have apart : kAt s ≠ a := Nat.ne_of_gt (Nat.lt_succ_of_lt lt_a)
  unfold ksk_tree
  refine wpAny_bind (listItems_at ho rfl (wpAny_bind (listUpdate_at ho rfl ?_ (by rw [List.size_toArray]; exact big) (Nat.zero_le _))))
  refine wpAny_bind (seqEpoch_at at1 rfl (wpAny_bind (wpAny_newTuple ?_ (by show vs.length ≤ _; exact big))))
  refine wpAny_bind (wpAny_newList ?_ (Nat.zero_le _))
  refine wpAny_holding ?_
  show wpAny (model P w) A (ksk_rest a f false vs.toArray e1 (.ref ((s.heap.update a (Obj.mapSeq fun _ => #[])).push (seqObj "tuple" vs.toArray 0)).objs.size)) R E { s with heap := hAsk s.heap a vs }
  rw [hk]
  unfold ksk_rest
  refine wpAny_bind (wpAny_rule ?_)
  first
    | rw [List.forIn_toArray]
    | (rw [← Array.forIn_toList]; simp only [List.toList_toArray])
  refine wpAny_bind (ksk_fold (fun i s1 => ∃ ks e, ks.length = i ∧ J ks s1 ∧ s1.heap.get? (kAt s) = some (seqObj "list" ks.toArray e) ∧ s1.heap.get? a = some (seqObj "list" #[] e1)) vs 0 _ ⟨[], 0, rfl, start, at3, at2⟩ ?_ ?_)
  · rintro j v s1 hv ⟨ks, e, len, hJ, gk, ga⟩
    rw [Nat.zero_add] at len ⊢
    have less : j < vs.length := (List.getElem?_eq_some_iff.mp hv).1
    refine wpAny_bind (wpAny_attempt (wpAny_mono (turn v ks s1 e (by rw [len]; exact hv) hJ gk) (fun k s2 h2 => ?_) fun _ _ no => no.elim))
    obtain ⟨g1, g2, next⟩ := h2
    have gk2 : s2.heap.get? (kAt s) = some (seqObj "list" ks.toArray e) := g1.trans gk
    have upd1 := Heap.SameBut.update s2.heap (kAt s) (Obj.mapSeq (·.push k))
    have arr : ks.toArray.push k = (ks ++ [k]).toArray := by simp
    have gk3 : ∃ c, (s2.heap.update (kAt s) (Obj.mapSeq (·.push k))).get? (kAt s) = some (seqObj "list" (ks ++ [k]).toArray c) := ⟨_, by rw [get?_update_seq gk2 (·.push k), ← arr]⟩
    try dsimp only
    refine wpAny_bind (listUpdate_at gk2 rfl ?_ (by rw [List.size_toArray]; omega) (by rw [Array.size_push, List.size_toArray]; omega))
    obtain ⟨c, gk3⟩ := gk3
    exact wpAny_pure ⟨rfl, ks ++ [k], c, by rw [List.length_append, len]; rfl, next _ upd1 ⟨c, gk3⟩, gk3, (upd1.2 a apart.symm).trans (g2.trans ga)⟩
  · rintro s1 ⟨ks, e, len, hJ, gk, ga⟩
    rw [Nat.zero_add] at len
    try dsimp only
    refine wpAny_bind (listItems_at gk rfl ?_)
    obtain ⟨ltk, O, ready, done⟩ := fin ks s1 hJ len
    -- what is behind the runs
    have tail : ∀ st : SortSt, Srtd (fun p q => ltk p.1 q.1) (arrOf st).toList → (arrOf st).toList.Perm (ks.zip vs) → failedOf st = none → wpAny (model P w) A (ksk_tail a false e1 (.ref (kAt s)) st) R E s1 := by
      intro st sorted perm ok
      have u1 := Heap.SameBut.update s1.heap (kAt s) (Obj.mapSeq fun _ => (#[] : Array Value))
      have ga1 : (s1.heap.update (kAt s) (Obj.mapSeq fun _ => (#[] : Array Value))).get? a = some (seqObj "list" #[] e1) := (u1.2 a apart.symm).trans ga
      have u2 := Heap.SameBut.update (s1.heap.update (kAt s) (Obj.mapSeq fun _ => (#[] : Array Value))) a (Obj.mapSeq fun _ => (arrOf st).map (·.2))
      have ga2 := get?_update_seq ga1 fun _ => (arrOf st).map (·.2)
      have lz : (arrOf st).size = vs.length := by rw [← Array.length_toList, perm.length_eq, List.length_zip, len, Nat.min_self]
      unfold ksk_tail
      try dsimp only
      refine wpAny_bind (listUpdate_at gk rfl ?_ (by rw [List.size_toArray, len]; exact big) (Nat.zero_le _))
      refine wpAny_bind (wpAny_letGo (wpAny_bind (seqEpoch_at ga1 rfl ?_)))
      simp only [Bool.false_eq_true, if_false]
      refine wpAny_bind (listUpdate_at ga1 rfl ?_ (Nat.zero_le _) (by rw [Array.size_map, lz]; omega))
      rw [ok]
      simp only [bne_self_eq_false, Bool.false_eq_true, if_false]
      have same : (arrOf st).map (·.2) = ((arrOf st).toList.map (·.2)).toArray := by rw [← Array.toList_map, Array.toArray_toList]
      have there : ∃ c, ((s1.heap.update (kAt s) (Obj.mapSeq fun _ => (#[] : Array Value))).update a (Obj.mapSeq fun _ => (arrOf st).map (·.2))).get? a = some (seqObj "list" ((arrOf st).toList.map (·.2)).toArray c) := by
        obtain ⟨c, gc⟩ : ∃ c, ((s1.heap.update (kAt s) (Obj.mapSeq fun _ => (#[] : Array Value))).update a (Obj.mapSeq fun _ => (arrOf st).map (·.2))).get? a = some (seqObj "list" ((arrOf st).map (·.2)) c) := ⟨_, ga2⟩
        exact ⟨c, by rw [gc, same]⟩
      exact wpAny_pure (done (arrOf st).toList _ _ sorted perm u1 u2 there)
    unfold ksk_end
    simp only [Bool.false_eq_true, if_false]
    by_cases two : vs.toArray.size < 2
    · rw [if_pos two, if_pos two]
      refine wpAny_bind (wpAny_pure ?_)
      rw [StateT.run_pure]
      refine wpAny_bind (wpAny_pure ?_)
      try dsimp only
      rw [List.size_toArray] at two
      refine tail (SortSt.mk' general' (ks.toArray.zip vs.toArray) #[] 7 none) ?_ (by show (ks.toArray.zip vs.toArray).toList.Perm _; rw [zip_pairs]) rfl
      show Srtd _ (ks.toArray.zip vs.toArray).toList
      rw [zip_pairs]
      have short : (ks.zip vs).length < 2 := by rw [List.length_zip]; omega
      match ks.zip vs, short with
      | [], _ => exact List.Pairwise.nil
      | [_], _ => exact List.pairwise_singleton _ _
    · rw [if_neg two, if_neg two]
      rw [List.size_toArray] at two
      obtain ⟨κ, kind, T⟩ := ready (by omega)
      refine wpAny_bind (kind _ _ ?_)
      have O2 : Swo (fun p q : Keyed => ltk p.1 q.1) := ⟨fun x y => O.asym x.1 y.1, fun x y z => O.tr x.1 y.1 z.1⟩
      have each : AllL (fun p : Keyed => p.1 ∈ ks) (ks.toArray.zip vs.toArray).toList := fun p hp => by
        rw [zip_pairs] at hp
        exact (List.of_mem_zip (a := p.1) (b := p.2) hp).1
      refine wpAny_bind (wpAny_mono (wpS_sortO (st0 := SortSt.mk' κ (ks.toArray.zip vs.toArray) #[] 7 none) (Q := fun _ st => Srtd (fun p q => ltk p.1 q.1) (arrOf st).toList ∧ (arrOf st).toList.Perm (ks.zip vs) ∧ failedOf st = none) O2 T rfl each rfl rfl
        fun st b1 b2 b3 => ⟨b1, by have := b2.perm; rwa [show (arrOf (SortSt.mk' κ (ks.toArray.zip vs.toArray) #[] 7 none)).toList = ks.zip vs from zip_pairs ks vs] at this, b3⟩) ?_ fun _ _ e => e)
      rintro ⟨⟨⟩, st⟩ s2 ⟨rfl, b1, b2, b3⟩
      exact tail st b1 b2 b3
end
end Sb

/-! sorted by a key function; keys that are triples of integers. -/
namespace Sb
open PySem PySem.Spec PyProof.Rows L2 Srt SrtO PySem.W
section
variable {P : Program} {w : World} {A : Around} {s : Shared} {l q : Addr} {vs : List Value} {Q E : Value → Shared → Prop}
/-- the heap in which sorted's own list stands, at the next place but one -/
def hCopy (h : Heap) (vs : List Value) : Heap := ((h.push (seqObj "list" #[] 0)).update h.objs.size (Obj.mapSeq (· ++ vs.toArray))).push (seqObj "list" vs.toArray 0)
theorem hCopy_size (h : Heap) (vs : List Value) : (hCopy h vs).objs.size = h.objs.size + 2 := by unfold hCopy; rw [size_push', Heap.size_update, size_push']
theorem hCopy_at (h : Heap) (vs : List Value) : (hCopy h vs).get? (h.objs.size + 1) = some (seqObj "list" vs.toArray 0) := by
  have e : ((h.push (seqObj "list" #[] 0)).update h.objs.size (Obj.mapSeq (· ++ vs.toArray))).objs.size = h.objs.size + 1 := by rw [Heap.size_update, size_push']
  unfold hCopy; rw [← e]; exact Heap.get?_push_size _ rfl
theorem hCopy_old {h : Heap} {vs : List Value} {b : Addr} {o : Obj} (e : h.get? b = some o) : (hCopy h vs).get? b = some o := by
  refine Heap.get?_push_of_some _ ?_
  rw [Heap.get?_update_ne _ _ _ _ (Nat.ne_of_lt (Heap.lt_size e))]
  exact Heap.get?_push_of_some _ e
theorem hAsk_old {h : Heap} {a : Addr} {vs : List Value} {b : Addr} {o : Obj} (e : h.get? b = some o) (n : b ≠ a) : (hAsk h a vs).get? b = some o := Heap.get?_push_of_some _ (Heap.get?_push_of_some _ ((Heap.get?_update_ne _ _ _ _ n).trans e))
/-- sorted(l, key=q) -/
theorem sorted_key (hl : s.heap.IsList l vs.toArray) (hz : vs.length ≤ 1000000) (J : List Value → Shared → Prop) (start : J [] { s with heap := hAsk (hCopy s.heap vs) (s.heap.objs.size + 1) vs })
    (turn : ∀ v ks s' e, vs[ks.length]? = some v → J ks s' → s'.heap.get? (s.heap.objs.size + 3) = some (seqObj "list" ks.toArray e) → wpAny (model P w) A.in1.in1 (call (.ref q) [v]) (fun k s2 => s2.heap.get? (s.heap.objs.size + 3) = s'.heap.get? (s.heap.objs.size + 3) ∧
      s2.heap.get? (s.heap.objs.size + 1) = s'.heap.get? (s.heap.objs.size + 1) ∧ ∀ h', Heap.SameBut (s.heap.objs.size + 3) s2.heap h' → (∃ c, h'.get? (s.heap.objs.size + 3) = some (seqObj "list" (ks ++ [k]).toArray c)) → J (ks ++ [k]) { s2 with heap := h' }) (fun _ _ => False) s')
    (fin : ∀ ks s', J ks s' → ks.length = vs.length → ∃ ltk : Value → Value → Bool, Swo ltk ∧
      (2 ≤ ks.length → ∃ κ, (∀ (Q : SortKind → Shared → Prop) (E : Value → Shared → Prop), Q κ s' → wpAny (model P w) A.in1.in1 (keyKind' ks.toArray) Q E s') ∧ Cmp P w A.in1.in1 s' κ (fun p => p.1 ∈ ks) (fun p q => ltk p.1 q.1)) ∧
      ∀ (xs : List Keyed) (h1 h2 : Heap), Srtd (fun p q => ltk p.1 q.1) xs → xs.Perm (ks.zip vs) → Heap.SameBut (s.heap.objs.size + 3) s'.heap h1 → Heap.SameBut (s.heap.objs.size + 1) h1 h2 → (∃ c, h2.get? (s.heap.objs.size + 1) = some (seqObj "list" (xs.map (·.2)).toArray c)) → Q (.ref (s.heap.objs.size + 1)) { s' with heap := h2 }) :
    wpAny (model P w) A (call (.builtin "sorted") [.ref l] [(Str.ofString "key", .ref q)]) Q E s := by
  have fits : vs.length ≤ sizeLine := Nat.le_trans hz (by rw [sizeLine_eq]; decide)
  refine call_function_entry_kw kind_sorted plain_sorted entry_sorted (ksk_s1 _ _) ?_
  unfold Builtin.«sorted»
  refine wpAny_bind (m := checkCount "sorted" 1 1 _) (wpAny_pure (wpAny_bind (collect_list hl (wpAny_bind (wpAny_newList ?_ fits)) fits)))
  have one : ((s.heap.push (seqObj "list" #[] 0)).update s.heap.objs.size (Obj.mapSeq (· ++ vs.toArray))).objs.size = s.heap.objs.size + 1 := by rw [Heap.size_update, size_push']
  show wpAny _ _ _ _ _ { s with heap := hCopy s.heap vs }
  rw [one]
  have here := hCopy_at s.heap vs
  refine wpAny_bind (wpAny_holding (wpAny_call_entry_kw slot_list_sort ⟨_, here, rfl⟩ entry_list_sort ?_ (ksk_l1 _ _)))
  show wpAny (model P w) A.in1.in1 (Builtin.«list.sort» ⟨[.ref (s.heap.objs.size + 1)], [(Str.ofString "key", .ref q)]⟩) _ _ _
  rw [ksk_t1]
  have three : kAt { s with heap := hCopy s.heap vs } = s.heap.objs.size + 3 := by show (hCopy s.heap vs).objs.size + 1 = _; rw [hCopy_size]
  refine keyed_sort (s := { s with heap := hCopy s.heap vs }) here hz J start (fun v ks s' e => ?_) fun ks s' hJ len => ?_
  · rw [three]; exact turn v ks s' e
  · rw [three]
    obtain ⟨ltk, O, ready, done⟩ := fin ks s' hJ len
    exact ⟨ltk, O, ready, fun xs h1 h2 srt perm b1 b2 at_ => ⟨_, rfl, wpAny_pure ⟨_, rfl, done xs h1 h2 srt perm b1 b2 at_⟩⟩⟩
end
/-! ### triples of integers -/
abbrev T3 := Int × Int × Int
def lex3 (p q : T3) : Bool := if p.1 = q.1 then (if p.2.1 = q.2.1 then decide (p.2.2 < q.2.2) else decide (p.2.1 < q.2.1)) else decide (p.1 < q.1)
theorem lex3_yes {p q : T3} : lex3 p q = true ↔ p.1 < q.1 ∨ (p.1 = q.1 ∧ (p.2.1 < q.2.1 ∨ (p.2.1 = q.2.1 ∧ p.2.2 < q.2.2))) := by
  unfold lex3
  split
  · split
    · rw [decide_eq_true_eq]; omega
    · rw [decide_eq_true_eq]; omega
  · rw [decide_eq_true_eq]; omega
theorem lex3_no {p q : T3} : lex3 p q = false ↔ ¬ (p.1 < q.1 ∨ (p.1 = q.1 ∧ (p.2.1 < q.2.1 ∨ (p.2.1 = q.2.1 ∧ p.2.2 < q.2.2)))) := by
  rw [← lex3_yes]; cases lex3 p q <;> simp
def IsTri (h : Heap) (v : Value) (t : T3) : Prop := ∃ a o t1 t2 t3 n, v = .ref a ∧ h.get? a = some o ∧ o.cls = .type "tuple" ∧ o.data = .seq #[.int t.1 t1, .int t.2.1 t2, .int t.2.2 t3] n
theorem swo3 (k : Value → T3) : Swo fun v u => lex3 (k v) (k u) := by
  refine ⟨fun x y h => ?_, fun x y z h1 h2 => ?_⟩
  · have a := lex3_yes.mp h
    exact lex3_no.mpr (by omega)
  · have a := lex3_no.mp h1
    have b := lex3_no.mp h2
    exact lex3_no.mpr (by omega)
section
variable {P : Program} {w : World} {A : Around} {s : Shared}
theorem tri_cmp {ks : List Value} {k : Value → T3} (hk : ∀ v ∈ ks, IsTri s.heap v (k v)) : Cmp P w A s (tuples' true) (fun p => p.1 ∈ ks) (fun p q => lex3 (k p.1) (k q.1)) := by
  intro p q hp hq
  have h1 := hk _ hp
  have h2 := hk _ hq
  show wpAny (model P w) A (keyLt' (tuples' true) p.1 q.1) (fun r s' => s' = s ∧ r = lex3 (k p.1) (k q.1)) (fun _ _ => False) s
  generalize k p.1 = x at h1 ⊢
  generalize k q.1 = y at h2 ⊢
  obtain ⟨x1, x2, x3⟩ := x
  obtain ⟨y1, y2, y3⟩ := y
  obtain ⟨a, oa, t1, t2, t3, na, ea, ga, ca, da⟩ := h1
  obtain ⟨b, ob, u1, u2, u3, nb, eb, gb, cb, db⟩ := h2
  rw [ea, eb]
  refine kat_lt ga da gb db ?_
  show KatLex P w A true (decide (3 < 3)) _ [(.int x1 t1, .int y1 u1), (.int x2 t2, .int y2 u2), (.int x3 t3, .int y3 u3)] 0 s
  refine kat_cons (SeqAt.EqAt.int_int x1 t1 y1 u1 P w _ _ (kat_go (fun e1 => ?_) fun e1 => ?_))
  · obtain rfl : x1 = y1 := by simpa using e1
    refine kat_yes (kat_cons (SeqAt.EqAt.int_int x2 t2 y2 u2 P w _ _ (kat_go (fun e2 => ?_) fun e2 => ?_)))
    · obtain rfl : x2 = y2 := by simpa using e2
      refine kat_yes (kat_cons (SeqAt.EqAt.int_int x3 t3 y3 u3 P w _ _ (kat_go (fun e3 => ?_) fun e3 => ?_)))
      · obtain rfl : x3 = y3 := by simpa using e3
        exact kat_yes (kat_nil ⟨rfl, by simp [lex3]⟩)
      · refine kat_no (kat_one _ _ (PyProof.Rows.lt_int ?_))
        exact (show s = s ∧ decide (x3 < y3) = lex3 (x1, x2, x3) (x1, x2, y3) from ⟨rfl, by simp [lex3]⟩)
    · have n2 : ¬ x2 = y2 := by simpa using e2
      refine kat_no (kat_one _ _ (PyProof.Rows.lt_int ?_))
      exact (show s = s ∧ decide (x2 < y2) = lex3 (x1, x2, x3) (x1, y2, y3) from ⟨rfl, by simp [lex3, n2]⟩)
  · have n1 : ¬ x1 = y1 := by simpa using e1
    exact kat_no (oneLt_int ⟨rfl, by simp [lex3, n1]⟩)
theorem tri_firsts : ∀ {ks : List Value} {k : Value → T3}, (∀ v ∈ ks, IsTri s.heap v (k v)) → ∃ fs : List Value, KatTups s.heap ks fs ∧ fs.length = ks.length ∧ ∀ f ∈ fs, ∃ i t, f = Value.int i t
  | [], _, _ => ⟨[], .nil, rfl, fun _ h => absurd h (by simp)⟩
  | v :: ks, k, h => by
    obtain ⟨fs, a, b, c⟩ := tri_firsts (ks := ks) (k := k) fun u hu => h u (List.mem_cons_of_mem _ hu)
    obtain ⟨d, o, t1, t2, t3, n, rfl, g, oc, od⟩ := h v List.mem_cons_self
    exact ⟨.int (k (.ref d)).1 t1 :: fs, .cons g oc od rfl a, by simp [b], fun f hf => (List.mem_cons.mp hf).elim (fun e => ⟨_, _, e⟩) (c f)⟩
/-- keys that are triples -/
theorem tri_ready {ks : List Value} {k : Value → T3} (h2 : 2 ≤ ks.length) (hk : ∀ v ∈ ks, IsTri s.heap v (k v)) :
    ∃ κ, (∀ (Q : SortKind → Shared → Prop) (E : Value → Shared → Prop), Q κ s → wpAny (model P w) A (keyKind' ks.toArray) Q E s) ∧ Cmp P w A s κ (fun p => p.1 ∈ ks) (fun p q => lex3 (k p.1) (k q.1)) := by
  obtain ⟨fs, h3, h4, h5⟩ := tri_firsts hk
  refine ⟨tuples' true, fun Q E hq => kat_kind (T := .type "int") h3 (by omega) (fun f hf => ?_) (by rfl) ?_, tri_cmp hk⟩
  · obtain ⟨i, t, rfl⟩ := h5 f hf
    exact Looks.now
  · have e : (Value.type "int" != Value.type "tuple") = true := by first | decide +kernel | rfl | decide
    rw [e]
    exact hq
end
end Sb

/-! A lambda with one parameter that captures nothing: made, and called. -/
namespace Sb
open PySem PySem.Spec PyProof.Rows L2 LamX
section
variable {X : Cx} {pins : List (Addr × Obj)} {σ : L2.St} {H : Hp} {s : Shared}
/-- the table at P: its rows, and what their code objects are -/
structure Tab (H : Hp) (P : Addr) (q : Str) (ps : Array Value) : Prop where
  at_ : H P = some (.tbl ps)
  rows : TriplesOk ps.toList
  codes : ∀ pos cv, codeAmong pos ps.toList = some cv → ∃ c, cv = .ref c ∧ H c = some (CodeO c q)
theorem among_left {pos : Pos} {cv : Value} (l m : List Value) (h : codeAmong pos l = some cv) : codeAmong pos (l ++ m) = some cv := by
  fun_induction codeAmong pos l with
  | case1 line t col u c rest hp => simp only [List.cons_append, codeAmong, hp, if_true]; exact h
  | case2 line t col u c rest hp ih => simp only [List.cons_append, codeAmong, hp, if_false]; exact ih h
  | case3 l h1 => cases h
/-- the abstract heap behind the making of a lambda: as it was, or with a new row and a new code object -/
inductive LamH (H : Hp) (P : Addr) (q : Str) (ps : Array Value) (c : Addr) : Hp → Prop
  | hit : LamH H P q ps c H
  | new (pos : Pos) : H c = none → c ≠ P → LamH H P q ps c (upd (upd H P (.tbl (ps ++ #[rawInt pos.line, rawInt pos.col, .ref c]))) c (CodeO c q))
theorem lam_mk {c P : Addr} {params : Arguments} {body : Expr} {scope : Scope} {pos : Pos} {ps : Array Value} {E Q : Value → Shared → Prop} (I : Inv X pins σ H s) (TB : TabB X.base X.mg c P) (code : X.env.code = .ref c) (tb : Tab H P (X.env.qual ++ "<lambda>") ps)
    (defs : defaultsOf params X.env = ([], [])) (bound : ∀ y ∈ scope.names, y.2 ≠ .free)
    (h : ∀ (f c' : Addr) (pm ctv : Value) (H1 : Hp) (s1 : Shared), Inv X pins σ H1 s1 → LamH H P (X.env.qual ++ "<lambda>") ps c' H1 →
      s1.heap.get? f = some (PySem.W.kla_obj "<lambda>" (X.env.qual ++ "<lambda>") params body scope (cloFrom X.env.cells scope.names []) pm c' ctv) → H1 f = none → f ∉ frs X.stack → (∃ ps1 : Array Value, H1 P = some (.tbl ps1) ∧ codeAmong pos ps1.toList = some (.ref c')) → Q (.ref f) s1) :
    wpAny (model X.prog X.w) X.A (eval (.Lambda params body scope pos) X.env) Q E s := by
  have hcl : ∀ y ∈ scope.names, y.2 = .free → ∃ c, X.env.cells.lookup y.1 = some c := fun y hy e => absurd e (bound y hy)
  have blt : s.heap.BuiltinsAt X.mg P := TB.bm.keeps I.bk
  have here : s.heap.get? P = some { cls := .none, data := .fields ps } := I.hok P _ tb.at_
  have above : ∀ f, s.heap.objs.size ≤ f → f ∉ frs X.stack := fun f hf z => (List.mem_cons.mp (I.stkSub _ z)).elim (fun e => by have l := I.lt; rw [← e] at l; exact Nat.lt_irrefl _ (Nat.lt_of_lt_of_le l hf)) (I.nofs hf)
  refine PySem.W.kla_eval defs ?_
  cases row : codeAmong pos ps.toList with
  | some cv =>
    obtain ⟨c', rfl, hc⟩ := tb.codes pos cv row
    refine PySem.W.kla_makeFunctionHit (mg := X.mg) (c := c) (P := P) (ps := ps) (closure_ok hcl) I.ok.glob (I.mod.glob.keeps I.bk) code (TB.code.keeps I.bk) here tb.rows row blt fun ctv h1 tk old size => ?_
    exact h h1.objs.size c' ((X.mg "__name__").getD .none) ctv H { s with heap := h1.push (PySem.W.kla_obj "<lambda>" (X.env.qual ++ "<lambda>") params body scope (cloFrom X.env.cells scope.names []) ((X.mg "__name__").getD .none) c' ctv), toks := tk } (I.kept fun b o e => Heap.get?_push_of_some _ (old b o e)) .hit (Heap.get?_push_size _ rfl) (I.hok.fresh size) (above _ size) ⟨ps, tb.at_, row⟩
  | none =>
    refine PySem.W.kla_makeFunction (mg := X.mg) (c := c) (P := P) (ps := ps) (closure_ok hcl) I.ok.glob (I.mod.glob.keeps I.bk) code (TB.code.keeps I.bk) here tb.rows row TB.gP blt fun c' ctv h1 tk old ge lt rec table => ?_
    obtain ⟨c2, oc, vs, t, ec, gc, dc, nc⟩ := rec
    cases ec
    have size : s.heap.objs.size ≤ h1.objs.size := Nat.le_trans ge (Nat.le_of_lt lt)
    have free : H c' = none := I.hok.fresh ge
    have cP : c' ≠ P := Ne.symm (ne_of_none tb.at_ free)
    have J := inv_table (t' := tk) (more := #[rawInt pos.line, rawInt pos.col, .ref c']) (h' := h1.push (PySem.W.kla_obj "<lambda>" (X.env.qual ++ "<lambda>") params body scope (cloFrom X.env.cells scope.names []) ((X.mg "__name__").getD .none) c' ctv)) I tb.at_
      (fun b o nb e => Heap.get?_push_of_some _ (old b o nb e)) (Heap.get?_push_of_some _ table) ge ⟨oc, vs, t, Heap.get?_push_of_some _ gc, dc, nc⟩
    refine h h1.objs.size c' ((X.mg "__name__").getD .none) ctv _ _ J (.new pos free cP) (Heap.get?_push_size _ rfl) ?_ (above _ size) ⟨_, by rw [upd_ne (Ne.symm cP), upd_same], ?_⟩
    case refine_2 => rw [show (ps ++ #[rawInt pos.line, rawInt pos.col, Value.ref c']).toList = ps.toList ++ [rawInt pos.line, rawInt pos.col, .ref c'] from by simp]; exact codeAmong_snoc _ tb.rows row
    rw [upd_ne (Nat.ne_of_gt lt), upd_ne (Nat.ne_of_gt (Nat.lt_of_lt_of_le (Heap.lt_size here) size))]
    exact I.hok.fresh size
end
section
variable {P : Program} {w : World} {K : PySem.W.Frag} {mg : Str → Option Value} {base : Heap}
/-- the lambda, called with one value -/
theorem lam_run1 {x qual : Str} {params : Arguments} {body : Expr} {scope : Scope} {f c' : Addr} {pm ctv : Value} {k : Nat} {A : Around} {outer : List Env} {s : Shared} {H : Hp} {u : Value} {v : V} {Q : VK} {E : XK} {t : TE} (S : FnScope [x] [x] scope)
    (ho : s.heap.get? f = some (PySem.W.kla_obj "<lambda>" qual params body scope [] pm c' ctv)) (hc : H c' = some (CodeO c' qual)) (bind : bindArgs (PySem.W.kla_fn "<lambda>" qual params body scope [] pm (.ref c') ctv) ⟨[u], []⟩ = pure [(x, u)])
    (hr : Room (k + 1) A) (e0 : Env0 P w K mg base A outer s H) (r : RelV v u)
    (hbody : Room k (A.deeper (envOfC qual scope s.heap.objs.size f (.ref c'))) → PE (cxOf (L2.CX P w) P w K mg base [x] qual scope f (.ref c') A outer s H E) body t) (h : t (L2.start [x] [v]) H Q) :
    codeAny (model P w) A (.call (.ref f) ⟨[u], []⟩) (CR (L2.CX P w) outer P w H s Q E) s := by
  have lim : s.heap.NoLimit := e0.mod.nolimit.keeps fun b o e => (e0.bs b o e).1
  obtain ⟨⟨oc, vs, tn, gc, dc, nc⟩, _, _⟩ := e0.hok c' _ hc
  have kinds : ∀ y ∈ [x].zip [u], scope.names.lookup y.1 = some .local ∨ (scope.names.lookup y.1 = some .cell ∧ ((cellsFrom (s.heap.objs.size + 1) scope.names []).lookup y.1).isSome = true) := fun y hy => by
    obtain rfl : y = (x, u) := by simpa using hy
    exact (S.par x (by simp)).imp id fun z => ⟨z, PySem.W.cellsFrom_some _ _ _ (.inl z)⟩
  refine PySem.W.kla_callFunE hr.depth ho rfl S.co S.gen rfl ⟨c', oc, vs, tn, rfl, gc, dc, nc⟩ ?_
  rw [bind]
  refine wpAny_pure (wpAny_newFunctionEnv_cells (binds := [x].zip [u]) S.kind kinds fun env ee s1 inc => ?_)
  subst ee
  refine ⟨lim.keeps inc.toInCall.keep, ?_⟩
  show codeAny _ _ (.expr body (envOfC qual scope s.heap.objs.size f (.ref c'))) _ _
  have J : Inv (cxOf (L2.CX P w) P w K mg base [x] qual scope f (.ref c') A outer s H E) [] (L2.start [x] [v]) H s1 := inv_start (ps := [x]) (us := [u]) S hr.hd e0 rfl (.cons r .nil) inc
  refine PySem.W.kla_codeExpr (wpAny_mono ((hbody (hr.deeper _)).run [] s1 _ H Q J h) (fun r2 s2 hq => ?_) fun e s2 hq => hq)
  obtain ⟨y, H2, J2, ry, q⟩ := hq
  exact ⟨y, H2, J2.os, J2.bare, J2.base, J2.hok, ry, q⟩
end
end Sb

/-! The pairs of a dict over keys of any depth: d.items() walked. -/
namespace Sb
open PySem PySem.Spec L2
/-- the pairs, each in a new tuple -/
def ItemN (w : World) (d : Addr) (o : Obj) (es : NL V V) : It :=
  ⟨fun i H => H d = some (.frz o (NdO w d es)) ∧ i < es.length, fun i H v H' => ∃ T e, ∃ ob : Obj, v = .ref T ∧ H T = none ∧ ob.dict = none ∧ H' = upd H T (.frz ob (.tup [e.2.1, e.2.2])) ∧ es[i]? = some e, fun i H => H d = some (.frz o (NdO w d es)) ∧ es.length ≤ i⟩
theorem turn_itemN {P : Program} {w : World} {K : PySem.W.Frag} {elts : List Expr} {kk : Nat} {tpos : Pos} {d : Addr} {o : Obj} {arr : Array DictEntry} {ep : Nat} {es : NL V V} (it : Addr) (hod : o.data = .dict arr ep) :
    Turn P w K (.Tuple elts kk tpos) (ItemN w d o es) [it] it (fun i h => ∃ a b, IsItemIter h it d i es.length ep a b) where
  mem := List.mem_singleton.mpr rfl
  obj := fun i h st b hb => by
    obtain rfl := List.mem_singleton.mp hb
    obtain ⟨x, y, e⟩ := st
    exact ⟨_, e, fun v z => nomatch z⟩
  keep := fun i h h' ⟨x, y, e⟩ k => ⟨x, y, k it (List.mem_singleton.mpr rfl) _ e⟩
  item := by
    intro X hP hw hK hc i pins s σ H E I hf ⟨x, y, st⟩ ⟨hd, hi⟩
    subst hP hw hK
    obtain ⟨hs, hgd, hx, arr', ep', hdt, hsz, ent⟩ := ndo_lock I hd
    rw [hod] at hdt; cases hdt
    obtain ⟨e, he⟩ : ∃ p, es[i]? = some p := ⟨es[i], List.getElem?_eq_getElem hi⟩
    obtain ⟨en, hen, rk, rv⟩ := ent i e he
    have old : it < s.heap.objs.size := Heap.lt_size st
    obtain ⟨hia, hib⟩ := Array.getElem?_eq_some_iff.mp hen
    rw [← hsz] at st
    refine DT.nextI st ⟨o, hgd, hx, hod⟩ hia fun h' out tup sz keep => ?_
    rw [hib] at out tup
    refine ⟨_, rfl, wpAny_letOwnedTupleGo_items (s := { s with heap := h' }) out fun h2 st2 sb => ?_⟩
    have tup2 := (sb.2 _ (Nat.ne_of_gt old)).trans tup
    have I1 : Inv X pins σ (upd H s.heap.objs.size (.frz { cls := .type "tuple", data := .seq #[en.key, en.val] } (.tup [e.2.1, e.2.2]))) { s with heap := h2 } :=
      I.turnedNew (t' := s.toks) (ch := [it]) (fun b ob hb q => (sb.2 b fun z => hb (List.mem_singleton.mpr z)).trans (keep b ob (fun z => hb (List.mem_singleton.mpr z)) q)) hf (Nat.le_refl _)
        ⟨tup2, by show 2 ≤ sizeLine; decide, [en.key, en.val], .cons rk (.cons rv .nil), ⟨_, tup2, rfl, _, rfl⟩⟩
    refine ⟨.ref s.heap.objs.size, _, I1, rfl, ⟨_, e, _, rfl, I.hok.fresh (Nat.le_refl _), rfl, rfl, he⟩, ⟨_, _, by rw [← hsz]; exact st2⟩, fun b hb => ?_⟩
    obtain rfl := List.mem_singleton.mp hb
    rw [upd_ne (Nat.ne_of_lt old)]
    exact (hf _ hb).1
  done := by
    intro X hP hw hK hc i pins s σ H E I hf ⟨x, y, st⟩ ⟨hd, hi⟩
    subst hP hw hK
    obtain ⟨f0, f1, f2, f3, f4, f5⟩ := hf it (List.mem_singleton.mpr rfl)
    obtain ⟨hs, hgd, hx, arr', ep', hdt, hsz, ent⟩ := ndo_lock I hd
    rw [hod] at hdt; cases hdt
    rw [← hsz] at st
    exact DT.endI (I.ok.hd hc) st ⟨o, hgd, hx, hod⟩ (by omega) fun h' eb => ⟨rfl, I.turned (t' := s.toks) (fun b ob hb q => eb b ob hb q) f0 f1 f3 f4 f5⟩
  self := fun A i s Q E ⟨_, _, e⟩ h => PySem.W.kcp_self e h
/-- e.items(), the dict just made: it stays locked -/
theorem pi_itemN {X : Cx} {e : Expr} {td : TE} {apos cpos tpos : Pos} {elts : List Expr} {kk : Nat} (he : PE X e td) (m0 : attributeBase e "items" X.env (eval e X.env) = eval e X.env := by rfl) (m1 : (apos.endLine == cpos.line) = true := by rfl) :
    PI X (.Tuple elts kk tpos) (.Call (.Attribute e "items" apos) [] [] cpos) (fun σ H R => td σ H fun x H1 => ∃ d es, x = .ref d ∧ H1 d = some (NdO X.w d es) ∧ ∀ o, R (ItemN X.w d o es) (upd H1 d (.frz o (NdO X.w d es)))) := by
  refine ⟨fun pins s σ H R I h => ?_⟩
  refine wpAny_Call_method (T := "dict") (id := "dict.items") m0 rfl m1 F.plainAttrs_dict F.slot_dict_items F.type_dict_items (thn (he.run pins s σ H _ I h) fun u s1 ⟨x, H1, I1, rx, d, es, ex, hd, q⟩ => ?_)
  subst ex
  obtain rfl : u = Value.ref d := rx
  obtain ⟨o, I2⟩ := I1.lock hd True.intro
  obtain ⟨low, hgd, hx, arr, ep, hdt, hsz, _⟩ := ndo_lock I2 upd_same
  refine ⟨⟨o, hgd, hx.1⟩, ?_, ?_⟩
  · intro b z
    cases z
    exact ⟨o, hgd, hx.2.1⟩
  have I3 : Inv X pins σ (upd H1 d (.frz o (NdO X.w d es))) { s1 with heap := s1.heap.push { cls := .type "dict_items", data := .fields #[.ref d] } } := I2.kept (t' := s1.toks) fun b ob q => Heap.get?_push_of_some _ q
  have fin : wpAny (model X.prog X.w) X.A (pyIter (.ref s1.heap.objs.size)) (PIE X pins σ (.Tuple elts kk tpos) R) X.xe { s1 with heap := s1.heap.push { cls := .type "dict_items", data := .fields #[.ref d] } } :=
    DT.iterI (es := arr) (ep := ep) ⟨_, Heap.get?_push_size _ rfl, rfl, rfl⟩ (DT.Raw.push ⟨o, hgd, hx, hdt⟩ _) (pi_one (tk := s1.toks) I3 _ (turn_itemN _ hdt) ⟨.none, .none, by rw [← hsz]; exact Heap.get?_push_size _ rfl⟩ (q o))
  show wpAny _ _ (callWith cpos (.builtin "dict.items") [.ref d] [] []) _ X.xe s1
  exact method_meetsIn F.slot_dict_items F.entry_dict_items rfl (PySem.evalArgs_none ⟨rfl, ⟨o, hgd, hx.1⟩, F.args_dict_items_1 _, _, DT.meetsItems low, ⟨⟨o, hgd, hx, hdt⟩, fin⟩⟩)
end Sb

/-! list(d.items()). -/
namespace Sb
open PySem PySem.Spec PyProof.Rows L2
/-- new tuples, one behind the other -/
inductive News : Hp → List (Addr × List V) → Hp → Prop
  | nil {H : Hp} : News H [] H
  | cons {H H2 : Hp} {a : Addr} {vs : List V} {ob : Obj} {L : List (Addr × List V)} : H a = none → ob.dict = none → News (upd H a (.frz ob (.tup vs))) L H2 → News H ((a, vs) :: L) H2
section
variable {X : Cx}
theorem lay_all {pins : List (Addr × Obj)} {σ : L2.St} {H0 : Hp} {s : Shared} {h' : Heap} {tk : Nat} (I0 : Inv X pins σ H0 s) : ∀ (as : List Addr) (es : NL V V) (H1 : Hp), Inv X pins σ H1 { s with heap := h', toks := tk } → as.Pairwise (· < ·) → as.length = es.length →
    (∀ (j : Nat) (a : Addr) (e : NestedKey × V × V), as[j]? = some a → es[j]? = some e → s.heap.objs.size ≤ a ∧ H1 a = none ∧ ∃ x y : Value, h'.get? a = some { cls := .type "tuple", data := .seq #[x, y] } ∧ RelV e.2.1 x ∧ RelV e.2.2 y) →
    ∃ (L : List (Addr × List V)) (H2 : Hp), L.map (·.1) = as ∧ L.map (·.2) = es.map (fun e => [e.2.1, e.2.2]) ∧ News H1 L H2 ∧ Inv X pins σ H2 { s with heap := h', toks := tk } ∧ ∀ b, b ∉ as → H2 b = H1 b
  | [], [], H1, I1, _, _, _ => ⟨[], H1, rfl, rfl, .nil, I1, fun _ _ => rfl⟩
  | [], _ :: _, _, _, _, n, _ => by simp at n
  | _ :: _, [], _, _, _, n, _ => by simp at n
  | a :: as, e :: es, H1, I1, up_, n, h => by
    obtain ⟨old, non, x, y, at_, r1, r2⟩ := h 0 a e rfl rfl
    have I2 : Inv X pins σ (upd H1 a (.frz { cls := .type "tuple", data := .seq #[x, y] } (.tup [e.2.1, e.2.2]))) { s with heap := h', toks := tk } :=
      I1.take (h' := h') (t' := tk) (fun b ob _ q => q) (I0.fpOk old non) ⟨at_, by show 2 ≤ sizeLine; decide, [x, y], .cons r1 (.cons r2 .nil), ⟨_, at_, rfl, _, rfl⟩⟩
    obtain ⟨lo, rest⟩ := List.pairwise_cons.mp up_
    obtain ⟨L, H2, e1, e2, ns, I3, same⟩ := lay_all I0 as es _ I2 rest (by simpa using n) fun j b e' hb he => by
      obtain ⟨q1, q2, q3⟩ := h (j + 1) b e' (by simpa using hb) (by simpa using he)
      exact ⟨q1, by rw [upd_ne (Nat.ne_of_gt (lo b (List.mem_of_getElem? hb)))]; exact q2, q3⟩
    refine ⟨(a, [e.2.1, e.2.2]) :: L, H2, by simp [e1], by simp [e2], .cons non rfl ns, I3, fun b hb => ?_⟩
    simp only [List.mem_cons, not_or] at hb
    rw [same b hb.2, upd_ne hb.1]
theorem call_listV (hc : X.calm = true) : CallR X (.type "list") (fun xs H Q => ∃ p d es, xs = [V.ref p] ∧ H p = some (DX.itemsO p d) ∧ H d = some (NdO X.w d es) ∧
    ∀ l L H2, L.map (·.2) = es.map (fun e => [e.2.1, e.2.2]) → News H L H2 → H2 l = none → Q (.ref l) (upd H2 l (.lst (L.map fun t => V.ref t.1)))) := by
  intro pins s σ H vs us Q I r h
  obtain ⟨p, d, es, rfl, hp, hd, q⟩ := h
  obtain ⟨u, rfl, ru⟩ := vals1 r
  obtain rfl : u = Value.ref p := ru
  obtain ⟨o, I2⟩ := I.lock hd True.intro
  obtain ⟨low, hgd, hx, arr, ep, hdt, hsz, ent⟩ := ndo_lock I2 upd_same
  obtain ⟨⟨ys, ⟨_, fit, _⟩, pr⟩, _⟩ := I.hok d _ hd
  have fit2 : arr.size ≤ sizeLine := by rw [hsz, ← pr.nlen]; exact fit
  refine PySem.W.dil_call (I.ok.hd hc) (I.hok p _ hp).1 ⟨o, hgd, hx, hdt⟩ fit2 fun h' tk acc c as keep lat len g hacc => ?_
  have I3 : Inv X pins σ H { s with heap := h', toks := tk } := I.kept keep
  have big : ∀ a ∈ as, s.heap.objs.size ≤ a := fun a ha => Nat.le_of_lt (g.above a ha)
  obtain ⟨L, H2, e1, e2, ns, I4, same⟩ := lay_all I as es H I3 g.rise (by rw [len, hsz]) fun j a e ha he => by
    have b0 := big a (List.mem_of_getElem? ha)
    obtain ⟨hj, at_⟩ := g.pairs j a ha
    obtain ⟨en, hen, r1, r2⟩ := ent j e he
    obtain ⟨_, hib⟩ := Array.getElem?_eq_some_iff.mp hen
    rw [hib] at at_
    exact ⟨b0, I.hok.fresh b0, _, _, at_, r1, r2⟩
  have nl : H2 s.heap.objs.size = none := by
    rw [same _ fun z => absurd (g.above _ z) (Nat.lt_irrefl _)]
    exact I.hok.fresh (Nat.le_refl _)
  have el : (L.map fun t => V.ref t.1) = as.map V.ref := by rw [← e1, List.map_map]; rfl
  have va : Vals (as.map V.ref) acc.toList := by
    rw [hacc]
    clear e1 el nl ns I4 same g len hacc big
    induction as with
    | nil => exact .nil
    | cons a as ih => exact .cons rfl ih
  have I5 := I4.take (h' := h') (t' := tk) (it := s.heap.objs.size) (o := .lst (as.map V.ref)) (fun b ob _ q => q) (I.fpOk (Nat.le_refl _) nl) ⟨by rw [List.length_map, len]; exact fit2, acc.toList, c, va, by rw [Array.toArray_toList]; exact lat⟩
  exact ⟨.ref s.heap.objs.size, _, I5, rfl, by rw [← el]; exact q _ L H2 e2 ns nl⟩
/-- e.items(), the view -/
theorem pe_viewN {e : Expr} {td : TE} {apos cpos : Pos} (he : PE X e td) (m0 : attributeBase e "items" X.env (eval e X.env) = eval e X.env := by rfl) (m1 : (apos.endLine == cpos.line) = true := by rfl) :
    PE X (.Call (.Attribute e "items" apos) [] [] cpos) (fun σ H Q => td σ H fun x H1 => ∃ d es, x = .ref d ∧ H1 d = some (NdO X.w d es) ∧ ∀ p, H1 p = none → Q (.ref p) (upd H1 p (DX.itemsO p d))) := by
  refine ⟨fun pins s σ H Q I h => ?_⟩
  refine wpAny_Call_method (T := "dict") (id := "dict.items") m0 rfl m1 F.plainAttrs_dict F.slot_dict_items F.type_dict_items (thn (he.run pins s σ H _ I h) fun u s1 ⟨x, H1, I1, rx, d, es, ex, hd, q⟩ => ?_)
  subst ex
  obtain rfl : u = Value.ref d := rx
  obtain ⟨o, I2⟩ := I1.lock hd True.intro
  obtain ⟨low, hgd, hx, arr, ep, hdt, hsz, _⟩ := ndo_lock I2 upd_same
  refine ⟨⟨o, hgd, hx.1⟩, ?_, ?_⟩
  · intro b z
    cases z
    exact ⟨o, hgd, hx.2.1⟩
  show wpAny _ _ (callWith cpos (.builtin "dict.items") [.ref d] [] []) _ X.xe s1
  exact method_meetsIn F.slot_dict_items F.entry_dict_items rfl (PySem.evalArgs_none ⟨rfl, ⟨o, hgd, hx.1⟩, F.args_dict_items_1 _, _, DT.meetsItems low, ⟨⟨o, hgd, hx, hdt⟩,
    ⟨.ref _, _, I1.laid (t' := s1.toks) (fun b u q => Heap.get?_push_of_some _ q) (Nat.le_refl _) (DX.itemsO_ok (Heap.get?_push_size _ rfl)), rfl, q _ (I1.hok.fresh (Nat.le_refl _))⟩⟩⟩)
end
end Sb

set_option maxHeartbeats 4000000
/-! isinstance(err, T) in a suite, the error has a dict of its own. -/
namespace Sb
open PySem PySem.Spec PySem.Calls PyProof.Rows L2
section
variable {q : Program} {v : World} {B : Around} {R : Value → Shared → Prop} {t : Shared} {K : PySem.W.Frag} {y C : Addr} {oy : Obj} {dy : Option Obj}
theorem find_data {name : Str} {a g : Value} (h1 : (PySem.W.clsIn K C).isSome = true) (h2 : PySem.W.findIn K (.ref C) name = some (some a)) (h3 : PySem.W.specialIn K a "__get__" = some (some g)) (h4 : PySem.W.takesIn K a = some true) : PySem.W.findObj K C dy name = some (.bind g a) := by
  obtain ⟨cd, e⟩ := Option.isSome_iff_exists.mp h1
  simp [PySem.W.findObj, e, h2, h3, h4]
theorem kin_cls {P : Option Value → Shared → Prop} (E : ExcC K C) (X : K.In t.heap) (I : PySem.W.InstAt t.heap y oy C dy) (h : P (some (.ref C)) { t with toks := t.toks + 1 }) : wpAny (model q v) B (getAttr? (.ref y) "__class__") P R t := by
  obtain ⟨cd, hcd, _⟩ := PySem.W.any_some E.hd
  have hf := find_data (dy := dy) (by rw [hcd]; rfl) E.ha E.hn E.ht
  obtain ⟨hp, g, d, tk, os⟩ := t
  have L0 := I.type (M := model q v)
  have L1 := PySem.W.looks_findIn (M := model q v) X E.hg
  have L2 := PySem.W.looks_findIn (M := model q v) X E.hk
  have L3 := PySem.W.looks_find (M := model q v) X I hf
  have sub : PySem.W.Looks (model q v) hp (isInstance (.ref y) (.type "BaseException")) true := L0.andThen (PySem.W.looks_subIn X E.hs)
  have f1 : (Value.builtin "BaseException.__getattribute__" == Value.builtin "object.__getattribute__") = false := by decide +kernel
  have f2 : (onTheHeap (Value.ref C) && Value.builtin "BaseException.__getattribute__" == Value.builtin "object.__getattribute__") = false := by rw [f1]; rfl
  have f3 : (false && onTheHeap (Value.builtin "BaseException.__getattribute__")) = false := rfl
  unfold getAttr? getAttrBy? getAttrBy
  refine wpAny_bind (wpAny_mkText (wpAny_bind (wpAny_attempt (wpAny_holding (wpAny_bind (L0.at (wpAny_bind (L1.at ?_))))))))
  show wpAny _ _ (if (onTheHeap (Value.ref C) && Value.builtin "BaseException.__getattribute__" == Value.builtin "object.__getattribute__") = true then _ else _) _ _ _
  rw [f2, if_neg (by decide)]
  unfold getAttrByItsOwn hookBefore
  refine wpAny_bind ?_
  have f4 : onTheHeap (Value.ref C) = true := rfl
  rw [if_pos f4]
  refine L2.at (wpAny_bind (wpAny_attempt (wpAny_holding ?_)))
  unfold callGetattribute
  rw [f3, if_neg (by decide)]
  unfold boundAndCalled
  rw [PySem.F.excAttr_ValueError.ga.bind (.ref y)]
  refine wpAny_bind (wpAny_pure ?_)
  show wpAny _ _ (call (.builtin "BaseException.__getattribute__") [.ref y, .str "__class__" tk]) _ _ _
  refine wpAny_call (codeAny_call_builtin PySem.F.excAttr_ValueError.ga.plain PySem.F.entry_bexc_ga ?_)
  refine @PySem.W.check_slot (model q v) _ _ ⟨hp, g, d, tk + 1, os⟩ "BaseException.__getattribute__" "BaseException" "__getattribute__" (.ref y) [.str "__class__" tk] [] _ (by decide +kernel) (by decide +kernel) sub (PySem.F.args_bexc_ga (.ref y) (.str "__class__" tk)) ?_
  unfold Builtin.«object.__getattribute__»
  refine wpAny_bind (wpAny_of_eq (a := ((Value.ref y : Value), [Value.str "__class__" tk])) (by first | rfl | (simp only [slotArgs]; rfl)) ?_)
  refine wpAny_bind (wpAny_pure (wpAny_bind (L0.at (wpAny_bind (L3.at ?_)))))
  show wpAny _ _ (holding [Value.builtin "object.__class__"] (call (.builtin "getset_descriptor.__get__") [.builtin "object.__class__", .ref y, .ref C]) >>= ret) _ _ _
  refine wpAny_bind (wpAny_holding (wpAny_call (PySem.W.class_get (s := ⟨hp, g, d, tk + 1, os⟩) (ox := oy) (od := dy) X I E.hm ?_)))
  refine wpAny_pure ?_
  show wpAny _ _ (handedOut (.ref C)) _ _ _
  rw [PySem.W.handedOut_of (v := .ref C) rfl]
  first
    | exact wpAny_pure (wpAny_pure h)
    | exact wpAny_pure h
    | exact wpAny_pure (wpAny_bind (wpAny_pure (wpAny_pure h)))
theorem kitx_own (E : ExcC K C) : PySem.W.KitX K (.ref y) (.ref C) (fun h => PySem.W.InstAt h y oy C dy) := by
  obtain ⟨cd, hcd, _⟩ := PySem.W.any_some E.hd
  unfold PySem.W.clsIn at hcd
  refine ⟨fun _ _ _ I => I.type, fun _ _ X _ => ?_, fun h tp dd its n sl X htp => Bool.eq_false_iff.mpr fun z => ?_, fun X I k => kin_cls E X I k⟩
  · split at hcd
    · rename_i c' d' cd' sl' ho
      intro A' Q' E' s' k z
      unfold isType loadHead
      exact wpAny_bind (wpAny_loadPart (k _ _ (X _ _ ho)) (wpAny_pure z))
    · cases hcd
  · have e : C = tp := Value.ref.inj (beq_iff_eq.mp z)
    subst e
    split at hcd
    · rename_i c' d' cd' sl' ho
      have := (X _ _ ho).symm.trans htp
      cases this
    · cases hcd
/-- isinstance(err, T): what is asked and told -/
def rIsX (K : PySem.W.Frag) (C a : Addr) (od : Option Addr) : List V → Hp → VK → Prop := fun xs H Q => ∃ (c : V) (cv : Value) (b : Bool) (dd : Addr) (fs : List (Str × V)), xs = [.ref a, c] ∧ (∀ u, RelV c u → u = cv) ∧ PySem.W.kitOne K (.ref C) cv = some b ∧ od = some dd ∧ H dd = some (.xd fs) ∧ Q (.bl b) H
theorem call_isX {X : Cx} {a D : Addr} {oe : Obj} {od : Option Addr} {pn : List (Addr × Obj)} (C : ExcC X.K D) (hz : Zc (.ref D) od oe) (hf : ∃ vs, oe.data = .fields vs) : CallR (X.suite a ((a, oe) :: pn)) (.builtin "isinstance") (rIsX X.K D a od) := by
  intro pins s σ H xs us Q I r h
  obtain ⟨c, cv, b, dd, fs, rfl, hcv, e, rfl, hH, w⟩ := h
  cases r with
  | cons rx rr =>
    cases rr with
    | cons rt rr =>
      cases rr
      cases rx
      cases hcv _ rt
      obtain ⟨hget, _⟩ := I.pin (a, oe) (List.mem_append.mpr (.inl List.mem_cons_self))
      obtain ⟨vs, hv⟩ := hf
      obtain ⟨mA, hns, _⟩ := I.hok dd _ hH
      obtain ⟨ob, ho, _⟩ := lookIn_ns hns
      have J : PySem.W.InstAt s.heap a oe D (some ob) := ⟨hget, hz.1, by unfold PySem.W.notCls; rw [hv] <;> rfl, by rw [hz.2]; exact ho⟩
      exact PySem.W.kia_one (kitx_own C) I.kIn J e (fun z => nomatch z) fun tk => ⟨.bl b, H, I.kept (t' := tk) fun _ _ z => z, rfl, w⟩
end
end Sb

/-! len(set(xs)), xs a list of whole numbers. -/
namespace Sb
open PySem PySem.Spec PyProof.Rows L2
/-- the values once each, as they come -/
def once : List Int → List Int → List Int
  | acc, [] => acc
  | acc, n :: ns => once (if acc.any (· == n) then acc else acc ++ [n]) ns
theorem once_snoc : ∀ (ns acc : List Int) (n : Int), once acc (ns ++ [n]) = if (once acc ns).any (· == n) then once acc ns else once acc ns ++ [n]
  | [], acc, n => rfl
  | m :: ns, acc, n => by simp only [List.cons_append, once]; exact once_snoc ns _ n
theorem firstMet_once {ns : List Int} : ∀ i, i ≤ ns.length → PyProof.Rows.firstMet (fun i => ns.getD i 0) i = once [] (ns.take i)
  | 0, _ => by rw [PyProof.Rows.firstMet_zero]; rfl
  | i + 1, h => by
    have lt : i < ns.length := h
    have e : ns.take (i + 1) = ns.take i ++ [ns[i]] := by rw [List.take_add_one, List.getElem?_eq_getElem lt]; rfl
    have g : ns.getD i 0 = ns[i] := by rw [List.getD_eq_getElem?_getD, List.getElem?_eq_getElem lt]; rfl
    rw [PyProof.Rows.firstMet_succ, firstMet_once i (Nat.le_of_lt lt), e, once_snoc]
    show (if (once [] (ns.take i)).any (· == ns.getD i 0) then once [] (ns.take i) else once [] (ns.take i) ++ [ns.getD i 0]) = _
    rw [g]
def tLenSetO (K : PySem.W.Frag) (ta : TE) : TE := fun σ H Q => ta σ H fun x H1 => ∃ (l : Addr) (ns : List Int), x = .ref l ∧ SqL K H1 l (ns.map V.int) ∧ ns.length ≤ 4000 ∧ Q (.int ((once [] ns).length : Nat)) H1
theorem pe_lenSetO {X : Cx} {a : Expr} {ta : TE} {p p2 q pos : Pos} (hg : Gl X "len") (hm : X.mg "len" = none) (hg2 : Gl X "set") (hm2 : X.mg "set" = none) (ha : PE X a ta) (hc : X.calm = true := by rfl)
    (na : starEach [a] X.env = (false, eval a X.env) :: starEach [] X.env := by rfl) : PE X (.Call (.Name "len" p) [.Call (.Name "set" p2) [a] [] q] [] pos) (tLenSetO X.K ta) := by
  refine ⟨fun pins s σ H Q I h => ?_⟩
  refine Call_ (ld_blt I hg hm (show bootBuiltins "len" = _ from rfl) ?_)
  refine PyProof.Rows.callWith_builtin1 (PyProof.Rows.args_cons ?_ rfl) rfl rfl
  refine Call_ (ld_blt I hg2 hm2 (show bootBuiltins "set" = _ from rfl) ?_)
  refine PyProof.Rows.callWith_type1 (PyProof.Rows.args_cons (thn (ha.run pins s σ H _ I h) fun v s1 z => PyProof.Rows.args_nil ?_) na) na rfl
  obtain ⟨x, H1, I1, r1, l, ns, rfl, hq, hl, q1⟩ := z
  cases r1
  obtain ⟨its, r, pl, hz⟩ := I1.list hq
  have e : its.toArray.size = ns.length := by rw [List.size_toArray, ← r.length, List.length_map]
  refine call_set_list (I1.ok.hd hc) pl.isList (by simpa using RZ.intsAre_vals r) (by rw [e]; unfold scanBound; omega) fun h' tk hS hk => PyProof.Rows.args_nil ?_
  rw [e, firstMet_once ns.length (Nat.le_refl _), List.take_length] at hS
  obtain ⟨o, es, ep, t, ho, hex, hd, _, _, _, hf, hn⟩ := hS
  have I2 : Inv X pins σ H1 { s1 with heap := h', toks := tk } := I1.kept fun b o e => hk b o (Heap.lt_size e) e
  have sz : (once [] ns).length ≤ ns.length := by
    have := PyProof.Rows.firstMet_length_le (fun i => ns.getD i 0) ns.length
    rwa [firstMet_once ns.length (Nat.le_refl _), List.take_length] at this
  exact call_len_set ho hex hd hf (by rw [hn]; omega) ⟨.int (once [] ns).length, H1, I2.tok _, ⟨_, by rw [hn]⟩, q1⟩
end Sb

/-! The layer of data: tuples by value, mutable things by address. -/
namespace Sb
open PySem PySem.Spec L2

/-- the frame, and the world whose hashes are meant -/
structure Kw where
  k : PySem.W.Frag
  w : World
  mg : Str → Option Value
@[reducible] def Kw.fr (K : Kw) : PySem.W.Frag := K.k
instance : CoeOut Kw PySem.W.Frag := ⟨Kw.k⟩
@[reducible] def _root_.L2.Cx.kw (X : Cx) : Kw := ⟨X.K, X.w, X.mg⟩
/-- data -/
inductive Dv where
  | non | bl (b : Bool) | int (i : Int) | str (x : Str) | ty (n : String) | ref (a : Addr) | tup (l : List Dv)
  /-- the script, which never changes -/
  | scr (ns : List Int)

/-- a list that never changes -/
def SqZ (K : Kw) (H : Hp) (a : Addr) (xs : List V) : Prop :=
  (∃ o, H a = some (.frz o (.lst xs))) ∨
    ∃ (o : Obj) (its : Array Value) (n : Nat), K.k.lookup a = some o ∧ o.cls = .type "list" ∧ o.dict = none ∧ o.data = .seq its n ∧ its.size ≤ sizeLine ∧ Vals xs its.toList
theorem SqZ.l {K : Kw} {H : Hp} {a : Addr} {xs : List V} (h : SqZ K H a xs) : SqL K H a xs := h.elim (fun q => .inl (.inr q)) .inr

mutual
def Rep (K : Kw) (H : Hp) : Dv → V → Prop
  | .non, v => v = .non
  | .bl b, v => v = .bl b
  | .int i, v => v = .int i
  | .str x, v => v = .str x
  | .ty n, v => v = .ty n
  | .ref a, v => v = .ref a
  | .tup ds, v => ∃ a xs, v = .ref a ∧ SqN K H a xs ∧ Reps K H ds xs
  | .scr ns, v => ∃ a, v = .ref a ∧ SqZ K H a (ns.map V.int)
def Reps (K : Kw) (H : Hp) : List Dv → List V → Prop
  | [], xs => xs = []
  | d :: ds, xs => ∃ y ys, xs = y :: ys ∧ Rep K H d y ∧ Reps K H ds ys
end

section
variable {K : Kw} {H H' : Hp}
/-- tuples stay, and the script -/
structure Keep (K : Kw) (H H' : Hp) : Prop where
  t : ∀ a xs, SqN K H a xs → SqN K H' a xs
  z : ∀ a xs, SqZ K H a xs → SqZ K H' a xs
theorem Keep.refl : Keep K H H := ⟨fun _ _ h => h, fun _ _ h => h⟩
theorem Keep.trans {H1 H2 : Hp} (a : Keep K H H1) (b : Keep K H1 H2) : Keep K H H2 := ⟨fun c xs h => b.t c xs (a.t c xs h), fun c xs h => b.z c xs (a.z c xs h)⟩
theorem Keep.upd {a : Addr} {o : HO} (h : ∀ u, H a = some u → (∀ xs, u ≠ .tup xs) ∧ ∀ ob w, u ≠ .frz ob w) : Keep K H (upd H a o) := by
  have ne : ∀ {b : Addr} {u : HO}, H b = some u → ((∃ xs, u = .tup xs) ∨ ∃ ob w, u = .frz ob w) → b ≠ a := fun {b u} e q z => by
    subst z
    obtain ⟨h1, h2⟩ := h u e
    rcases q with ⟨xs, q⟩ | ⟨ob, w, q⟩
    · exact h1 xs q
    · exact h2 ob w q
  refine ⟨fun b xs q => ?_, fun b xs q => ?_⟩
  · rcases q with ⟨ob, q, qd⟩ | q
    · exact .inl ⟨ob, by rw [upd_ne (ne q (.inr ⟨_, _, rfl⟩))]; exact q, qd⟩
    · exact .inr q
  · rcases q with ⟨ob, q⟩ | q
    · exact .inl ⟨ob, by rw [upd_ne (ne q (.inr ⟨_, _, rfl⟩))]; exact q⟩
    · exact .inr q
theorem Keep.new {a : Addr} {o : HO} (h : H a = none) : Keep K H (L2.upd H a o) := Keep.upd fun u e => by rw [h] at e; cases e
mutual
theorem Rep.keep (k : Keep K H H') : ∀ (d : Dv) (v : V), Rep K H d v → Rep K H' d v
  | .non, _, h => by simpa only [Rep] using h
  | .bl _, _, h => by simpa only [Rep] using h
  | .int _, _, h => by simpa only [Rep] using h
  | .str _, _, h => by simpa only [Rep] using h
  | .ty _, _, h => by simpa only [Rep] using h
  | .ref _, _, h => by simpa only [Rep] using h
  | .tup ds, v, h => by
    simp only [Rep] at h ⊢
    obtain ⟨a, xs, e, q, r⟩ := h
    exact ⟨a, xs, e, k.t _ _ q, Reps.keep k ds xs r⟩
  | .scr ns, v, h => by
    simp only [Rep] at h ⊢
    obtain ⟨a, e, q⟩ := h
    exact ⟨a, e, k.z _ _ q⟩
theorem Reps.keep (k : Keep K H H') : ∀ (ds : List Dv) (xs : List V), Reps K H ds xs → Reps K H' ds xs
  | [], _, h => by simpa only [Reps] using h
  | d :: ds, xs, h => by
    simp only [Reps] at h ⊢
    obtain ⟨y, ys, e, q, r⟩ := h
    exact ⟨y, ys, e, Rep.keep k d y q, Reps.keep k ds ys r⟩
end
theorem Reps.length : ∀ {ds : List Dv} {xs : List V}, Reps K H ds xs → xs.length = ds.length
  | [], _, h => by simp only [Reps] at h; rw [h]; rfl
  | d :: ds, _, h => by
    simp only [Reps] at h
    obtain ⟨y, ys, rfl, _, r⟩ := h
    simp [Reps.length r]
theorem Reps.nil : Reps K H [] [] := by simp only [Reps]
theorem Reps.cons {d : Dv} {ds : List Dv} {x : V} {xs : List V} (a : Rep K H d x) (b : Reps K H ds xs) : Reps K H (d :: ds) (x :: xs) := by
  simp only [Reps]; exact ⟨x, xs, rfl, a, b⟩
theorem Reps.nil_inv {xs : List V} (h : Reps K H [] xs) : xs = [] := by simpa only [Reps] using h
theorem Reps.cons_inv {d : Dv} {ds : List Dv} {xs : List V} (h : Reps K H (d :: ds) xs) : ∃ y ys, xs = y :: ys ∧ Rep K H d y ∧ Reps K H ds ys := by simpa only [Reps] using h
theorem Reps.append : ∀ {ds es : List Dv} {xs ys : List V}, Reps K H ds xs → Reps K H es ys → Reps K H (ds ++ es) (xs ++ ys)
  | [], _, _, _, h, q => by rw [h.nil_inv]; exact q
  | d :: ds, _, _, _, h, q => by
    obtain ⟨y, ys, rfl, a, b⟩ := h.cons_inv
    exact .cons a (Reps.append b q)
theorem Reps.get : ∀ {ds : List Dv} {xs : List V} {i : Nat} {d : Dv}, Reps K H ds xs → ds[i]? = some d → ∃ x, xs[i]? = some x ∧ Rep K H d x
  | [], _, _, _, _, e => by simp at e
  | d :: ds, _, 0, _, h, e => by
    obtain ⟨y, ys, rfl, a, b⟩ := h.cons_inv
    simp at e; subst e
    exact ⟨y, rfl, a⟩
  | d :: ds, _, i + 1, _, h, e => by
    obtain ⟨y, ys, rfl, a, b⟩ := h.cons_inv
    simpa using Reps.get (i := i) b (by simpa using e)
theorem Reps.set : ∀ {ds : List Dv} {xs : List V} (i : Nat) {d : Dv} {x : V}, Reps K H ds xs → Rep K H d x → Reps K H (ds.set i d) (xs.set i x)
  | [], _, _, _, _, h, _ => by rw [h.nil_inv]; exact .nil
  | d :: ds, _, 0, _, _, h, q => by
    obtain ⟨y, ys, rfl, a, b⟩ := h.cons_inv
    exact .cons q b
  | d :: ds, _, i + 1, _, _, h, q => by
    obtain ⟨y, ys, rfl, a, b⟩ := h.cons_inv
    exact .cons a (Reps.set i b q)
theorem Reps.take : ∀ {ds : List Dv} {xs : List V} (n : Nat), Reps K H ds xs → Reps K H (ds.take n) (xs.take n)
  | _, _, 0, _ => by simp only [List.take_zero]; exact .nil
  | [], _, _ + 1, h => by rw [h.nil_inv]; exact .nil
  | d :: ds, _, n + 1, h => by
    obtain ⟨y, ys, rfl, a, b⟩ := h.cons_inv
    exact .cons a (Reps.take n b)
theorem Reps.drop : ∀ {ds : List Dv} {xs : List V} (n : Nat), Reps K H ds xs → Reps K H (ds.drop n) (xs.drop n)
  | _, _, 0, h => h
  | [], _, _ + 1, h => by rw [h.nil_inv]; exact .nil
  | d :: ds, _, n + 1, h => by
    obtain ⟨y, ys, rfl, a, b⟩ := h.cons_inv
    exact Reps.drop n b
theorem Reps.eraseIdx : ∀ {ds : List Dv} {xs : List V} (i : Nat), Reps K H ds xs → Reps K H (ds.eraseIdx i) (xs.eraseIdx i)
  | [], _, _, h => by rw [h.nil_inv]; simp; exact .nil
  | d :: ds, _, 0, h => by
    obtain ⟨y, ys, rfl, a, b⟩ := h.cons_inv
    exact b
  | d :: ds, _, i + 1, h => by
    obtain ⟨y, ys, rfl, a, b⟩ := h.cons_inv
    exact .cons a (Reps.eraseIdx i b)
theorem Reps.ints (ns : List Int) : Reps K H (ns.map Dv.int) (ns.map V.int) := by
  induction ns with
  | nil => exact .nil
  | cons n ns ih => exact .cons (by simp only [Rep]) ih
end

/-- a field: a value, a list or a dict that belongs to the object alone -/
inductive Fv where
  | val (d : Dv) | lst (ds : List Dv) | dct (kvs : List (Dv × Dv))
/-- what stands at an address -/
inductive O where
  /-- a dict over keys of any depth -/
  | ndc (kvs : List (Dv × Dv))
  /-- the same, locked while it is walked -/
  | fzn (o : Obj) (es : NL V V) (kvs : List (Dv × Dv))
  /-- an object that hides its lists and dicts -/
  | obj (c : Str) (fs : List (Str × Fv))
  | lst (ds : List Dv)
  /-- a dict -/
  | dct (kvs : List (Dv × Dv))
  | ins (c : Str) (fs : List (Str × Dv))
  /-- a law's pen: [cells, at, digits] -/
  | pen
  /-- the dict of an exception -/
  | xd (fs : List (Str × Dv))
  /-- a table of code objects of the name q -/
  | tab (q : Str)
abbrev Store := Addr → Option O
def up (S : Store) (a : Addr) (o : O) : Store := fun b => if b = a then some o else S b
theorem up_same {S : Store} {a : Addr} {o : O} : up S a o a = some o := by unfold up; rw [if_pos rfl]
theorem up_ne {S : Store} {a b : Addr} {o : O} (h : b ≠ a) : up S a o b = S b := by unfold up; rw [if_neg h]
theorem up_up {S : Store} {a : Addr} {o u : O} : up (up S a o) a u = up S a u := by
  funext b; unfold up; split <;> rfl
theorem up_none {S : Store} {a b : Addr} {o : O} : (up S a o b = none) ↔ (b ≠ a ∧ S b = none) := by
  unfold up
  by_cases h : b = a
  · rw [if_pos h]; simp [h]
  · rw [if_neg h]; simp [h]
theorem up_comm {S : Store} {a b : Addr} {o u : O} (h : a ≠ b) : up (up S a o) b u = up (up S b u) a o := by
  funext c; unfold up
  by_cases h1 : c = b
  · subst h1; simp [Ne.symm h]
  · by_cases h2 : c = a
    · subst h2; simp [h1]
    · simp [h1, h2]
theorem up_self {S : Store} {a : Addr} {o : O} (h : S a = some o) : up S a o = S := by
  funext b; unfold up
  by_cases e : b = a
  · subst e; rw [if_pos rfl, h]
  · rw [if_neg e]
theorem some_ne {S : Store} {a b : Addr} {o : O} (h : S a = some o) (h' : S b = none) : a ≠ b := by
  intro e; subst e; rw [h] at h'; cases h'

/-- two lists of pairs with the same names, their values alike -/
def Named {κ : Type} (K : Kw) (H : Hp) (fs : List (κ × Dv)) (ys : List (κ × V)) : Prop := ys.map (·.1) = fs.map (·.1) ∧ Reps K H (fs.map (·.2)) (ys.map (·.2))

/-- a key -/
def kD : Key → Dv
  | .inl i => .int i
  | .inr x => .str x
theorem kD_inj : ∀ {k l : Key}, kD k = kD l → k = l
  | .inl _, .inl _, h => by simp only [kD, Dv.int.injEq] at h; rw [h]
  | .inr _, .inr _, h => by simp only [kD, Dv.str.injEq] at h; rw [h]
  | .inl _, .inr _, h => by simp [kD] at h
  | .inr _, .inl _, h => by simp [kD] at h
/-- a dict: its keys and values, in order -/
def DctAt (K : Kw) (H : Hp) (a : Addr) (kvs : List (Dv × Dv)) : Prop :=
  ∃ ys : List (Key × V), H a = some (.dK ys) ∧ kvs.map (·.1) = ys.map (fun y => kD y.1) ∧ Reps K H (kvs.map (·.2)) (ys.map (·.2))
theorem DctAt.there {K : Kw} {H : Hp} {a : Addr} {kvs : List (Dv × Dv)} (h : DctAt K H a kvs) : H a ≠ none := by
  obtain ⟨ys, e, _⟩ := h; rw [e]; simp
theorem DctAt.plain {K : Kw} {H : Hp} {a : Addr} {kvs : List (Dv × Dv)} (h : DctAt K H a kvs) : ∀ u, H a = some u → (∀ xs, u ≠ .tup xs) ∧ ∀ ob w, u ≠ .frz ob w := fun u e => by
  obtain ⟨ys, q, _⟩ := h; rw [q] at e; cases e; exact ⟨fun _ q => HO.noConfusion q, fun _ _ q => HO.noConfusion q⟩
theorem DctAt.frame {K : Kw} {H H' : Hp} {a : Addr} {kvs : List (Dv × Dv)} (h : DctAt K H a kvs) (k : Keep K H H') (e : H' a = H a) : DctAt K H' a kvs := by
  obtain ⟨ys, q, n, r⟩ := h; exact ⟨ys, e.trans q, n, r.keep k⟩

mutual
/-- a key of any depth -/
def nkD : Dv → Option NestedKey
  | .non => some .none
  | .int i => some (.num i)
  | .str x => some (.text x)
  | .tup ds => (nkDs ds).map .tup
  | .bl _ => none
  | .ty _ => none
  | .ref _ => none
  | .scr _ => none
def nkDs : List Dv → Option (List NestedKey)
  | [] => some []
  | d :: ds => (nkD d).bind fun k => (nkDs ds).map fun ks => k :: ks
end
/-- the entries of a dict over data keys -/
def KVn (K : Kw) (H : Hp) : List (Dv × Dv) → NL V V → Prop
  | [], es => es = []
  | p :: kvs, es => ∃ k x y es', es = (k, x, y) :: es' ∧ nkD p.1 = some k ∧ k.depth ≤ 8 ∧ Rep K H p.1 x ∧ Rep K H p.2 y ∧ KVn K H kvs es'
theorem KVn.keep {K : Kw} {H H' : Hp} (k : Keep K H H') : ∀ {kvs : List (Dv × Dv)} {es : NL V V}, KVn K H kvs es → KVn K H' kvs es
  | [], _, h => h
  | p :: kvs, es, h => by
    obtain ⟨a, x, y, es', e, h1, h2, h3, h4, h5⟩ := h
    exact ⟨a, x, y, es', e, h1, h2, h3.keep k, h4.keep k, KVn.keep k h5⟩
def NdcAt (K : Kw) (H : Hp) (a : Addr) (kvs : List (Dv × Dv)) : Prop := ∃ es : NL V V, H a = some (NdO K.w a es) ∧ KVn K H kvs es
theorem NdcAt.there {K : Kw} {H : Hp} {a : Addr} {kvs : List (Dv × Dv)} (h : NdcAt K H a kvs) : H a ≠ none := by
  obtain ⟨ys, e, _⟩ := h; rw [e]; simp
theorem NdcAt.plain {K : Kw} {H : Hp} {a : Addr} {kvs : List (Dv × Dv)} (h : NdcAt K H a kvs) : ∀ u, H a = some u → (∀ xs, u ≠ .tup xs) ∧ ∀ ob w, u ≠ .frz ob w := fun u e => by
  obtain ⟨ys, q, _⟩ := h; rw [q] at e; cases e; exact ⟨fun _ q => HO.noConfusion q, fun _ _ q => HO.noConfusion q⟩
theorem NdcAt.frame {K : Kw} {H H' : Hp} {a : Addr} {kvs : List (Dv × Dv)} (h : NdcAt K H a kvs) (k : Keep K H H') (e : H' a = H a) : NdcAt K H' a kvs := by
  obtain ⟨ys, q, n⟩ := h; exact ⟨ys, e.trans q, n.keep k⟩

/-- own: the hidden objects, by what they belong to -/
abbrev Own := Addr → Option Addr
/-- the fields of an object that hides its lists and dicts -/
def FvsAt (K : Kw) (H : Hp) (own : Own) (a : Addr) : List (Str × Fv) → List (Str × V) → List Addr → Prop
  | [], ys, hs => ys = [] ∧ hs = []
  | (n, .val d) :: fs, ys, hs => ∃ v ys', ys = (n, v) :: ys' ∧ Rep K H d v ∧ FvsAt K H own a fs ys' hs
  | (n, .lst ds) :: fs, ys, hs => ∃ l xs ys' hs', ys = (n, .ref l) :: ys' ∧ hs = l :: hs' ∧ own l = some a ∧ H l = some (.lst xs) ∧ Reps K H ds xs ∧ FvsAt K H own a fs ys' hs'
  | (n, .dct kvs) :: fs, ys, hs => ∃ l ys' hs', ys = (n, .ref l) :: ys' ∧ hs = l :: hs' ∧ own l = some a ∧ NdcAt K H l kvs ∧ FvsAt K H own a fs ys' hs'
theorem FvsAt.frame {K : Kw} {H H' : Hp} {own own' : Own} {a : Addr} (k : Keep K H H') (ho : ∀ c, own c = some a → own' c = some a) (he : ∀ c, own c = some a → H c ≠ none → H' c = H c) : ∀ {fs : List (Str × Fv)} {ys : List (Str × V)} {hs : List Addr}, FvsAt K H own a fs ys hs → FvsAt K H' own' a fs ys hs
  | [], _, _, h => h
  | (n, .val d) :: fs, _, _, h => by
    obtain ⟨v, ys', e, r, t⟩ := h
    exact ⟨v, ys', e, r.keep k, FvsAt.frame k ho he t⟩
  | (n, .lst ds) :: fs, _, _, h => by
    obtain ⟨l, xs, ys', hs', e1, e2, o, e3, r, t⟩ := h
    exact ⟨l, xs, ys', hs', e1, e2, ho l o, (he l o (by rw [e3]; simp)).trans e3, r.keep k, FvsAt.frame k ho he t⟩
  | (n, .dct kvs) :: fs, _, _, h => by
    obtain ⟨l, ys', hs', e1, e2, o, r, t⟩ := h
    exact ⟨l, ys', hs', e1, e2, ho l o, r.frame k (he l o r.there), FvsAt.frame k ho he t⟩
/-- what may be written -/
def O.wr : O → Bool
  | .fzn _ _ _ => false
  | .ndc _ => true | .obj _ _ => true | .lst _ => true | .dct _ => true | .ins _ _ => true | .pen => true | .xd _ => true | .tab _ => false
def OK1 (K : Kw) (H : Hp) (own : Own) (a : Addr) : O → Prop
  | .fzn o es kvs => own a = none ∧ H a = some (.frz o (NdO K.w a es)) ∧ KVn K H kvs es
  | .ndc kvs => own a = none ∧ NdcAt K H a kvs
  | .obj c fs => own a = none ∧ ∃ C dx ys hs, K.mg c = some (.ref C) ∧ H a = some (.ins C dx ys) ∧ hs.Nodup ∧ FvsAt K H own a fs ys hs
  | .lst ds => own a = none ∧ ∃ xs, H a = some (.lst xs) ∧ Reps K H ds xs
  | .dct kvs => own a = none ∧ DctAt K H a kvs
  | .ins c fs => own a = none ∧ ∃ C dx ys, K.mg c = some (.ref C) ∧ H a = some (.ins C dx ys) ∧ Named K H fs ys
  | .pen => own a = none ∧ ∃ (l : Addr) (at_ dg : Int) (ns : List Int), H a = some (.lst [.ref l, .int at_, .int dg]) ∧ own l = some a ∧ H l = some (.lst (ns.map V.int)) ∧ 0 ≤ at_ ∧ ns.length ≤ 63
  | .xd fs => own a = none ∧ ∃ ys, H a = some (.xd ys) ∧ Named K H fs ys
  | .tab q => own a = none ∧ ∃ ps : Array Value, H a = some (.tbl ps) ∧ TriplesOk ps.toList ∧ ∀ (pos : Pos) (cv : Value), codeAmong pos ps.toList = some cv → ∃ c, cv = .ref c ∧ own c = some a ∧ H c = some (LamX.CodeO c q)
structure Rel (K : Kw) (S : Store) (H : Hp) : Prop where
  ex : ∃ own : Own, (∀ c a, own c = some a → S c = none ∧ H c ≠ none) ∧ ∀ a o, S a = some o → OK1 K H own a o

section
variable {K : Kw} {H H' : Hp} {S S' : Store} {own own' : Own} {a b p : Addr} {o o' : O} {u : HO}
theorem OK1.there (h : OK1 K H own a o) : H a ≠ none := by
  cases o with
  | lst ds => obtain ⟨_, xs, e, _⟩ := h; rw [e]; simp
  | dct ds => exact h.2.there
  | ndc ds => exact h.2.there
  | fzn o es ds => obtain ⟨_, e, _⟩ := h; rw [e]; simp
  | obj C ds => obtain ⟨_, _, dx, xs, _, _, e, _⟩ := h; rw [e]; simp
  | ins C ds => obtain ⟨_, _, dx, xs, _, e, _⟩ := h; rw [e]; simp
  | pen => obtain ⟨_, _, _, _, _, e, _⟩ := h; rw [e]; simp
  | xd fs => obtain ⟨_, _, e, _⟩ := h; rw [e]; simp
  | tab q => obtain ⟨_, _, e, _⟩ := h; rw [e]; simp
theorem OK1.mine (h : OK1 K H own a o) : own a = none := by
  cases o <;> exact h.1
theorem OK1.plain (h : OK1 K H own a o) (hw : o.wr = true) : ∀ u, H a = some u → (∀ xs, u ≠ .tup xs) ∧ ∀ ob w, u ≠ .frz ob w := fun u e => by
  cases o with
  | lst ds => obtain ⟨_, xs, q, _⟩ := h; rw [q] at e; cases e; exact ⟨fun _ q => HO.noConfusion q, fun _ _ q => HO.noConfusion q⟩
  | dct ds => exact h.2.plain u e
  | ndc ds => exact h.2.plain u e
  | fzn o es ds => exact absurd hw Bool.false_ne_true
  | obj C ds => obtain ⟨_, _, dx, xs, _, _, q, _⟩ := h; rw [q] at e; cases e; exact ⟨fun _ q => HO.noConfusion q, fun _ _ q => HO.noConfusion q⟩
  | ins C ds => obtain ⟨_, _, dx, xs, _, q, _⟩ := h; rw [q] at e; cases e; exact ⟨fun _ q => HO.noConfusion q, fun _ _ q => HO.noConfusion q⟩
  | pen => obtain ⟨_, _, _, _, _, q, _⟩ := h; rw [q] at e; cases e; exact ⟨fun _ q => HO.noConfusion q, fun _ _ q => HO.noConfusion q⟩
  | xd fs => obtain ⟨_, _, q, _⟩ := h; rw [q] at e; cases e; exact ⟨fun _ q => HO.noConfusion q, fun _ _ q => HO.noConfusion q⟩
  | tab q => exact absurd hw Bool.false_ne_true
theorem OK1.frame (h : OK1 K H own b o) (k : Keep K H H') (hown : own' b = own b) (ho2 : ∀ c, own c = some b → own' c = some b)
    (he : ∀ c, (c = b ∨ own c = some b) → H c ≠ none → H' c = H c) : OK1 K H' own' b o := by
  cases o with
  | lst ds => obtain ⟨w, xs, e, r⟩ := h; exact ⟨hown.trans w, xs, (he b (.inl rfl) (by rw [e]; simp)).trans e, r.keep k⟩
  | dct ds => exact ⟨hown.trans h.1, h.2.frame k (he b (.inl rfl) h.2.there)⟩
  | ndc ds => exact ⟨hown.trans h.1, h.2.frame k (he b (.inl rfl) h.2.there)⟩
  | fzn ob es ds => obtain ⟨w, e, r⟩ := h; exact ⟨hown.trans w, (he b (.inl rfl) (by rw [e]; simp)).trans e, r.keep k⟩
  | obj C fs =>
    obtain ⟨w, C, dx, ys, hs, hc, e, n, t⟩ := h
    exact ⟨hown.trans w, C, dx, ys, hs, hc, (he b (.inl rfl) (by rw [e]; simp)).trans e, n, t.frame k ho2 fun c hc => he c (.inr hc)⟩
  | ins C ds => obtain ⟨w, C, dx, xs, hc, e, n, r⟩ := h; exact ⟨hown.trans w, C, dx, xs, hc, (he b (.inl rfl) (by rw [e]; simp)).trans e, n, r.keep k⟩
  | pen =>
    obtain ⟨w, l, i, j, ns, e, wl, el, z⟩ := h
    exact ⟨hown.trans w, l, i, j, ns, (he b (.inl rfl) (by rw [e]; simp)).trans e, ho2 l wl, (he l (.inr wl) (by rw [el]; simp)).trans el, z⟩
  | xd fs => obtain ⟨w, ys, e, n, r⟩ := h; exact ⟨hown.trans w, ys, (he b (.inl rfl) (by rw [e]; simp)).trans e, n, r.keep k⟩
  | tab q =>
    obtain ⟨w, ps, e, t, cs⟩ := h
    refine ⟨hown.trans w, ps, (he b (.inl rfl) (by rw [e]; simp)).trans e, t, fun pos cv hc => ?_⟩
    obtain ⟨c, e1, oc, ec⟩ := cs pos cv hc
    exact ⟨c, e1, ho2 c oc, (he c (.inr oc) (by rw [ec]; simp)).trans ec⟩
theorem Rel.free (h : Rel K S H) (hp : H p = none) : S p = none := by
  obtain ⟨own, _, h2⟩ := h.ex
  cases e : S p with
  | none => rfl
  | some o => exact absurd hp (h2 p o e).there
/-- forgetting -/
theorem Rel.sub (h : Rel K S H) (hs : ∀ a o, S' a = some o → S a = some o) : Rel K S' H := by
  obtain ⟨own, h1, h2⟩ := h.ex
  refine ⟨own, fun c a e => ⟨?_, (h1 c a e).2⟩, fun a o e => h2 a o (hs a o e)⟩
  cases q : S' c with
  | none => rfl
  | some o =>
    have := hs c o q
    rw [(h1 c a e).1] at this; cases this
/-- an untracked new object -/
theorem Rel.new (h : Rel K S H) (hp : H p = none) : Rel K S (upd H p u) := by
  obtain ⟨own, h1, h2⟩ := h.ex
  have ne : ∀ c, H c ≠ none → c ≠ p := fun c q z => q (by rw [z]; exact hp)
  refine ⟨own, fun c a e => ⟨(h1 c a e).1, by rw [upd_ne (ne c (h1 c a e).2)]; exact (h1 c a e).2⟩, fun a o e => (h2 a o e).frame (.new hp) rfl (fun _ q => q) fun c _ q => upd_ne (ne c q)⟩
/-- a tracked new object -/
theorem Rel.laid (h : Rel K S H) (hp : H p = none) (hn : ∀ own : Own, own p = none → OK1 K (upd H p u) own p o) : Rel K (up S p o) (upd H p u) := by
  obtain ⟨own, h1, h2⟩ := h.ex
  have ne : ∀ c, H c ≠ none → c ≠ p := fun c q z => q (by rw [z]; exact hp)
  have op : own p = none := by
    cases q : own p with
    | none => rfl
    | some a => exact absurd hp (h1 p a q).2
  refine ⟨own, fun c a e => ⟨?_, by rw [upd_ne (ne c (h1 c a e).2)]; exact (h1 c a e).2⟩, fun a o e => ?_⟩
  · rw [up_ne (ne c (h1 c a e).2)]; exact (h1 c a e).1
  · by_cases ha : a = p
    · subst ha; rw [up_same] at e; cases e; exact hn own op
    · rw [up_ne ha] at e
      exact (h2 a _ e).frame (.new hp) rfl (fun _ q => q) fun c _ q => upd_ne (ne c q)
/-- an object changed -/
theorem Rel.writeK (h : Rel K S H) (e : S a = some o) (kp : Keep K H (upd H a u)) (hn : ∀ own : Own, (∀ c b, own c = some b → S c = none) → OK1 K H own a o → OK1 K (upd H a u) own a o') : Rel K (up S a o') (upd H a u) := by
  obtain ⟨own, h1, h2⟩ := h.ex
  have oa : own a = none := (h2 a o e).mine
  have nc : ∀ c b, own c = some b → c ≠ a := fun c b q z => by rw [z, oa] at q; cases q
  refine ⟨own, fun c b q => ⟨?_, ?_⟩, fun b ob q => ?_⟩
  · rw [up_ne (nc c b q)]; exact (h1 c b q).1
  · rw [upd_ne (nc c b q)]; exact (h1 c b q).2
  · by_cases hb : b = a
    · subst hb; rw [up_same] at q; cases q
      exact hn own (fun c b q => (h1 c b q).1) (h2 b o e)
    · rw [up_ne hb] at q
      refine (h2 b ob q).frame kp rfl (fun _ q => q) fun c hc _ => ?_
      rcases hc with hc | hc
      · rw [hc]; exact upd_ne hb
      · exact upd_ne (nc c b hc)
theorem Rel.write (h : Rel K S H) (e : S a = some o) (hn : ∀ own : Own, (∀ c b, own c = some b → S c = none) → OK1 K H own a o → OK1 K (upd H a u) own a o') (hw : o.wr = true := by rfl) : Rel K (up S a o') (upd H a u) :=
  h.writeK e (let ⟨_, _, h2⟩ := h.ex; .upd (OK1.plain (h2 a o e) hw)) hn
end

/-! ### slots -/
abbrev DSt := List (Option Dv)
structure Wd (K : Kw) (H0 : Hp) (σ : St) (δ : DSt) (S : Store) (H : Hp) : Prop where
  base : Keep K H0 H
  rel : Rel K S H
  len : σ.length = δ.length
  slot : ∀ (i : Nat) (d : Dv), δ[i]? = some (some d) → ∃ v, σ[i]? = some (some v) ∧ Rep K H d v
theorem Wd.keep {K : Kw} {H0 : Hp} {σ : St} {δ : DSt} {S S' : Store} {H H' : Hp} (w : Wd K H0 σ δ S H) (k : Keep K H H') (r : Rel K S' H') : Wd K H0 σ δ S' H' :=
  ⟨w.base.trans k, r, w.len, fun i d e => let ⟨v, e1, q⟩ := w.slot i d e; ⟨v, e1, q.keep k⟩⟩
theorem Wd.set {K : Kw} {H0 : Hp} {σ : St} {δ : DSt} {S : Store} {H : Hp} {i : Nat} {d : Dv} {v : V} (w : Wd K H0 σ δ S H) (r : Rep K H d v) : Wd K H0 (σ.set i (some v)) (δ.set i (some d)) S H := by
  refine ⟨w.base, w.rel, by simp [w.len], fun j e he => ?_⟩
  by_cases hj : j = i
  · subst hj
    have hl : j < δ.length := by
      have := (List.getElem?_eq_some_iff.mp he).1
      simpa using this
    rw [List.getElem?_set_self hl] at he
    cases he
    exact ⟨v, List.getElem?_set_self (by rw [w.len]; exact hl), r⟩
  · rw [List.getElem?_set_ne (Ne.symm hj)] at he ⊢
    exact w.slot j e he

/-! ### readings over data -/
abbrev DK := Dv → Store → Prop
abbrev DTE := DSt → Store → DK → Prop
abbrev DTT := DSt → Store → (Bool → Store → Prop) → Prop
abbrev DTA := DSt → Store → (List Dv → Store → Prop) → Prop
structure DEnds where
  nx : DSt → Store → Prop
  rt : DK
  bk : DSt → Store → Prop := fun _ _ => False
  ct : DSt → Store → Prop := fun _ _ => False
abbrev DTS := DEnds → DSt → Store → Prop

/-- what is wanted of a value -/
def PV (K : Kw) (H : Hp) (P : DK) (Q : VK) : Prop := ∀ d S', P d S' → ∀ v H', Keep K H H' → Rel K S' H' → Rep K H' d v → Q v H'
def liftE (K : Kw) (H0 : Hp) (t : DTE) : TE := fun σ H Q => ∃ δ S P, Wd K H0 σ δ S H ∧ t δ S P ∧ PV K H P Q
def liftT (K : Kw) (H0 : Hp) (t : DTT) : TT := fun σ H Q => ∃ δ S P, Wd K H0 σ δ S H ∧ t δ S P ∧ ∀ b S', P b S' → ∀ H', Keep K H H' → Rel K S' H' → Q b H'
def liftA (K : Kw) (H0 : Hp) (t : DTA) : TA := fun σ H Q => ∃ δ S P, Wd K H0 σ δ S H ∧ t δ S P ∧ ∀ ds S', P ds S' → ∀ vs H', Keep K H H' → Rel K S' H' → Reps K H' ds vs → Q vs H'
structure PD (K : Kw) (H0 H : Hp) (D' : DEnds) (D : Ends) : Prop where
  nx : ∀ δ1 S1, D'.nx δ1 S1 → ∀ σ1 H1, Keep K H H1 → Wd K H0 σ1 δ1 S1 H1 → D.nx σ1 H1
  bk : ∀ δ1 S1, D'.bk δ1 S1 → ∀ σ1 H1, Keep K H H1 → Wd K H0 σ1 δ1 S1 H1 → D.bk σ1 H1
  ct : ∀ δ1 S1, D'.ct δ1 S1 → ∀ σ1 H1, Keep K H H1 → Wd K H0 σ1 δ1 S1 H1 → D.ct σ1 H1
  rt : PV K H D'.rt D.rt
def liftS (K : Kw) (H0 : Hp) (t : DTS) : TS := fun D σ H => ∃ δ S D', Wd K H0 σ δ S H ∧ t D' δ S ∧ PD K H0 H D' D
theorem PV.keep {K : Kw} {H H1 : Hp} {P : DK} {Q : VK} (h : PV K H P Q) (k : Keep K H H1) : PV K H1 P Q := fun d S' p v H' k' r q => h d S' p v H' (k.trans k') r q
theorem PD.keep {K : Kw} {H0 H H1 : Hp} {D' : DEnds} {D : Ends} (h : PD K H0 H D' D) (k : Keep K H H1) : PD K H0 H1 D' D :=
  ⟨fun δ S p σ H' k' w => h.nx δ S p σ H' (k.trans k') w, fun δ S p σ H' k' w => h.bk δ S p σ H' (k.trans k') w, fun δ S p σ H' k' w => h.ct δ S p σ H' (k.trans k') w, h.rt.keep k⟩

theorem _root_.L2.PE.to {X : Cx} {e : Expr} {t t' : TE} (h : PE X e t) (i : ∀ σ H Q, t' σ H Q → t σ H Q) : PE X e t' := ⟨fun pins s σ H Q I q => h.run pins s σ H Q I (i σ H Q q)⟩
theorem _root_.L2.PT.to {X : Cx} {e : Expr} {t t' : TT} (h : PT X e t) (i : ∀ σ H Q, t' σ H Q → t σ H Q) : PT X e t' := ⟨fun pins s σ H Q I q => h.run pins s σ H Q I (i σ H Q q)⟩
theorem _root_.L2.PW.to {X : Cx} {e : Expr} {t t' : TT} (h : PW X e t) (i : ∀ σ H Q, t' σ H Q → t σ H Q) : PW X e t' := ⟨fun wh pins s σ H Q I q => h.run wh pins s σ H Q I (i σ H Q q)⟩
theorem _root_.L2.PA.to {X : Cx} {e : List Expr} {t t' : TA} (h : PA X e t) (i : ∀ σ H Q, t' σ H Q → t σ H Q) : PA X e t' := ⟨fun pos pins s σ H Q I q => h.run pos pins s σ H Q I (i σ H Q q)⟩
theorem _root_.L2.PS.to {X : Cx} {e : Stmt} {t t' : TS} (h : PS X e t) (i : ∀ D σ H, t' D σ H → t D σ H) : PS X e t' := ⟨fun pins s σ H D I q => h.run pins s σ H D I (i D σ H q)⟩
theorem _root_.L2.PSs.to {X : Cx} {e : List Stmt} {t t' : TS} (h : PSs X e t) (i : ∀ D σ H, t' D σ H → t D σ H) : PSs X e t' := ⟨fun pins s σ H D I q => h.run pins s σ H D I (i D σ H q)⟩
theorem _root_.L2.PG.to {X : Cx} {e : Expr} {t t' : TG} (h : PG X e t) (i : ∀ v σ H Q, t' v σ H Q → t v σ H Q) : PG X e t' := ⟨fun pins s σ H v u Q I r q => h.run pins s σ H v u Q I r (i v σ H Q q)⟩
theorem _root_.L2.PGs.to {X : Cx} {e : List Expr} {t t' : TGs} (h : PGs X e t) (i : ∀ v σ H Q, t' v σ H Q → t v σ H Q) : PGs X e t' := ⟨fun pins s σ H v u Q I r q => h.run pins s σ H v u Q I r (i v σ H Q q)⟩
theorem _root_.L2.PI.to {X : Cx} {tg e : Expr} {t t' : TI} (h : PI X tg e t) (i : ∀ σ H Q, t' σ H Q → t σ H Q) : PI X tg e t' := ⟨fun pins s σ H Q I q => h.run pins s σ H Q I (i σ H Q q)⟩

abbrev DE (X : Cx) (H0 : Hp) (e : Expr) (t : DTE) : Prop := PE X e (liftE X.kw H0 t)
abbrev DT (X : Cx) (H0 : Hp) (e : Expr) (t : DTT) : Prop := PT X e (liftT X.kw H0 t)
abbrev DW (X : Cx) (H0 : Hp) (e : Expr) (t : DTT) : Prop := PW X e (liftT X.kw H0 t)
abbrev DA (X : Cx) (H0 : Hp) (e : List Expr) (t : DTA) : Prop := PA X e (liftA X.kw H0 t)
abbrev DS (X : Cx) (H0 : Hp) (e : Stmt) (t : DTS) : Prop := PS X e (liftS X.kw H0 t)
abbrev DSs (X : Cx) (H0 : Hp) (e : List Stmt) (t : DTS) : Prop := PSs X e (liftS X.kw H0 t)
end Sb

/-! Rules over data: expressions. -/
namespace Sb
open PySem PySem.Spec L2

section
variable {X : Cx} {H0 : Hp} {a b c : Expr} {ta tb tc : DTE} {pos : Pos}

/-! ### names, constants -/
@[simp] def dVar (i : Nat) : DTE := fun δ S P => match δ[i]? with | some (some d) => P d S | _ => False
@[simp] def dC (d : Dv) : DTE := fun _ S P => P d S
theorem dVar_some {i : Nat} {δ : DSt} {S : Store} {P : DK} (h : dVar i δ S P) : ∃ d, δ[i]? = some (some d) ∧ P d S := by
  unfold dVar at h
  split at h
  · exact ⟨_, by assumption, h⟩
  · exact h.elim
theorem dv (i : Nat) {x : Str} {pos : Pos} (hN : X.N[i]? = some x := by rfl) (hv : Vis X.env.scope x := by first | exact Or.inl rfl | exact Or.inr (Or.inl rfl) | exact Or.inr (Or.inr rfl)) (hd : (x == ("__debug__" : Str)) = false := by decide)
    (hcd : (x == ("__classdict__" : Str)) = false := by decide) : DE X H0 (.Name x pos) (dVar i) := (pe_var hN hv hd hcd).to fun σ H Q h => by
  obtain ⟨δ, S, P, w, ht, hp⟩ := h
  obtain ⟨d, e, q⟩ := dVar_some ht
  obtain ⟨v, ev, r⟩ := w.slot i d e
  exact ⟨v, ev, hp d S q v H .refl w.rel r⟩
theorem lift_C {K : Kw} {d : Dv} {v : V} (hr : ∀ H, Rep K H d v) : ∀ σ H Q, liftE K H0 (dC d) σ H Q → tC v σ H Q := fun σ H Q h => by
  obtain ⟨δ, S, P, w, ht, hp⟩ := h
  exact hp d S ht v H .refl w.rel (hr H)
theorem de_int {i : Int} {j pos} : DE X H0 (.Constant (.int i) j pos) (dC (.int i)) := pe_int.to (lift_C fun _ => by simp only [Rep])
theorem de_bl {i : Bool} {j pos} : DE X H0 (.Constant (.bool i) j pos) (dC (.bl i)) := pe_bl.to (lift_C fun _ => by simp only [Rep])
theorem de_non {j pos} : DE X H0 (.Constant .none j pos) (dC .non) := pe_non.to (lift_C fun _ => by simp only [Rep])
theorem de_str {x : Str} {j pos} : DE X H0 (.Constant (.str x) j pos) (dC (.str x)) := pe_str.to (lift_C fun _ => by simp only [Rep])

/-! ### two places -/
abbrev G2 := Dv → Dv → Store → DK → Prop
def Bin (K : Kw) (g : G2) (r : R2) : Prop := ∀ d e S P, g d e S P → ∀ v u H Q, Rel K S H → Rep K H d v → Rep K H e u → PV K H P Q → r v u H Q
@[simp] def dBin (g : G2) (ta tb : DTE) : DTE := fun δ S P => ta δ S fun d S1 => tb δ S1 fun e S2 => g d e S2 P
theorem bin_lift {K : Kw} {g : G2} {r : R2} (h : Bin K g r) : ∀ σ H Q, liftE K H0 (dBin g ta tb) σ H Q → tOp r (liftE K H0 ta) (liftE K H0 tb) σ H Q := fun σ H Q q => by
  obtain ⟨δ, S, P, w, ht, hp⟩ := q
  refine ⟨δ, S, _, w, ht, fun d S1 q1 v H1 k1 r1 p1 => ⟨δ, S1, _, w.keep k1 r1, q1, fun e S2 q2 u H2 k2 r2 p2 => ?_⟩⟩
  exact h d e S2 P q2 v u H2 Q r2 (p1.keep k2) p2 (hp.keep (k1.trans k2))
/-- an operation told by data -/
def OpG (X : Cx) (f : Value → Value → Sem Value) (g : G2) : Prop := ∃ r, OpR X f r ∧ Bin X.kw g r
theorem de_op {op : Operator} {g : G2} (o : OpG X (binaryOp op) g) (ha : DE X H0 a ta) (hb : DE X H0 b tb) : DE X H0 (.BinOp a op b pos) (dBin g ta tb) := let ⟨_, h1, h2⟩ := o; (pe_op h1 ha hb).to (bin_lift h2)
theorem de_cmp {op : CmpOp} {g : G2} (o : OpG X (compareOp op) g) (ha : DE X H0 a ta) (hb : DE X H0 b tb) (h1 : behindInMarks op b = false := by first | exact nobehind _ (by decide) (by decide) | rfl) : DE X H0 (.Compare a [op] [b] pos) (dBin g ta tb) := let ⟨_, h1', h2⟩ := o; (pe_cmpR h1' ha hb h1).to (bin_lift h2)
theorem OpR.or {f : Value → Value → Sem Value} {r r' : R2} (h : OpR X f r) (h' : OpR X f r') : OpR X f (fun x y H Q => r x y H Q ∨ r' x y H Q) := fun pins s σ H x y v u Q I rx ry q =>
  q.elim (h pins s σ H x y v u Q I rx ry) (h' pins s σ H x y v u Q I rx ry)
theorem Bin.or1 {K : Kw} {g : G2} {r r' : R2} (h : Bin K g r) : Bin K g (fun x y H Q => r x y H Q ∨ r' x y H Q) := fun d e S P q v u H Q a b c z => .inl (h d e S P q v u H Q a b c z)
theorem Bin.or2 {K : Kw} {g : G2} {r r' : R2} (h : Bin K g r') : Bin K g (fun x y H Q => r x y H Q ∨ r' x y H Q) := fun d e S P q v u H Q a b c z => .inr (h d e S P q v u H Q a b c z)
/-- two ints under a condition -/
@[simp] def gI (C : Int → Int → Prop) (f : Int → Int → Dv) : G2 := fun d e S P => match d, e with | .int i, .int j => C i j ∧ P (f i j) S | _, _ => False
@[simp] def gI0 (f : Int → Int → Dv) : G2 := fun d e S P => match d, e with | .int i, .int j => P (f i j) S | _, _ => False
theorem gI_inv {C : Int → Int → Prop} {f : Int → Int → Dv} {d e : Dv} {S : Store} {P : DK} (h : gI C f d e S P) : ∃ i j, d = .int i ∧ e = .int j ∧ C i j ∧ P (f i j) S := by
  unfold gI at h
  split at h
  · exact ⟨_, _, rfl, rfl, h⟩
  · exact h.elim
theorem gI0_inv {f : Int → Int → Dv} {d e : Dv} {S : Store} {P : DK} (h : gI0 f d e S P) : ∃ i j, d = .int i ∧ e = .int j ∧ P (f i j) S := by
  unfold gI0 at h
  split at h
  · exact ⟨_, _, rfl, rfl, h⟩
  · exact h.elim
theorem rep_int {K : Kw} {H : Hp} {i : Int} {v : V} : Rep K H (.int i) v ↔ v = .int i := by simp only [Rep]
theorem rep_bl {K : Kw} {H : Hp} {i : Bool} {v : V} : Rep K H (.bl i) v ↔ v = .bl i := by simp only [Rep]
theorem rep_str {K : Kw} {H : Hp} {i : Str} {v : V} : Rep K H (.str i) v ↔ v = .str i := by simp only [Rep]
theorem rep_ref {K : Kw} {H : Hp} {i : Addr} {v : V} : Rep K H (.ref i) v ↔ v = .ref i := by simp only [Rep]
theorem rep_non {K : Kw} {H : Hp} {v : V} : Rep K H .non v ↔ v = .non := by simp only [Rep]
theorem rep_tup {K : Kw} {H : Hp} {ds : List Dv} {v : V} : Rep K H (.tup ds) v ↔ ∃ a xs, v = .ref a ∧ SqN K H a xs ∧ Reps K H ds xs := by simp only [Rep]
theorem rep_scr {K : Kw} {H : Hp} {ns : List Int} {v : V} : Rep K H (.scr ns) v ↔ ∃ a, v = .ref a ∧ SqZ K H a (ns.map V.int) := by simp only [Rep]
theorem bin_I {K : Kw} {C : Int → Int → Prop} {g : Int → Int → V} {f : Int → Int → Dv} (hg : ∀ H i j, Rep K H (f i j) (g i j)) : Bin K (gI C f) (rI C g) := fun d e S P q v u H Q r1 rv ru hp => by
  obtain ⟨i, j, rfl, rfl, hc, q⟩ := gI_inv q
  exact ⟨i, j, rep_int.mp rv, rep_int.mp ru, hc, hp _ _ q _ _ .refl r1 (hg H i j)⟩
theorem bin_I0 {K : Kw} {g : Int → Int → V} {f : Int → Int → Dv} (hg : ∀ H i j, Rep K H (f i j) (g i j)) : Bin K (gI0 f) (rI0 g) := fun d e S P q v u H Q r1 rv ru hp => by
  obtain ⟨i, j, rfl, rfl, q⟩ := gI0_inv q
  exact ⟨i, j, rep_int.mp rv, rep_int.mp ru, hp _ _ q _ _ .refl r1 (hg H i j)⟩
abbrev gSub : G2 := gI0 fun i j => .int (i - j)
abbrev gMod : G2 := gI (fun _ j => 0 < j) fun i j => .int (i % j)
abbrev gDiv : G2 := gI CDiv fun i j => .int (i / j)
abbrev gDivW : G2 := gI CDivW fun i j => .int (i / j)
abbrev gPow : G2 := gI CPow fun i j => .int (i ^ j.toNat)
abbrev gMul : G2 := gI CMul fun i j => .int (i * j)
abbrev gMulW : G2 := gI CMulW fun i j => .int (i * j)
theorem o_sub : OpG X (binaryOp .Sub) (gSub) := ⟨_, op_sub, bin_I0 fun _ _ _ => rep_int.mpr rfl⟩
theorem o_mod : OpG X (binaryOp .Mod) (gMod) := ⟨_, op_mod, bin_I fun _ _ _ => rep_int.mpr rfl⟩
theorem o_fdiv : OpG X (binaryOp .FloorDiv) (gDiv) := ⟨_, op_fdiv, bin_I fun _ _ _ => rep_int.mpr rfl⟩
theorem o_fdivW : OpG X (binaryOp .FloorDiv) (gDivW) := ⟨_, op_fdivW, bin_I fun _ _ _ => rep_int.mpr rfl⟩
theorem o_pow : OpG X (binaryOp .Pow) (gPow) := ⟨_, op_pow, bin_I fun _ _ _ => rep_int.mpr rfl⟩
theorem o_mul : OpG X (binaryOp .Mult) (gMul) := ⟨_, op_mul, bin_I fun _ _ _ => rep_int.mpr rfl⟩
theorem o_mulW : OpG X (binaryOp .Mult) (gMulW) := ⟨_, op_mulW, bin_I fun _ _ _ => rep_int.mpr rfl⟩
/-- + of ints, tuples, lists, texts -/
@[simp] def gAdd : G2 := fun d e S P => match d, e with
  | .int i, .int j => P (.int (i + j)) S
  | .tup xs, .tup ys => xs.length + ys.length ≤ sizeLine ∧ P (.tup (xs ++ ys)) S
  | .str x, .str y => x.length + y.length ≤ sizeLine ∧ P (.str (x ++ y)) S
  | .ref p, .ref q => match S p, S q with
    | some (.lst xs), some (.lst ys) => xs.length + ys.length ≤ sizeLine ∧ ∀ l, S l = none → P (.ref l) (up S l (.lst (xs ++ ys)))
    | _, _ => False
  | _, _ => False
theorem Rel.get {K : Kw} {S : Store} {H : Hp} {a : Addr} {o : O} (h : Rel K S H) (e : S a = some o) : ∃ own, OK1 K H own a o := let ⟨own, _, h2⟩ := h.ex; ⟨own, h2 a o e⟩
theorem Rel.lst {K : Kw} {S : Store} {H : Hp} {a : Addr} {ds : List Dv} (h : Rel K S H) (e : S a = some (.lst ds)) : ∃ xs, H a = some (.lst xs) ∧ Reps K H ds xs := let ⟨_, _, q⟩ := h.get e; q
theorem Rel.dct {K : Kw} {S : Store} {H : Hp} {a : Addr} {ds : List (Dv × Dv)} (h : Rel K S H) (e : S a = some (.dct ds)) : DctAt K H a ds := let ⟨_, _, q⟩ := h.get e; q
theorem Rel.ins {K : Kw} {S : Store} {H : Hp} {a : Addr} {c : Str} {fs : List (Str × Dv)} (h : Rel K S H) (e : S a = some (.ins c fs)) : ∃ C dx ys, K.mg c = some (.ref C) ∧ H a = some (.ins C dx ys) ∧ Named K H fs ys := let ⟨_, _, q⟩ := h.get e; q
theorem rep_new_tup {K : Kw} {H : Hp} {p : Addr} {ds : List Dv} {xs : List V} {o : Obj} (ho : o.dict = none) (hp : H p = none) (r : Reps K H ds xs) : Rep K (upd H p (.frz o (.tup xs))) (.tup ds) (.ref p) :=
  rep_tup.mpr ⟨p, xs, rfl, .inl ⟨o, upd_same, ho⟩, Reps.keep (Keep.new hp) _ _ r⟩
/-- wanted of a new tuple -/
theorem PV.tup {K : Kw} {S : Store} {H : Hp} {P : DK} {Q : VK} {ds : List Dv} {xs : List V} (h : PV K H P Q) (r : Rel K S H) (rs : Reps K H ds xs) (q : P (.tup ds) S) : NewT H xs Q := fun _ _ hp ho =>
  h _ _ q _ _ (.new hp) (r.new hp) (rep_new_tup ho hp rs)
theorem PV.lst {K : Kw} {S : Store} {H : Hp} {P : DK} {Q : VK} {p : Addr} {ds : List Dv} {xs : List V} (h : PV K H P Q) (r : Rel K S H) (rs : Reps K H ds xs) (q : ∀ l, S l = none → P (.ref l) (up S l (.lst ds))) (hp : H p = none) : Q (.ref p) (upd H p (.lst xs)) :=
  h _ _ (q p (r.free hp)) _ _ (.new hp) (r.laid hp fun own ow => ⟨ow, xs, upd_same, Reps.keep (Keep.new hp) _ _ rs⟩) (rep_ref.mpr rfl)
theorem o_add : OpG X (binaryOp .Add) gAdd := by
  refine ⟨_, ((op_add.or op_catN).or (op_cat.or op_add_str)), fun d e S P q v u H Q r rv ru hp => ?_⟩
  unfold gAdd at q
  split at q
  · exact .inl (.inl ⟨_, _, rep_int.mp rv, rep_int.mp ru, hp _ _ q _ _ .refl r (rep_int.mpr rfl)⟩)
  · obtain ⟨hl, q⟩ := q
    obtain ⟨p1, xs, rfl, t1, s1⟩ := rep_tup.mp rv
    obtain ⟨p2, ys, rfl, t2, s2⟩ := rep_tup.mp ru
    refine .inl (.inr ⟨p1, p2, xs, ys, rfl, rfl, t1.t, t2.t, by rw [s1.length, s2.length]; exact hl, fun e => ?_, fun _ e => ?_, fun _ _ => ?_⟩)
    · subst e
      have := s1.append s2
      exact hp _ _ q _ _ .refl r (rep_tup.mpr ⟨p2, ys, rfl, t2, by simpa using this⟩)
    · subst e
      have := s1.append s2
      exact hp _ _ q _ _ .refl r (rep_tup.mpr ⟨p1, xs, rfl, t1, by simpa using this⟩)
    · exact hp.tup r (s1.append s2) q
  · exact .inr (.inr ⟨_, _, rep_str.mp rv, rep_str.mp ru, q.1, hp _ _ q.2 _ _ .refl r (rep_str.mpr rfl)⟩)
  · rename_i p1 p2
    split at q
    · rename_i e1 e2
      obtain ⟨xs, h1, s1⟩ := r.lst e1
      obtain ⟨ys, h2, s2⟩ := r.lst e2
      exact .inr (.inl ⟨p1, p2, xs, ys, rep_ref.mp rv, rep_ref.mp ru, h1, h2, by rw [s1.length, s2.length]; exact q.1, fun p hpn => hp.lst r (s1.append s2) q.2 hpn⟩)
    · exact q.elim
  · exact q.elim
/-- -a -/
@[simp] def gNeg : Dv → Store → DK → Prop := fun d S P => match d with | .int i => P (.int (-i)) S | _ => False
@[simp] def dUn (g : Dv → Store → DK → Prop) (ta : DTE) : DTE := fun δ S P => ta δ S fun d S1 => g d S1 P
theorem de_neg (ha : DE X H0 a ta) : DE X H0 (.UnaryOp .USub a pos) (dUn gNeg ta) := (pe_un un_neg ha).to fun σ H Q h => by
  obtain ⟨δ, S, P, w, ht, hp⟩ := h
  refine ⟨δ, S, _, w, ht, fun d S1 q v H1 k1 r1 p1 => ?_⟩
  unfold gNeg at q
  split at q
  · exact ⟨_, rep_int.mp p1, hp _ _ q _ _ k1 r1 (rep_int.mpr rfl)⟩
  · exact q.elim

/-! ### comparisons -/
@[simp] def gCmp (f : Int → Int → Bool) : G2 := gI0 fun i j => .bl (f i j)
theorem bin_cmp {K : Kw} {f : Int → Int → Bool} : Bin K (gCmp f) (rI0 fun i j => .bl (f i j)) := bin_I0 fun _ _ _ => rep_bl.mpr rfl
theorem c_lt : OpG X (compareOp .Lt) ((gCmp fun i j => decide (i < j))) := ⟨_, op_lt, bin_cmp⟩
theorem c_le : OpG X (compareOp .LtE) ((gCmp fun i j => decide (i ≤ j))) := ⟨_, op_le, bin_cmp⟩
theorem c_gt : OpG X (compareOp .Gt) ((gCmp fun i j => decide (j < i))) := ⟨_, op_gt, bin_cmp⟩
theorem c_ge : OpG X (compareOp .GtE) ((gCmp fun i j => decide (j ≤ i))) := ⟨_, op_ge, bin_cmp⟩
end
end Sb

/-! Rules over data: tests, equality, displays, subscripts, calls. -/
namespace Sb
open PySem PySem.Spec L2

/-! ### what a value is as data -/
mutual
@[simp] def datE (f : Addr → Option PyData) : Dv → Option PyData
  | .non => some .none
  | .bl b => some (.bool b)
  | .int i => some (.int i)
  | .str x => some (.str x)
  | .ty _ => none
  | .ref a => f a
  | .tup ds => (datEs f ds).map .tuple
  | .scr ns => some (.list (ns.map .int))
@[simp] def datEs (f : Addr → Option PyData) : List Dv → Option (List PyData)
  | [] => some []
  | d :: ds => (datE f d).bind fun x => (datEs f ds).map fun xs => x :: xs
end
def res (S : Store) : Nat → Addr → Option PyData
  | 0, _ => none
  | n + 1, a => match S a with
    | some (.lst ds) => (datEs (res S n) ds).map .list
    | _ => none
/-- the data of a value, lists in lists at most four deep -/
def dat (S : Store) (d : Dv) : Option PyData := datE (res S 4) d
section
variable {K : Kw} {H0 : Hp} {S : Store} {H : Hp}
theorem dp_ints : ∀ ns : List Int, DpAll K H (ns.map V.int) (ns.map PyData.int)
  | [] => .nil
  | n :: ns => .cons (.int n) (dp_ints ns)
mutual
theorem dp_of {f : Addr → Option PyData} (hf : ∀ a x, f a = some x → Dp K H (.ref a) x) : ∀ (d : Dv) (v : V) (x : PyData), datE f d = some x → Rep K H d v → Dp K H v x
  | .non, v, x, e, r => by simp only [datE, Option.some.injEq] at e; rw [rep_non.mp r, ← e]; exact .non
  | .bl b, v, x, e, r => by simp only [datE, Option.some.injEq] at e; rw [rep_bl.mp r, ← e]; exact .bl b
  | .int b, v, x, e, r => by simp only [datE, Option.some.injEq] at e; rw [rep_int.mp r, ← e]; exact .int b
  | .str b, v, x, e, r => by simp only [datE, Option.some.injEq] at e; rw [rep_str.mp r, ← e]; exact .str b
  | .ty n, v, x, e, r => by simp [datE] at e
  | .ref a, v, x, e, r => by simp only [datE] at e; rw [rep_ref.mp r]; exact hf a x e
  | .scr ns, v, x, e, r => by
    simp only [datE, Option.some.injEq] at e
    obtain ⟨a, rfl, q⟩ := rep_scr.mp r
    rw [← e]; exact .lst q.l (dp_ints ns)
  | .tup ds, v, x, e, r => by
    simp only [datE] at e
    obtain ⟨xs, e1, rfl⟩ := Option.map_eq_some_iff.mp e
    obtain ⟨a, ys, rfl, q, rs⟩ := rep_tup.mp r
    exact .tup q.t (dps_of hf ds ys xs e1 rs)
theorem dps_of {f : Addr → Option PyData} (hf : ∀ a x, f a = some x → Dp K H (.ref a) x) : ∀ (ds : List Dv) (vs : List V) (xs : List PyData), datEs f ds = some xs → Reps K H ds vs → DpAll K H vs xs
  | [], vs, xs, e, r => by simp only [datEs, Option.some.injEq] at e; rw [r.nil_inv, ← e]; exact .nil
  | d :: ds, vs, xs, e, r => by
    simp only [datEs] at e
    obtain ⟨x, e1, e2⟩ := Option.bind_eq_some_iff.mp e
    obtain ⟨xs', e3, rfl⟩ := Option.map_eq_some_iff.mp e2
    obtain ⟨y, ys, rfl, r1, r2⟩ := r.cons_inv
    exact .cons (dp_of hf d y x e1 r1) (dps_of hf ds ys xs' e3 r2)
end
theorem dp_res (r : Rel K S H) : ∀ (n : Nat) (a : Addr) (x : PyData), res S n a = some x → Dp K H (.ref a) x
  | 0, _, _, e => by simp [res] at e
  | n + 1, a, x, e => by
    simp only [res] at e
    split at e
    · rename_i ds e0
      obtain ⟨xs, e1, rfl⟩ := Option.map_eq_some_iff.mp e
      obtain ⟨ys, h, rs⟩ := r.lst e0
      exact .lst (.of h) (dps_of (dp_res r n) ds ys xs e1 rs)
    · cases e
theorem dp_dat (r : Rel K S H) {d : Dv} {v : V} {x : PyData} (e : dat S d = some x) (p : Rep K H d v) : Dp K H v x := dp_of (dp_res r 4) d v x e p
end

section
variable {X : Cx} {H0 : Hp} {a b c : Expr} {ta tb tc : DTE} {pos : Pos}
/-! ### ==, in -/
/-- values that the rule of scalars compares -/
def scl : Dv → Dv → Bool
  | .non, .non => true | .non, .int _ => true | .int _, .non => true | .non, .bl _ => true | .bl _, .non => true | .non, .str _ => true | .str _, .non => true
  | .int _, .int _ => true | .bl _, .bl _ => true | .str _, .str _ => true | .int _, .str _ => true | .str _, .int _ => true | .bl _, .str _ => true | .str _, .bl _ => true
  | _, _ => false
theorem scl_rep {K : Kw} {H : Hp} {d e : Dv} {v u : V} (h : scl d e = true) (r1 : Rep K H d v) (r2 : Rep K H e u) : scal v u = true ∧ (v = u ↔ d = e) := by
  cases d <;> cases e <;> first | exact absurd (show false = true from h) Bool.false_ne_true | skip
  all_goals first
    | (have r1 := rep_non.mp r1) | (have r1 := rep_bl.mp r1) | (have r1 := rep_int.mp r1) | (have r1 := rep_str.mp r1)
  all_goals first
    | (have r2 := rep_non.mp r2) | (have r2 := rep_bl.mp r2) | (have r2 := rep_int.mp r2) | (have r2 := rep_str.mp r2)
  all_goals subst r1 r2; simp [scal]
open Classical in
def gEqF (f : Bool → Bool) : G2 := fun d e S P => if scl d e = true then P (.bl (f (decide (d = e)))) S else match dat S d, dat S e with
  | some x, some y => SeqAt.shaped x = true ∧ SeqAt.shaped y = true ∧ P (.bl (f (PyData.eqv x y))) S
  | _, _ => False
abbrev gEq : G2 := gEqF id
abbrev gNe : G2 := gEqF not
open Classical in
theorem c_eq (hu : X.A.units + 64 < cLine) : OpG X (compareOp .Eq) gEq := ⟨_, op_eq.or (op_eqD hu), fun d e S P q v u H Q r rv ru hp => by
  unfold gEq gEqF at q
  split at q
  · rename_i h
    obtain ⟨h1, h2⟩ := scl_rep h rv ru
    refine .inl ⟨h1, hp _ _ q _ _ .refl r (rep_bl.mpr ?_)⟩
    simp [h2]
  split at q
  · rename_i x y e1 e2
    exact .inr ⟨x, y, dp_dat r e1 rv, dp_dat r e2 ru, q.1, q.2.1, hp _ _ q.2.2 _ _ .refl r (rep_bl.mpr rfl)⟩
  · exact q.elim⟩
open Classical in
theorem c_ne (hu : X.A.units + 64 < cLine) : OpG X (compareOp .NotEq) gNe := ⟨_, op_ne.or (op_neD hu), fun d e S P q v u H Q r rv ru hp => by
  unfold gNe gEqF at q
  split at q
  · rename_i h
    obtain ⟨h1, h2⟩ := scl_rep h rv ru
    refine .inl ⟨h1, hp _ _ q _ _ .refl r (rep_bl.mpr ?_)⟩
    simp [h2]
  split at q
  · rename_i x y e1 e2
    exact .inr ⟨x, y, dp_dat r e1 rv, dp_dat r e2 ru, q.1, q.2.1, hp _ _ q.2.2 _ _ .refl r (rep_bl.mpr rfl)⟩
  · exact q.elim⟩
/-- in a list or a tuple -/
def gInF (f : Bool → Bool) : G2 := fun d e S P => match dat S d, dat S e with
  | some x, some (.list ys) => SeqAt.shaped x = true ∧ SeqAt.shaped (.list ys) = true ∧ P (.bl (f (ys.any fun z => PyData.eqv z x))) S
  | some x, some (.tuple ys) => SeqAt.shaped x = true ∧ SeqAt.shaped (.tuple ys) = true ∧ P (.bl (f (ys.any fun z => PyData.eqv z x))) S
  | _, _ => False
def rInT (f : Bool → Bool) (K : Kw) : R2 := fun x y H Q => ∃ d ds, Dp K H x d ∧ Dp K H y (.tuple ds) ∧ SeqAt.shaped d = true ∧ SeqAt.shaped (.tuple ds) = true ∧ Q (.bl (f (ds.any fun z => PyData.eqv z d))) H
theorem o_inT (hu : X.A.units + 65 < cLine) : OpR X (compareOp .In) (rInT id X.kw) := by
  intro pins s σ H x y v u Q I rx ry h
  obtain ⟨d, ds, hd, he, sd, se, q⟩ := h
  obtain ⟨_, r1⟩ := Dp.reads I d x v hd rx
  obtain ⟨_, r2⟩ := Dp.reads I (.tuple ds) y u he ry
  refine SeqAt.in_tuple_reads r2 r1 (SeqAt.canLay_of_shaped se) (SeqAt.canLay_of_shaped sd) ?_ ⟨.bl _, H, I, rfl, q⟩
  exact PyProof.Rows.room_in_shaped sd hu
theorem o_notInT (hu : X.A.units + 65 < cLine) : OpR X (compareOp .NotIn) (rInT not X.kw) := by
  intro pins s σ H x y v u Q I rx ry h
  obtain ⟨d, ds, hd, he, sd, se, q⟩ := h
  obtain ⟨_, r1⟩ := Dp.reads I d x v hd rx
  obtain ⟨_, r2⟩ := Dp.reads I (.tuple ds) y u he ry
  refine SeqAt.notIn_tuple_reads r2 r1 (SeqAt.canLay_of_shaped se) (SeqAt.canLay_of_shaped sd) ?_ ⟨.bl _, H, I, rfl, q⟩
  exact PyProof.Rows.room_in_shaped sd hu
theorem c_in (hu : X.A.units + 65 < cLine) : OpG X (compareOp .In) (gInF id) := ⟨_, (op_inD hu).or (o_inT hu), fun d e S P q v u H Q r rv ru hp => by
  unfold gInF at q
  split at q
  · rename_i x y e1 e2
    exact .inl ⟨x, y, dp_dat r e1 rv, dp_dat r e2 ru, q.1, q.2.1, hp _ _ q.2.2 _ _ .refl r (rep_bl.mpr rfl)⟩
  · rename_i x y e1 e2
    exact .inr ⟨x, y, dp_dat r e1 rv, dp_dat r e2 ru, q.1, q.2.1, hp _ _ q.2.2 _ _ .refl r (rep_bl.mpr rfl)⟩
  · exact q.elim⟩
theorem c_notIn (hu : X.A.units + 65 < cLine) : OpG X (compareOp .NotIn) (gInF not) := ⟨_, (op_notInD hu).or (o_notInT hu), fun d e S P q v u H Q r rv ru hp => by
  unfold gInF at q
  split at q
  · rename_i x y e1 e2
    exact .inl ⟨x, y, dp_dat r e1 rv, dp_dat r e2 ru, q.1, q.2.1, hp _ _ q.2.2 _ _ .refl r (rep_bl.mpr rfl)⟩
  · rename_i x y e1 e2
    exact .inr ⟨x, y, dp_dat r e1 rv, dp_dat r e2 ru, q.1, q.2.1, hp _ _ q.2.2 _ _ .refl r (rep_bl.mpr rfl)⟩
  · exact q.elim⟩

/-! ### tests -/
/-- a truth value as a test -/
@[simp] def dB (t : DTE) : DTT := fun δ S P => t δ S fun d S1 => match d with | .bl c => P c S1 | _ => False
theorem b_lift {K : Kw} {t : DTE} : ∀ σ H Q, liftT K H0 (dB t) σ H Q → tB (liftE K H0 t) σ H Q := fun σ H Q h => by
  obtain ⟨δ, S, P, w, ht, hp⟩ := h
  refine ⟨δ, S, _, w, ht, fun d S1 q v H1 k1 r1 p1 => ?_⟩
  split at q
  · exact ⟨_, rep_bl.mp p1, hp _ _ q _ k1 r1⟩
  · exact q.elim
theorem dt_val {e : Expr} {t : DTE} (h : DE X H0 e t) (he : ∀ whole, isTrue e X.env whole = (do let v ← whole; standAt e.pos; holding [v] (truthy v)) := by intro _; rfl) : DT X H0 e (dB t) := (pt_val h he).to b_lift
theorem dt_cmp {op : CmpOp} {g : G2} (o : OpG X (compareOp op) g) (ha : DE X H0 a ta) (hb : DE X H0 b tb) (h1 : behindInMarks op b = false := by first | exact nobehind _ (by decide) (by decide) | rfl) : DT X H0 (.Compare a [op] [b] pos) (dB (dBin g ta tb)) :=
  let ⟨_, h1', h2⟩ := o
  (pt_cmpR h1' ha hb h1).to fun σ H Q h => by
    obtain ⟨δ, S, P, w, ht, hp⟩ := h
    refine bin_lift h2 σ H _ ⟨δ, S, _, w, ht, fun d S1 q v H1 k1 r1 p1 => ?_⟩
    split at q
    · exact ⟨_, rep_bl.mp p1, hp _ _ q _ k1 r1⟩
    · exact q.elim
@[simp] def dChain (g g' : G2) (ta tb tc : DTE) : DTE := fun δ S P => ta δ S fun x S1 => tb δ S1 fun y S2 => g x y S2 fun z S3 => match z with
  | .bl true => tc δ S3 fun w S4 => g' y w S4 P
  | .bl false => P (.bl false) S3
  | _ => False
theorem chain_lift {K : Kw} {g g' : G2} {r r' : R2} (h : Bin K g r) (h' : Bin K g' r') : ∀ σ H Q, liftE K H0 (dChain g g' ta tb tc) σ H Q → tChain r r' (liftE K H0 ta) (liftE K H0 tb) (liftE K H0 tc) σ H Q := fun σ H Q q => by
  obtain ⟨δ, S, P, w, ht, hp⟩ := q
  refine ⟨δ, S, _, w, ht, fun d S1 q1 v H1 k1 r1 p1 => ⟨δ, S1, _, w.keep k1 r1, q1, fun e S2 q2 u H2 k2 r2 p2 => ?_⟩⟩
  refine h d e S2 _ q2 v u H2 _ r2 (p1.keep k2) p2 fun z S3 q3 zv H3 k3 r3 p3 => ?_
  dsimp only at q3
  split at q3
  · exact ⟨true, rep_bl.mp p3, δ, S3, _, (w.keep (k1.trans (k2.trans k3)) r3), q3, fun e4 S4 q4 v4 H4 k4 r4 p4 =>
      h' e e4 S4 P q4 u v4 H4 Q r4 (p2.keep (k3.trans k4)) p4 (hp.keep (k1.trans (k2.trans (k3.trans k4))))⟩
  · exact ⟨false, rep_bl.mp p3, hp _ _ q3 _ _ (k1.trans (k2.trans k3)) r3 (rep_bl.mpr rfl)⟩
  · exact q3.elim
theorem de_chain {op op' : CmpOp} {g g' : G2} (o : OpG X (compareOp op) g) (o' : OpG X (compareOp op') g') (ha : DE X H0 a ta) (hb : DE X H0 b tb) (hc : DE X H0 c tc) (hm : lastMarks [op, op'] [b, c] = false := by with_unfolding_all rfl) :
    DE X H0 (.Compare a [op, op'] [b, c] pos) (dChain g g' ta tb tc) := let ⟨_, h1, h2⟩ := o; let ⟨_, h1', h2'⟩ := o'; (pe_chain h1 h1' ha hb hc hm).to (chain_lift h2 h2')
theorem dt_chain {op op' : CmpOp} {g g' : G2} (o : OpG X (compareOp op) g) (o' : OpG X (compareOp op') g') (ha : DE X H0 a ta) (hb : DE X H0 b tb) (hc : DE X H0 c tc) (hm : lastMarks [op, op'] [b, c] = false := by with_unfolding_all rfl) :
    DT X H0 (.Compare a [op, op'] [b, c] pos) (dB (dChain g g' ta tb tc)) := let ⟨_, h1, h2⟩ := o; let ⟨_, h1', h2'⟩ := o'; (pt_chain h1 h1' ha hb hc hm).to fun σ H Q h => by
    obtain ⟨δ, S, P, w, ht, hp⟩ := h
    refine chain_lift h2 h2' σ H _ ⟨δ, S, _, w, ht, fun d S1 q v H1 k1 r1 p1 => ?_⟩
    split at q
    · exact ⟨_, rep_bl.mp p1, hp _ _ q _ k1 r1⟩
    · exact q.elim
variable {tA tB' : DTT} {rest : List Expr}
@[simp] def dAnd (t u : DTT) : DTT := fun δ S P => t δ S fun c S1 => if c = true then u δ S1 P else P false S1
@[simp] def dOr (t u : DTT) : DTT := fun δ S P => t δ S fun c S1 => if c = true then P true S1 else u δ S1 P
@[simp] def dNot (t : DTT) : DTT := fun δ S P => t δ S fun c S1 => P (!c) S1
theorem dw_and1 (ha : DT X H0 a tA) : DW X H0 (.BoolOp .And [a] pos) tA := pw_and1 ha
theorem dw_or1 (ha : DT X H0 a tA) : DW X H0 (.BoolOp .Or [a] pos) tA := pw_or1 ha
theorem dw_and (ha : DT X H0 a tA) (hb : DW X H0 (.BoolOp .And (b :: rest) pos) tB') : DW X H0 (.BoolOp .And (a :: b :: rest) pos) (dAnd tA tB') := (pw_and ha hb).to fun σ H Q h => by
  obtain ⟨δ, S, P, w, ht, hp⟩ := h
  refine ⟨δ, S, _, w, ht, fun c S1 q H1 k1 r1 => ?_⟩
  cases c with
  | true => exact ⟨δ, S1, P, w.keep k1 r1, q, fun b S2 p H2 k2 r2 => hp b S2 p H2 (k1.trans k2) r2⟩
  | false => exact hp _ _ q _ k1 r1
theorem dw_or (ha : DT X H0 a tA) (hb : DW X H0 (.BoolOp .Or (b :: rest) pos) tB') : DW X H0 (.BoolOp .Or (a :: b :: rest) pos) (dOr tA tB') := (pw_or ha hb).to fun σ H Q h => by
  obtain ⟨δ, S, P, w, ht, hp⟩ := h
  refine ⟨δ, S, _, w, ht, fun c S1 q H1 k1 r1 => ?_⟩
  cases c with
  | false => exact ⟨δ, S1, P, w.keep k1 r1, q, fun b S2 p H2 k2 r2 => hp b S2 p H2 (k1.trans k2) r2⟩
  | true => exact hp _ _ q _ k1 r1
theorem dt_not (ha : DT X H0 a tA) : DT X H0 (.UnaryOp .Not a pos) (dNot tA) := (pt_not ha).to fun σ H Q h => by
  obtain ⟨δ, S, P, w, ht, hp⟩ := h
  exact ⟨δ, S, _, w, ht, fun c S1 q H1 k1 r1 => hp _ _ q _ k1 r1⟩
/-- and, or, not as values: all parts truth values -/
@[simp] def dAndV (t u : DTE) : DTE := fun δ S P => t δ S fun d S1 => match d with | .bl true => u δ S1 P | .bl false => P (.bl false) S1 | _ => False
@[simp] def dOrV (t u : DTE) : DTE := fun δ S P => t δ S fun d S1 => match d with | .bl false => u δ S1 P | .bl true => P (.bl true) S1 | _ => False
@[simp] def dNotV (t : DTE) : DTE := fun δ S P => t δ S fun d S1 => match d with | .bl c => P (.bl (!c)) S1 | _ => False
theorem de_one {op} (h : DE X H0 a ta) : DE X H0 (.BoolOp op [a] pos) ta := pe_one h
theorem de_and (ha : DE X H0 a ta) (hb : DE X H0 (.BoolOp .And (b :: rest) pos) tb) : DE X H0 (.BoolOp .And (a :: b :: rest) pos) (dAndV ta tb) := (pe_and ha hb).to fun σ H Q h => by
  obtain ⟨δ, S, P, w, ht, hp⟩ := h
  refine ⟨δ, S, _, w, ht, fun d S1 q v H1 k1 r1 p1 => ?_⟩
  split at q
  · exact ⟨true, rep_bl.mp p1, δ, S1, P, w.keep k1 r1, q, hp.keep k1⟩
  · exact ⟨false, rep_bl.mp p1, hp _ _ q _ _ k1 r1 (rep_bl.mpr rfl)⟩
  · exact q.elim
theorem de_or (ha : DE X H0 a ta) (hb : DE X H0 (.BoolOp .Or (b :: rest) pos) tb) : DE X H0 (.BoolOp .Or (a :: b :: rest) pos) (dOrV ta tb) := (pe_or ha hb).to fun σ H Q h => by
  obtain ⟨δ, S, P, w, ht, hp⟩ := h
  refine ⟨δ, S, _, w, ht, fun d S1 q v H1 k1 r1 p1 => ?_⟩
  split at q
  · exact ⟨false, rep_bl.mp p1, δ, S1, P, w.keep k1 r1, q, hp.keep k1⟩
  · exact ⟨true, rep_bl.mp p1, hp _ _ q _ _ k1 r1 (rep_bl.mpr rfl)⟩
  · exact q.elim
theorem de_not (ha : DE X H0 a ta) : DE X H0 (.UnaryOp .Not a pos) (dNotV ta) := (pe_not ha).to fun σ H Q h => by
  obtain ⟨δ, S, P, w, ht, hp⟩ := h
  refine ⟨δ, S, _, w, ht, fun d S1 q v H1 k1 r1 p1 => ?_⟩
  split at q
  · exact ⟨_, rep_bl.mp p1, hp _ _ q _ _ k1 r1 (rep_bl.mpr rfl)⟩
  · exact q.elim
@[simp] def dIf (t : DTT) (u v : DTE) : DTE := fun δ S P => t δ S fun c S1 => if c = true then u δ S1 P else v δ S1 P
theorem de_if (hc : DT X H0 c tA) (ha : DE X H0 a ta) (hb : DE X H0 b tb) : DE X H0 (.IfExp c a b pos) (dIf tA ta tb) := (pe_ifExp hc ha hb).to fun σ H Q h => by
  obtain ⟨δ, S, P, w, ht, hp⟩ := h
  refine ⟨δ, S, _, w, ht, fun c S1 q H1 k1 r1 => ?_⟩
  cases c with
  | true => exact ⟨δ, S1, P, w.keep k1 r1, q, hp.keep k1⟩
  | false => exact ⟨δ, S1, P, w.keep k1 r1, q, hp.keep k1⟩
/-- is None, is not None -/
def gIsN (f : Bool → Bool) : G2 := fun d e S P => match d, e with
  | .non, .non => P (.bl (f true)) S
  | _, .non => P (.bl (f false)) S
  | _, _ => False

/-! ### argument lists, displays -/
@[simp] def dNil : DTA := fun _ S P => P [] S
@[simp] def dCons (t : DTE) (u : DTA) : DTA := fun δ S P => t δ S fun d S1 => u δ S1 fun ds S2 => P (d :: ds) S2
variable {e : Expr} {es : List Expr} {te : DTE} {t : DTA}
theorem da_nil : DA X H0 [] dNil := pa_nil.to fun σ H Q h => by
  obtain ⟨δ, S, P, w, ht, hp⟩ := h
  exact hp _ _ ht _ _ .refl w.rel .nil
theorem da_cons (ha : DE X H0 e te) (hr : DA X H0 es t) (hs : starEach (e :: es) X.env = (false, eval e X.env) :: starEach es X.env := by rfl) : DA X H0 (e :: es) (dCons te t) := (pa_cons ha hr hs).to fun σ H Q h => by
  obtain ⟨δ, S, P, w, ht, hp⟩ := h
  exact ⟨δ, S, _, w, ht, fun d S1 q v H1 k1 r1 p1 => ⟨δ, S1, _, w.keep k1 r1, q, fun ds S2 q2 vs H2 k2 r2 p2 => hp _ _ q2 _ _ (k1.trans k2) r2 (.cons (p1.keep k2) p2)⟩⟩
@[simp] def dTup (t : DTA) : DTE := fun δ S P => t δ S fun ds S1 => ds.length ≤ sizeLine ∧ P (.tup ds) S1
@[simp] def dLst (t : DTA) : DTE := fun δ S P => t δ S fun ds S1 => ds.length ≤ sizeLine ∧ ∀ l, S1 l = none → P (.ref l) (up S1 l (.lst ds))
theorem de_tup {x1} (h : DA X H0 es t) : DE X H0 (.Tuple es x1 pos) (dTup t) := (pe_tupN h).to fun σ H Q q => by
  obtain ⟨δ, S, P, w, ht, hp⟩ := q
  exact ⟨δ, S, _, w, ht, fun ds S1 q vs H1 k1 r1 p1 => ⟨by rw [p1.length]; exact q.1, (hp.keep k1).tup r1 p1 q.2⟩⟩
theorem de_lst (h : DA X H0 es t) : DE X H0 (.List es pos) (dLst t) := (pe_lst h).to fun σ H Q q => by
  obtain ⟨δ, S, P, w, ht, hp⟩ := q
  exact ⟨δ, S, _, w, ht, fun ds S1 q vs H1 k1 r1 p1 => ⟨by rw [p1.length]; exact q.1, fun p hpn => (hp.keep k1).lst r1 p1 q.2 hpn⟩⟩

/-! ### subscripts -/
/-- the items of a sequence -/
@[simp] def sq (S : Store) : Dv → Option (List Dv)
  | .tup ds => some ds
  | .ref a => match S a with | some (.lst ds) => some ds | _ => none
  | .scr ns => some (ns.map .int)
  | _ => none
@[simp] def gIx : G2 := fun d e S P => match sq S d, e with
  | some ds, .int i => (match atI ds i with | some x => P x S | none => False)
  | _, _ => False
theorem sq_seq {K : Kw} {S : Store} {H : Hp} {d : Dv} {v : V} {ds : List Dv} (r : Rel K S H) (e : sq S d = some ds) (p : Rep K H d v) : ∃ a xs, v = .ref a ∧ (SqL K H a xs ∨ SqN K H a xs) ∧ Reps K H ds xs := by
  cases d with
  | tup ds' => simp only [sq, Option.some.injEq] at e; subst e; obtain ⟨a, xs, rfl, q, rs⟩ := rep_tup.mp p; exact ⟨a, xs, rfl, .inr q, rs⟩
  | ref a =>
    simp only [sq] at e
    split at e
    · rename_i ds' e0; simp only [Option.some.injEq] at e; subst e
      obtain ⟨xs, h, rs⟩ := r.lst e0
      exact ⟨a, xs, rep_ref.mp p, .inl (.of h), rs⟩
    · cases e
  | scr ns => simp only [sq, Option.some.injEq] at e; subst e; obtain ⟨a, rfl, q⟩ := rep_scr.mp p; exact ⟨a, _, rfl, .inl q.l, Reps.ints ns⟩
  | _ => simp [sq] at e
theorem reps_at {K : Kw} {H : Hp} {ds : List Dv} {xs : List V} {i : Int} {x : Dv} (rs : Reps K H ds xs) (e : atI ds i = some x) : ∃ y, atI xs i = some y ∧ Rep K H x y := by
  unfold atI at e ⊢
  rw [rs.length]
  obtain ⟨j, e1, e2⟩ := Option.bind_eq_some_iff.mp e
  obtain ⟨y, e3, r⟩ := rs.get e2
  exact ⟨y, by rw [e1]; exact e3, r⟩
theorem ix_lift {K : Kw} : Bin K gIx (fun x y H Q => rIxL K x y H Q ∨ rIxT K x y H Q) := fun d e S P q v u H Q r rv ru hp => by
  unfold gIx at q
  split at q
  · rename_i ds i e0
    split at q
    · rename_i x e1
      obtain ⟨a, xs, rfl, hq, rs⟩ := sq_seq r e0 rv
      obtain ⟨y, e2, ry⟩ := reps_at rs e1
      have fin := hp _ _ q _ _ .refl r ry
      rcases hq with hq | hq
      · exact .inl ⟨a, xs, i, y, rfl, rep_int.mp ru, hq, e2, fin⟩
      · exact .inr ⟨a, xs, i, y, rfl, rep_int.mp ru, hq.t, e2, fin⟩
    · exact q.elim
  · exact q.elim
theorem de_ix (ha : DE X H0 a ta) (hb : DE X H0 b tb) (hs : PlainIx b := by exact fun _ _ => rfl) : DE X H0 (.Subscript a b pos) (dBin gIx ta tb) := (pe_ix (ix_list.or ix_tup) ha hb hs).to (bin_lift ix_lift)
/-! slices -/
abbrev DTO := DSt → Store → (Option Int → Store → Prop) → Prop
def liftO (K : Kw) (H0 : Hp) (t : DTO) : TO := fun σ H Q => ∃ δ S P, Wd K H0 σ δ S H ∧ t δ S P ∧ ∀ b S', P b S' → ∀ H', Keep K H H' → Rel K S' H' → Q b H'
@[simp] def dNoPart : DTO := fun _ S P => P none S
@[simp] def dPart (t : DTE) : DTO := fun δ S P => t δ S fun d S1 => match d with | .int i => P (some i) S1 | _ => False
theorem _root_.L2.PO.to {X : Cx} {e : Option Expr} {t t' : TO} (h : PO X e t) (i : ∀ σ H Q, t' σ H Q → t σ H Q) : PO X e t' := ⟨fun pins s σ H Q I q => h.run pins s σ H Q I (i σ H Q q)⟩
theorem do_none : PO X none (liftO X.kw H0 dNoPart) := po_none.to fun σ H Q h => by
  obtain ⟨δ, S, P, w, ht, hp⟩ := h
  exact hp _ _ ht _ .refl w.rel
theorem do_some (h : DE X H0 e te) : PO X (some e) (liftO X.kw H0 (dPart te)) := (po_some h).to fun σ H Q h => by
  obtain ⟨δ, S, P, w, ht, hp⟩ := h
  refine ⟨δ, S, _, w, ht, fun d S1 q v H1 k1 r1 p1 => ?_⟩
  split at q
  · exact ⟨_, rep_int.mp p1, hp _ _ q _ k1 r1⟩
  · exact q.elim
/-- the items of a slice -/
def cutD (xs : List Dv) (lo hi : Option Int) : List Dv := (xs.drop (HT.sIx xs.length 0 lo)).take (HT.sIx xs.length xs.length hi - HT.sIx xs.length 0 lo)
theorem cutD_length (xs : List Dv) (lo hi : Option Int) : (cutD xs lo hi).length ≤ xs.length := by unfold cutD; rw [List.length_take, List.length_drop]; omega
theorem reps_cut {K : Kw} {H : Hp} {ds : List Dv} {xs : List V} (r : Reps K H ds xs) (lo hi : Option Int) : Reps K H (cutD ds lo hi) (cutV xs lo hi) := by
  unfold cutD cutV
  rw [r.length]
  exact (r.drop _).take _
@[simp] def gSl (d : Dv) (lo hi : Option Int) (S : Store) (P : DK) : Prop := match d with
  | .tup ds => P (.tup (cutD ds lo hi)) S
  | .ref a => match S a with | some (.lst ds) => ∀ l, S l = none → P (.ref l) (up S l (.lst (cutD ds lo hi))) | _ => False
  | .scr ns => ∀ l, S l = none → P (.ref l) (up S l (.lst (cutD (ns.map .int) lo hi)))
  | _ => False
@[simp] def dSl (te : DTE) (tl th : DTO) : DTE := fun δ S P => te δ S fun d S1 => tl δ S1 fun lo S2 => th δ S2 fun hi S3 => gSl d lo hi S3 P
theorem de_sl {lo hi : Option Expr} {tl th : DTO} {p2 : Pos} (he : DE X H0 e te) (hl : PO X lo (liftO X.kw H0 tl)) (hh : PO X hi (liftO X.kw H0 th)) : DE X H0 (.Subscript e (.Slice lo hi none p2) pos) (dSl te tl th) :=
  (pe_slice (sl_list.or sl_tupN) he hl hh).to fun σ H Q h => by
  obtain ⟨δ, S, P, w, ht, hp⟩ := h
  refine ⟨δ, S, _, w, ht, fun d S1 q v H1 k1 r1 p1 => ⟨δ, S1, _, w.keep k1 r1, q, fun l S2 q2 H2 k2 r2 => ⟨δ, S2, _, w.keep (k1.trans k2) r2, q2, fun u S3 q3 H3 k3 r3 => ?_⟩⟩⟩
  have p3 := p1.keep (k2.trans k3)
  have hp3 := hp.keep (k1.trans (k2.trans k3))
  unfold gSl at q3
  split at q3
  · obtain ⟨a, xs, rfl, hq, rs⟩ := rep_tup.mp p3
    refine .inr ⟨a, xs, rfl, hq.t, fun z => ?_, fun _ => hp3.tup r3 (reps_cut rs _ _) q3⟩
    refine hp3 _ _ q3 _ _ .refl r3 (rep_tup.mpr ⟨a, xs, rfl, hq, ?_⟩)
    have e : cutV xs l u = xs := by
      unfold cutV
      rw [z.1, z.2]
      simp
    have := reps_cut rs l u
    rw [e] at this
    exact this
  · split at q3
    · rename_i ds e0
      obtain ⟨xs, h, rs⟩ := r3.lst e0
      exact .inl ⟨_, xs, rep_ref.mp p3, .of h, fun p hpn => hp3.lst r3 (reps_cut rs _ _) q3 hpn⟩
    · exact q3.elim
  · obtain ⟨a, rfl, hq⟩ := rep_scr.mp p3
    exact .inl ⟨a, _, rfl, hq.l, fun p hpn => hp3.lst r3 (reps_cut (Reps.ints _) _ _) q3 hpn⟩
  · exact q3.elim

/-! ### calls of built-ins -/
abbrev GA := List Dv → Store → DK → Prop
def CallG (X : Cx) (f : Value) (g : GA) : Prop := ∃ r, CallR X f r ∧ ∀ ds S P, g ds S P → ∀ vs H Q, Rel X.kw S H → Reps X.kw H ds vs → PV X.kw H P Q → r vs H Q
@[simp] def dCB (g : GA) (t : DTA) : DTE := fun δ S P => t δ S fun ds S1 => g ds S1 P
theorem cb_lift {r : List V → Hp → VK → Prop} {g : GA} (h : ∀ ds S P, g ds S P → ∀ vs H Q, Rel X.kw S H → Reps X.kw H ds vs → PV X.kw H P Q → r vs H Q) : ∀ σ H Q, liftE X.kw H0 (dCB g t) σ H Q → tCB r (liftA X.kw H0 t) σ H Q := fun σ H Q q => by
  obtain ⟨δ, S, P, w, ht, hp⟩ := q
  exact ⟨δ, S, _, w, ht, fun ds S1 q vs H1 k1 r1 p1 => h _ _ _ q _ _ _ r1 p1 (hp.keep k1)⟩
theorem de_callB {id : String} {g : GA} {x : Str} {p : Pos} (hc : CallG X (.builtin id) g) (hg : Gl X x) (hm : X.mg x = none) (hv : bootBuiltins x = some (.builtin id)) (ha : DA X H0 (e :: es) t) (hn : x ≠ "__name__" := by decide) (hdb : (x == ("__debug__" : Str)) = false := by decide)
    (he : starEach (e :: es) X.env = (false, eval e X.env) :: starEach es X.env := by rfl) (hpl : (backTo pos (starEach es X.env)).any (·.1) = false := by rfl) : DE X H0 (.Call (.Name x p) (e :: es) [] pos) (dCB g t) :=
  let ⟨_, h1, h2⟩ := hc; (pe_callB h1 hg hm hv ha hn hdb he hpl).to (cb_lift h2)
theorem de_callTy {T : String} {g : GA} {x : Str} {p : Pos} (hc : CallG X (.type T) g) (hg : Gl X x) (hm : X.mg x = none) (hv : bootBuiltins x = some (.type T)) (ha : DA X H0 (e :: es) t) (hn : x ≠ "__name__" := by decide) (hdb : (x == ("__debug__" : Str)) = false := by decide)
    (he : starEach (e :: es) X.env = (false, eval e X.env) :: starEach es X.env := by rfl) (hpl : (backTo pos (starEach es X.env)).any (·.1) = false := by rfl) : DE X H0 (.Call (.Name x p) (e :: es) [] pos) (dCB g t) :=
  let ⟨_, h1, h2⟩ := hc; (pe_callTy h1 hg hm hv ha hn hdb he hpl).to (cb_lift h2)
/-- len of a sequence -/
@[simp] def gLen : GA := fun ds S P => match ds with
  | [d] => (match sq S d with | some xs => P (.int xs.length) S | none => False)
  | _ => False
theorem reps1 {K : Kw} {H : Hp} {d : Dv} {vs : List V} (r : Reps K H [d] vs) : ∃ v, vs = [v] ∧ Rep K H d v := by
  obtain ⟨y, ys, rfl, a, b⟩ := r.cons_inv
  rw [b.nil_inv]; exact ⟨y, rfl, a⟩
theorem reps2 {K : Kw} {H : Hp} {d e : Dv} {vs : List V} (r : Reps K H [d, e] vs) : ∃ v u, vs = [v, u] ∧ Rep K H d v ∧ Rep K H e u := by
  obtain ⟨y, ys, rfl, a, b⟩ := r.cons_inv
  obtain ⟨u, rfl, c⟩ := reps1 b
  exact ⟨y, u, rfl, a, c⟩
theorem cg_len : CallG X (.builtin "len") gLen := ⟨_, call_len_seq, fun ds S P q vs H Q r rs hp => by
  unfold gLen at q
  split at q
  · rename_i d
    split at q
    · rename_i xs e0
      obtain ⟨v, rfl, rv⟩ := reps1 rs
      obtain ⟨a, ys, rfl, hq, rs'⟩ := sq_seq r e0 rv
      exact ⟨a, ys, rfl, hq.imp id SqN.t, hp _ _ q _ _ .refl r (rep_int.mpr (by rw [rs'.length]))⟩
    · exact q.elim
  · exact q.elim⟩
@[simp] def gList : GA := fun ds S P => match ds with
  | [d] => (match sq S d with | some xs => ∀ l, S l = none → P (.ref l) (up S l (.lst xs)) | none => False)
  | _ => False
theorem cg_list : CallG X (.type "list") gList := ⟨_, call_list_of, fun ds S P q vs H Q r rs hp => by
  unfold gList at q
  split at q
  · rename_i d
    split at q
    · rename_i xs e0
      obtain ⟨v, rfl, rv⟩ := reps1 rs
      obtain ⟨a, ys, rfl, hq, rs'⟩ := sq_seq r e0 rv
      exact ⟨a, ys, rfl, hq.imp id SqN.t, fun l hl => hp.lst r rs' q hl⟩
    · exact q.elim
  · exact q.elim⟩
@[simp] def gTuple : GA := fun ds S P => match ds with
  | [d] => (match sq S d with | some xs => P (.tup xs) S | none => False)
  | _ => False
theorem cg_tuple : CallG X (.type "tuple") gTuple := ⟨_, call_tupN, fun ds S P q vs H Q r rs hp => by
  unfold gTuple at q
  split at q
  · rename_i d
    split at q
    · rename_i xs e0
      obtain ⟨v, rfl, rv⟩ := reps1 rs
      obtain ⟨a, ys, rfl, hq, rs'⟩ := sq_seq r e0 rv
      rcases hq with hq | hq
      · exact ⟨a, ys, rfl, .inl ⟨hq, hp.tup r rs' q⟩⟩
      · exact ⟨a, ys, rfl, .inr ⟨hq.t, hp _ _ q _ _ .refl r (rep_tup.mpr ⟨a, ys, rfl, hq, rs'⟩)⟩⟩
    · exact q.elim
  · exact q.elim⟩
/-- repr -/
def gRepr : GA := fun ds S P => match ds with
  | [d] => (match dat S d with | some x => SeqAt.shaped x = true ∧ x.showable = true ∧ x.shown.length ≤ sizeLine ∧ P (.str x.shown) S | none => False)
  | _ => False
theorem callR_repr (hg : X.A.guards = some []) (hu : X.A.units + 100 < cLine) : CallR X (.builtin "repr") (fun xs H Q => ∃ v x, xs = [v] ∧ Dp X.kw H v x ∧ SeqAt.shaped x = true ∧ x.showable = true ∧ x.shown.length ≤ sizeLine ∧ Q (.str x.shown) H) := by
  intro pins s σ H xs us Q I rr h
  obtain ⟨v, x, rfl, hd, hsh, hs, hz, q⟩ := h
  obtain ⟨u, rfl, ru⟩ := rr.one
  obtain ⟨as, rd⟩ := Dp.reads I x v u hd ru
  have hnd := PyData.hasDict_of_canLay x (SeqAt.canLay_of_shaped hsh)
  have h64 := SeqAt.depth_of_shaped hsh
  have fin : ∀ (h' : Heap) (u tk : Tok), (∀ b o, s.heap.get? b = some o → h'.get? b = some o) → EP X pins σ Q (.str x.shown u) { s with heap := h', toks := tk } := fun h' u tk k => ⟨.str x.shown, H, I.kept k, ⟨_, rfl⟩, q⟩
  have go : ∀ a, u = .ref a → wpAny (model X.prog X.w) X.A (call (.builtin "repr") [.ref a]) (EP X pins σ Q) X.xe s := fun a ea => by
    subst ea
    exact repr_of_reads' (h₀ := s.heap) rd hs (PyData.noDict_hsm hnd) hg (by omega) (fun _ _ z => z) fin hz
  cases rd with
  | none => simp only [PyData.shown] at fin; exact PySem.P.repr_of_none (fin s.heap _ _ fun _ _ z => z)
  | bool b => simp only [PyData.shown] at fin; exact PySem.P.repr_of_bool (fin s.heap _ _ fun _ _ z => z)
  | int i t => simp only [PyData.shown] at fin; exact PySem.P.repr_of_int (by simpa [PyData.showable] using hs) (fin s.heap _ _ fun _ _ z => z)
  | str y t => simp only [PyData.shown] at fin; exact PySem.P.repr_of_str (fin s.heap _ _ fun _ _ z => z) (by simpa only [PyData.shown] using hz)
  | list h1 h2 h3 h4 => exact go _ rfl
  | tuple h1 h2 h3 h4 => exact go _ rfl
  | dict h1 h2 h3 h4 h5 => exact go _ rfl
theorem cg_repr (hg : X.A.guards = some []) (hu : X.A.units + 100 < cLine) : CallG X (.builtin "repr") gRepr := ⟨_, callR_repr hg hu, fun ds S P q vs H Q r rs hp => by
  unfold gRepr at q
  split at q
  · rename_i d
    split at q
    · rename_i x e0
      obtain ⟨v, rfl, rv⟩ := reps1 rs
      exact ⟨v, x, rfl, dp_dat r e0 rv, q.1, q.2.1, q.2.2.1, hp _ _ q.2.2.2 _ _ .refl r (rep_str.mpr rfl)⟩
    · exact q.elim
  · exact q.elim⟩
end
end Sb

/-! Rules over data: targets, what is walked, comprehensions, methods, dicts. -/
namespace Sb
open PySem PySem.Spec L2

/-! ### targets -/
inductive Pat where
  | nm (i : Nat)
  | tp (ps : List Pat)
mutual
/-- what a value unpacked gives -/
@[simp] def pset : Pat → Dv → DSt → Option DSt
  | .nm i, d, δ => some (δ.set i (some d))
  | .tp ps, .tup ds, δ => psets ps ds δ
  | .tp _, _, _ => none
@[simp] def psets : List Pat → List Dv → DSt → Option DSt
  | [], [], δ => some δ
  | p :: ps, d :: ds, δ => (pset p d δ).bind fun δ1 => psets ps ds δ1
  | [], _ :: _, _ => none
  | _ :: _, [], _ => none
end
mutual
def gP (K : Kw) : Pat → TG
  | .nm i => gName i
  | .tp ps => gTup K ps.length (gPs K ps)
def gPs (K : Kw) : List Pat → TGs
  | [] => gNil
  | p :: ps => gCons (gP K p) (gPs K ps)
end
mutual
/-- the slots of a target -/
def pslots : Pat → List Nat
  | .nm i => [i]
  | .tp ps => pslotss ps
def pslotss : List Pat → List Nat
  | [] => []
  | p :: ps => pslots p ++ pslotss ps
end
theorem psets_length : ∀ (ps : List Pat) (ds : List Dv) (δ δ' : DSt), psets ps ds δ = some δ' → ds.length = ps.length
  | [], [], _, _, _ => rfl
  | p :: ps, d :: ds, δ, δ', h => by
    simp only [psets] at h
    obtain ⟨δ1, _, h2⟩ := Option.bind_eq_some_iff.mp h
    simp [psets_length ps ds δ1 δ' h2]
  | [], _ :: _, _, _, h => by simp [psets] at h
  | _ :: _, [], _, _, h => by simp [psets] at h
theorem wipe_set2 {σ : St} {i : Nat} {x : Option V} : ∀ vs : List Nat, wipe (σ.set i x) vs = if i ∈ vs then wipe σ vs else (wipe σ vs).set i x
  | [] => by simp [wipe]
  | v :: vs => by
    have ih := wipe_set2 (σ := σ) (i := i) (x := x) vs
    simp only [wipe, ih, List.mem_cons]
    by_cases h : i ∈ vs
    · simp [h]
    · by_cases e : i = v
      · subst e; simp [h, List.set_set]
      · simp only [h, e, or_self, if_false]
        rw [List.set_comm _ _ e]
theorem wipe_set {σ : St} {i : Nat} {x : Option V} {vs : List Nat} (h : i ∈ vs) : wipe (σ.set i x) vs = wipe σ vs := by rw [wipe_set2, if_pos h]
section
variable {K : Kw} {H0 : Hp} {S : Store} {H : Hp}
mutual
theorem pset_ok : ∀ (p : Pat) (d : Dv) (x : V) (σ : St) (δ δ' : DSt), pset p d δ = some δ' → Rep K H d x → Wd K H0 σ δ S H → ∀ Q : St → Hp → Prop, (∀ σ', Wd K H0 σ' δ' S H → (∀ vs, (∀ i ∈ pslots p, i ∈ vs) → wipe σ' vs = wipe σ vs) → Q σ' H) → gP K p x σ H Q
  | .nm i, d, x, σ, δ, δ', h, r, w, Q, hq => by
    simp only [pset, Option.some.injEq] at h
    subst h
    simp only [gP, gName]
    refine hq _ (w.set r) fun vs hv => wipe_set (hv i (by simp [pslots]))
  | .tp ps, .tup ds, x, σ, δ, δ', h, r, w, Q, hq => by
    simp only [pset] at h
    obtain ⟨a, xs, rfl, q, rs⟩ := rep_tup.mp r
    simp only [gP, gTup]
    exact ⟨a, xs, rfl, q.t, by rw [rs.length]; exact psets_length _ _ _ _ h, psets_ok ps ds xs σ δ δ' h rs w Q fun σ' w' hs => hq σ' w' fun vs hv => hs vs fun i hi => hv i (by simpa [pslots] using hi)⟩
  | .tp _, .non, _, _, _, _, h, _, _, _, _ => by simp [pset] at h
  | .tp _, .bl _, _, _, _, _, h, _, _, _, _ => by simp [pset] at h
  | .tp _, .int _, _, _, _, _, h, _, _, _, _ => by simp [pset] at h
  | .tp _, .str _, _, _, _, _, h, _, _, _, _ => by simp [pset] at h
  | .tp _, .ty _, _, _, _, _, h, _, _, _, _ => by simp [pset] at h
  | .tp _, .ref _, _, _, _, _, h, _, _, _, _ => by simp [pset] at h
  | .tp _, .scr _, _, _, _, _, h, _, _, _, _ => by simp [pset] at h
theorem psets_ok : ∀ (ps : List Pat) (ds : List Dv) (xs : List V) (σ : St) (δ δ' : DSt), psets ps ds δ = some δ' → Reps K H ds xs → Wd K H0 σ δ S H → ∀ Q : St → Hp → Prop, (∀ σ', Wd K H0 σ' δ' S H → (∀ vs, (∀ i ∈ pslotss ps, i ∈ vs) → wipe σ' vs = wipe σ vs) → Q σ' H) → gPs K ps xs σ H Q
  | [], [], xs, σ, δ, δ', h, r, w, Q, hq => by
    simp only [psets, Option.some.injEq] at h
    subst h
    simp only [gPs, gNil]
    exact ⟨r.nil_inv, hq σ w fun _ _ => rfl⟩
  | p :: ps, d :: ds, xs, σ, δ, δ', h, r, w, Q, hq => by
    simp only [psets] at h
    obtain ⟨δ1, h1, h2⟩ := Option.bind_eq_some_iff.mp h
    obtain ⟨y, ys, rfl, r1, r2⟩ := r.cons_inv
    simp only [gPs, gCons]
    refine ⟨y, ys, rfl, pset_ok p d y σ δ δ1 h1 r1 w _ fun σ1 w1 s1 => psets_ok ps ds ys σ1 δ1 δ' h2 r2 w1 Q fun σ2 w2 s2 => hq σ2 w2 fun vs hv => ?_⟩
    rw [s2 vs fun i hi => hv i (by simp [pslotss, hi]), s1 vs fun i hi => hv i (by simp [pslotss, hi])]
  | [], _ :: _, _, _, _, _, h, _, _, _, _ => by simp [psets] at h
  | _ :: _, [], _, _, _, _, h, _, _, _, _ => by simp [psets] at h
end
end
/-- a target's text is a pattern -/
def DP (X : Cx) (tg : Expr) (p : Pat) : Prop := PG X tg (gP X.kw p)
def DPs (X : Cx) (tgs : List Expr) (ps : List Pat) : Prop := PGs X tgs (gPs X.kw ps)
section
variable {X : Cx} {H0 : Hp} {pos : Pos}
theorem dp_nm {i : Nat} {x : Str} (hN : X.N.Nodup) (hi : X.N[i]? = some x := by rfl) (hx : Loc X.env.scope x := by first | exact Or.inl rfl | exact Or.inr rfl) (hf : X.fn x = true ∨ X.env.scope.names.lookup x = some .local := by first | exact .inl rfl | exact .inr rfl | assumption) : DP X (.Name x pos) (.nm i) := pg_name hN hi hx hf
theorem dps_nil : DPs X [] [] := pgs_nil
theorem dps_cons {e : Expr} {es : List Expr} {p : Pat} {ps : List Pat} (h1 : DP X e p) (h2 : DPs X es ps) (hs : (assignEach (e :: es) X.env).map (·.2) = assign e X.env :: (assignEach es X.env).map (·.2) := by rfl) : DPs X (e :: es) (p :: ps) := pgs_cons h1 h2 hs
theorem dp_tp {es : List Expr} {k : Nat} {ps : List Pat} (hc : X.calm = true) (h : DPs X es ps) (hn : (assignEach es X.env).length = ps.length := by rfl) (hst : (assignEach es X.env).findIdx? (·.1) = none := by rfl) : DP X (.Tuple es k pos) (.tp ps) := pg_tup hc h hn hst
end

/-! ### what is walked -/
abbrev Grd := Store → Prop
abbrev DTI := DSt → Store → (List Dv → Grd → Store → Prop) → Prop
/-- the walk gives the items while the guard stands -/
def Serves (K : Kw) (H0 : Hp) (J : It) (items : List Dv) (G : Grd) : Prop := ∀ (i : Nat) (S : Store) (H : Hp), Keep K H0 H → Rel K S H → G S →
  (i = items.length → J.stop i H) ∧ ∀ d, items[i]? = some d → J.go i H ∧ ∀ x H', J.yld i H x H' → Keep K H H' ∧ Rel K S H' ∧ Rep K H' d x
def liftI (K : Kw) (H0 : Hp) (t : DTI) : TI := fun σ H R => ∃ δ S P, Wd K H0 σ δ S H ∧ t δ S P ∧ ∀ items G S1, P items G S1 → ∀ J H1, Keep K H H1 → Rel K S1 H1 → Serves K H1 J items G → R J H1
abbrev DI (X : Cx) (H0 : Hp) (tg iter : Expr) (t : DTI) : Prop := PI X tg iter (liftI X.kw H0 t)
/-- over a list -/
@[simp] def dIL (tl : DTE) : DTI := fun δ S P => tl δ S fun d S1 => match d with
  | .ref a => (match S1 a with | some (.lst ds) => P ds (fun S => S a = some (.lst ds)) S1 | _ => False)
  | _ => False
/-- over a tuple -/
@[simp] def dIT (tl : DTE) : DTI := fun δ S P => tl δ S fun d S1 => match d with
  | .tup ds => P ds (fun _ => True) S1
  | _ => False
@[simp] def dIR1 (ta : DTA) : DTI := fun δ S P => ta δ S fun ds S1 => match ds with
  | [.int j] => -(2 ^ 62) ≤ j ∧ j < 2 ^ 62 ∧ P ((List.range j.toNat).map fun (i : Nat) => .int i) (fun _ => True) S1
  | _ => False
@[simp] def dIR2 (ta : DTA) : DTI := fun δ S P => ta δ S fun ds S1 => match ds with
  | [.int i, .int j] => (-(2 ^ 62) ≤ i ∧ i < 2 ^ 62 ∧ -(2 ^ 62) ≤ j ∧ j < 2 ^ 62) ∧ P ((List.range (j - i).toNat).map fun (k : Nat) => .int (i + k)) (fun _ => True) S1
  | _ => False
section
variable {X : Cx} {H0 : Hp} {tg l a b : Expr} {tl : DTE} {ta : DTA} {pos p : Pos}
theorem di_tup (hl : DE X H0 l tl) : DI X H0 tg l (dIT tl) := (pi_tup hl).to fun σ H R h => by
  obtain ⟨δ, S, P, w, ht, hp⟩ := h
  refine ⟨δ, S, _, w, ht, fun d S1 q v H1 k1 r1 p1 => ?_⟩
  split at q
  · rename_i ds
    obtain ⟨a, xs, rfl, hq, rs⟩ := rep_tup.mp p1
    refine ⟨a, rfl, ⟨xs, hq.t⟩, hp _ _ _ q _ _ k1 r1 fun i S2 H2 k2 r2 _ => ?_⟩
    have hq2 := (k2.t _ _ hq).t
    have rs2 := Reps.keep k2 _ _ rs
    refine ⟨fun e => ⟨xs, hq2, by rw [rs.length]; omega⟩, fun d e => ?_⟩
    obtain ⟨x, ex, rx⟩ := rs2.get e
    refine ⟨⟨xs, x, hq2, ex⟩, fun y H' q => ?_⟩
    obtain ⟨rfl, q2⟩ := q
    have e2 := q2 xs hq2
    rw [ex] at e2
    cases e2
    exact ⟨.refl, r2, rx⟩
  · exact q.elim
theorem di_list (hl : DE X H0 l tl) : DI X H0 tg l (dIL tl) := (pi_list hl).to fun σ H R h => by
  obtain ⟨δ, S, P, w, ht, hp⟩ := h
  refine ⟨δ, S, _, w, ht, fun d S1 q v H1 k1 r1 p1 => ?_⟩
  split at q
  · rename_i a
    split at q
    · rename_i ds e0
      obtain ⟨xs, h, rs⟩ := r1.lst e0
      refine ⟨a, rep_ref.mp p1, ⟨xs, .of h⟩, hp _ _ _ q _ _ k1 r1 fun i S2 H2 k2 r2 g => ?_⟩
      obtain ⟨ys, h2, rs2⟩ := r2.lst g
      refine ⟨fun e => ⟨ys, .of h2, by rw [rs2.length]; omega⟩, fun d e => ?_⟩
      obtain ⟨x, ex, rx⟩ := rs2.get e
      refine ⟨⟨ys, x, .of h2, ex⟩, fun y H' q => ?_⟩
      obtain ⟨rfl, q2⟩ := q
      have e2 := q2 ys (.of h2)
      rw [ex] at e2
      cases e2
      exact ⟨.refl, r2, rx⟩
    · exact q.elim
  · exact q.elim
theorem serves_range {K : Kw} {H0 : Hp} {lo : Int} {n : Nat} : Serves K H0 (Itr lo n) ((List.range n).map fun (k : Nat) => .int (lo + k)) (fun _ => True) := fun i S H k r _ => by
  refine ⟨fun e => ?_, fun d e => ?_⟩
  · have e : i = n := by simpa using e
    exact Nat.le_of_eq e.symm
  · rw [List.getElem?_map] at e
    obtain ⟨j, e1, rfl⟩ := Option.map_eq_some_iff.mp e
    obtain ⟨h1, h2⟩ := List.getElem?_eq_some_iff.mp e1
    have hj : i = j := by simpa using h2
    subst hj
    have h1 : i < n := by simpa using h1
    refine ⟨h1, fun x H' q => ?_⟩
    obtain ⟨rfl, rfl⟩ := q
    exact ⟨.refl, r, rep_int.mpr rfl⟩
theorem di_range1 (hg : Gl X "range") (hm : X.mg "range" = none) (ha : DA X H0 [a] ta) (hs : starEach [a] X.env = [(false, eval a X.env)] := by rfl) : DI X H0 tg (.Call (.Name "range" p) [a] [] pos) (dIR1 ta) := (pi_range1 hg hm ha hs).to fun σ H R h => by
  obtain ⟨δ, S, P, w, ht, hp⟩ := h
  refine ⟨δ, S, _, w, ht, fun ds S1 q vs H1 k1 r1 p1 => ?_⟩
  split at q
  · rename_i j
    obtain ⟨v, rfl, rv⟩ := reps1 p1
    refine ⟨j, by rw [rep_int.mp rv], q.1, q.2.1, hp _ _ _ q.2.2 _ _ k1 r1 ?_⟩
    have := serves_range (K := X.kw) (H0 := H1) (lo := 0) (n := j.toNat)
    simpa using this
  · exact q.elim
theorem di_range2 (hg : Gl X "range") (hm : X.mg "range" = none) (ha : DA X H0 [a, b] ta) (hs : starEach [a, b] X.env = [(false, eval a X.env), (false, eval b X.env)] := by rfl) (hs2 : starEach [b] X.env = [(false, eval b X.env)] := by rfl) :
    DI X H0 tg (.Call (.Name "range" p) [a, b] [] pos) (dIR2 ta) := (pi_range2 hg hm ha hs hs2).to fun σ H R h => by
  obtain ⟨δ, S, P, w, ht, hp⟩ := h
  refine ⟨δ, S, _, w, ht, fun ds S1 q vs H1 k1 r1 p1 => ?_⟩
  split at q
  · rename_i i j
    obtain ⟨v, u, rfl, rv, ru⟩ := reps2 p1
    exact ⟨i, j, by rw [rep_int.mp rv, rep_int.mp ru], q.1, hp _ _ _ q.2 _ _ k1 r1 serves_range⟩
  · exact q.elim
end
end Sb

/-! Rules over data: statements, loops, comprehensions. -/
namespace Sb
open PySem PySem.Spec L2

section
variable {X : Cx} {H0 : Hp} {st : Stmt} {rest : List Stmt} {t u : DTS} {e : Expr} {te : DTE} {pos : Pos}
@[simp] def dNext : DTS := fun D δ S => D.nx δ S
def dSeq (t u : DTS) : DTS := fun D δ S => t { D with nx := u D } δ S
/-- the store told anew between two statements -/
def VS (K : Kw) (S : Store) (P : Store → Prop) : Prop := ∀ H, Rel K S H → ∃ S2, Rel K S2 H ∧ P S2
theorem VS.pure {K : Kw} {S : Store} {P : Store → Prop} (h : P S) : VS K S P := fun H r => ⟨S, r, h⟩
theorem VS.drop {K : Kw} {S S' : Store} {P : Store → Prop} (hs : ∀ a o, S' a = some o → S a = some o) (h : P S') : VS K S P := fun H r => ⟨S', r.sub hs, h⟩
theorem VS.mono {K : Kw} {S : Store} {P P' : Store → Prop} (h : VS K S P) (hp : ∀ S', P S' → P' S') : VS K S P' := fun H r => let ⟨S2, r2, q⟩ := h H r; ⟨S2, r2, hp _ q⟩
theorem VS.bind {K : Kw} {S : Store} {P P' : Store → Prop} (h : VS K S P) (hp : ∀ S', P S' → VS K S' P') : VS K S P' := fun H r => let ⟨S2, r2, q⟩ := h H r; hp S2 q H r2
def dSeqV (K : Kw) (t u : DTS) : DTS := fun D δ S => t { D with nx := fun δ1 S1 => VS K S1 fun S2 => u D δ1 S2 } δ S
theorem dss_nil : DSs X H0 [] dNext := pss_nil.to fun D σ H h => by
  obtain ⟨δ, S, D', w, ht, hp⟩ := h
  exact hp.nx _ _ ht _ _ .refl w
theorem dss_cons (h1 : DS X H0 st t) (h2 : DSs X H0 rest u) : DSs X H0 (st :: rest) (dSeq t u) := (pss_cons h1 h2).to fun D σ H h => by
  obtain ⟨δ, S, D', w, ht, hp⟩ := h
  exact ⟨δ, S, _, w, ht, fun δ1 S1 q σ1 H1 k w1 => ⟨δ1, S1, D', w1, q, hp.keep k⟩, hp.bk, hp.ct, hp.rt⟩
theorem dss_consV (h1 : DS X H0 st t) (h2 : DSs X H0 rest u) : DSs X H0 (st :: rest) (dSeqV X.kw t u) := (pss_cons h1 h2).to fun D σ H h => by
  obtain ⟨δ, S, D', w, ht, hp⟩ := h
  refine ⟨δ, S, _, w, ht, fun δ1 S1 q σ1 H1 k w1 => ?_, hp.bk, hp.ct, hp.rt⟩
  obtain ⟨S2, r2, q2⟩ := q H1 w1.rel
  exact ⟨δ1, S2, D', ⟨w1.base, r2, w1.len, w1.slot⟩, q2, hp.keep k⟩
theorem dss_one (h1 : DS X H0 st t) : DSs X H0 [st] t := pss_one h1
@[simp] def dBreak : DTS := fun D δ S => D.bk δ S
@[simp] def dCont : DTS := fun D δ S => D.ct δ S
theorem ds_pass : DS X H0 (.Pass pos) dNext := ps_pass.to fun D σ H h => by
  obtain ⟨δ, S, D', w, ht, hp⟩ := h
  exact hp.nx _ _ ht _ _ .refl w
theorem ds_break : DS X H0 (.Break pos) dBreak := ps_break.to fun D σ H h => by
  obtain ⟨δ, S, D', w, ht, hp⟩ := h
  exact hp.bk _ _ ht _ _ .refl w
theorem ds_continue : DS X H0 (.Continue pos) dCont := ps_continue.to fun D σ H h => by
  obtain ⟨δ, S, D', w, ht, hp⟩ := h
  exact hp.ct _ _ ht _ _ .refl w
@[simp] def dDrop (te : DTE) : DTS := fun D δ S => te δ S fun _ S1 => D.nx δ S1
theorem ds_expr (he : DE X H0 e te) (hs : swapsWith e none pos.line X.env = pure false := by rfl) : DS X H0 (.Expr e pos) (dDrop te) := (ps_expr he hs).to fun D σ H h => by
  obtain ⟨δ, S, D', w, ht, hp⟩ := h
  exact ⟨δ, S, _, w, ht, fun d S1 q v H1 k1 r1 p1 => hp.nx _ _ q _ _ k1 (w.keep k1 r1)⟩
@[simp] def dRet (te : DTE) : DTS := fun D δ S => te δ S D.rt
theorem ds_ret (he : DE X H0 e te) : DS X H0 (.Return (some e) pos) (dRet te) := (ps_ret he).to fun D σ H h => by
  obtain ⟨δ, S, D', w, ht, hp⟩ := h
  exact ⟨δ, S, _, w, ht, hp.rt⟩
@[simp] def dRetN : DTS := fun D _ S => D.rt .non S
theorem ds_retN : DS X H0 (.Return none pos) dRetN := ps_retN.to fun D σ H h => by
  obtain ⟨δ, S, D', w, ht, hp⟩ := h
  exact hp.rt _ _ ht _ _ .refl w.rel (rep_non.mpr rfl)
@[simp] def dIfS (c : DTT) (t u : DTS) : DTS := fun D δ S => c δ S fun b S1 => if b = true then t D δ S1 else u D δ S1
theorem ds_if {c : Expr} {a b : List Stmt} {tc : DTT} (hc : DT X H0 c tc) (ha : DSs X H0 a t) (hb : DSs X H0 b u) : DS X H0 (.If c a b pos) (dIfS tc t u) := (ps_if hc ha hb).to fun D σ H h => by
  obtain ⟨δ, S, D', w, ht, hp⟩ := h
  refine ⟨δ, S, _, w, ht, fun c S1 q H1 k1 r1 => ?_⟩
  cases c with
  | true => exact ⟨δ, S1, D', w.keep k1 r1, q, hp.keep k1⟩
  | false => exact ⟨δ, S1, D', w.keep k1 r1, q, hp.keep k1⟩
@[simp] def dNever : DTS := fun _ _ _ => False
theorem ds_never : DS X H0 st dNever := ps_never.to fun D σ H h => by
  obtain ⟨δ, S, D', w, ht, hp⟩ := h
  exact ht
/-- target = e -/
@[simp] def dAsg (te : DTE) (p : Pat) : DTS := fun D δ S => te δ S fun d S1 => match pset p d δ with | some δ1 => D.nx δ1 S1 | none => False
theorem ds_asg {tg : Expr} {p : Pat} (he : DE X H0 e te) (hg : DP X tg p) (hs : swapsWithSole [tg] e pos.line X.env = pure false := by rfl) (hw : swappedStores [tg] e X.env = pure none := by rfl)
    (h1 : (assignEach [tg] X.env).map (·.2) = [assign tg X.env] := by rfl) : DS X H0 (.Assign [tg] e pos) (dAsg te p) := (ps_asg he hg hs hw h1).to fun D σ H h => by
  obtain ⟨δ, S, D', w, ht, hp⟩ := h
  refine ⟨δ, S, _, w, ht, fun d S1 q v H1 k1 r1 p1 => ?_⟩
  split at q
  · rename_i δ1 e1
    exact pset_ok p d v σ δ δ1 e1 p1 (w.keep k1 r1) _ fun σ2 w2 _ => hp.nx _ _ q _ _ k1 w2
  · exact q.elim
/-- x = e -/
@[simp] def dSet (i : Nat) (te : DTE) : DTS := fun D δ S => te δ S fun d S1 => D.nx (δ.set i (some d)) S1
theorem ds_set {i : Nat} {x : Str} {pos' : Pos} (hN : X.N.Nodup) (he : DE X H0 e te) (hi : X.N[i]? = some x := by rfl) (hx : Loc X.env.scope x := by first | exact Or.inl rfl | exact Or.inr rfl) (hs : swapsWith e (some (.Name x pos')) pos.line X.env = pure false := by rfl)
    (hf : X.fn x = true ∨ X.env.scope.names.lookup x = some .local := by first | exact .inl rfl | exact .inr rfl | assumption) : DS X H0 (.Assign [.Name x pos'] e pos) (dSet i te) := (ps_set hN hi hx he hs hf).to fun D σ H h => by
  obtain ⟨δ, S, D', w, ht, hp⟩ := h
  exact ⟨δ, S, _, w, ht, fun d S1 q v H1 k1 r1 p1 => hp.nx _ _ q _ _ k1 ((w.keep k1 r1).set p1)⟩
/-- a, b = e1, e2 with two local names -/
@[simp] def dPar (i j : Nat) (ta : DTA) : DTS := fun D δ S => ta δ S fun ds S1 => match ds with | [d, e] => D.nx ((δ.set i (some d)).set j (some e)) S1 | _ => False
theorem ds_par {i j : Nat} {x y : Str} {a b : Expr} {ta : DTA} {px py pt : Pos} {kt k2 pt2} (hc : X.calm = true) (hN : X.N.Nodup) (ha : DA X H0 [a, b] ta) (hi : X.N[i]? = some x := by rfl) (hj : X.N[j]? = some y := by rfl) (hij : i ≠ j := by decide)
    (hx : X.env.scope.names.lookup x = some .local := by rfl) (hy : X.env.scope.names.lookup y = some .local := by rfl)
    (hw : swappedStores [.Tuple [.Name x px, .Name y py] kt pt] (.Tuple [a, b] k2 pt2) X.env = pure (some [x, y]) := by rfl)
    (hs : swapsWithSole [.Tuple [.Name x px, .Name y py] kt pt] (.Tuple [a, b] k2 pt2) pos.line X.env = pure false := by rfl) :
    DS X H0 (.Assign [.Tuple [.Name x px, .Name y py] kt pt] (.Tuple [a, b] k2 pt2) pos) (dPar i j ta) := (ps_par hc hN hi hj hij hx hy ha hw hs).to fun D σ H h => by
  obtain ⟨δ, S, D', w, ht, hp⟩ := h
  refine ⟨δ, S, _, w, ht, fun ds S1 q vs H1 k1 r1 p1 => ?_⟩
  split at q
  · obtain ⟨v, u, rfl, rv, ru⟩ := reps2 p1
    exact ⟨v, u, rfl, hp.nx _ _ q _ _ k1 (((w.keep k1 r1).set rv).set ru)⟩
  · exact q.elim
theorem reps3 {K : Kw} {H : Hp} {d e f : Dv} {vs : List V} (r : Reps K H [d, e, f] vs) : ∃ v u x, vs = [v, u, x] ∧ Rep K H d v ∧ Rep K H e u ∧ Rep K H f x := by
  obtain ⟨y, ys, rfl, a, b⟩ := r.cons_inv
  obtain ⟨u, x, rfl, c⟩ := reps2 b
  exact ⟨y, u, x, rfl, a, c⟩
@[simp] def dPar3 (i j l : Nat) (ta : DTA) : DTS := fun D δ S => ta δ S fun ds S1 => match ds with | [d, e, f] => D.nx (((δ.set i (some d)).set j (some e)).set l (some f)) S1 | _ => False
theorem ds_par3 {i j l : Nat} {x y z : Str} {a b c : Expr} {ta : DTA} {px py pz pt : Pos} {kt k2 pt2} (hc : X.calm = true) (hN : X.N.Nodup) (ha : DA X H0 [a, b, c] ta) (hi : X.N[i]? = some x := by rfl) (hj : X.N[j]? = some y := by rfl) (hl : X.N[l]? = some z := by rfl)
    (hij : i ≠ j := by decide) (hil : i ≠ l := by decide) (hjl : j ≠ l := by decide)
    (hx : X.env.scope.names.lookup x = some .local := by rfl) (hy : X.env.scope.names.lookup y = some .local := by rfl) (hz : X.env.scope.names.lookup z = some .local := by rfl)
    (hw : swappedStores [.Tuple [.Name x px, .Name y py, .Name z pz] kt pt] (.Tuple [a, b, c] k2 pt2) X.env = pure (some [x, y, z]) := by rfl)
    (hs : swapsWithSole [.Tuple [.Name x px, .Name y py, .Name z pz] kt pt] (.Tuple [a, b, c] k2 pt2) pos.line X.env = pure false := by rfl) :
    DS X H0 (.Assign [.Tuple [.Name x px, .Name y py, .Name z pz] kt pt] (.Tuple [a, b, c] k2 pt2) pos) (dPar3 i j l ta) := (ps_par3 hc hN hi hj hl hij hil hjl hx hy hz ha hw hs).to fun D σ H h => by
  obtain ⟨δ, S, D', w, ht, hp⟩ := h
  refine ⟨δ, S, _, w, ht, fun ds S1 q vs H1 k1 r1 p1 => ?_⟩
  split at q
  · obtain ⟨v, u, x, rfl, rv, ru, rx⟩ := reps3 p1
    exact ⟨v, u, x, rfl, hp.nx _ _ q _ _ k1 ((((w.keep k1 r1).set rv).set ru).set rx)⟩
  · exact q.elim
/-- x += e, whole numbers -/
@[simp] def dAug (i : Nat) (te : DTE) (f : Int → Int → Int) : DTS := fun D δ S => match δ[i]? with
  | some (some (.int m)) => te δ S fun d S1 => (match d with | .int n => D.nx (δ.set i (some (.int (f m n)))) S1 | _ => False)
  | _ => False
theorem ds_aug {i : Nat} {x : Str} {op : Operator} {f : Int → Int → Int} {pos' : Pos} (hN : X.N.Nodup) (he : DE X H0 e te) (ho : PIp X op (ipI f)) (hi : X.N[i]? = some x := by rfl) (hx : Loc X.env.scope x := by first | exact Or.inl rfl | exact Or.inr rfl)
    (hf : X.fn x = true ∨ X.env.scope.names.lookup x = some .local := by first | exact .inl rfl | exact .inr rfl | assumption) : DS X H0 (.AugAssign (.Name x pos') op e pos) (dAug i te f) := (ps_aug hN hi hx he ho hf).to fun D σ H h => by
  obtain ⟨δ, S, D', w, ht, hp⟩ := h
  unfold dAug at ht
  split at ht
  · rename_i m e0
    obtain ⟨v, ev, rv⟩ := w.slot i _ e0
    refine ⟨v, ev, δ, S, _, w, ht, fun d S1 q u H1 k1 r1 p1 => ?_⟩
    split at q
    · rename_i n
      exact ⟨m, n, rep_int.mp rv, rep_int.mp p1, hp.nx _ _ q _ _ k1 ((w.keep k1 r1).set (rep_int.mpr rfl))⟩
    · exact q.elim
  · exact ht.elim

/-! ### for -/
def forL (p : Pat) (tb : DTS) (D : DEnds) (G : Grd) : List Dv → DSt → Store → Prop
  | [], δ, S => G S ∧ D.nx δ S
  | x :: xs, δ, S => G S ∧ match pset p x δ with
    | some δ1 => tb { D with nx := forL p tb D G xs, ct := forL p tb D G xs, bk := D.nx } δ1 S
    | none => False
def dFor (wi : DTI) (p : Pat) (tb : DTS) : DTS := fun D δ S => wi δ S fun items G S1 => forL p tb D G items δ S1
theorem ds_for {tg iter : Expr} {body : List Stmt} {wi : DTI} {p : Pat} {tb : DTS} (hp : PassesOwn (model X.prog X.w) X.A X.env X.xe) (hc : X.calm = true) (hi : DI X H0 tg iter wi) (hg : DP X tg p) (hb : DSs X H0 body tb)
    (hs : ∀ x, foldedSetIterable iter X.env x = pure x := by intro _; rfl) : DS X H0 (.For tg iter body [] pos) (dFor wi p tb) := (ps_for hp hc hi hg hb hs).to fun D σ H h => by
  obtain ⟨δ, S, D', w, ht, hp⟩ := h
  refine ⟨δ, S, _, w, ht, fun items G S1 q J H1 k1 r1 sv => ?_⟩
  refine ⟨fun i m σ' H' => m = items.length - i ∧ i ≤ items.length ∧ ∃ δ' S', Keep X.kw H1 H' ∧ Wd X.kw H0 σ' δ' S' H' ∧ forL p tb D' G (items.drop i) δ' S', ⟨_, rfl, Nat.zero_le _, δ, S1, .refl, w.keep k1 r1, q⟩, ?_⟩
  rintro i m σ2 H2 ⟨rfl, hi, δ2, S2, k2, w2, q2⟩
  by_cases hlt : i < items.length
  · rw [List.drop_eq_getElem_cons hlt] at q2
    simp only [forL] at q2
    obtain ⟨g, q2⟩ := q2
    obtain ⟨go, yld⟩ := (sv i S2 H2 k2 w2.rel g).2 items[i] (List.getElem?_eq_getElem hlt)
    refine .inr ⟨go, fun σ' H' => ∃ δ' S', Keep X.kw H1 H' ∧ Wd X.kw H0 σ' δ' S' H' ∧ forL p tb D' G (items.drop (i + 1)) δ' S', fun σ' H' z => ⟨_, by omega, rfl, hlt, z⟩, fun x H3 y => ?_⟩
    obtain ⟨k3, r3, rx⟩ := yld x H3 y
    cases e : pset p items[i] δ2 with
    | none => rw [e] at q2; exact q2.elim
    | some δ3 =>
      rw [e] at q2
      refine pset_ok p _ x σ2 δ2 δ3 e rx (w2.keep k3 r3) _ fun σ4 w4 _ => ⟨δ3, S2, _, w4, q2, fun δ5 S5 q5 σ5 H5 k5 w5 => ?_, fun δ5 S5 q5 σ5 H5 k5 w5 => ?_, fun δ5 S5 q5 σ5 H5 k5 w5 => ?_, ?_⟩
      · exact ⟨δ5, S5, k2.trans (k3.trans k5), w5, q5⟩
      · exact hp.nx _ _ q5 _ _ (k1.trans (k2.trans (k3.trans k5))) w5
      · exact ⟨δ5, S5, k2.trans (k3.trans k5), w5, q5⟩
      · exact hp.rt.keep (k1.trans (k2.trans k3))
  · have e : i = items.length := by omega
    subst e
    rw [List.drop_length] at q2
    simp only [forL] at q2
    exact .inl ⟨(sv _ S2 H2 k2 w2.rel q2.1).1 rfl, hp.nx _ _ q2.2 _ _ (k1.trans k2) w2⟩
/-! ### while -/
def dWhile (c : DTT) (tb : DTS) : DTS := fun D δ S => ∃ I : Nat → DSt → Store → Prop, (∃ m, I m δ S) ∧ ∀ m δ S, I m δ S →
  c δ S fun b S1 => if b = true then tb { D with nx := fun δ' S' => ∃ m', m' < m ∧ I m' δ' S', ct := fun δ' S' => ∃ m', m' < m ∧ I m' δ' S', bk := D.nx } δ S1 else D.nx δ S1
theorem ds_while {c : Expr} {body : List Stmt} {tc : DTT} {tb : DTS} (hp : PassesOwn (model X.prog X.w) X.A X.env X.xe) (hc : DT X H0 c tc) (hb : DSs X H0 body tb) : DS X H0 (.While c body [] pos) (dWhile tc tb) := (ps_while hp hc hb).to fun D σ H h => by
  obtain ⟨δ, S, D', w, ⟨I, ⟨m0, i0⟩, turn⟩, hp⟩ := h
  refine ⟨fun m σ' H' => ∃ δ' S', Keep X.kw H H' ∧ Wd X.kw H0 σ' δ' S' H' ∧ I m δ' S', ⟨m0, δ, S, .refl, w, i0⟩, ?_⟩
  rintro m σ2 H2 ⟨δ2, S2, k2, w2, i2⟩
  refine ⟨δ2, S2, _, w2, turn m δ2 S2 i2, fun b S3 q H3 k3 r3 => ?_⟩
  cases b with
  | true =>
    refine ⟨fun σ' H' => ∃ m', m' < m ∧ ∃ δ' S', Keep X.kw H H' ∧ Wd X.kw H0 σ' δ' S' H' ∧ I m' δ' S', fun σ' H' z => z, δ2, S3, _, w2.keep k3 r3, q, ?_⟩
    exact ⟨fun δ5 S5 ⟨m', hm, q5⟩ σ5 H5 k5 w5 => ⟨m', hm, δ5, S5, k2.trans (k3.trans k5), w5, q5⟩, fun δ5 S5 q5 σ5 H5 k5 w5 => hp.nx _ _ q5 _ _ (k2.trans (k3.trans k5)) w5,
      fun δ5 S5 ⟨m', hm, q5⟩ σ5 H5 k5 w5 => ⟨m', hm, δ5, S5, k2.trans (k3.trans k5), w5, q5⟩, hp.rt.keep (k2.trans k3)⟩
  | false => exact hp.nx _ _ q _ _ (k2.trans k3) (w2.keep k3 r3)
end

/-! ### list comprehensions -/
@[simp] def wipeD (δ : DSt) : List Nat → DSt
  | [] => δ
  | v :: vs => (wipeD δ vs).set v none
theorem wipeD_length (δ : DSt) : ∀ vs, (wipeD δ vs).length = δ.length
  | [] => rfl
  | v :: vs => by simp [wipeD, wipeD_length δ vs]
theorem wd_wipe {K : Kw} {H0 : Hp} {σ : St} {δ : DSt} {S : Store} {H : Hp} (w : Wd K H0 σ δ S H) : ∀ vs, Wd K H0 (wipe σ vs) (wipeD δ vs) S H
  | [] => w
  | v :: vs => by
    have ih := wd_wipe w vs
    refine ⟨ih.base, ih.rel, by simp [wipe, wipeD, ih.len], fun j d e => ?_⟩
    simp only [wipeD] at e
    simp only [wipe]
    by_cases h : v = j
    · subst h
      rw [List.getElem?_set_self (by have := (List.getElem?_eq_some_iff.mp e).1; simpa using this)] at e
      cases e
    · rw [List.getElem?_set_ne h] at e ⊢
      exact ih.slot j d e
theorem wipe_sub {σ : St} {vs : List Nat} : ∀ us : List Nat, (∀ i ∈ us, i ∈ vs) → wipe (wipe σ us) vs = wipe σ vs
  | [], _ => rfl
  | v :: us, h => by
    rw [show wipe σ (v :: us) = (wipe σ us).set v none from rfl, wipe_set (h v (by simp))]
    exact wipe_sub us fun i hi => h i (by simp [hi])
def lcRun (p : Pat) (tt : DTT) (te : DTE) (δ : DSt) (G : Grd) (D : Addr) (P : DK) : List Dv → Store → Prop
  | [], S => G S ∧ P (.ref D) S
  | x :: xs, S => G S ∧ match pset p x δ with
    | some δ1 => tt δ1 S fun b S2 => if b = true then te δ1 S2 fun y S3 => (match S3 D with
        | some (.lst acc) => acc.length < sizeLine ∧ lcRun p tt te δ G D P xs (up S3 D (.lst (acc ++ [y])))
        | _ => False) else lcRun p tt te δ G D P xs S2
    | none => False
def dLc (wi : DTI) (p : Pat) (tt : DTT) (te : DTE) (vs : List Nat) : DTE := fun δ S P => wi δ S fun items G S1 => ∀ D, S1 D = none → lcRun p tt te (wipeD δ vs) G D P items (up S1 D (.lst []))
@[simp] def dYes : DTT := fun _ S P => P true S
abbrev DTs (X : Cx) (H0 : Hp) (ifs : List Expr) (t : DTT) : Prop := PTs X ifs (liftT X.kw H0 t)
theorem _root_.L2.PTs.to {X : Cx} {e : List Expr} {t t' : TT} (h : PTs X e t) (i : ∀ σ H Q, t' σ H Q → t σ H Q) : PTs X e t' := ⟨fun pins s σ H Q I q => h.run pins s σ H Q I (i σ H Q q)⟩
section
variable {X : Cx} {H0 : Hp}
theorem dts_nil : DTs X H0 [] dYes := pts_nil.to fun σ H Q h => by
  obtain ⟨δ, S, P, w, ht, hp⟩ := h
  exact hp _ _ ht _ .refl w.rel
theorem dts_one {c : Expr} {t : DTT} (h : DT X H0 c t) : DTs X H0 [c] t := pts_one h
theorem lc_lift {K : Kw} {wi : DTI} {p : Pat} {tt : DTT} {te : DTE} {vs : List Nat} (hv : ∀ i ∈ pslots p, i ∈ vs) : ∀ σ H Q, liftE K H0 (dLc wi p tt te vs) σ H Q → tLc (liftI K H0 wi) (gP K p) (liftT K H0 tt) (liftE K H0 te) vs σ H Q := fun σ H Q h => by
  obtain ⟨δ, S, P, w, ht, hp⟩ := h
  refine ⟨δ, S, _, w, ht, fun items G S1 q J H1 k1 r1 sv => fun D hD => ?_⟩
  have q := q D (r1.free hD)
  have hk0 : Keep K H1 (upd H1 D (.lst [])) := .new hD
  have rl : Rel K (up S1 D (.lst [])) (upd H1 D (.lst [])) := r1.laid hD fun own ow => ⟨ow, [], upd_same, .nil⟩
  refine ⟨fun i m H' => m = items.length - i ∧ i ≤ items.length ∧ ∃ S', Keep K H1 H' ∧ Rel K S' H' ∧ lcRun p tt te (wipeD δ vs) G D P (items.drop i) S', ⟨_, rfl, Nat.zero_le _, _, hk0, rl, q⟩, ?_⟩
  rintro i m H2 ⟨rfl, hi, S2, k2, r2, q2⟩
  by_cases hlt : i < items.length
  · rw [List.drop_eq_getElem_cons hlt] at q2
    simp only [lcRun] at q2
    obtain ⟨g, q2⟩ := q2
    obtain ⟨go, yld⟩ := (sv i S2 H2 k2 r2 g).2 items[i] (List.getElem?_eq_getElem hlt)
    refine .inr ⟨go, fun H' => ∃ S', Keep K H1 H' ∧ Rel K S' H' ∧ lcRun p tt te (wipeD δ vs) G D P (items.drop (i + 1)) S', fun H' z => ⟨_, by omega, rfl, hlt, z⟩, fun x H3 y => ?_⟩
    obtain ⟨k3, r3, rx⟩ := yld x H3 y
    cases e : pset p items[i] (wipeD δ vs) with
    | none => rw [e] at q2; exact q2.elim
    | some δ3 =>
      rw [e] at q2
      have w3 : Wd K H0 (wipe σ vs) (wipeD δ vs) S2 H3 := (wd_wipe w vs).keep (k1.trans (k2.trans k3)) r3
      refine pset_ok p _ x _ _ δ3 e rx w3 _ fun σ4 w4 hw4 => ⟨by rw [hw4 vs hv]; exact wipe_sub vs fun _ z => z, δ3, S2, _, w4, q2, fun b S5 q5 H5 k5 r5 => ?_⟩
      cases b with
      | false => exact ⟨S5, k2.trans (k3.trans k5), r5, q5⟩
      | true =>
        refine ⟨δ3, S5, _, w4.keep k5 r5, q5, fun y S6 q6 yv H6 k6 r6 p6 => ?_⟩
        split at q6
        · rename_i acc e6
          obtain ⟨xs, h6, rs6⟩ := r6.lst e6
          have kk : Keep K H6 (upd H6 D (.lst (xs ++ [yv]))) := .upd fun u z => by
            rw [h6] at z; cases z
            exact ⟨fun _ q => HO.noConfusion q, fun _ _ q => HO.noConfusion q⟩
          refine ⟨xs, h6, by rw [rs6.length]; exact q6.1, _, (k2.trans (k3.trans (k5.trans k6))).trans kk, r6.write (o' := .lst (acc ++ [y])) e6 fun own _ z => ⟨OK1.mine z, _, upd_same, Reps.keep kk _ _ (rs6.append (.cons p6 .nil))⟩, q6.2⟩
        · exact q6.elim
  · have e : i = items.length := by omega
    subst e
    rw [List.drop_length] at q2
    simp only [lcRun] at q2
    exact .inl ⟨(sv _ S2 H2 k2 r2 q2.1).1 rfl, hp _ _ q2.2 _ _ (k1.trans k2) r2 (rep_ref.mpr rfl)⟩
theorem de_lc {elt tg iter : Expr} {ifs : List Expr} {scope : Scope} {own : List (Str × Nat)} {pos : Pos} {wi : DTI} {p : Pat} {tt : DTT} {te : DTE} (hc : X.calm = true) (hN : X.N.Nodup) (hi : DI X H0 tg iter wi) (ok : BlkOk X.N X.env.scope scope own)
    (hg : ∀ (s : Shared) (H : Hp) (C : Addr) (cl : List (Str × Addr)) (fp : List Addr), DP (X.blk s H scope (compEnvC scope cl C X.env) fp) tg p)
    (ht : ∀ (s : Shared) (H : Hp) (C : Addr) (cl : List (Str × Addr)) (fp : List Addr), DTs (X.blk s H scope (compEnvC scope cl C X.env) fp) H0 ifs tt)
    (he : ∀ (s : Shared) (H : Hp) (C : Addr) (cl : List (Str × Addr)) (fp : List Addr), DE (X.blk s H scope (compEnvC scope cl C X.env) fp) H0 elt te)
    (hv : ∀ i ∈ pslots p, i ∈ own.map (·.2) := by decide) (hs : ∀ x, foldedSetIterable iter X.env x = pure x := by intro _; rfl) :
    DE X H0 (.ListComp elt [⟨tg, iter, ifs, 0⟩] scope pos) (dLc wi p tt te (own.map (·.2))) := (pe_lc (g := gP X.kw p) (tt := liftT X.kw H0 tt) (te := liftE X.kw H0 te) hc hN hi ok hg ht he hs).to (lc_lift hv)
/-- x = [..] -/
theorem ds_setLc {i : Nat} {y : Str} {py : Pos} {elt tg iter : Expr} {ifs : List Expr} {scope : Scope} {own : List (Str × Nat)} {pos spos : Pos} {wi : DTI} {p : Pat} {tt : DTT} {te : DTE} (hc : X.calm = true) (hN : X.N.Nodup)
    (hi : DI X H0 tg iter wi) (ok : BlkOk X.N X.env.scope scope own)
    (hg : ∀ (s : Shared) (H : Hp) (C : Addr) (cl : List (Str × Addr)) (fp : List Addr), DP (X.blk s H scope (compEnvC scope cl C X.env) fp) tg p)
    (ht : ∀ (s : Shared) (H : Hp) (C : Addr) (cl : List (Str × Addr)) (fp : List Addr), DTs (X.blk s H scope (compEnvC scope cl C X.env) fp) H0 ifs tt)
    (he : ∀ (s : Shared) (H : Hp) (C : Addr) (cl : List (Str × Addr)) (fp : List Addr), DE (X.blk s H scope (compEnvC scope cl C X.env) fp) H0 elt te)
    (hy : X.N[i]? = some y := by rfl) (hyl : X.env.scope.names.lookup y = some .local := by rfl)
    (hsw : swapsWith (.ListComp elt [⟨tg, iter, ifs, 0⟩] scope pos) (some (.Name y py)) spos.line X.env = pure true := by exact sw_true rfl rfl rfl (by decide +kernel))
    (hv : ∀ i ∈ pslots p, i ∈ own.map (·.2) := by decide) (hs : ∀ x, foldedSetIterable iter X.env x = pure x := by intro _; rfl) :
    DS X H0 (.Assign [.Name y py] (.ListComp elt [⟨tg, iter, ifs, 0⟩] scope pos) spos) (dSet i (dLc wi p tt te (own.map (·.2)))) := (ps_setLc (g := gP X.kw p) (tt := liftT X.kw H0 tt) (te := liftE X.kw H0 te) hc hN hy hyl hsw hi ok hg ht he hs).to fun D σ H h => by
  obtain ⟨δ, S, D', w, ht, hp⟩ := h
  exact lc_lift hv σ H _ ⟨δ, S, _, w, ht, fun d S1 q v H1 k1 r1 p1 => hp.nx _ _ q _ _ k1 ((w.keep k1 r1).set p1)⟩
end
end Sb

/-! Rules over data: methods, stores, dicts. -/
namespace Sb
open PySem PySem.Spec L2

/-! ### methods of built-ins -/
section
variable {X : Cx} {H0 : Hp} {o e : Expr} {es : List Expr} {to te : DTE} {t : DTA} {name : Str} {apos cpos pos : Pos} {T id : String}
abbrev GM := Dv → List Dv → Store → DK → Prop
structure MtG (X : Cx) (T id : String) (ty : Dv → Store → Prop) (g : GM) : Prop where
  ex : ∃ r, MtR X id r ∧ ∀ d ds S P, g d ds S P → ∀ x xs H Q, Rel X.kw S H → Rep X.kw H d x → Reps X.kw H ds xs → PV X.kw H P Q → r x xs H Q
  tyv : ∀ d S x H, ty d S → Rel X.kw S H → Rep X.kw H d x → tyV X.kw T x H
@[simp] def dBM (ty : Dv → Store → Prop) (g : GM) (to : DTE) (t : DTA) : DTE := fun δ S P => to δ S fun d S1 => ty d S1 ∧ t δ S1 fun ds S2 => g d ds S2 P
@[simp] def dBM0 (ty : Dv → Store → Prop) (g : GM) (to : DTE) : DTE := fun δ S P => to δ S fun d S1 => ty d S1 ∧ g d [] S1 P
theorem de_bm0 {ty : Dv → Store → Prop} {g : GM} (m : MtG X T id ty g) (pa : PlainAttrs T) (slot : Slot T name id) (hty : typeOf (.builtin id) = pure (.type "method_descriptor")) (ho : DE X H0 o to)
    (hbase : attributeBase o name X.env (eval o X.env) = eval o X.env := by rfl) (hline : (apos.endLine == cpos.line) = true := by rfl) : DE X H0 (.Call (.Attribute o name apos) [] [] cpos) (dBM0 ty g to) :=
  let ⟨r, h1, h2⟩ := m.ex
  (pe_bm0 pa slot hty h1 ho hbase hline).to fun σ H Q h => by
    obtain ⟨δ, S, P, w, ht, hp⟩ := h
    exact ⟨δ, S, _, w, ht, fun d S1 q v H1 k1 r1 p1 => ⟨m.tyv d S1 v H1 q.1 r1 p1, h2 d [] S1 P q.2 v [] H1 Q r1 p1 .nil (hp.keep k1)⟩⟩
theorem de_bm {ty : Dv → Store → Prop} {g : GM} (m : MtG X T id ty g) (pa : PlainAttrs T) (slot : Slot T name id) (hty : typeOf (.builtin id) = pure (.type "method_descriptor")) (ho : DE X H0 o to) (ha : DA X H0 (e :: es) t)
    (hbase : attributeBase o name X.env (eval o X.env) = eval o X.env := by rfl)
    (hfew : ((backTo cpos (starEach (e :: es) X.env)).all (fun x => !x.1) && (backToKw cpos (keywordEach [] X.env)).all (fun x => x.1.isSome)
      && decide ((e :: es).length + ([] : List Keyword).length + (if ([] : List Keyword).isEmpty then 0 else 1) < 30)) = true := by rfl)
    (hline : (apos.endLine == cpos.line) = true := by rfl) (hs : starEach (e :: es) X.env = (false, eval e X.env) :: starEach es X.env := by rfl) (hplain : (backTo cpos (starEach es X.env)).any (·.1) = false := by rfl) :
    DE X H0 (.Call (.Attribute o name apos) (e :: es) [] cpos) (dBM ty g to t) :=
  let ⟨r, h1, h2⟩ := m.ex
  (pe_bm pa slot hty h1 ho ha hbase hfew hline hs hplain).to fun σ H Q h => by
    obtain ⟨δ, S, P, w, ht, hp⟩ := h
    exact ⟨δ, S, _, w, ht, fun d S1 q v H1 k1 r1 p1 => ⟨m.tyv d S1 v H1 q.1 r1 p1, δ, S1, _, w.keep k1 r1, q.2, fun ds S2 q2 vs H2 k2 r2 p2 => h2 d ds S2 P q2 v vs H2 Q r2 (p1.keep k2) p2 (hp.keep (k1.trans k2))⟩⟩
/-- a list -/
@[simp] def isL (d : Dv) (S : Store) : Prop := match d with
  | .ref a => (match S a with | some (.lst _) => True | _ => False)
  | _ => False
theorem isL_ty {K : Kw} {d : Dv} {S : Store} {x : V} {H : Hp} (h : isL d S) (r : Rel K S H) (p : Rep K H d x) : tyV K "list" x H := by
  unfold isL at h
  split at h
  · split at h
    · rename_i ds e
      obtain ⟨xs, hx, _⟩ := r.lst e
      rw [rep_ref.mp p]
      exact .inl ⟨rfl, xs, .of hx⟩
    · exact h.elim
  · exact h.elim
theorem keep_lst {K : Kw} {H : Hp} {a : Addr} {xs : List V} {o : HO} (h : H a = some (.lst xs)) : Keep K H (upd H a o) := .upd fun u z => by
  rw [h] at z; cases z
  exact ⟨fun _ q => HO.noConfusion q, fun _ _ q => HO.noConfusion q⟩
/-- a list changed -/
theorem Rel.lstw {K : Kw} {S : Store} {H : Hp} {a : Addr} {ds ds' : List Dv} {xs xs' : List V} (r : Rel K S H) (e : S a = some (.lst ds)) (h : H a = some (.lst xs)) (rs : Reps K H ds' xs') : Rel K (up S a (.lst ds')) (upd H a (.lst xs')) :=
  r.write (o' := .lst ds') e fun own _ z => ⟨OK1.mine z, xs', upd_same, Reps.keep (keep_lst h) _ _ rs⟩
@[simp] def gAppend : GM := fun d ds S P => match d, ds with
  | .ref a, [x] => (match S a with | some (.lst xs) => xs.length < sizeLine ∧ P .non (up S a (.lst (xs ++ [x]))) | _ => False)
  | _, _ => False
theorem mg_append : MtG X "list" "list.append" isL gAppend where
  tyv := fun _ _ _ _ => isL_ty
  ex := ⟨_, mt_append, fun d ds S P q x xs H Q r p ps hp => by
    unfold gAppend at q
    split at q
    · split at q
      · rename_i ys e
        obtain ⟨v, rfl, rv⟩ := reps1 ps
        obtain ⟨zs, h, rs⟩ := r.lst e
        exact ⟨_, zs, v, rep_ref.mp p, rfl, h, by rw [rs.length]; exact q.1, hp _ _ q.2 _ _ (keep_lst h) (r.lstw e h (rs.append (.cons rv .nil))) (rep_non.mpr rfl)⟩
      · exact q.elim
    · exact q.elim⟩
@[simp] def gExtend : GM := fun d ds S P => match d, ds with
  | .ref a, [.ref b] => (match S a, S b with | some (.lst xs), some (.lst ys) => xs.length + ys.length ≤ sizeLine ∧ P .non (up S a (.lst (xs ++ ys))) | _, _ => False)
  | _, _ => False
theorem mg_extend : MtG X "list" "list.extend" isL gExtend where
  tyv := fun _ _ _ _ => isL_ty
  ex := ⟨_, mt_extend, fun d ds S P q x xs H Q r p ps hp => by
    unfold gExtend at q
    split at q
    · split at q
      · rename_i ys e1 e2
        obtain ⟨v, rfl, rv⟩ := reps1 ps
        obtain ⟨zs, h, rs⟩ := r.lst e1
        obtain ⟨ws, h2, rs2⟩ := r.lst e2
        rw [rep_ref.mp rv]
        exact ⟨_, _, zs, ws, rep_ref.mp p, rfl, h, h2, by rw [rs.length, rs2.length]; exact q.1, hp _ _ q.2 _ _ (keep_lst h) (r.lstw e1 h (rs.append rs2)) (rep_non.mpr rfl)⟩
      · exact q.elim
    · exact q.elim⟩
theorem Reps.dropLast {K : Kw} {H : Hp} {ds : List Dv} {xs : List V} (r : Reps K H ds xs) : Reps K H ds.dropLast xs.dropLast := by
  rw [List.dropLast_eq_take, List.dropLast_eq_take, r.length]
  exact r.take _
@[simp] def gPop : GM := fun d ds S P => match d, ds with
  | .ref a, [] => (match S a with | some (.lst xs) => (match xs[xs.length - 1]? with | some x => P x (up S a (.lst xs.dropLast)) | none => False) | _ => False)
  | .ref a, [.int i] => (match S a with | some (.lst xs) => -(2 ^ 63) ≤ i ∧ i < 2 ^ 63 ∧ (match seqIndex? i xs.length with | some k => (match xs[k]? with | some x => P x (up S a (.lst (xs.eraseIdx k))) | none => False) | none => False) | _ => False)
  | _, _ => False
theorem mt_pops : MtR X "list.pop" (fun x vs H Q => rPop x vs H Q ∨ rPopAt x vs H Q) := MtR.or mt_pop mt_popAt
theorem mg_pop : MtG X "list" "list.pop" isL gPop where
  tyv := fun _ _ _ _ => isL_ty
  ex := ⟨_, mt_pops, fun d ds S P q x xs H Q r p ps hp => by
    unfold gPop at q
    split at q
    · split at q
      · rename_i ys e
        split at q
        · rename_i y e1
          obtain ⟨zs, h, rs⟩ := r.lst e
          obtain ⟨z, ez, rz⟩ := rs.get e1
          rw [ps.nil_inv]
          exact .inl ⟨_, zs, z, rep_ref.mp p, rfl, h, by rw [rs.length]; exact ez, hp _ _ q _ _ (keep_lst h) (r.lstw e h rs.dropLast) (rz.keep (keep_lst h))⟩
        · exact q.elim
      · exact q.elim
    · split at q
      · rename_i ys e
        obtain ⟨l1, l2, q⟩ := q
        split at q
        · rename_i k e1
          split at q
          · rename_i y e2
            obtain ⟨zs, h, rs⟩ := r.lst e
            obtain ⟨z, ez, rz⟩ := rs.get e2
            obtain ⟨v, rfl, rv⟩ := reps1 ps
            exact .inr ⟨_, zs, _, k, z, rep_ref.mp p, by rw [rep_int.mp rv], h, l1, l2, by rw [rs.length]; exact e1, ez, hp _ _ q _ _ (keep_lst h) (r.lstw e h (rs.eraseIdx k)) (rz.keep (keep_lst h))⟩
          · exact q.elim
        · exact q.elim
      · exact q.elim
    · exact q.elim⟩

/-! ### l[i] = e -/
@[simp] def dSetIx (te to ti : DTE) : DTS := fun D δ S => te δ S fun d S1 => to δ S1 fun o S2 => ti δ S2 fun i S3 => match o, i with
  | .ref a, .int k => (match S3 a with | some (.lst ds) => (match ixN ds.length k with | some j => D.nx δ (up S3 a (.lst (ds.set j d))) | none => False) | _ => False)
  | _, _ => False
theorem ds_setIx {i : Expr} {ti : DTE} {pos' : Pos} (he : DE X H0 e te) (ho : DE X H0 o to) (hi : DE X H0 i ti) (hs : swapsWithSole [.Subscript o i pos'] e pos.line X.env = pure false := by rfl) (hw : swappedStores [.Subscript o i pos'] e X.env = pure none := by rfl)
    (h1 : (assignEach [.Subscript o i pos'] X.env).map (·.2) = [assign (.Subscript o i pos') X.env] := by rfl)
    (ha : ∀ v, assign (.Subscript o i pos') X.env v = (do
      let ov ← holding [v] (eval o X.env)
      let iv ← holding [v, ov] (eval i X.env)
      standAt pos'
      holding [v, ov, iv] (setItem ov iv v)
      release [v, ov, iv] []) := by intro _; rfl) : DS X H0 (.Assign [.Subscript o i pos'] e pos) (dSetIx te to ti) := (ps_asg he (pg_sub ho hi set_list ha) hs hw h1).to fun D σ H h => by
  obtain ⟨δ, S, D', w, ht, hp⟩ := h
  refine ⟨δ, S, _, w, ht, fun d S1 q v H1 k1 r1 p1 => ⟨δ, S1, _, w.keep k1 r1, q, fun od S2 q2 ov H2 k2 r2 p2 => ⟨δ, S2, _, w.keep (k1.trans k2) r2, q2, fun id S3 q3 iv H3 k3 r3 p3 => ?_⟩⟩⟩
  split at q3
  · split at q3
    · rename_i ds e0
      split at q3
      · rename_i j e1
        obtain ⟨xs, h, rs⟩ := r3.lst e0
        refine ⟨_, xs, _, j, rep_ref.mp p2, rep_int.mp p3, h, by rw [rs.length]; exact e1, ?_⟩
        exact hp.nx _ _ q3 _ _ (k1.trans (k2.trans (k3.trans (keep_lst h)))) ((w.keep (k1.trans (k2.trans k3)) r3).keep (keep_lst h) (r3.lstw e0 h (rs.set j (p1.keep (k2.trans k3)))))
      · exact q3.elim
    · exact q3.elim
  · exact q3.elim
end

/-! ### dicts -/
section
open Classical
noncomputable def dval : List (Dv × Dv) → Dv → Option Dv
  | [], _ => none
  | (k', v) :: r, k => if k' = k then some v else dval r k
noncomputable def dput (kvs : List (Dv × Dv)) (k v : Dv) : List (Dv × Dv) := match dval kvs k with
  | some _ => kvs.map fun kv => if kv.1 = k then (kv.1, v) else kv
  | none => kvs ++ [(k, v)]
noncomputable def ddrop (kvs : List (Dv × Dv)) (k : Dv) : List (Dv × Dv) := kvs.filter fun kv => decide (kv.1 ≠ k)
noncomputable def dmerge (kvs more : List (Dv × Dv)) : List (Dv × Dv) := more.foldl (fun acc kv => dput acc kv.1 kv.2) kvs
end
/-- a key of a dict -/
@[simp] def isK : Dv → Option Key
  | .int i => some (.inl i)
  | .str x => some (.inr x)
  | _ => none
theorem isK_kD {d : Dv} {k : Key} (h : isK d = some k) : d = kD k := by
  cases d <;> simp only [isK, Option.some.injEq, reduceCtorEq] at h <;> subst h <;> rfl
theorem rep_kD {K : Kw} {H : Hp} {k : Key} {v : V} (r : Rep K H (kD k) v) : v = kV k := by
  cases k with
  | inl i => exact rep_int.mp r
  | inr x => exact rep_str.mp r
/-- the keys and values of a dict, as they stand -/
def KVs (K : Kw) (H : Hp) (kvs : List (Dv × Dv)) (ys : List (Key × V)) : Prop := kvs.map (·.1) = ys.map (fun y => kD y.1) ∧ Reps K H (kvs.map (·.2)) (ys.map (·.2))
section
variable {K : Kw} {H : Hp}
theorem KVs.cons_inv {p : Dv × Dv} {kvs : List (Dv × Dv)} {ys : List (Key × V)} (h : KVs K H (p :: kvs) ys) : ∃ y ys', ys = y :: ys' ∧ p.1 = kD y.1 ∧ Rep K H p.2 y.2 ∧ KVs K H kvs ys' := by
  obtain ⟨h1, h2⟩ := h
  cases ys with
  | nil => simp at h1
  | cons y ys' =>
    simp only [List.map_cons, List.cons.injEq] at h1 h2
    obtain ⟨z, zs, e, r1, r2⟩ := h2.cons_inv
    simp only [List.cons.injEq] at e
    obtain ⟨rfl, rfl⟩ := e
    exact ⟨y, ys', rfl, h1.1, r1, h1.2, r2⟩
theorem KVs.nil_inv {ys : List (Key × V)} (h : KVs K H [] ys) : ys = [] := by
  have := h.1
  cases ys with
  | nil => rfl
  | cons y ys => simp at this
theorem KVs.nil : KVs K H [] [] := ⟨rfl, .nil⟩
theorem KVs.cons {p : Dv × Dv} {y : Key × V} {kvs : List (Dv × Dv)} {ys : List (Key × V)} (h1 : p.1 = kD y.1) (h2 : Rep K H p.2 y.2) (h : KVs K H kvs ys) : KVs K H (p :: kvs) (y :: ys) := ⟨by simp [h1, h.1], by simp only [List.map_cons]; exact .cons h2 h.2⟩
theorem KVs.append {kvs kvs' : List (Dv × Dv)} {ys ys' : List (Key × V)} (h : KVs K H kvs ys) (h' : KVs K H kvs' ys') : KVs K H (kvs ++ kvs') (ys ++ ys') := ⟨by simp [h.1, h'.1], by simp only [List.map_append]; exact h.2.append h'.2⟩
theorem KVs.length {kvs : List (Dv × Dv)} {ys : List (Key × V)} (h : KVs K H kvs ys) : ys.length = kvs.length := by have := congrArg List.length h.1; simpa using this.symm
theorem KVs.get : ∀ {kvs : List (Dv × Dv)} {ys : List (Key × V)} (k : Key), KVs K H kvs ys → (dval kvs (kD k) = none ∧ valV ys k = none) ∨ ∃ d v, dval kvs (kD k) = some d ∧ valV ys k = some v ∧ Rep K H d v
  | [], ys, k, h => by rw [h.nil_inv]; exact .inl ⟨rfl, rfl⟩
  | (d, e) :: kvs, ys, k, h => by
    obtain ⟨y, ys', rfl, h1, h2, h3⟩ := h.cons_inv
    simp only at h1 h2
    by_cases q : y.1 = k
    · refine .inr ⟨e, y.2, ?_, valV_pos q, h2⟩
      rw [dval, if_pos (by rw [h1, q])]
    · have q' : ¬ d = kD k := fun z => q (kD_inj (h1.symm.trans z))
      rw [dval, if_neg q', valV_neg q]
      exact h3.get k
theorem KVs.putm : ∀ {kvs : List (Dv × Dv)} {ys : List (Key × V)} (k : Key) {d : Dv} {v : V}, KVs K H kvs ys → Rep K H d v →
    KVs K H (kvs.map fun kv => @ite _ (kv.1 = kD k) (Classical.propDecidable _) (kv.1, d) kv) (ys.map fun kv => if kv.1 = k then (kv.1, v) else kv)
  | [], ys, k, _, _, h, _ => by rw [h.nil_inv]; exact .nil
  | (d, e) :: kvs, ys, k, _, _, h, r => by
    obtain ⟨y, ys', rfl, h1, h2, h3⟩ := h.cons_inv
    simp only at h1 h2
    simp only [List.map_cons]
    refine .cons ?_ ?_ (KVs.putm k h3 r)
    · by_cases q : y.1 = k
      · rw [if_pos q, if_pos (by rw [h1, q])]; exact h1
      · rw [if_neg q, if_neg fun z => q (kD_inj (h1.symm.trans z))]; exact h1
    · by_cases q : y.1 = k
      · rw [if_pos q, if_pos (by rw [h1, q])]; exact r
      · rw [if_neg q, if_neg fun z => q (kD_inj (h1.symm.trans z))]; exact h2
theorem KVs.put {kvs : List (Dv × Dv)} {ys : List (Key × V)} (k : Key) {d : Dv} {v : V} (h : KVs K H kvs ys) (r : Rep K H d v) : KVs K H (dput kvs (kD k) d) (putK ys k v) := by
  unfold dput putK
  rw [valV_any]
  rcases h.get k with ⟨h1, h2⟩ | ⟨x, y, h1, h2, _⟩
  · rw [h1, h2]
    simp only [Option.isSome_none, Bool.false_eq_true, if_false]
    exact h.append (.cons rfl r .nil)
  · rw [h1, h2]
    simp only [Option.isSome_some, if_true]
    exact h.putm k r
theorem KVs.drop : ∀ {kvs : List (Dv × Dv)} {ys : List (Key × V)} (k : Key), KVs K H kvs ys → KVs K H (ddrop kvs (kD k)) (dropK ys k)
  | [], ys, k, h => by rw [h.nil_inv]; exact .nil
  | (d, e) :: kvs, ys, k, h => by
    obtain ⟨y, ys', rfl, h1, h2, h3⟩ := h.cons_inv
    simp only at h1 h2
    have ih := KVs.drop k h3
    unfold ddrop dropK at ih ⊢
    rw [List.filter_cons, List.filter_cons]
    by_cases q : y.1 = k
    · have q' : d = kD k := by rw [h1, q]
      simp only [q', q, ne_eq, not_true_eq_false, decide_false, Bool.false_eq_true, if_false]
      exact ih
    · have q' : ¬ d = kD k := fun z => q (kD_inj (h1.symm.trans z))
      simp only [q', q, ne_eq, not_false_eq_true, decide_true, if_true]
      exact .cons h1 h2 ih
theorem KVs.merge : ∀ {more : List (Dv × Dv)} {ms : List (Key × V)} {kvs : List (Dv × Dv)} {ys : List (Key × V)}, KVs K H more ms → KVs K H kvs ys → KVs K H (dmerge kvs more) (mergeK ys ms)
  | [], ms, kvs, ys, h, q => by rw [h.nil_inv]; exact q
  | (d, e) :: more, ms, kvs, ys, h, q => by
    obtain ⟨y, ys', rfl, h1, h2, h3⟩ := h.cons_inv
    simp only at h1 h2
    have := q.put y.1 h2
    rw [← h1] at this
    have ih := KVs.merge (more := more) h3 this
    exact ih
theorem KVs.keep {H' : Hp} {kvs : List (Dv × Dv)} {ys : List (Key × V)} (h : KVs K H kvs ys) (k : Keep K H H') : KVs K H' kvs ys := ⟨h.1, h.2.keep k⟩
end
theorem keep_dk {K : Kw} {H : Hp} {a : Addr} {ys : List (Key × V)} {o : HO} (h : H a = some (.dK ys)) : Keep K H (upd H a o) := .upd fun u z => by
  rw [h] at z; cases z
  exact ⟨fun _ q => HO.noConfusion q, fun _ _ q => HO.noConfusion q⟩
theorem Rel.dctw {K : Kw} {S : Store} {H : Hp} {a : Addr} {ds ds' : List (Dv × Dv)} {ys ys' : List (Key × V)} (r : Rel K S H) (e : S a = some (.dct ds)) (h : H a = some (.dK ys)) (rs : KVs K H ds' ys') : Rel K (up S a (.dct ds')) (upd H a (.dK ys')) :=
  r.write (o' := .dct ds') e fun own _ z => let q := KVs.keep (H' := upd H a (.dK ys')) rs (keep_dk h); ⟨OK1.mine z, ys', upd_same, q.1, q.2⟩
section
variable {X : Cx} {H0 : Hp} {o i e f : Expr} {td ty tv tx : DTE} {pos apos cpos : Pos}
/-- {} -/
@[simp] def dDnew : DTE := fun _ S P => ∀ p, S p = none → P (.ref p) (up S p (.dct []))
theorem de_dnew : DE X H0 (.Dict [] [] pos) dDnew := pe_dnewK.to fun σ H Q h => by
  obtain ⟨δ, S, P, w, ht, hp⟩ := h
  exact fun p hn => hp _ _ (ht p (w.rel.free hn)) _ _ (.new hn) (w.rel.laid hn fun own ow => ⟨ow, [], upd_same, rfl, .nil⟩) (rep_ref.mpr rfl)
/-- what a dict holds at a key -/
@[simp] def gAt (S : Store) (d k : Dv) (P : Option Dv → Prop) : Prop := match d, isK k with
  | .ref a, some _ => (match S a with | some (.dct kvs) => P (dval kvs k) | _ => False)
  | _, _ => False
theorem at_get {K : Kw} {S : Store} {H : Hp} {d k : Dv} {x y : V} {P : Option Dv → Prop} (h : gAt S d k P) (r : Rel K S H) (p1 : Rep K H d x) (p2 : Rep K H k y) :
    ∃ a ov, x = .ref a ∧ DGet H a y ov ∧ ((ov = none ∧ P none) ∨ ∃ d v, ov = some v ∧ Rep K H d v ∧ P (some d)) := by
  unfold gAt at h
  split at h
  · rename_i a key ek
    split at h
    · rename_i kvs e
      obtain ⟨ys, hy, n, rs⟩ := r.dct e
      have ek := isK_kD ek
      rw [ek] at p2 h
      have hyk := rep_kD p2
      refine ⟨a, valV ys key, rep_ref.mp p1, by rw [hyk]; exact .k hy, ?_⟩
      rcases KVs.get key ⟨n, rs⟩ with ⟨h1, h2⟩ | ⟨d, v, h1, h2, h3⟩
      · rw [h1] at h; exact .inl ⟨h2, h⟩
      · rw [h1] at h; exact .inr ⟨d, v, h2, h3, h⟩
    · exact h.elim
  · exact h.elim
@[simp] def dDget (td ty : DTE) : DTE := fun δ S P => td δ S fun d S1 => ty δ S1 fun k S2 => gAt S2 d k fun v => match v with | some v => P v S2 | none => False
theorem de_dget (hu : X.A.units + 1 < cLine) (ho : DE X H0 o td) (hi : DE X H0 i ty) (hs : NoSl i := by exact fun _ _ => rfl) : DE X H0 (.Subscript o i pos) (dDget td ty) := (pe_dget hu ho hi hs).to fun σ H Q h => by
  obtain ⟨δ, S, P, w, ht, hp⟩ := h
  refine ⟨δ, S, _, w, ht, fun d S1 q x H1 k1 r1 p1 => ⟨δ, S1, _, w.keep k1 r1, q, fun k S2 q2 y H2 k2 r2 p2 => ?_⟩⟩
  obtain ⟨a, ov, rfl, g, z⟩ := at_get q2 r2 (p1.keep k2) p2
  rcases z with ⟨_, z⟩ | ⟨d', v, rfl, rv, z⟩
  · exact z.elim
  · exact ⟨a, v, rfl, g, hp _ _ z _ _ (k1.trans k2) r2 rv⟩
@[simp] def dDin (b : Bool → Bool) (ty td : DTE) : DTE := fun δ S P => ty δ S fun k S1 => td δ S1 fun d S2 => gAt S2 d k fun v => P (.bl (b v.isSome)) S2
theorem din_lift {K : Kw} {b : Bool → Bool} : ∀ σ H Q, liftE K H0 (dDin b ty td) σ H Q → liftE K H0 ty σ H fun y H1 => liftE K H0 td σ H1 fun x H2 => ∃ a ov, x = .ref a ∧ DGet H2 a y ov ∧ Q (.bl (b ov.isSome)) H2 := fun σ H Q h => by
  obtain ⟨δ, S, P, w, ht, hp⟩ := h
  refine ⟨δ, S, _, w, ht, fun k S1 q y H1 k1 r1 p1 => ⟨δ, S1, _, w.keep k1 r1, q, fun d S2 q2 x H2 k2 r2 p2 => ?_⟩⟩
  obtain ⟨a, ov, rfl, g, z⟩ := at_get q2 r2 p2 (p1.keep k2)
  refine ⟨a, ov, rfl, g, ?_⟩
  rcases z with ⟨rfl, z⟩ | ⟨d', v, rfl, rv, z⟩
  · exact hp _ _ z _ _ (k1.trans k2) r2 (rep_bl.mpr rfl)
  · exact hp _ _ z _ _ (k1.trans k2) r2 (rep_bl.mpr rfl)
theorem de_din (hu : X.A.units + 1 < cLine) (hi : DE X H0 i ty) (ho : DE X H0 o td) (h1 : behindInMarks .In o = false := by rfl) : DE X H0 (.Compare i [.In] [o] pos) (dDin id ty td) := (pe_cmp (pc_din hu hi ho) h1).to din_lift
theorem de_dnotin (hu : X.A.units + 1 < cLine) (hi : DE X H0 i ty) (ho : DE X H0 o td) (h1 : behindInMarks .NotIn o = false := by rfl) : DE X H0 (.Compare i [.NotIn] [o] pos) (dDin not ty td) := (pe_cmp (pc_dnotin hu hi ho) h1).to din_lift
theorem dt_din (hu : X.A.units + 1 < cLine) (hi : DE X H0 i ty) (ho : DE X H0 o td) (h1 : behindInMarks .In o = false := by rfl) : DT X H0 (.Compare i [.In] [o] pos) (dB (dDin id ty td)) := (pt_cmp (pc_din hu hi ho) h1).to fun σ H Q h => by
  obtain ⟨δ, S, P, w, ht, hp⟩ := h
  refine din_lift (b := id) σ H (fun x H' => ∃ c, x = .bl c ∧ Q c H') ⟨δ, S, _, w, ht, fun d S1 q v H1 k1 r1 p1 => ?_⟩
  split at q
  · exact ⟨_, rep_bl.mp p1, hp _ _ q _ k1 r1⟩
  · exact q.elim
theorem dt_dnotin (hu : X.A.units + 1 < cLine) (hi : DE X H0 i ty) (ho : DE X H0 o td) (h1 : behindInMarks .NotIn o = false := by rfl) : DT X H0 (.Compare i [.NotIn] [o] pos) (dB (dDin not ty td)) := (pt_cmp (pc_dnotin hu hi ho) h1).to fun σ H Q h => by
  obtain ⟨δ, S, P, w, ht, hp⟩ := h
  refine din_lift (b := not) σ H (fun x H' => ∃ c, x = .bl c ∧ Q c H') ⟨δ, S, _, w, ht, fun d S1 q v H1 k1 r1 p1 => ?_⟩
  split at q
  · exact ⟨_, rep_bl.mp p1, hp _ _ q _ k1 r1⟩
  · exact q.elim
/-- d.get(k), d.get(k, x) -/
@[simp] def isDc (d : Dv) (S : Store) : Prop := match d with
  | .ref a => (match S a with | some (.dct _) => True | _ => False)
  | _ => False
theorem isDc_is {K : Kw} {d : Dv} {S : Store} {x : V} {H : Hp} (h : isDc d S) (r : Rel K S H) (p : Rep K H d x) : ∃ a, x = .ref a ∧ IsD H a := by
  unfold isDc at h
  split at h
  · split at h
    · rename_i ds e
      obtain ⟨ys, hy, _⟩ := r.dct e
      exact ⟨_, rep_ref.mp p, .inl ⟨ys, .inl hy⟩⟩
    · exact h.elim
  · exact h.elim
@[simp] def dDget1 (td ty : DTE) : DTE := fun δ S P => td δ S fun d S1 => isDc d S1 ∧ ty δ S1 fun k S2 => gAt S2 d k fun v => P (v.getD .non) S2
@[simp] def dDget2 (td ty tx : DTE) : DTE := fun δ S P => td δ S fun d S1 => isDc d S1 ∧ ty δ S1 fun k S2 => tx δ S2 fun x S3 => gAt S3 d k fun v => P (v.getD x) S3
theorem de_dget1 (hu : X.A.units + 1 < cLine) (ho : DE X H0 o td) (he : DE X H0 e ty) (m : M1 X o "get" apos e cpos) : DE X H0 (.Call (.Attribute o "get" apos) [e] [] cpos) (dDget1 td ty) := (pe_dget1 hu ho he m).to fun σ H Q h => by
  obtain ⟨δ, S, P, w, ht, hp⟩ := h
  refine ⟨δ, S, _, w, ht, fun d S1 q x H1 k1 r1 p1 => ?_⟩
  obtain ⟨a, rfl, isd⟩ := isDc_is q.1 r1 p1
  refine ⟨a, rfl, isd, δ, S1, _, w.keep k1 r1, q.2, fun k S2 q2 y H2 k2 r2 p2 => ?_⟩
  obtain ⟨b, ov, e, g, z⟩ := at_get q2 r2 (p1.keep k2) p2
  cases e
  refine ⟨ov, g, ?_⟩
  rcases z with ⟨rfl, z⟩ | ⟨d', v, rfl, rv, z⟩
  · exact hp _ _ z _ _ (k1.trans k2) r2 (rep_non.mpr rfl)
  · exact hp _ _ z _ _ (k1.trans k2) r2 rv
theorem de_dget2 (hu : X.A.units + 1 < cLine) (ho : DE X H0 o td) (he : DE X H0 e ty) (hf : DE X H0 f tx) (m : M2 X o "get" apos e f cpos) : DE X H0 (.Call (.Attribute o "get" apos) [e, f] [] cpos) (dDget2 td ty tx) := (pe_dget2 hu ho he hf m).to fun σ H Q h => by
  obtain ⟨δ, S, P, w, ht, hp⟩ := h
  refine ⟨δ, S, _, w, ht, fun d S1 q x H1 k1 r1 p1 => ?_⟩
  obtain ⟨a, rfl, isd⟩ := isDc_is q.1 r1 p1
  refine ⟨a, rfl, isd, δ, S1, _, w.keep k1 r1, q.2, fun k S2 q2 y H2 k2 r2 p2 => ⟨δ, S2, _, w.keep (k1.trans k2) r2, q2, fun xd S3 q3 z H3 k3 r3 p3 => ?_⟩⟩
  obtain ⟨b, ov, e, g, zz⟩ := at_get q3 r3 (p1.keep (k2.trans k3)) (p2.keep k3)
  cases e
  refine ⟨ov, g, ?_⟩
  rcases zz with ⟨rfl, zz⟩ | ⟨d', v, rfl, rv, zz⟩
  · exact hp _ _ zz _ _ (k1.trans (k2.trans k3)) r3 p3
  · exact hp _ _ zz _ _ (k1.trans (k2.trans k3)) r3 rv
/-- d[k] = v -/
@[simp] def dDput (td ty tv : DTE) : DTS := fun D δ S => tv δ S fun v S1 => td δ S1 fun d S2 => ty δ S2 fun k S3 => match d, isK k with
  | .ref a, some _ => (match S3 a with | some (.dct kvs) => kvs.length < sizeLine ∧ D.nx δ (up S3 a (.dct (dput kvs k v))) | _ => False)
  | _, _ => False
theorem ds_dput {value : Expr} {pos' : Pos} (hu : X.A.units + 1 < cLine) (ho : DE X H0 o td) (hi : DE X H0 i ty) (hv : DE X H0 value tv) (hs : swapsWith value (some (.Subscript o i pos')) pos.line X.env = pure false := by rfl) :
    DS X H0 (.Assign [.Subscript o i pos'] value pos) (dDput td ty tv) := (ps_dput hu ho hi hv hs).to fun D σ H h => by
  obtain ⟨δ, S, D', w, ht, hp⟩ := h
  refine ⟨δ, S, _, w, ht, fun vd S1 q v H1 k1 r1 p1 => ⟨δ, S1, _, w.keep k1 r1, q, fun d S2 q2 x H2 k2 r2 p2 => ⟨δ, S2, _, w.keep (k1.trans k2) r2, q2, fun k S3 q3 y H3 k3 r3 p3 => ?_⟩⟩⟩
  split at q3
  · rename_i a key ek
    split at q3
    · rename_i kvs e
      obtain ⟨ys, hy, n, rs⟩ := r3.dct e
      have ek := isK_kD ek
      subst ek
      have hyk := rep_kD p3
      have kv : KVs X.kw H3 kvs ys := ⟨n, rs⟩
      refine ⟨a, _, rep_ref.mp p2, by rw [hyk]; exact .k hy (by rw [kv.length]; exact q3.1), ?_⟩
      exact hp.nx _ _ q3.2 _ _ (k1.trans (k2.trans (k3.trans (keep_dk hy)))) ((w.keep (k1.trans (k2.trans k3)) r3).keep (keep_dk hy) (r3.dctw e hy (kv.put key (p1.keep (k2.trans k3)))))
    · exact q3.elim
  · exact q3.elim
end
end Sb

/-! Contracts of defs over data, the end of a law. -/
namespace Sb
open PySem PySem.Spec PyProof.Rows L2

/-- an exception wanted: its class by name, its dict, the store -/
abbrev DX := Str → Option Addr → Store → Prop
abbrev DSp := List Dv → Store → DK → DX → Prop
def PX (K : Kw) (H : Hp) (Pe : DX) (E : XK) : Prop := ∀ c od S1, Pe c od S1 → ∀ C H1, K.mg c = some (.ref C) → Keep K H H1 → Rel K S1 H1 → E (.ref C) od H1
abbrev X0 : DX := fun _ _ _ => False
theorem px0 {K : Kw} {H : Hp} {E : XK} : PX K H X0 E := fun _ _ _ h => h.elim
theorem PX.keep {K : Kw} {H H1 : Hp} {Pe : DX} {E : XK} (h : PX K H Pe E) (k : Keep K H H1) : PX K H1 Pe E := fun c od S1 p C H2 m k2 r => h c od S1 p C H2 m (k.trans k2) r

/-- a def keeps a promise over data -/
structure DFn (P : Program) (w : World) (K : PySem.W.Frag) (mg : Str → Option Value) (base : Heap) (k : Nat) (f : Addr) (fd : FuncData) (ps : List Str) (sp : DSp) : Prop where
  len : ∀ ds S Pq Pe, sp ds S Pq Pe → ds.length = ps.length
  run : ∀ {A : Around} {outer : List Env} {s : Shared} {H : Hp} {args : Args} {us : List Value} {vs : List V} {ds : List Dv} {S : Store} {Pq : DK} {Pe : DX} {Q : VK} {E : XK}, A.guards = some [] → Room k A →
    Env0 P w K mg base A outer s H → BindsTo s fd args (ps.zip us) → Vals vs us → Rel ⟨K, w, mg⟩ S H → Reps ⟨K, w, mg⟩ H ds vs → sp ds S Pq Pe → PV ⟨K, w, mg⟩ H Pq Q → PX ⟨K, w, mg⟩ H Pe E →
    codeAny (model P w) A (.call (.ref f) args) (CR (CX P w) outer P w H s Q E) s
theorem DFn.mono {P : Program} {w : World} {K : PySem.W.Frag} {mg : Str → Option Value} {base : Heap} {j k : Nat} {f : Addr} {fd : FuncData} {ps : List Str} {sp : DSp} (F : DFn P w K mg base j f fd ps sp) (h : j ≤ k) : DFn P w K mg base k f fd ps sp :=
  ⟨F.len, fun g r => F.run g (r.mono h)⟩
/-- a promise that follows -/
theorem DFn.imp {P : Program} {w : World} {K : PySem.W.Frag} {mg : Str → Option Value} {base : Heap} {k : Nat} {f : Addr} {fd : FuncData} {ps : List Str} {sp sp' : DSp} (F : DFn P w K mg base k f fd ps sp)
    (len : ∀ ds S Pq Pe, sp' ds S Pq Pe → ds.length = ps.length) (h : ∀ ds S Pq Pe, sp' ds S Pq Pe → VS ⟨K, w, mg⟩ S fun S0 => sp ds S0 (fun d S1 => VS ⟨K, w, mg⟩ S1 (Pq d)) Pe) : DFn P w K mg base k f fd ps sp' := by
  refine ⟨len, fun g r e b v rl rs q pv px => ?_⟩
  · obtain ⟨S0, r0, q0⟩ := h _ _ _ _ q _ rl
    exact F.run g r e b v r0 rs q0 (fun d S1 p x H1 k1 r1 rep => let ⟨S2, r2, p2⟩ := p H1 r1; pv d S2 p2 x H1 k1 r2 rep) px

section
variable {X : Cx} {H0 : Hp} {k : Nat} {f C : Addr} {fd : FuncData} {ps : List Str} {sp : DSp} {E : XK} {Pe : DX} {x m : Str} {p pos apos : Pos} {e o : Expr} {es : List Expr} {ta : DTE} {t : DTA}
@[simp] def dCall (sp : DSp) (Pe : DX) (t : DTA) : DTE := fun δ S P => t δ S fun ds S1 => sp ds S1 P Pe
theorem go_fn {pins : List (Addr × Obj)} {σ : L2.St} {H : Hp} {s : Shared} {Q : VK} {us : List Value} {vs : List V} {ds : List Dv} {S : Store} {P : DK} (F : DFn X.prog X.w X.K X.mg X.base k f fd ps sp) (hgd : X.A.guards = some []) (hr : Room k X.A)
    (hb : Binds X.K fd ps []) (hx : Passes (CX X.prog X.w) X E) (I : Inv X pins σ H s) (rv : Vals vs us) (rl : Rel X.kw S H) (rs : Reps X.kw H ds vs) (q : sp ds S P Pe) (pv : PV X.kw H P Q) (px : PX X.kw H Pe E) :
    wpAny (model X.prog X.w) X.A (call (.ref f) us) (EP X pins σ Q) X.xe s := by
  have hl : (us ++ []).length = ps.length := by rw [List.append_nil, ← rv.length, rs.length]; exact F.len _ _ _ _ q
  have bnd := hb s us I.kIn hl
  rw [List.append_nil] at bnd
  refine wpAny_call (codeAny_mono (F.run hgd hr I.env0 bnd rv rl rs q pv px) fun r s' hq => ?_)
  cases r with
  | error e => exact hx pins σ H s e s' I hq
  | ok fl =>
    cases fl with
    | ret u => exact I.after hq
    | _ => exact (show False from hq).elim
theorem de_call (F : DFn X.prog X.w X.K X.mg X.base k f fd ps sp) (hgd : X.A.guards = some []) (hr : Room k X.A) (hg : Gl X x) (hm : X.mg x = some (.ref f)) (hk : PySem.W.keepIn X.K (.ref f) = true) (hb : Binds X.K fd ps []) (hx : Passes (CX X.prog X.w) X E) (px : PX X.kw H0 Pe E)
    (ha : DA X H0 (e :: es) t) (hdb : (x == ("__debug__" : Str)) = false := by decide) (he : starEach (e :: es) X.env = (false, eval e X.env) :: starEach es X.env := by rfl)
    (hpl : (backTo pos (starEach es X.env)).any (·.1) = false := by rfl) : DE X H0 (.Call (.Name x p) (e :: es) [] pos) (dCall sp Pe t) := by
  refine ⟨fun pins s σ H Q I h => wpAny_Call_Name_kw (ld_glob I hg hm ?_ hdb)⟩
  obtain ⟨δ, S, P, w, ht, hp⟩ := h
  refine PySem.W.callWith_K (h₀ := X.base) I.ok.mod.kin hk (thn (ha.run pos pins s σ H (fun vs H1 => ∃ ds S1, Keep X.kw H H1 ∧ Rel X.kw S1 H1 ∧ Reps X.kw H1 ds vs ∧ sp ds S1 P Pe) I ⟨δ, S, _, w, ht, fun ds S1 q vs H1 k1 r1 p1 => ⟨ds, S1, k1, r1, p1, q⟩⟩) fun us s1 q => ?_) he hpl
  obtain ⟨vs, H1, I1, rv, ds, S1, k1, r1, p1, q⟩ := q
  exact ⟨I1.kIn, go_fn F hgd hr hb hx I1 rv r1 p1 q (hp.keep k1) (px.keep (w.base.trans k1))⟩
theorem de_call0 (F : DFn X.prog X.w X.K X.mg X.base k f fd ps sp) (hgd : X.A.guards = some []) (hr : Room k X.A) (hg : Gl X x) (hm : X.mg x = some (.ref f)) (hk : PySem.W.keepIn X.K (.ref f) = true) (hb : Binds X.K fd ps []) (hx : Passes (CX X.prog X.w) X E) (px : PX X.kw H0 Pe E)
    (hdb : (x == ("__debug__" : Str)) = false := by decide) : DE X H0 (.Call (.Name x p) [] [] pos) (dCall sp Pe dNil) := by
  refine ⟨fun pins s σ H Q I h => wpAny_Call_Name_kw (ld_glob I hg hm ?_ hdb)⟩
  obtain ⟨δ, S, P, w, ht, hp⟩ := h
  exact PySem.W.callWith_K0 I.kIn hk (go_fn (us := []) F hgd hr hb hx I .nil w.rel .nil ht hp (px.keep w.base))
end

/-! ### a def by its body -/
@[simp] def dstart (N : List Str) (ds : List Dv) : DSt := ds.map some ++ List.replicate (N.length - ds.length) none
theorem wd_start {K : Kw} {H : Hp} {S : Store} {N : List Str} {ds : List Dv} {vs : List V} (r : Rel K S H) (rs : Reps K H ds vs) : Wd K H (L2.start N vs) (dstart N ds) S H := by
  refine ⟨.refl, r, by simp [L2.start, dstart, rs.length], fun i d e => ?_⟩
  unfold dstart at e
  unfold L2.start
  by_cases hi : i < ds.length
  · rw [List.getElem?_append_left (by simpa using hi), List.getElem?_map] at e
    obtain ⟨d', e1, e2⟩ := Option.map_eq_some_iff.mp e
    cases e2
    obtain ⟨v, ev, rv⟩ := rs.get e1
    exact ⟨v, by rw [List.getElem?_append_left (by simpa [rs.length] using hi), List.getElem?_map, ev]; rfl, rv⟩
  · rw [List.getElem?_append_right (by simpa using hi), List.getElem?_replicate] at e
    split at e <;> cases e
section
variable {P : Program} {w : World} {K : PySem.W.Frag} {mg : Str → Option Value} {base : Heap}
theorem guards_deeper {A : Around} {env : Env} (h : A.guards = some []) : (A.deeper env).guards = some [] := by
  first | exact h | simpa [Around.deeper] using h
/-- the promise told by the body's reading -/
def dsp (K : Kw) (N : List Str) (t : DX → DTS) (ds : List Dv) (S : Store) (Pq : DK) (Pe : DX) : Prop :=
  VS K S fun S0 => t Pe { nx := fun _ S1 => VS K S1 (Pq .non), rt := fun d S1 => VS K S1 (Pq d) } (dstart N ds) S0
theorem _root_.L2.Fun.okD {x qual : Str} {st : Stmt} {f : Addr} {fd : FuncData} {N ps : List Str} {k : Nat} {sp : DSp} {t : DX → DTS} (F : Fun K x qual st f fd) (Sc : FnScope N ps (defScope st)) (len : ∀ ds S Pq Pe, sp ds S Pq Pe → ds.length = ps.length)
    (hbody : ∀ (cdv : Value) (A : Around) (outer : List Env) (s : Shared) (H : Hp) (Pe : DX) (E : XK), (A.deeper (PyProof.Rows.envOfC qual (defScope st) s.heap.objs.size f cdv)).guards = some [] → Room k (A.deeper (PyProof.Rows.envOfC qual (defScope st) s.heap.objs.size f cdv)) → PX ⟨K, w, mg⟩ H Pe E →
      DSs (cxOf (CX P w) P w K mg base N qual (defScope st) f cdv A outer s H E) H (defBody st) (t Pe))
    (hsp : ∀ ds S Pq Pe, sp ds S Pq Pe → dsp ⟨K, w, mg⟩ N t ds S Pq Pe) : DFn P w K mg base (k + 1) f fd ps sp := by
  obtain ⟨oc, od, kV, doc, pm, an, cdv, ct, osl, rfl, lk, hcd⟩ := F.ex
  refine ⟨len, fun {A outer s H args us vs ds S Pq Pe Q E} hgd hr e0 hb rv rl rs q pv px => ?_⟩
  have hl : vs.length = ps.length := by rw [rs.length]; exact len _ _ _ _ q
  have old : ∀ b o, base.get? b = some o → s.heap.get? b = some o := fun b o e => (e0.bs b o e).1
  have KX := PySem.W.Frag.In.keeps e0.mod.kin old
  have lim := Heap.NoLimit.keeps e0.mod.nolimit old
  generalize hsc : defScope st = scope at *
  have hkind : ∀ y ∈ ps.zip us, scope.names.lookup y.1 = some .local ∨ (scope.names.lookup y.1 = some .cell ∧ ((cellsFrom (s.heap.objs.size + 1) scope.names []).lookup y.1).isSome = true) := by
    intro y hy
    exact (Sc.par y.1 (List.of_mem_zip (b := y.2) hy).1).imp id fun z => ⟨z, PySem.W.cellsFrom_some _ _ _ (.inl z)⟩
  refine codeAny_call_function hr.depth (KX _ _ lk) rfl Sc.co Sc.gen rfl (PySem.W.codeRec_of KX hcd) (hb _ _ _ _ ?_)
  refine wpAny_newFunctionEnv_cells Sc.kind hkind fun env he s1 x1 => ?_
  subst he
  refine ⟨lim.keeps x1.toInCall.keep, codeAny_func ?_⟩
  have body := hbody cdv A outer s H Pe E (guards_deeper hgd) (hr.deeper _) px
  obtain ⟨S0, r0, q0⟩ := hsp ds S Pq Pe q H rl
  have I := inv_start (CX := CX P w) (E := E) Sc hr.hd e0 hl rv x1
  have go := body.run [] s1 (L2.start N vs) H { nx := fun _ H' => Q .non H', rt := Q } I ⟨_, S0, _, wd_start r0 rs, q0, fun δ1 S1 z σ1 H1 k1 w1 => ?_, fun _ _ z => z.elim, fun _ _ z => z.elim, fun d S1 z v H1 k1 r1 p1 => ?_⟩
  · refine wpAny_mono go (fun fl s' hs => ?_) fun e s' hs => hs
    cases fl with
    | ret u => exact let ⟨v, σ', H', J, ru, hq⟩ := hs; (show CE outer P w H s Q u s' from ⟨v, H', J.os, J.bare, J.base, J.hok, ru, hq⟩)
    | next => exact let ⟨σ', H', J, hq⟩ := hs; (show CE outer P w H s Q .none s' from ⟨.non, H', J.os, J.bare, J.base, J.hok, rfl, hq⟩)
    | brk => exact let ⟨_, _, _, z⟩ := hs; (show False from z).elim
    | cont => exact let ⟨_, _, _, z⟩ := hs; (show False from z).elim
  · obtain ⟨S2, r2, z2⟩ := z H1 w1.rel
    exact pv _ S2 z2 _ H1 k1 r2 (rep_non.mpr rfl)
  · obtain ⟨S2, r2, z2⟩ := z H1 r1
    exact pv _ S2 z2 _ H1 k1 r2 p1
end

/-! ### the end of a law -/
/-- the law's def, called upon the script -/
theorem law_run {P : Program} {w : World} {K : PySem.W.Frag} {mg mb : Str → Option Value} {k : Nat} {fa a : Addr} {fd : FuncData} {x : Str} {sp : DSp} {s1 : Shared} {vs : List Value} {ns : List Int}
    (KX : K.In s1.heap) (hns : s1.heap.Ns mainGlobals mg) (hbu : s1.heap.Ns builtinsNs mb) (hbb : ∀ x : Str, x ≠ "__name__" → mb x = bootBuiltins x) (hlim : s1.heap.NoLimit) (hg : s1.gens = #[])
    (ha : s1.heap.get? a = some { cls := .type "list", data := .seq vs.toArray }) (hi : IntsAre vs ns) (hl : ns.length ≤ sizeLine) (hr : Room k callerA)
    (F : ∀ base : Heap, K.In base → base.Ns mainGlobals mg → DFn P w K mg base k fa fd [x] sp) (hbind : ∀ (s : Shared) (u : Value), BindsTo s fd ⟨[u], []⟩ [(x, u)])
    (hsp : sp [.scr ns] (fun _ => none) (fun d _ => d = .bl true) X0) :
    codeAny (model P w) callerA (.call (.ref fa) ⟨[.ref a], []⟩) (fun r s' => r = .ok (.ret (.bool true)) ∧ OldK s1.heap s'.heap ∧ s'.os = s1.os ∧ AllBare s'.gens) s1 := by
  have rv := vals_ints hi
  obtain ⟨H, hS, hok, hA, hK, hF⟩ : ∃ H : Hp, SqZ ⟨K, w, mg⟩ H a (ns.map V.int) ∧ HOk P w H s1.heap ∧ (∀ b, H b ≠ none → b = a) ∧ (H a ≠ none → K.lookup a = none) ∧ ∀ b u, H b = some u → ∃ o xs, u = .frz o (.lst xs) := by
    cases hk : K.lookup a with
    | some o =>
      have e := KX a o hk
      rw [ha] at e
      cases e
      refine ⟨fun _ => none, .inr ⟨_, vs.toArray, _, hk, rfl, rfl, rfl, ?_, by simpa using rv⟩, fun b u z => absurd z (by simp), fun b z => absurd rfl z, fun z => absurd rfl z, fun b u z => absurd z (by simp)⟩
      rw [List.size_toArray, hi.length]; exact hl
    | none =>
      have key : ∀ (b : Addr) (u : HO), (if b = a then some (HO.frz { cls := .type "list", data := .seq vs.toArray } (.lst (ns.map V.int))) else none) = some u → b = a ∧ u = .frz { cls := .type "list", data := .seq vs.toArray } (.lst (ns.map V.int)) := fun b u z => by
        by_cases hb : b = a
        · rw [if_pos hb] at z; exact ⟨hb, (Option.some.inj z).symm⟩
        · rw [if_neg hb] at z; cases z
      refine ⟨fun b => if b = a then some (.frz { cls := .type "list", data := .seq vs.toArray } (.lst (ns.map V.int))) else none, .inl ⟨_, if_pos rfl⟩, fun b u z => ?_, fun b z => ?_, fun _ => rfl, fun b u z => ⟨_, _, (key b u z).2⟩⟩
      · obtain ⟨rfl, rfl⟩ := key b u z
        exact ⟨ha, by rw [List.length_map]; exact hl, vs, _, rv, ha⟩
      · cases q : (if b = a then some (HO.frz { cls := .type "list", data := .seq vs.toArray } (.lst (ns.map V.int))) else none) with
        | none => exact absurd q z
        | some u => exact (key b u q).1
  have down : ∀ {b : Addr} {o : Obj}, s1.heap.get? b = some o → H b = none → (hidT s1.heap H).get? b = some o := fun e n => hidT_get e n
  have notA : ∀ {b : Addr} {o : Obj} {es : Array DictEntry} {ep : Nat}, s1.heap.get? b = some o → o.data = .dict es ep → H b = none := fun {b o es ep} e d => by
    cases q : H b with
    | none => rfl
    | some u =>
      obtain rfl : b = a := hA b (by rw [q]; exact Option.some_ne_none u)
      rw [ha] at e; cases e
      exact Data.noConfusion (show Data.seq vs.toArray _ = Data.dict es ep from d)
  have nsB : ∀ {b : Addr} {m : Str → Option Value}, s1.heap.Ns b m → (hidT s1.heap H).Ns b m := fun {b m} ⟨o, es, ep, e, d, r⟩ => ⟨o, es, ep, down e (notA e d), d, r⟩
  have inB : K.In (hidT s1.heap H) := fun b o e => down (KX b o e) (by
    cases q : H b with
    | none => rfl
    | some u =>
      obtain rfl : b = a := hA b (by rw [q]; exact Option.some_ne_none u)
      have z := hK (by rw [q]; exact Option.some_ne_none u)
      rw [z] at e; cases e)
  have modB : Mod K mg (hidT s1.heap H) := ⟨inB, nsB hns, ⟨mb, nsB hbu, hbb⟩, let ⟨mc, h1, h2⟩ := hlim; ⟨mc, nsB h1, h2⟩⟩
  have e0 : Env0 P w K mg (hidT s1.heap H) callerA [] s1 H :=
    ⟨rfl, modB, fun _ _ => of_hidT, Nat.le_of_eq (hidT_size _ _), trivial, fun b hb => absurd (show b ∈ ([] : List Addr) from hb) (by simp), hok, .of_eq hg⟩
  have rel0 : Rel ⟨K, w, mg⟩ (fun _ => none) H := ⟨fun _ => none, fun _ _ z => absurd z (by simp), fun _ _ z => absurd z (by simp)⟩
  refine codeAny_mono ((F _ inB (nsB hns)).run (E := fun _ _ _ => False) (Q := fun v _ => v = .bl true) (us := [.ref a]) (vs := [.ref a]) rfl hr e0 (hbind s1 (.ref a)) (.cons (show RelV (.ref a) (.ref a) from rfl) .nil) rel0 (.cons (rep_scr.mpr ⟨a, rfl, hS⟩) .nil) hsp
    (fun d S' q v H' _ _ rp => by subst q; exact rep_bl.mp rp) px0) fun r s' h => ?_
  cases r with
  | error e => exact let ⟨_, _, _, _, _, _, _, _, _, _, _, _, z⟩ := h; z.elim
  | ok fl =>
    cases fl with
    | ret u =>
      obtain ⟨v, H', os, bare, un, hok', r', q⟩ := h
      obtain rfl : v = .bl true := q
      obtain rfl : u = Value.bool true := r'
      refine ⟨rfl, OldK.of_keep fun b o e => ?_, os, bare⟩
      cases q : H b with
      | none => exact un.keep b o e q (fun z => absurd (show b ∈ ([] : List Addr) from z) (by simp)) (by simp)
      | some u =>
        obtain ⟨ob, xs, rfl⟩ := hF b u q
        have q2 := un.frzs b ob _ q
        have e1 := (hok b _ q).1
        have e2 := (hok' b _ q2).1
        rw [e] at e1; cases e1
        exact e2
    | _ => exact (show False from h).elim
/-- the goal that k_head leaves, from the law's promise -/
theorem law_walk {l : PySem.W.OpenLaw} {n k : Nat} {q : Program} {loose : List Str} {XP : (Str → Option Value) → Heap → Prop} {YP : World → Heap → Prop} {d : DefRec} {K : Params → PySem.W.Frag} {sp : DSp} {x : Str}
    (hn : l.most = some n) (hn2 : n ≤ sizeLine) (hdf : d.params.defaults = []) (hr : Room k callerA) (hY : ∀ (w : World) (h : Heap), YP w h → (K w.params).In h)
    (F : ∀ (w : World) (mg : Str → Option Value) (fa : Addr) (h : Heap), (K w.params).In h → h.Ns mainGlobals mg → mg d.name = some (.ref fa) →
      ∃ fd : FuncData, (∀ (s : Shared) (u : Value), BindsTo s fd ⟨[u], []⟩ [(x, u)]) ∧ ∀ base : Heap, (K w.params).In base → base.Ns mainGlobals mg → DFn l.prog w (K w.params) mg base k fa fd [x] sp)
    (hsp : ∀ ns : List Int, ns.length ≤ n → (∀ z ∈ ns, Builtin.Int.intBits z ≤ 1048576) → sp [.scr ns] (fun _ => none) (fun d _ => d = .bl true) X0) :
    PySem.W.WalkO q loose XP YP l.row.toRowW d [] (fun f vs => PySem.call f vs) := by
  refine Att.attach_callB hn hdf fun w s0 s1 mg mb fa o pm cd doc a vs ns G Y ho hd hcd hmg hobj hints hlen hbits hg => ?_
  obtain ⟨fd, hb, hF⟩ := F w mg fa _ (hY w _ Y) G.T.g hmg
  exact law_run (hY w _ Y) G.T.g G.T.b G.T.builtins G.T.nolimit hg hobj hints (Nat.le_trans hlen hn2) hr hF hb (hsp ns hlen hbits)

/-! ### what a caller needs of a def -/
structure Cal (P : Program) (w : World) (K : PySem.W.Frag) (mg : Str → Option Value) (base : Heap) (k : Nat) (x : Str) (ps : List Str) (sp : DSp) : Prop where
  ex : ∃ f fd, mg x = some (.ref f) ∧ PySem.W.keepIn K (.ref f) = true ∧ L2.Binds K fd ps [] ∧ DFn P w K mg base k f fd ps sp
section
variable {X : Cx} {H0 : Hp} {k j : Nat} {ps : List Str} {sp : DSp} {x : Str} {p pos : Pos} {e : Expr} {es : List Expr} {t : DTA}
theorem passN {X : Cx} : Passes (CX X.prog X.w) X E0 := passL
/-- f(..), nothing raised -/
theorem de_fn (c : Cal X.prog X.w X.K X.mg X.base j x ps sp) (hgd : X.A.guards = some []) (hr : Room k X.A) (ha : DA X H0 (e :: es) t) (hj : j ≤ k := by decide) (hg : Gl X x := by rfl) (hdb : (x == ("__debug__" : Str)) = false := by decide)
    (he : starEach (e :: es) X.env = (false, eval e X.env) :: starEach es X.env := by rfl) (hpl : (backTo pos (starEach es X.env)).any (·.1) = false := by rfl) : DE X H0 (.Call (.Name x p) (e :: es) [] pos) (dCall sp X0 t) :=
  let ⟨_, _, hm, hk, hb, F⟩ := c.ex
  de_call F hgd (hr.mono hj) hg hm hk hb passN px0 ha hdb he hpl
theorem de_fn0 (c : Cal X.prog X.w X.K X.mg X.base j x ps sp) (hgd : X.A.guards = some []) (hr : Room k X.A) (hj : j ≤ k := by decide) (hg : Gl X x := by rfl) (hdb : (x == ("__debug__" : Str)) = false := by decide) : DE X H0 (.Call (.Name x p) [] [] pos) (dCall sp X0 dNil) :=
  let ⟨_, _, hm, hk, hb, F⟩ := c.ex
  de_call0 F hgd (hr.mono hj) hg hm hk hb passN px0 hdb
end
theorem PX.vs {K : Kw} {H : Hp} {Pe : DX} {E : XK} (h : PX K H Pe E) : PX K H (fun c od S1 => VS K S1 (Pe c od)) E := fun c od S1 v C H1 m k r => let ⟨S2, r2, p⟩ := v H1 r; h c od S2 p C H1 m k r2
/-- the same, the view may shift where an exception leaves -/
abbrev dspV (K : Kw) (N : List Str) (t : DX → DTS) (ds : List Dv) (S : Store) (Pq : DK) (Pe : DX) : Prop := dsp K N (fun Pe => t fun c od S1 => VS K S1 (Pe c od)) ds S Pq Pe
end Sb

/-! Small things that the printed terms name. -/
namespace Sb
open PySem PySem.Spec L2
theorem units_n {A : Around} {k : Nat} (hr : Room k A) (n : Nat) (h : n ≤ 200 := by decide) : A.units + n < cLine := by have := hr.un; omega
theorem units_1 {A : Around} {k : Nat} (hr : Room k A) : A.units + 1 < cLine := units_n hr 1
theorem units_64 {A : Around} {k : Nat} (hr : Room k A) : A.units + 64 < cLine := units_n hr 64
theorem units_65 {A : Around} {k : Nat} (hr : Room k A) : A.units + 65 < cLine := units_n hr 65
theorem units_100 {A : Around} {k : Nat} (hr : Room k A) : A.units + 100 < cLine := units_n hr 100
/-- a def of the top -/
structure Def (K : PySem.W.Frag) (mg : Str → Option Value) (x qual : Str) (st : Stmt) : Prop where
  ex : ∃ f fd, Fun K x qual st f fd ∧ mg x = some (.ref f)
theorem def_mk {K : PySem.W.Frag} {h : Heap} {mg : Str → Option Value} {x qual : Str} {st : Stmt} (X : K.In h) (G : h.Ns mainGlobals mg) {f : Addr} {oc : Value} {od an : Option Addr} {osl : Array (Option Value)} {kV doc pm cdv ct : Value}
    (a : PySem.W.nsIn K mainGlobals x = some (some (.ref f))) (l : K.lookup f = some ⟨oc, od, .func (PySem.W.fnOf x qual (defArgs st) (defBody st) (defScope st) .none kV doc pm an cdv ct), osl⟩)
    (c : PySem.W.codeIn K cdv qual = true) (k : PySem.W.keepIn K (.ref f) = true) : Def K mg x qual st := ⟨f, _, fun_mk l c k, PySem.W.mg_of X G a⟩

/-! ### {k: v, ..} -/
@[simp] def dPairs : List (DTE × DTE) → DSt → Store → (List (Dv × Dv) → Store → Prop) → Prop
  | [], _, S, P => P [] S
  | (tk, tv) :: r, δ, S, P => tk δ S fun k S1 => tv δ S1 fun v S2 => dPairs r δ S2 fun kvs S3 => P ((k, v) :: kvs) S3
@[simp] def dDisp (trs : List (DTE × DTE)) : DTE := fun δ S P => ∀ p, S p = none → dPairs trs δ (up S p (.dct [])) fun kvs S2 => S2 p = some (.dct []) ∧ kvs.length ≤ 15 ∧ (∀ kv ∈ kvs, (isK kv.1).isSome = true) ∧ P (.ref p) (up S2 p (.dct (dmerge [] kvs)))
def liftPs (K : Kw) (H0 : Hp) (trs : List (DTE × DTE)) : List (TE × TE) := trs.map fun p => (liftE K H0 p.1, liftE K H0 p.2)
theorem pairs_lift {K : Kw} {H0 : Hp} : ∀ (trs : List (DTE × DTE)) (σ : L2.St) (δ : DSt) (S : Store) (H : Hp) (P : List (Dv × Dv) → Store → Prop) (Q : List (V × V) → Hp → Prop), Wd K H0 σ δ S H → dPairs trs δ S P →
    (∀ kvs S', P kvs S' → ∀ ps H', Keep K H H' → Rel K S' H' → Reps K H' (kvs.map (·.1)) (ps.map (·.1)) → Reps K H' (kvs.map (·.2)) (ps.map (·.2)) → Q ps H') → tPairs (liftPs K H0 trs) σ H Q
  | [], σ, δ, S, H, P, Q, w, h, hq => hq [] S h [] H .refl w.rel .nil .nil
  | (tk, tv) :: r, σ, δ, S, H, P, Q, w, h, hq => by
    simp only [dPairs] at h
    refine ⟨δ, S, _, w, h, fun k S1 q1 kx H1 k1 r1 p1 => ⟨δ, S1, _, w.keep k1 r1, q1, fun v S2 q2 vx H2 k2 r2 p2 => ?_⟩⟩
    refine pairs_lift r σ δ S2 H2 _ _ (w.keep (k1.trans k2) r2) q2 fun kvs S3 q3 ps H3 k3 r3 a b => hq _ _ q3 _ H3 (k1.trans (k2.trans k3)) r3 ?_ ?_
    · simp only [List.map_cons]; exact .cons (p1.keep (k2.trans k3)) a
    · simp only [List.map_cons]; exact .cons (p2.keep k3) b
theorem kvs_of {K : Kw} {H : Hp} : ∀ (kvs : List (Dv × Dv)) (ps : List (V × V)), (∀ kv ∈ kvs, (isK kv.1).isSome = true) → Reps K H (kvs.map (·.1)) (ps.map (·.1)) → Reps K H (kvs.map (·.2)) (ps.map (·.2)) →
    ∃ ys : List (Key × V), ps = ys.map (fun kv => (kV kv.1, kv.2)) ∧ KVs K H kvs ys ∧ ys.length = kvs.length
  | [], ps, _, a, _ => by
    have e := a.nil_inv
    simp only [List.map_nil, List.map_eq_nil_iff] at e
    exact ⟨[], e, .nil, rfl⟩
  | (d, e) :: kvs, ps, h, a, b => by
    simp only [List.map_cons] at a b
    obtain ⟨x, xs, e1, r1, a2⟩ := a.cons_inv
    obtain ⟨y, ys', e2, r2, b2⟩ := b.cons_inv
    cases ps with
    | nil => simp at e1
    | cons p ps =>
      simp only [List.map_cons, List.cons.injEq] at e1 e2
      obtain ⟨rfl, rfl⟩ := e1
      obtain ⟨rfl, rfl⟩ := e2
      obtain ⟨ys, h1, h2, h3⟩ := kvs_of kvs ps (fun kv hk => h kv (by simp [hk])) a2 b2
      obtain ⟨key, ek⟩ := Option.isSome_iff_exists.mp (h (d, e) (by simp))
      have ed := isK_kD ek
      simp only at ed
      have ev := rep_kD (by rw [ed] at r1; exact r1)
      exact ⟨(key, p.2) :: ys, by simp only [List.map_cons, ← h1, ← ev], .cons ed r2 h2, by simp [h3]⟩
section
variable {X : Cx} {H0 : Hp} {pos : Pos}
abbrev DPPs (X : Cx) (H0 : Hp) (pos : Pos) (keys : List (Option Expr)) (values : List Expr) (trs : List (DTE × DTE)) : Prop := PPs X pos keys values (liftPs X.kw H0 trs)
theorem dpp_nil : DPPs X H0 pos [] [] [] := pps_nil
theorem dpp_cons {k v : Expr} {ks : List (Option Expr)} {vs : List Expr} {tk tv : DTE} {trs : List (DTE × DTE)} (hk : DE X H0 k tk) (hv : DE X H0 v tv) (hr : DPPs X H0 pos ks vs trs) : DPPs X H0 pos (some k :: ks) (v :: vs) ((tk, tv) :: trs) := pps_cons hk hv hr
theorem de_disp {keys : List (Option Expr)} {values : List Expr} {trs : List (DTE × DTE)} (h : DPPs X H0 pos keys values trs) (hall : keys.all (·.isSome) = true := by rfl) (hl : keys.length = values.length := by rfl) (h0 : keys ≠ [] := by exact fun z => nomatch z) (h15 : keys.length ≤ 15 := by decide) :
    DE X H0 (.Dict keys values pos) (dDisp trs) := (pe_disp h hall hl h0 h15).to fun σ H Q q => by
  obtain ⟨δ, S, P, w, ht, hp⟩ := q
  intro p hn
  have r0 : Rel X.kw (up S p (.dct [])) (upd H p (.dK [])) := w.rel.laid hn fun own ow => ⟨ow, [], upd_same, rfl, .nil⟩
  refine pairs_lift trs σ δ _ _ _ _ (w.keep (.new hn) r0) (ht p (w.rel.free hn)) fun kvs S2 q2 ps H2 k2 r2 a b => ?_
  obtain ⟨e0, l15, hk, q2⟩ := q2
  obtain ⟨ys, e1, kv, e2⟩ := kvs_of kvs ps hk a b
  obtain ⟨ys0, hy0, n0, _⟩ := r2.dct e0
  have : ys0 = [] := by
    cases ys0 with
    | nil => rfl
    | cons _ _ => simp at n0
  subst this
  exact ⟨hy0, ys, e1, by omega, hp _ _ q2 _ _ ((Keep.new hn).trans (k2.trans (keep_dk hy0))) (r2.dctw e0 hy0 (kv.merge .nil)) (rep_ref.mpr rfl)⟩
end
end Sb

/-! For the reasoning over data. -/
namespace Sb
open PySem PySem.Spec L2

@[simp] theorem szl : sizeLine = 16777216 := sizeLine_eq
@[simp] theorem up_same' {S : Store} {a : Addr} {o : O} : up S a o a = some o := up_same
@[simp] theorem up_up' {S : Store} {a : Addr} {o u : O} : up (up S a o) a u = up S a u := up_up
@[simp] theorem up_none' {S : Store} {a b : Addr} {o : O} : (up S a o b = none) ↔ (b ≠ a ∧ S b = none) := up_none
/-- a part of a store -/
def Sub (S' S : Store) : Prop := ∀ a o, S' a = some o → S a = some o
theorem Sub.refl {S : Store} : Sub S S := fun _ _ h => h
theorem Sub.trans {S S1 S2 : Store} (a : Sub S S1) (b : Sub S1 S2) : Sub S S2 := fun c o h => b c o (a c o h)
theorem Sub.new {S' S : Store} {a : Addr} {o : O} (h : Sub S' S) (hn : S' a = none) : Sub S' (up S a o) := fun b u e => by
  by_cases q : b = a
  · subst q; rw [hn] at e; cases e
  · rw [up_ne q]; exact h b u e
theorem Sub.up {S' S : Store} {a : Addr} {o : O} (h : Sub S' S) : Sub (up S' a o) (up S a o) := fun b u e => by
  by_cases q : b = a
  · subst q; rw [up_same] at e ⊢; exact e
  · rw [up_ne q] at e ⊢; exact h b u e
theorem VS.sub {K : Kw} {S S' : Store} {P : Store → Prop} (hs : Sub S' S) (h : P S') : VS K S P := VS.drop hs h
theorem reps_ints_inv {K : Kw} {H : Hp} : ∀ {ns : List Int} {xs : List V}, Reps K H (ns.map Dv.int) xs → xs = ns.map V.int
  | [], xs, h => h.nil_inv
  | n :: ns, xs, h => by
    obtain ⟨y, ys, rfl, a, b⟩ := h.cons_inv
    rw [rep_int.mp a, reps_ints_inv b]; rfl
/-- the pen put together -/
theorem VS.mkPen {K : Kw} {S S' : Store} {P : Store → Prop} {a l : Addr} {i j : Int} {ns : List Int} (ha : S a = some (.lst [.ref l, .int i, .int j])) (hl : S l = some (.lst (ns.map .int))) (hla : l ≠ a) (h0 : 0 ≤ i) (h63 : ns.length ≤ 63)
    (hs : ∀ b o, b ≠ a → S' b = some o → S b = some o) (hn : S' l = none) (h : P (up S' a .pen)) : VS K S P := fun H r => by
  refine ⟨_, ?_, h⟩
  obtain ⟨own, h1, h2⟩ := r.ex
  have ka := h2 a _ ha
  have kl := h2 l _ hl
  have oa := OK1.mine ka
  have ol := OK1.mine kl
  refine ⟨fun c => if c = l then some a else own c, fun c b e => ?_, fun b o e => ?_⟩
  · dsimp only at e
    by_cases hc : c = l
    · subst hc
      exact ⟨by rw [up_ne hla]; exact hn, OK1.there kl⟩
    · rw [if_neg hc] at e
      obtain ⟨e1, e2⟩ := h1 c b e
      have ca : c ≠ a := fun z => by rw [z, oa] at e; cases e
      refine ⟨?_, e2⟩
      rw [up_ne ca]
      cases q : S' c with
      | none => rfl
      | some u => rw [hs c u ca q] at e1; cases e1
  · by_cases hb : b = a
    · subst hb
      rw [up_same] at e; cases e
      obtain ⟨_, xs, ex, rx⟩ := ka
      obtain ⟨_, ys, ey, ry⟩ := kl
      obtain ⟨v, u, z, rfl, q1, q2, q3⟩ := reps3 rx
      rw [rep_ref.mp q1, rep_int.mp q2, rep_int.mp q3] at ex
      rw [reps_ints_inv ry] at ey
      exact ⟨(if_neg (Ne.symm hla)).trans oa, l, i, j, ns, ex, if_pos rfl, ey, h0, h63⟩
    · rw [up_ne hb] at e
      have bl : b ≠ l := fun z => by rw [z, hn] at e; cases e
      refine OK1.frame (h2 b o (hs b o hb e)) .refl (if_neg bl) (fun c q => ?_) fun _ _ _ => rfl
      have cl : c ≠ l := fun z => by rw [z, ol] at q; cases q
      rw [if_neg cl]; exact q
/-- the pen taken apart -/
theorem VS.openPen {K : Kw} {S : Store} {P : Store → Prop} {a : Addr} (ha : S a = some .pen)
    (h : ∀ (l : Addr) (i j : Int) (ns : List Int), l ≠ a → S l = none → 0 ≤ i → ns.length ≤ 63 → P (up (up S l (.lst (ns.map .int))) a (.lst [.ref l, .int i, .int j]))) : VS K S P := fun H r => by
  obtain ⟨own, h1, h2⟩ := r.ex
  have ka := h2 a _ ha
  obtain ⟨oa, l, i, j, ns, ex, ol, ey, h0, h63⟩ := id ka
  have la : l ≠ a := fun z => by rw [z, oa] at ol; cases ol
  have Sl := (h1 l a ol).1
  refine ⟨_, ?_, h l i j ns la Sl h0 h63⟩
  refine ⟨fun c => if c = l then none else own c, fun c b e => ?_, fun b o e => ?_⟩
  · dsimp only at e
    by_cases hc : c = l
    · rw [if_pos hc] at e; cases e
    · rw [if_neg hc] at e
      obtain ⟨e1, e2⟩ := h1 c b e
      have ca : c ≠ a := fun z => by rw [z, oa] at e; cases e
      exact ⟨by rw [up_ne ca, up_ne hc]; exact e1, e2⟩
  · by_cases hb : b = a
    · subst hb
      rw [up_same] at e; cases e
      exact ⟨(if_neg (Ne.symm la)).trans oa, _, ex, .cons (rep_ref.mpr rfl) (.cons (rep_int.mpr rfl) (.cons (rep_int.mpr rfl) .nil))⟩
    · rw [up_ne hb] at e
      by_cases hc : b = l
      · subst hc
        rw [up_same] at e; cases e
        exact ⟨if_pos rfl, _, ey, Reps.ints ns⟩
      · rw [up_ne hc] at e
        refine OK1.frame (h2 b o e) .refl (if_neg hc) (fun c q => ?_) fun _ _ _ => rfl
        have cl : c ≠ l := fun z => by rw [z, ol] at q; cases q; exact hb rfl
        rw [if_neg cl]; exact q

theorem dSeq_mk {t u : DTS} {D : DEnds} {δ : DSt} {S : Store} (h : t { D with nx := u D } δ S) : dSeq t u D δ S := h
theorem dSeqV_mk {K : Kw} {t u : DTS} {D : DEnds} {δ : DSt} {S : Store} (h : t { D with nx := fun δ1 S1 => VS K S1 fun S2 => u D δ1 S2 } δ S) : dSeqV K t u D δ S := h
theorem dFor_mk {wi : DTI} {p : Pat} {tb : DTS} {D : DEnds} {δ : DSt} {S : Store} (h : wi δ S fun items G S1 => forL p tb D G items δ S1) : dFor wi p tb D δ S := h
/-- a loop, by what holds ahead of the i-th turn -/
theorem forL_ind {p : Pat} {tb : DTS} {D : DEnds} {G : Grd} {items : List Dv} {δ : DSt} {S : Store} (I : Nat → DSt → Store → Prop) (h0 : I 0 δ S)
    (step : ∀ i x δ S, items[i]? = some x → I i δ S → ∀ N : DSt → Store → Prop, (∀ δ' S', I (i + 1) δ' S' → N δ' S') → G S ∧ ∃ δ1, pset p x δ = some δ1 ∧ tb { D with nx := N, ct := N, bk := D.nx } δ1 S)
    (done : ∀ δ S, I items.length δ S → G S ∧ D.nx δ S) : forL p tb D G items δ S := by
  have go : ∀ (n i : Nat), n = items.length - i → i ≤ items.length → ∀ δ S, I i δ S → forL p tb D G (items.drop i) δ S := by
    intro n
    induction n with
    | zero =>
      intro i h1 h2 δ S h
      have e : i = items.length := by omega
      subst e
      rw [List.drop_length]
      simp only [forL]
      exact done δ S h
    | succ n ih =>
      intro i h1 h2 δ S h
      have hlt : i < items.length := by omega
      rw [List.drop_eq_getElem_cons hlt]
      simp only [forL]
      obtain ⟨g, δ1, e, q⟩ := step i items[i] δ S (List.getElem?_eq_getElem hlt) h _ fun δ' S' z => ih (i + 1) (by omega) hlt δ' S' z
      rw [e]
      exact ⟨g, q⟩
  have := go _ 0 rfl (Nat.zero_le _) δ S h0
  simpa using this
/-- a comprehension whose element changes nothing -/
theorem lcRun_pure {p : Pat} {tt : DTT} {te : DTE} {δ : DSt} {G : Grd} {D : Addr} {P : DK} {S0 : Store} (f : Dv → Option Dv) : ∀ (items acc : List Dv), acc.length + items.length ≤ 16777216 → (∀ acc, G (up S0 D (.lst acc))) →
    (∀ x ∈ items, ∃ δ1, pset p x δ = some δ1 ∧ ∀ (acc : List Dv) (N1 : DK) (N2 : Store → Prop), (∀ y, f x = some y → N1 y (up S0 D (.lst acc))) → (f x = none → N2 (up S0 D (.lst acc))) →
      tt δ1 (up S0 D (.lst acc)) fun b S2 => if b = true then te δ1 S2 N1 else N2 S2) →
    P (.ref D) (up S0 D (.lst (acc ++ items.filterMap f))) → lcRun p tt te δ G D P items (up S0 D (.lst acc))
  | [], acc, _, hG, _, h => by
    simp only [lcRun]
    exact ⟨hG acc, by simpa using h⟩
  | x :: xs, acc, hl, hG, hs, h => by
    simp only [lcRun]
    obtain ⟨δ1, e, q⟩ := hs x (by simp)
    rw [e]
    refine ⟨hG acc, q acc _ _ (fun y fy => ?_) fun fn => ?_⟩
    · simp only [up_same, up_up, szl]
      simp only [List.length_cons] at hl
      refine ⟨by omega, lcRun_pure f xs (acc ++ [y]) (by simp; omega) hG (fun x hx => hs x (by simp [hx])) ?_⟩
      rw [List.filterMap_cons_some fy] at h
      simpa using h
    · refine lcRun_pure f xs acc (by simp at hl; omega) hG (fun x hx => hs x (by simp [hx])) ?_
      rw [List.filterMap_cons_none fn] at h
      exact h
theorem lc_mk {wi : DTI} {p : Pat} {tt : DTT} {te : DTE} {vs : List Nat} {δ : DSt} {S : Store} {P : DK} (h : wi δ S fun items G S1 => ∀ D, S1 D = none → lcRun p tt te (wipeD δ vs) G D P items (up S1 D (.lst []))) : dLc wi p tt te vs δ S P := h

/-! ### places -/
@[simp] theorem atI_0 {α : Type} (xs : List α) : atI xs 0 = xs[0]? := by
  unfold atI ixN
  by_cases h : (0 : Int) < xs.length
  · have h' : 0 < xs.length := by omega
    simp [h']
  · simp only [Int.le_refl, if_true, h, if_false]
    have : xs = [] := by cases xs <;> simp_all
    subst this; rfl
@[simp] theorem atI_nat' {α : Type} (xs : List α) (n : Nat) : atI xs (n : Int) = xs[n]? := by
  unfold atI ixN
  by_cases h : (n : Int) < xs.length
  · simp [h]
  · simp only [Int.natCast_nonneg, if_true, h, if_false]
    exact (List.getElem?_eq_none (by omega)).symm
@[simp] theorem atI_2 {α : Type} (xs : List α) : atI xs 2 = xs[2]? := atI_nat' xs 2
@[simp] theorem atI_3 {α : Type} (xs : List α) : atI xs 3 = xs[3]? := atI_nat' xs 3
@[simp] theorem atI_4 {α : Type} (xs : List α) : atI xs 4 = xs[4]? := atI_nat' xs 4
@[simp] theorem atI_5 {α : Type} (xs : List α) : atI xs 5 = xs[5]? := atI_nat' xs 5
@[simp] theorem atI_6 {α : Type} (xs : List α) : atI xs 6 = xs[6]? := atI_nat' xs 6
@[simp] theorem atI_7 {α : Type} (xs : List α) : atI xs 7 = xs[7]? := atI_nat' xs 7
@[simp] theorem atI_1 {α : Type} (xs : List α) : atI xs 1 = xs[1]? := atI_nat' xs 1
theorem atI_of {α : Type} {xs : List α} {i : Int} (h : 0 ≤ i) : atI xs i = xs[i.toNat]? := by
  obtain ⟨n, rfl⟩ := Int.eq_ofNat_of_zero_le h
  simp
@[simp] theorem ixN_0 (n : Nat) : ixN n 0 = if 0 < n then some 0 else none := by
  unfold ixN; by_cases h : 0 < n <;> simp [h]
@[simp] theorem ixN_nat (n k : Nat) : ixN n (k : Int) = if k < n then some k else none := by
  unfold ixN; by_cases h : k < n <;> simp [h]
@[simp] theorem ixN_2 (n : Nat) : ixN n 2 = if 2 < n then some 2 else none := ixN_nat n 2
@[simp] theorem ixN_3 (n : Nat) : ixN n 3 = if 3 < n then some 3 else none := ixN_nat n 3
@[simp] theorem ixN_4 (n : Nat) : ixN n 4 = if 4 < n then some 4 else none := ixN_nat n 4
@[simp] theorem ixN_5 (n : Nat) : ixN n 5 = if 5 < n then some 5 else none := ixN_nat n 5
@[simp] theorem ixN_6 (n : Nat) : ixN n 6 = if 6 < n then some 6 else none := ixN_nat n 6
@[simp] theorem ixN_7 (n : Nat) : ixN n 7 = if 7 < n then some 7 else none := ixN_nat n 7
@[simp] theorem ixN_1 (n : Nat) : ixN n 1 = if 1 < n then some 1 else none := ixN_nat n 1
end Sb

/-! Plain data: no references. -/
namespace Sb
open PySem PySem.Spec L2

mutual
def toP : Dv → PyData
  | .non => .none
  | .bl b => .bool b
  | .int i => .int i
  | .str x => .str x
  | .tup ds => .tuple (toPs ds)
  | .ty _ => .none
  | .ref _ => .none
  | .scr ns => .list (ns.map .int)
def toPs : List Dv → List PyData
  | [] => []
  | d :: ds => toP d :: toPs ds
end
mutual
/-- no reference, no truth value -/
def plain : Dv → Bool
  | .non => true
  | .int _ => true
  | .str x => PyData.strOk x
  | .tup ds => plains ds
  | .bl _ => false
  | .ty _ => false
  | .ref _ => false
  | .scr _ => false
def plains : List Dv → Bool
  | [] => true
  | d :: ds => plain d && plains ds
end
mutual
def dep : Dv → Nat
  | .tup ds => deps ds + 1
  | .non => 0
  | .int _ => 0
  | .str _ => 0
  | .bl _ => 0
  | .ty _ => 0
  | .ref _ => 0
  | .scr _ => 0
def deps : List Dv → Nat
  | [] => 0
  | d :: ds => max (dep d) (deps ds)
end
mutual
theorem datE_plain (f : Addr → Option PyData) : ∀ d : Dv, plain d = true → datE f d = some (toP d)
  | .non, _ => rfl
  | .int _, _ => rfl
  | .str _, _ => rfl
  | .tup ds, h => by
    simp only [plain] at h
    simp only [datE, datEs_plain f ds h, Option.map_some, toP]
  | .bl _, h => by simp [plain] at h
  | .ty _, h => by simp [plain] at h
  | .ref _, h => by simp [plain] at h
  | .scr _, h => by simp [plain] at h
theorem datEs_plain (f : Addr → Option PyData) : ∀ ds : List Dv, plains ds = true → datEs f ds = some (toPs ds)
  | [], _ => rfl
  | d :: ds, h => by
    simp only [plains, Bool.and_eq_true] at h
    simp only [datEs, datE_plain f d h.1, datEs_plain f ds h.2, Option.bind_some, Option.map_some, toPs]
end
mutual
theorem lay_plain : ∀ d : Dv, plain d = true → (toP d).canLay0 = true ∧ (toP d).depth = dep d
  | .non, _ => by simp [toP, PyData.canLay0, PyData.depth, dep]
  | .int _, _ => by simp [toP, PyData.canLay0, PyData.depth, dep]
  | .str _, h => by
    simp only [plain] at h
    simpa [toP, PyData.canLay0, PyData.depth, dep] using h
  | .tup ds, h => by
    simp only [plain] at h
    have := lays_plain ds h
    simp [toP, PyData.canLay0, PyData.depth, dep, this.1, this.2]
  | .bl _, h => by simp [plain] at h
  | .ty _, h => by simp [plain] at h
  | .ref _, h => by simp [plain] at h
  | .scr _, h => by simp [plain] at h
theorem lays_plain : ∀ ds : List Dv, plains ds = true → PyData.canLayAll0 (toPs ds) = true ∧ PyData.depthAll (toPs ds) = deps ds
  | [], _ => by simp [toPs, PyData.canLayAll0, PyData.depthAll, deps]
  | d :: ds, h => by
    simp only [plains, Bool.and_eq_true] at h
    have h1 := lay_plain d h.1
    have h2 := lays_plain ds h.2
    simp [toPs, PyData.canLayAll0, PyData.depthAll, deps, h1, h2]
end
theorem shaped_plain {d : Dv} (h : plain d = true) (hd : dep d ≤ 64) : SeqAt.shaped (toP d) = true := by
  have := lay_plain d h
  unfold SeqAt.shaped
  simp [this.1, this.2, hd]
mutual
theorem eqv_plain : ∀ d e : Dv, plain d = true → plain e = true → (PyData.eqv (toP d) (toP e) = true ↔ d = e)
  | .non, e, _, h2 => by cases e <;> simp_all [toP, PyData.eqv, plain]
  | .int i, e, _, h2 => by cases e <;> simp_all [toP, PyData.eqv, plain]
  | .str x, e, _, h2 => by cases e <;> simp_all [toP, PyData.eqv, plain]
  | .tup ds, .tup es, h1, h2 => by
    simp only [plain] at h1 h2
    simp only [toP, PyData.eqv, Dv.tup.injEq]
    exact eqvs_plain ds es h1 h2
  | .tup ds, .non, _, _ => by simp [toP, PyData.eqv]
  | .tup ds, .int _, _, _ => by simp [toP, PyData.eqv]
  | .tup ds, .str _, _, _ => by simp [toP, PyData.eqv]
  | .tup ds, .bl _, _, h2 => by simp [plain] at h2
  | .tup ds, .ty _, _, h2 => by simp [plain] at h2
  | .tup ds, .ref _, _, h2 => by simp [plain] at h2
  | .tup ds, .scr _, _, h2 => by simp [plain] at h2
  | .bl _, _, h, _ => by simp [plain] at h
  | .ty _, _, h, _ => by simp [plain] at h
  | .ref _, _, h, _ => by simp [plain] at h
  | .scr _, _, h, _ => by simp [plain] at h
theorem eqvs_plain : ∀ ds es : List Dv, plains ds = true → plains es = true → (PyData.eqvAll (toPs ds) (toPs es) = true ↔ ds = es)
  | [], [], _, _ => by simp [toPs, PyData.eqvAll]
  | [], _ :: _, _, _ => by simp [toPs, PyData.eqvAll]
  | _ :: _, [], _, _ => by simp [toPs, PyData.eqvAll]
  | d :: ds, e :: es, h1, h2 => by
    simp only [plains, Bool.and_eq_true] at h1 h2
    simp only [toPs, PyData.eqvAll, Bool.and_eq_true, List.cons.injEq, eqv_plain d e h1.1 h2.1, eqvs_plain ds es h1.2 h2.2]
end
theorem dat_plain {S : Store} {d : Dv} (h : plain d = true) : dat S d = some (toP d) := datE_plain _ d h
theorem dat_list {S : Store} {a : Addr} {ds : List Dv} (h : S a = some (.lst ds)) (hp : plains ds = true) : dat S (.ref a) = some (.list (toPs ds)) := by
  show (match S a with | some (.lst ds) => (datEs (res S 3) ds).map PyData.list | _ => none) = _
  rw [h]
  simp only [datEs_plain _ ds hp, Option.map_some]
open Classical in
theorem gEqF_plain {f : Bool → Bool} {d e : Dv} {S : Store} {P : DK} (h1 : plain d = true) (h2 : plain e = true) (k1 : dep d ≤ 64) (k2 : dep e ≤ 64) : gEqF f d e S P ↔ P (.bl (f (decide (d = e)))) S := by
  have : PyData.eqv (toP d) (toP e) = decide (d = e) := by
    rw [Bool.eq_iff_iff, eqv_plain d e h1 h2]; simp
  unfold gEqF
  split
  · rfl
  rw [dat_plain h1, dat_plain h2]
  simp [shaped_plain h1 k1, shaped_plain h2 k2, this]
open Classical in
theorem gEqF_lists {f : Bool → Bool} {a b : Addr} {ds es : List Dv} {S : Store} {P : DK} (e1 : S a = some (.lst ds)) (e2 : S b = some (.lst es)) (h1 : plains ds = true) (h2 : plains es = true) (k1 : deps ds ≤ 63) (k2 : deps es ≤ 63) :
    gEqF f (.ref a) (.ref b) S P ↔ P (.bl (f (decide (ds = es)))) S := by
  have : PyData.eqv (PyData.list (toPs ds)) (PyData.list (toPs es)) = decide (ds = es) := by
    rw [Bool.eq_iff_iff]
    simp only [PyData.eqv, eqvs_plain ds es h1 h2, decide_eq_true_eq]
  have sh : ∀ {ds : List Dv}, plains ds = true → deps ds ≤ 63 → SeqAt.shaped (PyData.list (toPs ds)) = true := fun {ds} h k => by
    have := lays_plain ds h
    unfold SeqAt.shaped
    simp only [PyData.canLay0, PyData.depth, this.1, this.2, Bool.true_and, decide_eq_true_eq]
    omega
  unfold gEqF
  rw [if_neg (by simp [scl])]
  rw [dat_list e1 h1, dat_list e2 h2]
  simp [sh h1 k1, sh h2 k2, this]
open Classical in
@[simp] theorem gEqF_int {f : Bool → Bool} {a b : Int} {S : Store} {P : DK} : gEqF f (.int a) (.int b) S P ↔ P (.bl (f (decide (a = b)))) S := by
  unfold gEqF; rw [if_pos (by rfl)]; simp
open Classical in
@[simp] theorem gEqF_txt {f : Bool → Bool} {a b : Str} {S : Store} {P : DK} : gEqF f (.str a) (.str b) S P ↔ P (.bl (f (decide (a = b)))) S := by
  unfold gEqF; rw [if_pos (by rfl)]; simp
open Classical in
@[simp] theorem gEqF_bl {f : Bool → Bool} {a b : Bool} {S : Store} {P : DK} : gEqF f (.bl a) (.bl b) S P ↔ P (.bl (f (decide (a = b)))) S := by
  unfold gEqF; rw [if_pos (by rfl)]; simp
open Classical in
@[simp] theorem gEqF_non {f : Bool → Bool} {S : Store} {P : DK} : gEqF f .non .non S P ↔ P (.bl (f true)) S := by
  unfold gEqF; rw [if_pos (by rfl)]; simp
open Classical in
@[simp] theorem gEqF_intnon {f : Bool → Bool} {a : Int} {S : Store} {P : DK} : gEqF f (.int a) .non S P ↔ P (.bl (f false)) S := by
  unfold gEqF; rw [if_pos (by rfl)]; simp
open Classical in
@[simp] theorem gEqF_txtnon {f : Bool → Bool} {a : Str} {S : Store} {P : DK} : gEqF f (.str a) .non S P ↔ P (.bl (f false)) S := by
  unfold gEqF; rw [if_pos (by rfl)]; simp
theorem any_plain {d : Dv} (hd : plain d = true) : ∀ ds : List Dv, plains ds = true → ((toPs ds).any (fun z => PyData.eqv z (toP d)) = true ↔ d ∈ ds)
  | [], _ => by simp [toPs]
  | e :: es, h => by
    simp only [plains, Bool.and_eq_true] at h
    simp only [toPs, List.any_cons, Bool.or_eq_true, eqv_plain e d h.1 hd, any_plain hd es h.2, List.mem_cons]
    exact or_congr eq_comm Iff.rfl
theorem sh_list {ds : List Dv} (h : plains ds = true) (k : deps ds ≤ 63) : SeqAt.shaped (.list (toPs ds)) = true := by
  have := lays_plain ds h
  unfold SeqAt.shaped
  simp only [PyData.canLay0, PyData.depth, this.1, this.2, Bool.true_and, decide_eq_true_eq]
  omega
open Classical in
theorem gInF_tup {f : Bool → Bool} {d : Dv} {ds : List Dv} {S : Store} {P : DK} (h1 : plain d = true) (h2 : plains ds = true) (k1 : dep d ≤ 64) (k2 : deps ds ≤ 63) : gInF f d (.tup ds) S P ↔ P (.bl (f (decide (d ∈ ds)))) S := by
  have e : ((toPs ds).any fun z => PyData.eqv z (toP d)) = decide (d ∈ ds) := by rw [Bool.eq_iff_iff, any_plain h1 ds h2]; simp
  have s2 := shaped_plain (d := .tup ds) (by simpa only [plain] using h2) (by simp only [dep]; omega)
  simp only [toP] at s2
  unfold gInF
  rw [dat_plain h1, dat_plain (d := .tup ds) (by simpa only [plain] using h2)]
  simp [toP, shaped_plain h1 k1, s2, e]
open Classical in
theorem gInF_list {f : Bool → Bool} {d : Dv} {a : Addr} {ds : List Dv} {S : Store} {P : DK} (e0 : S a = some (.lst ds)) (h1 : plain d = true) (h2 : plains ds = true) (k1 : dep d ≤ 64) (k2 : deps ds ≤ 63) : gInF f d (.ref a) S P ↔ P (.bl (f (decide (d ∈ ds)))) S := by
  have e : ((toPs ds).any fun z => PyData.eqv z (toP d)) = decide (d ∈ ds) := by rw [Bool.eq_iff_iff, any_plain h1 ds h2]; simp
  unfold gInF
  rw [dat_plain h1, dat_list e0 h2]
  simp [shaped_plain h1 k1, sh_list h2 k2, e]
/-! ### repr of plain data -/
mutual
def shw : Dv → Bool
  | .int i => decide (i.natAbs.log2 < 1920)
  | .tup ds => shws ds
  | .non => true
  | .str _ => true
  | .bl _ => true
  | .ty _ => true
  | .ref _ => true
  | .scr _ => false
def shws : List Dv → Bool
  | [] => true
  | d :: ds => shw d && shws ds
end
mutual
/-- more than the signs of the repr -/
def cost : Dv → Nat
  | .int _ => 2000
  | .tup ds => costs ds + 2
  | .non => 4
  | .str x => 10 * x.length + 2
  | .bl _ => 5
  | .ty _ => 4
  | .ref _ => 4
  | .scr _ => 0
def costs : List Dv → Nat
  | [] => 0
  | d :: ds => cost d + 2 + costs ds
end

theorem int_len {i : Int} (h : i.natAbs.log2 < 1920) : (Str.ofString (toString i)).length ≤ 2000 := by
  have q := int_text_length_le (a := i) (k := 1920) (by decide) h
  rw [PySem.ofString_length]
  omega
mutual
theorem shown_plain : ∀ d : Dv, plain d = true → shw d = true → (toP d).showable = true ∧ (toP d).shown.length ≤ cost d
  | .non, _, _ => ⟨by simp [toP, PyData.showable], by simp only [toP, PyData.shown, cost]; decide⟩
  | .int i, _, h => by
    simp only [shw, decide_eq_true_eq] at h
    exact ⟨by simpa [toP, PyData.showable] using h, by simp only [toP, PyData.shown, cost]; exact int_len h⟩
  | .str x, h, _ => by
    simp only [plain] at h
    refine ⟨by simp [toP, PyData.showable], ?_⟩
    simp only [toP, PyData.shown, cost]
    refine StrLaws.reprText_len x fun c hc => ?_
    unfold PyData.strOk at h
    rw [← Array.all_toList, List.all_eq_true] at h
    have := h c hc
    simp only [decide_eq_true_eq] at this
    omega
  | .tup ds, h, h2 => by
    simp only [plain] at h
    simp only [shw] at h2
    obtain ⟨q1, q2⟩ := showns_plain ds h h2
    refine ⟨by simpa [toP, PyData.showable] using q1, ?_⟩
    simp only [toP, PyData.shown, cost]
    have := fmt_text (PyData.shownAll (toPs ds))
    omega
  | .bl _, h, _ => by simp [plain] at h
  | .ty _, h, _ => by simp [plain] at h
  | .ref _, h, _ => by simp [plain] at h
  | .scr _, h, _ => by simp [plain] at h
theorem showns_plain : ∀ ds : List Dv, plains ds = true → shws ds = true → PyData.showableAll (toPs ds) = true ∧ piled (PyData.shownAll (toPs ds)) ≤ costs ds
  | [], _, _ => by simp [toPs, PyData.showableAll, PyData.shownAll, piled_nil, costs]
  | d :: ds, h, h2 => by
    simp only [plains, Bool.and_eq_true] at h
    simp only [shws, Bool.and_eq_true] at h2
    obtain ⟨a1, a2⟩ := shown_plain d h.1 h2.1
    obtain ⟨b1, b2⟩ := showns_plain ds h.2 h2.2
    refine ⟨by simp [toPs, PyData.showableAll, a1, b1], ?_⟩
    simp only [toPs, PyData.shownAll, piled_cons, costs]
    omega
end
theorem gRepr_plain {d : Dv} {S : Store} {P : DK} (h : plain d = true) (hs : shw d = true) (hd : dep d ≤ 64) (hc : cost d ≤ 16777216) : gRepr [d] S P ↔ P (.str (toP d).shown) S := by
  obtain ⟨a, b⟩ := shown_plain d h hs
  simp only [gRepr, dat_plain h, shaped_plain h hd, a, szl, true_and]
  exact ⟨fun q => q.2, fun q => ⟨by omega, q⟩⟩
end Sb

/-! Dicts, looked up. -/
namespace Sb
open PySem PySem.Spec L2
open Classical
theorem dval_append (k v j : Dv) : ∀ kvs : List (Dv × Dv), dval (kvs ++ [(k, v)]) j = match dval kvs j with | some x => some x | none => if k = j then some v else none
  | [] => by simp [dval]
  | (k', v') :: r => by
    have ih := dval_append k v j r
    simp only [List.cons_append, dval]
    by_cases h : k' = j
    · simp [h]
    · simp only [h, if_false, ih]
theorem dval_map (k v j : Dv) : ∀ kvs : List (Dv × Dv), dval (kvs.map fun kv => if kv.1 = k then (kv.1, v) else kv) j = (dval kvs j).map fun x => if k = j then v else x
  | [] => by simp [dval]
  | (k', v') :: r => by
    have ih := dval_map k v j r
    simp only [List.map_cons, dval]
    by_cases h : k' = k
    · subst h
      simp only [if_true]
      by_cases h2 : k' = j
      · simp [dval, h2]
      · simp only [dval, h2, if_false, ih]
    · simp only [h, if_false]
      by_cases h2 : k' = j
      · subst h2
        simp [dval, Ne.symm h]
      · simp only [dval, h2, if_false, ih]
theorem dval_put (kvs : List (Dv × Dv)) (k v j : Dv) : dval (dput kvs k v) j = if k = j then some v else dval kvs j := by
  unfold dput
  cases e : dval kvs k with
  | none =>
    simp only [dval_append]
    by_cases h : k = j
    · subst h; simp [e]
    · simp only [h, if_false]; cases dval kvs j <;> rfl
  | some x =>
    simp only [dval_map]
    by_cases h : k = j
    · subst h; simp [e]
    · simp only [h, if_false]; cases dval kvs j <;> rfl
theorem dput_new {kvs : List (Dv × Dv)} {k v : Dv} (h : dval kvs k = none) : dput kvs k v = kvs ++ [(k, v)] := by unfold dput; rw [h]
theorem dput_length (kvs : List (Dv × Dv)) (k v : Dv) : (dput kvs k v).length ≤ kvs.length + 1 := by
  unfold dput
  cases dval kvs k <;> simp
@[simp] theorem dval_nil (k : Dv) : dval [] k = none := rfl
theorem dmerge_cons (kvs more : List (Dv × Dv)) (k v : Dv) : dmerge kvs ((k, v) :: more) = dmerge (dput kvs k v) more := rfl
theorem dmerge_nil (kvs : List (Dv × Dv)) : dmerge kvs [] = kvs := rfl

/-- a comprehension over typed items -/
theorem lcRun_enc {α : Type} (enc : α → Dv) (f : α → Option Dv) {p : Pat} {tt : DTT} {te : DTE} {δ : DSt} {G : Grd} {D : Addr} {P : DK} {S0 : Store} : ∀ (s : List α) (acc : List Dv), acc.length + s.length ≤ 16777216 → (∀ acc, G (up S0 D (.lst acc))) →
    (∀ x ∈ s, ∃ δ1, pset p (enc x) δ = some δ1 ∧ ∀ (acc : List Dv) (N1 : DK) (N2 : Store → Prop), (∀ y, f x = some y → N1 y (up S0 D (.lst acc))) → (f x = none → N2 (up S0 D (.lst acc))) →
      tt δ1 (up S0 D (.lst acc)) fun b S2 => if b = true then te δ1 S2 N1 else N2 S2) →
    P (.ref D) (up S0 D (.lst (acc ++ s.filterMap f))) → lcRun p tt te δ G D P (s.map enc) (up S0 D (.lst acc))
  | [], acc, _, hG, _, h => by
    simp only [lcRun, List.map_nil]
    exact ⟨hG acc, by simpa using h⟩
  | x :: xs, acc, hl, hG, hs, h => by
    simp only [lcRun, List.map_cons]
    obtain ⟨δ1, e, q⟩ := hs x (by simp)
    rw [e]
    refine ⟨hG acc, q acc _ _ (fun y fy => ?_) fun fn => ?_⟩
    · simp only [up_same, up_up, szl]
      simp only [List.length_cons] at hl
      refine ⟨by omega, lcRun_enc enc f xs (acc ++ [y]) (by simp; omega) hG (fun x hx => hs x (by simp [hx])) ?_⟩
      rw [List.filterMap_cons_some fy] at h
      simpa using h
    · refine lcRun_enc enc f xs acc (by simp at hl; omega) hG (fun x hx => hs x (by simp [hx])) ?_
      rw [List.filterMap_cons_none fn] at h
      exact h
theorem lcRun_all {α : Type} (enc : α → Dv) (f : α → Dv) {p : Pat} {te : DTE} {δ : DSt} {G : Grd} {D : Addr} {P : DK} {S0 : Store} (s : List α) (hl : s.length ≤ 16777216) (hG : ∀ acc, G (up S0 D (.lst acc)))
    (hs : ∀ x ∈ s, ∃ δ1, pset p (enc x) δ = some δ1 ∧ ∀ (acc : List Dv) (N : DK), N (f x) (up S0 D (.lst acc)) → te δ1 (up S0 D (.lst acc)) N)
    (h : P (.ref D) (up S0 D (.lst (s.map f)))) : lcRun p dYes te δ G D P (s.map enc) (up S0 D (.lst [])) := by
  refine lcRun_enc enc (fun x => some (f x)) s [] (by simpa using hl) hG (fun x hx => ?_) ?_
  · obtain ⟨δ1, e, q⟩ := hs x hx
    refine ⟨δ1, e, fun acc N1 N2 h1 _ => ?_⟩
    simp only [dYes, if_true]
    exact q acc N1 (h1 _ rfl)
  · rw [List.filterMap_eq_map']
    simpa using h
/-- a loop over typed items -/
theorem forL_enc {α : Type} (enc : α → Dv) {p : Pat} {tb : DTS} {D : DEnds} {G : Grd} {s : List α} {δ : DSt} {S : Store} (I : Nat → DSt → Store → Prop) (h0 : I 0 δ S)
    (step : ∀ i x δ S, s[i]? = some x → I i δ S → ∀ N : DSt → Store → Prop, (∀ δ' S', I (i + 1) δ' S' → N δ' S') → G S ∧ ∃ δ1, pset p (enc x) δ = some δ1 ∧ tb { D with nx := N, ct := N, bk := D.nx } δ1 S)
    (done : ∀ δ S, I s.length δ S → G S ∧ D.nx δ S) : forL p tb D G (s.map enc) δ S := by
  refine forL_ind I h0 (fun i x δ S hx hi N hN => ?_) fun δ S hi => done δ S (by simpa using hi)
  rw [List.getElem?_map] at hx
  obtain ⟨y, ey, rfl⟩ := Option.map_eq_some_iff.mp hx
  exact step i y δ S ey hi N hN
/-- a loop over range(n) -/
theorem forL_range {p : Pat} {tb : DTS} {D : DEnds} {G : Grd} {n : Nat} {δ : DSt} {S : Store} (I : Nat → DSt → Store → Prop) (h0 : I 0 δ S)
    (step : ∀ i δ S, i < n → I i δ S → ∀ N : DSt → Store → Prop, (∀ δ' S', I (i + 1) δ' S' → N δ' S') → G S ∧ ∃ δ1, pset p (.int i) δ = some δ1 ∧ tb { D with nx := N, ct := N, bk := D.nx } δ1 S)
    (done : ∀ δ S, I n δ S → G S ∧ D.nx δ S) : forL p tb D G ((List.range n).map fun (i : Nat) => .int i) δ S := by
  refine forL_enc (fun (i : Nat) => Dv.int i) I h0 (fun i x δ S hx hi N hN => ?_) fun δ S hi => done δ S (by simpa using hi)
  obtain ⟨h1, h2⟩ := List.getElem?_eq_some_iff.mp hx
  simp at h1 h2
  subst h2
  exact step i δ S h1 hi N hN
end Sb

/-! More for the reasoning over data. -/
namespace Sb
open PySem PySem.Spec L2

@[simp] theorem dSeq_eq {t u : DTS} {D : DEnds} {δ : DSt} {S : Store} : dSeq t u D δ S = t { D with nx := u D } δ S := rfl
@[simp] theorem dSeqV_eq {K : Kw} {t u : DTS} {D : DEnds} {δ : DSt} {S : Store} : dSeqV K t u D δ S = t { D with nx := fun δ1 S1 => VS K S1 fun S2 => u D δ1 S2 } δ S := rfl
@[simp] theorem dFor_eq {wi : DTI} {p : Pat} {tb : DTS} {D : DEnds} {δ : DSt} {S : Store} : dFor wi p tb D δ S = wi δ S fun items G S1 => forL p tb D G items δ S1 := rfl
@[simp] theorem up_ne1 {S : Store} {a b : Addr} {o : O} (h : b ≠ a) : up S a o b = S b := up_ne h
@[simp] theorem up_ne2 {S : Store} {a b : Addr} {o : O} (h : S b ≠ S a) : up S a o b = S b := up_ne fun e => h (by rw [e])
theorem ne_of_new {S : Store} {a b : Addr} (h : S b ≠ S a) : ¬ b = a := fun e => h (by rw [e])
/-- a comprehension without tests over typed items, the store grown by its list alone -/
theorem lc_all {α : Type} (enc : α → Dv) (f : α → Dv) {p : Pat} {te : DTE} {δ : DSt} {G : Grd} {P : DK} {S : Store} (s : List α) (hl : s.length ≤ 16777216) (hG : ∀ S', G S')
    (hs : ∀ x ∈ s, ∃ δ1, pset p (enc x) δ = some δ1 ∧ ∀ (S' : Store) (N : DK), Sub S S' → N (f x) S' → te δ1 S' N)
    (h : ∀ D, S D = none → P (.ref D) (up S D (.lst (s.map f)))) : ∀ D, S D = none → lcRun p dYes te δ G D P (s.map enc) (up S D (.lst [])) := fun D hD => by
  refine lcRun_all enc f s hl (fun _ => hG _) (fun x hx => ?_) (h D hD)
  obtain ⟨δ1, e, q⟩ := hs x hx
  exact ⟨δ1, e, fun acc N hN => q _ N (Sub.refl.new hD) hN⟩
theorem Sub.at {S' S : Store} (h : Sub S' S) {a : Addr} {o : O} (e : S' a = some o) : S a = some o := h a o e
theorem cut_toI {xs : List Dv} {d : Int} (h : 0 ≤ d) : cutD xs none (some d) = xs.take d.toNat := by
  obtain ⟨n, rfl⟩ := Int.eq_ofNat_of_zero_le h
  unfold cutD
  rw [HT.sIx_none, HT.sIx_nat]
  simp only [List.drop_zero, Nat.sub_zero, Int.toNat_natCast]
  rw [List.take_eq_take_iff]
  omega
theorem cut_fromI {xs : List Dv} {d : Int} (h : 0 ≤ d) : cutD xs (some d) none = xs.drop d.toNat := by
  obtain ⟨n, rfl⟩ := Int.eq_ofNat_of_zero_le h
  unfold cutD
  rw [HT.sIx_none, HT.sIx_nat]
  simp only [Int.toNat_natCast]
  by_cases hn : n ≤ xs.length
  · rw [Nat.min_eq_left hn, List.take_of_length_le (by simp)]
  · rw [Nat.min_eq_right (by omega), List.drop_of_length_le (by omega), List.drop_of_length_le (by omega)]; simp
/-- a text's code points -/
theorem strOk_lit (s : String) : PyData.strOk (s : Str) = true := by
  show PyData.strOk (PySem.Str.ofString s) = true
  rw [PySem.Str.ofString_eq_toList]
  unfold PyData.strOk
  simp only [List.all_toArray, List.all_map, List.all_eq_true, Function.comp, decide_eq_true_eq]
  intro c _
  have := c.valid
  rcases this with h | ⟨_, h⟩
  · exact Nat.lt_trans h (by decide)
  · exact h
theorem map_getElem? {α β : Type} {f : α → β} {s : List α} {i : Nat} {x : α} (h : s[i]? = some x) : (s.map f)[i]? = some (f x) := by rw [List.getElem?_map, h]; rfl
theorem take_snoc {α : Type} {s : List α} {i : Nat} {x : α} (h : s[i]? = some x) : s.take (i + 1) = s.take i ++ [x] := by rw [List.take_add_one, h]; rfl
theorem get_lt {α : Type} {s : List α} {i : Nat} {x : α} (h : s[i]? = some x) : i < s.length := (List.getElem?_eq_some_iff.mp h).1
theorem get_mem {α : Type} {s : List α} {i : Nat} {x : α} (h : s[i]? = some x) : x ∈ s := List.mem_of_getElem? h
theorem CDivW.of {m : Int} (h : 0 < m) (h2 : m ≤ 100000000000000000000000000000000000000000) : CDivW 0 m := by
  refine ⟨h, ?_⟩
  have : m.natAbs < 2 ^ 200 := Nat.lt_of_le_of_lt (m := 100000000000000000000000000000000000000000) (by omega) (by decide)
  have h3 : m.natAbs.log2 < 200 := (Nat.log2_lt (by omega)).mpr this
  omega
end Sb

/-! More operations over data: len of dicts, is, isinstance, abs. -/
namespace Sb
open PySem PySem.Spec L2
open Classical
theorem cr_or {X : Cx} {f : Value} {r r' : List V → Hp → VK → Prop} (h : CallR X f r) (h' : CallR X f r') : CallR X f (fun xs H Q => r xs H Q ∨ r' xs H Q) := CallR.or h h'
section
variable {X : Cx} {H0 : Hp} {a b c : Expr} {ta tb tc : DTE} {pos : Pos}
/-- len of a sequence, a dict, a text -/
@[simp] def gLenA : GA := fun ds S P => match ds with
  | [.ref a] => (match S a with | some (.lst xs) => P (.int xs.length) S | some (.dct xs) => P (.int xs.length) S | _ => False)
  | [.tup xs] => P (.int xs.length) S
  | [.scr xs] => P (.int xs.length) S
  | [.str z] => z.length ≤ 16777216 ∧ P (.int z.length) S
  | _ => False
theorem cg_lenA : CallG X (.builtin "len") gLenA := ⟨_, cr_or call_len_seq (cr_or call_lenD call_len_str), fun ds S P q vs H Q r rs hp => by
  have seq : ∀ d xs, ds = [d] → sq S d = some xs → P (.int xs.length) S → ∃ (p : Addr) (ys : List V), vs = [.ref p] ∧ (SqL X.kw H p ys ∨ SqT X.kw H p ys) ∧ Q (.int ys.length) H := fun d xs e e0 q0 => by
    subst e
    obtain ⟨v, rfl, rv⟩ := reps1 rs
    obtain ⟨a, ys, rfl, hq, rs'⟩ := sq_seq r e0 rv
    exact ⟨a, ys, rfl, hq.imp id SqN.t, hp _ _ q0 _ _ .refl r (rep_int.mpr (by rw [rs'.length]))⟩
  unfold gLenA at q
  split at q
  · rename_i a
    split at q
    · rename_i xs e0
      exact .inl (seq _ xs rfl (by simp [sq, e0]) q)
    · rename_i xs e0
      obtain ⟨v, rfl, rv⟩ := reps1 rs
      obtain ⟨ys, hy, n, rs'⟩ := r.dct e0
      exact .inr (.inl ⟨a, ys, by rw [rep_ref.mp rv], hy, hp _ _ q _ _ .refl r (rep_int.mpr (by have := congrArg List.length n; simp at this; rw [this]))⟩)
    · exact q.elim
  · exact .inl (seq _ _ rfl (by simp [sq]) q)
  · rename_i xs
    exact .inl (seq _ (xs.map Dv.int) rfl (by simp [sq]) (by simpa using q))
  · obtain ⟨v, rfl, rv⟩ := reps1 rs
    exact .inr (.inr ⟨_, by rw [rep_str.mp rv], by rw [sizeLine_eq]; exact q.1, hp _ _ q.2 _ _ .refl r (rep_int.mpr rfl)⟩)
  · exact q.elim⟩
/-- is -/
@[simp] def gIs (f : Bool → Bool) : G2 := fun d e S P => match d, e with
  | .non, .non => P (.bl (f true)) S
  | .bl _, .non => P (.bl (f false)) S
  | .int _, .non => P (.bl (f false)) S
  | .str _, .non => P (.bl (f false)) S
  | .ref _, .non => P (.bl (f false)) S
  | .tup _, .non => P (.bl (f false)) S
  | .bl a, .bl b => P (.bl (f (decide (a = b)))) S
  | _, _ => False
theorem c_is : OpG X (compareOp .Is) (gIs id) := ⟨_, op_isN.or op_is_bl, fun d e S P q v u H Q r rv ru hp => by
  unfold gIs at q
  split at q
  · refine .inl ⟨rep_non.mp ru, hp _ _ q _ _ .refl r (rep_bl.mpr ?_)⟩; rw [rep_non.mp rv]; simp
  · refine .inl ⟨rep_non.mp ru, hp _ _ q _ _ .refl r (rep_bl.mpr ?_)⟩; rw [rep_bl.mp rv]; simp
  · refine .inl ⟨rep_non.mp ru, hp _ _ q _ _ .refl r (rep_bl.mpr ?_)⟩; rw [rep_int.mp rv]; simp
  · refine .inl ⟨rep_non.mp ru, hp _ _ q _ _ .refl r (rep_bl.mpr ?_)⟩; rw [rep_str.mp rv]; simp
  · refine .inl ⟨rep_non.mp ru, hp _ _ q _ _ .refl r (rep_bl.mpr ?_)⟩; rw [rep_ref.mp rv]; simp
  · refine .inl ⟨rep_non.mp ru, hp _ _ q _ _ .refl r (rep_bl.mpr ?_)⟩; obtain ⟨_, _, e, _⟩ := rep_tup.mp rv; rw [e]; simp
  · refine .inr ⟨_, _, rep_bl.mp rv, rep_bl.mp ru, hp _ _ q _ _ .refl r (rep_bl.mpr ?_)⟩; simp
  · exact q.elim⟩
theorem c_isnot : OpG X (compareOp .IsNot) (gIs not) := ⟨_, op_notN.or op_isnot_bl, fun d e S P q v u H Q r rv ru hp => by
  unfold gIs at q
  split at q
  · refine .inl ⟨rep_non.mp ru, hp _ _ q _ _ .refl r (rep_bl.mpr ?_)⟩; rw [rep_non.mp rv]; simp
  · refine .inl ⟨rep_non.mp ru, hp _ _ q _ _ .refl r (rep_bl.mpr ?_)⟩; rw [rep_bl.mp rv]; simp
  · refine .inl ⟨rep_non.mp ru, hp _ _ q _ _ .refl r (rep_bl.mpr ?_)⟩; rw [rep_int.mp rv]; simp
  · refine .inl ⟨rep_non.mp ru, hp _ _ q _ _ .refl r (rep_bl.mpr ?_)⟩; rw [rep_str.mp rv]; simp
  · refine .inl ⟨rep_non.mp ru, hp _ _ q _ _ .refl r (rep_bl.mpr ?_)⟩; rw [rep_ref.mp rv]; simp
  · refine .inl ⟨rep_non.mp ru, hp _ _ q _ _ .refl r (rep_bl.mpr ?_)⟩; obtain ⟨_, _, e, _⟩ := rep_tup.mp rv; rw [e]; simp
  · refine .inr ⟨_, _, rep_bl.mp rv, rep_bl.mp ru, hp _ _ q _ _ .refl r (rep_bl.mpr ?_)⟩; simp
  · exact q.elim⟩
@[simp] def gAbs : GA := fun ds S P => match ds with
  | [.int i] => P (.int (if i < 0 then -i else i)) S
  | _ => False
theorem cg_abs : CallG X (.builtin "abs") gAbs := ⟨_, call_abs, fun ds S P q vs H Q r rs hp => by
  unfold gAbs at q
  split at q
  · obtain ⟨v, rfl, rv⟩ := reps1 rs
    exact ⟨_, by rw [rep_int.mp rv], hp _ _ q _ _ .refl r (rep_int.mpr rfl)⟩
  · exact q.elim⟩
end
end Sb

/-! Dicts over data keys of any depth. -/
namespace Sb
open PySem PySem.Spec L2

/-! ### keys -/
mutual
theorem nkD_inj : ∀ (d e : Dv) (k : NestedKey), nkD d = some k → nkD e = some k → d = e
  | .non, e, k, h1, h2 => by simp only [nkD, Option.some.injEq] at h1; subst h1; cases e <;> simp_all [nkD]
  | .int i, e, k, h1, h2 => by simp only [nkD, Option.some.injEq] at h1; subst h1; cases e <;> simp_all [nkD]
  | .str i, e, k, h1, h2 => by simp only [nkD, Option.some.injEq] at h1; subst h1; cases e <;> simp_all [nkD]
  | .tup ds, e, k, h1, h2 => by
    simp only [nkD, Option.map_eq_some_iff] at h1
    obtain ⟨ks, e1, rfl⟩ := h1
    cases e with
    | tup es =>
      simp only [nkD, Option.map_eq_some_iff] at h2
      obtain ⟨ks', e2, e3⟩ := h2
      cases e3
      rw [nkDs_inj ds es ks e1 e2]
    | _ => simp [nkD] at h2
  | .bl _, _, _, h, _ => by simp [nkD] at h
  | .ty _, _, _, h, _ => by simp [nkD] at h
  | .ref _, _, _, h, _ => by simp [nkD] at h
  | .scr _, _, _, h, _ => by simp [nkD] at h
theorem nkDs_inj : ∀ (ds es : List Dv) (ks : List NestedKey), nkDs ds = some ks → nkDs es = some ks → ds = es
  | [], [], _, _, _ => rfl
  | [], e :: es, ks, h1, h2 => by
    simp only [nkDs, Option.some.injEq] at h1; subst h1
    simp [nkDs, Option.bind_eq_some_iff] at h2
  | d :: ds, [], ks, h1, h2 => by
    simp only [nkDs, Option.some.injEq] at h2; subst h2
    simp [nkDs, Option.bind_eq_some_iff] at h1
  | d :: ds, e :: es, ks, h1, h2 => by
    simp only [nkDs, Option.bind_eq_some_iff, Option.map_eq_some_iff] at h1 h2
    obtain ⟨k, a1, ks1, a2, rfl⟩ := h1
    obtain ⟨k', b1, ks2, b2, e3⟩ := h2
    cases e3
    rw [nkD_inj d e k a1 b1, nkDs_inj ds es ks1 a2 b2]
end
mutual
/-- a key at most n tuples deep -/
@[simp] def kOk : Nat → Dv → Bool
  | _, .non => true
  | _, .int _ => true
  | _, .str _ => true
  | 0, .tup _ => false
  | n + 1, .tup ds => kOks n ds
  | _, .bl _ => false
  | _, .ty _ => false
  | _, .ref _ => false
  | _, .scr _ => false
@[simp] def kOks : Nat → List Dv → Bool
  | _, [] => true
  | n, d :: ds => kOk n d && kOks n ds
end
mutual
theorem kOk_key : ∀ (n : Nat) (d : Dv), kOk n d = true → ∃ k, nkD d = some k ∧ k.depth ≤ n
  | n, .non, _ => ⟨_, rfl, Nat.zero_le _⟩
  | n, .int _, _ => ⟨_, rfl, Nat.zero_le _⟩
  | n, .str _, _ => ⟨_, rfl, Nat.zero_le _⟩
  | 0, .tup ds, h => by simp [kOk] at h
  | n + 1, .tup ds, h => by
    simp only [kOk] at h
    obtain ⟨ks, e, hd⟩ := kOks_keys n ds h
    exact ⟨.tup ks, by simp only [nkD, e, Option.map_some], by simp only [NestedKey.depth]; omega⟩
  | n, .bl _, h => by simp [kOk] at h
  | n, .ty _, h => by simp [kOk] at h
  | n, .ref _, h => by simp [kOk] at h
  | n, .scr _, h => by simp [kOk] at h
theorem kOks_keys : ∀ (n : Nat) (ds : List Dv), kOks n ds = true → ∃ ks, nkDs ds = some ks ∧ NestedKey.depthAll ks ≤ n
  | n, [], _ => ⟨[], rfl, Nat.zero_le _⟩
  | n, d :: ds, h => by
    simp only [kOks, Bool.and_eq_true] at h
    obtain ⟨k, e1, h1⟩ := kOk_key n d h.1
    obtain ⟨ks, e2, h2⟩ := kOks_keys n ds h.2
    exact ⟨k :: ks, by simp only [nkDs, e1, e2, Option.bind_some, Option.map_some], by simp only [NestedKey.depthAll]; omega⟩
end
theorem kOks_map {α : Type} {n : Nat} {f : α → Dv} {s : List α} (h : ∀ x ∈ s, kOk n (f x) = true) : kOks n (s.map f) = true := by
  induction s with
  | nil => rfl
  | cons x s ih => simp [h x (by simp), ih fun y hy => h y (by simp [hy])]
theorem kOks_append {n : Nat} : ∀ {ds es : List Dv}, kOks n (ds ++ es) = (kOks n ds && kOks n es)
  | [], es => by simp
  | d :: ds, es => by simp [kOks_append (ds := ds), Bool.and_assoc]
section
variable {K : Kw} {H : Hp}
mutual
theorem keyV_of : ∀ (d : Dv) (k : NestedKey) (v : V), nkD d = some k → Rep K H d v → KeyV K.k H k v
  | .non, k, v, h, r => by simp only [nkD, Option.some.injEq] at h; subst h; exact rep_non.mp r
  | .int i, k, v, h, r => by simp only [nkD, Option.some.injEq] at h; subst h; exact rep_int.mp r
  | .str i, k, v, h, r => by simp only [nkD, Option.some.injEq] at h; subst h; exact rep_str.mp r
  | .tup ds, k, v, h, r => by
    simp only [nkD, Option.map_eq_some_iff] at h
    obtain ⟨ks, e, rfl⟩ := h
    obtain ⟨a, xs, rfl, q, rs⟩ := rep_tup.mp r
    simp only [KeyV]
    exact ⟨a, xs, rfl, q.t, keyVs_of ds ks xs e rs⟩
  | .bl _, _, _, h, _ => by simp [nkD] at h
  | .ty _, _, _, h, _ => by simp [nkD] at h
  | .ref _, _, _, h, _ => by simp [nkD] at h
  | .scr _, _, _, h, _ => by simp [nkD] at h
theorem keyVs_of : ∀ (ds : List Dv) (ks : List NestedKey) (xs : List V), nkDs ds = some ks → Reps K H ds xs → KeyVs K.k H ks xs
  | [], ks, xs, h, r => by simp only [nkDs, Option.some.injEq] at h; subst h; exact r.nil_inv
  | d :: ds, ks, xs, h, r => by
    simp only [nkDs, Option.bind_eq_some_iff, Option.map_eq_some_iff] at h
    obtain ⟨k, a1, ks1, a2, rfl⟩ := h
    obtain ⟨y, ys, rfl, r1, r2⟩ := r.cons_inv
    simp only [KeyVs]
    exact ⟨y, ys, rfl, keyV_of d k y a1 r1, keyVs_of ds ks1 ys a2 r2⟩
end
theorem KVn.ndk : ∀ {kvs : List (Dv × Dv)} {es : NL V V}, KVn K H kvs es → NdK K.k H es
  | [], _, h, e, he => by simp only [KVn] at h; subst h; cases he
  | p :: kvs, _, h, e, he => by
    obtain ⟨k, x, y, es', rfl, h1, h2, h3, h4, h5⟩ := h
    rcases List.mem_cons.mp he with z | z
    · subst z; exact ⟨keyV_of _ _ _ h1 h3, h2⟩
    · exact h5.ndk e z
theorem KVn.length : ∀ {kvs : List (Dv × Dv)} {es : NL V V}, KVn K H kvs es → es.length = kvs.length
  | [], _, h => by simp only [KVn] at h; subst h; rfl
  | p :: kvs, _, h => by
    obtain ⟨k, x, y, es', rfl, _, _, _, _, h5⟩ := h
    simp [h5.length]
theorem KVn.get : ∀ {kvs : List (Dv × Dv)} {es : NL V V} {d : Dv} {k : NestedKey}, KVn K H kvs es → nkD d = some k → (dval kvs d = none ∧ nval es k = none) ∨ ∃ e v, dval kvs d = some e ∧ nval es k = some v ∧ Rep K H e v
  | [], _, d, k, h, hk => by simp only [KVn] at h; subst h; exact .inl ⟨rfl, rfl⟩
  | (d', e') :: kvs, _, d, k, h, hk => by
    obtain ⟨k', x, y, es', rfl, h1, h2, h3, h4, h5⟩ := h
    simp only at h1 h4
    by_cases q : k' = k
    · have : d' = d := nkD_inj _ _ _ h1 (q ▸ hk)
      refine .inr ⟨e', y, ?_, ?_, h4⟩
      · rw [dval, if_pos this]
      · simp [nval, ngetp, q]
    · have : ¬ d' = d := fun z => q (by rw [z, hk] at h1; exact (Option.some.inj h1).symm)
      rw [dval, if_neg this]
      rcases h5.get hk with ⟨g1, g2⟩ | ⟨e, v, g1, g2, g3⟩
      · exact .inl ⟨g1, by simpa [nval, ngetp, List.find?_cons, q] using g2⟩
      · exact .inr ⟨e, v, g1, by simpa [nval, ngetp, List.find?_cons, q] using g2, g3⟩
theorem KVn.key_mem : ∀ {kvs : List (Dv × Dv)} {es : NL V V} {d : Dv} {k : NestedKey}, KVn K H kvs es → nkD d = some k → (k ∈ es.map (·.1) ↔ (dval kvs d).isSome = true)
  | [], _, d, k, h, hk => by simp only [KVn] at h; subst h; simp [dval]
  | (d', e') :: kvs, _, d, k, h, hk => by
    obtain ⟨k', x, y, es', rfl, h1, h2, h3, h4, h5⟩ := h
    simp only at h1
    by_cases q : k' = k
    · have : d' = d := nkD_inj _ _ _ h1 (q ▸ hk)
      simp [dval, this, q]
    · have : ¬ d' = d := fun z => q (by rw [z, hk] at h1; exact (Option.some.inj h1).symm)
      have ih := h5.key_mem hk
      simp only [dval, this, if_false, List.map_cons, List.mem_cons]
      rw [← ih]
      exact ⟨fun h => h.resolve_left fun z => q z.symm, .inr⟩
theorem KVn.append : ∀ {kvs more : List (Dv × Dv)} {es ms : NL V V}, KVn K H kvs es → KVn K H more ms → KVn K H (kvs ++ more) (es ++ ms)
  | [], _, _, _, h, q => by simp only [KVn] at h; subst h; exact q
  | p :: kvs, _, _, _, h, q => by
    obtain ⟨k, x, y, es', rfl, h1, h2, h3, h4, h5⟩ := h
    exact ⟨k, x, y, _, rfl, h1, h2, h3, h4, h5.append q⟩
theorem KVn.putm : ∀ {kvs : List (Dv × Dv)} {es : NL V V} {d e : Dv} {k : NestedKey} {v : V}, KVn K H kvs es → nkD d = some k → Rep K H e v →
    KVn K H (kvs.map fun kv => @ite _ (kv.1 = d) (Classical.propDecidable _) (kv.1, e) kv) (es.map fun x => if x.1 = k then (x.1, x.2.1, v) else x)
  | [], _, _, _, _, _, h, _, _ => by simp only [KVn] at h; subst h; rfl
  | (d', e') :: kvs, _, d, e, k, v, h, hk, r => by
    obtain ⟨k', x, y, es', rfl, h1, h2, h3, h4, h5⟩ := h
    simp only at h1 h3 h4
    have ih := h5.putm hk r
    by_cases q : k' = k
    · have : d' = d := nkD_inj _ _ _ h1 (q ▸ hk)
      refine ⟨k', x, v, _, by simp only [List.map_cons, q, if_true], ?_, h2, ?_, ?_, ih⟩
      · dsimp only; rw [if_pos this]; exact h1
      · dsimp only; rw [if_pos this]; exact h3
      · dsimp only; rw [if_pos this]; exact r
    · have : ¬ d' = d := fun z => q (by rw [z, hk] at h1; exact (Option.some.inj h1).symm)
      refine ⟨k', x, y, _, by simp only [List.map_cons, q, if_false], ?_, h2, ?_, ?_, ih⟩
      · dsimp only; rw [if_neg this]; exact h1
      · dsimp only; rw [if_neg this]; exact h3
      · dsimp only; rw [if_neg this]; exact h4
theorem KVn.put {kvs : List (Dv × Dv)} {es : NL V V} {d e : Dv} {k : NestedKey} {x v : V} (h : KVn K H kvs es) (hk : nkD d = some k) (dk : k.depth ≤ 8) (rd : Rep K H d x) (r : Rep K H e v) : KVn K H (dput kvs d e) (nput es k x v) := by
  have m := h.key_mem hk
  unfold dput nput
  cases q : dval kvs d with
  | none =>
    rw [if_neg (by rw [m, q]; simp)]
    exact h.append ⟨k, x, v, [], rfl, hk, dk, rd, r, rfl⟩
  | some z =>
    rw [if_pos (by rw [m, q]; rfl)]
    exact h.putm hk r
theorem KVn.drop : ∀ {kvs : List (Dv × Dv)} {es : NL V V} {d : Dv} {k : NestedKey}, KVn K H kvs es → nkD d = some k → KVn K H (ddrop kvs d) (ndrop es k)
  | [], _, _, _, h, _ => by simp only [KVn] at h; subst h; rfl
  | (d', e') :: kvs, _, d, k, h, hk => by
    obtain ⟨k', x, y, es', rfl, h1, h2, h3, h4, h5⟩ := h
    simp only at h1 h3 h4
    have ih := h5.drop hk
    unfold ddrop ndrop at ih ⊢
    rw [List.filter_cons, List.filter_cons]
    by_cases q : k' = k
    · have : d' = d := nkD_inj _ _ _ h1 (q ▸ hk)
      simp only [this, q, ne_eq, not_true_eq_false, decide_false, decide_true, Bool.not_true, Bool.false_eq_true, if_false]
      exact ih
    · have : ¬ d' = d := fun z => q (by rw [z, hk] at h1; exact (Option.some.inj h1).symm)
      simp only [this, q, ne_eq, not_false_eq_true, decide_true, decide_false, Bool.not_false, if_true]
      exact ⟨k', x, y, _, rfl, h1, h2, h3, h4, ih⟩
theorem keep_nd {a : Addr} {es : NL V V} {o : HO} {w : World} (h : H a = some (NdO w a es)) : Keep K H (upd H a o) := .upd fun u z => by
  rw [h] at z; cases z
  exact ⟨fun _ q => HO.noConfusion q, fun _ _ q => HO.noConfusion q⟩
theorem Rel.ndc {S : Store} {a : Addr} {kvs : List (Dv × Dv)} (r : Rel K S H) (e : S a = some (.ndc kvs)) : NdcAt K H a kvs := by
  obtain ⟨own, _, h2⟩ := r.ex
  exact (h2 a _ e).2
theorem Rel.ndcw {S : Store} {a : Addr} {ds ds' : List (Dv × Dv)} {es es' : NL V V} (r : Rel K S H) (e : S a = some (.ndc ds)) (h : H a = some (NdO K.w a es)) (rs : KVn K H ds' es') : Rel K (up S a (.ndc ds')) (upd H a (NdO K.w a es')) :=
  r.write (o' := .ndc ds') e fun own _ z => ⟨OK1.mine z, es', upd_same, rs.keep (keep_nd h)⟩
end

/-! ### what Python does with them, over the abstract heap -/
section
variable {X : Cx} {o i e f value : Expr} {pos pos' apos cpos : Pos} {td ty tv tx : TE}
/-- the dict at a, the key y -/
def NLook (X : Cx) (H : Hp) (a : Addr) (y : V) (es : NL V V) (k : NestedKey) : Prop := Rd H a (NdO X.w a es) ∧ NdK X.K H es ∧ KeyV X.K H k y ∧ k.depth ≤ 8
theorem u9 {A : Around} (hu : A.units + 64 < cLine) : A.units + 9 < cLine := by omega
theorem look_is {pins : List (Addr × Obj)} {σ : L2.St} {H : Hp} {s : Shared} {a : Addr} {es : NL V V} (I : Inv X pins σ H s) (e : Rd H a (NdO X.w a es)) : s.TypeIs (.ref a) "dict" ∧ ∀ b, Value.ref a = .ref b → ∃ ob, s.heap.get? b = some ob ∧ ob.dict = none := by
  obtain ⟨xs, ⟨_, _, ⟨ob, _, _, ho, hc, _⟩, _⟩, _⟩ := (e.ok I.hok).1
  exact ⟨⟨ob, ho, hc.1⟩, fun b q => by cases q; exact ⟨ob, ho, hc.2.1⟩⟩
theorem pe_nget (hu : X.A.units + 64 < cLine) (ho : PE X o td) (hi : PE X i ty) (hs : NoSl i) : PE X (.Subscript o i pos) (fun σ H Q => td σ H fun x H1 => ty σ H1 fun y H2 => ∃ a es k v, x = .ref a ∧ NLook X H2 a y es k ∧ nval es k = some v ∧ Q v H2) := by
  refine ⟨fun pins s σ H Q I h => ?_⟩
  refine subD_of PySem.F.slot_dict_getitem.lookup hs (thn (ho.run pins s σ H _ I h) fun u s1 ⟨x, H1, I1, rx, q1⟩ => thn (hi.run pins s1 σ H1 _ I1 q1) fun iv s2 ⟨y, H2, I2, ry, a, es, k, v, ex, ⟨g1, g2, g3, g4⟩, hv, q2⟩ => ?_)
  subst ex
  obtain rfl : u = Value.ref a := rx
  exact ⟨(look_is I2 g1).1, ndr_item (u9 hu) I2 g1 g2 g3 g4 ry hv fun w' s3 I3 rw' => ⟨v, H2, I3, rw', q2⟩⟩
theorem pc_nin (hu : X.A.units + 64 < cLine) (hi : PE X i ty) (ho : PE X o td) : PC X .In i o (fun σ H Q => ty σ H fun y H1 => td σ H1 fun x H2 => ∃ a es k, x = .ref a ∧ NLook X H2 a y es k ∧ Q (.bl (nval es k).isSome) H2) := by
  refine ⟨fun pins s σ H Q I h => ?_⟩
  refine thn (hi.run pins s σ H _ I h) fun iv s1 ⟨y, H1, I1, ry, q1⟩ => thn (ho.run pins s1 σ H1 _ I1 q1) fun u s2 ⟨x, H2, I2, rx, a, es, k, ex, ⟨g1, g2, g3, g4⟩, q2⟩ => ?_
  subst ex
  obtain rfl : u = Value.ref a := rx
  exact ndr_in (u9 hu) I2 g1 g2 g3 g4 ry fun s3 I3 => ⟨.bl _, H2, I3, rfl, q2⟩
theorem pc_nnotin (hu : X.A.units + 64 < cLine) (hi : PE X i ty) (ho : PE X o td) : PC X .NotIn i o (fun σ H Q => ty σ H fun y H1 => td σ H1 fun x H2 => ∃ a es k, x = .ref a ∧ NLook X H2 a y es k ∧ Q (.bl (!(nval es k).isSome)) H2) := by
  refine ⟨fun pins s σ H Q I h => ?_⟩
  refine thn (hi.run pins s σ H _ I h) fun iv s1 ⟨y, H1, I1, ry, q1⟩ => thn (ho.run pins s1 σ H1 _ I1 q1) fun u s2 ⟨x, H2, I2, rx, a, es, k, ex, ⟨g1, g2, g3, g4⟩, q2⟩ => ?_
  subst ex
  obtain rfl : u = Value.ref a := rx
  exact ndr_notin (u9 hu) I2 g1 g2 g3 g4 ry fun s3 I3 => ⟨.bl _, H2, I3, rfl, q2⟩
theorem ps_nput (hu : X.A.units + 64 < cLine) (ho : PE X o td) (hi : PE X i ty) (hv : PE X value tv) (hs : swapsWith value (some (.Subscript o i pos')) pos.line X.env = pure false) :
    PS X (.Assign [.Subscript o i pos'] value pos) (fun D σ H => tv σ H fun v H1 => td σ H1 fun x H2 => ty σ H2 fun y H3 => ∃ a es k, x = .ref a ∧ H3 a = some (NdO X.w a es) ∧ NLook X H3 a y es k ∧ es.length < sizeLine ∧ D.nx σ (upd H3 a (NdO X.w a (nput es k y v)))) := by
  refine ⟨fun pins s σ H D I h => ?_⟩
  refine wpAny_Assign_Subscript (thn (hv.run pins s σ H _ I h) fun r s1 ⟨v, H1, I1, rv, q1⟩ => thn (ho.run pins s1 σ H1 _ I1 q1) fun u s2 ⟨x, H2, I2, rx, q2⟩ => thn (hi.run pins s2 σ H2 _ I2 q2) fun iv s3 ⟨y, H3, I3, ry, a, es, k, ex, g0, ⟨g1, g2, g3, g4⟩, hl, q3⟩ => ?_) hs
  subst ex
  obtain rfl : u = Value.ref a := rx
  exact ndr_store (u9 hu) I3 g0 g2 hl g3 g4 ry rv fun s4 I4 => ⟨σ, _, I4, q3⟩
theorem pe_nget1 (hu : X.A.units + 64 < cLine) (ho : PE X o td) (he : PE X e ty) (m : M1 X o "get" apos e cpos) : PE X (.Call (.Attribute o "get" apos) [e] [] cpos) (fun σ H Q => td σ H fun x H1 => ∃ a, x = .ref a ∧ (∃ es, Rd H1 a (NdO X.w a es)) ∧ ty σ H1 fun y H2 => ∃ es k, NLook X H2 a y es k ∧ Q ((nval es k).getD .non) H2) := by
  refine ⟨fun pins s σ H Q I h => ?_⟩
  refine wpAny_Call_method m.base m.few m.line PySem.F.plainAttrs_dict PySem.F.slot_dict_get PySem.F.type_dict_get (thn (ho.run pins s σ H _ I h) fun u s1 ⟨x, H1, I1, rx, a, ex, ⟨es0, d⟩, q1⟩ => ?_)
  subst ex
  obtain rfl : u = Value.ref a := rx
  obtain ⟨t1, t2⟩ := look_is I1 d
  refine ⟨t1, t2, ?_⟩
  rw [m.trees]
  refine Calls.callWith_builtin rfl (Calls.evalArgs_plain (Calls.spliced_cons (thn (he.run pins s1 σ H1 _ I1 q1) fun iv s2 ⟨y, H2, I2, ry, es, k, ⟨g1, g2, g3, g4⟩, q2⟩ => Calls.spliced_nil ?_)))
  exact ndr_get1 (u9 hu) I2 g1 g2 g3 g4 ry fun w' s3 I3 rw' => ⟨_, H2, I3, rw', q2⟩
theorem pe_nget2 (hu : X.A.units + 64 < cLine) (ho : PE X o td) (he : PE X e ty) (hf : PE X f tx) (m : M2 X o "get" apos e f cpos) : PE X (.Call (.Attribute o "get" apos) [e, f] [] cpos) (fun σ H Q => td σ H fun x H1 => ∃ a, x = .ref a ∧ (∃ es, Rd H1 a (NdO X.w a es)) ∧ ty σ H1 fun y H2 => tx σ H2 fun z H3 => ∃ es k, NLook X H3 a y es k ∧ Q ((nval es k).getD z) H3) := by
  refine ⟨fun pins s σ H Q I h => ?_⟩
  refine wpAny_Call_method m.base m.few m.line PySem.F.plainAttrs_dict PySem.F.slot_dict_get PySem.F.type_dict_get (thn (ho.run pins s σ H _ I h) fun u s1 ⟨x, H1, I1, rx, a, ex, ⟨es0, d⟩, q1⟩ => ?_)
  subst ex
  obtain rfl : u = Value.ref a := rx
  obtain ⟨t1, t2⟩ := look_is I1 d
  refine ⟨t1, t2, ?_⟩
  rw [m.trees]
  refine Calls.callWith_builtin rfl (Calls.evalArgs_plain (Calls.spliced_cons (thn (he.run pins s1 σ H1 _ I1 q1) fun iv s2 ⟨y, H2, I2, ry, q2⟩ =>
    Calls.spliced_cons (thn (hf.run pins s2 σ H2 _ I2 q2) fun fv s3 ⟨z, H3, I3, rz, es, k, ⟨g1, g2, g3, g4⟩, q3⟩ => Calls.spliced_nil ?_))))
  exact ndr_get2 (u9 hu) I3 g1 g2 g3 g4 ry rz fun w' s4 I4 rw' => ⟨_, H3, I4, rw', q3⟩
theorem pe_npop1 (hu : X.A.units + 64 < cLine) (ho : PE X o td) (he : PE X e ty) (m : M1 X o "pop" apos e cpos) : PE X (.Call (.Attribute o "pop" apos) [e] [] cpos) (fun σ H Q => td σ H fun x H1 => ∃ a, x = .ref a ∧ (∃ es, Rd H1 a (NdO X.w a es)) ∧ ty σ H1 fun y H2 => ∃ es k v, H2 a = some (NdO X.w a es) ∧ NLook X H2 a y es k ∧ nval es k = some v ∧ Q v (upd H2 a (NdO X.w a (ndrop es k)))) := by
  refine ⟨fun pins s σ H Q I h => ?_⟩
  refine wpAny_Call_method m.base m.few m.line PySem.F.plainAttrs_dict PySem.F.slot_dict_pop PySem.F.type_dict_pop (thn (ho.run pins s σ H _ I h) fun u s1 ⟨x, H1, I1, rx, a, ex, ⟨es0, d⟩, q1⟩ => ?_)
  subst ex
  obtain rfl : u = Value.ref a := rx
  obtain ⟨t1, t2⟩ := look_is I1 d
  refine ⟨t1, t2, ?_⟩
  rw [m.trees]
  refine Calls.callWith_builtin rfl (Calls.evalArgs_plain (Calls.spliced_cons (thn (he.run pins s1 σ H1 _ I1 q1) fun iv s2 ⟨y, H2, I2, ry, es, k, v, g0, ⟨g1, g2, g3, g4⟩, hv, q2⟩ => Calls.spliced_nil ?_)))
  exact ndr_pop (u9 hu) I2 g0 g2 g3 g4 ry hv fun w' s3 I3 rw' => ⟨v, _, I3, rw', q2⟩
theorem pe_nnew : PE X (.Dict [] [] pos) (fun _ H Q => ∀ p, H p = none → Q (.ref p) (upd H p (NdO X.w p []))) := ⟨fun pins s σ H Q I h =>
  wpAny_Dict_empty ⟨.ref s.heap.objs.size, _, I.laid (a := s.heap.objs.size) (o := NdO X.w s.heap.objs.size []) (t' := s.toks) (fun _ _ q => Heap.get?_push_of_some _ q) (Nat.le_refl _) (ndo_empty s.heap I.big), rfl, h _ (I.hok.fresh (Nat.le_refl _))⟩⟩
theorem len_raw {prog : Program} {w : World} {A : Around} {E : Value → Shared → Prop} {s : Shared} {d : Addr} {arr : Array DictEntry} {ep : Nat} {Q : Value → Shared → Prop} (low : (d == sysModules) = false) (raw : s.heap.DictRaw d arr ep) (fit : arr.size ≤ 16777216)
    (h : Q (.int arr.size (s.toks + 1)) { s with toks := s.toks + 1 + 1 }) : wpAny (model prog w) A (call (.builtin "len") [.ref d]) Q E s := by
  refine Calls.call_function_entry kind_len plain_len entry_len (args_len1 _) ?_
  unfold Builtin.«len»
  refine wpAny_bind (m := oneArg "len" _) (wpAny_pure (wpAny_bind (m := callSpecial? (.ref d) (Str.ofString "__len__")) (wpAny_callSpecial?_slot (name := Str.ofString "__len__") raw.typeIs PySem.F.slot_dict_len
    (call_meetsIn PySem.F.slot_dict_len raw.typeIs PySem.F.entry_dict_len (PySem.F.args_dict_len_1 _) (meets_dict_len_raw d low) ⟨arr, ep, raw, ?_⟩))))
  refine wpAny_bind (wpAny_holding (wpAny_pure (wpAny_bind (wpAny_letGo ?_))))
  show wpAny _ _ (if ((arr.size : Nat) : Int) < 0 then _ else _) _ _ _
  rw [if_neg (by omega)]
  show wpAny _ _ (if ((arr.size : Nat) : Int) ≥ 2 ^ 63 then _ else _) _ _ _
  rw [if_neg (by omega)]
  exact wpAny_bind (wpAny_mkInt (wpAny_pure ⟨_, rfl, h⟩))
theorem call_len_nd : CallR X (.builtin "len") (fun xs H Q => ∃ a es, xs = [V.ref a] ∧ H a = some (NdO X.w a es) ∧ Q (.int (es.length : Nat)) H) := by
  intro pins s σ H xs us Q I r h
  obtain ⟨a, es, rfl, ha, q⟩ := h
  obtain ⟨u, rfl, ru⟩ := vals1 r
  cases ru
  obtain ⟨xs, ⟨low, ln, ⟨ob, arr, ep, ho, hc, hd, he⟩, _⟩, p⟩ := (I.hok a _ ha).1
  have raw : s.heap.DictRaw a arr ep := ⟨ob, ho, hc, hd⟩
  have e1 : arr.size = es.length := (arr_size he).trans p.nlen
  refine len_raw low raw (by rw [arr_size he, ← sizeLine_eq]; exact ln) ?_
  rw [e1]
  exact ⟨.int (es.length : Nat), H, I.tok _, ⟨_, rfl⟩, q⟩
end

/-! ### readings -/
section
variable {X : Cx} {H0 : Hp} {o i e f : Expr} {td ty tv tx : DTE} {pos apos cpos : Pos}
/-- {} -/
@[simp] def dNnew : DTE := fun _ S P => ∀ p, S p = none → P (.ref p) (up S p (.ndc []))
theorem de_nnew : DE X H0 (.Dict [] [] pos) dNnew := pe_nnew.to fun σ H Q h => by
  obtain ⟨δ, S, P, w, ht, hp⟩ := h
  exact fun p hn => hp _ _ (ht p (w.rel.free hn)) _ _ (.new hn) (w.rel.laid hn fun own ow => ⟨ow, [], upd_same, rfl⟩) (rep_ref.mpr rfl)
/-- what a dict holds at a key -/
@[simp] def gNat (S : Store) (d k : Dv) (P : Option Dv → Prop) : Prop := match d with
  | .ref a => (match S a with | some (.ndc kvs) => kOk 8 k = true ∧ P (dval kvs k) | some (.fzn _ _ kvs) => kOk 8 k = true ∧ P (dval kvs k) | _ => False)
  | _ => False
theorem nat_get {S : Store} {H : Hp} {d k : Dv} {x y : V} {P : Option Dv → Prop} (h : gNat S d k P) (r : Rel X.kw S H) (p1 : Rep X.kw H d x) (p2 : Rep X.kw H k y) :
    ∃ a es n, x = .ref a ∧ NLook X H a y es n ∧ ((nval es n = none ∧ P none) ∨ ∃ d v, nval es n = some v ∧ Rep X.kw H d v ∧ P (some d)) := by
  unfold gNat at h
  split at h
  · rename_i a
    split at h
    · rename_i kvs e
      obtain ⟨es, he, n⟩ := r.ndc e
      obtain ⟨k', hk, dk⟩ := kOk_key 8 k h.1
      refine ⟨a, es, k', rep_ref.mp p1, ⟨.of he, n.ndk, keyV_of k k' y hk p2, dk⟩, ?_⟩
      rcases n.get hk with ⟨h1, h2⟩ | ⟨d, v, h1, h2, h3⟩
      · rw [h1] at h; exact .inl ⟨h2, h.2⟩
      · rw [h1] at h; exact .inr ⟨d, v, h2, h3, h.2⟩
    · rename_i o es kvs e
      obtain ⟨_, _, he, n⟩ := r.get e
      obtain ⟨k', hk, dk⟩ := kOk_key 8 k h.1
      refine ⟨a, es, k', rep_ref.mp p1, ⟨.inr ⟨o, he⟩, n.ndk, keyV_of k k' y hk p2, dk⟩, ?_⟩
      rcases n.get hk with ⟨h1, h2⟩ | ⟨d, v, h1, h2, h3⟩
      · rw [h1] at h; exact .inl ⟨h2, h.2⟩
      · rw [h1] at h; exact .inr ⟨d, v, h2, h3, h.2⟩
    · exact h.elim
  · exact h.elim
@[simp] def dNget (td ty : DTE) : DTE := fun δ S P => td δ S fun d S1 => ty δ S1 fun k S2 => gNat S2 d k fun v => match v with | some v => P v S2 | none => False
theorem de_nget (hu : X.A.units + 64 < cLine) (ho : DE X H0 o td) (hi : DE X H0 i ty) (hs : NoSl i := by exact fun _ _ => rfl) : DE X H0 (.Subscript o i pos) (dNget td ty) := (pe_nget hu ho hi hs).to fun σ H Q h => by
  obtain ⟨δ, S, P, w, ht, hp⟩ := h
  refine ⟨δ, S, _, w, ht, fun d S1 q x H1 k1 r1 p1 => ⟨δ, S1, _, w.keep k1 r1, q, fun k S2 q2 y H2 k2 r2 p2 => ?_⟩⟩
  obtain ⟨a, es, n, rfl, g, z⟩ := nat_get q2 r2 (p1.keep k2) p2
  rcases z with ⟨_, z⟩ | ⟨d', v, hv, rv, z⟩
  · exact z.elim
  · exact ⟨a, es, n, v, rfl, g, hv, hp _ _ z _ _ (k1.trans k2) r2 rv⟩
@[simp] def dNin (b : Bool → Bool) (ty td : DTE) : DTE := fun δ S P => ty δ S fun k S1 => td δ S1 fun d S2 => gNat S2 d k fun v => P (.bl (b v.isSome)) S2
theorem nin_lift {b : Bool → Bool} : ∀ σ H Q, liftE X.kw H0 (dNin b ty td) σ H Q → liftE X.kw H0 ty σ H fun y H1 => liftE X.kw H0 td σ H1 fun x H2 => ∃ a es k, x = .ref a ∧ NLook X H2 a y es k ∧ Q (.bl (b (nval es k).isSome)) H2 := fun σ H Q h => by
  obtain ⟨δ, S, P, w, ht, hp⟩ := h
  refine ⟨δ, S, _, w, ht, fun k S1 q y H1 k1 r1 p1 => ⟨δ, S1, _, w.keep k1 r1, q, fun d S2 q2 x H2 k2 r2 p2 => ?_⟩⟩
  obtain ⟨a, es, n, rfl, g, z⟩ := nat_get q2 r2 p2 (p1.keep k2)
  refine ⟨a, es, n, rfl, g, ?_⟩
  rcases z with ⟨e, z⟩ | ⟨d', v, e, rv, z⟩
  · rw [e]; exact hp _ _ z _ _ (k1.trans k2) r2 (rep_bl.mpr rfl)
  · rw [e]; exact hp _ _ z _ _ (k1.trans k2) r2 (rep_bl.mpr rfl)
theorem de_nin (hu : X.A.units + 64 < cLine) (hi : DE X H0 i ty) (ho : DE X H0 o td) (h1 : behindInMarks .In o = false := by rfl) : DE X H0 (.Compare i [.In] [o] pos) (dNin id ty td) := (pe_cmp (pc_nin hu hi ho) h1).to nin_lift
theorem de_nnotin (hu : X.A.units + 64 < cLine) (hi : DE X H0 i ty) (ho : DE X H0 o td) (h1 : behindInMarks .NotIn o = false := by rfl) : DE X H0 (.Compare i [.NotIn] [o] pos) (dNin not ty td) := (pe_cmp (pc_nnotin hu hi ho) h1).to nin_lift
theorem dt_nin (hu : X.A.units + 64 < cLine) (hi : DE X H0 i ty) (ho : DE X H0 o td) (h1 : behindInMarks .In o = false := by rfl) : DT X H0 (.Compare i [.In] [o] pos) (dB (dNin id ty td)) := (pt_cmp (pc_nin hu hi ho) h1).to fun σ H Q h => by
  obtain ⟨δ, S, P, w, ht, hp⟩ := h
  refine nin_lift (b := id) σ H (fun x H' => ∃ c, x = .bl c ∧ Q c H') ⟨δ, S, _, w, ht, fun d S1 q v H1 k1 r1 p1 => ?_⟩
  split at q
  · exact ⟨_, rep_bl.mp p1, hp _ _ q _ k1 r1⟩
  · exact q.elim
theorem dt_nnotin (hu : X.A.units + 64 < cLine) (hi : DE X H0 i ty) (ho : DE X H0 o td) (h1 : behindInMarks .NotIn o = false := by rfl) : DT X H0 (.Compare i [.NotIn] [o] pos) (dB (dNin not ty td)) := (pt_cmp (pc_nnotin hu hi ho) h1).to fun σ H Q h => by
  obtain ⟨δ, S, P, w, ht, hp⟩ := h
  refine nin_lift (b := not) σ H (fun x H' => ∃ c, x = .bl c ∧ Q c H') ⟨δ, S, _, w, ht, fun d S1 q v H1 k1 r1 p1 => ?_⟩
  split at q
  · exact ⟨_, rep_bl.mp p1, hp _ _ q _ k1 r1⟩
  · exact q.elim
@[simp] def isNd (d : Dv) (S : Store) : Prop := match d with
  | .ref a => (match S a with | some (.ndc _) => True | some (.fzn _ _ _) => True | _ => False)
  | _ => False
theorem isNd_is {d : Dv} {S : Store} {x : V} {H : Hp} (h : isNd d S) (r : Rel X.kw S H) (p : Rep X.kw H d x) : ∃ a, x = .ref a ∧ ∃ es, Rd H a (NdO X.w a es) := by
  unfold isNd at h
  split at h
  · split at h
    · rename_i ds e
      obtain ⟨es, he, _⟩ := r.ndc e
      exact ⟨_, rep_ref.mp p, es, .of he⟩
    · rename_i o es ds e
      obtain ⟨_, _, he, n⟩ := r.get e
      exact ⟨_, rep_ref.mp p, es, .inr ⟨o, he⟩⟩
    · exact h.elim
  · exact h.elim
@[simp] def dNget1 (td ty : DTE) : DTE := fun δ S P => td δ S fun d S1 => isNd d S1 ∧ ty δ S1 fun k S2 => gNat S2 d k fun v => P (v.getD .non) S2
@[simp] def dNget2 (td ty tx : DTE) : DTE := fun δ S P => td δ S fun d S1 => isNd d S1 ∧ ty δ S1 fun k S2 => tx δ S2 fun x S3 => gNat S3 d k fun v => P (v.getD x) S3
theorem de_nget1 (hu : X.A.units + 64 < cLine) (ho : DE X H0 o td) (he : DE X H0 e ty) (m : M1 X o "get" apos e cpos) : DE X H0 (.Call (.Attribute o "get" apos) [e] [] cpos) (dNget1 td ty) := (pe_nget1 hu ho he m).to fun σ H Q h => by
  obtain ⟨δ, S, P, w, ht, hp⟩ := h
  refine ⟨δ, S, _, w, ht, fun d S1 q x H1 k1 r1 p1 => ?_⟩
  obtain ⟨a, rfl, isd⟩ := isNd_is q.1 r1 p1
  refine ⟨a, rfl, isd, δ, S1, _, w.keep k1 r1, q.2, fun k S2 q2 y H2 k2 r2 p2 => ?_⟩
  obtain ⟨b, es, n, e, g, z⟩ := nat_get q2 r2 (p1.keep k2) p2
  cases e
  refine ⟨es, n, g, ?_⟩
  rcases z with ⟨e, z⟩ | ⟨d', v, e, rv, z⟩
  · rw [e]; exact hp _ _ z _ _ (k1.trans k2) r2 (rep_non.mpr rfl)
  · rw [e]; exact hp _ _ z _ _ (k1.trans k2) r2 rv
theorem de_nget2 (hu : X.A.units + 64 < cLine) (ho : DE X H0 o td) (he : DE X H0 e ty) (hf : DE X H0 f tx) (m : M2 X o "get" apos e f cpos) : DE X H0 (.Call (.Attribute o "get" apos) [e, f] [] cpos) (dNget2 td ty tx) := (pe_nget2 hu ho he hf m).to fun σ H Q h => by
  obtain ⟨δ, S, P, w, ht, hp⟩ := h
  refine ⟨δ, S, _, w, ht, fun d S1 q x H1 k1 r1 p1 => ?_⟩
  obtain ⟨a, rfl, isd⟩ := isNd_is q.1 r1 p1
  refine ⟨a, rfl, isd, δ, S1, _, w.keep k1 r1, q.2, fun k S2 q2 y H2 k2 r2 p2 => ⟨δ, S2, _, w.keep (k1.trans k2) r2, q2, fun xd S3 q3 z H3 k3 r3 p3 => ?_⟩⟩
  obtain ⟨b, es, n, e, g, zz⟩ := nat_get q3 r3 (p1.keep (k2.trans k3)) (p2.keep k3)
  cases e
  refine ⟨es, n, g, ?_⟩
  rcases zz with ⟨e, zz⟩ | ⟨d', v, e, rv, zz⟩
  · rw [e]; exact hp _ _ zz _ _ (k1.trans (k2.trans k3)) r3 p3
  · rw [e]; exact hp _ _ zz _ _ (k1.trans (k2.trans k3)) r3 rv
/-- d.pop(k), the key there -/
@[simp] def dNpop (td ty : DTE) : DTE := fun δ S P => td δ S fun d S1 => isNd d S1 ∧ ty δ S1 fun k S2 => match d with
  | .ref a => (match S2 a with | some (.ndc kvs) => kOk 8 k = true ∧ (match dval kvs k with | some v => P v (up S2 a (.ndc (ddrop kvs k))) | none => False) | _ => False)
  | _ => False
theorem de_npop (hu : X.A.units + 64 < cLine) (ho : DE X H0 o td) (he : DE X H0 e ty) (m : M1 X o "pop" apos e cpos) : DE X H0 (.Call (.Attribute o "pop" apos) [e] [] cpos) (dNpop td ty) := (pe_npop1 hu ho he m).to fun σ H Q h => by
  obtain ⟨δ, S, P, w, ht, hp⟩ := h
  refine ⟨δ, S, _, w, ht, fun d S1 q x H1 k1 r1 p1 => ?_⟩
  obtain ⟨a, rfl, isd⟩ := isNd_is q.1 r1 p1
  refine ⟨a, rfl, isd, δ, S1, _, w.keep k1 r1, q.2, fun k S2 q2 y H2 k2 r2 p2 => ?_⟩
  split at q2
  · rename_i b
    have eb := rep_ref.mp p1
    cases eb
    split at q2
    · rename_i kvs e
      obtain ⟨hk, q2⟩ := q2
      split at q2
      · rename_i v ev
        obtain ⟨es, hes, n⟩ := r2.ndc e
        obtain ⟨k', hk', dk⟩ := kOk_key 8 k hk
        rcases n.get hk' with ⟨h1, h2⟩ | ⟨d, v', h1, h2, h3⟩
        · rw [h1] at ev; cases ev
        · rw [h1] at ev; cases ev
          refine ⟨es, k', v', hes, ⟨.of hes, n.ndk, keyV_of k k' y hk' p2, dk⟩, h2, ?_⟩
          exact hp _ _ q2 _ _ ((k1.trans k2).trans (keep_nd hes)) (r2.ndcw e hes (n.drop hk')) (h3.keep (keep_nd hes))
      · exact q2.elim
    · exact q2.elim
  · exact q2.elim
/-- d[k] = v -/
@[simp] def dNput (td ty tv : DTE) : DTS := fun D δ S => tv δ S fun v S1 => td δ S1 fun d S2 => ty δ S2 fun k S3 => match d with
  | .ref a => (match S3 a with | some (.ndc kvs) => kOk 8 k = true ∧ kvs.length < sizeLine ∧ D.nx δ (up S3 a (.ndc (dput kvs k v))) | _ => False)
  | _ => False
theorem ds_nput {value : Expr} {pos' : Pos} (hu : X.A.units + 64 < cLine) (ho : DE X H0 o td) (hi : DE X H0 i ty) (hv : DE X H0 value tv) (hs : swapsWith value (some (.Subscript o i pos')) pos.line X.env = pure false := by rfl) :
    DS X H0 (.Assign [.Subscript o i pos'] value pos) (dNput td ty tv) := (ps_nput hu ho hi hv hs).to fun D σ H h => by
  obtain ⟨δ, S, D', w, ht, hp⟩ := h
  refine ⟨δ, S, _, w, ht, fun vd S1 q v H1 k1 r1 p1 => ⟨δ, S1, _, w.keep k1 r1, q, fun d S2 q2 x H2 k2 r2 p2 => ⟨δ, S2, _, w.keep (k1.trans k2) r2, q2, fun k S3 q3 y H3 k3 r3 p3 => ?_⟩⟩⟩
  split at q3
  · rename_i a
    split at q3
    · rename_i kvs e
      obtain ⟨es, hes, n⟩ := r3.ndc e
      obtain ⟨k', hk', dk⟩ := kOk_key 8 k q3.1
      refine ⟨a, es, k', rep_ref.mp p2, hes, ⟨.of hes, n.ndk, keyV_of k k' y hk' p3, dk⟩, by rw [n.length]; exact q3.2.1, ?_⟩
      exact hp.nx _ _ q3.2.2 _ _ (k1.trans (k2.trans (k3.trans (keep_nd hes)))) ((w.keep (k1.trans (k2.trans k3)) r3).keep (keep_nd hes) (r3.ndcw e hes (n.put hk' dk p3 (p1.keep (k2.trans k3)))))
    · exact q3.elim
  · exact q3.elim
/-- len(d) -/
@[simp] def gLenN : GA := fun ds S P => match ds with
  | [.ref a] => (match S a with | some (.ndc kvs) => P (.int kvs.length) S | _ => False)
  | _ => False
theorem cg_lenN : CallG X (.builtin "len") gLenN := ⟨_, call_len_nd, fun ds S P q vs H Q r rs hp => by
  unfold gLenN at q
  split at q
  · split at q
    · rename_i kvs e
      obtain ⟨v, rfl, rv⟩ := reps1 rs
      obtain ⟨es, hes, n⟩ := r.ndc e
      exact ⟨_, es, by rw [rep_ref.mp rv], hes, hp _ _ q _ _ .refl r (rep_int.mpr (by rw [n.length]))⟩
    · exact q.elim
  · exact q.elim⟩
end
end Sb

/-! Objects of the program's own classes. -/
namespace Sb
open PySem PySem.Spec PyProof.Rows L2

/-! ### facts about classes -/
/-- the class c -/
structure KlG (K : PySem.W.Frag) (mg : Str → Option Value) (c : Str) (C : Addr) : Prop where
  at_ : mg c = some (.ref C)
  cls : Cls K C
/-- fields by name -/
def fput (f : Str) (d : Dv) : List (Str × Dv) → List (Str × Dv)
  | [] => [(f, d)]
  | (g, x) :: r => if g = f then (g, d) :: r else (g, x) :: fput f d r
section
variable {K : Kw} {H : Hp}
theorem named_cons {p : Str × Dv} {fs : List (Str × Dv)} {ys : List (Str × V)} (h : Named K H (p :: fs) ys) : ∃ v ys', ys = (p.1, v) :: ys' ∧ Rep K H p.2 v ∧ Named K H fs ys' := by
  obtain ⟨h1, h2⟩ := h
  cases ys with
  | nil => simp at h1
  | cons y ys' =>
    simp only [List.map_cons, List.cons.injEq] at h1 h2
    obtain ⟨z, zs, e, r1, r2⟩ := h2.cons_inv
    simp only [List.cons.injEq] at e
    obtain ⟨rfl, rfl⟩ := e
    obtain ⟨y1, y2⟩ := y
    simp only at h1 r1
    obtain ⟨rfl, h1⟩ := h1
    exact ⟨y2, ys', rfl, r1, h1, r2⟩
theorem named_nil {ys : List (Str × V)} (h : Named K H [] ys) : ys = [] := by
  have := h.1
  simpa using this
theorem named_mk {n : Str} {d : Dv} {v : V} {fs : List (Str × Dv)} {ys : List (Str × V)} (r : Rep K H d v) (h : Named K H fs ys) : Named K H ((n, d) :: fs) ((n, v) :: ys) := ⟨by simp [h.1], by simp only [List.map_cons]; exact .cons r h.2⟩
theorem named_get : ∀ {fs : List (Str × Dv)} {ys : List (Str × V)} {f : Str} {d : Dv}, Named K H fs ys → fs.lookup f = some d → ∃ v, ys.lookup f = some v ∧ Rep K H d v
  | [], _, _, _, h, e => by simp at e
  | (n, x) :: fs, _, f, d, h, e => by
    obtain ⟨v, ys', rfl, r, t⟩ := named_cons h
    simp only [List.lookup_cons] at e ⊢
    cases q : f == n with
    | true => rw [q] at e; simp only [Option.some.injEq] at e; subst e; exact ⟨v, rfl, r⟩
    | false => rw [q] at e; exact named_get t e
theorem named_none : ∀ {fs : List (Str × Dv)} {ys : List (Str × V)} {f : Str}, Named K H fs ys → fs.lookup f = none → ys.lookup f = none
  | [], _, _, h, e => by rw [named_nil h]; rfl
  | (n, x) :: fs, _, f, h, e => by
    obtain ⟨v, ys', rfl, r, t⟩ := named_cons h
    simp only [List.lookup_cons] at e ⊢
    cases q : f == n with
    | true => rw [q] at e; cases e
    | false => rw [q] at e; exact named_none t e
theorem named_put : ∀ {fs : List (Str × Dv)} {ys : List (Str × V)} {f : Str} {d : Dv} {v : V}, Named K H fs ys → Rep K H d v → Named K H (fput f d fs) (putF f v ys)
  | [], _, _, _, _, h, r => by rw [named_nil h]; exact named_mk r ⟨rfl, .nil⟩
  | (n, x) :: fs, _, f, d, v, h, r => by
    obtain ⟨v', ys', rfl, r', t⟩ := named_cons h
    simp only [fput, putF]
    split
    · exact named_mk r t
    · exact named_mk r' (named_put t r)
theorem named_keep {H' : Hp} {fs : List (Str × Dv)} {ys : List (Str × V)} (h : Named K H fs ys) (k : Keep K H H') : Named K H' fs ys := ⟨h.1, h.2.keep k⟩
theorem named_len {fs : List (Str × Dv)} {ys : List (Str × V)} (h : Named K H fs ys) : ys.length = fs.length := by have := congrArg List.length h.1; simpa using this
theorem fvs_get {own : Own} {a : Addr} : ∀ {fs : List (Str × Fv)} {ys : List (Str × V)} {hs : List Addr} {f : Str} {d : Dv}, FvsAt K H own a fs ys hs → fs.lookup f = some (.val d) → ∃ v, ys.lookup f = some v ∧ Rep K H d v
  | [], _, _, _, _, _, e => by simp at e
  | (n, .val x) :: fs, _, _, f, d, h, e => by
    obtain ⟨v, ys', rfl, r, t⟩ := h
    simp only [List.lookup_cons] at e ⊢
    cases q : f == n with
    | true => rw [q] at e; simp only [Option.some.injEq, Fv.val.injEq] at e; subst e; exact ⟨v, rfl, r⟩
    | false => rw [q] at e; exact fvs_get t e
  | (n, .lst x) :: fs, _, _, f, d, h, e => by
    obtain ⟨l, xs, ys', hs', rfl, _, _, _, _, t⟩ := h
    simp only [List.lookup_cons] at e ⊢
    cases q : f == n with
    | true => rw [q] at e; cases e
    | false => rw [q] at e; exact fvs_get t e
  | (n, .dct x) :: fs, _, _, f, d, h, e => by
    obtain ⟨l, ys', hs', rfl, _, _, _, t⟩ := h
    simp only [List.lookup_cons] at e ⊢
    cases q : f == n with
    | true => rw [q] at e; cases e
    | false => rw [q] at e; exact fvs_get t e
theorem fvs_none {own : Own} {a : Addr} : ∀ {fs : List (Str × Fv)} {ys : List (Str × V)} {hs : List Addr} {f : Str}, FvsAt K H own a fs ys hs → fs.lookup f = none → ys.lookup f = none
  | [], _, _, _, h, _ => by rw [h.1]; rfl
  | (n, .val x) :: fs, _, _, f, h, e => by
    obtain ⟨v, ys', rfl, r, t⟩ := h
    simp only [List.lookup_cons] at e ⊢
    cases q : f == n with
    | true => rw [q] at e; cases e
    | false => rw [q] at e; exact fvs_none t e
  | (n, .lst x) :: fs, _, _, f, h, e => by
    obtain ⟨l, xs, ys', hs', rfl, _, _, _, _, t⟩ := h
    simp only [List.lookup_cons] at e ⊢
    cases q : f == n with
    | true => rw [q] at e; cases e
    | false => rw [q] at e; exact fvs_none t e
  | (n, .dct x) :: fs, _, _, f, h, e => by
    obtain ⟨l, ys', hs', rfl, _, _, _, t⟩ := h
    simp only [List.lookup_cons] at e ⊢
    cases q : f == n with
    | true => rw [q] at e; cases e
    | false => rw [q] at e; exact fvs_none t e
theorem keep_ins {a C dx : Addr} {ys : List (Str × V)} {o : HO} (h : H a = some (.ins C dx ys)) : Keep K H (upd H a o) := .upd fun u z => by
  rw [h] at z; cases z
  exact ⟨fun _ q => HO.noConfusion q, fun _ _ q => HO.noConfusion q⟩
end

/-! ### attributes -/
section
variable {X : Cx} {H0 : Hp} {e o value : Expr} {f c : Str} {C : Addr} {pos pos' : Pos} {ta tv : DTE}
/-- e.f of an object of the class c -/
@[simp] def dFld (c f : Str) (ta : DTE) : DTE := fun δ S P => ta δ S fun d S1 => match d with
  | .ref a => (match S1 a with
    | some (.ins c' fs) => c' = c ∧ (match fs.lookup f with | some d => P d S1 | none => False)
    | some (.obj c' fs) => c' = c ∧ (match fs.lookup f with | some (.val d) => P d S1 | _ => False)
    | _ => False)
  | _ => False
theorem de_fld (k : KlG X.K X.mg c C) (n : NoAttr X.K C f) (he : DE X H0 e ta) (hb : attributeBase e f X.env (eval e X.env) = eval e X.env := by rfl) : DE X H0 (.Attribute e f pos) (dFld c f ta) := (pe_fld he hb).to fun σ H Q h => by
  obtain ⟨δ, S, P, w, ht, hp⟩ := h
  refine ⟨δ, S, _, w, ht, fun d S1 q v H1 k1 r1 p1 => ?_⟩
  split at q
  · rename_i a
    split at q
    · rename_i c' fs e0
      obtain ⟨rfl, q⟩ := q
      obtain ⟨C', dx, ys, hc, ha, hn⟩ := r1.ins e0
      rw [show X.kw.mg c' = some (.ref C) from k.at_] at hc; cases hc
      split at q
      · rename_i d' hd
        obtain ⟨v', hv, rv⟩ := named_get hn hd
        exact ⟨a, C, dx, ys, v', rep_ref.mp p1, ha, k.cls, n, hv, hp _ _ q _ _ k1 r1 rv⟩
      · exact q.elim
    · rename_i c' fs e0
      obtain ⟨rfl, q⟩ := q
      obtain ⟨own, _, C', dx, ys, hs, hc, ha, _, hn⟩ := r1.get e0
      rw [show X.kw.mg c' = some (.ref C) from k.at_] at hc; cases hc
      split at q
      · rename_i d' hd
        obtain ⟨v', hv, rv⟩ := fvs_get hn hd
        exact ⟨a, C, dx, ys, v', rep_ref.mp p1, ha, k.cls, n, hv, hp _ _ q _ _ k1 r1 rv⟩
      · exact q.elim
    · exact q.elim
  · exact q.elim
/-- o.f = value -/
@[simp] def dSetF (c f : Str) (ta tv : DTE) : DTS := fun D δ S => tv δ S fun v S1 => ta δ S1 fun d S2 => match d with
  | .ref a => (match S2 a with
    | some (.ins c' fs) => c' = c ∧ fs.length < 1000 ∧ D.nx δ (up S2 a (.ins c (fput f v fs)))
    | _ => False)
  | _ => False
theorem ds_setF (k : KlG X.K X.mg c C) (n : NoAttr X.K C f) (ha : DE X H0 o ta) (hv : DE X H0 value tv) (hs : swapsWith value (some (.Attribute o f pos')) pos.line X.env = pure false := by rfl) : DS X H0 (.Assign [.Attribute o f pos'] value pos) (dSetF c f ta tv) := (ps_fld ha hv hs).to fun D σ H h => by
  obtain ⟨δ, S, D', w, ht, hp⟩ := h
  refine ⟨δ, S, _, w, ht, fun vd S1 q v H1 k1 r1 p1 => ⟨δ, S1, _, w.keep k1 r1, q, fun d S2 q2 x H2 k2 r2 p2 => ?_⟩⟩
  split at q2
  · rename_i a
    split at q2
    · rename_i c' fs e0
      obtain ⟨rfl, hl, q2⟩ := q2
      obtain ⟨C', dx, ys, hc, ha, hn⟩ := r2.ins e0
      rw [show X.kw.mg c' = some (.ref C) from k.at_] at hc; cases hc
      refine ⟨a, C, dx, ys, rep_ref.mp p2, ha, k.cls, n, by rw [named_len hn]; exact hl, ?_⟩
      refine hp.nx _ _ q2 _ _ (k1.trans (k2.trans (keep_ins ha))) ((w.keep (k1.trans k2) r2).keep (keep_ins ha) ?_)
      exact r2.write (o' := .ins c' (fput f vd fs)) e0 fun own _ z => ⟨OK1.mine z, C, dx, _, k.at_, upd_same, named_keep (named_put hn (p1.keep k2)) (keep_ins ha)⟩
    · exact q2.elim
  · exact q2.elim
end

/-! ### calls of methods -/
section
variable {X : Cx} {H0 : Hp} {k j : Nat} {f C : Addr} {fd : FuncData} {ps : List Str} {sp : DSp} {c m : Str} {p pos apos : Pos} {e o : Expr} {es : List Expr} {ta : DTE} {t : DTA}
/-- an object of the class c without a field m -/
@[simp] def isObj (c m : Str) (d : Dv) (S : Store) : Prop := match d with
  | .ref a => (match S a with
    | some (.ins c' fs) => c' = c ∧ fs.lookup m = none
    | some (.obj c' fs) => c' = c ∧ fs.lookup m = none
    | _ => False)
  | _ => False
@[simp] def dMeth (c m : Str) (sp : DSp) (Pe : DX) (to : DTE) (t : DTA) : DTE := fun δ S P => to δ S fun d S1 => isObj c m d S1 ∧ t δ S1 fun ds S2 => sp (d :: ds) S2 P Pe
theorem obj_at {d : Dv} {S : Store} {H : Hp} {x : V} (kc : KlG X.K X.mg c C) (h : isObj c m d S) (r : Rel X.kw S H) (p : Rep X.kw H d x) : ∃ a dx ys, x = .ref a ∧ H a = some (.ins C dx ys) ∧ ys.lookup m = none := by
  unfold isObj at h
  split at h
  · rename_i a
    split at h
    · rename_i c' fs e0
      obtain ⟨rfl, h⟩ := h
      obtain ⟨C', dx, ys, hc, ha, hn⟩ := r.ins e0
      rw [show X.kw.mg c' = some (.ref C) from kc.at_] at hc; cases hc
      exact ⟨a, dx, ys, rep_ref.mp p, ha, named_none hn h⟩
    · rename_i c' fs e0
      obtain ⟨rfl, h⟩ := h
      obtain ⟨own, _, C', dx, ys, hs, hc, ha, _, hn⟩ := r.get e0
      rw [show X.kw.mg c' = some (.ref C) from kc.at_] at hc; cases hc
      exact ⟨a, dx, ys, rep_ref.mp p, ha, fvs_none hn h⟩
    · exact h.elim
  · exact h.elim
/-- what a caller needs of a method -/
structure CalM (P : Program) (w : World) (K : PySem.W.Frag) (mg : Str → Option Value) (base : Heap) (k : Nat) (c m : Str) (ps : List Str) (sp : DSp) : Prop where
  ex : ∃ C f fd, KlG K mg c C ∧ Meth K C m f ∧ L2.Binds K fd ps [] ∧ DFn P w K mg base k f fd ps sp
theorem de_meth {pl : Sem Bool} (cm : CalM X.prog X.w X.K X.mg X.base j c m ps sp) (hgd : X.A.guards = some []) (hr : Room k X.A) (he : DE X H0 o ta) (ha : DA X H0 (e :: es) t) (hj : j ≤ k := by decide)
    (hst : starEach (e :: es) X.env = (false, eval e X.env) :: starEach es X.env := by rfl) (hpl : (backTo pos (starEach es X.env)).any (·.1) = false := by rfl)
    (ht : eval (.Call (.Attribute o m apos) (e :: es) [] pos) X.env = (do
      let ov ← eval o X.env
      standAt apos.atName
      let (f, first) ← holding [ov] (getMethod ov m pl)
      callWith pos f first (backTo pos (starEach (e :: es) X.env)) (backToKw pos (keywordEach [] X.env))) := by rfl) : DE X H0 (.Call (.Attribute o m apos) (e :: es) [] pos) (dMeth c m sp X0 ta t) := by
  obtain ⟨C, f, fd, kc, hm, hb, F⟩ := cm.ex
  refine ⟨fun pins s σ H Q I h => ?_⟩
  obtain ⟨δ, S, P, w, hto, hp⟩ := h
  refine PySem.W.methodCall_KW (pl := pl) (thn (he.run pins s σ H (fun x H1 => ∃ d S1, Keep X.kw H H1 ∧ Rel X.kw S1 H1 ∧ Rep X.kw H1 d x ∧ isObj c m d S1 ∧ t δ S1 fun ds S2 => sp (d :: ds) S2 P X0) I ⟨δ, S, _, w, hto, fun d S1 q x H1 k1 r1 p1 => ⟨d, S1, k1, r1, p1, q⟩⟩) fun u s1 ⟨x, H1, I1, rx, d, S1, k1, r1, p1, io, q⟩ => ?_) ht
  obtain ⟨a, dx, ys, rfl, hx, l⟩ := obj_at kc io r1 p1
  obtain rfl : u = Value.ref a := rx
  refine getmeth_ok I1 hx kc.cls hm l ?_
  refine PySem.W.callWith_K (first := [.ref a]) (h₀ := X.base) I.ok.mod.kin hm.kp (thn (ha.run pos pins s1 σ H1 (fun vs H2 => ∃ ds S2, Keep X.kw H1 H2 ∧ Rel X.kw S2 H2 ∧ Reps X.kw H2 ds vs ∧ sp (d :: ds) S2 P X0) I1 ⟨δ, S1, _, w.keep k1 r1, q, fun ds S2 q2 vs H2 k2 r2 p2 => ⟨ds, S2, k2, r2, p2, q2⟩⟩) fun us s2 ⟨vs, H2, I2, rv, ds, S2, k2, r2, p2, q2⟩ => ⟨I2.kIn, ?_⟩) hst hpl
  exact go_fn (us := .ref a :: us) (vs := .ref a :: vs) F hgd (hr.mono hj) hb passN I2 (.cons rfl rv) r2 (.cons (p1.keep k2) p2) q2 (hp.keep (k1.trans k2)) px0
theorem de_meth0 {pl : Sem Bool} (cm : CalM X.prog X.w X.K X.mg X.base j c m ps sp) (hgd : X.A.guards = some []) (hr : Room k X.A) (he : DE X H0 o ta) (hj : j ≤ k := by decide)
    (ht : eval (.Call (.Attribute o m apos) [] [] pos) X.env = (do
      let ov ← eval o X.env
      standAt apos.atName
      let (f, first) ← holding [ov] (getMethod ov m pl)
      callWith pos f first (backTo pos (starEach [] X.env)) (backToKw pos (keywordEach [] X.env))) := by rfl) : DE X H0 (.Call (.Attribute o m apos) [] [] pos) (dMeth c m sp X0 ta dNil) := by
  obtain ⟨C, f, fd, kc, hm, hb, F⟩ := cm.ex
  refine ⟨fun pins s σ H Q I h => ?_⟩
  obtain ⟨δ, S, P, w, hto, hp⟩ := h
  refine PySem.W.methodCall_KW (pl := pl) (thn (he.run pins s σ H (fun x H1 => ∃ d S1, Keep X.kw H H1 ∧ Rel X.kw S1 H1 ∧ Rep X.kw H1 d x ∧ isObj c m d S1 ∧ sp [d] S1 P X0) I ⟨δ, S, _, w, hto, fun d S1 q x H1 k1 r1 p1 => ⟨d, S1, k1, r1, p1, q⟩⟩) fun u s1 ⟨x, H1, I1, rx, d, S1, k1, r1, p1, io, q⟩ => ?_) ht
  obtain ⟨a, dx, ys, rfl, hx, l⟩ := obj_at kc io r1 p1
  obtain rfl : u = Value.ref a := rx
  refine getmeth_ok I1 hx kc.cls hm l ?_
  exact PySem.W.callWith_K0 (first := [.ref a]) I1.kIn hm.kp (go_fn (us := [.ref a]) (vs := [.ref a]) F hgd (hr.mono hj) hb passN I1 (.cons rfl .nil) r1 (.cons p1 .nil) q (hp.keep k1) px0)

/-! ### objects made -/
@[simp] def dMake (c : Str) (sp : DSp) (Pe : DX) (t : DTA) : DTE := fun δ S P => t δ S fun ds S1 => ∀ x, S1 x = none → sp (.ref x :: ds) (up S1 x (.ins c [])) (fun v S2 => v = .non ∧ P (.ref x) S2) Pe
structure CalC (P : Program) (w : World) (K : PySem.W.Frag) (mg : Str → Option Value) (base : Heap) (k : Nat) (c : Str) (ps : List Str) (sp : DSp) : Prop where
  ex : ∃ C f fd, KlG K mg c C ∧ Mk K C f ∧ L2.Binds K fd ps [] ∧ DFn P w K mg base k f fd ps sp
theorem go_make {pins : List (Addr × Obj)} {σ : L2.St} {H : Hp} {s : Shared} {Q : VK} {us : List Value} {vs : List V} {ds : List Dv} {S : Store} {P : DK} (kc : KlG X.K X.mg c C) (M : Mk X.K C f) (F : DFn X.prog X.w X.K X.mg X.base k f fd ps sp) (hgd : X.A.guards = some []) (hr : Room (k + 1) X.A)
    (hb : L2.Binds X.K fd ps []) (I : Inv X pins σ H s) (rv : Vals vs us) (rl : Rel X.kw S H) (rs : Reps X.kw H ds vs) (q : ∀ x, S x = none → sp (.ref x :: ds) (up S x (.ins c [])) (fun v S2 => v = .non ∧ P (.ref x) S2) X0) (pv : PV X.kw H P Q) :
    wpAny (model X.prog X.w) X.A (call (.ref C) us) (EP X pins σ Q) X.xe s := by
  have f1 : H (s.heap.objs.size + 1) = none := I.hok.fresh (Nat.le_succ _)
  have f0 : H s.heap.objs.size = none := I.hok.fresh (Nat.le_refl _)
  have hne : s.heap.objs.size + 1 ≠ s.heap.objs.size := Nat.succ_ne_self _
  have f1' : upd H s.heap.objs.size (.own (s.heap.objs.size + 1)) (s.heap.objs.size + 1) = none := by rw [upd_ne hne]; exact f1
  have hq := q (s.heap.objs.size + 1) (rl.free f1)
  have I2 := Inv.made (C := C) I
  have kp : Keep X.kw H (upd (upd H s.heap.objs.size (.own (s.heap.objs.size + 1))) (s.heap.objs.size + 1) (.ins C s.heap.objs.size [])) := (Keep.new f0).trans (Keep.new f1')
  have r2 : Rel X.kw (up S (s.heap.objs.size + 1) (.ins c [])) (upd (upd H s.heap.objs.size (.own (s.heap.objs.size + 1))) (s.heap.objs.size + 1) (.ins C s.heap.objs.size [])) :=
    (rl.new f0).laid f1' fun own ow => ⟨ow, C, s.heap.objs.size, [], kc.at_, upd_same, rfl, .nil⟩
  have rv2 : Vals (V.ref (s.heap.objs.size + 1) :: vs) (Value.ref (s.heap.objs.size + 1) :: us) := .cons rfl rv
  have hl : (Value.ref (s.heap.objs.size + 1) :: us).length = ps.length := by
    have e := F.len _ _ _ _ hq
    rw [← e, List.length_cons, List.length_cons, ← rv.length, rs.length]
  have bnd := hb _ (Value.ref (s.heap.objs.size + 1) :: us) I2.kIn (by rw [List.append_nil]; exact hl)
  rw [List.append_nil] at bnd
  refine wpAny_call (make_map (f := f) I.kIn M.makes M.init (beq_iff_eq.mp M.fn) (codeAny_mono (F.run (Q := fun v H2 => v = .non ∧ Q (.ref (s.heap.objs.size + 1)) H2) (E := E0) (by first | exact hgd | simpa using hgd) (hr.make C us []) (I2.env0.make C us []) bnd rv2 r2 (.cons (rep_ref.mpr rfl) (rs.keep kp)) hq
    (fun d S' p v H' k' r' rp => ?_) px0) fun r s' hq' => ?_))
  · obtain ⟨rfl, p⟩ := p
    exact ⟨rep_non.mp rp, pv _ _ p _ _ (kp.trans k') r' (rep_ref.mpr rfl)⟩
  · cases r with
    | error e => exact passN pins σ _ _ e s' I2 hq'
    | ok fl =>
      cases fl with
      | ret u =>
        obtain ⟨v, H', I3, rv, ev, q3⟩ := I2.after hq'
        subst ev
        exact ⟨rv, ⟨V.ref (s.heap.objs.size + 1), H', I3, rfl, q3⟩⟩
      | next => exact False.elim hq'
      | brk => exact False.elim hq'
      | cont => exact False.elim hq'
theorem de_make (cc : CalC X.prog X.w X.K X.mg X.base j c ps sp) (hgd : X.A.guards = some []) (hr : Room k X.A) (ha : DA X H0 (e :: es) t) (hj : j + 1 ≤ k := by decide) (hg : Gl X c := by rfl) (hdb : (c == ("__debug__" : Str)) = false := by decide)
    (he : starEach (e :: es) X.env = (false, eval e X.env) :: starEach es X.env := by rfl) (hpl : (backTo pos (starEach es X.env)).any (·.1) = false := by rfl) : DE X H0 (.Call (.Name c p) (e :: es) [] pos) (dMake c sp X0 t) := by
  obtain ⟨C, f, fd, kc, M, hb, F⟩ := cc.ex
  refine ⟨fun pins s σ H Q I h => ?_⟩
  refine wpAny_Call_Name_kw (ld_glob I hg kc.at_ ?_ hdb)
  obtain ⟨δ, S, P, w, ht, hp⟩ := h
  refine PySem.W.callWith_K (h₀ := X.base) I.ok.mod.kin M.kp (thn (ha.run pos pins s σ H (fun vs H1 => ∃ ds S1, Keep X.kw H H1 ∧ Rel X.kw S1 H1 ∧ Reps X.kw H1 ds vs ∧ ∀ x, S1 x = none → sp (.ref x :: ds) (up S1 x (.ins c [])) (fun v S2 => v = .non ∧ P (.ref x) S2) X0) I ⟨δ, S, _, w, ht, fun ds S1 q vs H1 k1 r1 p1 => ⟨ds, S1, k1, r1, p1, q⟩⟩) fun us s1 ⟨vs, H1, I1, rv, ds, S1, k1, r1, p1, q⟩ => ⟨I1.kIn, ?_⟩) he hpl
  exact go_make kc M F hgd (hr.mono hj) hb I1 rv r1 p1 q (hp.keep k1)
end
end Sb

/-! More rules over data: constants of the module, isinstance, tuple.index, list(range), walks. -/
namespace Sb
open PySem PySem.Spec L2
section
variable {X : Cx} {H0 : Hp} {e a o : Expr} {st : Stmt} {ta te : DTE} {p pos apos cpos : Pos}
/-! ### what is never reached -/
@[simp] def dNeverE : DTE := fun _ _ _ => False
theorem de_never : DE X H0 e dNeverE := ⟨fun pins s σ H Q I h => by obtain ⟨_, _, _, _, ht, _⟩ := h; exact ht.elim⟩
/-! ### constants of the module -/
theorem de_gint {x : Str} {n : Int} (hm : ∃ t, X.mg x = some (.int n t)) (hg : Gl X x := by rfl) (hd : (x == ("__debug__" : Str)) = false := by decide) : DE X H0 (.Name x pos) (dC (.int n)) := by
  obtain ⟨t, h⟩ := hm
  exact (pe_glob (v := .int n) hg h ⟨t, rfl⟩ hd).to (lift_C fun _ => by simp only [Rep])
theorem de_gty {x : Str} {T : String} (hm : X.mg x = none) (hv : bootBuiltins x = some (.type T)) (hg : Gl X x := by rfl) (hn : x ≠ "__name__" := by decide) (hd : (x == ("__debug__" : Str)) = false := by decide) : DE X H0 (.Name x pos) (dC (.ty T)) :=
  (pe_bltn (v := .ty T) hg hm hv rfl hn hd).to (lift_C fun _ => by simp only [Rep])
end
/-! ### isinstance -/
inductive Tn where
  | non | bl | int | str | lst | tup | dct
  deriving DecidableEq
def Tn.name : Tn → String
  | .non => "NoneType" | .bl => "bool" | .int => "int" | .str => "str" | .lst => "list" | .tup => "tuple" | .dct => "dict"
@[simp] def tb (T : String) : Option Tn := if T = "int" then some .int else if T = "bool" then some .bl else if T = "str" then some .str else if T = "tuple" then some .tup else if T = "list" then some .lst else if T = "dict" then some .dct else none
theorem tb_name {T : String} {b : Tn} (h : tb T = some b) : T = b.name ∧ b ≠ .non := by
  unfold tb at h
  repeat' split at h
  all_goals first | (cases h; rename_i e; exact ⟨e, by decide⟩) | cases h
@[simp] def isiT : Tn → Tn → Bool
  | .bl, .int => true
  | .bl, .bl => true | .int, .int => true | .str, .str => true | .lst, .lst => true | .tup, .tup => true | .dct, .dct => true
  | _, _ => false
theorem kit_tn : ∀ a b : Tn, b ≠ .non → kitB a.name b.name = some (isiT a b) := by
  intro a b h
  cases a <;> cases b <;> first | exact absurd rfl h | decide +kernel
@[simp] def tn (S : Store) : Dv → Option Tn
  | .non => some .non
  | .bl _ => some .bl
  | .int _ => some .int
  | .str _ => some .str
  | .tup _ => some .tup
  | .scr _ => some .lst
  | .ref a => (match S a with | some (.lst _) => some .lst | some (.dct _) => some .dct | _ => none)
  | .ty _ => none
theorem tn_ty {K : Kw} {S : Store} {H : Hp} {d : Dv} {v : V} {t : Tn} (h : tn S d = some t) (r : Rel K S H) (p : Rep K H d v) : TyX K.k H v (.type t.name) := by
  cases d with
  | non => cases h; rw [rep_non.mp p]; exact .base .non
  | bl b => cases h; rw [rep_bl.mp p]; exact .base (.bl b)
  | int i => cases h; rw [rep_int.mp p]; exact .base (.int i)
  | str x => cases h; rw [rep_str.mp p]; exact .base (.str x)
  | tup ds =>
    cases h
    obtain ⟨a, xs, rfl, q, _⟩ := rep_tup.mp p
    rcases q with ⟨o, q, _⟩ | ⟨o, its, n, h1, h2, _⟩
    · exact .fTuple q
    · exact .kTuple h1 h2
  | scr ns =>
    cases h
    obtain ⟨a, rfl, q⟩ := rep_scr.mp p
    rcases q with ⟨o, q⟩ | ⟨o, its, n, h1, h2, _⟩
    · exact .base (.frz q)
    · exact .kList h1 h2
  | ref a =>
    simp only [tn] at h
    rw [rep_ref.mp p]
    split at h
    · rename_i ds e; cases h; obtain ⟨xs, hx, _⟩ := r.lst e; exact .base (.lst hx)
    · rename_i ds e; cases h; obtain ⟨ys, hy, _⟩ := r.dct e; exact .base (.dK hy)
    · cases h
  | ty n => cases h
section
variable {X : Cx} {H0 : Hp} {e a o : Expr} {st : Stmt} {ta te : DTE} {p pos apos cpos : Pos}
@[simp] def gIsi : GA := fun ds S P => match ds with
  | [x, .ty T] => (match tn S x, tb T with | some a, some b => P (.bl (isiT a b)) S | _, _ => False)
  | _ => False
theorem cg_isi : CallG X (.builtin "isinstance") gIsi := ⟨_, call_isi, fun ds S P q vs H Q r rs hp => by
  unfold gIsi at q
  split at q
  · rename_i x T
    split at q
    · rename_i a b ea eb
      obtain ⟨v, u, rfl, rv, ru⟩ := reps2 rs
      obtain ⟨rfl, hb⟩ := tb_name eb
      have eu : u = .ty b.name := by simpa only [Rep] using ru
      exact ⟨v, u, .type a.name, .type b.name, isiT a b, rfl, by rw [eu]; exact .ty _, tn_ty ea r rv, kit_ty (kit_tn a b hb), hp _ _ q _ _ .refl r (rep_bl.mpr rfl)⟩
    · exact q.elim
  · exact q.elim⟩
/-! ### t.index(x) -/
theorem keyVs_nested_all {pins : List (Addr × Obj)} {σ : L2.St} {H : Hp} {s : Shared} (I : Inv X pins σ H s) {ks : List NestedKey} {xs : List V} {us : List Value} (h : KeyVs X.K H ks xs) (r : Vals xs us) : NestedAll s.heap ks us := KeyVs.nested I ks xs us h r
theorem nested_at {h : Heap} : ∀ {ks : List NestedKey} {vs : List Value}, NestedAll h ks vs → ∀ j (h1 : j < vs.length) (h2 : j < ks.length), NestedIs h ks[j] vs[j]
  | _, _, .nil, j, h1, _ => absurd h1 (Nat.not_lt_zero _)
  | _, _, .cons a b, 0, _, _ => a
  | _, _, .cons a b, j + 1, h1, h2 => nested_at b j (Nat.lt_of_succ_lt_succ h1) (Nat.lt_of_succ_lt_succ h2)
theorem mt_indexN (hu : X.A.units + 64 < cLine) : MtR X "tuple.index" (fun x xs H Q => ∃ a zs ks y k, x = .ref a ∧ xs = [y] ∧ SqT X.K H a zs ∧ KeyVs X.K H ks zs ∧ KeyV X.K H k y ∧ k.depth ≤ 8 ∧ k ∈ ks ∧ Q (.int (ks.idxOf k : Nat)) H) := by
  intro pins s σ H x xs v us Q I rx rxs h
  obtain ⟨a, zs, ks, y, k, rfl, rfl, hT, hks, hk, dk, hm, q⟩ := h
  cases rx
  cases rxs with
  | cons ry rt =>
    cases rt
    obtain ⟨its, rv, pt, _⟩ := I.tuple hT
    have hn := KeyVs.nested I ks zs its hks rv
    have hx := KeyV.nested I k y _ hk ry
    refine PySem.SeqAt.call_tuple_index pt ⟨NestedAll.length ks its hn, fun j h1 h2 => ?_⟩ hm ⟨.int (ks.idxOf k : Nat), H, I.tok _, ⟨_, rfl⟩, q⟩
    have h3 := eqAt_key ks[j] k X.A.in1 s its[j] _ (nested_at hn j h1 h2) hx (by show X.A.units + 1 + _ < cLine; omega)
    exact SeqAt.EqAt.cast h3 (NestedKey.decide_eq _ _).symm
/-- t.index(x), x in t -/
@[simp] def isTu (d : Dv) (_ : Store) : Prop := match d with | .tup _ => True | _ => False
def gIndexT : GM := fun d xs S P => match d, xs with
  | .tup ds, [x] => kOks 7 ds = true ∧ kOk 8 x = true ∧ x ∈ ds ∧ ∀ j, ds[j]? = some x → (∀ m, m < j → ds[m]? ≠ some x) → P (.int (j : Nat)) S
  | _, _ => False
theorem nkDs_at : ∀ {ds : List Dv} {ks : List NestedKey} {j : Nat} {d : Dv}, nkDs ds = some ks → ds[j]? = some d → ∃ k, ks[j]? = some k ∧ nkD d = some k
  | [], _, _, _, _, h => by simp at h
  | d :: ds, ks, j, x, e, h => by
    simp only [nkDs, Option.bind_eq_some_iff, Option.map_eq_some_iff] at e
    obtain ⟨k, a1, ks1, a2, rfl⟩ := e
    cases j with
    | zero => simp only [List.getElem?_cons_zero, Option.some.injEq] at h; subst h; exact ⟨k, rfl, a1⟩
    | succ j => simp only [List.getElem?_cons_succ] at h ⊢; exact nkDs_at a2 h
theorem nkDs_len : ∀ {ds : List Dv} {ks : List NestedKey}, nkDs ds = some ks → ks.length = ds.length
  | [], _, h => by simp only [nkDs, Option.some.injEq] at h; subst h; rfl
  | d :: ds, ks, e => by
    simp only [nkDs, Option.bind_eq_some_iff, Option.map_eq_some_iff] at e
    obtain ⟨k, a1, ks1, a2, rfl⟩ := e
    simp [nkDs_len a2]
theorem tuN_is {pins : List (Addr × Obj)} {σ : L2.St} {H : Hp} {s : Shared} {a : Addr} {xs : List V} (I : Inv X pins σ H s) (h : SqN X.K H a xs) : s.TypeIs (.ref a) "tuple" ∧ ∀ b, Value.ref a = .ref b → ∃ ob, s.heap.get? b = some ob ∧ ob.dict = none := by
  obtain ⟨its, rv, ⟨ob, ho, hc, _⟩, _⟩ := I.tuple h.t
  refine ⟨⟨ob, ho, hc⟩, fun b e => ?_⟩
  cases e
  rcases h with ⟨o, h, hd⟩ | ⟨o, _, _, h1, _, hd, _⟩
  · exact ⟨o, (I.hok a _ h).1, hd⟩
  · exact ⟨o, I.kIn _ _ h1, hd⟩
/-- t.m(e, ..) of a tuple -/
theorem de_tm {name : Str} {id : String} {g : GM} {es : List Expr} {to : DTE} {t : DTA} (m : ∃ r, MtR X id r ∧ ∀ d ds S P, g d ds S P → ∀ x xs H Q, Rel X.kw S H → Rep X.kw H d x → Reps X.kw H ds xs → PV X.kw H P Q → r x xs H Q) (slot : Slot "tuple" name id)
    (hty : typeOf (.builtin id) = pure (.type "method_descriptor")) (ho : DE X H0 o to) (ha : DA X H0 (e :: es) t)
    (hbase : attributeBase o name X.env (eval o X.env) = eval o X.env := by rfl)
    (hfew : ((backTo cpos (starEach (e :: es) X.env)).all (fun x => !x.1) && (backToKw cpos (keywordEach [] X.env)).all (fun x => x.1.isSome)
      && decide ((e :: es).length + ([] : List Keyword).length + (if ([] : List Keyword).isEmpty then 0 else 1) < 30)) = true := by rfl)
    (hline : (apos.endLine == cpos.line) = true := by rfl) (hs : starEach (e :: es) X.env = (false, eval e X.env) :: starEach es X.env := by rfl) (hplain : (backTo cpos (starEach es X.env)).any (·.1) = false := by rfl) :
    DE X H0 (.Call (.Attribute o name apos) (e :: es) [] cpos) (dBM isTu g to t) := by
  obtain ⟨r, hm, hg⟩ := m
  refine ⟨fun pins s σ H Q I h => ?_⟩
  obtain ⟨δ, S, P, w, hto, hp⟩ := h
  refine wpAny_Call_method_late hbase hfew hline rfl (thn (ho.run pins s σ H (fun x H1 => ∃ d S1, Keep X.kw H H1 ∧ Rel X.kw S1 H1 ∧ Rep X.kw H1 d x ∧ isTu d S1 ∧ t δ S1 fun ds S2 => g d ds S2 P) I ⟨δ, S, _, w, hto, fun d S1 q x H1 k1 r1 p1 => ⟨d, S1, k1, r1, p1, q⟩⟩) fun v s1 ⟨x, H1, I1, rx, d, S1, k1, r1, p1, tu, q⟩ => ?_)
  cases d with
  | tup ds =>
    obtain ⟨a, xs, rfl, hq, rs⟩ := rep_tup.mp p1
    obtain rfl : v = Value.ref a := rx
    obtain ⟨h1, h2⟩ := tuN_is I1 hq
    refine ⟨"tuple", id, PySem.F.plainAttrs_tuple, slot, hty, h1, h2, ?_⟩
    have hA := ha.run cpos pins s1 σ H1 (fun vs H2 => ∃ ds' S2, Keep X.kw H1 H2 ∧ Rel X.kw S2 H2 ∧ Reps X.kw H2 ds' vs ∧ g (.tup ds) ds' S2 P) I1 ⟨δ, S1, _, w.keep k1 r1, q, fun ds' S2 q2 vs H2 k2 r2 p2 => ⟨ds', S2, k2, r2, p2, q2⟩⟩
    rw [hs] at hA ⊢
    refine Calls.callWith_builtin (by show (false || (backTo cpos (starEach es X.env)).any (·.1)) = false; rw [hplain] <;> rfl) (Calls.evalArgs_plain ?_)
    exact thn hA fun us s2 ⟨vs, H2, I2, rv, ds', S2, k2, r2, p2, q2⟩ => hm pins s2 σ H2 (.ref a) vs (.ref a) us Q I2 rfl rv (hg _ _ _ _ q2 _ _ _ _ r2 (p1.keep k2) p2 (hp.keep (k1.trans k2)))
  | _ => exact tu.elim
theorem mg_indexT (hu : X.A.units + 64 < cLine) : ∃ r, MtR X "tuple.index" r ∧ ∀ d ds S P, gIndexT d ds S P → ∀ x xs H Q, Rel X.kw S H → Rep X.kw H d x → Reps X.kw H ds xs → PV X.kw H P Q → r x xs H Q :=
  ⟨_, mt_indexN hu, fun d xs S P q x vs H Q r p rs hp => by
    unfold gIndexT at q
    split at q
    · rename_i ds y
      obtain ⟨h1, h2, h3, h4⟩ := q
      obtain ⟨a, zs, rfl, hT, rz⟩ := rep_tup.mp p
      obtain ⟨v, rfl, rv⟩ := reps1 rs
      obtain ⟨ks, ek, _⟩ := kOks_keys 7 ds h1
      obtain ⟨k, ey, dk⟩ := kOk_key 8 y h2
      obtain ⟨i, hi⟩ := List.mem_iff_getElem?.mp h3
      obtain ⟨k', hk', ek'⟩ := nkDs_at ek hi
      have : k' = k := by rw [ey] at ek'; exact (Option.some.inj ek').symm
      subst this
      have hm : k' ∈ ks := List.mem_of_getElem? hk'
      have hlt := List.idxOf_lt_length_iff.mpr hm
      have hat : ds[ks.idxOf k']? = some y := by
        have hl : ks.idxOf k' < ds.length := by rw [← nkDs_len ek]; exact hlt
        obtain ⟨z, hz, ez⟩ := nkDs_at ek (List.getElem?_eq_getElem hl)
        rw [List.getElem?_eq_getElem hlt, List.getElem_idxOf hlt] at hz
        cases hz
        rw [List.getElem?_eq_getElem hl, nkD_inj _ _ _ ez ey]
      refine ⟨a, zs, ks, v, k', rfl, rfl, hT.t, keyVs_of ds ks zs ek rz, keyV_of y k' v ey rv, dk, hm, ?_⟩
      refine hp _ _ (h4 _ hat fun m hmlt e => ?_) _ _ .refl r (rep_int.mpr rfl)
      obtain ⟨z, hz, ez⟩ := nkDs_at ek e
      rw [ey] at ez; cases ez
      obtain ⟨hm2, hz2⟩ := List.getElem?_eq_some_iff.mp hz
      exact PySem.SeqAt.lt_idxOf_ne hmlt hm2 hz2
    · exact q.elim⟩
end
end Sb

/-! Walks over data: locked dicts, enumerate; list(range); objects opened and closed. -/
namespace Sb
open PySem PySem.Spec L2
section
variable {X : Cx} {H0 : Hp} {e a o : Expr} {st : Stmt} {tg : Expr} {ta te td : DTE} {t : DTS} {p q pos qpos apos cpos : Pos}
/-! ### list(range(n)) -/
@[simp] def dLstRg (te : DTE) : DTE := fun δ S P => te δ S fun d S1 => match d with
  | .int n => -1000000 ≤ n ∧ n ≤ 16777216 ∧ ∀ l, S1 l = none → P (.ref l) (up S1 l (.lst ((List.range n.toNat).map fun (i : Nat) => Dv.int i)))
  | _ => False
theorem reps_rg {K : Kw} {H : Hp} (n : Int) : Reps K H ((List.range n.toNat).map fun (i : Nat) => Dv.int i) (rgV 0 n) := by
  unfold rgV
  have e : (n - 0).toNat = n.toNat := by omega
  rw [e]
  induction List.range n.toNat with
  | nil => exact .nil
  | cons i l ih => exact .cons (rep_int.mpr (by simp)) ih
theorem de_listRg (hc : X.calm = true) (hg : Gl X "list") (hm : X.mg "list" = none) (hg2 : Gl X "range") (hm2 : X.mg "range" = none) (h : DE X H0 e te)
    (na : starEach [.Call (.Name "range" q) [e] [] qpos] X.env = (false, eval (.Call (.Name "range" q) [e] [] qpos) X.env) :: starEach [] X.env := by rfl) (na2 : starEach [e] X.env = (false, eval e X.env) :: starEach [] X.env := by rfl) :
    DE X H0 (.Call (.Name "list" p) [.Call (.Name "range" q) [e] [] qpos] [] pos) (dLstRg te) := (pe_listRg hc hg hm (prg_1 hg2 hm2 h na2) na).to fun σ H Q h => by
  obtain ⟨δ, S, P, w, ht, hp⟩ := h
  refine ⟨δ, S, _, w, ht, fun d S1 q v H1 k1 r1 p1 => ?_⟩
  split at q
  · rename_i n
    refine ⟨n, rep_int.mp p1, ⟨by decide, by decide, by omega, by omega, by omega⟩, fun l hl => ?_⟩
    exact (hp.keep k1).lst r1 (reps_rg n) q.2.2 hl
  · exact q.elim
/-! ### a statement while a dict is locked -/
def dLock (t : DTS) : DTS := fun D δ S => ∃ a kvs, S a = some (.ndc kvs) ∧ ∀ (od : Obj) (es : NL V V), t
  { nx := fun δ' S' => S' a = some (.fzn od es kvs) ∧ D.nx δ' (up S' a (.ndc kvs)), rt := fun d S' => S' a = some (.fzn od es kvs) ∧ D.rt d (up S' a (.ndc kvs)),
    bk := fun δ' S' => S' a = some (.fzn od es kvs) ∧ D.bk δ' (up S' a (.ndc kvs)), ct := fun δ' S' => S' a = some (.fzn od es kvs) ∧ D.ct δ' (up S' a (.ndc kvs)) } δ (up S a (.fzn od es kvs))
theorem keep_unlock {K : Kw} {H : Hp} {a : Addr} {od : Obj} {w : World} {es : NL V V} (h : H a = some (.frz od (NdO w a es))) : Keep K H (upd H a (NdO w a es)) := by
  refine ⟨fun b xs q => ?_, fun b xs q => ?_⟩
  · rcases q with ⟨ob, q, qd⟩ | q
    · have : b ≠ a := fun z => by subst z; rw [h] at q; cases q
      exact .inl ⟨ob, by rw [upd_ne this]; exact q, qd⟩
    · exact .inr q
  · rcases q with ⟨ob, q⟩ | q
    · have : b ≠ a := fun z => by subst z; rw [h] at q; cases q
      exact .inl ⟨ob, by rw [upd_ne this]; exact q⟩
    · exact .inr q
theorem Rel.unlock {K : Kw} {S : Store} {H : Hp} {a : Addr} {od : Obj} {es : NL V V} {kvs : List (Dv × Dv)} (r : Rel K S H) (e : S a = some (.fzn od es kvs)) : H a = some (.frz od (NdO K.w a es)) ∧ Rel K (up S a (.ndc kvs)) (upd H a (NdO K.w a es)) := by
  obtain ⟨own, _, h2⟩ := id r.ex
  have h := (h2 a _ e).2.1
  refine ⟨h, r.writeK e (keep_unlock h) fun own _ z => ⟨OK1.mine z, es, upd_same, z.2.2.keep (keep_unlock h)⟩⟩
theorem ds_lock (h : DS X H0 st t) : DS X H0 st (dLock t) := (ps_lock h).to fun D σ H q => by
  obtain ⟨δ, S, D', w, ⟨a, kvs, e, ht⟩, hp⟩ := q
  obtain ⟨es, he, n⟩ := w.rel.ndc e
  refine ⟨a, NdO X.w a es, he, True.intro, fun od => ⟨δ, up S a (.fzn od es kvs), _, w.keep (keep_nd he) (w.rel.write (o' := .fzn od es kvs) e fun own _ z => ⟨OK1.mine z, upd_same, n.keep (keep_nd he)⟩), ht od es, ?_⟩⟩
  have go : ∀ {S1 : Store} {H1 : Hp} {σ1 : L2.St} {δ1 : DSt}, S1 a = some (.fzn od es kvs) → Keep X.kw (upd H a (.frz od (NdO X.w a es))) H1 → Wd X.kw H0 σ1 δ1 S1 H1 → H1 a = some (.frz od (NdO X.w a es)) ∧ Keep X.kw H (upd H1 a (NdO X.w a es)) ∧ Wd X.kw H0 σ1 δ1 (up S1 a (.ndc kvs)) (upd H1 a (NdO X.w a es)) := fun e1 k1 w1 =>
    let ⟨h1, r1⟩ := w1.rel.unlock e1
    ⟨h1, ((keep_nd he).trans k1).trans (keep_unlock h1), w1.keep (keep_unlock h1) r1⟩
  refine ⟨fun δ1 S1 z σ1 H1 k1 w1 => ?_, fun δ1 S1 z σ1 H1 k1 w1 => ?_, fun δ1 S1 z σ1 H1 k1 w1 => ?_, fun d S1 z v H1 k1 r1 p1 => ?_⟩
  · obtain ⟨g1, g2, g3⟩ := go z.1 k1 w1; exact ⟨g1, hp.nx _ _ z.2 _ _ g2 g3⟩
  · obtain ⟨g1, g2, g3⟩ := go z.1 k1 w1; exact ⟨g1, hp.bk _ _ z.2 _ _ g2 g3⟩
  · obtain ⟨g1, g2, g3⟩ := go z.1 k1 w1; exact ⟨g1, hp.ct _ _ z.2 _ _ g2 g3⟩
  · obtain ⟨h1, r2⟩ := r1.unlock z.1
    exact ⟨h1, hp.rt _ _ z.2 _ _ (((keep_nd he).trans k1).trans (keep_unlock h1)) r2 (p1.keep (keep_unlock h1))⟩
/-! ### for k in d -/
@[simp] def dIN (td : DTE) : DTI := fun δ S P => td δ S fun d S1 => match d with
  | .ref a => (match S1 a with | some (.fzn od es kvs) => P (kvs.map (·.1)) (fun S => S a = some (.fzn od es kvs)) S1 | _ => False)
  | _ => False
theorem KVn.key_at {K : Kw} {H : Hp} : ∀ {kvs : List (Dv × Dv)} {es : NL V V} {i : Nat} {d : Dv}, KVn K H kvs es → (kvs.map (·.1))[i]? = some d → ∃ e, es[i]? = some e ∧ Rep K H d e.2.1
  | [], _, _, _, _, h => by simp at h
  | p :: kvs, _, i, d, n, h => by
    obtain ⟨k, x, y, es', rfl, _, _, h3, _, h5⟩ := n
    cases i with
    | zero => simp only [List.map_cons, List.getElem?_cons_zero, Option.some.injEq] at h; subst h; exact ⟨_, rfl, h3⟩
    | succ j => simp only [List.map_cons, List.getElem?_cons_succ] at h ⊢; exact h5.key_at h
theorem di_nkeys (h : DE X H0 e td) : DI X H0 tg e (dIN td) := (pi_nkeys h).to fun σ H R h => by
  obtain ⟨δ, S, P, w, ht, hp⟩ := h
  refine ⟨δ, S, _, w, ht, fun d S1 q v H1 k1 r1 p1 => ?_⟩
  split at q
  · rename_i a
    split at q
    · rename_i od es kvs e0
      obtain ⟨_, _, ha, n⟩ := r1.get e0
      refine ⟨a, od, es, rep_ref.mp p1, ha, hp _ _ _ q _ _ k1 r1 fun i S2 H2 k2 r2 g => ?_⟩
      obtain ⟨_, _, ha2, n2⟩ := r2.get g
      refine ⟨fun z => ⟨ha2, by rw [n2.length, z, List.length_map]; exact Nat.le_refl _⟩, fun d hd => ?_⟩
      obtain ⟨en, he, rk⟩ := n2.key_at hd
      refine ⟨⟨ha2, (List.getElem?_eq_some_iff.mp he).1⟩, fun x H' y => ?_⟩
      obtain ⟨rfl, e', he', rfl⟩ := y
      rw [he] at he'; cases he'
      exact ⟨.refl, r2, rk⟩
    · exact q.elim
  · exact q.elim
/-! ### enumerate(t) -/
@[simp] def dIE (ta : DTA) : DTI := fun δ S P => ta δ S fun ds S1 => match ds with
  | [.tup ds] => P (ds.zipIdx.map fun p => Dv.tup [.int (p.2 : Nat), p.1]) (fun _ => True) S1
  | _ => False
theorem di_enumT {elts : List Expr} {kk : Nat} {tpos : Pos} {ta : DTA} (hg : Gl X "enumerate") (hm : X.mg "enumerate" = none) (ha : DA X H0 [e] ta) (hs : starEach [e] X.env = [(false, eval e X.env)] := by rfl) : DI X H0 (.Tuple elts kk tpos) (.Call (.Name "enumerate" p) [e] [] pos) (dIE ta) := (pi_enumT hg hm ha hs).to fun σ H R h => by
  obtain ⟨δ, S, P, w, ht, hp⟩ := h
  refine ⟨δ, S, _, w, ht, fun ds S1 q vs H1 k1 r1 p1 => ?_⟩
  split at q
  · rename_i ds
    obtain ⟨v, rfl, rv⟩ := reps1 p1
    obtain ⟨a, xs, rfl, hq, rs⟩ := rep_tup.mp rv
    refine ⟨a, xs, rfl, hq.t, hp _ _ _ q _ _ k1 r1 fun i S2 H2 k2 r2 _ => ?_⟩
    have hq2 := (k2.t _ _ hq).t
    have rs2 := Reps.keep k2 _ _ rs
    refine ⟨fun z => ⟨xs, hq2, by rw [rs.length, z]; simp⟩, fun d hd => ?_⟩
    rw [List.getElem?_map] at hd
    obtain ⟨y, hy, rfl⟩ := Option.map_eq_some_iff.mp hd
    obtain ⟨dd, j⟩ := y
    rw [List.getElem?_zipIdx] at hy
    obtain ⟨dd', hdd, hj⟩ := Option.map_eq_some_iff.mp hy
    simp only [Prod.mk.injEq, Nat.zero_add] at hj
    obtain ⟨rfl, rfl⟩ := hj
    obtain ⟨x, ex, rx⟩ := rs2.get hdd
    refine ⟨⟨xs, x, hq2, ex⟩, fun u H' y => ?_⟩
    obtain ⟨T, x', ob, rfl, hT, hob, rfl, hx⟩ := y
    have := hx xs hq2
    rw [ex] at this; cases this
    exact ⟨.new hT, r2.new hT, rep_new_tup hob hT (.cons (rep_int.mpr rfl) (.cons rx .nil))⟩
  · exact q.elim
end
end Sb

/-! An object of three fields (a value, a list, a dict) opened and closed. -/
namespace Sb
open PySem PySem.Spec L2
section
variable {K : Kw} {S S' : Store} {P : Store → Prop} {a l k : Addr} {c n1 n2 n3 : Str} {d1 : Dv} {ds : List Dv} {kvs : List (Dv × Dv)}
theorem VS.openW (ha : S a = some (.obj c [(n1, .val d1), (n2, .lst ds), (n3, .dct kvs)]))
    (h : ∀ l k : Addr, l ≠ a → k ≠ a → l ≠ k → S l = none → S k = none → P (up (up (up S l (.lst ds)) k (.ndc kvs)) a (.ins c [(n1, d1), (n2, .ref l), (n3, .ref k)]))) : VS K S P := fun H r => by
  obtain ⟨own, h1, h2⟩ := r.ex
  have ka := h2 a _ ha
  obtain ⟨oa, C, dx, ys, hs, hc, ex, nd, v1, y1, rfl, r1, l, xs, y2, h2', rfl, rfl, ol, el, rl, k, y3, h3', rfl, rfl, ok, ek, rfl, rfl⟩ := id ka
  have la : l ≠ a := fun z => by rw [z, oa] at ol; cases ol
  have kk : k ≠ a := fun z => by rw [z, oa] at ok; cases ok
  have lk : l ≠ k := fun z => by subst z; simp at nd
  have Sl := (h1 l a ol).1
  have Sk := (h1 k a ok).1
  refine ⟨_, ?_, h l k la kk lk Sl Sk⟩
  refine ⟨fun x => if x = l then none else if x = k then none else own x, fun x b e => ?_, fun b o e => ?_⟩
  · dsimp only at e
    by_cases hl : x = l
    · rw [if_pos hl] at e; cases e
    · rw [if_neg hl] at e
      by_cases hk : x = k
      · rw [if_pos hk] at e; cases e
      · rw [if_neg hk] at e
        obtain ⟨e1, e2⟩ := h1 x b e
        have xa : x ≠ a := fun z => by rw [z, oa] at e; cases e
        exact ⟨by rw [up_ne xa, up_ne hk, up_ne hl]; exact e1, e2⟩
  · by_cases hb : b = a
    · subst hb
      rw [up_same] at e; cases e
      exact ⟨by dsimp only; rw [if_neg (Ne.symm la), if_neg (Ne.symm kk)]; exact oa, C, dx, _, hc, ex, rfl, .cons r1 (.cons (rep_ref.mpr rfl) (.cons (rep_ref.mpr rfl) .nil))⟩
    · rw [up_ne hb] at e
      by_cases hk : b = k
      · subst hk
        rw [up_same] at e; cases e
        exact ⟨by dsimp only; rw [if_neg (Ne.symm lk), if_pos rfl], ek⟩
      · rw [up_ne hk] at e
        by_cases hl : b = l
        · subst hl
          rw [up_same] at e; cases e
          exact ⟨if_pos rfl, xs, el, rl⟩
        · rw [up_ne hl] at e
          refine OK1.frame (h2 b o e) .refl (by rw [if_neg hl, if_neg hk]) (fun x q => ?_) fun _ _ _ => rfl
          have xl : x ≠ l := fun z => by rw [z, ol] at q; cases q; exact hb rfl
          have xk : x ≠ k := fun z => by rw [z, ok] at q; cases q; exact hb rfl

          rw [if_neg xl, if_neg xk]; exact q
theorem VS.mkW (ha : S a = some (.ins c [(n1, d1), (n2, .ref l), (n3, .ref k)])) (hl : S l = some (.lst ds)) (hk : S k = some (.ndc kvs)) (la : l ≠ a) (kk : k ≠ a) (lk : l ≠ k)
    (hs : ∀ b o, b ≠ a → S' b = some o → S b = some o) (nl : S' l = none) (nk : S' k = none) (h : P (up S' a (.obj c [(n1, .val d1), (n2, .lst ds), (n3, .dct kvs)]))) : VS K S P := fun H r => by
  refine ⟨_, ?_, h⟩
  obtain ⟨own, h1, h2⟩ := r.ex
  have qa := h2 a _ ha
  have ql := h2 l _ hl
  have qk := h2 k _ hk
  have oa := OK1.mine qa
  have ol := OK1.mine ql
  have ok := OK1.mine qk
  refine ⟨fun x => if x = l then some a else if x = k then some a else own x, fun x b e => ?_, fun b o e => ?_⟩
  · dsimp only at e
    by_cases hxl : x = l
    · subst hxl
      exact ⟨by rw [up_ne la]; exact nl, OK1.there ql⟩
    · rw [if_neg hxl] at e
      by_cases hxk : x = k
      · subst hxk
        exact ⟨by rw [up_ne kk]; exact nk, OK1.there qk⟩
      · rw [if_neg hxk] at e
        obtain ⟨e1, e2⟩ := h1 x b e
        have xa : x ≠ a := fun z => by rw [z, oa] at e; cases e
        refine ⟨?_, e2⟩
        rw [up_ne xa]
        cases q : S' x with
        | none => rfl
        | some u => rw [hs x u xa q] at e1; cases e1
  · by_cases hb : b = a
    · subst hb
      rw [up_same] at e; cases e
      obtain ⟨_, C, dx, ys, hc, ex, nm⟩ := qa
      obtain ⟨v1, y1, rfl, r1, t1⟩ := named_cons nm
      obtain ⟨v2, y2, rfl, r2, t2⟩ := named_cons t1
      obtain ⟨v3, y3, rfl, r3, t3⟩ := named_cons t2
      rw [named_nil t3] at ex
      have e2 := rep_ref.mp r2
      have e3 := rep_ref.mp r3
      simp only at e2 e3 ex
      subst e2 e3
      obtain ⟨_, xs, ey, ry⟩ := ql
      exact ⟨by dsimp only; rw [if_neg (Ne.symm la), if_neg (Ne.symm kk)]; exact oa, C, dx, _, [l, k], hc, ex, by simp [lk], v1, _, rfl, r1, l, xs, _, [k], rfl, rfl, if_pos rfl, ey, ry, k, [], [], rfl, rfl, by dsimp only; rw [if_neg (Ne.symm lk), if_pos rfl], qk.2, rfl, rfl⟩
    · rw [up_ne hb] at e
      have bl : b ≠ l := fun z => by rw [z, nl] at e; cases e
      have bk : b ≠ k := fun z => by rw [z, nk] at e; cases e
      refine OK1.frame (h2 b o (hs b o hb e)) .refl (by rw [if_neg bl, if_neg bk]) (fun x q => ?_) fun _ _ _ => rfl
      have xl : x ≠ l := fun z => by rw [z, ol] at q; cases q
      have xk : x ≠ k := fun z => by rw [z, ok] at q; cases q

      rw [if_neg xl, if_neg xk]; exact q
end
@[simp] theorem dLock_eq {t : DTS} {D : DEnds} {δ : DSt} {S : Store} : dLock t D δ S ↔ ∃ a kvs, S a = some (.ndc kvs) ∧ ∀ (od : Obj) (es : NL V V), t
  { nx := fun δ' S' => S' a = some (.fzn od es kvs) ∧ D.nx δ' (up S' a (.ndc kvs)), rt := fun d S' => S' a = some (.fzn od es kvs) ∧ D.rt d (up S' a (.ndc kvs)),
    bk := fun δ' S' => S' a = some (.fzn od es kvs) ∧ D.bk δ' (up S' a (.ndc kvs)), ct := fun δ' S' => S' a = some (.fzn od es kvs) ∧ D.ct δ' (up S' a (.ndc kvs)) } δ (up S a (.fzn od es kvs)) := Iff.rfl
end Sb
namespace Sb
open PySem PySem.Spec L2
/-- a method of a class -/
structure DefM (K : PySem.W.Frag) (C : Addr) (m qual : Str) (st : Stmt) : Prop where
  ex : ∃ f fd, Fun K m qual st f fd ∧ Meth K C m f
end Sb

/-! Names as texts; fields by name. -/
namespace Sb
open PySem PySem.Spec L2
theorem toNat_inj : ∀ {a b : List Char}, a.map Char.toNat = b.map Char.toNat → a = b
  | [], [], _ => rfl
  | [], _ :: _, h => by simp at h
  | _ :: _, [], h => by simp at h
  | x :: a, y :: b, h => by
    simp only [List.map_cons, List.cons.injEq] at h
    rw [Char.toNat_inj.mp h.1, toNat_inj h.2]
@[simp] theorem ofStr_inj {a b : String} : (Str.ofString a = Str.ofString b) ↔ a = b := by
  refine ⟨fun h => ?_, fun h => by rw [h]⟩
  rw [PySem.Str.ofString_eq_toList, PySem.Str.ofString_eq_toList] at h
  simp only [Str.mk.injEq] at h
  have := congrArg Array.toList h
  simp only at this
  have := toNat_inj this
  exact String.toList_inj.mp this
@[simp] theorem lookup_str {α : Type} (f n : Str) (x : α) (fs : List (Str × α)) : List.lookup f ((n, x) :: fs) = if f = n then some x else List.lookup f fs := by
  rw [List.lookup_cons]
  by_cases h : f = n
  · rw [if_pos h, show (f == n) = true from by rw [h]; exact beq_self_eq_true _]
  · rw [if_neg h, show (f == n) = false from by simpa using h]
@[simp] theorem fput_nil (f : Str) (d : Dv) : fput f d [] = [(f, d)] := rfl
@[simp] theorem fput_cons (f g : Str) (d x : Dv) (r : List (Str × Dv)) : fput f d ((g, x) :: r) = if g = f then (g, d) :: r else (g, x) :: fput f d r := rfl
@[simp] theorem up_ne3 {S : Store} {a b : Addr} {o : O} (h : a ≠ b) : up S a o b = S b := up_ne (Ne.symm h)
end Sb

/-! tuple * int over data. -/
namespace Sb
open PySem PySem.Spec L2
theorem Reps.repV {K : Kw} {H : Hp} {ds : List Dv} {xs : List V} (r : Reps K H ds xs) (k : Int) : Reps K H (repV ds k) (repV xs k) := by
  unfold Sb.repV
  generalize k.toNat = n
  induction n with
  | zero => exact .nil
  | succ n ih =>
    simp only [List.replicate_succ, List.flatten_cons]
    exact r.append ih
theorem repV_one {α : Type} (xs : List α) : repV xs 1 = xs := by
  show (List.replicate 1 xs).flatten = xs
  rw [List.replicate_one, List.flatten_cons, List.flatten_nil, List.append_nil]
theorem repV_nil {α : Type} (k : Int) : repV ([] : List α) k = [] := by
  unfold repV
  generalize k.toNat = n
  induction n with
  | zero => rfl
  | succ n ih => rw [List.replicate_succ, List.flatten_cons, ih]; rfl
theorem repV_map {α β : Type} (f : α → β) (xs : List α) (k : Int) : repV (xs.map f) k = (repV xs k).map f := by
  unfold repV
  generalize k.toNat = n
  induction n with
  | zero => rfl
  | succ n ih => rw [List.replicate_succ, List.replicate_succ, List.flatten_cons, List.flatten_cons, List.map_append, ih]
theorem repV_length {α : Type} (xs : List α) (k : Int) : (repV xs k).length = k.toNat * xs.length := by
  unfold repV
  generalize k.toNat = n
  induction n with
  | zero => simp
  | succ n ih => simp only [List.replicate_succ, List.flatten_cons, List.length_append, ih]; rw [Nat.succ_mul]; omega
theorem repV_mem {α : Type} {xs : List α} {k : Int} {x : α} (h : x ∈ repV xs k) : x ∈ xs := by
  unfold repV at h
  obtain ⟨l, hl, hx⟩ := List.mem_flatten.mp h
  rw [(List.mem_replicate.mp hl).2] at hx
  exact hx
@[simp] def gMulT : G2 := fun d e S P => match d, e with
  | .tup ds, .int k => (0 ≤ k ∧ k ≤ 1000) ∧ ds.length ≤ 1000 ∧ P (.tup (repV ds k)) S
  | _, _ => False
theorem o_mulT {X : Cx} : OpG X (binaryOp .Mult) gMulT := ⟨_, op_repN, fun d e S P q v u H Q r rv ru hp => by
  unfold gMulT at q
  split at q
  · rename_i ds k
    obtain ⟨⟨k0, k1⟩, hl, q⟩ := q
    obtain ⟨a, xs, rfl, hq, rs⟩ := rep_tup.mp rv
    refine ⟨a, k, xs, rfl, rep_int.mp ru, hq.t, k0, k1, by rw [rs.length]; exact hl, fun h => ?_, fun _ _ => hp.tup r (rs.repV k) q⟩
    refine hp _ _ q _ _ .refl r (rep_tup.mpr ⟨a, xs, rfl, hq, ?_⟩)
    rcases h with h | h
    · subst h
      have : ds = [] := List.eq_nil_of_length_eq_zero rs.length.symm
      subst this
      rw [repV_nil]; exact .nil
    · subst h; rw [repV_one]; exact rs
  · exact q.elim⟩
end Sb

/-! zip over data. -/
namespace Sb
open PySem PySem.Spec L2
@[simp] def isT : Dv → Bool
  | .tup _ => true
  | _ => false
theorem sq_q {K : Kw} {S : Store} {H : Hp} {d : Dv} {v : V} {ds : List Dv} (r : Rel K S H) (e : sq S d = some ds) (p : Rep K H d v) : ∃ a xs, v = .ref a ∧ QX (isT d) K.k H a xs ∧ Reps K H ds xs := by
  cases d with
  | tup ds' => simp only [sq, Option.some.injEq] at e; subst e; obtain ⟨a, xs, rfl, q, rs⟩ := rep_tup.mp p; exact ⟨a, xs, rfl, q.t, rs⟩
  | ref a =>
    simp only [sq] at e
    split at e
    · rename_i ds' e0; simp only [Option.some.injEq] at e; subst e
      obtain ⟨xs, h, rs⟩ := r.lst e0
      exact ⟨a, xs, rep_ref.mp p, .of h, rs⟩
    · cases e
  | scr ns => simp only [sq, Option.some.injEq] at e; subst e; obtain ⟨a, rfl, q⟩ := rep_scr.mp p; exact ⟨a, _, rfl, q.l, Reps.ints ns⟩
  | _ => simp [sq] at e
@[simp] def dIZ (ta : DTA) : DTI := fun δ S P => ta δ S fun ds S1 => match ds with
  | [d, e] => (match sq S1 d, sq S1 e with
    | some xs, some ys => P ((xs.zip ys).map fun p => Dv.tup [p.1, p.2]) (fun S => sq S d = some xs ∧ sq S e = some ys) S1
    | _, _ => False)
  | _ => False
theorem serves_zip {K : Kw} {H1 : Hp} {d e : Dv} {a c : Addr} {xs ys : List Dv} (b : Bool) (hb : b = true → xs.length = ys.length) (p1 : Rep K H1 d (.ref a)) (p2 : Rep K H1 e (.ref c)) :
    Serves K H1 (ItzB b (isT d) (isT e) K.k a c) ((xs.zip ys).map fun p => Dv.tup [p.1, p.2]) (fun S => sq S d = some xs ∧ sq S e = some ys) := fun i S2 H2 k2 r2 g => by
  obtain ⟨a', vs, ea, q1, rs1⟩ := sq_q r2 g.1 (p1.keep k2)
  obtain ⟨c', us, ec, q2, rs2⟩ := sq_q r2 g.2 (p2.keep k2)
  cases ea
  cases ec
  refine ⟨fun z => ⟨vs, us, q1, q2, ?_⟩, fun x hx => ?_⟩
  · simp only [List.length_map, List.length_zip] at z
    rw [rs1.length, rs2.length]
    cases b with
    | false => exact .inl ⟨rfl, by omega⟩
    | true => have := hb rfl; exact .inr ⟨by omega, by omega⟩
  · rw [List.getElem?_map] at hx
    obtain ⟨p, hp, rfl⟩ := Option.map_eq_some_iff.mp hx
    rw [List.getElem?_zip_eq_some] at hp
    obtain ⟨v, ev, rv⟩ := rs1.get hp.1
    obtain ⟨u, eu, ru⟩ := rs2.get hp.2
    refine ⟨⟨vs, us, v, u, q1, q2, ev, eu⟩, fun y H' yl => ?_⟩
    obtain ⟨T, v', u', ob, rfl, hT, hob, rfl, f1, f2⟩ := yl
    have h1 := f1 vs q1
    have h2 := f2 us q2
    rw [ev] at h1; cases h1
    rw [eu] at h2; cases h2
    exact ⟨.new hT, r2.new hT, rep_new_tup hob hT (.cons rv (.cons ru .nil))⟩
section
variable {X : Cx} {H0 : Hp} {e e2 : Expr} {p pos tpos : Pos} {elts : List Expr} {kk : Nat} {ta : DTA}
theorem di_zip (hg : Gl X "zip") (hm : X.mg "zip" = none) (ha : DA X H0 [e, e2] ta) (hs : starEach [e, e2] X.env = (false, eval e X.env) :: starEach [e2] X.env := by rfl) (hpl : (backTo pos (starEach [e2] X.env)).any (·.1) = false := by rfl) :
    DI X H0 (.Tuple elts kk tpos) (.Call (.Name "zip" p) [e, e2] [] pos) (dIZ ta) := (pi_zipB hg hm ha hs hpl).to fun σ H R h => by
  obtain ⟨δ, S, P, w, ht, hp⟩ := h
  refine ⟨δ, S, _, w, ht, fun ds S1 q vs H1 k1 r1 p1 => ?_⟩
  split at q
  · rename_i d e
    obtain ⟨v, u, rfl, rv, ru⟩ := reps2 p1
    split at q
    · rename_i xs ys e1 e2
      obtain ⟨a, vs, rfl, q1, rs1⟩ := sq_q r1 e1 rv
      obtain ⟨c, us, rfl, q2, rs2⟩ := sq_q r1 e2 ru
      exact ⟨a, c, vs, us, isT d, isT e, rfl, q1, q2, hp _ _ _ q _ _ k1 r1 (serves_zip false (fun z => nomatch z) rv ru)⟩
    · exact q.elim
  · exact q.elim
end
end Sb

/-! l.index(x); repr of truth values. -/
namespace Sb
open PySem PySem.Spec L2
theorem toPs_map : ∀ ds : List Dv, toPs ds = ds.map toP
  | [] => rfl
  | d :: ds => by simp only [toPs, List.map_cons, toPs_map ds]
theorem plains_mem : ∀ {ds : List Dv} {d : Dv}, plains ds = true → d ∈ ds → plain d = true
  | e :: es, d, h, hm => by
    simp only [plains, Bool.and_eq_true] at h
    rcases List.mem_cons.mp hm with rfl | q
    · exact h.1
    · exact plains_mem h.2 q
theorem plains_all {ds : List Dv} (h : ∀ d ∈ ds, plain d = true) : plains ds = true := by
  induction ds with
  | nil => rfl
  | cons d ds ih => simp only [plains, h d (by simp), ih fun e he => h e (by simp [he]), Bool.and_self]
theorem deps_le {ds : List Dv} {n : Nat} (h : ∀ d ∈ ds, dep d ≤ n) : deps ds ≤ n := by
  induction ds with
  | nil => exact Nat.zero_le _
  | cons d ds ih => simp only [deps]; have := h d (by simp); have := ih fun e he => h e (by simp [he]); omega
def gIndexL : GM := fun d xs S P => match d, xs with
  | .ref a, [x] => ∃ ds, S a = some (.lst ds) ∧ plains ds = true ∧ deps ds ≤ 63 ∧ plain x = true ∧ dep x ≤ 63 ∧ x ∈ ds ∧ ∀ j : Nat, ds[j]? = some x → (∀ i, i < j → ds[i]? ≠ some x) → P (.int j) S
  | _, _ => False
theorem first_at : ∀ {ds : List Dv} {x : Dv}, x ∈ ds → ∃ j : Nat, ds[j]? = some x ∧ ∀ i, i < j → ds[i]? ≠ some x
  | d :: ds, x, h => by
    by_cases e : d = x
    · exact ⟨0, by simp [e], fun i hi => absurd hi (by omega)⟩
    · have hm : x ∈ ds := by
        rcases List.mem_cons.mp h with q | q
        · exact absurd q.symm e
        · exact q
      obtain ⟨j, h1, h2⟩ := first_at hm
      refine ⟨j + 1, by simpa using h1, fun i hi => ?_⟩
      cases i with
      | zero => simpa using e
      | succ i => simpa using h2 i (by omega)
theorem mg_indexL {X : Cx} (hu : X.A.units + 65 < cLine) : MtG X "list" "list.index" isL gIndexL where
  tyv := fun _ _ _ _ => isL_ty
  ex := ⟨_, mt_indexD hu, fun d xs S P q x vs H Q r p ps hp => by
    unfold gIndexL at q
    split at q
    · rename_i a y
      obtain ⟨ds, e, h1, h2, h3, h4, hm, q⟩ := q
      obtain ⟨v, rfl, rv⟩ := reps1 ps
      obtain ⟨j, hj, hn⟩ := first_at hm
      have hl := dp_dat r (dat_list e h1) p
      have hy := dp_dat r (dat_plain (S := S) h3) rv
      refine ⟨a, v, toP y, toPs ds, j, toP y, rep_ref.mp p, rfl, by rw [← rep_ref.mp p]; exact hl, hy, sh_list h1 h2, shaped_plain h3 (by omega), by rw [toPs_map, List.getElem?_map, hj]; rfl, (eqv_plain y y h3 h3).mpr rfl, fun m z hlt hz => ?_, hp _ _ (q j hj hn) _ _ .refl r (rep_int.mpr rfl)⟩
      rw [toPs_map, List.getElem?_map] at hz
      obtain ⟨w, hw, rfl⟩ := Option.map_eq_some_iff.mp hz
      have hp := plains_mem h1 (List.mem_of_getElem? hw)
      cases hb : PyData.eqv (toP w) (toP y) with
      | false => rfl
      | true =>
        have := (eqv_plain w y hp h3).mp hb
        subst this
        exact absurd hw (hn m hlt)
    · exact q.elim⟩
@[simp] theorem gRepr_bl {b : Bool} {S : Store} {P : DK} : gRepr [.bl b] S P ↔ P (.str (PyData.bool b).shown) S := by
  simp only [gRepr, dat, datE]
  cases b
  · exact ⟨fun q => q.2.2.2, fun q => ⟨by decide, by decide, by simp only [PyData.shown]; decide, q⟩⟩
  · exact ⟨fun q => q.2.2.2, fun q => ⟨by decide, by decide, by simp only [PyData.shown]; decide, q⟩⟩
theorem shown_bl_inj {a b : Bool} : (PyData.bool a).shown = (PyData.bool b).shown ↔ a = b := by
  cases a <;> cases b <;> simp only [PyData.shown] <;> decide
end Sb

/-! Exceptions over data: raise, calls that may raise, try. -/
namespace Sb
open PySem PySem.Spec PyProof.Rows L2
/-- what is wanted of an exception that leaves, by the slots -/
def DTk (X : Cx) (H0 : Hp) (Pe : DSt → DX) : Prop := ∃ W : WX, Takes X W ∧ ∀ c od δ S, Pe δ c od S → ∀ σ H C, X.mg c = some (.ref C) → Wd X.kw H0 σ δ S H → W (.ref C) od σ H
theorem dtk_of {P : Program} {w : World} {K : PySem.W.Frag} {mg : Str → Option Value} {base : Heap} {N : List Str} {qual : Str} {sc : Scope} {f : Addr} {cdv : Value} {A : Around} {outer : List Env} {s : Shared} {H : Hp} {E : XK} {Pe : DX} (px : PX ⟨K, w, mg⟩ H Pe E) :
    DTk (cxOf (L2.CX P w) P w K mg base N qual sc f cdv A outer s H E) H (fun _ => Pe) :=
  ⟨fun cls d _ H => E cls d H, takes_of rfl rfl rfl rfl, fun c od δ S h σ H1 C m w => px c od S h C H1 m w.base w.rel⟩
section
variable {X : Cx} {H0 : Hp} {k j : Nat} {f : Addr} {fd : FuncData} {ps : List Str} {sp : DSp} {Pe : DSt → DX} {x : Str} {p pos apos : Pos} {e o : Expr} {es : List Expr} {ta : DTE} {t : DTA}
@[simp] def dCallS (sp : DSp) (Pe : DSt → DX) (t : DTA) : DTE := fun δ S P => t δ S fun ds S1 => sp ds S1 P (Pe δ)
theorem go_fnS {pins : List (Addr × Obj)} {σ : L2.St} {H : Hp} {s : Shared} {Q : VK} {us : List Value} {vs : List V} {ds : List Dv} {S : Store} {P : DK} {δ : DSt} (F : DFn X.prog X.w X.K X.mg X.base k f fd ps sp) (hgd : X.A.guards = some []) (hr : Room k X.A)
    (hb : L2.Binds X.K fd ps []) (tk : DTk X H0 Pe) (w : Wd X.kw H0 σ δ S H) (I : Inv X pins σ H s) (rv : Vals vs us) (rs : Reps X.kw H ds vs) (q : sp ds S P (Pe δ)) (pv : PV X.kw H P Q) :
    wpAny (model X.prog X.w) X.A (call (.ref f) us) (EP X pins σ Q) X.xe s := by
  obtain ⟨W, tkW, hW⟩ := tk
  have hl : (us ++ []).length = ps.length := by rw [List.append_nil, ← rv.length, rs.length]; exact F.len _ _ _ _ q
  have bnd := hb s us I.kIn hl
  rw [List.append_nil] at bnd
  refine wpAny_call (codeAny_mono (F.run (E := WE W σ) hgd hr I.env0 bnd rv w.rel rs q pv fun c od S1 h C H1 m k1 r1 => hW c od δ S1 h σ H1 C m (w.keep k1 r1)) fun r s1 hq => ?_)
  cases r with
  | error er => exact passAt tkW σ pins H s er s1 I hq
  | ok fl =>
    cases fl with
    | ret u => exact I.after hq
    | _ => exact (show False from hq).elim
/-- f(..), which may raise -/
theorem de_fnS (c : Cal X.prog X.w X.K X.mg X.base j x ps sp) (hgd : X.A.guards = some []) (hr : Room k X.A) (tk : DTk X H0 Pe) (ha : DA X H0 (e :: es) t) (hj : j ≤ k := by decide) (hg : Gl X x := by rfl) (hdb : (x == ("__debug__" : Str)) = false := by decide)
    (he : starEach (e :: es) X.env = (false, eval e X.env) :: starEach es X.env := by rfl) (hpl : (backTo pos (starEach es X.env)).any (·.1) = false := by rfl) : DE X H0 (.Call (.Name x p) (e :: es) [] pos) (dCallS sp Pe t) := by
  obtain ⟨f, fd, hm, hk, hb, F⟩ := c.ex
  refine ⟨fun pins s σ H Q I h => wpAny_Call_Name_kw (ld_glob I hg hm ?_ hdb)⟩
  obtain ⟨δ, S, P, w, ht, hp⟩ := h
  refine PySem.W.callWith_K (h₀ := X.base) I.ok.mod.kin hk (thn (ha.run pos pins s σ H (fun vs H1 => ∃ ds S1, Keep X.kw H H1 ∧ Rel X.kw S1 H1 ∧ Reps X.kw H1 ds vs ∧ sp ds S1 P (Pe δ)) I ⟨δ, S, _, w, ht, fun ds S1 q vs H1 k1 r1 p1 => ⟨ds, S1, k1, r1, p1, q⟩⟩) fun us s1 q => ?_) he hpl
  obtain ⟨vs, H1, I1, rv, ds, S1, k1, r1, p1, q⟩ := q
  exact ⟨I1.kIn, go_fnS F hgd (hr.mono hj) hb tk (w.keep k1 r1) I1 rv p1 q (hp.keep k1)⟩
@[simp] def dMethS (c m : Str) (sp : DSp) (Pe : DSt → DX) (ta : DTE) (t : DTA) : DTE := fun δ S P => ta δ S fun d S1 => isObj c m d S1 ∧ t δ S1 fun ds S2 => sp (d :: ds) S2 P (Pe δ)
theorem de_methS {c m : Str} {pl : Sem Bool} (cm : CalM X.prog X.w X.K X.mg X.base j c m ps sp) (hgd : X.A.guards = some []) (hr : Room k X.A) (tk : DTk X H0 Pe) (he : DE X H0 o ta) (ha : DA X H0 (e :: es) t) (hj : j ≤ k := by decide)
    (hst : starEach (e :: es) X.env = (false, eval e X.env) :: starEach es X.env := by rfl) (hpl : (backTo pos (starEach es X.env)).any (·.1) = false := by rfl)
    (ht : eval (.Call (.Attribute o m apos) (e :: es) [] pos) X.env = (do
      let ov ← eval o X.env
      standAt apos.atName
      let (f, first) ← holding [ov] (getMethod ov m pl)
      callWith pos f first (backTo pos (starEach (e :: es) X.env)) (backToKw pos (keywordEach [] X.env))) := by rfl) : DE X H0 (.Call (.Attribute o m apos) (e :: es) [] pos) (dMethS c m sp Pe ta t) := by
  obtain ⟨C, f, fd, kc, hm, hb, F⟩ := cm.ex
  refine ⟨fun pins s σ H Q I h => ?_⟩
  obtain ⟨δ, S, P, w, hto, hp⟩ := h
  refine PySem.W.methodCall_KW (pl := pl) (thn (he.run pins s σ H (fun x H1 => ∃ d S1, Keep X.kw H H1 ∧ Rel X.kw S1 H1 ∧ Rep X.kw H1 d x ∧ isObj c m d S1 ∧ t δ S1 fun ds S2 => sp (d :: ds) S2 P (Pe δ)) I ⟨δ, S, _, w, hto, fun d S1 q x H1 k1 r1 p1 => ⟨d, S1, k1, r1, p1, q⟩⟩) fun u s1 q => ?_) ht
  obtain ⟨x, H1, I1, rx, d, S1, k1, r1, p1, io, q⟩ := q
  obtain ⟨a, dx, ys, rfl, hx, l⟩ := obj_at kc io r1 p1
  obtain rfl : u = Value.ref a := rx
  refine getmeth_ok I1 hx kc.cls hm l ?_
  have w1 := w.keep k1 r1
  refine PySem.W.callWith_K (first := [.ref a]) (h₀ := X.base) I.ok.mod.kin hm.kp (thn (ha.run pos pins s1 σ H1 (fun vs H2 => ∃ ds S2, Keep X.kw H1 H2 ∧ Rel X.kw S2 H2 ∧ Reps X.kw H2 ds vs ∧ sp (d :: ds) S2 P (Pe δ)) I1 ⟨δ, S1, _, w1, q, fun ds S2 q2 vs H2 k2 r2 p2 => ⟨ds, S2, k2, r2, p2, q2⟩⟩) fun us s2 q => ?_) hst hpl
  obtain ⟨vs, H2, I2, rv, ds, S2, k2, r2, p2, q2⟩ := q
  exact ⟨I2.kIn, go_fnS (us := .ref a :: us) (vs := .ref a :: vs) F hgd (hr.mono hj) hb tk (w1.keep k2 r2) I2 (.cons rfl rv) (.cons (p1.keep k2) p2) q2 (hp.keep (k1.trans k2))⟩
end
/-! ### own exceptions -/
/-- the class x with the field f, made of values that are okv -/
structure ExcK (P : Program) (w : World) (K : PySem.W.Frag) (mg : Str → Option Value) (base : Heap) (x f : Str) (okv : V → Prop) : Prop where
  ex : ∃ (C fI : Addr) (fd : FuncData) (ps : List Str) (B newId initId : String) (bm : List Value), mg x = some (.ref C) ∧ XB B newId initId bm ∧ OxC K newId bm C ∧ PySem.W.findIn K (.ref C) "__init__" = some (some (.ref fI)) ∧
    PySem.W.typeIn K (.ref fI) = some (.type "function") ∧ L2.Binds K fd ps [] ∧ ps.length = 2 ∧ FnOk P w K mg base (L2.CX P w) 1 fI fd ps (spI f C okv) ∧ XfC K C ∧ PySem.W.findIn K (.ref C) f = some none
abbrev Exc (P : Program) (w : World) (K : PySem.W.Frag) (mg : Str → Option Value) (base : Heap) (x f : Str) : Prop := ExcK P w K mg base x f fun _ => True
def okI : V → Prop := fun y => ∃ i : Int, y = .int i ∧ i.natAbs.log2 < 1000
/-- what a handler finds: the classes ks, none a kind of another one -/
def XKn (K : PySem.W.Frag) (mg : Str → Option Value) (ks : List Str) : Prop := ∀ c ∈ ks, ∀ x ∈ ks, ∀ C Cx, mg c = some (.ref C) → mg x = some (.ref Cx) → PySem.W.exmOne K (.ref C) (.ref Cx) = some (decide (c = x))
section
variable {X : Cx} {H0 : Hp} {k : Nat} {Pe : DSt → DX} {x f : Str} {p pos pos2 : Pos} {e : Expr} {es : List Expr} {ta : DTE} {t : DTA}
/-- raise x(v) -/
@[simp] def dRaise (Pe : DSt → DX) (x f : Str) (t : DTA) : DTS := fun _ δ S => t δ S fun ds S1 => ∃ v, ds = [v] ∧ ∀ d, S1 d = none → Pe δ x (some d) (up S1 d (.xd [(f, v)]))
theorem ds_raise (xc : Exc X.prog X.w X.K X.mg X.base x f) (tk : DTk X H0 Pe) (hr : Room k X.A) (ha : DA X H0 (e :: es) t) (hk : 2 ≤ k := by decide) (hc : X.calm = true := by rfl) (hg : Gl X x := by rfl) (hdb : (x == ("__debug__" : Str)) = false := by decide)
    (he : starEach (e :: es) X.env = (false, eval e X.env) :: starEach es X.env := by rfl) (hpl : (backTo pos (starEach es X.env)).any (·.1) = false := by rfl) :
    DS X H0 (.Raise (some (.Call (.Name x p) (e :: es) [] pos)) none pos2) (dRaise Pe x f t) := by
  obtain ⟨C, fI, fd, ps, B, newId, initId, bm, m, Xb, T, iC, tI, hb, hps, F, _, _⟩ := xc.ex
  obtain ⟨W, tkW, hW⟩ := tk
  refine (ps_raise hc tkW (pmk_oxG Xb T iC tI F hps (hr.mono hk) hb hg m ha hdb he hpl)).to fun D σ H h => ?_
  obtain ⟨δ, S, D', w, ht, pd⟩ := h
  refine ⟨δ, S, _, w, ht, fun ds S1 q vs H1 k1 r1 p1 => ?_⟩
  obtain ⟨v, rfl, q⟩ := q
  obtain ⟨y, ys, rfl, ry, rn⟩ := p1.cons_inv
  cases rn.nil_inv
  refine ⟨y, rfl, trivial, fun d hd => ?_⟩
  have kn : Keep X.kw H1 (upd H1 d (.xd [(f, y)])) := .new hd
  have rl : Rel X.kw (up S1 d (.xd [(f, v)])) (upd H1 d (.xd [(f, y)])) := r1.laid hd fun own ow => ⟨ow, _, upd_same, rfl, .cons (ry.keep kn) .nil⟩
  exact hW x (some d) δ _ (q d (r1.free hd)) σ _ C m (w.keep (k1.trans kn) rl)
/-- raise x(i), i a whole number -/
@[simp] def dRaiseI (Pe : DSt → DX) (x f : Str) (t : DTA) : DTS := fun _ δ S => t δ S fun ds S1 => ∃ i : Int, ds = [.int i] ∧ i.natAbs.log2 < 1000 ∧ ∀ d, S1 d = none → Pe δ x (some d) (up S1 d (.xd [(f, .int i)]))
theorem ds_raiseI (xc : ExcK X.prog X.w X.K X.mg X.base x f okI) (tk : DTk X H0 Pe) (hr : Room k X.A) (ha : DA X H0 (e :: es) t) (hk : 2 ≤ k := by decide) (hc : X.calm = true := by rfl) (hg : Gl X x := by rfl) (hdb : (x == ("__debug__" : Str)) = false := by decide)
    (he : starEach (e :: es) X.env = (false, eval e X.env) :: starEach es X.env := by rfl) (hpl : (backTo pos (starEach es X.env)).any (·.1) = false := by rfl) :
    DS X H0 (.Raise (some (.Call (.Name x p) (e :: es) [] pos)) none pos2) (dRaiseI Pe x f t) := by
  obtain ⟨C, fI, fd, ps, B, newId, initId, bm, m, Xb, T, iC, tI, hb, hps, F, _, _⟩ := xc.ex
  obtain ⟨W, tkW, hW⟩ := tk
  refine (ps_raise hc tkW (pmk_oxG Xb T iC tI F hps (hr.mono hk) hb hg m ha hdb he hpl)).to fun D σ H h => ?_
  obtain ⟨δ, S, D', w, ht, pd⟩ := h
  refine ⟨δ, S, _, w, ht, fun ds S1 q vs H1 k1 r1 p1 => ?_⟩
  obtain ⟨i, rfl, hi, q⟩ := q
  obtain ⟨y, ys, rfl, ry, rn⟩ := p1.cons_inv
  cases rn.nil_inv
  refine ⟨y, rfl, ⟨i, rep_int.mp ry, hi⟩, fun d hd => ?_⟩
  have kn : Keep X.kw H1 (upd H1 d (.xd [(f, y)])) := .new hd
  have rl : Rel X.kw (up S1 d (.xd [(f, .int i)])) (upd H1 d (.xd [(f, y)])) := r1.laid hd fun own ow => ⟨ow, _, upd_same, rfl, .cons (ry.keep kn) .nil⟩
  exact hW x (some d) δ _ (q d (r1.free hd)) σ _ C m (w.keep (k1.trans kn) rl)
/-- err.f in the suite of the exception at a -/
@[simp] def dXf (a : Addr) (od : Option Addr) (f : Str) (te : DTE) : DTE := fun δ S P => te δ S fun x S1 => x = .ref a ∧ (match od with
  | some d => (match S1 d with
    | some (.xd fs) => (match fs.lookup f with | some v => P v S1 | none => False)
    | _ => False)
  | none => False)
theorem de_xf {okv : V → Prop} {a : Addr} {oe : Obj} {od : Option Addr} {pn : List (Addr × Obj)} {te : DTE} {C : Addr} (xc : ExcK X.prog X.w X.K X.mg X.base x f okv) (hm : X.mg x = some (.ref C)) (hz : Zc (.ref C) od oe) (hf : ∃ vs, oe.data = .fields vs)
    (he : DE (X.suite a ((a, oe) :: pn)) H0 e te) (hb : attributeBase e f X.env (eval e X.env) = eval e X.env := by rfl) : DE (X.suite a ((a, oe) :: pn)) H0 (.Attribute e f pos) (dXf a od f te) := by
  obtain ⟨C', fI, fd, ps, B, newId, initId, bm, m, _, _, _, _, _, _, _, T, hno⟩ := xc.ex
  rw [hm] at m; cases m
  refine (pe_xf T hno hz hf he hb).to fun σ H Q h => ?_
  obtain ⟨δ, S, P, w, ht, hp⟩ := h
  refine ⟨δ, S, _, w, ht, fun d S1 q v H1 k1 r1 p1 => ?_⟩
  obtain ⟨rfl, q⟩ := q
  refine ⟨rep_ref.mp p1, rfl, ?_⟩
  split at q
  · rename_i dd
    split at q
    · rename_i fs e0
      split at q
      · rename_i v0 hv
        obtain ⟨own, _, ys, e1, hn⟩ := r1.get e0
        obtain ⟨y, hy, ry⟩ := named_get hn hv
        exact ⟨dd, ys, y, rfl, e1, hy, hp _ _ q _ _ k1 r1 ry⟩
      · exact q.elim
    · exact q.elim
  · exact q.elim
end
/-! ### try -/
/-- a handler: the class by name, the slot of the name, the suite -/
structure DH where
  c : Str
  i : Option Nat
  t : Addr → Option Addr → DTS
@[simp] def goneD (D : DEnds) : Option Nat → DEnds
  | none => D
  | some i => { nx := fun δ S => D.nx (δ.set i none) S, rt := D.rt, bk := fun δ S => D.bk (δ.set i none) S, ct := fun δ S => D.ct (δ.set i none) S }
@[simp] def putD (δ : DSt) (a : Addr) : Option Nat → DSt
  | none => δ
  | some i => δ.set i (some (.ref a))
@[simp] def dHs (ks : List Str) (Pe : DSt → DX) (D : DEnds) : List DH → DSt → DX
  | [] => fun δ c od S => Pe δ c od S
  | h :: r => fun δ c od S => c ∈ ks ∧ (c = h.c → ∀ a, S a = none → h.t a od (goneD D h.i) (putD δ a h.i) S) ∧ (c ≠ h.c → dHs ks Pe D r δ c od S)
@[simp] def dTry (ks : List Str) (tb : (DSt → DX) → DTS) (l : List DH) (Pe : DSt → DX) : DTS := fun D δ S => tb (dHs ks Pe D l) D δ S
inductive HdsD (X : Cx) (H0 : Hp) (ks : List Str) : List ExceptHandler → List DH → Prop
  | nil : HdsD X H0 ks [] []
  | bare {x : Str} {C : Addr} {t : Addr → Option Addr → DTS} {b₀ : Stmt} {bs : List Stmt} {np hp : Pos} {hds : List ExceptHandler} {l : List DH} (hm : X.mg x = some (.ref C)) (hx : x ∈ ks) (hg : Gl X x) (hdb : (x == ("__debug__" : Str)) = false)
      (su : ∀ (a : Addr) (oe : Obj) (od : Option Addr) (pn : List (Addr × Obj)), Zc (.ref C) od oe → (∃ vs, oe.data = .fields vs) → DSs (X.suite a ((a, oe) :: pn)) H0 (b₀ :: bs) (t a od)) (r : HdsD X H0 ks hds l) :
      HdsD X H0 ks (.ExceptHandler (some (.Name x np)) none (b₀ :: bs) hp :: hds) (⟨x, none, t⟩ :: l)
  | named {x n : Str} {i : Nat} {C : Addr} {t : Addr → Option Addr → DTS} {b₀ : Stmt} {bs : List Stmt} {np hp : Pos} {hds : List ExceptHandler} {l : List DH} (hm : X.mg x = some (.ref C)) (hx : x ∈ ks) (hg : Gl X x) (hdb : (x == ("__debug__" : Str)) = false)
      (hi : X.N[i]? = some n) (hln : X.env.kindOf n = some .local)
      (su : ∀ (a : Addr) (oe : Obj) (od : Option Addr) (pn : List (Addr × Obj)), Zc (.ref C) od oe → (∃ vs, oe.data = .fields vs) → DSs (X.suite a ((a, oe) :: pn)) H0 (b₀ :: bs) (t a od)) (r : HdsD X H0 ks hds l) :
      HdsD X H0 ks (.ExceptHandler (some (.Name x np)) (some n) (b₀ :: bs) hp :: hds) (⟨x, some i, t⟩ :: l)
theorem Wd.unset {K : Kw} {H0 : Hp} {σ : L2.St} {δ : DSt} {S : Store} {H : Hp} {i : Nat} (w : Wd K H0 σ δ S H) : Wd K H0 (σ.set i none) (δ.set i none) S H := by
  refine ⟨w.base, w.rel, by simp [w.len], fun j d he => ?_⟩
  by_cases hj : j = i
  · subst hj
    rw [List.getElem?_set] at he
    split at he
    · split at he <;> cases he
    · rename_i z; exact absurd rfl z
  · rw [List.getElem?_set_ne (Ne.symm hj)] at he ⊢
    exact w.slot j d he
theorem PD.gone {K : Kw} {H0 H : Hp} {D' : DEnds} {D : Ends} {i : Option Nat} (h : PD K H0 H D' D) : PD K H0 H (goneD D' i) (goneE D i) := by
  cases i with
  | none => exact h
  | some i => exact ⟨fun δ S p σ H1 k w => h.nx _ S p _ H1 k w.unset, fun δ S p σ H1 k w => h.bk _ S p _ H1 k w.unset, fun δ S p σ H1 k w => h.ct _ S p _ H1 k w.unset, h.rt⟩
theorem HdsD.g {X : Cx} {H0 : Hp} {ks : List Str} {Pe : DSt → DX} {W : WX} {hds : List ExceptHandler} {l : List DH} (kn : XKn X.K X.mg ks) (hW : ∀ c od δ S, Pe δ c od S → ∀ σ H C, X.mg c = some (.ref C) → Wd X.kw H0 σ δ S H → W (.ref C) od σ H) (h : HdsD X H0 ks hds l) :
    ∃ l', HdsG X hds l' ∧ ∀ (D : Ends) (D' : DEnds) c od δ S σ H C, dHs ks Pe D' l δ c od S → X.mg c = some (.ref C) → Wd X.kw H0 σ δ S H → PD X.kw H0 H D' D → wG X.K W D l' (.ref C) od σ H := by
  have suite : ∀ {C : Addr} {t : Addr → Option Addr → DTS} {b₀ : Stmt} {bs : List Stmt}, (∀ (a : Addr) (oe : Obj) (od : Option Addr) (pn : List (Addr × Obj)), Zc (.ref C) od oe → (∃ vs, oe.data = .fields vs) → DSs (X.suite a ((a, oe) :: pn)) H0 (b₀ :: bs) (t a od)) →
      ∀ (a : Addr) (oe : Obj) (cls : Value) (d : Option Addr) (pn : List (Addr × Obj)), Zc cls d oe → (∃ vs, oe.data = .fields vs) → PSs (X.suite a ((a, oe) :: pn)) (b₀ :: bs) (fun D σ H => cls = .ref C ∧ liftS X.kw H0 (t a d) D σ H) := fun su a oe cls d pn hz hd => ⟨fun pins s σ H D I h => by
    obtain ⟨rfl, h⟩ := h
    exact (su a oe d pn hz hd).run pins s σ H D I h⟩
  induction h with
  | nil => exact ⟨[], .nil, fun D D' c od δ S σ H C q m w pd => hW c od δ S q σ H C m w⟩
  | @bare x Cx t b₀ bs np hp hds l hm hx hg hdb su r ih =>
    obtain ⟨l', g, go⟩ := ih
    refine ⟨_, .bare ⟨hg, hdb, .inl hm⟩ (suite su) g, fun D D' c od δ S σ H C q m w pd => ⟨_, kn c q.1 x hx C Cx m hm, fun yes a na => ?_, fun no => ?_⟩⟩
    · have e := of_decide_eq_true yes
      subst e
      rw [hm] at m; cases m
      exact ⟨rfl, δ, S, _, w, q.2.1 rfl a (w.rel.free na), pd⟩
    · exact go D D' c od δ S σ H C (q.2.2 (of_decide_eq_false no)) m w pd
  | @named x n i Cx t b₀ bs np hp hds l hm hx hg hdb hi hln su r ih =>
    obtain ⟨l', g, go⟩ := ih
    refine ⟨_, .named ⟨hg, hdb, .inl hm⟩ hi hln (suite su) g, fun D D' c od δ S σ H C q m w pd => ⟨_, kn c q.1 x hx C Cx m hm, fun yes a na => ?_, fun no => ?_⟩⟩
    · have e := of_decide_eq_true yes
      subst e
      rw [hm] at m; cases m
      exact ⟨rfl, _, S, _, w.set (rep_ref.mpr rfl), q.2.1 rfl a (w.rel.free na), pd.gone (i := some i)⟩
    · exact go D D' c od δ S σ H C (q.2.2 (of_decide_eq_false no)) m w pd
theorem ds_try {X : Cx} {H0 : Hp} {ks : List Str} {Pe : DSt → DX} {body : List Stmt} {h₀ : ExceptHandler} {hds : List ExceptHandler} {l : List DH} {tb : (DSt → DX) → DTS} {pos : Pos} (tk : DTk X H0 Pe) (kn : XKn X.K X.mg ks) (hN : X.N.Nodup)
    (hb : ∀ (H1 : Hp) (Pe2 : DSt → DX) (pn : List (Addr × Obj)) (xe : Value → Shared → Prop), DTk (X.tr pn xe) H1 Pe2 → PassesOwn (model X.prog X.w) X.A X.env xe → DSs (X.tr pn xe) H1 body (tb Pe2)) (hh : HdsD X H0 ks (h₀ :: hds) l)
    (hs : X.stack = X.env :: X.outer := by rfl) (hf : X.env.frame = some X.env.locals := by rfl) : DS X H0 (.Try body (h₀ :: hds) [] [] pos) (dTry ks tb l Pe) := by
  obtain ⟨W, tkW, hW⟩ := tk
  obtain ⟨l', hg, go⟩ := hh.g kn hW
  refine (ps_tryG (l := l') (tb := fun V D σ H => ∃ Pe2 D' δ S, tb Pe2 D' δ S ∧ Wd X.kw H σ δ S H ∧ PD X.kw H H D' D ∧ ∀ c od δ S, Pe2 δ c od S → ∀ σ1 H1 C, X.mg c = some (.ref C) → Wd X.kw H σ1 δ S H1 → V (.ref C) od σ1 H1) hs hf hN tkW (fun V pn xe tkV po => ⟨fun pins s σ H D I h => ?_⟩) hg).to fun D σ H h => ?_
  · obtain ⟨Pe2, D', δ, S, ht, wd, pd, cond⟩ := h
    exact (hb H Pe2 pn xe ⟨V, tkV, cond⟩ po).run pins s σ H D I ⟨δ, S, D', wd, ht, pd⟩
  · obtain ⟨δ, S, D', w, ht, pd⟩ := h
    have lift : ∀ {σ1 : L2.St} {δ1 : DSt} {S1 : Store} {H1 : Hp}, Wd X.kw H σ1 δ1 S1 H1 → Wd X.kw H0 σ1 δ1 S1 H1 := fun w1 => ⟨w.base.trans w1.base, w1.rel, w1.len, w1.slot⟩
    exact ⟨_, D', δ, S, ht, ⟨.refl, w.rel, w.len, w.slot⟩, ⟨fun δ1 S1 q σ1 H1 k1 w1 => pd.nx δ1 S1 q σ1 H1 k1 (lift w1), fun δ1 S1 q σ1 H1 k1 w1 => pd.bk δ1 S1 q σ1 H1 k1 (lift w1), fun δ1 S1 q σ1 H1 k1 w1 => pd.ct δ1 S1 q σ1 H1 k1 (lift w1), pd.rt⟩,
      fun c od δ1 S1 q σ1 H1 C m w1 => go D D' c od δ1 S1 σ1 H1 C q m (lift w1) (pd.keep w1.base)⟩
/-- the shape of the class C over these ones -/
def oxS (C : Addr) (cd : ClassData) (sl : Array (Option Value)) (newId : String) (bm : List Value) : Bool :=
  match cd.mro, sl.toList with
    | .ref C' :: bm', [_, _, _, _, some (.builtin n), _] => decide (C' = C) && (decide (n = newId) && (!cd.hasDel && (cd.hasDict && decide (bm' = bm))))
    | _, _ => false
theorem oxS_ok {K : PySem.W.Frag} {C : Addr} {newId : String} {bm : List Value} {od : Option Addr} {cd : ClassData} {slots : Array (Option Value)} (look : K.lookup C = some ⟨.type "type", od, .cls cd, slots⟩) (hc : oxS C cd slots newId bm = true)
    (h1 : PySem.W.findIn K (.ref C) "__setattr__" = some (some (.builtin "object.__setattr__"))) (h2 : PySem.W.subIn K (.ref C) (.type "BaseException") = some true) (h3 : PySem.W.typeIn K (.ref C) = some (.type "type")) (h4 : PySem.W.keepIn K (.ref C) = true) : OxC K newId bm C := by
  refine ⟨?_, h1, h2, h3, h4⟩
  unfold oxS at hc
  split at hc
  · rename_i C' tl a0 a1 a2 a3 nw a5 em es
    simp only [Bool.and_eq_true, decide_eq_true_eq, Bool.not_eq_true'] at hc
    obtain ⟨rfl, rfl, nodel, wd, rfl⟩ := hc
    obtain ⟨cn, cb, cm, cns, cq, cdict, csn, csub, cab, ccol, cdel⟩ := cd
    dsimp only at em nodel wd
    subst em nodel wd
    obtain ⟨sl⟩ := slots
    dsimp only at es
    subst es
    exact ⟨cn, cq, cns, cb, csn, csub, cab, ccol, od, a0, a1, a2, a3, a5, look⟩
  · cases hc
end Sb

/-! Values of any depth, with lists and empty dicts inside: repr; a tuple that is not (). -/
namespace Sb
open PySem PySem.Spec PyProof.Rows L2
mutual
inductive Dpx (K : Kw) (H : Hp) : V → PyData → Prop
  | non : Dpx K H .non .none
  | bl (b : Bool) : Dpx K H (.bl b) (.bool b)
  | int (i : Int) : Dpx K H (.int i) (.int i)
  | str (x : Str) : Dpx K H (.str x) (.str x)
  | lst {a : Addr} {xs : List V} {ds : List PyData} : SqL K H a xs → Dpxs K H xs ds → Dpx K H (.ref a) (.list ds)
  | tup {a : Addr} {xs : List V} {ds : List PyData} : SqT K H a xs → Dpxs K H xs ds → Dpx K H (.ref a) (.tuple ds)
  | dct {a : Addr} : H a = some (.dK []) → Dpx K H (.ref a) (.dict [])
  | ndc {a : Addr} {es : NL V V} {kvs : List (PyData × PyData)} : H a = some (NdO K.w a es) → Dpxs K H (es.map fun e => e.2.1) (kvs.map fun p => p.1) → Dpxs K H (es.map fun e => e.2.2) (kvs.map fun p => p.2) → Dpx K H (.ref a) (.dict kvs)
inductive Dpxs (K : Kw) (H : Hp) : List V → List PyData → Prop
  | nil : Dpxs K H [] []
  | cons {v : V} {vs : List V} {d : PyData} {ds : List PyData} : Dpx K H v d → Dpxs K H vs ds → Dpxs K H (v :: vs) (d :: ds)
end
theorem ent_vals : ∀ {es : NL V V} {xs : NL Value Value}, Paired EntR es xs → Vals (es.map fun e => e.2.1) (xs.map fun e => e.2.1) ∧ Vals (es.map fun e => e.2.2) (xs.map fun e => e.2.2)
  | [], _, p => by cases p; exact ⟨.nil, .nil⟩
  | _ :: _, _, p => by
    cases p with
    | cons a b => obtain ⟨h1, h2⟩ := ent_vals b; exact ⟨.cons a.2.1 h1, .cons a.2.2 h2⟩
section
variable {X : Cx} {pins : List (Addr × Obj)} {σ : L2.St} {H : Hp} {s : Shared}
mutual
theorem Dpx.rx (I : Inv X pins σ H s) : ∀ {v : V} {d : PyData} {u : Value}, Dpx X.kw H v d → RelV v u → ∃ l, RX s.heap u d l
  | _, _, _, .non, r => by cases r; exact ⟨_, .non⟩
  | _, _, _, .bl b, r => by cases r; exact ⟨_, .bl b⟩
  | _, _, _, .int i, r => by obtain ⟨t, rfl⟩ := r; exact ⟨_, .int i t⟩
  | _, _, _, .str x, r => by obtain ⟨t, rfl⟩ := r; exact ⟨_, .str x t⟩
  | _, _, _, .lst q ds, r => by
    cases r
    obtain ⟨its, rv, ⟨o, n, ho, hc, _, hd⟩, _⟩ := I.list q
    obtain ⟨l, rs⟩ := Dpxs.rx I ds rv
    exact ⟨_, .lst ho hc hd rs⟩
  | _, _, _, .tup q ds, r => by
    cases r
    obtain ⟨its, rv, ⟨o, ho, hc, n, hd⟩, _⟩ := I.tuple q
    obtain ⟨l, rs⟩ := Dpxs.rx I ds rv
    exact ⟨_, .tup ho hc hd rs⟩
  | _, _, _, .dct (a := a) q, r => by
    cases r
    obtain ⟨_, ns, vs, rv, o, es, ep, ho, ex, hd, _, prs, _⟩ := (show ObjOk X.prog X.w H s.heap a (.dK []) from I.hok a _ q)
    cases rv
    obtain ⟨es⟩ := es
    cases (show Pairs (mixKind X.prog X.w) es [] from prs)
    exact ⟨_, .dct (kvs := []) ho ex.1 hd ns .nil .nil⟩
  | _, _, _, .ndc (a := a) (es := es) q ks vs, r => by
    cases r
    obtain ⟨xs, ⟨h1, _, ⟨o, arr, ep, ho, ex, hd, he⟩, _⟩, p⟩ := (show ObjOk X.prog X.w H s.heap a (NdO X.w a es) from I.hok a _ q).1
    obtain ⟨v1, v2⟩ := ent_vals p
    obtain ⟨l, r1⟩ := Dpxs.rx I ks v1
    obtain ⟨m, r2⟩ := Dpxs.rx I vs v2
    have e1 : (arr.toList.map fun e => e.key) = xs.map fun e => e.2.1 := by rw [he, List.map_map]; rfl
    have e2 : (arr.toList.map fun e => e.val) = xs.map fun e => e.2.2 := by rw [he, List.map_map]; rfl
    exact ⟨_, .dct ho ex.1 hd h1 (by rw [e1]; exact r1) (by rw [e2]; exact r2)⟩
theorem Dpxs.rx (I : Inv X pins σ H s) : ∀ {vs : List V} {ds : List PyData} {us : List Value}, Dpxs X.kw H vs ds → Vals vs us → ∃ l, RXs s.heap us ds l
  | _, _, _, .nil, r => by cases r; exact ⟨_, .nil⟩
  | _, _, _, .cons q qs, r => by
    cases r with
    | cons r1 r2 =>
      obtain ⟨l, h1⟩ := Dpx.rx I q r1
      obtain ⟨m, h2⟩ := Dpxs.rx I qs r2
      exact ⟨_, .cons h1 h2⟩
end
end
/-! ### over data -/
def resX (S : Store) : Nat → Addr → Option PyData
  | 0, _ => none
  | n + 1, a => match S a with
    | some (.lst ds) => (datEs (resX S n) ds).map .list
    | some (.dct []) => some (.dict [])
    | some (.ndc kvs) => (datEs (resX S n) (kvs.map fun p => p.1)).bind fun ks => (datEs (resX S n) (kvs.map fun p => p.2)).map fun vs => .dict (ks.zip vs)
    | _ => none
def datX (S : Store) (d : Dv) : Option PyData := datE (resX S 6) d
section
variable {K : Kw} {S : Store} {H : Hp}
theorem dpxs_ints : ∀ ns : List Int, Dpxs K H (ns.map V.int) (ns.map PyData.int)
  | [] => .nil
  | n :: ns => .cons (.int n) (dpxs_ints ns)
mutual
theorem dpx_of {f : Addr → Option PyData} (hf : ∀ a x, f a = some x → Dpx K H (.ref a) x) : ∀ (d : Dv) (v : V) (x : PyData), datE f d = some x → Rep K H d v → Dpx K H v x
  | .non, v, x, e, r => by cases (show some PyData.none = some x from e); rw [rep_non.mp r]; exact .non
  | .bl b, v, x, e, r => by cases (show some (PyData.bool b) = some x from e); rw [rep_bl.mp r]; exact .bl b
  | .int b, v, x, e, r => by cases (show some (PyData.int b) = some x from e); rw [rep_int.mp r]; exact .int b
  | .str b, v, x, e, r => by cases (show some (PyData.str b) = some x from e); rw [rep_str.mp r]; exact .str b
  | .ty n, v, x, e, r => by cases (show none = some x from e)
  | .ref a, v, x, e, r => by rw [rep_ref.mp r]; exact hf a x e
  | .scr ns, v, x, e, r => by
    cases (show some (PyData.list (ns.map .int)) = some x from e)
    obtain ⟨a, rfl, q⟩ := rep_scr.mp r
    exact .lst q.l (dpxs_ints ns)
  | .tup ds, v, x, e, r => by
    obtain ⟨xs, q1, rfl⟩ := Option.map_eq_some_iff.mp (show (datEs f ds).map PyData.tuple = some x from e)
    obtain ⟨a, ys, rfl, q, rs⟩ := rep_tup.mp r
    exact .tup q.t (dpxs_of hf ds ys xs q1 rs)
theorem dpxs_of {f : Addr → Option PyData} (hf : ∀ a x, f a = some x → Dpx K H (.ref a) x) : ∀ (ds : List Dv) (vs : List V) (xs : List PyData), datEs f ds = some xs → Reps K H ds vs → Dpxs K H vs xs
  | [], vs, xs, e, r => by cases (show some [] = some xs from e); rw [r.nil_inv]; exact .nil
  | d :: ds, vs, xs, e, r => by
    obtain ⟨x, q1, q2⟩ := Option.bind_eq_some_iff.mp (show ((datE f d).bind fun x => (datEs f ds).map fun xs => x :: xs) = some xs from e)
    obtain ⟨ys, q3, rfl⟩ := Option.map_eq_some_iff.mp q2
    obtain ⟨y, zs, rfl, r1, r2⟩ := r.cons_inv
    exact .cons (dpx_of hf d y x q1 r1) (dpxs_of hf ds zs ys q3 r2)
end
theorem kvn_reps : ∀ {kvs : List (Dv × Dv)} {es : NL V V}, KVn K H kvs es → Reps K H (kvs.map fun p => p.1) (es.map fun e => e.2.1) ∧ Reps K H (kvs.map fun p => p.2) (es.map fun e => e.2.2)
  | [], es, h => by cases (show es = [] from h); exact ⟨.nil, .nil⟩
  | _ :: _, _, h => by
    obtain ⟨a, x, y, es', rfl, _, _, h3, h4, h5⟩ := h
    obtain ⟨q1, q2⟩ := kvn_reps h5
    exact ⟨.cons h3 q1, .cons h4 q2⟩
theorem datEs_len {f : Addr → Option PyData} : ∀ {ds : List Dv} {xs : List PyData}, datEs f ds = some xs → xs.length = ds.length
  | [], _, e => by cases (show some [] = some _ from e); rfl
  | d :: ds, xs, e => by
    obtain ⟨x, q1, q2⟩ := Option.bind_eq_some_iff.mp (show ((datE f d).bind fun x => (datEs f ds).map fun xs => x :: xs) = some xs from e)
    obtain ⟨ys, q3, rfl⟩ := Option.map_eq_some_iff.mp q2
    simp [datEs_len q3]
theorem dpx_res (r : Rel K S H) : ∀ (n : Nat) (a : Addr) (x : PyData), resX S n a = some x → Dpx K H (.ref a) x
  | 0, _, _, e => by cases (show none = some _ from e)
  | n + 1, a, x, e => by
    unfold resX at e
    split at e
    · rename_i ds q
      obtain ⟨xs, q1, rfl⟩ := Option.map_eq_some_iff.mp e
      obtain ⟨ys, h, rs⟩ := r.lst q
      exact .lst (.of h) (dpxs_of (dpx_res r n) ds ys xs q1 rs)
    · rename_i q
      cases e
      obtain ⟨ys, h, k, _⟩ := r.dct q
      obtain rfl : ys = [] := by simpa using k
      exact .dct h
    · rename_i kvs q
      obtain ⟨ks, q1, e⟩ := Option.bind_eq_some_iff.mp e
      obtain ⟨vs, q2, rfl⟩ := Option.map_eq_some_iff.mp e
      obtain ⟨es, h, kn⟩ := r.ndc q
      obtain ⟨r1, r2⟩ := kvn_reps kn
      have l1 := datEs_len q1
      have l2 := datEs_len q2
      have e1 : ((ks.zip vs).map fun p => p.1) = ks := List.map_fst_zip (by simp at l1 l2; omega)
      have e2 : ((ks.zip vs).map fun p => p.2) = vs := List.map_snd_zip (by simp at l1 l2; omega)
      exact .ndc h (by rw [e1]; exact dpxs_of (dpx_res r n) _ _ _ q1 r1) (by rw [e2]; exact dpxs_of (dpx_res r n) _ _ _ q2 r2)
    · cases e
theorem dpx_dat (r : Rel K S H) {d : Dv} {v : V} {x : PyData} (e : datX S d = some x) (p : Rep K H d v) : Dpx K H v x := dpx_of (dpx_res r 6) d v x e p
end
section
variable {X : Cx}
/-- repr of any such value -/
def gReprX : GA := fun ds S P => match ds with
  | [d] => (match datX S d with | some x => x.showable = true ∧ x.depth ≤ 64 ∧ x.shown.length ≤ sizeLine ∧ P (.str x.shown) S | none => False)
  | _ => False
theorem callX_repr (hg : X.A.guards = some []) (hu : X.A.units + 100 < cLine) : CallR X (.builtin "repr") (fun xs H Q => ∃ v x, xs = [v] ∧ Dpx X.kw H v x ∧ x.showable = true ∧ x.depth ≤ 64 ∧ x.shown.length ≤ sizeLine ∧ Q (.str x.shown) H) := by
  intro pins s σ H xs us Q I rr h
  obtain ⟨v, x, rfl, hd, hs, hdp, hz, q⟩ := h
  obtain ⟨u, rfl, ru⟩ := rr.one
  obtain ⟨l, rd⟩ := hd.rx I ru
  have done : ∀ (h' : Heap) (u tk : Tok), (∀ b o, s.heap.get? b = some o → h'.get? b = some o) → EP X pins σ Q (.str x.shown u) { s with heap := h', toks := tk } := fun h' u tk k => ⟨.str x.shown, H, I.kept k, ⟨_, rfl⟩, q⟩
  have deep : ∀ a, u = .ref a → wpAny (model X.prog X.w) X.A (call (.builtin "repr") [.ref a]) (EP X pins σ Q) X.xe s := fun a ea => by
    subst ea
    exact repr_rx rd hs hz hg (by omega) done
  cases rd with
  | non => simp only [PyData.shown] at done; exact PySem.P.repr_of_none (done s.heap _ _ fun _ _ z => z)
  | bl b => simp only [PyData.shown] at done; exact PySem.P.repr_of_bool (done s.heap _ _ fun _ _ z => z)
  | int i t => simp only [PyData.shown] at done; exact PySem.P.repr_of_int (by simpa [PyData.showable] using hs) (done s.heap _ _ fun _ _ z => z)
  | str y t => simp only [PyData.shown] at done; exact PySem.P.repr_of_str (done s.heap _ _ fun _ _ z => z) (by simpa only [PyData.shown] using hz)
  | lst _ _ _ _ => exact deep _ rfl
  | tup _ _ _ _ => exact deep _ rfl
  | dct _ _ _ _ _ _ => exact deep _ rfl
theorem cg_reprX (hg : X.A.guards = some []) (hu : X.A.units + 100 < cLine) : CallG X (.builtin "repr") gReprX := ⟨_, callX_repr hg hu, fun ds S P q vs H Q r rs hp => by
  unfold gReprX at q
  split at q
  · rename_i d
    split at q
    · rename_i x e0
      obtain ⟨v, rfl, rv⟩ := reps1 rs
      exact ⟨v, x, rfl, dpx_dat r e0 rv, q.1, q.2.1, q.2.2.1, hp _ _ q.2.2.2 _ _ .refl r (rep_str.mpr rfl)⟩
    · exact q.elim
  · exact q.elim⟩
/-! ### x != () -/
@[simp] def gNeNil : G2 := fun d e S P => match d, e with
  | .tup ds, .tup [] => P (.bl (!ds.isEmpty)) S
  | _, _ => False
def rNeNil (K : Kw) : R2 := fun x y H Q => ∃ a b xs, x = .ref a ∧ y = .ref b ∧ SqT K H a xs ∧ SqT K H b [] ∧ Q (.bl (!xs.isEmpty)) H
theorem o_neNil (hu : X.A.units < cLine) : OpR X (compareOp .NotEq) (rNeNil X.kw) := by
  intro pins s σ H x y v u Q I rx ry h
  obtain ⟨a, b, xs, rfl, rfl, qa, qb, q⟩ := h
  obtain rfl : v = Value.ref a := rx
  obtain rfl : u = Value.ref b := ry
  obtain ⟨ia, va, ta, _⟩ := I.tuple qa
  obtain ⟨ib, vb, tb, _⟩ := I.tuple qb
  have z0 : ib.length = 0 := by have q0 := vb.length; simpa using q0.symm
  have z1 : ia.length = xs.length := by have q1 := va.length; simpa using q1.symm
  refine PySem.SeqAt.RcNeAt.tuples (e := fun _ => true) ta tb hu (fun j _ h2 => absurd h2 (by simp [z0])) _ _ _ _ ⟨.bl _, H, I, ?_, q⟩
  show Value.bool _ = Value.bool _
  congr 1
  simp only [List.size_toArray, z0, z1]
  cases xs <;> simp
theorem c_neNil (hu : X.A.units < cLine) : OpG X (compareOp .NotEq) gNeNil := ⟨_, o_neNil hu, fun d e S P q v u H Q r rv ru hp => by
  unfold gNeNil at q
  split at q
  · rename_i ds
    obtain ⟨a, xs, rfl, q1, rs⟩ := rep_tup.mp rv
    obtain ⟨b, ys, rfl, q2, rs2⟩ := rep_tup.mp ru
    cases rs2.nil_inv
    refine ⟨a, b, xs, rfl, rfl, q1.t, q2.t, hp _ _ q _ _ .refl r (rep_bl.mpr ?_)⟩
    have := rs.length
    cases xs <;> cases ds <;> simp_all
  · exact q.elim⟩
end
end Sb

/-! Calls of a def by itself; constants of the module that the head reads. -/
namespace Sb
open PySem PySem.Spec PyProof.Rows L2
section
variable {X : Cx} {H0 : Hp} {k L n : Nat} {ps : List Str} {sp : Nat → DSp} {x : Str} {p pos : Pos} {e : Expr} {es : List Expr} {t : DTA}
/-- a def's call of itself, n levels left -/
def dRec (sp : Nat → DSp) (n : Nat) (t : DTA) : DTE := match n with
  | 0 => dNeverE
  | m + 1 => dCall (sp m) X0 t
@[simp] theorem dRec_zero {t : DTA} : dRec sp 0 t = dNeverE := rfl
@[simp] theorem dRec_succ {t : DTA} : dRec sp (n + 1) t = dCall (sp n) X0 t := rfl
theorem de_rec (c : ∀ m, n = m + 1 → Cal X.prog X.w X.K X.mg X.base (L + m) x ps (sp m)) (hgd : X.A.guards = some []) (hr : Room (k + n) X.A) (ha : DA X H0 (e :: es) t) (hL : L = k + 1 := by decide) (hg : Gl X x := by rfl) (hdb : (x == ("__debug__" : Str)) = false := by decide)
    (he : starEach (e :: es) X.env = (false, eval e X.env) :: starEach es X.env := by rfl) (hpl : (backTo pos (starEach es X.env)).any (·.1) = false := by rfl) : DE X H0 (.Call (.Name x p) (e :: es) [] pos) (dRec sp n t) := by
  cases n with
  | zero => exact de_never
  | succ m => exact de_fn (c m rfl) hgd hr ha (by omega) hg hdb he hpl
end
/-! ### constants of the module -/
theorem loose_int {p : Program} {lv : List (Str × PySem.W.WData)} {mg : Str → Option Value} {h : Heap} {x : Str} {n : Int} (q : PySem.W.XL p lv mg h) (hm : (x, PySem.W.WData.int n) ∈ lv) : ∃ t, mg x = some (.int n t) := by
  obtain ⟨v, a, b⟩ := q.2.val _ hm
  cases b with
  | int i t => exact ⟨t, a⟩
/-- the goal that k_head leaves, with what it read of the module -/
theorem law_walkX {l : PySem.W.OpenLaw} {n k : Nat} {q : Program} {loose : List Str} {XP : (Str → Option Value) → Heap → Prop} {YP : World → Heap → Prop} {d : DefRec} {K : Params → PySem.W.Frag} {sp : DSp} {x : Str} {Z : (Str → Option Value) → Prop}
    (hn : l.most = some n) (hn2 : n ≤ sizeLine) (hdf : d.params.defaults = []) (hr : Room k callerA) (hY : ∀ (w : World) (h : Heap), YP w h → (K w.params).In h) (hZ : ∀ (mg : Str → Option Value) (h : Heap), XP mg h → Z mg)
    (F : ∀ (w : World) (mg : Str → Option Value) (fa : Addr) (h : Heap), (K w.params).In h → h.Ns mainGlobals mg → mg d.name = some (.ref fa) → Z mg →
      ∃ fd : FuncData, (∀ (s : Shared) (u : Value), BindsTo s fd ⟨[u], []⟩ [(x, u)]) ∧ ∀ base : Heap, (K w.params).In base → base.Ns mainGlobals mg → DFn l.prog w (K w.params) mg base k fa fd [x] sp)
    (hsp : ∀ ns : List Int, ns.length ≤ n → (∀ z ∈ ns, Builtin.Int.intBits z ≤ 1048576) → sp [.scr ns] (fun _ => none) (fun d _ => d = .bl true) X0) :
    PySem.W.WalkO q loose XP YP l.row.toRowW d [] (fun f vs => PySem.call f vs) := by
  refine Att.attach_callB hn hdf fun w s0 s1 mg mb fa o pm cd doc a vs ns G Y ho hd hcd hmg hobj hints hlen hbits hg => ?_
  obtain ⟨fd, hb, hF⟩ := F w mg fa _ (hY w _ Y) G.T.g hmg (hZ mg _ G.X)
  exact law_run (hY w _ Y) G.T.g G.T.b G.T.builtins G.T.nolimit hg hobj hints (Nat.le_trans hlen hn2) hr hF hb (hsp ns hlen hbits)
end Sb

/-! == and != of tuples of any depth and of any texts, and of unlike kinds. -/
namespace Sb
open PySem PySem.Spec PyProof.Rows L2 PySem.SeqAt
mutual
/-- what is compared: no number with a truth value, no lists -/
def cmp : Dv → Dv → Bool
  | .tup ds, .tup es => cmps ds es
  | .tup _, .non => true
  | .tup _, .int _ => true
  | .tup _, .str _ => true
  | .tup _, .bl _ => true
  | .non, .tup _ => true
  | .int _, .tup _ => true
  | .str _, .tup _ => true
  | .bl _, .tup _ => true
  | d, e => scl d e
def cmps : List Dv → List Dv → Bool
  | d :: ds, e :: es => cmp d e && cmps ds es
  | _, _ => true
end
section
variable {X : Cx} {pins : List (Addr × Obj)} {σ : L2.St} {H : Hp} {s : Shared}
mutual
theorem rep_one (I : Inv X pins σ H s) : ∀ (d e : Dv) (v : V), cmp d e = true → Rep X.kw H d v → Rep X.kw H e v → d = e
  | .tup ds, .tup es, v, h, r1, r2 => by
    obtain ⟨a, xs, rfl, q1, rs1⟩ := rep_tup.mp r1
    obtain ⟨b, ys, e0, q2, rs2⟩ := rep_tup.mp r2
    cases e0
    obtain rfl := I.tuple_inj q1.t q2.t
    rw [reps_one I ds es xs (by simpa only [cmp] using h) rs1 rs2]
  | .tup ds, .non, v, h, r1, r2 => by obtain ⟨a, xs, rfl, _⟩ := rep_tup.mp r1; cases rep_non.mp r2
  | .tup ds, .int _, v, h, r1, r2 => by obtain ⟨a, xs, rfl, _⟩ := rep_tup.mp r1; cases rep_int.mp r2
  | .tup ds, .str _, v, h, r1, r2 => by obtain ⟨a, xs, rfl, _⟩ := rep_tup.mp r1; cases rep_str.mp r2
  | .tup ds, .bl _, v, h, r1, r2 => by obtain ⟨a, xs, rfl, _⟩ := rep_tup.mp r1; cases rep_bl.mp r2
  | .tup ds, .ty _, v, h, r1, r2 => by simp [cmp, scl] at h
  | .tup ds, .ref _, v, h, r1, r2 => by simp [cmp, scl] at h
  | .tup ds, .scr _, v, h, r1, r2 => by simp [cmp, scl] at h
  | .non, e, v, h, r1, r2 => by cases e <;> first | (simp [cmp, scl] at h; done) | skip
                                all_goals first | (obtain ⟨a, xs, rfl, _⟩ := rep_tup.mp r2; cases rep_non.mp r1) | exact ((scl_rep (by simpa only [cmp] using h) r1 r2).2.mp rfl)
  | .int _, e, v, h, r1, r2 => by cases e <;> first | (simp [cmp, scl] at h; done) | skip
                                  all_goals first | (obtain ⟨a, xs, rfl, _⟩ := rep_tup.mp r2; cases rep_int.mp r1) | exact ((scl_rep (by simpa only [cmp] using h) r1 r2).2.mp rfl)
  | .str _, e, v, h, r1, r2 => by cases e <;> first | (simp [cmp, scl] at h; done) | skip
                                  all_goals first | (obtain ⟨a, xs, rfl, _⟩ := rep_tup.mp r2; cases rep_str.mp r1) | exact ((scl_rep (by simpa only [cmp] using h) r1 r2).2.mp rfl)
  | .bl _, e, v, h, r1, r2 => by cases e <;> first | (simp [cmp, scl] at h; done) | skip
                                 all_goals first | (obtain ⟨a, xs, rfl, _⟩ := rep_tup.mp r2; cases rep_bl.mp r1) | exact ((scl_rep (by simpa only [cmp] using h) r1 r2).2.mp rfl)
  | .ty _, e, v, h, r1, r2 => by cases e <;> simp [cmp, scl] at h
  | .ref _, e, v, h, r1, r2 => by cases e <;> simp [cmp, scl] at h
  | .scr _, e, v, h, r1, r2 => by cases e <;> simp [cmp, scl] at h
theorem reps_one (I : Inv X pins σ H s) : ∀ (ds es : List Dv) (vs : List V), cmps ds es = true → Reps X.kw H ds vs → Reps X.kw H es vs → ds = es
  | [], [], _, _, _, _ => rfl
  | [], e :: es, _, _, r1, r2 => by obtain ⟨y, ys, rfl, _⟩ := r2.cons_inv; cases r1.nil_inv
  | d :: ds, [], _, _, r1, r2 => by obtain ⟨y, ys, rfl, _⟩ := r1.cons_inv; cases r2.nil_inv
  | d :: ds, e :: es, _, h, r1, r2 => by
    obtain ⟨y, ys, rfl, p1, q1⟩ := r1.cons_inv
    obtain ⟨z, zs, e0, p2, q2⟩ := r2.cons_inv
    cases e0
    simp only [cmps, Bool.and_eq_true] at h
    rw [rep_one I d e y h.1 p1 p2, reps_one I ds es ys h.2 q1 q2]
end
theorem eq_scl {A : Around} : ∀ (d e : Dv) (v u : V) (v' u' : Value) (b : Bool), scl d e = true → Rep X.kw H d v → Rep X.kw H e u → RelV v v' → RelV u u' → (b = true ↔ d = e) → EqAt A s v' u' b
  | .non, .non, v, u, v', u', b, h, r1, r2, q1, q2, hb => by
    have z := rep_non.mp r1
    subst z
    obtain rfl : v' = Value.none := q1
    have z := rep_non.mp r2
    subst z
    obtain rfl : u' = Value.none := q2
    obtain rfl : b = true := hb.mpr rfl
    exact EqAt.same _
  | .non, .int j, v, u, v', u', b, h, r1, r2, q1, q2, hb => by
    have z := rep_non.mp r1
    subst z
    obtain rfl : v' = Value.none := q1
    have z := rep_int.mp r2
    subst z
    obtain ⟨t2, rfl⟩ := q2
    obtain rfl : b = false := by cases b with | false => rfl | true => cases hb.mp rfl
    exact EqAt.none_int _ _
  | .non, .bl j, v, u, v', u', b, h, r1, r2, q1, q2, hb => by
    have z := rep_non.mp r1
    subst z
    obtain rfl : v' = Value.none := q1
    have z := rep_bl.mp r2
    subst z
    obtain rfl : u' = Value.bool _ := q2
    obtain rfl : b = false := by cases b with | false => rfl | true => cases hb.mp rfl
    exact EqAt.none_bool _
  | .non, .str j, v, u, v', u', b, h, r1, r2, q1, q2, hb => by
    have z := rep_non.mp r1
    subst z
    obtain rfl : v' = Value.none := q1
    have z := rep_str.mp r2
    subst z
    obtain ⟨t2, rfl⟩ := q2
    obtain rfl : b = false := by cases b with | false => rfl | true => cases hb.mp rfl
    exact EqAt.none_str _ _
  | .int i, .non, v, u, v', u', b, h, r1, r2, q1, q2, hb => by
    have z := rep_int.mp r1
    subst z
    obtain ⟨t1, rfl⟩ := q1
    have z := rep_non.mp r2
    subst z
    obtain rfl : u' = Value.none := q2
    obtain rfl : b = false := by cases b with | false => rfl | true => cases hb.mp rfl
    exact EqAt.int_none _ _
  | .bl i, .non, v, u, v', u', b, h, r1, r2, q1, q2, hb => by
    have z := rep_bl.mp r1
    subst z
    obtain rfl : v' = Value.bool _ := q1
    have z := rep_non.mp r2
    subst z
    obtain rfl : u' = Value.none := q2
    obtain rfl : b = false := by cases b with | false => rfl | true => cases hb.mp rfl
    exact EqAt.bool_none _
  | .str i, .non, v, u, v', u', b, h, r1, r2, q1, q2, hb => by
    have z := rep_str.mp r1
    subst z
    obtain ⟨t1, rfl⟩ := q1
    have z := rep_non.mp r2
    subst z
    obtain rfl : u' = Value.none := q2
    obtain rfl : b = false := by cases b with | false => rfl | true => cases hb.mp rfl
    exact EqAt.str_none _ _
  | .int i, .int j, v, u, v', u', b, h, r1, r2, q1, q2, hb => by
    have z := rep_int.mp r1
    subst z
    obtain ⟨t1, rfl⟩ := q1
    have z := rep_int.mp r2
    subst z
    obtain ⟨t2, rfl⟩ := q2
    have z : b = (i == j) := by rw [Bool.eq_iff_iff, hb, beq_iff_eq, Dv.int.injEq]
    rw [z]
    exact EqAt.int_int _ _ _ _
  | .bl i, .bl j, v, u, v', u', b, h, r1, r2, q1, q2, hb => by
    have z := rep_bl.mp r1
    subst z
    obtain rfl : v' = Value.bool _ := q1
    have z := rep_bl.mp r2
    subst z
    obtain rfl : u' = Value.bool _ := q2
    have z : b = (i == j) := by rw [Bool.eq_iff_iff, hb, beq_iff_eq, Dv.bl.injEq]
    rw [z]
    exact EqAt.bool_bool _ _
  | .str i, .str j, v, u, v', u', b, h, r1, r2, q1, q2, hb => by
    have z := rep_str.mp r1
    subst z
    obtain ⟨t1, rfl⟩ := q1
    have z := rep_str.mp r2
    subst z
    obtain ⟨t2, rfl⟩ := q2
    have z : b = (i == j) := by rw [Bool.eq_iff_iff, hb, beq_iff_eq, Dv.str.injEq]
    rw [z]
    exact EqAt.str_str _ _ _ _
  | .int i, .str j, v, u, v', u', b, h, r1, r2, q1, q2, hb => by
    have z := rep_int.mp r1
    subst z
    obtain ⟨t1, rfl⟩ := q1
    have z := rep_str.mp r2
    subst z
    obtain ⟨t2, rfl⟩ := q2
    obtain rfl : b = false := by cases b with | false => rfl | true => cases hb.mp rfl
    exact EqAt.int_str _ _ _ _
  | .str i, .int j, v, u, v', u', b, h, r1, r2, q1, q2, hb => by
    have z := rep_str.mp r1
    subst z
    obtain ⟨t1, rfl⟩ := q1
    have z := rep_int.mp r2
    subst z
    obtain ⟨t2, rfl⟩ := q2
    obtain rfl : b = false := by cases b with | false => rfl | true => cases hb.mp rfl
    exact EqAt.str_int _ _ _ _
  | .bl i, .str j, v, u, v', u', b, h, r1, r2, q1, q2, hb => by
    have z := rep_bl.mp r1
    subst z
    obtain rfl : v' = Value.bool _ := q1
    have z := rep_str.mp r2
    subst z
    obtain ⟨t2, rfl⟩ := q2
    obtain rfl : b = false := by cases b with | false => rfl | true => cases hb.mp rfl
    exact EqAt.bool_str _ _ _
  | .str i, .bl j, v, u, v', u', b, h, r1, r2, q1, q2, hb => by
    have z := rep_str.mp r1
    subst z
    obtain ⟨t1, rfl⟩ := q1
    have z := rep_bl.mp r2
    subst z
    obtain rfl : u' = Value.bool _ := q2
    obtain rfl : b = false := by cases b with | false => rfl | true => cases hb.mp rfl
    exact EqAt.str_bool _ _ _
  | .int i, .bl j, _, _, _, _, _, h, _, _, _, _, _ => absurd (show false = true from h) Bool.false_ne_true
  | .bl i, .int j, _, _, _, _, _, h, _, _, _, _, _ => absurd (show false = true from h) Bool.false_ne_true
  | .non, .tup j, _, _, _, _, _, h, _, _, _, _, _ => absurd (show false = true from h) Bool.false_ne_true
  | .int i, .tup j, _, _, _, _, _, h, _, _, _, _, _ => absurd (show false = true from h) Bool.false_ne_true
  | .str i, .tup j, _, _, _, _, _, h, _, _, _, _, _ => absurd (show false = true from h) Bool.false_ne_true
  | .bl i, .tup j, _, _, _, _, _, h, _, _, _, _, _ => absurd (show false = true from h) Bool.false_ne_true
  | .non, .ty j, _, _, _, _, _, h, _, _, _, _, _ => absurd (show false = true from h) Bool.false_ne_true
  | .int i, .ty j, _, _, _, _, _, h, _, _, _, _, _ => absurd (show false = true from h) Bool.false_ne_true
  | .str i, .ty j, _, _, _, _, _, h, _, _, _, _, _ => absurd (show false = true from h) Bool.false_ne_true
  | .bl i, .ty j, _, _, _, _, _, h, _, _, _, _, _ => absurd (show false = true from h) Bool.false_ne_true
  | .non, .ref j, _, _, _, _, _, h, _, _, _, _, _ => absurd (show false = true from h) Bool.false_ne_true
  | .int i, .ref j, _, _, _, _, _, h, _, _, _, _, _ => absurd (show false = true from h) Bool.false_ne_true
  | .str i, .ref j, _, _, _, _, _, h, _, _, _, _, _ => absurd (show false = true from h) Bool.false_ne_true
  | .bl i, .ref j, _, _, _, _, _, h, _, _, _, _, _ => absurd (show false = true from h) Bool.false_ne_true
  | .non, .scr j, _, _, _, _, _, h, _, _, _, _, _ => absurd (show false = true from h) Bool.false_ne_true
  | .int i, .scr j, _, _, _, _, _, h, _, _, _, _, _ => absurd (show false = true from h) Bool.false_ne_true
  | .str i, .scr j, _, _, _, _, _, h, _, _, _, _, _ => absurd (show false = true from h) Bool.false_ne_true
  | .bl i, .scr j, _, _, _, _, _, h, _, _, _, _, _ => absurd (show false = true from h) Bool.false_ne_true
  | .tup i, e, _, _, _, _, _, h, _, _, _, _, _ => by cases e <;> exact absurd (show false = true from h) Bool.false_ne_true
  | .ty i, e, _, _, _, _, _, h, _, _, _, _, _ => by cases e <;> exact absurd (show false = true from h) Bool.false_ne_true
  | .ref i, e, _, _, _, _, _, h, _, _, _, _, _ => by cases e <;> exact absurd (show false = true from h) Bool.false_ne_true
  | .scr i, e, _, _, _, _, _, h, _, _, _, _, _ => by cases e <;> exact absurd (show false = true from h) Bool.false_ne_true
mutual
theorem eq_dv (I : Inv X pins σ H s) : ∀ (d e : Dv) (v u : V) (v' u' : Value) (A : Around), cmp d e = true → A.units + dep d < cLine → Rep X.kw H d v → Rep X.kw H e u → RelV v v' → RelV u u' → ∀ b : Bool, (b = true ↔ d = e) → EqAt A s v' u' b
  | .tup ds, .tup es, v, u, v', u', A, h, hu, r1, r2, p1, p2, b, hb => by
    have all := rep_one I (.tup ds) (.tup es)
    obtain ⟨a, xs, rfl, q1, rs1⟩ := rep_tup.mp r1
    obtain ⟨c, ys, rfl, q2, rs2⟩ := rep_tup.mp r2
    obtain rfl : v' = Value.ref a := p1
    obtain rfl : u' = Value.ref c := p2
    simp only [dep] at hu
    by_cases hac : a = c
    · subst hac
      obtain rfl : b = true := hb.mpr (all _ h r1 r2)
      exact EqAt.same _
    · refine EqAt.of_refs hac ?_
      obtain ⟨its, va, ta, _⟩ := I.tuple q1.t
      obtain ⟨jts, vb, tb, _⟩ := I.tuple q2.t
      obtain ⟨k, hk, hks⟩ := eqs_dv I ds es xs ys its jts A.in1 (by simpa only [cmp] using h) (by show A.units + 1 + deps ds < cLine; omega) rs1 rs2 va vb
      have fin := RcAt.tuples (A := A) (e := k) ta tb (by omega) fun j h1 h2 => hk j (by simpa using h1) (by simpa using h2)
      have eb : ((List.range (min its.toArray.size jts.toArray.size)).all k && its.toArray.size == jts.toArray.size) = b := by
        rw [Bool.eq_iff_iff, hb, Bool.and_eq_true, List.all_eq_true, beq_iff_eq, Dv.tup.injEq]
        have l1 := rs1.length; have l2 := rs2.length; have l3 := va.length; have l4 := vb.length
        simp only [List.size_toArray, List.mem_range]
        constructor
        · rintro ⟨z1, z2⟩
          exact hks.mp ⟨fun j j1 j2 => z1 j (by omega), by omega⟩
        · intro z
          obtain ⟨z1, z2⟩ := hks.mpr z
          exact ⟨fun j hj => z1 j (by omega) (by omega), by omega⟩
      rw [← eb]
      exact fin
  | .tup ds, .non, v, u, v', u', A, h, hu, r1, r2, p1, p2, b, hb => by
    obtain ⟨a, xs, rfl, q1, rs1⟩ := rep_tup.mp r1
    obtain rfl : v' = Value.ref a := p1
    have z := rep_non.mp r2; subst z
    obtain rfl : u' = Value.none := p2
    obtain ⟨its, va, ta, _⟩ := I.tuple q1.t
    obtain rfl : b = false := by cases b with | false => rfl | true => cases hb.mp rfl
    exact EqAt.tuple_none ta (by omega)
  | .tup ds, .int i, v, u, v', u', A, h, hu, r1, r2, p1, p2, b, hb => by
    obtain ⟨a, xs, rfl, q1, rs1⟩ := rep_tup.mp r1
    obtain rfl : v' = Value.ref a := p1
    have z := rep_int.mp r2; subst z
    obtain ⟨t, rfl⟩ := p2
    obtain ⟨its, va, ta, _⟩ := I.tuple q1.t
    obtain rfl : b = false := by cases b with | false => rfl | true => cases hb.mp rfl
    exact EqAt.tuple_int _ _ ta (by omega)
  | .tup ds, .str i, v, u, v', u', A, h, hu, r1, r2, p1, p2, b, hb => by
    obtain ⟨a, xs, rfl, q1, rs1⟩ := rep_tup.mp r1
    obtain rfl : v' = Value.ref a := p1
    have z := rep_str.mp r2; subst z
    obtain ⟨t, rfl⟩ := p2
    obtain ⟨its, va, ta, _⟩ := I.tuple q1.t
    obtain rfl : b = false := by cases b with | false => rfl | true => cases hb.mp rfl
    exact EqAt.tuple_str _ _ ta (by omega)
  | .tup ds, .bl i, v, u, v', u', A, h, hu, r1, r2, p1, p2, b, hb => by
    obtain ⟨a, xs, rfl, q1, rs1⟩ := rep_tup.mp r1
    obtain rfl : v' = Value.ref a := p1
    have z := rep_bl.mp r2; subst z
    obtain rfl : u' = Value.bool _ := p2
    obtain ⟨its, va, ta, _⟩ := I.tuple q1.t
    obtain rfl : b = false := by cases b with | false => rfl | true => cases hb.mp rfl
    exact EqAt.tuple_bool _ ta (by omega)
  | .tup ds, .ty _, _, _, _, _, _, h, _, _, _, _, _, _, _ => by simp [cmp, scl] at h
  | .tup ds, .ref _, _, _, _, _, _, h, _, _, _, _, _, _, _ => by simp [cmp, scl] at h
  | .tup ds, .scr _, _, _, _, _, _, h, _, _, _, _, _, _, _ => by simp [cmp, scl] at h
  | .non, .tup es, v, u, v', u', A, h, hu, r1, r2, p1, p2, b, hb => by
    obtain ⟨a, xs, rfl, q1, rs1⟩ := rep_tup.mp r2
    obtain rfl : u' = Value.ref a := p2
    have z := rep_non.mp r1; subst z
    obtain rfl : v' = Value.none := p1
    obtain ⟨its, va, ta, _⟩ := I.tuple q1.t
    obtain rfl : b = false := by cases b with | false => rfl | true => cases hb.mp rfl
    exact EqAt.none_tuple ta (by omega)
  | .int i, .tup es, v, u, v', u', A, h, hu, r1, r2, p1, p2, b, hb => by
    obtain ⟨a, xs, rfl, q1, rs1⟩ := rep_tup.mp r2
    obtain rfl : u' = Value.ref a := p2
    have z := rep_int.mp r1; subst z
    obtain ⟨t, rfl⟩ := p1
    obtain ⟨its, va, ta, _⟩ := I.tuple q1.t
    obtain rfl : b = false := by cases b with | false => rfl | true => cases hb.mp rfl
    exact EqAt.int_tuple _ _ ta (by omega)
  | .str i, .tup es, v, u, v', u', A, h, hu, r1, r2, p1, p2, b, hb => by
    obtain ⟨a, xs, rfl, q1, rs1⟩ := rep_tup.mp r2
    obtain rfl : u' = Value.ref a := p2
    have z := rep_str.mp r1; subst z
    obtain ⟨t, rfl⟩ := p1
    obtain ⟨its, va, ta, _⟩ := I.tuple q1.t
    obtain rfl : b = false := by cases b with | false => rfl | true => cases hb.mp rfl
    exact EqAt.str_tuple _ _ ta (by omega)
  | .bl i, .tup es, v, u, v', u', A, h, hu, r1, r2, p1, p2, b, hb => by
    obtain ⟨a, xs, rfl, q1, rs1⟩ := rep_tup.mp r2
    obtain rfl : u' = Value.ref a := p2
    have z := rep_bl.mp r1; subst z
    obtain rfl : v' = Value.bool _ := p1
    obtain ⟨its, va, ta, _⟩ := I.tuple q1.t
    obtain rfl : b = false := by cases b with | false => rfl | true => cases hb.mp rfl
    exact EqAt.bool_tuple _ ta (by omega)
  | .non, .non, v, u, v', u', A, h, hu, r1, r2, p1, p2, b, hb => eq_scl _ _ _ _ _ _ b (by simpa only [cmp] using h) r1 r2 p1 p2 hb
  | .non, .int _, v, u, v', u', A, h, hu, r1, r2, p1, p2, b, hb => eq_scl _ _ _ _ _ _ b (by simpa only [cmp] using h) r1 r2 p1 p2 hb
  | .non, .str _, v, u, v', u', A, h, hu, r1, r2, p1, p2, b, hb => eq_scl _ _ _ _ _ _ b (by simpa only [cmp] using h) r1 r2 p1 p2 hb
  | .non, .bl _, v, u, v', u', A, h, hu, r1, r2, p1, p2, b, hb => eq_scl _ _ _ _ _ _ b (by simpa only [cmp] using h) r1 r2 p1 p2 hb
  | .int _, .non, v, u, v', u', A, h, hu, r1, r2, p1, p2, b, hb => eq_scl _ _ _ _ _ _ b (by simpa only [cmp] using h) r1 r2 p1 p2 hb
  | .int _, .int _, v, u, v', u', A, h, hu, r1, r2, p1, p2, b, hb => eq_scl _ _ _ _ _ _ b (by simpa only [cmp] using h) r1 r2 p1 p2 hb
  | .int _, .str _, v, u, v', u', A, h, hu, r1, r2, p1, p2, b, hb => eq_scl _ _ _ _ _ _ b (by simpa only [cmp] using h) r1 r2 p1 p2 hb
  | .int _, .bl _, v, u, v', u', A, h, hu, r1, r2, p1, p2, b, hb => eq_scl _ _ _ _ _ _ b (by simpa only [cmp] using h) r1 r2 p1 p2 hb
  | .str _, .non, v, u, v', u', A, h, hu, r1, r2, p1, p2, b, hb => eq_scl _ _ _ _ _ _ b (by simpa only [cmp] using h) r1 r2 p1 p2 hb
  | .str _, .int _, v, u, v', u', A, h, hu, r1, r2, p1, p2, b, hb => eq_scl _ _ _ _ _ _ b (by simpa only [cmp] using h) r1 r2 p1 p2 hb
  | .str _, .str _, v, u, v', u', A, h, hu, r1, r2, p1, p2, b, hb => eq_scl _ _ _ _ _ _ b (by simpa only [cmp] using h) r1 r2 p1 p2 hb
  | .str _, .bl _, v, u, v', u', A, h, hu, r1, r2, p1, p2, b, hb => eq_scl _ _ _ _ _ _ b (by simpa only [cmp] using h) r1 r2 p1 p2 hb
  | .bl _, .non, v, u, v', u', A, h, hu, r1, r2, p1, p2, b, hb => eq_scl _ _ _ _ _ _ b (by simpa only [cmp] using h) r1 r2 p1 p2 hb
  | .bl _, .int _, v, u, v', u', A, h, hu, r1, r2, p1, p2, b, hb => eq_scl _ _ _ _ _ _ b (by simpa only [cmp] using h) r1 r2 p1 p2 hb
  | .bl _, .str _, v, u, v', u', A, h, hu, r1, r2, p1, p2, b, hb => eq_scl _ _ _ _ _ _ b (by simpa only [cmp] using h) r1 r2 p1 p2 hb
  | .bl _, .bl _, v, u, v', u', A, h, hu, r1, r2, p1, p2, b, hb => eq_scl _ _ _ _ _ _ b (by simpa only [cmp] using h) r1 r2 p1 p2 hb
  | .non, .ty _, _, _, _, _, _, h, _, _, _, _, _, _, _ => by simp [cmp, scl] at h
  | .non, .ref _, _, _, _, _, _, h, _, _, _, _, _, _, _ => by simp [cmp, scl] at h
  | .non, .scr _, _, _, _, _, _, h, _, _, _, _, _, _, _ => by simp [cmp, scl] at h
  | .int _, .ty _, _, _, _, _, _, h, _, _, _, _, _, _, _ => by simp [cmp, scl] at h
  | .int _, .ref _, _, _, _, _, _, h, _, _, _, _, _, _, _ => by simp [cmp, scl] at h
  | .int _, .scr _, _, _, _, _, _, h, _, _, _, _, _, _, _ => by simp [cmp, scl] at h
  | .str _, .ty _, _, _, _, _, _, h, _, _, _, _, _, _, _ => by simp [cmp, scl] at h
  | .str _, .ref _, _, _, _, _, _, h, _, _, _, _, _, _, _ => by simp [cmp, scl] at h
  | .str _, .scr _, _, _, _, _, _, h, _, _, _, _, _, _, _ => by simp [cmp, scl] at h
  | .bl _, .ty _, _, _, _, _, _, h, _, _, _, _, _, _, _ => by simp [cmp, scl] at h
  | .bl _, .ref _, _, _, _, _, _, h, _, _, _, _, _, _, _ => by simp [cmp, scl] at h
  | .bl _, .scr _, _, _, _, _, _, h, _, _, _, _, _, _, _ => by simp [cmp, scl] at h
  | .ty _, e, _, _, _, _, _, h, _, _, _, _, _, _, _ => by cases e <;> simp [cmp, scl] at h
  | .ref _, e, _, _, _, _, _, h, _, _, _, _, _, _, _ => by cases e <;> simp [cmp, scl] at h
  | .scr _, e, _, _, _, _, _, h, _, _, _, _, _, _, _ => by cases e <;> simp [cmp, scl] at h
theorem eqs_dv (I : Inv X pins σ H s) : ∀ (ds es : List Dv) (xs ys : List V) (its jts : List Value) (A : Around), cmps ds es = true → A.units + deps ds < cLine → Reps X.kw H ds xs → Reps X.kw H es ys → Vals xs its → Vals ys jts →
    ∃ k : Nat → Bool, (∀ j (h1 : j < its.length) (h2 : j < jts.length), EqAt A s its[j] jts[j] (k j)) ∧ ((∀ j, j < ds.length → j < es.length → k j = true) ∧ ds.length = es.length ↔ ds = es)
  | [], es, xs, ys, its, jts, A, h, hu, r1, r2, p1, p2 => by
    cases r1.nil_inv
    cases p1
    refine ⟨fun _ => true, fun j h1 _ => absurd h1 (by simp), ?_⟩
    cases es <;> simp
  | d :: ds, [], xs, ys, its, jts, A, h, hu, r1, r2, p1, p2 => by
    cases r2.nil_inv
    cases p2
    exact ⟨fun _ => true, fun j _ h1 => absurd h1 (by simp), by simp⟩
  | d :: ds, e :: es, xs, ys, its, jts, A, h, hu, r1, r2, p1, p2 => by
    obtain ⟨x, xs, rfl, a1, b1⟩ := r1.cons_inv
    obtain ⟨y, ys, rfl, a2, b2⟩ := r2.cons_inv
    cases p1 with
    | cons g1 t1 =>
      cases p2 with
      | cons g2 t2 =>
        simp only [cmps, Bool.and_eq_true] at h
        simp only [deps] at hu
        obtain ⟨k, hk, hks⟩ := eqs_dv I ds es xs ys _ _ A h.2 (by omega) b1 b2 t1 t2
        have hd := eq_dv I d e x y _ _ A h.1 (by omega) a1 a2 g1 g2
        obtain ⟨b, hb⟩ : ∃ b : Bool, b = true ↔ d = e := by
          by_cases z : d = e
          · exact ⟨true, by simp [z]⟩
          · exact ⟨false, by simp [z]⟩
        refine ⟨fun j => match j with | 0 => b | j + 1 => k j, fun j => ?_, ?_⟩
        · cases j with
          | zero => exact fun _ _ => hd b hb
          | succ j => exact fun h1 h2 => hk j (by simpa using h1) (by simpa using h2)
        · rw [List.cons.injEq, ← hks, ← hb]
          constructor
          · rintro ⟨z1, z2⟩
            exact ⟨z1 0 (by simp) (by simp), fun j h1 h2 => z1 (j + 1) (by simpa using h1) (by simpa using h2), by simpa using z2⟩
          · rintro ⟨z0, z1, z2⟩
            refine ⟨fun j => ?_, by simpa using z2⟩
            cases j with
            | zero => exact fun _ _ => z0
            | succ j => exact fun h1 h2 => z1 j (by simpa using h1) (by simpa using h2)
end
end
section
variable {X : Cx}
def tup? : Dv → Bool | .tup _ => true | _ => false
def rV (b : Bool) (K : Kw) : R2 := fun x y H Q => ∃ d e, Rep K H d x ∧ Rep K H e y ∧ cmp d e = true ∧ dep d ≤ 64 ∧ tup? d = true ∧ tup? e = true ∧ ∀ c : Bool, (c = true ↔ d = e) → Q (.bl (if b then c else !c)) H
theorem two_tups {pins : List (Addr × Obj)} {σ : L2.St} {s : Shared} {H : Hp} {d e : Dv} {x y : V} {v u : Value} (I : Inv X pins σ H s) (hu : X.A.units + 65 < cLine) (r1 : Rep X.kw H d x) (r2 : Rep X.kw H e y) (h : cmp d e = true) (hd : dep d ≤ 64) (t1 : tup? d = true) (t2 : tup? e = true)
    (p1 : RelV x v) (p2 : RelV y u) : ∃ (a c : Addr) (its jts : Array Value) (k : Nat → Bool), v = .ref a ∧ u = .ref c ∧ s.heap.IsTuple a its ∧ s.heap.IsTuple c jts ∧ (∀ j (h1 : j < its.size) (h2 : j < jts.size), EqAt X.A.in1 s its[j] jts[j] (k j)) ∧
      (((List.range (min its.size jts.size)).all k && its.size == jts.size) = true ↔ d = e) := by
  cases d <;> first | exact absurd t1 Bool.false_ne_true | skip
  rename_i ds
  cases e <;> first | exact absurd t2 Bool.false_ne_true | skip
  rename_i es
  obtain ⟨a, xs, rfl, q1, rs1⟩ := rep_tup.mp r1
  obtain ⟨c, ys, rfl, q2, rs2⟩ := rep_tup.mp r2
  obtain rfl : v = Value.ref a := p1
  obtain rfl : u = Value.ref c := p2
  simp only [dep] at hd
  obtain ⟨its, va, ta, _⟩ := I.tuple q1.t
  obtain ⟨jts, vb, tb, _⟩ := I.tuple q2.t
  obtain ⟨k, hk, hks⟩ := eqs_dv I ds es xs ys its jts X.A.in1 (by simpa only [cmp] using h) (by show X.A.units + 1 + deps ds < cLine; omega) rs1 rs2 va vb
  refine ⟨a, c, its.toArray, jts.toArray, k, rfl, rfl, ta, tb, fun j h1 h2 => hk j (by simpa using h1) (by simpa using h2), ?_⟩
  rw [Bool.and_eq_true, List.all_eq_true, beq_iff_eq, Dv.tup.injEq]
  have l1 := rs1.length; have l2 := rs2.length; have l3 := va.length; have l4 := vb.length
  simp only [List.size_toArray, List.mem_range]
  constructor
  · rintro ⟨z1, z2⟩
    exact hks.mp ⟨fun j j1 j2 => z1 j (by omega), by omega⟩
  · intro z
    obtain ⟨z1, z2⟩ := hks.mpr z
    exact ⟨fun j hj => z1 j (by omega) (by omega), by omega⟩
theorem op_eqV (hu : X.A.units + 65 < cLine) : OpR X (compareOp .Eq) (rV true X.kw) := by
  intro pins s σ H x y v u Q I rx ry h
  obtain ⟨d, e, r1, r2, hc, hd, t1, t2, q⟩ := h
  obtain ⟨a, c, its, jts, k, rfl, rfl, ta, tb, hk, hb⟩ := two_tups I hu r1 r2 hc hd t1 t2 rx ry
  exact eq_tupleAt (e := k) ta tb (by omega) hk ⟨.bl _, H, I, rfl, by simpa using q _ hb⟩
theorem op_neV (hu : X.A.units + 65 < cLine) : OpR X (compareOp .NotEq) (rV false X.kw) := by
  intro pins s σ H x y v u Q I rx ry h
  obtain ⟨d, e, r1, r2, hc, hd, t1, t2, q⟩ := h
  obtain ⟨a, c, its, jts, k, rfl, rfl, ta, tb, hk, hb⟩ := two_tups I hu r1 r2 hc hd t1 t2 rx ry
  exact RcNeAt.tuples (e := k) ta tb (by omega) hk _ _ _ _ ⟨.bl _, H, I, rfl, by simpa using q _ hb⟩
/-- a tuple, compared with what is none -/
def rUn (K : Kw) : R2 := fun x y H Q => ∃ d e, Rep K H d x ∧ Rep K H e y ∧ cmp d e = true ∧ tup? d ≠ tup? e ∧ Q (.bl true) H
theorem op_neUn (hu : X.A.units < cLine) : OpR X (compareOp .NotEq) (rUn X.kw) := by
  intro pins s σ H x y v u Q I rx ry h
  obtain ⟨d, e, r1, r2, hc, hd, q⟩ := h
  have fin : EP X pins σ Q (.bool true) s := ⟨.bl true, H, I, rfl, q⟩
  have left : ∀ ds, d = .tup ds → wpAny (model X.prog X.w) X.A (compareOp .NotEq v u) (EP X pins σ Q) X.xe s := fun ds ed => by
    subst ed
    obtain ⟨a, xs, rfl, q1, rs1⟩ := rep_tup.mp r1
    obtain rfl : v = Value.ref a := rx
    obtain ⟨its, va, ta, _⟩ := I.tuple q1.t
    cases e with
    | tup es => exact absurd rfl hd
    | non => have z := rep_non.mp r2; subst z; obtain rfl : u = Value.none := ry; exact RcNeAt.tuple_none ta hu _ _ _ _ fin
    | int i => have z := rep_int.mp r2; subst z; obtain ⟨t, rfl⟩ := ry; exact RcNeAt.tuple_int _ _ ta hu _ _ _ _ fin
    | str i => have z := rep_str.mp r2; subst z; obtain ⟨t, rfl⟩ := ry; exact RcNeAt.tuple_str _ _ ta hu _ _ _ _ fin
    | bl i => have z := rep_bl.mp r2; subst z; obtain rfl : u = Value.bool _ := ry; exact RcNeAt.tuple_bool _ ta hu _ _ _ _ fin
    | _ => simp [cmp, scl] at hc
  have right : ∀ es, e = .tup es → wpAny (model X.prog X.w) X.A (compareOp .NotEq v u) (EP X pins σ Q) X.xe s := fun es ed => by
    subst ed
    obtain ⟨a, xs, rfl, q1, rs1⟩ := rep_tup.mp r2
    obtain rfl : u = Value.ref a := ry
    obtain ⟨its, va, ta, _⟩ := I.tuple q1.t
    cases d with
    | tup es => exact absurd rfl hd
    | non => have z := rep_non.mp r1; subst z; obtain rfl : v = Value.none := rx; exact RcNeAt.none_tuple ta hu _ _ _ _ fin
    | int i => have z := rep_int.mp r1; subst z; obtain ⟨t, rfl⟩ := rx; exact RcNeAt.int_tuple _ _ ta hu _ _ _ _ fin
    | str i => have z := rep_str.mp r1; subst z; obtain ⟨t, rfl⟩ := rx; exact RcNeAt.str_tuple _ _ ta hu _ _ _ _ fin
    | bl i => have z := rep_bl.mp r1; subst z; obtain rfl : v = Value.bool _ := rx; exact RcNeAt.bool_tuple _ ta hu _ _ _ _ fin
    | _ => simp [cmp, scl] at hc
  cases d with
  | tup ds => exact left ds rfl
  | _ =>
    cases e with
    | tup es => exact right es rfl
    | _ => exact absurd rfl hd
open Classical in
def gEqV (f : Bool → Bool) : G2 := fun d e S P => cmp d e = true ∧ dep d ≤ 64 ∧ P (.bl (f (decide (d = e)))) S
theorem not_tup : ∀ {d e : Dv}, cmp d e = true → tup? d = false → tup? e = false → scl d e = true := by
  intro d e h h1 h2
  cases d <;> first | exact absurd h1.symm Bool.false_ne_true | skip
  all_goals cases e <;> first | exact absurd h2.symm Bool.false_ne_true | simpa only [cmp] using h
open Classical in
theorem c_neV (hu : X.A.units + 65 < cLine) : OpG X (compareOp .NotEq) (gEqV not) := ⟨_, (op_ne.or (op_neV hu)).or (op_neUn (by omega)), fun d e S P q v u H Q r rv ru hp => by
  obtain ⟨q1, q2, q3⟩ := q
  by_cases t1 : tup? d = true
  · by_cases t2 : tup? e = true
    · refine .inl (.inr ⟨d, e, rv, ru, q1, q2, t1, t2, fun c hc => hp _ _ q3 _ _ .refl r (rep_bl.mpr ?_)⟩)
      have : c = decide (d = e) := by rw [Bool.eq_iff_iff, hc]; simp
      simp [this]
    · refine .inr ⟨d, e, rv, ru, q1, by simp [t1, t2], hp _ _ q3 _ _ .refl r (rep_bl.mpr ?_)⟩
      have : d ≠ e := fun z => by rw [z] at t1; exact t2 t1
      simp [this]
  · by_cases t2 : tup? e = true
    · refine .inr ⟨d, e, rv, ru, q1, by simp [t1, t2], hp _ _ q3 _ _ .refl r (rep_bl.mpr ?_)⟩
      have : d ≠ e := fun z => by rw [z] at t1; exact t1 t2
      simp [this]
    · have hs := not_tup q1 (by simpa using t1) (by simpa using t2)
      obtain ⟨h1, h2⟩ := scl_rep hs rv ru
      refine .inl (.inl ⟨h1, hp _ _ q3 _ _ .refl r (rep_bl.mpr ?_)⟩)
      simp [h2]⟩
open Classical in
theorem c_eqV (hu : X.A.units + 65 < cLine) : OpG X (compareOp .Eq) (fun d e S P => gEqV id d e S P ∧ tup? d = tup? e) := ⟨_, op_eq.or (op_eqV hu), fun d e S P q v u H Q r rv ru hp => by
  obtain ⟨⟨q1, q2, q3⟩, q4⟩ := q
  by_cases t1 : tup? d = true
  · refine .inr ⟨d, e, rv, ru, q1, q2, t1, q4 ▸ t1, fun c hc => hp _ _ q3 _ _ .refl r (rep_bl.mpr ?_)⟩
    have : c = decide (d = e) := by rw [Bool.eq_iff_iff, hc]; simp
    simp [this]
  · have hs := not_tup q1 (by simpa using t1) (by rw [← q4]; simpa using t1)
    obtain ⟨h1, h2⟩ := scl_rep hs rv ru
    refine .inl ⟨h1, hp _ _ q3 _ _ .refl r (rep_bl.mpr ?_)⟩
    simp [h2]⟩
end
end Sb

/-! Values that repr shows, whatever their form: how much they cost, how deep they are. -/
namespace Sb
open PySem PySem.Spec PyProof.Rows L2
mutual
def pok : PyData → Bool
  | .none => true
  | .bool _ => true
  | .int i => decide (i.natAbs.log2 < 1920)
  | .str x => PyData.strOk x
  | .list xs => poks xs
  | .tuple xs => poks xs
  | .dict kvs => poksKv kvs
def poks : List PyData → Bool
  | [] => true
  | x :: xs => pok x && poks xs
def poksKv : List (PyData × PyData) → Bool
  | [] => true
  | (k, v) :: r => pok k && pok v && poksKv r
end
mutual
def pcost : PyData → Nat
  | .none => 4
  | .bool _ => 5
  | .int _ => 2000
  | .str x => 10 * x.length + 2
  | .list xs => pcosts xs + 2
  | .tuple xs => pcosts xs + 2
  | .dict kvs => pcostsKv kvs + 2
def pcosts : List PyData → Nat
  | [] => 0
  | x :: xs => pcost x + 2 + pcosts xs
def pcostsKv : List (PyData × PyData) → Nat
  | [] => 0
  | (k, v) :: r => pcost k + 2 + (pcost v + 2) + pcostsKv r
end
theorem dictText_le (ts : List Str) : (dictText ts).length ≤ piled ts + 2 := by
  have e : (dictText ts).length = 1 + (Str.join ", " ts).length + 1 := by
    show (("{" : Str) ++ Str.join ", " ts ++ ("}" : Str)).length = _
    rw [strLen_append, strLen_append]; rfl
  cases ts with
  | nil => rw [e]; simp [piled_nil]; decide
  | cons t r =>
    have := join_length_add (t :: r) (by simp)
    omega
theorem listText_le (ts : List Str) : (listText ts).length ≤ piled ts + 2 := by
  show (textFrom 0 "[" ts ++ "]").length ≤ _
  rw [strLen_append]
  cases ts with
  | nil => decide
  | cons t r =>
    show (textFrom (0 + 1) _ r).length + _ ≤ _
    rw [textFrom_length_pos _ _ _ (Nat.succ_pos 0), piled_cons, strLen_append, strLen_append]
    show 1 + 0 + t.length + piled r + 1 ≤ _
    omega
mutual
theorem pshown : ∀ x : PyData, pok x = true → x.showable = true ∧ x.shown.length ≤ pcost x
  | .none, _ => ⟨by simp [PyData.showable], by simp only [PyData.shown, pcost]; decide⟩
  | .bool b, _ => ⟨by simp [PyData.showable], by cases b <;> simp only [PyData.shown, pcost] <;> decide⟩
  | .int i, h => by
    simp only [pok, decide_eq_true_eq] at h
    exact ⟨by simpa [PyData.showable] using h, by simp only [PyData.shown, pcost]; exact int_len h⟩
  | .str x, h => by
    simp only [pok] at h
    refine ⟨by simp [PyData.showable], ?_⟩
    simp only [PyData.shown, pcost]
    refine StrLaws.reprText_len x fun c hc => ?_
    unfold PyData.strOk at h
    rw [← Array.all_toList, List.all_eq_true] at h
    have := h c hc
    simp only [decide_eq_true_eq] at this
    omega
  | .list xs, h => by
    simp only [pok] at h
    obtain ⟨a, b⟩ := pshowns xs h
    refine ⟨by simpa [PyData.showable] using a, ?_⟩
    simp only [PyData.shown, pcost]
    have := listText_le (PyData.shownAll xs)
    omega
  | .tuple xs, h => by
    simp only [pok] at h
    obtain ⟨a, b⟩ := pshowns xs h
    refine ⟨by simpa [PyData.showable] using a, ?_⟩
    simp only [PyData.shown, pcost]
    have := fmt_text (PyData.shownAll xs)
    omega
  | .dict kvs, h => by
    simp only [pok] at h
    obtain ⟨a, b⟩ := pshownKv kvs h
    refine ⟨by simpa [PyData.showable] using a, ?_⟩
    simp only [PyData.shown, pcost]
    have := dictText_le (PyData.shownKv kvs)
    omega
theorem pshownKv : ∀ kvs : List (PyData × PyData), poksKv kvs = true → PyData.showableKv kvs = true ∧ piled (PyData.shownKv kvs) ≤ pcostsKv kvs
  | [], _ => by simp [PyData.showableKv, PyData.shownKv, piled_nil, pcostsKv]
  | (k, v) :: r, h => by
    simp only [poksKv, Bool.and_eq_true] at h
    obtain ⟨a1, a2⟩ := pshown k h.1.1
    obtain ⟨b1, b2⟩ := pshown v h.1.2
    obtain ⟨c1, c2⟩ := pshownKv r h.2
    refine ⟨by simp [PyData.showableKv, a1, b1, c1], ?_⟩
    simp only [PyData.shownKv, piled_cons, pcostsKv]
    have e : (k.shown ++ (": " : Str) ++ v.shown).length = k.shown.length + 2 + v.shown.length := by rw [strLen_append, strLen_append]; rfl
    rw [e]
    omega
theorem pshowns : ∀ xs : List PyData, poks xs = true → PyData.showableAll xs = true ∧ piled (PyData.shownAll xs) ≤ pcosts xs
  | [], _ => by simp [PyData.showableAll, PyData.shownAll, piled_nil, pcosts]
  | x :: xs, h => by
    simp only [poks, Bool.and_eq_true] at h
    obtain ⟨a1, a2⟩ := pshown x h.1
    obtain ⟨b1, b2⟩ := pshowns xs h.2
    refine ⟨by simp [PyData.showableAll, a1, b1], ?_⟩
    simp only [PyData.shownAll, piled_cons, pcosts]
    omega
end
/-! ### stores that grow -/
def Ext (S S' : Store) : Prop := ∀ a o, S a = some o → S' a = some o
theorem Ext.refl {S : Store} : Ext S S := fun _ _ h => h
theorem Ext.trans {S S1 S2 : Store} (h : Ext S S1) (k : Ext S1 S2) : Ext S S2 := fun a o e => k a o (h a o e)
theorem Ext.new {S : Store} {p : Addr} {o : O} (h : S p = none) : Ext S (up S p o) := fun a u e => by rw [up_ne (some_ne e h)]; exact e
mutual
theorem datE_mono {f g : Addr → Option PyData} (hf : ∀ a x, f a = some x → g a = some x) : ∀ (d : Dv) (x : PyData), datE f d = some x → datE g d = some x
  | .non, _, h => h
  | .bl _, _, h => h
  | .int _, _, h => h
  | .str _, _, h => h
  | .ty _, _, h => h
  | .scr _, _, h => h
  | .ref a, x, h => hf a x h
  | .tup ds, x, h => by
    obtain ⟨xs, q1, rfl⟩ := Option.map_eq_some_iff.mp (show (datEs f ds).map PyData.tuple = some x from h)
    show (datEs g ds).map PyData.tuple = _
    rw [datEs_mono hf ds xs q1]; rfl
theorem datEs_mono {f g : Addr → Option PyData} (hf : ∀ a x, f a = some x → g a = some x) : ∀ (ds : List Dv) (xs : List PyData), datEs f ds = some xs → datEs g ds = some xs
  | [], _, h => h
  | d :: ds, xs, h => by
    obtain ⟨x, q1, q2⟩ := Option.bind_eq_some_iff.mp (show ((datE f d).bind fun x => (datEs f ds).map fun xs => x :: xs) = some xs from h)
    obtain ⟨ys, q3, rfl⟩ := Option.map_eq_some_iff.mp q2
    show ((datE g d).bind fun x => (datEs g ds).map fun xs => x :: xs) = _
    rw [datE_mono hf d x q1, datEs_mono hf ds ys q3]; rfl
end
theorem resX_ext {S S' : Store} (h : Ext S S') : ∀ (n : Nat) (a : Addr) (x : PyData), resX S n a = some x → resX S' n a = some x
  | 0, _, _, e => by cases (show none = some _ from e)
  | n + 1, a, x, e => by
    unfold resX at e ⊢
    split at e
    · rename_i ds q
      obtain ⟨xs, q1, rfl⟩ := Option.map_eq_some_iff.mp e
      rw [h a _ q]
      simp only [datEs_mono (resX_ext h n) ds xs q1, Option.map_some]
    · rename_i q
      rw [h a _ q]; exact e
    · rename_i kvs q
      obtain ⟨ks, q1, e⟩ := Option.bind_eq_some_iff.mp e
      obtain ⟨vs, q2, rfl⟩ := Option.map_eq_some_iff.mp e
      rw [h a _ q]
      simp only [datEs_mono (resX_ext h n) _ ks q1, datEs_mono (resX_ext h n) _ vs q2, Option.bind_some, Option.map_some]
    · cases e
theorem resX_succ {S : Store} : ∀ (n : Nat) (a : Addr) (x : PyData), resX S n a = some x → resX S (n + 1) a = some x
  | 0, _, _, e => by cases (show none = some _ from e)
  | n + 1, a, x, e => by
    unfold resX at e
    rw [resX]
    split at e
    · rename_i ds q
      obtain ⟨xs, q1, rfl⟩ := Option.map_eq_some_iff.mp e
      simp only [datEs_mono (resX_succ n) ds xs q1, Option.map_some]
    · exact e
    · rename_i kvs q
      obtain ⟨ks, q1, e⟩ := Option.bind_eq_some_iff.mp e
      obtain ⟨vs, q2, rfl⟩ := Option.map_eq_some_iff.mp e
      simp only [datEs_mono (resX_succ n) _ ks q1, datEs_mono (resX_succ n) _ vs q2, Option.bind_some, Option.map_some]
    · cases e
theorem resX_le {S : Store} {n m : Nat} (h : n ≤ m) : ∀ (a : Addr) (x : PyData), resX S n a = some x → resX S m a = some x := by
  induction h with
  | refl => exact fun _ _ e => e
  | step _ ih => exact fun a x e => resX_succ _ a x (ih a x e)
/-- d is shown: lists n deep, at most c signs, D deep -/
def Good (S : Store) (n c D : Nat) (d : Dv) : Prop := ∃ x, datE (resX S n) d = some x ∧ pok x = true ∧ pcost x ≤ c ∧ x.depth ≤ D
def GoodL (S : Store) (n c D : Nat) (ds : List Dv) : Prop := ∃ xs, datEs (resX S n) ds = some xs ∧ poks xs = true ∧ pcosts xs ≤ c ∧ PyData.depthAll xs ≤ D
section
variable {S S' : Store} {n n' c c' D D' : Nat} {d : Dv} {ds es : List Dv} {p : Addr}
theorem Good.mono (h : Good S n c D d) (hS : Ext S S') (hn : n ≤ n') (hc : c ≤ c') (hD : D ≤ D') : Good S' n' c' D' d := by
  obtain ⟨x, e, a, b, k⟩ := h
  exact ⟨x, datE_mono (fun q y z => resX_ext hS _ q y (resX_le hn q y z)) d x e, a, Nat.le_trans b hc, Nat.le_trans k hD⟩
theorem GoodL.mono (h : GoodL S n c D ds) (hS : Ext S S') (hn : n ≤ n') (hc : c ≤ c') (hD : D ≤ D') : GoodL S' n' c' D' ds := by
  obtain ⟨x, e, a, b, k⟩ := h
  exact ⟨x, datEs_mono (fun q y z => resX_ext hS _ q y (resX_le hn q y z)) ds x e, a, Nat.le_trans b hc, Nat.le_trans k hD⟩
theorem GoodL.nil : GoodL S n c D [] := ⟨[], rfl, rfl, Nat.zero_le _, Nat.zero_le _⟩
theorem GoodL.cons (h : Good S n c D d) (k : GoodL S n c' D ds) : GoodL S n (c + 2 + c') D (d :: ds) := by
  obtain ⟨x, e1, a1, b1, k1⟩ := h
  obtain ⟨xs, e2, a2, b2, k2⟩ := k
  refine ⟨x :: xs, ?_, by simp [poks, a1, a2], by simp only [pcosts]; omega, by simp only [PyData.depthAll]; omega⟩
  show ((datE _ d).bind fun x => (datEs _ ds).map fun xs => x :: xs) = _
  rw [e1, e2]; rfl
theorem GoodL.cons_inv (h : GoodL S n c D (d :: ds)) : ∃ c1 c2, c1 + 2 + c2 ≤ c ∧ Good S n c1 D d ∧ GoodL S n c2 D ds := by
  obtain ⟨zs, e, a, b, k⟩ := h
  obtain ⟨x, q1, q2⟩ := Option.bind_eq_some_iff.mp (show ((datE _ d).bind fun x => (datEs _ ds).map fun xs => x :: xs) = some zs from e)
  obtain ⟨xs, q3, rfl⟩ := Option.map_eq_some_iff.mp q2
  simp only [poks, Bool.and_eq_true] at a
  simp only [pcosts] at b
  simp only [PyData.depthAll] at k
  exact ⟨pcost x, pcosts xs, b, ⟨x, q1, a.1, Nat.le_refl _, by omega⟩, ⟨xs, q3, a.2, Nat.le_refl _, by omega⟩⟩
theorem GoodL.append : ∀ {ds : List Dv} {c : Nat}, GoodL S n c D ds → GoodL S n c' D es → GoodL S n (c + c') D (ds ++ es)
  | [], c, _, k => k.mono .refl (Nat.le_refl _) (by omega) (Nat.le_refl _)
  | d :: ds, c, h, k => by
    obtain ⟨c1, c2, hc, h1, h2⟩ := h.cons_inv
    exact (GoodL.cons h1 (GoodL.append h2 k)).mono .refl (Nat.le_refl _) (by omega) (Nat.le_refl _)
theorem GoodL.split : ∀ {ds : List Dv} {c : Nat}, GoodL S n c D (ds ++ es) → ∃ c1 c2, c1 + c2 ≤ c ∧ GoodL S n c1 D ds ∧ GoodL S n c2 D es
  | [], c, h => ⟨0, c, by omega, .nil, h⟩
  | d :: ds, c, h => by
    obtain ⟨a1, a2, ha, h1, h2⟩ := GoodL.cons_inv (show GoodL S n c D (d :: (ds ++ es)) from h)
    obtain ⟨b1, b2, hb, k1, k2⟩ := GoodL.split h2
    exact ⟨a1 + 2 + b1, b2, by omega, GoodL.cons h1 k1, k2⟩
theorem GoodL.take (h : GoodL S n c D ds) (i : Nat) : GoodL S n c D (ds.take i) := by
  rw [← List.take_append_drop i ds] at h
  obtain ⟨c1, c2, hc, h1, _⟩ := h.split
  exact h1.mono .refl (Nat.le_refl _) (by omega) (Nat.le_refl _)
theorem GoodL.drop (h : GoodL S n c D ds) (i : Nat) : GoodL S n c D (ds.drop i) := by
  rw [← List.take_append_drop i ds] at h
  obtain ⟨c1, c2, hc, _, h1⟩ := h.split
  exact h1.mono .refl (Nat.le_refl _) (by omega) (Nat.le_refl _)
/-- ahead of the i-th one, it, and behind it -/
theorem GoodL.at_ {i : Nat} (h : GoodL S n c D ds) (hd : ds[i]? = some d) : ∃ c1 c2 c3, c1 + c2 + 2 + c3 ≤ c ∧ GoodL S n c1 D (ds.take i) ∧ Good S n c2 D d ∧ GoodL S n c3 D (ds.drop (i + 1)) := by
  obtain ⟨hi, rfl⟩ := List.getElem?_eq_some_iff.mp hd
  have e : ds = ds.take i ++ ds[i] :: ds.drop (i + 1) := by
    rw [List.getElem_cons_drop, List.take_append_drop]
  rw [e] at h
  obtain ⟨c1, c2, hc, h1, h2⟩ := h.split
  obtain ⟨c3, c4, hc2, h3, h4⟩ := h2.cons_inv
  exact ⟨c1, c3, c4, by omega, h1, h3, h4⟩
theorem GoodL.mem : ∀ {ds : List Dv} {c : Nat}, GoodL S n c D ds → ∀ d ∈ ds, Good S n c D d
  | [], _, _, _, hm => by cases hm
  | e :: ds, c, h, d, hm => by
    obtain ⟨c1, c2, hc, h1, h2⟩ := h.cons_inv
    rcases List.mem_cons.mp hm with rfl | hm
    · exact h1.mono .refl (Nat.le_refl _) (by omega) (Nat.le_refl _)
    · exact (GoodL.mem h2 d hm).mono .refl (Nat.le_refl _) (by omega) (Nat.le_refl _)
theorem GoodL.len : ∀ {ds : List Dv} {c : Nat}, GoodL S n c D ds → 2 * ds.length ≤ c
  | [], _, _ => by simp
  | d :: ds, c, h => by
    obtain ⟨c1, c2, hc, h1, h2⟩ := h.cons_inv
    have := GoodL.len h2
    simp only [List.length_cons]
    omega
theorem Good.tup (h : GoodL S n c D ds) : Good S n (c + 2) (D + 1) (.tup ds) := by
  obtain ⟨xs, e, a, b, k⟩ := h
  refine ⟨.tuple xs, ?_, by simpa only [pok] using a, by simp only [pcost]; omega, by simp only [PyData.depth]; omega⟩
  show (datEs _ ds).map PyData.tuple = _
  rw [e]; rfl
theorem Good.tup_inv (h : Good S n c D (.tup ds)) : ∃ c' D', c = c' + 2 ∧ D = D' + 1 ∧ GoodL S n c' D' ds := by
  obtain ⟨x, e, a, b, k⟩ := h
  obtain ⟨xs, q, rfl⟩ := Option.map_eq_some_iff.mp (show (datEs _ ds).map PyData.tuple = some x from e)
  simp only [pok] at a
  simp only [pcost] at b
  simp only [PyData.depth] at k
  exact ⟨c - 2, D - 1, by omega, by omega, xs, q, a, by omega, by omega⟩
theorem Good.lst (h : GoodL S n c D ds) (hp : S p = none) : Good (up S p (.lst ds)) (n + 1) (c + 2) (D + 1) (.ref p) := by
  obtain ⟨xs, e, a, b, k⟩ := h.mono (Ext.new (o := .lst ds) hp) (Nat.le_refl _) (Nat.le_refl _) (Nat.le_refl _)
  refine ⟨.list xs, ?_, by simpa only [pok] using a, by simp only [pcost]; omega, by simp only [PyData.depth]; omega⟩
  show resX _ (n + 1) p = _
  rw [resX, up_same]
  simp only [e, Option.map_some]
theorem Good.dct (h : S p = some (.dct [])) (hc : 2 ≤ c) (hD : 1 ≤ D) : Good S (n + 1) c D (.ref p) := by
  refine ⟨.dict [], ?_, rfl, hc, hD⟩
  show resX _ (n + 1) p = _
  rw [resX, h]
theorem pcostsKv_zip : ∀ {ks vs : List PyData}, ks.length = vs.length → pcostsKv (ks.zip vs) = pcosts ks + pcosts vs ∧ poksKv (ks.zip vs) = (poks ks && poks vs) ∧ PyData.depthKv (ks.zip vs) = max (PyData.depthAll ks) (PyData.depthAll vs)
  | [], [], _ => by simp [pcostsKv, pcosts, poksKv, poks, PyData.depthKv, PyData.depthAll]
  | [], _ :: _, h => by simp at h
  | _ :: _, [], h => by simp at h
  | k :: ks, v :: vs, h => by
    obtain ⟨h1, h2, h3⟩ := pcostsKv_zip (ks := ks) (vs := vs) (by simpa using h)
    refine ⟨by simp only [List.zip_cons_cons, pcostsKv, pcosts, h1]; omega, ?_, by simp only [List.zip_cons_cons, PyData.depthKv, PyData.depthAll, h3]; omega⟩
    simp only [List.zip_cons_cons, poksKv, poks, h2]
    cases pok k <;> cases pok v <;> cases poks ks <;> cases poks vs <;> rfl
theorem Good.ndc {kvs : List (Dv × Dv)} {c1 c2 : Nat} (h : S p = some (.ndc kvs)) (g1 : GoodL S n c1 D (kvs.map fun p => p.1)) (g2 : GoodL S n c2 D (kvs.map fun p => p.2)) (hc : c1 + c2 + 2 ≤ c) : Good S (n + 1) c (D + 1) (.ref p) := by
  obtain ⟨ks, e1, a1, b1, k1⟩ := g1
  obtain ⟨vs, e2, a2, b2, k2⟩ := g2
  have l1 := datEs_len e1
  have l2 := datEs_len e2
  obtain ⟨z1, z2, z3⟩ := pcostsKv_zip (ks := ks) (vs := vs) (by simp at l1 l2; omega)
  refine ⟨.dict (ks.zip vs), ?_, by simp only [pok, z2, a1, a2]; rfl, by simp only [pcost, z1]; omega, by simp only [PyData.depth, z3]; omega⟩
  show resX _ (n + 1) p = _
  rw [resX, h]
  simp only [e1, e2, Option.bind_some, Option.map_some]
theorem Good.int {i : Int} (h : i.natAbs.log2 < 1920) (hc : 2000 ≤ c) : Good S n c D (.int i) := ⟨.int i, rfl, by simpa [pok] using h, hc, Nat.zero_le _⟩
theorem Good.bl {b : Bool} (hc : 5 ≤ c) : Good S n c D (.bl b) := ⟨.bool b, rfl, rfl, hc, Nat.zero_le _⟩
theorem Good.non (hc : 4 ≤ c) : Good S n c D .non := ⟨.none, rfl, rfl, hc, Nat.zero_le _⟩
theorem Good.str {x : Str} (h : PyData.strOk x = true) (hc : 10 * x.length + 2 ≤ c) : Good S n c D (.str x) := ⟨.str x, rfl, h, hc, Nat.zero_le _⟩
theorem Good.kn (h : Good S n c D d) (hn : ∀ a kvs, d = .ref a → S a ≠ some (.ndc kvs)) : ∃ t, tn S d = some t := by
  obtain ⟨x, e, _⟩ := h
  cases d with
  | ty m => cases (show none = some x from e)
  | ref a =>
    have e : resX S n a = some x := e
    cases n with
    | zero => cases e
    | succ n =>
      unfold resX at e
      simp only [tn]
      split at e
      · rename_i q; rw [q]; exact ⟨_, rfl⟩
      · rename_i q; rw [q]; exact ⟨_, rfl⟩
      · rename_i kvs z; exact absurd z (hn a kvs rfl)
      · cases e
  | _ => exact ⟨_, rfl⟩
/-- the text -/
def shwX (S : Store) (d : Dv) : Str := match datX S d with | some x => x.shown | none => ""
theorem gReprX_good {P : DK} (h : Good S n c D d) (hn : n ≤ 6) (hc : c ≤ 16777216) (hD : D ≤ 64) : gReprX [d] S P ↔ P (.str (shwX S d)) S := by
  obtain ⟨x, e, a, b, k⟩ := h
  have e : datX S d = some x := datE_mono (resX_le hn) d x e
  obtain ⟨h1, h2⟩ := pshown x a
  simp only [gReprX, shwX, e, h1, szl, true_and]
  exact ⟨fun q => q.2.2, fun q => ⟨by omega, by omega, q⟩⟩
theorem shwX_ext (h : Good S n c D d) (hn : n ≤ 6) (hS : Ext S S') : shwX S' d = shwX S d := by
  obtain ⟨x, e, _⟩ := h
  have e1 : datX S d = some x := datE_mono (resX_le hn) d x e
  have e2 : datX S' d = some x := datE_mono (resX_ext hS 6) d x e1
  simp only [shwX, e1, e2]
end
end Sb

/-! Dict comprehensions over keys of any depth. -/
namespace Sb
open PySem PySem.Spec PyProof.Rows L2
/-- a dict over keys of any depth, filled -/
def fillN {X : Cx} (hu : X.A.units + 64 < cLine) : Fill X where
  emp := fun D => NdO X.w D []
  put := fun H D y z N => ∃ es k, H D = some (NdO X.w D es) ∧ NdK X.K H es ∧ es.length < sizeLine ∧ KeyV X.K H k y ∧ k.depth ≤ 8 ∧ N (upd H D (NdO X.w D (nput es k y z)))
  new := fun H h hb => ndo_empty h hb
  set := @fun s0 H0 scope env fp pins τ H s D y z u r N Q E I ry rz hp hq => by
    obtain ⟨es, k, e, kk, hl, hk, dk, n⟩ := hp
    exact ndr_set (X := X.blk s0 H0 scope env fp) (A := X.A) (by omega) I e kk hl hk dk ry rz fun s' I' => hq _ s' n I'
def dcRun (p : Pat) (tt : DTT) (tk tv : DTE) (δ : DSt) (G : Grd) (D : Addr) (P : DK) : List Dv → Store → Prop
  | [], S => G S ∧ P (.ref D) S
  | x :: xs, S => G S ∧ match pset p x δ with
    | some δ1 => tt δ1 S fun b S2 => if b = true then tk δ1 S2 fun y S3 => tv δ1 S3 fun z S4 => (match S4 D with
        | some (.ndc kvs) => kOk 8 y = true ∧ kvs.length < sizeLine ∧ dcRun p tt tk tv δ G D P xs (up S4 D (.ndc (dput kvs y z)))
        | _ => False) else dcRun p tt tk tv δ G D P xs S2
    | none => False
def dDc (wi : DTI) (p : Pat) (tt : DTT) (tk tv : DTE) (vs : List Nat) : DTE := fun δ S P => wi δ S fun items G S1 => ∀ D, S1 D = none → dcRun p tt tk tv (wipeD δ vs) G D P items (up S1 D (.ndc []))
section
variable {X : Cx} {H0 : Hp}
theorem dc_lift (hu : X.A.units + 64 < cLine) {wi : DTI} {p : Pat} {tt : DTT} {tk tv : DTE} {vs : List Nat} (hv : ∀ i ∈ pslots p, i ∈ vs) : ∀ σ H Q, liftE X.kw H0 (dDc wi p tt tk tv vs) σ H Q → tDcG (fillN hu) (liftI X.kw H0 wi) (gP X.kw p) (liftT X.kw H0 tt) (liftE X.kw H0 tk) (liftE X.kw H0 tv) vs σ H Q := fun σ H Q h => by
  obtain ⟨δ, S, P, w, ht, hp⟩ := h
  refine ⟨δ, S, _, w, ht, fun items G S1 q J H1 k1 r1 sv => fun D hD => ?_⟩
  have q := q D (r1.free hD)
  have hk0 : Keep X.kw H1 (upd H1 D (NdO X.w D [])) := .new hD
  have rl : Rel X.kw (up S1 D (.ndc [])) (upd H1 D (NdO X.w D [])) := r1.laid hD fun own ow => ⟨ow, [], upd_same, rfl⟩
  refine ⟨fun i m H' => m = items.length - i ∧ i ≤ items.length ∧ ∃ S', Keep X.kw H1 H' ∧ Rel X.kw S' H' ∧ dcRun p tt tk tv (wipeD δ vs) G D P (items.drop i) S', ⟨_, rfl, Nat.zero_le _, _, hk0, rl, q⟩, ?_⟩
  rintro i m H2 ⟨rfl, hi, S2, k2, r2, q2⟩
  by_cases hlt : i < items.length
  · rw [List.drop_eq_getElem_cons hlt] at q2
    simp only [dcRun] at q2
    obtain ⟨g, q2⟩ := q2
    obtain ⟨go, yld⟩ := (sv i S2 H2 k2 r2 g).2 items[i] (List.getElem?_eq_getElem hlt)
    refine .inr ⟨go, fun H' => ∃ S', Keep X.kw H1 H' ∧ Rel X.kw S' H' ∧ dcRun p tt tk tv (wipeD δ vs) G D P (items.drop (i + 1)) S', fun H' z => ⟨_, by omega, rfl, hlt, z⟩, fun x H3 y => ?_⟩
    obtain ⟨k3, r3, rx⟩ := yld x H3 y
    cases e : pset p items[i] (wipeD δ vs) with
    | none => rw [e] at q2; exact q2.elim
    | some δ3 =>
      rw [e] at q2
      have w3 : Wd X.kw H0 (wipe σ vs) (wipeD δ vs) S2 H3 := (wd_wipe w vs).keep (k1.trans (k2.trans k3)) r3
      refine pset_ok p _ x _ _ δ3 e rx w3 _ fun σ4 w4 hw4 => ⟨by rw [hw4 vs hv]; exact wipe_sub vs fun _ z => z, δ3, S2, _, w4, q2, fun b S5 q5 H5 k5 r5 => ?_⟩
      cases b with
      | false => exact ⟨S5, k2.trans (k3.trans k5), r5, q5⟩
      | true =>
        refine ⟨δ3, S5, _, w4.keep k5 r5, q5, fun y S6 q6 yv H6 k6 r6 p6 => ⟨δ3, S6, _, w4.keep (k5.trans k6) r6, q6, fun z S7 q7 zv H7 k7 r7 p7 => ?_⟩⟩
        split at q7
        · rename_i kvs e7
          obtain ⟨es, hes, n⟩ := r7.ndc e7
          obtain ⟨k', hk', dk⟩ := kOk_key 8 y q7.1
          have kk := keep_nd (K := X.kw) (o := NdO X.w D (nput es k' yv zv)) hes
          refine ⟨es, k', hes, n.ndk, by rw [n.length]; exact q7.2.1, keyV_of y k' yv hk' (p6.keep k7), dk, _, (k2.trans (k3.trans (k5.trans (k6.trans k7)))).trans kk, ?_, q7.2.2⟩
          exact r7.ndcw e7 hes (n.put hk' dk (p6.keep k7) p7)
        · exact q7.elim
  · have e : i = items.length := by omega
    subst e
    rw [List.drop_length] at q2
    simp only [dcRun] at q2
    exact .inl ⟨(sv _ S2 H2 k2 r2 q2.1).1 rfl, hp _ _ q2.2 _ _ (k1.trans k2) r2 (rep_ref.mpr rfl)⟩
theorem de_dc {kx vx tg iter : Expr} {ifs : List Expr} {scope : Scope} {own : List (Str × Nat)} {pos : Pos} {wi : DTI} {p : Pat} {tt : DTT} {tk tv : DTE} (hu : X.A.units + 64 < cLine) (hc : X.calm = true) (hN : X.N.Nodup) (hi : DI X H0 tg iter wi) (ok : BlkOk X.N X.env.scope scope own)
    (hg : ∀ (s : Shared) (H : Hp) (C : Addr) (cl : List (Str × Addr)) (fp : List Addr), DP (X.blk s H scope (compEnvC scope cl C X.env) fp) tg p)
    (ht : ∀ (s : Shared) (H : Hp) (C : Addr) (cl : List (Str × Addr)) (fp : List Addr), DTs (X.blk s H scope (compEnvC scope cl C X.env) fp) H0 ifs tt)
    (hk : ∀ (s : Shared) (H : Hp) (C : Addr) (cl : List (Str × Addr)) (fp : List Addr), DE (X.blk s H scope (compEnvC scope cl C X.env) fp) H0 kx tk)
    (he : ∀ (s : Shared) (H : Hp) (C : Addr) (cl : List (Str × Addr)) (fp : List Addr), DE (X.blk s H scope (compEnvC scope cl C X.env) fp) H0 vx tv)
    (hv : ∀ i ∈ pslots p, i ∈ own.map (·.2) := by decide) (hs : ∀ x, foldedSetIterable iter X.env x = pure x := by intro _; rfl) :
    DE X H0 (.DictComp kx vx [⟨tg, iter, ifs, 0⟩] scope pos) (dDc wi p tt tk tv (own.map (·.2))) := (pe_dcG (fillN hu) (g := gP X.kw p) (tt := liftT X.kw H0 tt) (tk := liftE X.kw H0 tk) (tv := liftE X.kw H0 tv) hc hN hi ok hg ht hk he hs).to (dc_lift hu hv)
end
end Sb

/-! sorted(xs, key=lambda x: ..), the keys triples of integers. -/
namespace Sb
open PySem PySem.Spec PyProof.Rows L2 LamX
section
variable {K : Kw} {S : Store} {H H1 : Hp} {P c : Addr} {q : Str} {ps : Array Value}
theorem Rel.tab (r : Rel K S H) (e : S P = some (.tab q)) : ∃ ps, Tab H P q ps := by
  obtain ⟨own, _, ps, h1, h2, h3⟩ := r.get e
  exact ⟨ps, h1, h2, fun pos cv hc => let ⟨c, e1, _, e2⟩ := h3 pos cv hc; ⟨c, e1, e2⟩⟩
theorem keep_tbl {o : HO} (h : H P = some (.tbl ps)) : Keep K H (upd H P o) := .upd fun u z => by
  rw [h] at z; cases z
  exact ⟨fun _ q => HO.noConfusion q, fun _ _ q => HO.noConfusion q⟩
theorem LamH.keep (l : LamH H P q ps c H1) (hP : H P = some (.tbl ps)) : Keep K H H1 := by
  cases l with
  | hit => exact .refl
  | new pos hc hcP => exact (keep_tbl hP).trans (.new (by rw [upd_ne hcP]; exact hc))
theorem LamH.rel (l : LamH H P q ps c H1) (r : Rel K S H) (e : S P = some (.tab q)) (hP : H P = some (.tbl ps)) : Rel K S H1 := by
  have kp : Keep K H H1 := l.keep hP
  cases l with
  | hit => exact r
  | new pos hc hcP =>
    have Sc := r.free hc
    obtain ⟨own, o1, o2⟩ := r.ex
    have oc : own c = none := by
      cases z : own c with
      | none => rfl
      | some a => exact absurd hc (o1 c a z).2
    refine ⟨fun b => if b = c then some P else own b, fun b a hb => ?_, fun a o ha => ?_⟩
    · by_cases hbc : b = c
      · subst hbc
        exact ⟨Sc, by rw [upd_same]; simp⟩
      · simp only [hbc, if_false] at hb
        refine ⟨(o1 b a hb).1, ?_⟩
        rw [upd_ne hbc]
        by_cases hbP : b = P
        · rw [hbP, upd_same]; simp
        · rw [upd_ne hbP]; exact (o1 b a hb).2
    · have hac : a ≠ c := fun z => by rw [z, Sc] at ha; cases ha
      by_cases haP : a = P
      · subst haP
        rw [e] at ha; cases ha
        obtain ⟨w, ps', h1, h2, h3⟩ := o2 a _ e
        rw [hP] at h1; cases h1
        refine ⟨by simp only [hac, if_false]; exact w, _, by rw [upd_ne (Ne.symm hcP), upd_same], ?_, fun p' cv hcv => ?_⟩
        · rw [show (ps ++ #[rawInt pos.line, rawInt pos.col, Value.ref c]).toList = ps.toList ++ [rawInt pos.line, rawInt pos.col, .ref c] from by simp]
          exact PySem.TriplesOk_snoc _ _ _ _ h2
        · rw [show (ps ++ #[rawInt pos.line, rawInt pos.col, Value.ref c]).toList = ps.toList ++ [rawInt pos.line, rawInt pos.col, .ref c] from by simp] at hcv
          rcases among_app _ h2 hcv with z | z
          · obtain ⟨c0, e1, e2, e3⟩ := h3 p' cv z
            have n0 : c0 ≠ c := fun z => by rw [z, hc] at e3; cases e3
            have nP : c0 ≠ a := fun z => by rw [z, w] at e2; cases e2
            exact ⟨c0, e1, by simp only [n0, if_false]; exact e2, by rw [upd_ne n0, upd_ne nP]; exact e3⟩
          · exact ⟨c, z, by simp, upd_same⟩
      · have wP : own P = none := (o2 P _ e).mine
        refine (o2 a o ha).frame kp (by simp only [hac, if_false]) (fun b hb => ?_) fun b hb nb => ?_
        · have : b ≠ c := fun z => by rw [z, oc] at hb; cases hb
          simp only [this, if_false]; exact hb
        · have n0 : b ≠ c := fun z => nb (by rw [z]; exact hc)
          have n1 : b ≠ P := fun z => by
            rcases hb with hb | hb
            · exact haP (hb ▸ z)
            · rw [z, wP] at hb; cases hb
          rw [upd_ne n0, upd_ne n1]
end
/-! ### permutations lifted -/
theorem perm_lift {α β : Type} (f : α → β) : ∀ {m n : List β}, m.Perm n → ∀ l : List α, l.map f = n → ∃ l' : List α, l'.Perm l ∧ l'.map f = m := by
  intro m n h
  induction h with
  | nil => exact fun l e => ⟨l, .refl _, e⟩
  | @cons x l1 l2 _ ih =>
    intro l e
    cases l with
    | nil => cases e
    | cons a l =>
      simp only [List.map_cons, List.cons.injEq] at e
      obtain ⟨l', p, e'⟩ := ih l e.2
      exact ⟨a :: l', p.cons a, by simp [e.1, e']⟩
  | swap x y l0 =>
    intro l e
    match l, e with
    | a :: b :: l, e =>
      simp only [List.map_cons, List.cons.injEq] at e
      exact ⟨b :: a :: l, .swap a b l, by simp [e.1, e.2.1, e.2.2]⟩
  | trans _ _ ih1 ih2 =>
    intro l e
    obtain ⟨l2, p2, e2⟩ := ih2 l e
    obtain ⟨l1, p1, e1⟩ := ih1 l2 e2
    exact ⟨l1, p1.trans p2, e1⟩
theorem range_zip {α β : Type} (da : α) (db : β) (as : List α) (bs : List β) (h : as.length = bs.length) : (List.range bs.length).map (fun i => (as.getD i da, bs.getD i db)) = as.zip bs := by
  apply List.ext_getElem
  · simp [h]
  · intro i h1 h2
    simp at h1
    simp [List.getD, h1, h ▸ h1]
theorem range_self {α : Type} (d : α) (as : List α) : (List.range as.length).map (fun i => as.getD i d) = as := by
  apply List.ext_getElem
  · simp
  · intro i h1 h2
    simp at h1
    simp [List.getD, h1]
@[simp] def sortK (P : Addr) (q : Str) (tb : DTE) (Pk : DK) (d : Dv) (S1 : Store) : Prop := match d with
  | .ref a => (match S1 a with
    | some (.lst xs) => S1 P = some (.tab q) ∧ xs.length ≤ 1000000 ∧ ∃ kf : Dv → T3, (∀ x ∈ xs, ∀ N : DK, N (.tup [.int (kf x).1, .int (kf x).2.1, .int (kf x).2.2]) S1 → tb [some x] S1 N) ∧
        ∀ ys : List Dv, ys.Perm xs → ys.Pairwise (fun x y => lex3 (kf y) (kf x) = false) → ∀ p, S1 p = none → Pk (.ref p) (up S1 p (.lst ys))
    | _ => False)
  | _ => False
/-- sorted by the triples kf -/
@[simp] def dSortK (P : Addr) (q : Str) (te tb : DTE) : DTE := fun δ S Pk => te δ S (sortK P q tb Pk)
theorem IsTri.one {h : Heap} {v : Value} {t u : T3} (a : IsTri h v t) (b : IsTri h v u) : t = u := by
  obtain ⟨x, o, t1, t2, t3, n, e, g, _, d⟩ := a
  obtain ⟨y, o', u1, u2, u3, n', e', g', _, d'⟩ := b
  rw [e] at e'; cases e'
  rw [g] at g'; cases g'
  rw [d] at d'
  obtain ⟨a1, a2, a3⟩ := t
  obtain ⟨b1, b2, b3⟩ := u
  simp only [Data.seq.injEq, Array.mk.injEq, List.cons.injEq, Value.int.injEq] at d'
  obtain ⟨⟨⟨p, _⟩, ⟨q, _⟩, ⟨r, _⟩, _⟩, _⟩ := d'
  rw [p, q, r]
theorem rep_tri {X : Cx} {pins : List (Addr × Obj)} {σ : L2.St} {H : Hp} {s : Shared} (I : Inv X pins σ H s) {t : T3} {v : V} {u : Value} (r : Rep X.kw H (.tup [.int t.1, .int t.2.1, .int t.2.2]) v) (rv : RelV v u) : IsTri s.heap u t := by
  obtain ⟨a, xs, rfl, q, rs⟩ := rep_tup.mp r
  obtain rfl : u = Value.ref a := rv
  obtain ⟨its, va, ⟨o, go, oc, n, od⟩, _⟩ := I.tuple q.t
  obtain ⟨y1, z1, rfl, p1, rs⟩ := rs.cons_inv
  obtain ⟨y2, z2, rfl, p2, rs⟩ := rs.cons_inv
  obtain ⟨y3, z3, rfl, p3, rs⟩ := rs.cons_inv
  cases rs.nil_inv
  cases rep_int.mp p1
  cases rep_int.mp p2
  cases rep_int.mp p3
  cases va with
  | cons b1 va =>
    cases va with
    | cons b2 va =>
      cases va with
      | cons b3 va =>
        cases va
        obtain ⟨t1, rfl⟩ := b1
        obtain ⟨t2, rfl⟩ := b2
        obtain ⟨t3, rfl⟩ := b3
        exact ⟨a, o, t1, t2, t3, n, rfl, go, oc, od⟩
open Classical in
/-- a key's triple -/
noncomputable def triV (h : Heap) (v : Value) : T3 := if q : ∃ t, IsTri h v t then q.choose else (0, 0, 0)
theorem triV_is {h : Heap} {v : Value} {t : T3} (q : IsTri h v t) : triV h v = t := by
  have e : ∃ t, IsTri h v t := ⟨t, q⟩
  unfold triV
  rw [dif_pos e]
  exact e.choose_spec.one q
section
variable {X : Cx} {H0 : Hp}
/-- the state while the keys are asked for: n0 the heap's end when sorted began -/
structure Asking (X : Cx) (S : Store) (H2 : Hp) (s2 : Shared) (P c' : Addr) (pos : Pos) (kf : Dv → T3) (xs : List Dv) (ks : List Value) (s : Shared) (H : Hp) : Prop where
  un : Un (frs X.stack) [] H2 H s2.heap s.heap
  hok : HOk X.prog X.w H s.heap
  os : s.os = s2.os
  bare : AllBare s.gens
  keep : Keep X.kw H2 H
  rel : Rel X.kw S H
  own1 : H (s2.heap.objs.size + 1) = none
  own3 : H (s2.heap.objs.size + 3) = none
  there1 : ∃ o, s.heap.get? (s2.heap.objs.size + 1) = some o
  row : ∃ ps1 : Array Value, H P = some (.tbl ps1) ∧ codeAmong pos ps1.toList = some (.ref c')
  keys : ∀ (i : Nat) (k : Value), ks[i]? = some k → ∃ d v, xs[i]? = some d ∧ Rep X.kw H (.tup [.int (kf d).1, .int (kf d).2.1, .int (kf d).2.2]) v ∧ RelV v k
theorem Asking.inv {S : Store} {H2 : Hp} {s2 : Shared} {P c' : Addr} {pos : Pos} {kf : Dv → T3} {xs : List Dv} {ks : List Value} {s : Shared} {H : Hp} {pins : List (Addr × Obj)} {σ : L2.St} (q : Asking X S H2 s2 P c' pos kf xs ks s H) (I : Inv X pins σ H2 s2) : Inv X pins σ H s :=
  I.call' (ch := []) q.os q.un q.hok q.bare fun b hb => absurd hb (by simp)
/-- an object that nothing tracks has changed -/
theorem Asking.touch {S : Store} {H2 : Hp} {s2 : Shared} {P c' : Addr} {pos : Pos} {kf : Dv → T3} {xs : List Dv} {ks : List Value} {s : Shared} {H : Hp} {h' : Heap} {b : Addr} (q : Asking X S H2 s2 P c' pos kf xs ks s H) (hb : H b = none) (new : s2.heap.objs.size ≤ b) (sb : Heap.SameBut b s.heap h')
    (th : ∃ o, h'.get? (s2.heap.objs.size + 1) = some o) : Asking X S H2 s2 P c' pos kf xs ks { s with heap := h' } H := by
  have old : ∀ {a : Addr} {o : Obj}, s2.heap.get? a = some o → a ≠ b := fun e => Nat.ne_of_lt (Nat.lt_of_lt_of_le (Heap.lt_size e) new)
  refine ⟨⟨fun a o e n hf hx => ?_, fun a o e n hf hx => ?_, q.un.free, fun a o e hx => ?_, q.un.tups, q.un.frzs, q.un.tbls⟩, fun a o e => ?_, q.os, q.bare, q.keep, q.rel, q.own1, q.own3, th, q.row, q.keys⟩
  · exact (sb.2 a (old e)).trans (q.un.keep a o e n hf hx)
  · obtain ⟨sl, e1⟩ := q.un.slot a o e n hf hx
    exact ⟨sl, (sb.2 a (old e)).trans e1⟩
  · obtain ⟨o1, e1⟩ := q.un.there a o e hx
    exact ⟨o1, (sb.2 a (old e)).trans e1⟩
  · refine (q.hok a o e).stay (fun c v hc k => (sb.2 c ?_).trans k) (fun _ z => z) fun _ _ z => z
    intro z
    subst z
    rcases hc with hc | hc
    · rw [← hc, hb] at e; cases e
    · rw [hb] at hc; cases hc
theorem de_sortK {e : Expr} {te tb : DTE} {x : Str} {params : Arguments} {body : Expr} {scope : Scope} {lpos p pos kp : Pos} {k : Nat} {P c : Addr} (hgd : X.A.guards = some []) (hr : Room (k + 3) X.A) (TB : TabB X.base X.mg c P) (code : X.env.code = .ref c)
    (Sc : FnScope [x] [x] scope) (defs : defaultsOf params X.env = ([], [])) (bound : ∀ y ∈ scope.names, y.2 ≠ .free) (clo : ∀ cells, cloFrom cells scope.names [] = [])
    (bind : ∀ (q : Str) (cl : List (Str × Addr)) (pm cv ctv u : Value), bindArgs (PySem.W.kla_fn "<lambda>" q params body scope cl pm cv ctv) ⟨[u], []⟩ = pure [(x, u)]) (he : DE X H0 e te)
    (hb : ∀ (A : Around) (outer : List Env) (s : Shared) (H : Hp) (E : XK) (f c' : Addr), A.guards = some [] → Room k (A.deeper (envOfC (X.env.qual ++ "<lambda>") scope s.heap.objs.size f (.ref c'))) →
      DE (cxOf (L2.CX X.prog X.w) X.prog X.w X.K X.mg X.base [x] (X.env.qual ++ "<lambda>") scope f (.ref c') A outer s H E) H body tb)
    (z : X.mg "sorted" = none) (hv : bootBuiltins "sorted" = some (.builtin "sorted") := by decide +kernel) (hg : Gl X "sorted" := by rfl) (h1 : starEach [e] X.env = (false, eval e X.env) :: starEach [] X.env := by rfl)
    (h2 : backTo pos (starEach [e] X.env) = (false, eval e X.env) :: backTo pos (starEach [] X.env) := by rfl) (h3 : (backTo pos (starEach [e] X.env)).any (·.1) = false := by rfl) :
    DE X H0 (.Call (.Name "sorted" p) [e] [⟨some "key", .Lambda params body scope lpos, kp⟩] pos) (dSortK P (X.env.qual ++ "<lambda>") te tb) := by
  refine ⟨fun pins s σ H Q I h => wpAny_Call_Name_kw (ld_blt I hg z hv ?_ (by decide) (by decide))⟩
  obtain ⟨δ, S, Pk, w, ht, hp⟩ := h
  refine PyProof.Rows.callWith_kw (thn ((da_cons he da_nil h1).run pos pins s σ H (fun vs H1 => ∃ d S1 v, vs = [v] ∧ Keep X.kw H H1 ∧ Rel X.kw S1 H1 ∧ Rep X.kw H1 d v ∧ sortK P (X.env.qual ++ "<lambda>") tb Pk d S1) I ⟨δ, S, fun ds S1 => match ds with | [d] => sortK P (X.env.qual ++ "<lambda>") tb Pk d S1 | _ => False, w, ht, ?_⟩) fun us s1 q => ?_) h2 h3
  · intro ds S1 q vs H1 k1 r1 p1
    obtain ⟨d, rfl⟩ : ∃ d, ds = [d] := match ds, q with | [d], _ => ⟨d, rfl⟩
    obtain ⟨v, ws, rfl, pv, pn⟩ := p1.cons_inv
    cases pn.nil_inv
    exact ⟨d, S1, v, rfl, k1, r1, pv, q⟩
  obtain ⟨vs0, H1, I1, rv, d, S1, v0, rfl, k1, r1, p1, q⟩ := q
  unfold sortK at q
  split at q
  · rename_i a
    split at q
    · rename_i xs e0
      obtain ⟨hP, hlen, kf, hkey, hout⟩ := q
      cases rep_ref.mp p1
      obtain ⟨u, rfl, ru⟩ := vals1 rv
      obtain rfl : u = Value.ref a := ru
      obtain ⟨ps, tab⟩ := r1.tab hP
      show wpAny _ _ (evalAll [(do let v ← eval (.Lambda params body scope lpos) X.env; standAt pos; pure v)]) _ _ s1
      refine wpAny_evalAll_cons (wpAny_bind (lam_mk I1 TB code tab defs bound fun f c' pm ctv H2 s2 I2 lam hf nf ff row => wpAny_bind (wpAny_standAt (wpAny_pure (wpAny_evalAll_nil ?_)))))
      show wpAny _ _ (call (.builtin "sorted") [.ref a] [(Str.ofString "key", .ref f)]) _ _ s2
      have k2 : Keep X.kw H1 H2 := lam.keep tab.at_
      have r2 : Rel X.kw S1 H2 := lam.rel r1 hP tab.at_
      obtain ⟨vs, hvs, rs⟩ := r2.lst e0
      obtain ⟨its, va, pl, _⟩ := I2.list (.of hvs)
      have l1 : its.length = xs.length := by rw [← va.length, rs.length]
      rw [clo] at hf
      have nofs : ∀ b, s2.heap.objs.size ≤ b → b ∉ frs X.stack := fun b hb z => (List.mem_cons.mp (I2.stkSub _ z)).elim (fun e => by have l := I2.lt; rw [← e] at l; exact Nat.lt_irrefl _ (Nat.lt_of_lt_of_le l hb)) (I2.nofs hb)
      have old : ∀ b o, s2.heap.get? b = some o → (hAsk (hCopy s2.heap its) (s2.heap.objs.size + 1) its).get? b = some o := fun b o e => hAsk_old (hCopy_old e) (Nat.ne_of_lt (Nat.lt_succ_of_lt (Heap.lt_size e)))
      refine sorted_key pl.isList (by omega) (fun ks s' => ∃ H', Asking X S1 H2 s2 P c' lpos kf xs ks s' H') ⟨H2, Un.kept old, I2.hok.kept old, rfl, I2.bare, .refl, r2, I2.hok.fresh (by omega), I2.hok.fresh (by omega), ⟨_, Heap.get?_push_of_some _ (Heap.get?_push_of_some _ (get?_update_seq (hCopy_at _ _) _))⟩, row, fun i k h => by simp at h⟩ ?_ ?_
      · -- one key
        rintro v ks s' e hv' ⟨H', q⟩ gk
        have I' := q.inv I2
        have hi : ks.length < its.length := (List.getElem?_eq_some_iff.mp hv').1
        obtain ⟨d, hd⟩ : ∃ d, xs[ks.length]? = some d := ⟨_, List.getElem?_eq_getElem (by omega)⟩
        obtain ⟨y, hy, ry⟩ := rs.get hd
        obtain ⟨v', hv2, rv2⟩ := va.get hy
        rw [hv'] at hv2; cases hv2
        have hfun := q.un.keep f _ hf nf ff (by simp)
        obtain ⟨ps1, hP1, row1⟩ := q.row
        obtain ⟨ps2, tab2⟩ := q.rel.tab hP
        have := tab2.at_
        rw [hP1] at this; cases this
        obtain ⟨c2, e2, hc2⟩ := tab2.codes _ _ row1
        cases e2
        have room : Room (k + 1) X.A.in1.in1 := (hr.in1).in1
        have wd : Wd X.kw H' (L2.start [x] [y]) (dstart [x] [d]) S1 H' := wd_start (N := [x]) q.rel (.cons (ry.keep q.keep) .nil)
        refine wpAny_call (codeAny_mono (lam_run1 (E := E0) (t := liftE X.kw H' tb) (Q := fun w H3 => Keep X.kw H' H3 ∧ Rel X.kw S1 H3 ∧ Rep X.kw H3 (.tup [.int (kf d).1, .int (kf d).2.1, .int (kf d).2.2]) w) Sc hfun hc2 (bind _ _ _ _ _ _) room I'.env0.in1.in1 rv2 (fun hr2 => hb X.A.in1.in1 X.stack s' H' E0 f c' hgd hr2)
          ⟨dstart [x] [d], S1, fun e S' => S' = S1 ∧ e = .tup [.int (kf d).1, .int (kf d).2.1, .int (kf d).2.2], wd, hkey d (List.mem_of_getElem? hd) _ ⟨rfl, rfl⟩, fun e S' h v H3 k3 r3 p3 => by obtain ⟨rfl, rfl⟩ := h; exact ⟨k3, r3, p3⟩⟩) fun r s3 hq => ?_)
        cases r with
        | error er => exact let ⟨_, _, _, _, _, _, _, _, _, _, _, _, no⟩ := hq; no.elim
        | ok fl =>
          cases fl with
          | next => exact (show False from hq).elim
          | brk => exact (show False from hq).elim
          | cont => exact (show False from hq).elim
          | ret kv =>
            obtain ⟨yv, H3, os3, bare3, un3, hok3, rkv, kp3, rl3, rp3⟩ := hq
            have stay : ∀ b o, s2.heap.objs.size ≤ b → H' b = none → s'.heap.get? b = some o → s3.heap.get? b = some o := fun b o hb hn e => un3.keep b o e hn (nofs b hb) (by simp)
            obtain ⟨o1, g1⟩ := q.there1
            have g1' := stay _ _ (Nat.le_succ _) q.own1 g1
            have g3' := stay _ _ (by omega) q.own3 gk
            refine ⟨g3'.trans gk.symm, g1'.trans g1.symm, fun h' sb at_ => ⟨H3, ?_⟩⟩
            obtain ⟨more, hP3⟩ := un3.tbls P ps1 hP1
            have q3 : Asking X S1 H2 s2 P c' lpos kf xs (ks ++ [kv]) s3 H3 := {
              un := q.un.trans un3
              hok := hok3
              os := os3.trans q.os
              bare := bare3
              keep := q.keep.trans kp3
              rel := rl3
              own1 := un3.free _ _ g1 q.own1 (by simp)
              own3 := un3.free _ _ gk q.own3 (by simp)
              there1 := ⟨_, g1'⟩
              row := ⟨_, hP3, by rw [Array.toList_append]; exact among_left _ _ row1⟩
              keys := fun i k' hk => by
                by_cases hlt : i < ks.length
                · rw [List.getElem?_append_left hlt] at hk
                  obtain ⟨d', v', h1, h2, h3⟩ := q.keys i k' hk
                  exact ⟨d', v', h1, h2.keep kp3, h3⟩
                · have : i = ks.length := by
                    have := (List.getElem?_eq_some_iff.mp hk).1
                    simp at this
                    omega
                  subst this
                  simp at hk
                  subst hk
                  exact ⟨d, yv, hd, rp3, rkv⟩ }
            exact q3.touch q3.own3 (by omega) sb ⟨o1, (sb.2 _ (fun z => absurd (Nat.add_left_cancel z) (by decide))).trans g1'⟩
      · -- the end
        rintro ks s' ⟨H', q⟩ len
        have I' := q.inv I2
        have tri : ∀ i k', ks[i]? = some k' → ∃ d, xs[i]? = some d ∧ IsTri s'.heap k' (kf d) := fun i k' hk => let ⟨d', v', h1, h2, h3⟩ := q.keys i k' hk; ⟨d', h1, rep_tri I' h2 h3⟩
        refine ⟨fun v u => lex3 (triV s'.heap v) (triV s'.heap u), swo3 _, fun h2 => tri_ready h2 fun v hv => ?_, fun xs' ha hb' srt perm b1 b2 at_ => ?_⟩
        · obtain ⟨i, hi, rfl⟩ := List.getElem_of_mem hv
          obtain ⟨d', h1, t⟩ := tri i _ (List.getElem?_eq_getElem hi)
          rw [triV_is t]; exact t
        · have q1 := q.touch q.own3 (by omega) b1 (let ⟨o, g⟩ := q.there1; ⟨o, (b1.2 _ (fun z => absurd (Nat.add_left_cancel z) (by decide))).trans g⟩)
          obtain ⟨cz, gz⟩ := at_
          have q2 := q1.touch q1.own1 (Nat.le_succ _) b2 ⟨_, gz⟩
          obtain ⟨idx, pidx, eidx⟩ := perm_lift (fun i => (ks.getD i Value.none, its.getD i Value.none)) perm (List.range its.length) (range_zip _ _ _ _ len)
          have inR : ∀ i ∈ idx, i < its.length := fun i hi => List.mem_range.mp (pidx.mem_iff.mp hi)
          have pys : (idx.map fun i => xs.getD i .non).Perm xs := by
            have := pidx.map fun i => xs.getD i .non
            rwa [l1, range_self] at this
          have keyAt : ∀ i ∈ idx, triV s'.heap (ks.getD i .none) = kf (xs.getD i .non) := fun i hi => by
            have h1 : i < ks.length := by rw [len]; exact inR i hi
            obtain ⟨d', e1, t⟩ := tri i _ (List.getElem?_eq_getElem h1)
            rw [List.getD_eq_getElem?_getD, List.getElem?_eq_getElem h1, List.getD_eq_getElem?_getD, e1]
            exact triV_is t
          have sys : (idx.map fun i => xs.getD i .non).Pairwise (fun x y => lex3 (kf y) (kf x) = false) := by
            rw [List.pairwise_map]
            rw [← eidx] at srt
            have srt := List.pairwise_map.mp srt
            exact srt.imp_of_mem fun {i j} hi hj h => by
              simp only [keyAt i hi, keyAt j hj] at h
              exact h
          have repV : ∀ l : List Nat, (∀ i ∈ l, i < its.length) → Reps X.kw H' (l.map fun i => xs.getD i .non) (l.map fun i => vs.getD i .non) ∧ Vals (l.map fun i => vs.getD i .non) (l.map fun i => its.getD i .none) := by
            intro l hl
            induction l with
            | nil => exact ⟨.nil, .nil⟩
            | cons i l ih =>
              obtain ⟨a1, a2⟩ := ih fun j hj => hl j (List.mem_cons_of_mem _ hj)
              have hi := hl i List.mem_cons_self
              obtain ⟨d', hd⟩ : ∃ d, xs[i]? = some d := ⟨_, List.getElem?_eq_getElem (by omega)⟩
              obtain ⟨y, hy, ry⟩ := rs.get hd
              obtain ⟨v', hv2, rv2⟩ := va.get hy
              simp only [List.map_cons, List.getD_eq_getElem?_getD, hd, hy, hv2, Option.getD_some] at a1 a2 ⊢
              exact ⟨.cons (ry.keep q.keep) a1, .cons rv2 a2⟩
          obtain ⟨rep2, val2⟩ := repV idx inR
          have eout : xs'.map (·.2) = idx.map fun i => its.getD i .none := by rw [← eidx, List.map_map]; rfl
          rw [eout] at gz
          generalize hys : (idx.map fun i => xs.getD i .non) = ys at pys sys rep2
          generalize hyv : (idx.map fun i => vs.getD i .non) = yv at rep2 val2
          have ny : ∀ {b : Addr} {o : HO}, H' b = some o → b ≠ s2.heap.objs.size + 1 := fun e z => by rw [z, q.own1] at e; cases e
          have kn : Keep X.kw H' (upd H' (s2.heap.objs.size + 1) (.lst yv)) := .new q.own1
          have un : Un (frs X.stack) [] H2 (upd H' (s2.heap.objs.size + 1) (.lst yv)) s2.heap hb' := ⟨q2.un.keep, q2.un.slot,
            fun b o e n hx => by rw [upd_ne (Nat.ne_of_lt (Nat.lt_succ_of_lt (Heap.lt_size e)))]; exact q2.un.free b o e n hx, q2.un.there,
            fun b zs e => by have e2 := q2.un.tups b zs e; rw [upd_ne (ny e2)]; exact e2, fun b o zs e => by have e2 := q2.un.frzs b o zs e; rw [upd_ne (ny e2)]; exact e2,
            fun b zs e => by obtain ⟨more, e2⟩ := q2.un.tbls b zs e; exact ⟨more, by rw [upd_ne (ny e2)]; exact e2⟩⟩
          have hok : HOk X.prog X.w (upd H' (s2.heap.objs.size + 1) (.lst yv)) hb' := fun b o e => by
            by_cases hbn : b = s2.heap.objs.size + 1
            · subst hbn
              rw [upd_same] at e; cases e
              refine ⟨?_, _, _, val2, gz⟩
              have l2 := rep2.length
              have l3 := pys.length_eq
              have := szl
              show yv.length ≤ sizeLine
              rw [sizeLine_eq]; omega
            · rw [upd_ne hbn] at e
              exact (q2.hok b o e).stay (fun _ _ _ z => z) (fun c hc => by rw [upd_ne (ny hc)]; exact hc) fun c zs hc => by rw [upd_ne (ny hc)]; exact hc
          have J : Inv X pins σ (upd H' (s2.heap.objs.size + 1) (.lst yv)) { s' with heap := hb' } := I2.call' (ch := []) q.os un hok q.bare fun b hb => absurd hb (by simp)
          have rl : Rel X.kw (up S1 (s2.heap.objs.size + 1) (.lst ys)) (upd H' (s2.heap.objs.size + 1) (.lst yv)) := q.rel.laid q.own1 fun own ow => ⟨ow, _, upd_same, rep2.keep kn⟩
          exact ⟨.ref _, _, J, rfl, hp _ _ (hout ys pys sys _ (q.rel.free q.own1)) _ _ (k1.trans (k2.trans (q.keep.trans kn))) rl (rep_ref.mpr rfl)⟩
    · exact q.elim
  · exact q.elim
end
end Sb

/-! The end of a law with one table of code objects; a def whose code object is known. -/
namespace Sb
open PySem PySem.Spec PyProof.Rows L2 LamX
theorem bm_hid {h : Heap} {H : Hp} {mg : Str → Option Value} {P : Addr} (hns : h.Ns mainGlobals mg) (hbm : ∃ (bm : Addr) (ob : Obj), mg "__builtins__" = some (.ref bm) ∧ bm ≠ builtinsNs ∧ h.get? bm = some ob ∧ ob.cls = .type "module" ∧ ob.dict = some builtinsNs ∧ ob.data = .plain)
    (free : ∀ b o, h.get? b = some o → o.data = .plain → H b = none) (hP : ∀ o, h.get? P = some o → o.data ≠ .plain) : (hidT h H).BuiltinsAt mg P := by
  obtain ⟨bm, ob, b1, b2, b3, b4, b5, b6⟩ := hbm
  refine ⟨bm, ob, b1, b2, fun z => ?_, fun z => hP ob (z ▸ b3) b6, hidT_get b3 (free bm ob b3 b6), b4, b5, b6⟩
  obtain ⟨o, es, ep, e, hd, _⟩ := hns
  rw [z, e] at b3
  cases b3
  rw [hd] at b6
  cases b6
theorem law_runT {P : Program} {w : World} {K : PySem.W.Frag} {mg mb : Str → Option Value} {k : Nat} {fa a cT pT : Addr} {fd : FuncData} {x q : Str} {sp : DSp} {s1 : Shared} {vs : List Value} {ns : List Int}
    (KX : K.In s1.heap) (hns : s1.heap.Ns mainGlobals mg) (hbu : s1.heap.Ns builtinsNs mb) (hbb : ∀ x : Str, x ≠ "__name__" → mb x = bootBuiltins x) (hlim : s1.heap.NoLimit) (hg : s1.gens = #[])
    (hT : s1.heap.get? pT = some { cls := .none, data := .fields #[] }) (nT : K.lookup pT = none) (hcd : PySem.W.codeHdIn K cT pT = true)
    (hbm : ∃ (bm : Addr) (ob : Obj), mg "__builtins__" = some (.ref bm) ∧ bm ≠ builtinsNs ∧ s1.heap.get? bm = some ob ∧ ob.cls = .type "module" ∧ ob.dict = some builtinsNs ∧ ob.data = .plain)
    (ha : s1.heap.get? a = some { cls := .type "list", data := .seq vs.toArray }) (hi : IntsAre vs ns) (hl : ns.length ≤ sizeLine) (hr : Room k callerA)
    (F : ∀ base : Heap, K.In base → base.Ns mainGlobals mg → TabB base mg cT pT → DFn P w K mg base k fa fd [x] sp) (hbind : ∀ (s : Shared) (u : Value), BindsTo s fd ⟨[u], []⟩ [(x, u)])
    (hsp : sp [.scr ns] (fun b => if b = pT then some (.tab q) else none) (fun d _ => d = .bl true) X0) :
    codeAny (model P w) callerA (.call (.ref fa) ⟨[.ref a], []⟩) (fun r s' => r = .ok (.ret (.bool true)) ∧ OldK s1.heap s'.heap ∧ s'.os = s1.os ∧ AllBare s'.gens) s1 := by
  have rv := vals_ints hi
  have aP : a ≠ pT := fun z => by
    rw [z, hT] at ha
    cases ha
  obtain ⟨H, hS, hok, hP, hF, hK⟩ : ∃ H : Hp, SqZ ⟨K, w, mg⟩ H a (ns.map V.int) ∧ HOk P w H s1.heap ∧ H pT = some (.tbl #[]) ∧ (∀ b u, H b = some u → (b = pT ∧ u = .tbl #[]) ∨ (b = a ∧ ∃ o xs, u = .frz o (.lst xs))) ∧ (H a ≠ none → K.lookup a = none) := by
    cases hk : K.lookup a with
    | some o =>
      have e := KX a o hk
      rw [ha] at e
      cases e
      refine ⟨fun b => if b = pT then some (.tbl #[]) else none, .inr ⟨_, vs.toArray, _, hk, rfl, rfl, rfl, ?_, by simpa using rv⟩, fun b u z => ?_, if_pos rfl, fun b u z => ?_, fun z => absurd (if_neg aP) z⟩
      · rw [List.size_toArray, hi.length]; exact hl
      · dsimp only at z
        by_cases hb : b = pT
        · subst hb; rw [if_pos rfl] at z; cases z; exact hT
        · rw [if_neg hb] at z; cases z
      · dsimp only at z
        by_cases hb : b = pT
        · rw [if_pos hb] at z; exact .inl ⟨hb, (Option.some.inj z).symm⟩
        · rw [if_neg hb] at z; cases z
    | none =>
      refine ⟨fun b => if b = a then some (.frz { cls := .type "list", data := .seq vs.toArray } (.lst (ns.map V.int))) else if b = pT then some (.tbl #[]) else none, .inl ⟨_, if_pos rfl⟩, fun b u z => ?_, (if_neg (Ne.symm aP)).trans (if_pos rfl), fun b u z => ?_, fun _ => rfl⟩
      · dsimp only at z
        by_cases hb : b = a
        · subst hb; rw [if_pos rfl] at z; cases z
          exact ⟨ha, by rw [List.length_map]; exact hl, vs, _, rv, ha⟩
        · rw [if_neg hb] at z
          by_cases hb2 : b = pT
          · subst hb2; rw [if_pos rfl] at z; cases z; exact hT
          · rw [if_neg hb2] at z; cases z
      · dsimp only at z
        by_cases hb : b = a
        · rw [if_pos hb] at z; exact .inr ⟨hb, _, _, (Option.some.inj z).symm⟩
        · rw [if_neg hb] at z
          by_cases hb2 : b = pT
          · rw [if_pos hb2] at z; exact .inl ⟨hb2, (Option.some.inj z).symm⟩
          · rw [if_neg hb2] at z; cases z
  have free : ∀ b o, s1.heap.get? b = some o → (∀ xs n, o.data ≠ .seq xs n) → o.data ≠ .fields #[] → H b = none := fun b o e n1 n2 => by
    cases z : H b with
    | none => rfl
    | some u =>
      rcases hF b u z with ⟨rfl, _⟩ | ⟨rfl, _⟩
      · rw [hT] at e; cases e; exact absurd rfl n2
      · rw [ha] at e; cases e; exact absurd rfl (n1 _ _)
  have nsB : ∀ {b : Addr} {m : Str → Option Value}, s1.heap.Ns b m → (hidT s1.heap H).Ns b m := fun {b m} ⟨o, es, ep, e, d, r⟩ => ⟨o, es, ep, hidT_get e (free b o e (fun _ _ z => by rw [d] at z; cases z) fun z => by rw [d] at z; cases z), d, r⟩
  have inB : K.In (hidT s1.heap H) := fun b o e => hidT_get (KX b o e) (by
    cases z : H b with
    | none => rfl
    | some u =>
      rcases hF b u z with ⟨rfl, _⟩ | ⟨rfl, _⟩
      · rw [nT] at e; cases e
      · rw [hK (by rw [z]; simp)] at e; cases e)
  have modB : Mod K mg (hidT s1.heap H) := ⟨inB, nsB hns, ⟨mb, nsB hbu, hbb⟩, let ⟨mc, h1, h2⟩ := hlim; ⟨mc, nsB h1, h2⟩⟩
  have gP : mainGlobals ≠ pT := fun z => by
    obtain ⟨o, es, ep, e, hd, _⟩ := hns
    rw [z, hT] at e
    cases e
    cases hd
  have TB : TabB (hidT s1.heap H) mg cT pT := ⟨PySem.W.codeHd_of_K inB hcd, (bm_hid hns hbm (fun b o e d => free b o e (fun _ _ z => by rw [d] at z; cases z) fun z => by rw [d] at z; cases z) fun o e z => by rw [hT] at e; cases e; cases z), gP⟩
  have e0 : Env0 P w K mg (hidT s1.heap H) callerA [] s1 H :=
    ⟨rfl, modB, fun _ _ => of_hidT, Nat.le_of_eq (hidT_size _ _), trivial, fun b hb => absurd (show b ∈ ([] : List Addr) from hb) (by simp), hok, .of_eq hg⟩
  have rel0 : Rel ⟨K, w, mg⟩ (fun b => if b = pT then some (.tab q) else none) H := ⟨fun _ => none, fun _ _ z => absurd z (by simp), fun b o z => by
    by_cases hb : b = pT
    · subst hb
      simp only [if_true, Option.some.injEq] at z
      subst z
      exact ⟨rfl, _, hP, trivial, fun pos cv hc => by simp [codeAmong] at hc⟩
    · simp only [hb, if_false] at z; cases z⟩
  refine codeAny_mono ((F _ inB (nsB hns) TB).run (E := fun _ _ _ => False) (Q := fun v _ => v = .bl true) (us := [.ref a]) (vs := [.ref a]) rfl hr e0 (hbind s1 (.ref a)) (.cons (show RelV (.ref a) (.ref a) from rfl) .nil) rel0 (.cons (rep_scr.mpr ⟨a, rfl, hS⟩) .nil) hsp
    (fun d S' q v H' _ _ rp => by subst q; exact rep_bl.mp rp) px0) fun r s' h => ?_
  cases r with
  | error e => exact let ⟨_, _, _, _, _, _, _, _, _, _, _, _, z⟩ := h; z.elim
  | ok fl =>
    cases fl with
    | ret u =>
      obtain ⟨v, H', os, bare, un, hok', r', q⟩ := h
      obtain rfl : v = .bl true := q
      obtain rfl : u = Value.bool true := r'
      have stay : ∀ b o, b ≠ pT → s1.heap.get? b = some o → s'.heap.get? b = some o := fun b o nb e => by
        cases z : H b with
        | none => exact un.keep b o e z (fun z => absurd (show b ∈ ([] : List Addr) from z) (by simp)) (by simp)
        | some u =>
          rcases hF b u z with ⟨rfl, _⟩ | ⟨rfl, ob, xs, rfl⟩
          · exact absurd rfl nb
          · have e1 := (hok b _ z).1
            have e2 := (hok' b _ (un.frzs b ob _ z)).1
            rw [e] at e1; cases e1
            exact e2
      obtain ⟨more, hP'⟩ := un.tbls pT #[] hP
      have grown : s'.heap.get? pT = some { cls := .none, data := .fields (#[] ++ more) } := hok' pT _ hP'
      refine ⟨rfl, ⟨fun b o e => ?_, fun b o e => ?_⟩, os, bare⟩
      · by_cases hb : b = pT
        · subst hb
          rw [hT] at e; cases e
          exact .inr (.inl ⟨((PySem.W.codeHd_of_K KX hcd).tab hT).isCodeTable, rfl, #[], more, rfl, grown⟩)
        · exact .inl (stay b o hb e)
      · by_cases hb : b = pT
        · subst hb; exact ⟨_, grown⟩
        · exact ⟨o, stay b o hb e⟩
    | _ => exact (show False from h).elim
/-- the goal that k_head leaves, with one table -/
theorem law_walkT {l : PySem.W.OpenLaw} {n k : Nat} {qp : Program} {loose : List Str} {XP : (Str → Option Value) → Heap → Prop} {YP : World → Heap → Prop} {d : DefRec} {K : Params → PySem.W.Frag} {sp : Addr → DSp} {x q : Str} {Z : (Str → Option Value) → Prop}
    (hn : l.most = some n) (hn2 : n ≤ sizeLine) (hdf : d.params.defaults = []) (hr : Room k callerA) (hY : ∀ (w : World) (h : Heap), YP w h → (K w.params).In h) (hZ : ∀ (mg : Str → Option Value) (h : Heap), XP mg h → Z mg)
    (F : ∀ (w : World) (mg : Str → Option Value) (fa : Addr) (h : Heap), YP w h → (K w.params).In h → h.Ns mainGlobals mg → mg d.name = some (.ref fa) → Z mg →
      ∃ (fd : FuncData) (cT pT : Addr), h.get? pT = some { cls := .none, data := .fields #[] } ∧ (K w.params).lookup pT = none ∧ PySem.W.codeHdIn (K w.params) cT pT = true ∧ (∀ (s : Shared) (u : Value), BindsTo s fd ⟨[u], []⟩ [(x, u)]) ∧
        ∀ base : Heap, (K w.params).In base → base.Ns mainGlobals mg → TabB base mg cT pT → DFn l.prog w (K w.params) mg base k fa fd [x] (sp pT))
    (hsp : ∀ (pT : Addr) (ns : List Int), ns.length ≤ n → (∀ z ∈ ns, Builtin.Int.intBits z ≤ 1048576) → sp pT [.scr ns] (fun b => if b = pT then some (.tab q) else none) (fun d _ => d = .bl true) X0) :
    PySem.W.WalkO qp loose XP YP l.row.toRowW d [] (fun f vs => PySem.call f vs) := by
  refine Att.attach_callB hn hdf fun w s0 s1 mg mb fa o pm cd doc a vs ns G Y ho hd hcd hmg hobj hints hlen hbits hg => ?_
  obtain ⟨fd, cT, pT, hT, nT, hc, hb, hF⟩ := F w mg fa _ Y (hY w _ Y) G.T.g hmg (hZ mg _ G.X)
  exact law_runT (hY w _ Y) G.T.g G.T.b G.T.builtins G.T.nolimit hg hT nT hc G.T.bmain hobj hints (Nat.le_trans hlen hn2) hr hF hb (hsp pT ns hlen hbits)
/-- a def whose code object stands at c -/
structure Fun1 (K : PySem.W.Frag) (x qual : Str) (st : Stmt) (f : Addr) (fd : FuncData) (c : Addr) : Prop where
  ex : ∃ (oc : Value) (od : Option Addr) (kV doc pm : Value) (an : Option Addr) (ct : Value) (osl : Array (Option Value)),
    fd = PySem.W.fnOf x qual (defArgs st) (defBody st) (defScope st) .none kV doc pm an (.ref c) ct ∧ K.lookup f = some ⟨oc, od, .func fd, osl⟩ ∧ PySem.W.codeIn K (.ref c) qual = true
  kp : PySem.W.keepIn K (.ref f) = true
theorem Fun1.to {K : PySem.W.Frag} {x qual : Str} {st : Stmt} {f c : Addr} {fd : FuncData} (F : Fun1 K x qual st f fd c) : Fun K x qual st f fd :=
  let ⟨oc, od, kV, doc, pm, an, ct, osl, e, l, k⟩ := F.ex
  ⟨⟨oc, od, kV, doc, pm, an, .ref c, ct, osl, e, l, k⟩, F.kp⟩
theorem fun_mk1 {K : PySem.W.Frag} {x qual : Str} {st : Stmt} {f c : Addr} {oc : Value} {od an : Option Addr} {osl : Array (Option Value)} {kV doc pm ct : Value} (l : K.lookup f = some ⟨oc, od, .func (PySem.W.fnOf x qual (defArgs st) (defBody st) (defScope st) .none kV doc pm an (.ref c) ct), osl⟩)
    (h : PySem.W.codeIn K (.ref c) qual = true) (k : PySem.W.keepIn K (.ref f) = true) : Fun1 K x qual st f (PySem.W.fnOf x qual (defArgs st) (defBody st) (defScope st) .none kV doc pm an (.ref c) ct) c := ⟨⟨oc, od, kV, doc, pm, an, ct, osl, rfl, l, h⟩, k⟩
section
variable {P : Program} {w : World} {K : PySem.W.Frag} {mg : Str → Option Value} {base : Heap}
theorem okD1 {x qual : Str} {c : Addr} {st : Stmt} {f : Addr} {fd : FuncData} {N ps : List Str} {k : Nat} {sp : DSp} {t : DX → DTS} (F : Fun1 K x qual st f fd c) (Sc : FnScope N ps (defScope st)) (len : ∀ ds S Pq Pe, sp ds S Pq Pe → ds.length = ps.length)
    (hbody : ∀ (A : Around) (outer : List Env) (s : Shared) (H : Hp) (Pe : DX) (E : XK), (A.deeper (PyProof.Rows.envOfC qual (defScope st) s.heap.objs.size f (.ref c))).guards = some [] → Room k (A.deeper (PyProof.Rows.envOfC qual (defScope st) s.heap.objs.size f (.ref c))) → PX ⟨K, w, mg⟩ H Pe E →
      DSs (cxOf (CX P w) P w K mg base N qual (defScope st) f (.ref c) A outer s H E) H (defBody st) (t Pe))
    (hsp : ∀ ds S Pq Pe, sp ds S Pq Pe → dsp ⟨K, w, mg⟩ N t ds S Pq Pe) : DFn P w K mg base (k + 1) f fd ps sp := by
  obtain ⟨oc, od, kV, doc, pm, an, ct, osl, rfl, lk, hcd⟩ := F.ex
  refine ⟨len, fun {A outer s H args us vs ds S Pq Pe Q E} hgd hr e0 hb rv rl rs q pv px => ?_⟩
  have hl : vs.length = ps.length := by rw [rs.length]; exact len _ _ _ _ q
  have old : ∀ b o, base.get? b = some o → s.heap.get? b = some o := fun b o e => (e0.bs b o e).1
  have KX := PySem.W.Frag.In.keeps e0.mod.kin old
  have lim := Heap.NoLimit.keeps e0.mod.nolimit old
  generalize hsc : defScope st = scope at *
  have hkind : ∀ y ∈ ps.zip us, scope.names.lookup y.1 = some .local ∨ (scope.names.lookup y.1 = some .cell ∧ ((cellsFrom (s.heap.objs.size + 1) scope.names []).lookup y.1).isSome = true) := by
    intro y hy
    exact (Sc.par y.1 (List.of_mem_zip (b := y.2) hy).1).imp id fun z => ⟨z, PySem.W.cellsFrom_some _ _ _ (.inl z)⟩
  refine codeAny_call_function hr.depth (KX _ _ lk) rfl Sc.co Sc.gen rfl (PySem.W.codeRec_of KX hcd) (hb _ _ _ _ ?_)
  refine wpAny_newFunctionEnv_cells Sc.kind hkind fun env he s1 x1 => ?_
  subst he
  refine ⟨lim.keeps x1.toInCall.keep, codeAny_func ?_⟩
  have body := hbody A outer s H Pe E (guards_deeper hgd) (hr.deeper _) px
  obtain ⟨S0, r0, q0⟩ := hsp ds S Pq Pe q H rl
  have I := inv_start (CX := CX P w) (E := E) Sc hr.hd e0 hl rv x1
  have go := body.run [] s1 (L2.start N vs) H { nx := fun _ H' => Q .non H', rt := Q } I ⟨_, S0, _, wd_start r0 rs, q0, fun δ1 S1 z σ1 H1 k1 w1 => ?_, fun _ _ z => z.elim, fun _ _ z => z.elim, fun d S1 z v H1 k1 r1 p1 => ?_⟩
  · refine wpAny_mono go (fun fl s' hs => ?_) fun e s' hs => hs
    cases fl with
    | ret u => exact let ⟨v, σ', H', J, ru, hq⟩ := hs; (show CE outer P w H s Q u s' from ⟨v, H', J.os, J.bare, J.base, J.hok, ru, hq⟩)
    | next => exact let ⟨σ', H', J, hq⟩ := hs; (show CE outer P w H s Q .none s' from ⟨.non, H', J.os, J.bare, J.base, J.hok, rfl, hq⟩)
    | brk => exact let ⟨_, _, _, z⟩ := hs; (show False from z).elim
    | cont => exact let ⟨_, _, _, z⟩ := hs; (show False from z).elim
  · obtain ⟨S2, r2, z2⟩ := z H1 w1.rel
    exact pv _ S2 z2 _ H1 k1 r2 (rep_non.mpr rfl)
  · obtain ⟨S2, r2, z2⟩ := z H1 r1
    exact pv _ S2 z2 _ H1 k1 r2 p1
end
/-- the table that the laws' lambdas are laid in -/
class TabP where
  p : Addr
structure DefM1 (K : PySem.W.Frag) (C : Addr) (m qual : Str) (st : Stmt) (c : Addr) : Prop where
  ex : ∃ f fd, Fun1 K m qual st f fd c ∧ Meth K C m f
/-! ### list(d) of a dict over keys of any depth -/
theorem paired_back {α β : Type} {R : α → β → Prop} : ∀ {as : List α} {bs : List β} {i : Nat} {b : β}, Paired R as bs → bs[i]? = some b → ∃ a, as[i]? = some a ∧ R a b
  | _, _, _, _, .nil, h => by simp at h
  | _, _, 0, _, .cons r _, h => by simp at h; subst h; exact ⟨_, rfl, r⟩
  | _, _, i + 1, _, .cons _ t, h => by simpa using paired_back (i := i) t (by simpa using h)
section
variable {X : Cx}
theorem call_list_nd (hc : X.calm = true) : CallR X (.type "list") (fun vs H Q => ∃ d es, vs = [V.ref d] ∧ H d = some (NdO X.w d es) ∧ ∀ p, H p = none → Q (.ref p) (upd H p (.lst (es.map fun e => e.2.1)))) := by
  intro pins s σ H vs us Q I r h
  obtain ⟨d, es, rfl, hd, q⟩ := h
  obtain ⟨u, rfl, ru⟩ := vals1 r
  obtain rfl : u = Value.ref d := ru
  obtain ⟨xs, ⟨low, ln, ⟨o, arr, ep, ho, hx, hdt, he⟩, _⟩, pr⟩ := (I.hok d _ hd).1
  have sz : arr.size = xs.length := arr_size he
  refine PySem.W.kdl_call (kdl_raw low hx hdt) (I.ok.hd hc) ho (by rw [sz]; exact ln) fun h' tk acc c kp at_ it => ?_
  refine ⟨.ref s.heap.objs.size, upd H s.heap.objs.size (.lst (es.map fun e => e.2.1)), I.laid kp (Nat.le_refl _) (show ObjOk X.prog X.w _ _ _ (.lst (es.map fun e => e.2.1)) from ⟨?_, acc.toList, c, ?_, ?_⟩), rfl, q _ (I.hok.fresh (Nat.le_refl _))⟩
  · rw [List.length_map, ← pr.nlen]; exact ln
  · have hz : acc.toList.length = acc.size := by simp
    refine vals_of_at (by rw [List.length_map, hz, it.1, sz, pr.nlen]) fun j x w h1 h2 => ?_
    obtain ⟨en, hen, rfl⟩ := it.2 j w (by rw [← Array.getElem?_toList]; exact h2)
    rw [arr_at he] at hen
    obtain ⟨b, hb, rfl⟩ := Option.map_eq_some_iff.mp hen
    obtain ⟨e, hE, r1⟩ := paired_back pr hb
    rw [List.getElem?_map, hE] at h1
    cases h1
    exact r1.2.1
  · rw [Array.toArray_toList]; exact at_
theorem kvn_keys {K : Kw} {H : Hp} : ∀ {kvs : List (Dv × Dv)} {es : NL V V}, KVn K H kvs es → Reps K H (kvs.map (·.1)) (es.map fun e => e.2.1)
  | [], _, h => by cases (show _ = [] from h); exact .nil
  | p :: kvs, _, h => by
    obtain ⟨k, x, y, es', rfl, _, _, r, _, t⟩ := h
    exact .cons r (kvn_keys t)
/-- list(d) -/
@[simp] def gListN : GA := fun ds S P => match ds with
  | [.ref a] => (match S a with | some (.ndc kvs) => ∀ l, S l = none → P (.ref l) (up S l (.lst (kvs.map (·.1)))) | _ => False)
  | _ => False
theorem cg_listN (hc : X.calm = true) : CallG X (.type "list") gListN := ⟨_, call_list_nd hc, fun ds S P q vs H Q r rs hp => by
  unfold gListN at q
  split at q
  · split at q
    · rename_i kvs e
      obtain ⟨v, rfl, rv⟩ := reps1 rs
      obtain ⟨es, hes, n⟩ := r.ndc e
      refine ⟨_, es, by rw [rep_ref.mp rv], hes, fun p hn => ?_⟩
      have kn : Keep X.kw H (upd H p (.lst (es.map fun e => e.2.1))) := .new hn
      exact hp _ _ (q p (r.free hn)) _ _ kn (r.laid hn fun own ow => ⟨ow, _, upd_same, (kvn_keys n).keep kn⟩) (rep_ref.mpr rfl)
    · exact q.elim
  · exact q.elim⟩
end
end Sb

/-! Walks over d.items(), d just made. -/
namespace Sb
open PySem PySem.Spec L2
section
variable {X : Cx} {H0 : Hp} {e : Expr} {td : DTE} {apos cpos tpos : Pos} {elts : List Expr} {kk : Nat}
theorem KVn.pair_at {K : Kw} {H : Hp} : ∀ {kvs : List (Dv × Dv)} {es : NL V V} {i : Nat} {p : Dv × Dv}, KVn K H kvs es → kvs[i]? = some p → ∃ e, es[i]? = some e ∧ Rep K H p.1 e.2.1 ∧ Rep K H p.2 e.2.2
  | [], _, _, _, _, h => by simp at h
  | p :: kvs, _, i, q, n, h => by
    obtain ⟨k, x, y, es', rfl, _, _, h3, h4, h5⟩ := n
    cases i with
    | zero => simp only [List.getElem?_cons_zero, Option.some.injEq] at h; subst h; exact ⟨_, rfl, h3, h4⟩
    | succ j => simp only [List.getElem?_cons_succ] at h ⊢; exact h5.pair_at h
/-- for .. in e.items(): the dict at e stays locked -/
@[simp] def dINi (td : DTE) : DTI := fun δ S P => td δ S fun d S1 => match d with
  | .ref a => (match S1 a with | some (.ndc kvs) => ∀ (od : Obj) (es : NL V V), P (kvs.map fun p => .tup [p.1, p.2]) (fun S => S a = some (.fzn od es kvs)) (up S1 a (.fzn od es kvs)) | _ => False)
  | _ => False
theorem di_itemN (he : DE X H0 e td) (m0 : attributeBase e "items" X.env (eval e X.env) = eval e X.env := by rfl) (m1 : (apos.endLine == cpos.line) = true := by rfl) :
    DI X H0 (.Tuple elts kk tpos) (.Call (.Attribute e "items" apos) [] [] cpos) (dINi td) := (pi_itemN he m0 m1).to fun σ H R h => by
  obtain ⟨δ, S, P, w, ht, hp⟩ := h
  refine ⟨δ, S, _, w, ht, fun d S1 q v H1 k1 r1 p1 => ?_⟩
  split at q
  · rename_i a
    split at q
    · rename_i kvs e0
      obtain ⟨es, ha, n⟩ := r1.ndc e0
      refine ⟨a, es, rep_ref.mp p1, ha, fun o => ?_⟩
      have kn : Keep X.kw H1 (upd H1 a (.frz o (NdO X.w a es))) := keep_nd ha
      refine hp _ _ _ (q o es) _ _ (k1.trans kn) (r1.write (o' := .fzn o es kvs) e0 fun own _ z => ⟨OK1.mine z, upd_same, n.keep kn⟩) fun i S2 H2 k2 r2 g => ?_
      obtain ⟨_, _, ha2, n2⟩ := r2.get g
      refine ⟨fun z => ⟨ha2, by rw [n2.length, z, List.length_map]; exact Nat.le_refl _⟩, fun d hd => ?_⟩
      rw [List.getElem?_map] at hd
      obtain ⟨pr, hpr, rfl⟩ := Option.map_eq_some_iff.mp hd
      obtain ⟨en, hen, rk, rv⟩ := n2.pair_at hpr
      refine ⟨⟨ha2, (List.getElem?_eq_some_iff.mp hen).1⟩, fun x H' y => ?_⟩
      obtain ⟨T, e', ob, rfl, hT, hob, rfl, he'⟩ := y
      rw [hen] at he'; cases he'
      exact ⟨.new hT, r2.new hT, rep_new_tup hob hT (.cons rk (.cons rv .nil))⟩
    · exact q.elim
  · exact q.elim
end
end Sb

/-! sorted(xs, key=f), f a def of the text, the keys triples of integers. -/
namespace Sb
open PySem PySem.Spec PyProof.Rows L2
@[simp] def sortF (sp : DSp) (Pk : DK) (d : Dv) (S1 : Store) : Prop := match d with
  | .ref a => (match S1 a with
    | some (.lst xs) => xs.length ≤ 1000000 ∧ ∃ kf : Dv → T3, (∀ x ∈ xs, ∀ N : DK, N (.tup [.int (kf x).1, .int (kf x).2.1, .int (kf x).2.2]) S1 → sp [x] S1 N X0) ∧
        ∀ ys : List Dv, ys.Perm xs → ys.Pairwise (fun x y => lex3 (kf y) (kf x) = false) → ∀ p, S1 p = none → Pk (.ref p) (up S1 p (.lst ys))
    | _ => False)
  | _ => False
/-- sorted by the triples kf -/
@[simp] def dSortF (sp : DSp) (te : DTE) : DTE := fun δ S Pk => te δ S (sortF sp Pk)
section
variable {X : Cx} {H0 : Hp}
structure AskF (X : Cx) (S : Store) (H2 : Hp) (s2 : Shared) (kf : Dv → T3) (xs : List Dv) (ks : List Value) (s : Shared) (H : Hp) : Prop where
  un : Un (frs X.stack) [] H2 H s2.heap s.heap
  hok : HOk X.prog X.w H s.heap
  os : s.os = s2.os
  bare : AllBare s.gens
  keep : Keep X.kw H2 H
  rel : Rel X.kw S H
  own1 : H (s2.heap.objs.size + 1) = none
  own3 : H (s2.heap.objs.size + 3) = none
  there1 : ∃ o, s.heap.get? (s2.heap.objs.size + 1) = some o
  keys : ∀ (i : Nat) (k : Value), ks[i]? = some k → ∃ d v, xs[i]? = some d ∧ Rep X.kw H (.tup [.int (kf d).1, .int (kf d).2.1, .int (kf d).2.2]) v ∧ RelV v k
theorem AskF.inv {S : Store} {H2 : Hp} {s2 : Shared} {kf : Dv → T3} {xs : List Dv} {ks : List Value} {s : Shared} {H : Hp} {pins : List (Addr × Obj)} {σ : L2.St} (q : AskF X S H2 s2 kf xs ks s H) (I : Inv X pins σ H2 s2) : Inv X pins σ H s :=
  I.call' (ch := []) q.os q.un q.hok q.bare fun b hb => absurd hb (by simp)
/-- an object that nothing tracks has changed -/
theorem AskF.touch {S : Store} {H2 : Hp} {s2 : Shared} {kf : Dv → T3} {xs : List Dv} {ks : List Value} {s : Shared} {H : Hp} {h' : Heap} {b : Addr} (q : AskF X S H2 s2 kf xs ks s H) (hb : H b = none) (new : s2.heap.objs.size ≤ b) (sb : Heap.SameBut b s.heap h')
    (th : ∃ o, h'.get? (s2.heap.objs.size + 1) = some o) : AskF X S H2 s2 kf xs ks { s with heap := h' } H := by
  have old : ∀ {a : Addr} {o : Obj}, s2.heap.get? a = some o → a ≠ b := fun e => Nat.ne_of_lt (Nat.lt_of_lt_of_le (Heap.lt_size e) new)
  refine ⟨⟨fun a o e n hf hx => ?_, fun a o e n hf hx => ?_, q.un.free, fun a o e hx => ?_, q.un.tups, q.un.frzs, q.un.tbls⟩, fun a o e => ?_, q.os, q.bare, q.keep, q.rel, q.own1, q.own3, th, q.keys⟩
  · exact (sb.2 a (old e)).trans (q.un.keep a o e n hf hx)
  · obtain ⟨sl, e1⟩ := q.un.slot a o e n hf hx
    exact ⟨sl, (sb.2 a (old e)).trans e1⟩
  · obtain ⟨o1, e1⟩ := q.un.there a o e hx
    exact ⟨o1, (sb.2 a (old e)).trans e1⟩
  · refine (q.hok a o e).stay (fun c v hc k => (sb.2 c ?_).trans k) (fun _ z => z) fun _ _ z => z
    intro z
    subst z
    rcases hc with hc | hc
    · rw [← hc, hb] at e; cases e
    · rw [hb] at hc; cases hc
theorem de_sortF {e : Expr} {te : DTE} {x : Str} {p pos kp np : Pos} {k j : Nat} {ps : List Str} {sp : DSp} (c : Cal X.prog X.w X.K X.mg X.base j x ps sp) (hgd : X.A.guards = some []) (hr : Room k X.A) (he : DE X H0 e te) (z : X.mg "sorted" = none) (hj : j + 2 ≤ k := by decide) (hg2 : Gl X x := by rfl) (hdb : (x == ("__debug__" : Str)) = false := by decide)
    (hv : bootBuiltins "sorted" = some (.builtin "sorted") := by decide +kernel) (hg : Gl X "sorted" := by rfl) (h1 : starEach [e] X.env = (false, eval e X.env) :: starEach [] X.env := by rfl)
    (h2 : backTo pos (starEach [e] X.env) = (false, eval e X.env) :: backTo pos (starEach [] X.env) := by rfl) (h3 : (backTo pos (starEach [e] X.env)).any (·.1) = false := by rfl) :
    DE X H0 (.Call (.Name "sorted" p) [e] [⟨some "key", .Name x np, kp⟩] pos) (dSortF sp te) := by
  obtain ⟨f, fd, hm, hk, hbi, F⟩ := c.ex
  refine ⟨fun pins s σ H Q I h => wpAny_Call_Name_kw (ld_blt I hg z hv ?_ (by decide) (by decide))⟩
  obtain ⟨δ, S, Pk, w, ht, hp⟩ := h
  refine PyProof.Rows.callWith_kw (thn ((da_cons he da_nil h1).run pos pins s σ H (fun vs H1 => ∃ d S1 v, vs = [v] ∧ Keep X.kw H H1 ∧ Rel X.kw S1 H1 ∧ Rep X.kw H1 d v ∧ sortF sp Pk d S1) I ⟨δ, S, fun ds S1 => match ds with | [d] => sortF sp Pk d S1 | _ => False, w, ht, ?_⟩) fun us s1 q => ?_) h2 h3
  · intro ds S1 q vs H1 k1 r1 p1
    obtain ⟨d, rfl⟩ : ∃ d, ds = [d] := match ds, q with | [d], _ => ⟨d, rfl⟩
    obtain ⟨v, ws, rfl, pv, pn⟩ := p1.cons_inv
    cases pn.nil_inv
    exact ⟨d, S1, v, rfl, k1, r1, pv, q⟩
  obtain ⟨vs0, H1, I1, rv, d, S1, v0, rfl, k1, r1, p1, q⟩ := q
  unfold sortF at q
  split at q
  · rename_i a
    split at q
    · rename_i xs e0
      obtain ⟨hlen, kf, hkey, hout⟩ := q
      cases rep_ref.mp p1
      obtain ⟨u, rfl, ru⟩ := vals1 rv
      obtain rfl : u = Value.ref a := ru
      show wpAny _ _ (evalAll [(do let v ← eval (.Name x np) X.env; standAt pos; pure v)]) _ _ s1
      refine wpAny_evalAll_cons (wpAny_bind (ld_glob I1 hg2 hm (wpAny_bind (wpAny_standAt (wpAny_pure (wpAny_evalAll_nil ?_)))) hdb))
      show wpAny _ _ (call (.builtin "sorted") [.ref a] [(Str.ofString "key", .ref f)]) _ _ s1
      obtain ⟨vs, hvs, rs⟩ := r1.lst e0
      obtain ⟨its, va, pl, _⟩ := I1.list (.of hvs)
      have l1 : its.length = xs.length := by rw [← va.length, rs.length]
      have nofs : ∀ b, s1.heap.objs.size ≤ b → b ∉ frs X.stack := fun b hb z => (List.mem_cons.mp (I1.stkSub _ z)).elim (fun e => by have l := I1.lt; rw [← e] at l; exact Nat.lt_irrefl _ (Nat.lt_of_lt_of_le l hb)) (I1.nofs hb)
      have old : ∀ b o, s1.heap.get? b = some o → (hAsk (hCopy s1.heap its) (s1.heap.objs.size + 1) its).get? b = some o := fun b o e => hAsk_old (hCopy_old e) (Nat.ne_of_lt (Nat.lt_succ_of_lt (Heap.lt_size e)))
      refine sorted_key pl.isList (by omega) (fun ks s' => ∃ H', AskF X S1 H1 s1 kf xs ks s' H') ⟨H1, Un.kept old, I1.hok.kept old, rfl, I1.bare, .refl, r1, I1.hok.fresh (by omega), I1.hok.fresh (by omega), ⟨_, Heap.get?_push_of_some _ (Heap.get?_push_of_some _ (get?_update_seq (hCopy_at _ _) _))⟩, fun i k h => by simp at h⟩ ?_ ?_
      · -- one key
        rintro v ks s' e hv' ⟨H', q⟩ gk
        have I' := q.inv I1
        have hi : ks.length < its.length := (List.getElem?_eq_some_iff.mp hv').1
        obtain ⟨d, hd⟩ : ∃ d, xs[ks.length]? = some d := ⟨_, List.getElem?_eq_getElem (by omega)⟩
        obtain ⟨y, hy, ry⟩ := rs.get hd
        obtain ⟨v', hv2, rv2⟩ := va.get hy
        rw [hv'] at hv2; cases hv2
        have room : Room j X.A.in1.in1 := ((hr.mono hj).in1).in1
        have one := F.len _ _ _ _ (hkey d (List.mem_of_getElem? hd) (fun e S' => S' = S1 ∧ e = .tup [.int (kf d).1, .int (kf d).2.1, .int (kf d).2.2]) ⟨rfl, rfl⟩)
        refine wpAny_call (codeAny_mono (F.run (A := X.A.in1.in1) (outer := X.stack) (s := s') (H := H') (E := E0) (Pe := X0) (us := [v]) (vs := [y]) (Q := fun w H3 => Keep X.kw H' H3 ∧ Rel X.kw S1 H3 ∧ Rep X.kw H3 (.tup [.int (kf d).1, .int (kf d).2.1, .int (kf d).2.2]) w) hgd room I'.env0.in1.in1 (by have bnd := hbi s' [v] I'.kIn (by simpa using one); rwa [List.append_nil] at bnd) (.cons rv2 .nil) q.rel (.cons (ry.keep q.keep) .nil)
          (hkey d (List.mem_of_getElem? hd) (fun e S' => S' = S1 ∧ e = .tup [.int (kf d).1, .int (kf d).2.1, .int (kf d).2.2]) ⟨rfl, rfl⟩) (fun e S' h v H3 k3 r3 p3 => by obtain ⟨rfl, rfl⟩ := h; exact ⟨k3, r3, p3⟩) px0) fun r s3 hq => ?_)
        cases r with
        | error er => exact let ⟨_, _, _, _, _, _, _, _, _, _, _, _, no⟩ := hq; no.elim
        | ok fl =>
          cases fl with
          | next => exact (show False from hq).elim
          | brk => exact (show False from hq).elim
          | cont => exact (show False from hq).elim
          | ret kv =>
            obtain ⟨yv, H3, os3, bare3, un3, hok3, rkv, kp3, rl3, rp3⟩ := hq
            have stay : ∀ b o, s1.heap.objs.size ≤ b → H' b = none → s'.heap.get? b = some o → s3.heap.get? b = some o := fun b o hb hn e => un3.keep b o e hn (nofs b hb) (by simp)
            obtain ⟨o1, g1⟩ := q.there1
            have g1' := stay _ _ (Nat.le_succ _) q.own1 g1
            have g3' := stay _ _ (by omega) q.own3 gk
            refine ⟨g3'.trans gk.symm, g1'.trans g1.symm, fun h' sb at_ => ⟨H3, ?_⟩⟩
            have q3 : AskF X S1 H1 s1 kf xs (ks ++ [kv]) s3 H3 := {
              un := q.un.trans un3
              hok := hok3
              os := os3.trans q.os
              bare := bare3
              keep := q.keep.trans kp3
              rel := rl3
              own1 := un3.free _ _ g1 q.own1 (by simp)
              own3 := un3.free _ _ gk q.own3 (by simp)
              there1 := ⟨_, g1'⟩
              keys := fun i k' hk => by
                by_cases hlt : i < ks.length
                · rw [List.getElem?_append_left hlt] at hk
                  obtain ⟨d', v', h1, h2, h3⟩ := q.keys i k' hk
                  exact ⟨d', v', h1, h2.keep kp3, h3⟩
                · have : i = ks.length := by
                    have := (List.getElem?_eq_some_iff.mp hk).1
                    simp at this
                    omega
                  subst this
                  simp at hk
                  subst hk
                  exact ⟨d, yv, hd, rp3, rkv⟩ }
            exact q3.touch q3.own3 (by omega) sb ⟨o1, (sb.2 _ (fun z => absurd (Nat.add_left_cancel z) (by decide))).trans g1'⟩
      · -- the end
        rintro ks s' ⟨H', q⟩ len
        have I' := q.inv I1
        have tri : ∀ i k', ks[i]? = some k' → ∃ d, xs[i]? = some d ∧ IsTri s'.heap k' (kf d) := fun i k' hk => let ⟨d', v', h1, h2, h3⟩ := q.keys i k' hk; ⟨d', h1, rep_tri I' h2 h3⟩
        refine ⟨fun v u => lex3 (triV s'.heap v) (triV s'.heap u), swo3 _, fun h2 => tri_ready h2 fun v hv => ?_, fun xs' ha hb' srt perm b1 b2 at_ => ?_⟩
        · obtain ⟨i, hi, rfl⟩ := List.getElem_of_mem hv
          obtain ⟨d', h1, t⟩ := tri i _ (List.getElem?_eq_getElem hi)
          rw [triV_is t]; exact t
        · have q1 := q.touch q.own3 (by omega) b1 (let ⟨o, g⟩ := q.there1; ⟨o, (b1.2 _ (fun z => absurd (Nat.add_left_cancel z) (by decide))).trans g⟩)
          obtain ⟨cz, gz⟩ := at_
          have q2 := q1.touch q1.own1 (Nat.le_succ _) b2 ⟨_, gz⟩
          obtain ⟨idx, pidx, eidx⟩ := perm_lift (fun i => (ks.getD i Value.none, its.getD i Value.none)) perm (List.range its.length) (range_zip _ _ _ _ len)
          have inR : ∀ i ∈ idx, i < its.length := fun i hi => List.mem_range.mp (pidx.mem_iff.mp hi)
          have pys : (idx.map fun i => xs.getD i .non).Perm xs := by
            have := pidx.map fun i => xs.getD i .non
            rwa [l1, range_self] at this
          have keyAt : ∀ i ∈ idx, triV s'.heap (ks.getD i .none) = kf (xs.getD i .non) := fun i hi => by
            have h1 : i < ks.length := by rw [len]; exact inR i hi
            obtain ⟨d', e1, t⟩ := tri i _ (List.getElem?_eq_getElem h1)
            rw [List.getD_eq_getElem?_getD, List.getElem?_eq_getElem h1, List.getD_eq_getElem?_getD, e1]
            exact triV_is t
          have sys : (idx.map fun i => xs.getD i .non).Pairwise (fun x y => lex3 (kf y) (kf x) = false) := by
            rw [List.pairwise_map]
            rw [← eidx] at srt
            have srt := List.pairwise_map.mp srt
            exact srt.imp_of_mem fun {i j} hi hj h => by
              simp only [keyAt i hi, keyAt j hj] at h
              exact h
          have repV : ∀ l : List Nat, (∀ i ∈ l, i < its.length) → Reps X.kw H' (l.map fun i => xs.getD i .non) (l.map fun i => vs.getD i .non) ∧ Vals (l.map fun i => vs.getD i .non) (l.map fun i => its.getD i .none) := by
            intro l hl
            induction l with
            | nil => exact ⟨.nil, .nil⟩
            | cons i l ih =>
              obtain ⟨a1, a2⟩ := ih fun j hj => hl j (List.mem_cons_of_mem _ hj)
              have hi := hl i List.mem_cons_self
              obtain ⟨d', hd⟩ : ∃ d, xs[i]? = some d := ⟨_, List.getElem?_eq_getElem (by omega)⟩
              obtain ⟨y, hy, ry⟩ := rs.get hd
              obtain ⟨v', hv2, rv2⟩ := va.get hy
              simp only [List.map_cons, List.getD_eq_getElem?_getD, hd, hy, hv2, Option.getD_some] at a1 a2 ⊢
              exact ⟨.cons (ry.keep q.keep) a1, .cons rv2 a2⟩
          obtain ⟨rep2, val2⟩ := repV idx inR
          have eout : xs'.map (·.2) = idx.map fun i => its.getD i .none := by rw [← eidx, List.map_map]; rfl
          rw [eout] at gz
          generalize hys : (idx.map fun i => xs.getD i .non) = ys at pys sys rep2
          generalize hyv : (idx.map fun i => vs.getD i .non) = yv at rep2 val2
          have ny : ∀ {b : Addr} {o : HO}, H' b = some o → b ≠ s1.heap.objs.size + 1 := fun e z => by rw [z, q.own1] at e; cases e
          have kn : Keep X.kw H' (upd H' (s1.heap.objs.size + 1) (.lst yv)) := .new q.own1
          have un : Un (frs X.stack) [] H1 (upd H' (s1.heap.objs.size + 1) (.lst yv)) s1.heap hb' := ⟨q2.un.keep, q2.un.slot,
            fun b o e n hx => by rw [upd_ne (Nat.ne_of_lt (Nat.lt_succ_of_lt (Heap.lt_size e)))]; exact q2.un.free b o e n hx, q2.un.there,
            fun b zs e => by have e2 := q2.un.tups b zs e; rw [upd_ne (ny e2)]; exact e2, fun b o zs e => by have e2 := q2.un.frzs b o zs e; rw [upd_ne (ny e2)]; exact e2,
            fun b zs e => by obtain ⟨more, e2⟩ := q2.un.tbls b zs e; exact ⟨more, by rw [upd_ne (ny e2)]; exact e2⟩⟩
          have hok : HOk X.prog X.w (upd H' (s1.heap.objs.size + 1) (.lst yv)) hb' := fun b o e => by
            by_cases hbn : b = s1.heap.objs.size + 1
            · subst hbn
              rw [upd_same] at e; cases e
              refine ⟨?_, _, _, val2, gz⟩
              have l2 := rep2.length
              have l3 := pys.length_eq
              have := szl
              show yv.length ≤ sizeLine
              rw [sizeLine_eq]; omega
            · rw [upd_ne hbn] at e
              exact (q2.hok b o e).stay (fun _ _ _ z => z) (fun c hc => by rw [upd_ne (ny hc)]; exact hc) fun c zs hc => by rw [upd_ne (ny hc)]; exact hc
          have J : Inv X pins σ (upd H' (s1.heap.objs.size + 1) (.lst yv)) { s' with heap := hb' } := I1.call' (ch := []) q.os un hok q.bare fun b hb => absurd hb (by simp)
          have rl : Rel X.kw (up S1 (s1.heap.objs.size + 1) (.lst ys)) (upd H' (s1.heap.objs.size + 1) (.lst yv)) := q.rel.laid q.own1 fun own ow => ⟨ow, _, upd_same, rep2.keep kn⟩
          exact ⟨.ref _, _, J, rfl, hp _ _ (hout ys pys sys _ (q.rel.free q.own1)) _ _ (k1.trans (q.keep.trans kn)) rl (rep_ref.mpr rfl)⟩
    · exact q.elim
  · exact q.elim
end
end Sb

/-! sorted(ints), d.clear(), d == {}. -/
namespace Sb
open PySem PySem.Spec PyProof.Rows L2
section
variable {X : Cx}
/-! ### sorted(xs), integers -/
@[simp] def gSortI : GA := fun ds S P => match ds with
  | [.ref a] => (match S a with | some (.lst xs) => ∃ ns : List Int, xs = ns.map Dv.int ∧ ∀ ms : List Int, ms.Perm ns → ms.Pairwise (· ≤ ·) → ∀ l, S l = none → P (.ref l) (up S l (.lst (ms.map Dv.int))) | _ => False)
  | _ => False
theorem reps_ints {K : Kw} {H : Hp} : ∀ {ns : List Int} {vs : List V}, Reps K H (ns.map Dv.int) vs → vs = ns.map V.int
  | [], _, r => r.nil_inv
  | n :: ns, _, r => by
    obtain ⟨y, ys, rfl, p, q⟩ := r.cons_inv
    rw [rep_int.mp p, reps_ints q]; rfl
theorem ints_reps {K : Kw} {H : Hp} : ∀ (ns : List Int), Reps K H (ns.map Dv.int) (ns.map V.int)
  | [] => .nil
  | _ :: ns => .cons (rep_int.mpr rfl) (ints_reps ns)
theorem cg_sortI : CallG X (.builtin "sorted") gSortI := ⟨_, cr_sortedI, fun ds S P q vs H Q r rs hp => by
  unfold gSortI at q
  split at q
  · split at q
    · rename_i xs e
      obtain ⟨ns, rfl, q⟩ := q
      obtain ⟨v, rfl, rv⟩ := reps1 rs
      obtain ⟨ys, hy, ry⟩ := r.lst e
      rw [reps_ints ry] at hy
      exact ⟨_, ns, by rw [rep_ref.mp rv], .of hy, fun ms p h1 h2 hn => hp.lst r (ints_reps ms) (q ms h1 h2) hn⟩
    · exact q.elim
  · exact q.elim⟩
/-! ### d.clear() -/
theorem nil_at {w : World} {h : Heap} {d : Addr} {ep : Nat} (low : (d == sysModules) = false) (x : h.DictRaw d #[] ep) : NAt w h d [] :=
  let ⟨o, ho, hc, hd⟩ := x
  ⟨low, Nat.zero_le _, ⟨o, #[], ep, ho, hc, hd, rfl⟩, fun e z => absurd z (by simp), .nil⟩
theorem pe_nclear {o : Expr} {td : TE} {apos cpos : Pos} (ho : PE X o td) (m0 : attributeBase o "clear" X.env (eval o X.env) = eval o X.env := by rfl) (m1 : (apos.endLine == cpos.line) = true := by rfl) :
    PE X (.Call (.Attribute o "clear" apos) [] [] cpos) (fun σ H Q => td σ H fun x H1 => ∃ a es, x = .ref a ∧ H1 a = some (NdO X.w a es) ∧ Q .non (upd H1 a (NdO X.w a []))) := by
  refine ⟨fun pins s σ H Q I h => ?_⟩
  refine wpAny_Call_method (T := "dict") (id := "dict.clear") m0 rfl m1 F.plainAttrs_dict F.slot_dict_clear F.type_dict_clear (thn (ho.run pins s σ H _ I h) fun u s1 ⟨x, H1, I1, rx, a, es, ex, ha, q⟩ => ?_)
  subst ex
  obtain rfl : u = Value.ref a := rx
  obtain ⟨t1, t2⟩ := look_is I1 (.of ha)
  obtain ⟨o, I2⟩ := I1.lock ha True.intro
  obtain ⟨low, hgd, hx, arr, ep, hdt, hsz, _⟩ := ndo_lock I2 upd_same
  obtain ⟨⟨ys, ⟨_, fit, _⟩, pr⟩, _⟩ := I1.hok a _ ha
  refine ⟨t1, t2, ?_⟩
  show wpAny _ _ (callWith cpos (.builtin "dict.clear") [.ref a] [] []) _ X.xe s1
  exact method_meetsIn F.slot_dict_clear F.entry_dict_clear rfl (PySem.evalArgs_none ⟨rfl, t1, F.args_dict_clear_1 _, _, PySem.meets_dict_clear_raw a, ⟨arr, ep, ⟨o, hgd, hx, hdt⟩, by rw [hsz, ← pr.nlen]; exact fit, fun h' raw sb =>
    ⟨.non, _, ndo_write (t' := s1.toks) I1 ha sb (nil_at low raw) .nil, rfl, q⟩⟩⟩)
/-- d.clear() -/
@[simp] def dNclear (td : DTE) : DTE := fun δ S P => td δ S fun d S1 => match d with
  | .ref a => (match S1 a with | some (.ndc _) => P .non (up S1 a (.ndc [])) | _ => False)
  | _ => False
variable {H0 : Hp} {o : Expr} {td : DTE} {apos cpos : Pos}
theorem de_nclear (ho : DE X H0 o td) (m0 : attributeBase o "clear" X.env (eval o X.env) = eval o X.env := by rfl) (m1 : (apos.endLine == cpos.line) = true := by rfl) : DE X H0 (.Call (.Attribute o "clear" apos) [] [] cpos) (dNclear td) := (pe_nclear ho m0 m1).to fun σ H Q h => by
  obtain ⟨δ, S, P, w, ht, hp⟩ := h
  refine ⟨δ, S, _, w, ht, fun d S1 q x H1 k1 r1 p1 => ?_⟩
  split at q
  · split at q
    · rename_i a _ kvs e
      obtain ⟨es, ha, n⟩ := r1.ndc e
      exact ⟨a, es, rep_ref.mp p1, ha, hp _ _ q _ _ (k1.trans (keep_nd ha)) (r1.ndcw e ha (show KVn _ _ [] [] from rfl)) (rep_non.mpr rfl)⟩
    · exact q.elim
  · exact q.elim
/-! ### d == {}, d != {} -/
theorem same_nil {prog : Program} {w : World} {A : Around} {E : Value → Shared → Prop} {s : Shared} {nm : String} {a b : Addr} {es : Array DictEntry} {e1 e2 : Nat} {Q : Bool → Shared → Prop} (ha : (a == sysModules) = false) (hb : (b == sysModules) = false)
    (da : s.heap.DictRaw a es e1) (db : s.heap.DictRaw b #[] e2) (h : Q (es.size == 0) s) : wpAny (model prog w) A (Builtin.Dict.samePairs nm a b) Q E s := by
  obtain ⟨oa, ga, _, xa⟩ := da
  obtain ⟨ob, gb, _, xb⟩ := db
  unfold Builtin.Dict.samePairs Builtin.Dict.showsAll
  rw [if_neg (by rw [ha]; exact Bool.false_ne_true), if_neg (by rw [hb]; exact Bool.false_ne_true)]
  refine wpAny_bind (wpAny_pure (wpAny_bind (wpAny_pure (wpAny_bind (wpAny_dictEntries ga xa ?_)))))
  dsimp only
  refine wpAny_bind (wpAny_dictEntries gb xb ?_)
  by_cases z : es.size = 0
  · rw [if_neg (by rw [z]; decide)]
    refine wpAny_bind (wpAny_dictEpoch ga xa ?_)
    rw [z] at h ⊢
    refine wpAny_bind ?_
    rw [Std.Legacy.Range.forIn_eq_forIn_range']
    simp only [Std.Legacy.Range.size, Nat.sub_zero, Nat.add_sub_cancel, Nat.div_one, List.range'_zero, List.forIn_nil]
    exact wpAny_pure (wpAny_pure h)
  · rw [if_pos (by simpa using z)]
    have zb : (es.size == 0) = false := by simpa using z
    rw [zb] at h
    exact wpAny_bind (wpAny_rule (wpAny_pure h))
theorem nd_raw {pins : List (Addr × Obj)} {σ : L2.St} {H : Hp} {s : Shared} {a : Addr} {es : NL V V} (I : Inv X pins σ H s) (ha : H a = some (NdO X.w a es)) : (a == sysModules) = false ∧ ∃ arr ep, s.heap.DictRaw a arr ep ∧ arr.size = es.length := by
  obtain ⟨o, I2⟩ := I.lock ha True.intro
  obtain ⟨low, hgd, hx, arr, ep, hdt, hsz, _⟩ := ndo_lock I2 upd_same
  exact ⟨low, arr, ep, ⟨o, hgd, hx, hdt⟩, hsz⟩
@[simp] def gNdE (f : Bool → Bool) : G2 := fun d e S P => match d, e with
  | .ref a, .ref b => (match S a, S b with | some (.ndc kvs), some (.ndc []) => P (.bl (f kvs.isEmpty)) S | _, _ => False)
  | _, _ => False
def rNdE (w : World) (f : Bool → Bool) : R2 := fun x y H Q => ∃ a b es, x = .ref a ∧ y = .ref b ∧ H a = some (NdO w a es) ∧ H b = some (NdO w b []) ∧ Q (.bl (f es.isEmpty)) H
theorem o_ndNe (hu : X.A.units < cLine) : OpR X (compareOp .NotEq) (rNdE X.w not) := by
  intro pins s σ H x y v u Q I rx ry h
  obtain ⟨a, b, es, rfl, rfl, qa, qb, q⟩ := h
  obtain rfl : v = Value.ref a := rx
  obtain rfl : u = Value.ref b := ry
  obtain ⟨la, aa, ea, ra, za⟩ := nd_raw I qa
  obtain ⟨lb, ab, eb, rb, zb⟩ := nd_raw I qb
  have : ab = #[] := Array.size_eq_zero_iff.mp zb
  subst this
  show wpAny _ _ (richCompare .NotEq _ _) _ _ _
  refine wpAny_richCompare_same_room (op := .NotEq) ra.typeIs rb.typeIs PySem.F.slot_dict_ne (wpAny_call_entry PySem.F.slot_dict_ne ra.typeIs PySem.F.entry_dict_ne ?_ (PySem.F.args_dict_ne_2 _ _)) hu
  show wpAny _ _ (Builtin.Dict.dictSlotArgs "__ne__" ⟨[.ref a, .ref b], []⟩ >>= _) _ _ s
  refine wpAny_bind ?_
  unfold Builtin.Dict.dictSlotArgs
  refine wpAny_bind (wpAny_notOrdered_dict ra.typeIs ?_)
  show wpAny _ _ (pure (Value.ref a, Value.ref b)) _ _ s
  refine wpAny_pure (wpAny_bind (wpAny_isInstance (T := "dict") rb.typeIs PySem.F.sub_dict_dict ?_))
  simp only [Bool.not_true, Bool.false_eq_true, if_false]
  refine wpAny_bind (wpAny_pure (wpAny_bind (wpAny_pure (wpAny_bind (same_nil la lb ra rb (wpAny_pure ⟨_, rfl, (fun x => nomatch x), ?_⟩))))))
  refine ⟨.bl (!es.isEmpty), H, I, ?_, q⟩
  show Value.bool _ = Value.bool _
  rw [za]
  cases es <;> rfl
theorem c_ndNe (hu : X.A.units < cLine) : OpG X (compareOp .NotEq) (gNdE not) := ⟨_, o_ndNe hu, fun d e S P q v u H Q r rv ru hp => by
  unfold gNdE at q
  split at q
  · split at q
    · rename_i a b kvs e1 e2
      obtain ⟨xs, ha, n⟩ := r.ndc e1
      obtain ⟨ys, hb, n2⟩ := r.ndc e2
      have : ys = [] := n2
      subst this
      refine ⟨_, _, xs, rep_ref.mp rv, rep_ref.mp ru, ha, hb, hp _ _ q _ _ .refl r (rep_bl.mpr ?_)⟩
      have := n.length
      cases xs <;> cases kvs <;> simp_all
    · exact q.elim
  · exact q.elim⟩
end
end Sb

/-! len(x) of an object whose class has __len__. -/
namespace Sb
open PySem PySem.Spec PyProof.Rows L2
section
variable {X : Cx} {k j : Nat} {c : Str} {ps : List Str} {sp : DSp}
@[simp] def gLenO (c : Str) (sp : DSp) : GA := fun ds S P => match ds with
  | [d] => isObj c "__len__" d S ∧ sp [d] S (fun e S' => ∃ n : Nat, e = .int (n : Nat) ∧ n < 1000000 ∧ P (.int (n : Nat)) S') X0
  | _ => False
theorem cg_lenO (cm : CalM X.prog X.w X.K X.mg X.base j c "__len__" ps sp) (hgd : X.A.guards = some []) (hr : Room k X.A) (hj : j + 2 ≤ k := by decide) : CallG X (.builtin "len") (gLenO c sp) := by
  obtain ⟨C, f, fd, kc, hm, hb, F⟩ := cm.ex
  refine ⟨fun vs H Q => ∃ ds S P, Rel X.kw S H ∧ Reps X.kw H ds vs ∧ PV X.kw H P Q ∧ gLenO c sp ds S P, ?_, fun ds S P q vs H Q r rs hp => ⟨ds, S, P, r, rs, hp, q⟩⟩
  intro pins s σ H vs us Q I rv h
  obtain ⟨ds, S, P, rl, rs, hp, q⟩ := h
  obtain ⟨d, rfl⟩ : ∃ d, ds = [d] := by
    unfold gLenO at q
    split at q
    · exact ⟨_, rfl⟩
    · exact q.elim
  obtain ⟨io, q⟩ := q
  obtain ⟨v, rfl, r1⟩ := reps1 rs
  obtain ⟨a, dx, ys, rfl, hx, l⟩ := obj_at kc io rl r1
  obtain ⟨u, rfl, ru⟩ := vals1 rv
  obtain rfl : u = Value.ref a := ru
  obtain ⟨mA, O, _⟩ := ins_get I.hok hx
  obtain ⟨od, II, _⟩ := O.look
  refine Calls.call_function_entry kind_len plain_len entry_len (args_len1 _) ?_
  unfold Builtin.«len»
  refine wpAny_bind (m := oneArg "len" _) (wpAny_pure (wpAny_bind (m := callSpecial? (.ref a) (Str.ofString "__len__")) ?_))
  unfold callSpecial? specialOf
  refine wpAny_bind (wpAny_bind (II.type.here ((PySem.W.looks_findIn I.kIn hm.at_).here ?_)))
  refine wpAny_holding (wpAny_bind ((PySem.W.bind_fn I.kIn _ (beq_iff_eq.mp hm.fn)).here ?_))
  have hl := F.len _ _ _ _ q
  have room : Room j X.A.in1 := Room.in1 (hr.mono (show j + 1 ≤ k by omega))
  have bnd := hb s [.ref a] I.kIn hl
  rw [List.append_nil] at bnd
  have go : wpAny (model X.prog X.w) X.A.in1 (call (.ref f) [.ref a]) (EP X pins σ (fun w H3 => ∃ n : Nat, w = .int (n : Nat) ∧ n < 1000000 ∧ Q (.int (n : Nat)) H3)) X.xe s := by
    refine wpAny_call (codeAny_mono (F.run (A := X.A.in1) (outer := X.stack) (s := s) (H := H) (E := E0) (Pe := X0) (us := [.ref a]) (vs := [.ref a]) (Q := fun w H3 => ∃ n : Nat, w = .int (n : Nat) ∧ n < 1000000 ∧ Q (.int (n : Nat)) H3) hgd room I.env0.in1 bnd (.cons rfl .nil) rl (.cons r1 .nil) q
      (fun e S' h v H3 k3 r3 p3 => by obtain ⟨n, rfl, hn, h⟩ := h; exact ⟨n, rep_int.mp p3, hn, hp _ _ h _ _ k3 r3 (rep_int.mpr rfl)⟩) px0) fun r s3 hq => ?_)
    cases r with
    | error er => exact let ⟨_, _, _, _, _, _, _, _, _, _, _, _, no⟩ := hq; no.elim
    | ok fl =>
      cases fl with
      | ret u => exact I.after hq
      | _ => exact (show False from hq).elim
  show wpAny _ _ (call (.ref f) [.ref a] >>= fun z => pure (some z)) _ _ s
  refine wpAny_bind (wpAny_mono go (fun u s' hq => ?_) fun _ _ z => z)
  obtain ⟨w, H3, I3, rw3, n, rfl, hn, hq⟩ := hq
  obtain ⟨t, rfl⟩ := rw3
  refine wpAny_pure (wpAny_bind (wpAny_holding (wpAny_pure (wpAny_bind (wpAny_letGo ?_)))))
  show wpAny _ _ (if ((n : Nat) : Int) < 0 then _ else _) _ _ _
  rw [if_neg (by omega)]
  show wpAny _ _ (if ((n : Nat) : Int) ≥ 2 ^ 63 then _ else _) _ _ _
  rw [if_neg (by omega)]
  exact wpAny_bind (wpAny_mkInt (wpAny_pure ⟨_, rfl, V.int n, H3, I3.tok _, ⟨_, rfl⟩, hq⟩))
end
end Sb

/-! list(d.items()), list(d) of a plain dict. -/
namespace Sb
open PySem PySem.Spec PyProof.Rows L2
theorem News.ok {K : Kw} {H H2 : Hp} {L : List (Addr × List V)} (h : News H L H2) : Keep K H H2 ∧ ∀ S, Rel K S H → Rel K S H2 := by
  induction h with
  | nil => exact ⟨.refl, fun _ r => r⟩
  | cons h0 hob _ ih => exact ⟨(Keep.new h0).trans ih.1, fun S r => ih.2 S (r.new h0)⟩
theorem News.reps {K : Kw} : ∀ {kvs : List (Dv × Dv)} {es : NL V V} {L : List (Addr × List V)} {H H2 : Hp}, News H L H2 → L.map (·.2) = es.map (fun e => [e.2.1, e.2.2]) → KVn K H kvs es → Reps K H2 (kvs.map fun p => Dv.tup [p.1, p.2]) (L.map fun t => V.ref t.1)
  | [], es, L, H, H2, ns, e, n => by
    obtain rfl : es = [] := n
    cases ns with
    | nil => exact .nil
    | cons _ _ _ => simp at e
  | p :: kvs, es, L, H, H2, ns, e, n => by
    obtain ⟨k, x, y, es', rfl, _, _, h3, h4, h5⟩ := n
    cases ns with
    | nil => simp at e
    | cons h0 hob rest =>
      simp only [List.map_cons, List.cons.injEq] at e
      obtain ⟨rfl, e⟩ := e
      exact .cons ((rep_new_tup hob h0 (.cons h3 (.cons h4 .nil))).keep rest.ok.1) (News.reps rest e (h5.keep (.new h0)))
section
variable {X : Cx} {H0 : Hp} {e : Expr} {td : DTE} {p pos apos cpos : Pos}
/-- list(e.items()) -/
@[simp] def dLstItems (td : DTE) : DTE := fun δ S P => td δ S fun d S1 => match d with
  | .ref a => (match S1 a with | some (.ndc kvs) => ∀ l, S1 l = none → P (.ref l) (up S1 l (.lst (kvs.map fun p => Dv.tup [p.1, p.2]))) | _ => False)
  | _ => False
theorem de_lstItems (hc : X.calm = true) (hg : Gl X "list") (z : X.mg "list" = none) (he : DE X H0 e td) (m0 : attributeBase e "items" X.env (eval e X.env) = eval e X.env := by rfl) (m1 : (apos.endLine == cpos.line) = true := by rfl)
    (na : starEach [.Call (.Attribute e "items" apos) [] [] cpos] X.env = (false, eval (.Call (.Attribute e "items" apos) [] [] cpos) X.env) :: starEach [] X.env := by rfl)
    (hpl : (backTo pos (starEach [] X.env)).any (·.1) = false := by rfl) : DE X H0 (.Call (.Name "list" p) [.Call (.Attribute e "items" apos) [] [] cpos] [] pos) (dLstItems td) :=
  (pe_callTy (call_listV hc) hg z (by decide +kernel) (pa_cons (pe_viewN he m0 m1) pa_nil na) (by decide) (by decide) na hpl).to fun σ H Q h => by
    obtain ⟨δ, S, P, w, ht, hp⟩ := h
    refine ⟨δ, S, _, w, ht, fun d S1 q x H1 k1 r1 p1 => ?_⟩
    split at q
    · rename_i a
      split at q
      · rename_i kvs e0
        obtain ⟨es, ha, n⟩ := r1.ndc e0
        refine ⟨a, es, rep_ref.mp p1, ha, fun p hn => ⟨p, a, es, rfl, upd_same, by rw [upd_ne (fun z => by rw [z, hn] at ha; cases ha)]; exact ha, fun l L H2 eL ns hl => ?_⟩⟩
        have k2 : Keep X.kw H1 (upd H1 p (DX.itemsO p a)) := .new hn
        have k3 := (k1.trans k2).trans ns.ok.1
        exact (hp.keep k3).lst (ns.ok.2 _ (r1.new hn)) (News.reps ns eL (n.keep k2)) (fun l' hl' => q l' hl') hl
      · exact q.elim
    · exact q.elim
/-- list(d), d a plain dict -/
@[simp] def gListD : GA := fun ds S P => match ds with
  | [.ref a] => (match S a with | some (.dct kvs) => ∀ l, S l = none → P (.ref l) (up S l (.lst (kvs.map (·.1)))) | _ => False)
  | _ => False
theorem rep_kV {K : Kw} {H : Hp} (k : Key) : Rep K H (kD k) (kV k) := by
  cases k with
  | inl i => exact rep_int.mpr rfl
  | inr x => exact rep_str.mpr rfl
theorem reps_kD {K : Kw} {H : Hp} : ∀ (ys : List (Key × V)), Reps K H (ys.map fun y => kD y.1) (ys.map fun y => kV y.1)
  | [] => .nil
  | y :: ys => .cons (rep_kV y.1) (reps_kD ys)
theorem cg_listD (hc : X.calm = true) : CallG X (.type "list") gListD := ⟨_, call_listD hc, fun ds S P q vs H Q r rs hp => by
  unfold gListD at q
  split at q
  · split at q
    · rename_i kvs e
      obtain ⟨v, rfl, rv⟩ := reps1 rs
      obtain ⟨ys, hy, e1, _⟩ := r.dct e
      exact ⟨_, ys, by rw [rep_ref.mp rv], .of hy, fun l hl => hp.lst r (by rw [e1]; exact reps_kD ys) q hl⟩
    · exact q.elim
  · exact q.elim⟩
end
end Sb

/-! a, b, .. = a list. -/
namespace Sb
open PySem PySem.Spec PyProof.Rows L2
section
variable {X : Cx} {H0 : Hp} {e : Expr} {te : DTE} {pos tpos : Pos} {es : List Expr} {k : Nat} {ps : List Pat}
@[simp] def dAsgL (te : DTE) (ps : List Pat) : DTS := fun D δ S => te δ S fun d S1 => match d with
  | .ref a => (match S1 a with | some (.lst ds) => (match psets ps ds δ with | some δ1 => D.nx δ1 S1 | none => False) | _ => False)
  | _ => False
theorem ds_asgL (hc : X.calm = true) (he : DE X H0 e te) (hg : DPs X es ps) (hn : (assignEach es X.env).length = ps.length := by rfl) (hst : (assignEach es X.env).findIdx? (·.1) = none := by rfl) (hs : swapsWithSole [.Tuple es k tpos] e pos.line X.env = pure false := by rfl)
    (hw : swappedStores [.Tuple es k tpos] e X.env = pure none := by rfl) (h1 : (assignEach [.Tuple es k tpos] X.env).map (·.2) = [assign (.Tuple es k tpos) X.env] := by rfl) : DS X H0 (.Assign [.Tuple es k tpos] e pos) (dAsgL te ps) :=
  (ps_asg he (pg_unl hc hg hn hst) hs hw h1).to fun D σ H h => by
    obtain ⟨δ, S, D', w, ht, hp⟩ := h
    refine ⟨δ, S, _, w, ht, fun d S1 q v H1 k1 r1 p1 => ?_⟩
    split at q
    · rename_i a
      split at q
      · rename_i ds e0
        split at q
        · rename_i δ1 e1
          obtain ⟨xs, hx, rs⟩ := r1.lst e0
          exact ⟨a, xs, rep_ref.mp p1, .of hx, by rw [rs.length]; exact psets_length _ _ _ _ e1, psets_ok ps ds xs σ δ δ1 e1 rs (w.keep k1 r1) _ fun σ2 w2 _ => hp.nx _ _ q _ _ k1 w2⟩
        · exact q.elim
      · exact q.elim
    · exact q.elim
end
end Sb

/-! isinstance(err, T) over data. -/
namespace Sb
open PySem PySem.Spec PyProof.Rows L2
theorem kit_sub {K : PySem.W.Frag} {C : Addr} {T : String} {b : Bool} (h : PySem.W.subIn K (.ref C) (.type T) = some b) (m : PySem.W.kitMeta T = true) : PySem.W.kitOne K (.ref C) (.type T) = some b := by
  have e : (Value.ref C == Value.type T) = false := beq_eq_false_iff_ne.mpr fun z => nomatch z
  show (if (Value.ref C == Value.type T) = true then some true else if PySem.W.kitMeta T = true then PySem.W.subIn K (.ref C) (.type T) else none) = some b
  rw [e, if_neg (by decide), if_pos m, h]
/-- errors of the class c are of T, or not -/
structure IsX (K : PySem.W.Frag) (mg : Str → Option Value) (c : Str) (T : String) (b : Bool) : Prop where
  ex : ∃ C, mg c = some (.ref C) ∧ ExcC K C ∧ PySem.W.kitOne K (.ref C) (.type T) = some b
@[simp] def gIsX (a : Addr) (od : Option Addr) (T : String) (b : Bool) : GA := fun ds S P => ds = [.ref a, .ty T] ∧ (match od with | some d => (match S d with | some (.xd _) => P (.bl b) S | _ => False) | none => False)
theorem cg_isX {X : Cx} {a C : Addr} {oe : Obj} {od : Option Addr} {pn : List (Addr × Obj)} {c : Str} {T : String} {b : Bool} (e : IsX X.K X.mg c T b) (hm : X.mg c = some (.ref C)) (hz : Zc (.ref C) od oe) (hf : ∃ vs, oe.data = .fields vs) : CallG (X.suite a ((a, oe) :: pn)) (.builtin "isinstance") (gIsX a od T b) := by
  obtain ⟨C', m, ec, k⟩ := e.ex
  rw [hm] at m; cases m
  refine ⟨_, call_isX ec hz hf, fun ds S P q vs H Q r rs hp => ?_⟩
  obtain ⟨rfl, q⟩ := q
  split at q
  · rename_i dd
    split at q
    · rename_i fs e0
      obtain ⟨x, u, rfl, rx, ru⟩ := reps2 rs
      obtain ⟨_, ys, e1, _⟩ := (r.ex.choose_spec.2 dd _ e0)
      have eu : u = .ty T := by simpa only [Rep] using ru
      refine ⟨u, .type T, b, dd, ys, by rw [rep_ref.mp rx], fun w rw => ?_, k, rfl, e1, hp _ _ q _ _ .refl r (rep_bl.mpr rfl)⟩
      rw [eu] at rw; exact rw
    · exact q.elim
  · exact q.elim
end Sb

/-! len(set(xs)) over data. -/
namespace Sb
open PySem PySem.Spec PyProof.Rows L2
section
variable {X : Cx} {H0 : Hp} {e : Expr} {te : DTE} {p p2 q pos : Pos}
@[simp] def dLenSet (te : DTE) : DTE := fun δ S P => te δ S fun d S1 => match d with
  | .ref a => (match S1 a with | some (.lst ds) => ∃ ns : List Int, ds = ns.map Dv.int ∧ ns.length ≤ 4000 ∧ P (.int ((once [] ns).length : Nat)) S1 | _ => False)
  | _ => False
theorem de_lenSet (hg : Gl X "len") (hm : X.mg "len" = none) (hg2 : Gl X "set") (hm2 : X.mg "set" = none) (he : DE X H0 e te) (hc : X.calm = true := by rfl)
    (na : starEach [e] X.env = (false, eval e X.env) :: starEach [] X.env := by rfl) : DE X H0 (.Call (.Name "len" p) [.Call (.Name "set" p2) [e] [] q] [] pos) (dLenSet te) := (pe_lenSetO hg hm hg2 hm2 he hc na).to fun σ H Q h => by
  obtain ⟨δ, S, P, w, ht, hp⟩ := h
  refine ⟨δ, S, _, w, ht, fun d S1 q v H1 k1 r1 p1 => ?_⟩
  split at q
  · rename_i a
    split at q
    · rename_i ds e0
      obtain ⟨ns, rfl, hl, q⟩ := q
      obtain ⟨xs, e1, rs⟩ := r1.lst e0
      rw [reps_ints_inv rs] at e1
      exact ⟨a, ns, rep_ref.mp p1, .inl (.inl e1), hl, hp _ _ q _ _ k1 r1 (rep_int.mpr rfl)⟩
    · exact q.elim
  · exact q.elim
end
end Sb

/-! C(..) that may raise; an error whose text holds the value. -/
namespace Sb
open PySem PySem.Spec PyProof.Rows L2
section
variable {X : Cx} {H0 : Hp} {k j : Nat} {C f : Addr} {fd : FuncData} {ps : List Str} {sp : DSp} {Pe : DSt → DX} {c : Str} {p pos : Pos} {e : Expr} {es : List Expr} {t : DTA}
@[simp] def dMakeS (c : Str) (sp : DSp) (Pe : DSt → DX) (t : DTA) : DTE := fun δ S P => t δ S fun ds S1 => ∀ x, S1 x = none → sp (.ref x :: ds) (up S1 x (.ins c [])) (fun v S2 => v = .non ∧ P (.ref x) S2) (Pe δ)
theorem go_makeS {pins : List (Addr × Obj)} {σ : L2.St} {H : Hp} {s : Shared} {Q : VK} {us : List Value} {vs : List V} {ds : List Dv} {S : Store} {P : DK} {δ : DSt} (kc : KlG X.K X.mg c C) (M : Mk X.K C f) (F : DFn X.prog X.w X.K X.mg X.base k f fd ps sp) (hgd : X.A.guards = some []) (hr : Room (k + 1) X.A)
    (hb : L2.Binds X.K fd ps []) (tk : DTk X H0 Pe) (w : Wd X.kw H0 σ δ S H) (I : Inv X pins σ H s) (rv : Vals vs us) (rs : Reps X.kw H ds vs) (q : ∀ x, S x = none → sp (.ref x :: ds) (up S x (.ins c [])) (fun v S2 => v = .non ∧ P (.ref x) S2) (Pe δ)) (pv : PV X.kw H P Q) :
    wpAny (model X.prog X.w) X.A (call (.ref C) us) (EP X pins σ Q) X.xe s := by
  obtain ⟨W, tkW, hW⟩ := tk
  have rl := w.rel
  have f1 : H (s.heap.objs.size + 1) = none := I.hok.fresh (Nat.le_succ _)
  have f0 : H s.heap.objs.size = none := I.hok.fresh (Nat.le_refl _)
  have ne : s.heap.objs.size + 1 ≠ s.heap.objs.size := Nat.succ_ne_self _
  have f1' : upd H s.heap.objs.size (.own (s.heap.objs.size + 1)) (s.heap.objs.size + 1) = none := by rw [upd_ne ne]; exact f1
  have hq := q (s.heap.objs.size + 1) (rl.free f1)
  have I2 := Inv.made (C := C) I
  have kp : Keep X.kw H (upd (upd H s.heap.objs.size (.own (s.heap.objs.size + 1))) (s.heap.objs.size + 1) (.ins C s.heap.objs.size [])) := (Keep.new f0).trans (Keep.new f1')
  have r2 : Rel X.kw (up S (s.heap.objs.size + 1) (.ins c [])) (upd (upd H s.heap.objs.size (.own (s.heap.objs.size + 1))) (s.heap.objs.size + 1) (.ins C s.heap.objs.size [])) :=
    (rl.new f0).laid f1' fun own ow => ⟨ow, C, s.heap.objs.size, [], kc.at_, upd_same, rfl, .nil⟩
  have rv2 : Vals (V.ref (s.heap.objs.size + 1) :: vs) (Value.ref (s.heap.objs.size + 1) :: us) := .cons rfl rv
  have hl : (Value.ref (s.heap.objs.size + 1) :: us).length = ps.length := by
    have e := F.len _ _ _ _ hq
    rw [← e, List.length_cons, List.length_cons, ← rv.length, rs.length]
  have bnd := hb _ (Value.ref (s.heap.objs.size + 1) :: us) I2.kIn (by rw [List.append_nil]; exact hl)
  rw [List.append_nil] at bnd
  refine wpAny_call (make_map (f := f) I.kIn M.makes M.init (beq_iff_eq.mp M.fn) (codeAny_mono (F.run (Q := fun v H2 => v = .non ∧ Q (.ref (s.heap.objs.size + 1)) H2) (E := WE W σ) (by first | exact hgd | simpa using hgd) (hr.make C us []) (I2.env0.make C us []) bnd rv2 r2 (.cons (rep_ref.mpr rfl) (rs.keep kp)) hq
    (fun d S' p v H' k' r' rp => ?_) fun c' od S1 h C' H1 m k1 r1 => hW c' od δ S1 h σ H1 C' m (w.keep (kp.trans k1) r1)) fun r s' hq' => ?_))
  · obtain ⟨rfl, p⟩ := p
    exact ⟨rep_non.mp rp, pv _ _ p _ _ (kp.trans k') r' (rep_ref.mpr rfl)⟩
  · cases r with
    | error er => exact passAt tkW σ pins _ _ er s' I2 hq'
    | ok fl =>
      cases fl with
      | ret u =>
        obtain ⟨v, H', I3, rv, ev, q3⟩ := I2.after hq'
        subst ev
        exact ⟨rv, ⟨V.ref (s.heap.objs.size + 1), H', I3, rfl, q3⟩⟩
      | _ => exact (show False from hq').elim
theorem de_makeS (cc : CalC X.prog X.w X.K X.mg X.base j c ps sp) (hgd : X.A.guards = some []) (hr : Room k X.A) (tk : DTk X H0 Pe) (ha : DA X H0 (e :: es) t) (hj : j + 1 ≤ k := by decide) (hg : Gl X c := by rfl) (hdb : (c == ("__debug__" : Str)) = false := by decide)
    (he : starEach (e :: es) X.env = (false, eval e X.env) :: starEach es X.env := by rfl) (hpl : (backTo pos (starEach es X.env)).any (·.1) = false := by rfl) : DE X H0 (.Call (.Name c p) (e :: es) [] pos) (dMakeS c sp Pe t) := by
  obtain ⟨C, f, fd, kc, M, hb, F⟩ := cc.ex
  refine ⟨fun pins s σ H Q I h => ?_⟩
  refine wpAny_Call_Name_kw (ld_glob I hg kc.at_ ?_ hdb)
  obtain ⟨δ, S, P, w, ht, hp⟩ := h
  refine PySem.W.callWith_K (h₀ := X.base) I.ok.mod.kin M.kp (thn (ha.run pos pins s σ H (fun vs H1 => ∃ ds S1, Keep X.kw H H1 ∧ Rel X.kw S1 H1 ∧ Reps X.kw H1 ds vs ∧ ∀ x, S1 x = none → sp (.ref x :: ds) (up S1 x (.ins c [])) (fun v S2 => v = .non ∧ P (.ref x) S2) (Pe δ)) I ⟨δ, S, _, w, ht, fun ds S1 q vs H1 k1 r1 p1 => ⟨ds, S1, k1, r1, p1, q⟩⟩) fun us s1 q => ?_) he hpl
  obtain ⟨vs, H1, I1, rv, ds, S1, k1, r1, p1, q⟩ := q
  exact ⟨I1.kIn, go_makeS kc M F hgd (hr.mono hj) hb tk (w.keep k1 r1) I1 rv p1 q (hp.keep k1)⟩
end
/-- f'..{i}', i whole -/
theorem fstr_ok {t : Str} (ht : t.length ≤ 1000) {σ : L2.St} {H : Hp} {Q : VK} {y : V} (e : σ[1]? = some (some y)) (oy : okI y) (h : ∀ z, Q z H) : (fun σ H Q => tJs [tC (.str t), tFmt (tVar 1)] Str.empty σ H fun out H1 => Q (.str out) H1) σ H Q := by
  obtain ⟨i, rfl, hi⟩ := oy
  have l := int_len (i := i) (by omega)
  have l2 : (toString i : Str).length ≤ 2000 := l
  have z : sizeLine = 16777216 := sizeLine_eq
  refine ⟨t, rfl, ?_, ?_⟩
  · rw [strLen_append]; show 0 + _ ≤ _; omega
  · refine ⟨_, e, .inr ⟨i, rfl, by omega, _, rfl, ?_, h _⟩⟩
    rw [strLen_append, strLen_append]
    show 0 + _ + _ ≤ _
    omega
end Sb

/-! Texts as data. -/
namespace Sb
open PySem PySem.Spec PyProof.Rows L2
/-- one sign -/
abbrev sgn (c : Nat) : Dv := .str ⟨#[c]⟩
section
variable {X : Cx} {H0 : Hp} {a b e o tg l : Expr} {ta tb te to tl : DTE} {t : DTA} {pos apos cpos p2 : Pos}
/-- z[i] -/
@[simp] def gIxS : G2 := fun d e S P => match d, e with
  | .str z, .int i => z.length ≤ sizeLine ∧ (match atI z.cps.toList i with | some c => P (sgn c) S | none => False)
  | _, _ => False
theorem de_ixS (ha : DE X H0 a ta) (hb : DE X H0 b tb) (hs : PlainIx b := by exact fun _ _ => rfl) : DE X H0 (.Subscript a b pos) (dBin gIxS ta tb) := (pe_ix ix_str ha hb hs).to (bin_lift fun d e S P q v u H Q r rv ru hp => by
  unfold gIxS at q
  split at q
  · obtain ⟨hz, q⟩ := q
    split at q
    · rename_i c e1
      exact ⟨_, _, c, rep_str.mp rv, rep_int.mp ru, hz, e1, hp _ _ q _ _ .refl r (rep_str.mpr rfl)⟩
    · exact q.elim
  · exact q.elim)
/-- z[lo:hi] -/
@[simp] def gSlS (d : Dv) (lo hi : Option Int) (S : Store) (P : DK) : Prop := match d with
  | .str z => z.length ≤ sizeLine ∧ P (.str (cutS z lo hi)) S
  | _ => False
@[simp] def dSlS (te : DTE) (tl th : DTO) : DTE := fun δ S P => te δ S fun d S1 => tl δ S1 fun lo S2 => th δ S2 fun hi S3 => gSlS d lo hi S3 P
theorem de_slS {lo hi : Option Expr} {tl th : DTO} (he : DE X H0 e te) (hl : PO X lo (liftO X.kw H0 tl)) (hh : PO X hi (liftO X.kw H0 th)) : DE X H0 (.Subscript e (.Slice lo hi none p2) pos) (dSlS te tl th) :=
  (pe_slice sl_str he hl hh).to fun σ H Q h => by
  obtain ⟨δ, S, P, w, ht, hp⟩ := h
  refine ⟨δ, S, _, w, ht, fun d S1 q v H1 k1 r1 p1 => ⟨δ, S1, _, w.keep k1 r1, q, fun l S2 q2 H2 k2 r2 => ⟨δ, S2, _, w.keep (k1.trans k2) r2, q2, fun u S3 q3 H3 k3 r3 => ?_⟩⟩⟩
  have hp3 := hp.keep (k1.trans (k2.trans k3))
  unfold gSlS at q3
  split at q3
  · rw [rep_str.mp p1]
    exact ⟨_, rfl, q3.1, hp3 _ _ q3.2 _ _ .refl r3 (rep_str.mpr rfl)⟩
  · exact q3.elim
/-- one sign in a text -/
@[simp] def gInS (f : Bool → Bool) : G2 := fun d e S P => match d, e with
  | .str ⟨⟨[c]⟩⟩, .str z => P (.bl (f (decide (c ∈ z.cps.toList)))) S
  | _, _ => False
theorem c_inS : OpG X (compareOp .In) (gInS id) := ⟨_, op_in_sign, fun d e S P q v u H Q r rv ru hp => by
  unfold gInS at q
  split at q
  · exact ⟨_, _, rep_str.mp rv, rep_str.mp ru, hp _ _ q _ _ .refl r (rep_bl.mpr rfl)⟩
  · exact q.elim⟩
theorem c_notInS : OpG X (compareOp .NotIn) (gInS not) := ⟨_, op_notIn_sign, fun d e S P q v u H Q r rv ru hp => by
  unfold gInS at q
  split at q
  · exact ⟨_, _, rep_str.mp rv, rep_str.mp ru, hp _ _ q _ _ .refl r (rep_bl.mpr rfl)⟩
  · exact q.elim⟩
/-- for x in z -/
@[simp] def dIS (tl : DTE) : DTI := fun δ S P => tl δ S fun d S1 => match d with
  | .str z => P (z.cps.toList.map sgn) (fun _ => True) S1
  | _ => False
theorem di_str (hl : DE X H0 l tl) : DI X H0 tg l (dIS tl) := (pi_str hl).to fun σ H R h => by
  obtain ⟨δ, S, P, w, ht, hp⟩ := h
  refine ⟨δ, S, _, w, ht, fun d S1 q v H1 k1 r1 p1 => ?_⟩
  split at q
  · rename_i z
    refine ⟨z, rep_str.mp p1, hp _ _ _ q _ _ k1 r1 fun i S2 H2 k2 r2 _ => ⟨fun e => ?_, fun d e => ?_⟩⟩
    · have e : i = z.cps.size := by simpa using e
      exact Nat.le_of_eq e.symm
    · rw [List.getElem?_map] at e
      obtain ⟨c, e1, rfl⟩ := Option.map_eq_some_iff.mp e
      have e2 : z.cps[i]? = some c := by simpa using e1
      refine ⟨(Array.getElem?_eq_some_iff.mp e2).1, fun x H' q => ?_⟩
      obtain ⟨rfl, c', e3, rfl⟩ := q
      rw [e2] at e3
      cases e3
      exact ⟨.refl, r2, rep_str.mpr rfl⟩
  · exact q.elim
/-- str(x) -/
@[simp] def gStr : GA := fun ds S P => match ds with
  | [.int i] => i.natAbs.log2 < 1920 ∧ P (.str (toString i)) S
  | [.str z] => P (.str z) S
  | _ => False
theorem cg_str : CallG X (.type "str") gStr := ⟨_, cr_or call_str_int SkE.call_str_str, fun ds S P q vs H Q r rs hp => by
  unfold gStr at q
  split at q
  · obtain ⟨v, rfl, rv⟩ := reps1 rs
    exact .inl ⟨_, by rw [rep_int.mp rv], q.1, hp _ _ q.2 _ _ .refl r (rep_str.mpr rfl)⟩
  · obtain ⟨v, rfl, rv⟩ := reps1 rs
    exact .inr ⟨_, by rw [rep_str.mp rv], hp _ _ q _ _ .refl r (rep_str.mpr rfl)⟩
  · exact q.elim⟩
/-- int(x) -/
@[simp] def gInt : GA := fun ds S P => match ds with
  | [.str z] => z.length ≤ 640 ∧ (match PySem.intText? z with | some n => P (.int n) S | none => False)
  | _ => False
theorem cg_int : CallG X (.type "int") gInt := ⟨_, call_int_str, fun ds S P q vs H Q r rs hp => by
  unfold gInt at q
  split at q
  · obtain ⟨v, rfl, rv⟩ := reps1 rs
    obtain ⟨hl, q⟩ := q
    split at q
    · rename_i n e
      exact ⟨_, n, by rw [rep_str.mp rv], e, hl, hp _ _ q _ _ .refl r (rep_int.mpr rfl)⟩
    · exact q.elim
  · exact q.elim⟩
/-- all(l), a list of truth values -/
def gAll : GA := fun ds S P => match ds with
  | [.ref p] => ∃ bs : List Bool, S p = some (.lst (bs.map .bl)) ∧ P (.bl (bs.all id)) S
  | _ => False
theorem reps_bls {K : Kw} {H : Hp} : ∀ {bs : List Bool} {xs : List V}, Reps K H (bs.map Dv.bl) xs → xs = bs.map V.bl
  | [], _, r => r.nil_inv
  | b :: bs, _, r => by
    obtain ⟨y, ys, rfl, h, t⟩ := Reps.cons_inv r
    rw [rep_bl.mp h, reps_bls t]; rfl
theorem cg_all (hc : X.calm = true) : CallG X (.builtin "all") gAll := ⟨_, cr_all hc, fun ds S P q vs H Q r rs hp => by
  unfold gAll at q
  split at q
  · obtain ⟨bs, e, q⟩ := q
    obtain ⟨v, rfl, rv⟩ := reps1 rs
    obtain ⟨xs, h, r2⟩ := r.lst e
    have := reps_bls r2
    subst this
    exact ⟨_, bs, by rw [rep_ref.mp rv], .of h, hp _ _ q _ _ .refl r (rep_bl.mpr rfl)⟩
  · exact q.elim⟩
/-- text * n -/
@[simp] def gMulS : G2 := fun d e S P => match d, e with
  | .str z, .int n => MulOk z n ∧ P (.str (Txt.mul z n)) S
  | _, _ => False
theorem op_mulS : OpR X (binaryOp .Mult) (fun x y H Q => ∃ z n, x = .str z ∧ y = .int n ∧ MulOk z n ∧ Q (.str (Txt.mul z n)) H) := by
  intro pins s σ H x y v u Q I rx ry h
  obtain ⟨z, n, rfl, rfl, hok, q⟩ := h
  obtain ⟨t, rfl⟩ := rx
  obtain ⟨t', rfl⟩ := ry
  exact PySem.SB.mul hok fun t' k => ⟨.str _, H, I.tok k, ⟨_, rfl⟩, q⟩
theorem o_mulS : OpG X (binaryOp .Mult) gMulS := ⟨_, op_mulS, fun d e S P q v u H Q r rv ru hp => by
  unfold gMulS at q
  split at q
  · exact ⟨_, _, rep_str.mp rv, rep_int.mp ru, q.1, hp _ _ q.2 _ _ .refl r (rep_str.mpr rfl)⟩
  · exact q.elim⟩
/-! ### split, join -/
theorem reps_txts {K : Kw} {H : Hp} : ∀ ys : List Str, Reps K H (ys.map Dv.str) (ys.map V.str)
  | [] => .nil
  | y :: ys => .cons (rep_str.mpr rfl) (reps_txts ys)
theorem reps_txts_inv {K : Kw} {H : Hp} : ∀ {ys : List Str} {xs : List V}, Reps K H (ys.map Dv.str) xs → xs = ys.map V.str
  | [], _, r => r.nil_inv
  | b :: bs, _, r => by
    obtain ⟨y, ys, rfl, h, t⟩ := Reps.cons_inv r
    rw [rep_str.mp h, reps_txts_inv t]; rfl
@[simp] def dSplit (to te : DTE) : DTE := fun δ S P => to δ S fun d S1 => match d with
  | .str a => te δ S1 fun e S2 => (match e with
    | .str b => (b.length == 0) = false ∧ a.length + 2 ≤ sizeLine ∧ ∀ l, S2 l = none → P (.ref l) (up S2 l (.lst ((Txt.split a b).map .str)))
    | _ => False)
  | _ => False
theorem de_split (ho : DE X H0 o to) (he : DE X H0 e te) (hs : starEach [e] X.env = [(false, eval e X.env)] := by rfl) (hbase : attributeBase o "split" X.env (eval o X.env) = eval o X.env := by rfl) (hline : (apos.endLine == pos.line) = true := by rfl) :
    DE X H0 (.Call (.Attribute o "split" apos) [e] [] pos) (dSplit to te) := (pe_split ho he hs hbase hline).to fun σ H Q h => by
  obtain ⟨δ, S, P, w, ht, hp⟩ := h
  refine ⟨δ, S, _, w, ht, fun d S1 q v H1 k1 r1 p1 => ?_⟩
  split at q
  · rename_i za
    refine ⟨⟨za, rep_str.mp p1⟩, δ, S1, _, w.keep k1 r1, q, fun d2 S2 q2 v2 H2 k2 r2 p2 => ?_⟩
    split at q2
    · rename_i zb
      obtain ⟨h1, h2, q2⟩ := q2
      exact ⟨za, zb, rep_str.mp p1, by rw [rep_str.mp p2], h1, h2, fun p hpn => (hp.keep (k1.trans k2)).lst r2 (reps_txts _) q2 hpn⟩
    · exact q2.elim
  · exact q.elim
@[simp] def dJoin (to te : DTE) : DTE := fun δ S P => to δ S fun d S1 => match d with
  | .str a => te δ S1 fun e S2 => (match e with
    | .ref p => ∃ ys : List Str, S2 p = some (.lst (ys.map .str)) ∧ (ys.map (·.length)).sum + ys.length * a.length ≤ 16777216 ∧ P (.str (Txt.join a ys)) S2
    | _ => False)
  | _ => False
theorem de_join (ho : DE X H0 o to) (he : DE X H0 e te) (hs : starEach [e] X.env = [(false, eval e X.env)] := by rfl) (hbase : attributeBase o "join" X.env (eval o X.env) = eval o X.env := by rfl) (hline : (apos.endLine == pos.line) = true := by rfl) :
    DE X H0 (.Call (.Attribute o "join" apos) [e] [] pos) (dJoin to te) := (pe_join ho he hs hbase hline).to fun σ H Q h => by
  obtain ⟨δ, S, P, w, ht, hp⟩ := h
  refine ⟨δ, S, _, w, ht, fun d S1 q v H1 k1 r1 p1 => ?_⟩
  split at q
  · rename_i za
    refine ⟨⟨za, rep_str.mp p1⟩, δ, S1, _, w.keep k1 r1, q, fun d2 S2 q2 v2 H2 k2 r2 p2 => ?_⟩
    split at q2
    · obtain ⟨ys, e, hl, q2⟩ := q2
      obtain ⟨xs, h, rs⟩ := r2.lst e
      have := reps_txts_inv rs
      subst this
      exact ⟨za, _, ys, rep_str.mp p1, by rw [rep_ref.mp p2], .inl (.of h), hl, hp _ _ q2 _ _ (k1.trans k2) r2 (rep_str.mpr rfl)⟩
    · exact q2.elim
  · exact q.elim
/-! ### f-strings -/
/-- {x}: a text or an int -/
@[simp] def dFmt (te : DTE) : DTE := fun δ S P => te δ S fun d S1 => match d with
  | .str z => z.length ≤ sizeLine ∧ P (.str z) S1
  | .int i => i.natAbs.log2 < 1920 ∧ P (.str (toString i)) S1
  | _ => False
theorem de_fmt (he : DE X H0 e te) : DE X H0 (.FormattedValue e (-1) none pos) (dFmt te) := (pe_fmt he).to fun σ H Q h => by
  obtain ⟨δ, S, P, w, ht, hp⟩ := h
  refine ⟨δ, S, _, w, ht, fun d S1 q v H1 k1 r1 p1 => ?_⟩
  split at q
  · exact .inl ⟨_, rep_str.mp p1, q.1, hp _ _ q.2 _ _ k1 r1 (rep_str.mpr rfl)⟩
  · exact .inr ⟨_, rep_int.mp p1, q.1, hp _ _ q.2 _ _ k1 r1 (rep_str.mpr rfl)⟩
  · exact q.elim
@[simp] def dJs : List DTE → Str → DSt → Store → (Str → Store → Prop) → Prop
  | [], acc, _, S, Q => Q acc S
  | t :: ts, acc, δ, S, Q => t δ S fun d S1 => match d with
    | .str y => (acc ++ y).length ≤ sizeLine ∧ dJs ts (acc ++ y) δ S1 Q
    | _ => False
inductive DJ (X : Cx) (H0 : Hp) : List Expr → List DTE → Prop where
  | nil : DJ X H0 [] []
  | cons {e : Expr} {t : DTE} {es : List Expr} {ts : List DTE} (h : DE X H0 e t) (r : DJ X H0 es ts) : DJ X H0 (e :: es) (t :: ts)
theorem DJ.pj {es : List Expr} {ts : List DTE} (h : DJ X H0 es ts) : PJ X es (ts.map (liftE X.kw H0)) := by
  induction h with
  | nil => exact .nil
  | cons h r ih => exact .cons h ih
theorem js_lift {K : Kw} : ∀ (ts : List DTE) (acc : Str) (σ : L2.St) (H : Hp) (Q : VK) (δ : DSt) (S : Store) (P : DK), Wd K H0 σ δ S H → dJs ts acc δ S (fun z S1 => P (.str z) S1) → PV K H P Q → tJs (ts.map (liftE K H0)) acc σ H fun out H1 => Q (.str out) H1
  | [], acc, σ, H, Q, δ, S, P, w, h, hp => hp _ _ h _ _ .refl w.rel (rep_str.mpr rfl)
  | t :: ts, acc, σ, H, Q, δ, S, P, w, h, hp => by
    refine ⟨δ, S, _, w, h, fun d S1 q v H1 k1 r1 p1 => ?_⟩
    split at q
    · exact ⟨_, rep_str.mp p1, q.1, js_lift ts _ σ H1 Q δ S1 P (w.keep k1 r1) q.2 (hp.keep k1)⟩
    · exact q.elim
@[simp] def dJoined (ts : List DTE) : DTE := fun δ S P => dJs ts Str.empty δ S fun z S1 => P (.str z) S1
theorem de_joined {v1 v2 : Expr} {rest : List Expr} {ts : List DTE} (h : DJ X H0 (v1 :: v2 :: rest) ts) : DE X H0 (.JoinedStr (v1 :: v2 :: rest) pos) (dJoined ts) := (pe_joined h.pj).to fun σ H Q q => by
  obtain ⟨δ, S, P, w, ht, hp⟩ := q
  exact js_lift ts _ σ H Q δ S P w ht hp
/-! ### a text of the module -/
theorem de_gtx {x z : Str} (hm : ∃ t, X.mg x = some (.str z t)) (hg : Gl X x := by rfl) (hd : (x == ("__debug__" : Str)) = false := by decide) : DE X H0 (.Name x pos) (dC (.str z)) := by
  obtain ⟨t, h⟩ := hm
  exact (pe_glob (v := .str z) hg h ⟨t, rfl⟩ hd).to (lift_C fun _ => by simp only [Rep])
end
/-- f'..{i}..', i whole -/
theorem fstr_ok3 {t u : Str} (ht : t.length ≤ 1000) (hu : u.length ≤ 1000) {σ : L2.St} {H : Hp} {Q : VK} {y : V} (e : σ[1]? = some (some y)) (oy : okI y) (h : ∀ z, Q z H) : (fun σ H Q => tJs [tC (.str t), tFmt (tVar 1), tC (.str u)] Str.empty σ H fun out H1 => Q (.str out) H1) σ H Q := by
  obtain ⟨i, rfl, hi⟩ := oy
  have l := int_len (i := i) (by omega)
  have l2 : (toString i : Str).length ≤ 2000 := l
  have z : sizeLine = 16777216 := sizeLine_eq
  refine ⟨t, rfl, ?_, ?_⟩
  · rw [strLen_append]; show 0 + _ ≤ _; omega
  · refine ⟨_, e, .inr ⟨i, rfl, by omega, _, rfl, ?_, ?_⟩⟩
    · rw [strLen_append, strLen_append]
      show 0 + _ + _ ≤ _
      omega
    · refine ⟨u, rfl, ?_, h _⟩
      rw [strLen_append, strLen_append, strLen_append]
      show 0 + _ + _ + _ ≤ _
      omega
end Sb

namespace Sb
open PySem PySem.Spec L2
def top (i : Nat) : Stmt := PySem.Challenge.pw_seenbefore_k77_streams_written_and_read.main.body.getD i (.Pass ⟨0, 0, 0, 0⟩)

/-! ### streams -/
def mD (x : Int × Int) : Dv := .tup [.int x.1, .int x.2]
def strD (s : List (Int × Int)) : Dv := .tup (s.map mD)
theorem plains_str (s : List (Int × Int)) : plains (s.map mD) = true ∧ deps (s.map mD) ≤ 1 := by
  induction s with
  | nil => simp [plains, deps]
  | cons n ns ih => simp [plains, plain, deps, dep, mD, ih]
theorem plain_str (s : List (Int × Int)) : plain (strD s) = true ∧ dep (strD s) ≤ 2 := by
  have := plains_str s
  simp [strD, plain, dep, this]
theorem mD_inj {x y : Int × Int} : mD x = mD y ↔ x = y := by
  obtain ⟨a, b⟩ := x; obtain ⟨c, d⟩ := y; simp [mD]
theorem map_mD_inj : ∀ {s t : List (Int × Int)}, s.map mD = t.map mD ↔ s = t
  | [], [] => by simp
  | [], _ :: _ => by simp
  | _ :: _, [] => by simp
  | x :: s, y :: t => by simp [mD_inj, map_mD_inj (s := s) (t := t)]
theorem strD_inj {s t : List (Int × Int)} : strD s = strD t ↔ s = t := by simp [strD, map_mD_inj]
/-- numbers of a size that repr takes -/
def Fit (s : List (Int × Int)) : Prop := ∀ x ∈ s, x.1.natAbs.log2 < 1920 ∧ x.2.natAbs.log2 < 1920
theorem shw_str : ∀ {s : List (Int × Int)}, Fit s → shws (s.map mD) = true ∧ costs (s.map mD) = 4008 * s.length
  | [], _ => by simp [shws, costs]
  | x :: s, h => by
    have ih := shw_str (s := s) fun y hy => h y (by simp [hy])
    have h1 := h x (by simp)
    simp [shws, shw, costs, cost, mD, ih, h1]
    omega
theorem gRepr_str {s : List (Int × Int)} {S : Store} {P : DK} (h : Fit s) (hl : s.length ≤ 4000) : gRepr [strD s] S P ↔ P (.str (toP (strD s)).shown) S := by
  obtain ⟨a, b⟩ := shw_str h
  refine gRepr_plain (plain_str s).1 (by simpa [strD, shw] using a) (by have := (plain_str s).2; omega) ?_
  simp [strD, cost, b]; omega
open Classical in
theorem gEqF_str {f : Bool → Bool} {s t : List (Int × Int)} {S : Store} {P : DK} : gEqF f (strD s) (strD t) S P ↔ P (.bl (f (decide (s = t)))) S := by
  rw [gEqF_plain (plain_str s).1 (plain_str t).1 (by have := (plain_str s).2; omega) (by have := (plain_str t).2; omega)]
  simp only [strD_inj]
@[simp] theorem gEqS {f : Bool → Bool} {s t : List (Int × Int)} {S : Store} {P : DK} : gEqF f (.tup (s.map mD)) (.tup (t.map mD)) S P ↔ P (.bl (f (s == t))) S := by
  have e := gEqF_str (f := f) (s := s) (t := t) (S := S) (P := P)
  rw [show strD s = .tup (s.map mD) from rfl, show strD t = .tup (t.map mD) from rfl] at e
  rw [e]
  have : decide (s = t) = (s == t) := by rw [Bool.eq_iff_iff]; simp
  rw [this]
@[simp] theorem strD_eq (s : List (Int × Int)) : strD s = .tup (s.map mD) := rfl
/-- a stream as the laws draw it -/
structure Drawn (s : List (Int × Int)) (w : Int) (m : Nat) : Prop where
  len : s.length ≤ m
  word : ∀ x ∈ s, 0 ≤ x.1 ∧ x.1 < w
  val : ∀ x ∈ s, x.2.natAbs < 10 ^ 60
theorem takeD (s : List (Int × Int)) (n : Nat) : (s.map mD).take n = (s.take n).map mD := List.map_take.symm
theorem dropD (s : List (Int × Int)) (n : Nat) : (s.map mD).drop n = (s.drop n).map mD := List.map_drop.symm
theorem appD (s t : List (Int × Int)) : s.map mD ++ t.map mD = (s ++ t).map mD := List.map_append.symm

/-! ### the pen -/
theorem cut_to (xs : List Dv) (j : Nat) : cutD xs none (some (j : Int)) = xs.take j := by
  unfold cutD
  rw [HT.sIx_none, HT.sIx_nat]
  simp only [List.drop_zero, Nat.sub_zero]
  rw [List.take_eq_take_iff]
  omega
abbrev s__law_pen : Stmt := top 11
abbrev n__law_pen : List Str := ["script"]
abbrev p__law_pen : List Str := ["script"]
theorem sc__law_pen : FnScope n__law_pen p__law_pen (defScope s__law_pen) := ⟨rfl, rfl, rfl, by decide +kernel, rfl, by decide +kernel, by decide +kernel⟩
-- return [list(script[:63]), 0, 0]
@[simp] def u__law_pen_1 (K : Kw) (Pe : DX) : DTS :=
  (dRet (dLst (dCons (dCB gList (dCons (dSl (dVar 0) dNoPart (dPart (dC (.int 63)))) dNil)) (dCons (dC (.int 0)) (dCons (dC (.int 0)) dNil)))))
abbrev t__law_pen (K : Kw) (Pe : DX) : DTS := (u__law_pen_1 K Pe)
def sp__law_pen : DSp := fun ds S Pq _ => ∃ ns, ds = [.scr ns] ∧ ns.length ≤ 63 ∧ ∀ a, S a = none → Pq (.ref a) (up S a .pen)
theorem len__law_pen : ∀ ds S Pq Pe, sp__law_pen ds S Pq Pe → ds.length = p__law_pen.length := fun _ _ _ _ ⟨_, h, _⟩ => by subst h; rfl
theorem hsp__law_pen (K : Kw) : ∀ ds S Pq Pe, sp__law_pen ds S Pq Pe → dsp K n__law_pen (t__law_pen K) ds S Pq Pe := by
  rintro ds S Pq Pe ⟨ns, rfl, hl, h⟩
  refine VS.pure ?_
  have e : cutD (ns.map Dv.int) none (some 63) = ns.map Dv.int := by
    rw [show (63 : Int) = ((63 : Nat) : Int) from rfl, cut_to, List.take_of_length_le (by simpa using hl)]
  simp [u__law_pen_1, e]
  intro l h1 l1 h2 h3 l2 h4 h5 h6
  refine VS.mkPen (S' := S) (ns := ns) (l := l1) up_same (by rw [up_ne (Ne.symm h4), up_same]) (Ne.symm h4) (by decide) hl (fun b o hb e => ?_) h3 (h l2 h6)
  rw [up_ne hb, up_ne (some_ne e h3), up_ne (some_ne e h1), e]
theorem dfn__law_pen {P : Program} {w : World} {K : PySem.W.Frag} {mg : Str → Option Value} {base : Heap} {f : Addr} {fd : FuncData} (F : Fun K "_law_pen" "_law_pen" s__law_pen f fd) (z_list : mg "list" = none) : DFn P w K mg base 1 f fd p__law_pen sp__law_pen :=
  Fun.okD (k := 0) (t := t__law_pen ⟨K, w, mg⟩) F sc__law_pen len__law_pen (fun cdv A outer s H Pe E hgd hr px =>
  (dss_one (ds_ret (de_lst (da_cons (de_callTy cg_list (by rfl) z_list (by decide +kernel) (da_cons (de_sl (dv 0) do_none (do_some de_int)) da_nil)) (da_cons de_int (da_cons de_int da_nil))))))) (hsp__law_pen ⟨K, w, mg⟩)
theorem ok__law_pen {P : Program} {w : World} {K : PySem.W.Frag} {mg : Str → Option Value} {base : Heap} (D : Def K mg "_law_pen" "_law_pen" s__law_pen) (z_list : mg "list" = none) : Cal P w K mg base 1 "_law_pen" p__law_pen sp__law_pen :=
  let ⟨f, fd, F, hm⟩ := D.ex
  ⟨f, fd, hm, F.kp, F.binds (ps := p__law_pen) fun _ _ _ _ _ _ us hl => match us, hl with | [_], _ => rfl, dfn__law_pen F z_list⟩
abbrev s__law_fresh : Stmt := top 12
abbrev n__law_fresh : List Str := ["pen", "at", "cell", "p", "state", "found", "turn"]
abbrev p__law_fresh : List Str := ["pen"]
theorem sc__law_fresh : FnScope n__law_fresh p__law_fresh (defScope s__law_fresh) := ⟨rfl, rfl, rfl, by decide +kernel, rfl, by decide +kernel, by decide +kernel⟩
-- cell = pen[0][at % len(pen[0])]
@[simp] def u__law_fresh_5 (K : Kw) (Pe : DX) : DTS :=
  (dSet 2 (dBin gIx (dBin gIx (dVar 0) (dC (.int 0))) (dBin gMod (dVar 1) (dCB gLenA (dCons (dBin gIx (dVar 0) (dC (.int 0))) dNil)))))
-- return cell - 10 ** 18
@[simp] def u__law_fresh_7 (K : Kw) (Pe : DX) : DTS :=
  (dRet (dBin gSub (dVar 2) (dBin gPow (dC (.int 10)) (dC (.int 18)))))
-- found = found * p + state
@[simp] def u__law_fresh_13 (K : Kw) (Pe : DX) : DTS :=
  (dSet 5 (dBin gAdd (dBin gMul (dVar 5) (dVar 3)) (dVar 4)))
-- state = (state * state + 69621 * (turn + 1) * (at + 1) + cell) % p
def u__law_fresh_12 (K : Kw) (Pe : DX) : DTS :=
  (dSeq (dSet 4 (dBin gMod (dBin gAdd (dBin gAdd (dBin gMul (dVar 4) (dVar 4)) (dBin gMul (dBin gMul (dC (.int 69621)) (dBin gAdd (dVar 6) (dC (.int 1)))) (dBin gAdd (dVar 1) (dC (.int 1))))) (dVar 2)) (dVar 3)))
  (u__law_fresh_13 K Pe))
-- return found
@[simp] def u__law_fresh_14 (K : Kw) (Pe : DX) : DTS :=
  (dRet (dVar 5))
-- for turn in range(6):
def u__law_fresh_11 (K : Kw) (Pe : DX) : DTS :=
  (dSeq (dFor (dIR1 (dCons (dC (.int 6)) dNil)) (.nm 6)
  (u__law_fresh_12 K Pe))
  (u__law_fresh_14 K Pe))
-- found = state
def u__law_fresh_10 (K : Kw) (Pe : DX) : DTS :=
  (dSeq (dSet 5 (dVar 4))
  (u__law_fresh_11 K Pe))
-- state = (cell * 48271 + 40692 * at + 31) % p
def u__law_fresh_9 (K : Kw) (Pe : DX) : DTS :=
  (dSeq (dSet 4 (dBin gMod (dBin gAdd (dBin gAdd (dBin gMul (dVar 2) (dC (.int 48271))) (dBin gMul (dC (.int 40692)) (dVar 1))) (dC (.int 31))) (dVar 3)))
  (u__law_fresh_10 K Pe))
-- p = 2305843009213693951
def u__law_fresh_8 (K : Kw) (Pe : DX) : DTS :=
  (dSeq (dSet 3 (dC (.int 2305843009213693951)))
  (u__law_fresh_9 K Pe))
-- if at < len(pen[0]) and cell >= 10 ** 18:
def u__law_fresh_6 (K : Kw) (Pe : DX) : DTS :=
  (dSeq (dIfS (dAnd (dB (dBin (gCmp fun i j => decide (i < j)) (dVar 1) (dCB gLenA (dCons (dBin gIx (dVar 0) (dC (.int 0))) dNil)))) (dB (dBin (gCmp fun i j => decide (j ≤ i)) (dVar 2) (dBin gPow (dC (.int 10)) (dC (.int 18))))))
  (u__law_fresh_7 K Pe)
  dNext)
  (u__law_fresh_8 K Pe))
-- if pen[0] != []:
def u__law_fresh_4 (K : Kw) (Pe : DX) : DTS :=
  (dSeq (dIfS (dB (dBin (gEqF not) (dBin gIx (dVar 0) (dC (.int 0))) (dLst dNil)))
  (u__law_fresh_5 K Pe)
  dNext)
  (u__law_fresh_6 K Pe))
-- cell = 0
def u__law_fresh_3 (K : Kw) (Pe : DX) : DTS :=
  (dSeq (dSet 2 (dC (.int 0)))
  (u__law_fresh_4 K Pe))
-- pen[1] = at + 1
def u__law_fresh_2 (K : Kw) (Pe : DX) : DTS :=
  (dSeq (dSetIx (dBin gAdd (dVar 1) (dC (.int 1))) (dVar 0) (dC (.int 1)))
  (u__law_fresh_3 K Pe))
-- at = pen[1]
def u__law_fresh_1 (K : Kw) (Pe : DX) : DTS :=
  (dSeq (dSet 1 (dBin gIx (dVar 0) (dC (.int 1))))
  (u__law_fresh_2 K Pe))
abbrev t__law_fresh (K : Kw) (Pe : DX) : DTS := (u__law_fresh_1 K Pe)
def sp__law_fresh : DSp := fun ds S Pq _ => ∃ (a l : Addr) (i j : Int) (ns : List Int), ds = [.ref a] ∧ S a = some (.lst [.ref l, .int i, .int j]) ∧ S l = some (.lst (ns.map .int)) ∧ l ≠ a ∧ 0 ≤ i ∧ ns.length ≤ 63 ∧ ∀ r, Pq (.int r) (up S a (.lst [.ref l, .int (i + 1), .int j]))
theorem len__law_fresh : ∀ ds S Pq Pe, sp__law_fresh ds S Pq Pe → ds.length = p__law_fresh.length := fun _ _ _ _ ⟨_, _, _, _, _, h, _⟩ => by subst h; rfl
theorem plains_ints (ns : List Int) : plains (ns.map Dv.int) = true ∧ deps (ns.map Dv.int) = 0 ∧ toPs (ns.map Dv.int) = ns.map PyData.int := by
  induction ns with
  | nil => simp [plains, deps, toPs]
  | cons n ns ih => simp [plains, plain, deps, dep, toPs, toP, ih]
theorem hsp__law_fresh (K : Kw) : ∀ ds S Pq Pe, sp__law_fresh ds S Pq Pe → dsp K n__law_fresh (t__law_fresh K) ds S Pq Pe := by
  rintro ds S Pq Pe ⟨a, l, i, j, ns, rfl, ha, hl, hla, hi, hn, h⟩
  refine VS.pure ?_
  refine dSeq_mk ?_
  simp [ha]
  refine dSeq_mk ?_
  simp [ha]
  refine dSeq_mk ?_
  simp
  refine dSeq_mk ?_
  simp
  intro e he1 he2
  have hle : l ≠ e := some_ne hl he2
  have hae : a ≠ e := some_ne ha he2
  have ok : ∀ r, VS K (up (up S a (.lst [.ref l, .int (i + 1), .int j])) e (.lst [])) (Pq (.int r)) := fun r => VS.sub (Sub.new Sub.refl (by rw [up_ne (Ne.symm hae)]; exact he2)) (h r)
  refine (gEqF_lists (ds := ns.map .int) (es := []) (by simp [up_ne, hle, hla, hl]) up_same (plains_ints ns).1 rfl (by rw [(plains_ints ns).2.1]; decide) (by decide)).mpr ?_
  have fin : ∀ c : Int, u__law_fresh_6 K Pe { nx := fun x S1 => VS K S1 (Pq .non), rt := fun d S1 => VS K S1 (Pq d) } [some (.ref a), some (.int i), some (.int c), none, none, none, none] (up (up S a (.lst [.ref l, .int (i + 1), .int j])) e (.lst [])) := by
    intro c
    have rest : u__law_fresh_8 K Pe { nx := fun x S1 => VS K S1 (Pq .non), rt := fun d S1 => VS K S1 (Pq d) } [some (.ref a), some (.int i), some (.int c), none, none, none, none] (up (up S a (.lst [.ref l, .int (i + 1), .int j])) e (.lst [])) := by
      refine dSeq_mk ?_
      simp
      refine dSeq_mk ?_
      simp
      refine ⟨.inr ⟨by decide, by decide⟩, .inl ⟨by decide, by decide⟩, ?_⟩
      refine dSeq_mk ?_
      simp
      refine dSeq_mk ?_
      refine dFor_mk ?_
      simp
      refine forL_ind (fun k δ S' => S' = up (up S a (.lst [.ref l, .int (i + 1), .int j])) e (.lst []) ∧ ∃ (st fo : Int) (x : Option Dv), 0 ≤ st ∧ st < 2305843009213693951 ∧ δ = [some (.ref a), some (.int i), some (.int c), some (.int 2305843009213693951), some (.int st), some (.int fo), x])
        ⟨rfl, _, _, _, Int.emod_nonneg _ (by decide), Int.emod_lt_of_pos _ (by decide), rfl⟩ ?_ ?_
      · rintro k x δ S' hx ⟨rfl, st, fo, y, h1, h2, rfl⟩ N hN
        obtain ⟨m, rfl, hm⟩ : ∃ m : Nat, x = .int m ∧ m < 6 := by
          rw [List.getElem?_map] at hx
          obtain ⟨m, e1, rfl⟩ := Option.map_eq_some_iff.mp hx
          have := (List.getElem?_eq_some_iff.mp e1).2
          simp at this
          have := (List.getElem?_eq_some_iff.mp e1).1
          simp at this
          exact ⟨m, rfl, by omega⟩
        refine ⟨trivial, _, rfl, ?_⟩
        refine dSeq_mk ?_
        simp
        refine ⟨.inl ⟨by omega, by omega⟩, .inl ⟨by decide, by decide⟩, .inl ⟨by omega, by omega⟩, ?_⟩
        try simp [u__law_fresh_13]
        refine ⟨.inr ⟨by decide, by decide⟩, hN _ _ ⟨rfl, _, _, _, Int.emod_nonneg _ (by decide), Int.emod_lt_of_pos _ (by decide), rfl⟩⟩
      · rintro δ S' ⟨rfl, st, fo, y, h1, h2, rfl⟩
        refine ⟨trivial, ?_⟩
        simp [u__law_fresh_14]
        exact ok _
    refine dSeq_mk ?_
    simp [up_ne, hae, hla, hl, hle]
    refine ite2 (fun _ => ?_) fun _ => rest
    refine ⟨⟨by decide, by decide, by decide⟩, ite2 (fun _ => ?_) fun _ => rest⟩
    try simp [u__law_fresh_7]
    exact ⟨⟨by decide, by decide, by decide⟩, ok _⟩
  simp
  refine ite2 (fun _ => fin 0) fun hne => ?_
  have hpos : 0 < ns.length := List.length_pos_iff.mpr (by simpa using hne)
  have hz : (0 : Int) < ns.length := by omega
  simp [u__law_fresh_5, up_ne, hae, hla, hl, hle, hz]
  rw [atI_of (Int.emod_nonneg _ (by omega))]
  have hlt : (i % (ns.length : Int)).toNat < ns.length := by have := Int.emod_lt_of_pos i hz; have := Int.emod_nonneg i (b := (ns.length : Int)) (by omega); omega
  simp [hlt]
  exact ⟨hpos, fin _⟩
theorem dfn__law_fresh {P : Program} {w : World} {K : PySem.W.Frag} {mg : Str → Option Value} {base : Heap} {f : Addr} {fd : FuncData} (F : Fun K "_law_fresh" "_law_fresh" s__law_fresh f fd) (z_len : mg "len" = none) (z_range : mg "range" = none) : DFn P w K mg base 1 f fd p__law_fresh sp__law_fresh :=
  Fun.okD (k := 0) (t := t__law_fresh ⟨K, w, mg⟩) F sc__law_fresh len__law_fresh (fun cdv A outer s H Pe E hgd hr px =>
  (dss_cons (ds_set sc__law_fresh.nd (de_ix (dv 0) de_int))
  (dss_cons (ds_setIx (de_op o_add (dv 1) de_int) (dv 0) de_int)
  (dss_cons (ds_set sc__law_fresh.nd de_int)
  (dss_cons (ds_if (dt_cmp (c_ne (units_64 hr)) (de_ix (dv 0) de_int) (de_lst da_nil))
  (dss_one (ds_set sc__law_fresh.nd (de_ix (de_ix (dv 0) de_int) (de_op o_mod (dv 1) (de_callB cg_lenA (by rfl) z_len (by decide +kernel) (da_cons (de_ix (dv 0) de_int) da_nil))))))
  dss_nil)
  (dss_cons (ds_if (L2.PW.pt (dw_and (dt_cmp c_lt (dv 1) (de_callB cg_lenA (by rfl) z_len (by decide +kernel) (da_cons (de_ix (dv 0) de_int) da_nil))) (dw_and1 (dt_cmp c_ge (dv 2) (de_op o_pow de_int de_int)))))
  (dss_one (ds_ret (de_op o_sub (dv 2) (de_op o_pow de_int de_int))))
  dss_nil)
  (dss_cons (ds_set sc__law_fresh.nd de_int)
  (dss_cons (ds_set sc__law_fresh.nd (de_op o_mod (de_op o_add (de_op o_add (de_op o_mul (dv 2) de_int) (de_op o_mul de_int (dv 1))) de_int) (dv 3)))
  (dss_cons (ds_set sc__law_fresh.nd (dv 4))
  (dss_cons (ds_for (passes_of rfl) rfl (di_range1 (by rfl) z_range (da_cons de_int da_nil)) (dp_nm sc__law_fresh.nd)
  (dss_cons (ds_set sc__law_fresh.nd (de_op o_mod (de_op o_add (de_op o_add (de_op o_mul (dv 4) (dv 4)) (de_op o_mul (de_op o_mul de_int (de_op o_add (dv 6) de_int)) (de_op o_add (dv 1) de_int))) (dv 2)) (dv 3)))
  (dss_one (ds_set sc__law_fresh.nd (de_op o_add (de_op o_mul (dv 5) (dv 3)) (dv 4))))))
  (dss_one (ds_ret (dv 5))))))))))))) (hsp__law_fresh ⟨K, w, mg⟩)
theorem ok__law_fresh {P : Program} {w : World} {K : PySem.W.Frag} {mg : Str → Option Value} {base : Heap} (D : Def K mg "_law_fresh" "_law_fresh" s__law_fresh) (z_len : mg "len" = none) (z_range : mg "range" = none) : Cal P w K mg base 1 "_law_fresh" p__law_fresh sp__law_fresh :=
  let ⟨f, fd, F, hm⟩ := D.ex
  ⟨f, fd, hm, F.kp, F.binds (ps := p__law_fresh) fun _ _ _ _ _ _ us hl => match us, hl with | [_], _ => rfl, dfn__law_fresh F z_len z_range⟩
abbrev s__law_draw : Stmt := top 13
abbrev n__law_draw : List Str := ["pen", "many", "digit"]
abbrev p__law_draw : List Str := ["pen", "many"]
theorem sc__law_draw : FnScope n__law_draw p__law_draw (defScope s__law_draw) := ⟨rfl, rfl, rfl, by decide +kernel, rfl, by decide +kernel, by decide +kernel⟩
-- pen[2] = _law_fresh(pen)
@[simp] def u__law_draw_2 (K : Kw) (Pe : DX) : DTS :=
  (dSetIx (dCall sp__law_fresh X0 (dCons (dVar 0) dNil)) (dVar 0) (dC (.int 2)))
-- return digit
@[simp] def u__law_draw_5 (K : Kw) (Pe : DX) : DTS :=
  (dRet (dVar 2))
-- pen[2] = pen[2] // many
def u__law_draw_4 (K : Kw) (Pe : DX) : DTS :=
  (dSeq (dSetIx (dBin gDivW (dBin gIx (dVar 0) (dC (.int 2))) (dVar 1)) (dVar 0) (dC (.int 2)))
  (u__law_draw_5 K Pe))
-- digit = pen[2] % many
def u__law_draw_3 (K : Kw) (Pe : DX) : DTS :=
  (dSeq (dSet 2 (dBin gMod (dBin gIx (dVar 0) (dC (.int 2))) (dVar 1)))
  (u__law_draw_4 K Pe))
-- if pen[2] < many:
def u__law_draw_1 (K : Kw) (Pe : DX) : DTS :=
  (dSeq (dIfS (dB (dBin (gCmp fun i j => decide (i < j)) (dBin gIx (dVar 0) (dC (.int 2))) (dVar 1)))
  (u__law_draw_2 K Pe)
  dNext)
  (u__law_draw_3 K Pe))
abbrev t__law_draw (K : Kw) (Pe : DX) : DTS := (u__law_draw_1 K Pe)
def sp__law_draw : DSp := fun ds S Pq _ => ∃ (a : Addr) (m : Int), ds = [.ref a, .int m] ∧ S a = some .pen ∧ (0 < m ∧ m ≤ 100000000000000000000000000000000000000000) ∧ ∀ d : Int, 0 ≤ d → d < m → Pq (.int d) S
theorem len__law_draw : ∀ ds S Pq Pe, sp__law_draw ds S Pq Pe → ds.length = p__law_draw.length := fun _ _ _ _ ⟨_, _, h, _⟩ => by subst h; rfl
theorem hsp__law_draw (K : Kw) : ∀ ds S Pq Pe, sp__law_draw ds S Pq Pe → dsp K n__law_draw (t__law_draw K) ds S Pq Pe := by
  rintro ds S Pq Pe ⟨a, m, rfl, ha, hm, h⟩
  have hm0 : 0 < m := hm.1
  have hm := CDivW.of hm.1 hm.2
  refine VS.openPen ha fun l i j ns hla hl hi hn => ?_
  have rest : ∀ i' j' : Int, 0 ≤ i' → u__law_draw_3 K Pe { nx := fun x S1 => VS K S1 (Pq .non), rt := fun d S1 => VS K S1 (Pq d) } [some (.ref a), some (.int m), none] (up (up S l (.lst (ns.map .int))) a (.lst [.ref l, .int i', .int j'])) := by
    intro i' j' hi'
    refine dSeq_mk ?_
    simp
    refine ⟨hm0, ?_⟩
    refine dSeq_mk ?_
    simp
    refine ⟨hm, ?_⟩
    try simp [u__law_draw_5]
    refine VS.mkPen (S' := S) (ns := ns) up_same (by rw [up_ne hla, up_same]) hla hi' hn (fun b o hb e => ?_) hl ?_
    · rw [up_ne hb, up_ne (some_ne e hl), e]
    · rw [up_self ha]
      exact h _ (Int.emod_nonneg _ (by omega)) (Int.emod_lt_of_pos _ hm0)
  refine dSeq_mk ?_
  simp
  refine ite2 (fun _ => ?_) fun _ => rest i j hi
  try simp [u__law_draw_2]
  refine ⟨a, l, i, j, ns, rfl, up_same, by simp [up_ne, hla], hla, hi, hn, fun r => ?_⟩
  simp
  exact rest _ _ (by omega)
theorem dfn__law_draw {P : Program} {w : World} {K : PySem.W.Frag} {mg : Str → Option Value} {base : Heap} {f : Addr} {fd : FuncData} (F : Fun K "_law_draw" "_law_draw" s__law_draw f fd) (C__law_fresh : Cal P w K mg base 1 "_law_fresh" p__law_fresh sp__law_fresh) : DFn P w K mg base 2 f fd p__law_draw sp__law_draw :=
  Fun.okD (k := 1) (t := t__law_draw ⟨K, w, mg⟩) F sc__law_draw len__law_draw (fun cdv A outer s H Pe E hgd hr px =>
  (dss_cons (ds_if (dt_cmp c_lt (de_ix (dv 0) de_int) (dv 1))
  (dss_one (ds_setIx (de_fn C__law_fresh hgd hr (da_cons (dv 0) da_nil)) (dv 0) de_int))
  dss_nil)
  (dss_cons (ds_set sc__law_draw.nd (de_op o_mod (de_ix (dv 0) de_int) (dv 1)))
  (dss_cons (ds_setIx (de_op o_fdivW (de_ix (dv 0) de_int) (dv 1)) (dv 0) de_int)
  (dss_one (ds_ret (dv 2))))))) (hsp__law_draw ⟨K, w, mg⟩)
theorem ok__law_draw {P : Program} {w : World} {K : PySem.W.Frag} {mg : Str → Option Value} {base : Heap} (D : Def K mg "_law_draw" "_law_draw" s__law_draw) (C__law_fresh : Cal P w K mg base 1 "_law_fresh" p__law_fresh sp__law_fresh) : Cal P w K mg base 2 "_law_draw" p__law_draw sp__law_draw :=
  let ⟨f, fd, F, hm⟩ := D.ex
  ⟨f, fd, hm, F.kp, F.binds (ps := p__law_draw) fun _ _ _ _ _ _ us hl => match us, hl with | [_, _], _ => rfl, dfn__law_draw F C__law_fresh⟩
@[simp] theorem pen_iff {a : List Int} {S : Store} {P : DK} {e : DX} : sp__law_pen [.scr a] S P e ↔ (a.length ≤ 63 ∧ ∀ l, S l = none → P (.ref l) (up S l .pen)) := ⟨fun ⟨ns, h, q⟩ => by cases h; exact q, fun q => ⟨a, rfl, q⟩⟩
@[simp] theorem draw_iff {a : Addr} {m : Int} {S : Store} {P : DK} {e : DX} : sp__law_draw [.ref a, .int m] S P e ↔ (S a = some .pen ∧ (0 < m ∧ m ≤ 100000000000000000000000000000000000000000) ∧ ∀ d : Int, 0 ≤ d → d < m → P (.int d) S) := ⟨fun ⟨a', m', h, q⟩ => by cases h; exact q, fun q => ⟨a, m, rfl, q⟩⟩
theorem pick {α : Type} (enc : α → Dv) {vs : List α} {i : Int} (h0 : 0 ≤ i) (h1 : i < vs.length) : ∃ v, v ∈ vs ∧ atI (vs.map enc) i = some (enc v) := by
  have hi : i.toNat < vs.length := by omega
  refine ⟨vs[i.toNat], List.getElem_mem hi, ?_⟩
  rw [atI_of h0, List.getElem?_map, List.getElem?_eq_getElem hi]; rfl

abbrev s__law_stream : Stmt := top 14
abbrev n__law_stream : List Str := ["pen", "words", "most", "values", "large", "found", "lap"]
abbrev p__law_stream : List Str := ["pen", "words", "most", "values"]
theorem sc__law_stream : FnScope n__law_stream p__law_stream (defScope s__law_stream) := ⟨rfl, rfl, rfl, by decide +kernel, rfl, by decide +kernel, by decide +kernel⟩
-- found.append((_law_draw(pen, words), (_law_draw(pen, values) - 1) * large))
@[simp] def u__law_stream_4 (K : Kw) (Pe : DX) : DTS :=
  (dDrop (dBM isL gAppend (dVar 5) (dCons (dTup (dCons (dCall sp__law_draw X0 (dCons (dVar 0) (dCons (dVar 1) dNil))) (dCons (dBin gMul (dBin gSub (dCall sp__law_draw X0 (dCons (dVar 0) (dCons (dVar 3) dNil))) (dC (.int 1))) (dVar 4)) dNil))) dNil)))
-- return tuple(found)
@[simp] def u__law_stream_5 (K : Kw) (Pe : DX) : DTS :=
  (dRet (dCB gTuple (dCons (dVar 5) dNil)))
-- for lap in range(_law_draw(pen, most + 1)):
def u__law_stream_3 (K : Kw) (Pe : DX) : DTS :=
  (dSeq (dFor (dIR1 (dCons (dCall sp__law_draw X0 (dCons (dVar 0) (dCons (dBin gAdd (dVar 2) (dC (.int 1))) dNil))) dNil)) (.nm 6)
  (u__law_stream_4 K Pe))
  (u__law_stream_5 K Pe))
-- found = []
def u__law_stream_2 (K : Kw) (Pe : DX) : DTS :=
  (dSeq (dSet 5 (dLst dNil))
  (u__law_stream_3 K Pe))
-- large = [1, 1, 10 ** 25, -10 ** 58][_law_draw(pen, 4)]
def u__law_stream_1 (K : Kw) (Pe : DX) : DTS :=
  (dSeq (dSet 4 (dBin gIx (dLst (dCons (dC (.int 1)) (dCons (dC (.int 1)) (dCons (dBin gPow (dC (.int 10)) (dC (.int 25))) (dCons (dUn gNeg (dBin gPow (dC (.int 10)) (dC (.int 58)))) dNil))))) (dCall sp__law_draw X0 (dCons (dVar 0) (dCons (dC (.int 4)) dNil)))))
  (u__law_stream_2 K Pe))
abbrev t__law_stream (K : Kw) (Pe : DX) : DTS := (u__law_stream_1 K Pe)
def sp__law_stream : DSp := fun ds S Pq _ => ∃ (a : Addr) (w m v : Int), ds = [.ref a, .int w, .int m, .int v] ∧ S a = some .pen ∧ 0 < w ∧ w ≤ 1000 ∧ 0 ≤ m ∧ m ≤ 1000 ∧ 0 < v ∧ v ≤ 99 ∧ ∀ s, Drawn s w m.toNat → Pq (strD s) S
theorem len__law_stream : ∀ ds S Pq Pe, sp__law_stream ds S Pq Pe → ds.length = p__law_stream.length := fun _ _ _ _ ⟨_, _, _, _, h, _⟩ => by subst h; rfl
theorem cdw {m : Int} (h : 0 < m) (h2 : m ≤ 100000) : CDivW 0 m := by
  refine ⟨h, ?_⟩
  have : m.natAbs < 2 ^ 17 := by omega
  have h3 : m.natAbs.log2 < 17 := (Nat.log2_lt (by omega)).mpr this
  omega
theorem hsp__law_stream (K : Kw) : ∀ ds S Pq Pe, sp__law_stream ds S Pq Pe → dsp K n__law_stream (t__law_stream K) ds S Pq Pe := by
  rintro ds S Pq Pe ⟨a, w, m, v, rfl, ha, w1, w2, m1, m2, v1, v2, h⟩
  refine VS.pure ?_
  refine dSeq_mk ?_
  simp
  refine ⟨⟨by decide, by decide, by decide⟩, ⟨by decide, by decide, by decide⟩, fun l hl => ?_⟩
  have hal : a ≠ l := some_ne ha hl
  refine ⟨by rw [up_ne hal]; exact ha, fun d d0 d4 => ?_⟩
  rw [atI_of d0]
  have go : ∀ lg : Int, lg.natAbs ≤ 10 ^ 58 → u__law_stream_2 K Pe { nx := fun x S1 => VS K S1 (Pq .non), rt := fun d S1 => VS K S1 (Pq d) } [some (.ref a), some (.int w), some (.int m), some (.int v), some (.int lg), none, none]
      (up S l (.lst [.int 1, .int 1, .int 10000000000000000000000000, .int (-10000000000000000000000000000000000000000000000000000000000)])) := by
    intro lg hlg
    generalize O.lst [.int 1, .int 1, .int 10000000000000000000000000, .int (-10000000000000000000000000000000000000000000000000000000000)] = ob
    refine dSeq_mk ?_
    simp
    intro f hf1 hf2
    have haf : a ≠ f := some_ne ha hf2
    refine dSeq_mk ?_
    refine dFor_mk ?_
    simp
    refine ⟨by simp [up_ne, haf, hal, ha], by omega, fun n n0 n1 => ?_⟩
    refine ⟨by omega, by omega, ?_⟩
    refine forL_ind (fun k δ S' => ∃ s x, S' = up (up S l ob) f (.lst (s.map mD)) ∧ Drawn s w k ∧ δ = [some (.ref a), some (.int w), some (.int m), some (.int v), some (.int lg), some (.ref f), x])
      ⟨[], _, rfl, ⟨by simp, by simp, by simp⟩, rfl⟩ ?_ ?_
    · rintro k x δ S' hx ⟨s, y, rfl, ds, rfl⟩ N hN
      have hk : k < n.toNat := by
        have := (List.getElem?_eq_some_iff.mp hx).1
        simpa using this
      refine ⟨trivial, _, rfl, ?_⟩
      simp [u__law_stream_4]
      refine ⟨by simp [up_ne, haf, hal, ha], ⟨w1, by omega⟩, fun e e0 e1 => ?_⟩
      refine ⟨by simp [up_ne, haf, hal, ha], ⟨v1, by omega⟩, fun g g0 g1 => ?_⟩
      refine ⟨.inl ⟨by omega, by omega⟩, by have := ds.len; omega, hN _ _ ⟨s ++ [(e, (g - 1) * lg)], _, by simp [mD], ⟨?_, ?_, ?_⟩, rfl⟩⟩
      · have := ds.len; simp; omega
      · intro z hz
        rcases List.mem_append.mp hz with hz | hz
        · exact ds.word z hz
        · simp at hz; subst hz; exact ⟨e0, e1⟩
      · intro z hz
        rcases List.mem_append.mp hz with hz | hz
        · exact ds.val z hz
        · simp at hz; subst hz
          simp only [Int.natAbs_mul]
          have h1 : (g - 1).natAbs ≤ 98 := by omega
          calc (g - 1).natAbs * lg.natAbs ≤ 98 * 10 ^ 58 := Nat.mul_le_mul h1 hlg
            _ < 10 ^ 60 := by decide
    · rintro δ S' ⟨s, y, rfl, ds, rfl⟩
      refine ⟨trivial, ?_⟩
      simp [u__law_stream_5]
      refine VS.sub ((Sub.refl.new hl).new (by exact hf2)) (h s ⟨?_, ds.word, ds.val⟩)
      have := ds.len
      simp at this
      omega
  obtain rfl | rfl | rfl | rfl : d = 0 ∨ d = 1 ∨ d = 2 ∨ d = 3 := by omega
  · exact go _ (by decide)
  · exact go _ (by decide)
  · exact go _ (by decide)
  · exact go _ (by decide)
theorem dfn__law_stream {P : Program} {w : World} {K : PySem.W.Frag} {mg : Str → Option Value} {base : Heap} {f : Addr} {fd : FuncData} (F : Fun K "_law_stream" "_law_stream" s__law_stream f fd) (C__law_draw : Cal P w K mg base 2 "_law_draw" p__law_draw sp__law_draw) (z_range : mg "range" = none) (z_tuple : mg "tuple" = none) : DFn P w K mg base 3 f fd p__law_stream sp__law_stream :=
  Fun.okD (k := 2) (t := t__law_stream ⟨K, w, mg⟩) F sc__law_stream len__law_stream (fun cdv A outer s H Pe E hgd hr px =>
  (dss_cons (ds_set sc__law_stream.nd (de_ix (de_lst (da_cons de_int (da_cons de_int (da_cons (de_op o_pow de_int de_int) (da_cons (de_neg (de_op o_pow de_int de_int)) da_nil))))) (de_fn C__law_draw hgd hr (da_cons (dv 0) (da_cons de_int da_nil)))))
  (dss_cons (ds_set sc__law_stream.nd (de_lst da_nil))
  (dss_cons (ds_for (passes_of rfl) rfl (di_range1 (by rfl) z_range (da_cons (de_fn C__law_draw hgd hr (da_cons (dv 0) (da_cons (de_op o_add (dv 2) de_int) da_nil))) da_nil)) (dp_nm sc__law_stream.nd)
  (dss_one (ds_expr (de_bm mg_append PySem.F.plainAttrs_list PySem.F.slot_list_append PySem.F.type_list_append (dv 5) (da_cons (de_tup (da_cons (de_fn C__law_draw hgd hr (da_cons (dv 0) (da_cons (dv 1) da_nil))) (da_cons (de_op o_mul (de_op o_sub (de_fn C__law_draw hgd hr (da_cons (dv 0) (da_cons (dv 3) da_nil))) de_int) (dv 4)) da_nil))) da_nil)))))
  (dss_one (ds_ret (de_callTy cg_tuple (by rfl) z_tuple (by decide +kernel) (da_cons (dv 5) da_nil)))))))) (hsp__law_stream ⟨K, w, mg⟩)
theorem ok__law_stream {P : Program} {w : World} {K : PySem.W.Frag} {mg : Str → Option Value} {base : Heap} (D : Def K mg "_law_stream" "_law_stream" s__law_stream) (C__law_draw : Cal P w K mg base 2 "_law_draw" p__law_draw sp__law_draw) (z_range : mg "range" = none) (z_tuple : mg "tuple" = none) : Cal P w K mg base 3 "_law_stream" p__law_stream sp__law_stream :=
  let ⟨f, fd, F, hm⟩ := D.ex
  ⟨f, fd, hm, F.kp, F.binds (ps := p__law_stream) fun _ _ _ _ _ _ us hl => match us, hl with | [_, _, _, _], _ => rfl, dfn__law_stream F C__law_draw z_range z_tuple⟩
@[simp] theorem lstream_iff {a : Addr} {w m v : Int} {S : Store} {P : DK} {e : DX} : sp__law_stream [.ref a, .int w, .int m, .int v] S P e ↔ (S a = some .pen ∧ 0 < w ∧ w ≤ 1000 ∧ 0 ≤ m ∧ m ≤ 1000 ∧ 0 < v ∧ v ≤ 99 ∧ ∀ s, Drawn s w m.toNat → P (strD s) S) := ⟨fun ⟨_, _, _, _, h, q⟩ => by cases h; exact q, fun q => ⟨a, w, m, v, rfl, q⟩⟩

--@cut
abbrev s_ParseError___init__ : Stmt := inClass (top 1) 0
abbrev n_ParseError___init__ : List Str := ["self", "line"]
theorem sc_ParseError___init__ : FnScope n_ParseError___init__ n_ParseError___init__ (defScope s_ParseError___init__) := ⟨rfl, rfl, rfl, by decide +kernel, rfl, by decide +kernel, by decide +kernel⟩
abbrev bm_ParseError : List Value := [.type "ValueError", .type "Exception", .type "BaseException", .type "object"]
theorem exc_ParseError {P : Program} {w : World} {K : PySem.W.Frag} {mg : Str → Option Value} {base : Heap} {C : Addr} (m : mg "ParseError" = some (.ref C)) (T : OxC K "ValueError.__new__" bm_ParseError C) (xf : XfC K C) (no : PySem.W.findIn K (.ref C) "line" = some none) (zB : mg "ValueError" = none) (D : DefM K C "__init__" "ParseError.__init__" s_ParseError___init__) : ExcK P w K mg base "ParseError" "line" okI := by
  obtain ⟨f, fd, F, hm⟩ := D.ex
  exact ⟨C, f, fd, n_ParseError___init__, _, _, _, _, m, xb_value, T, hm.at_, beq_iff_eq.mp hm.fn, F.binds (ps := n_ParseError___init__) fun _ _ _ _ _ _ us hl => match us, hl with | [_, _], _ => rfl, rfl, init_okG xb_value T no zB F sc_ParseError___init__ rfl rfl rfl (.inl rfl) (.inl rfl) rfl (by decide) (by decide) (by decide) (by decide) (fun _ => rfl) (fun _ => rfl) (fun Y eN eS => pe_joined (.cons pe_str (.cons (pe_fmt (pe_var (by rw [eN]; rfl) (by rw [eS]; exact .inl rfl) (by decide) (by decide))) (.cons pe_str .nil)))) (fun _ _ _ _ e oy h => fstr_ok3 (by decide) (by decide) e oy h) (fun _ => ⟨_, rfl⟩) (fun _ => rfl) (fun _ => rfl) (fun _ => rfl), xf, no⟩
/-! ### numbers and streams as lists of signs -/
open PySem.NumText (digitsVal AllDigits)
/-- the signs of a whole number -/
def intL (i : Int) : List Nat := if i < 0 then 45 :: TL.numL i.natAbs else TL.numL i.natAbs
theorem tl_int (i : Int) : TL.tl (Str.ofString (toString i)) = intL i := by
  cases i with
  | ofNat n =>
    have e : intL (Int.ofNat n) = TL.numL n := by
      unfold intL
      rw [if_neg (by simp)]
      rfl
    rw [e]
    exact TL.tl_num n
  | negSucc n =>
    have e : intL (Int.negSucc n) = 45 :: TL.numL (n + 1) := by
      unfold intL
      rw [if_pos (by omega)]
      rfl
    rw [e, TL.tl_ofString, ← TL.tl_num, TL.tl_ofString]
    have e2 : toString (Int.negSucc n) = "-" ++ toString ((n + 1 : Nat) : Int) := rfl
    rw [e2, String.toList_append, List.map_append]
    rfl
def digs (l : List Nat) : Bool := l.all fun x => decide (48 ≤ x) && decide (x ≤ 57)
theorem digs_iff {l : List Nat} : digs l = true ↔ AllDigits l := by
  simp [digs, AllDigits]
def numOk (l : List Nat) (d : Nat) : Bool := match l with
  | [] => false
  | c :: r => decide ((c :: r).length ≤ d) && digs (c :: r) && (r.isEmpty || decide (c ≠ 48))
theorem numOk_inv {l : List Nat} {d : Nat} (h : numOk l d = true) : l ≠ [] ∧ l.length ≤ d ∧ AllDigits l ∧ (l.length = 1 ∨ ∃ c r, l = c :: r ∧ 49 ≤ c) := by
  cases l with
  | nil => cases h
  | cons c r =>
    simp only [numOk, Bool.and_eq_true, Bool.or_eq_true, decide_eq_true_eq] at h
    obtain ⟨⟨h1, h2⟩, h3⟩ := h
    have h2 := digs_iff.mp h2
    refine ⟨by simp, h1, h2, ?_⟩
    rcases h3 with h3 | h3
    · rw [List.isEmpty_iff.mp h3]; exact .inl rfl
    · have := h2.head
      exact .inr ⟨c, r, rfl, by omega⟩
theorem num_back {l : List Nat} {d : Nat} (h : numOk l d = true) : TL.numL (digitsVal l) = l := by
  obtain ⟨h0, _, h2, h3⟩ := numOk_inv h
  have hl : 0 < l.length := List.length_pos_iff.mpr h0
  have e := PySem.NumText.toDigits_digitsVal (l.length - 1) l (by omega) h2 (h3.imp (fun z => by omega) id)
  unfold TL.numL
  rw [e, List.map_map]
  refine (List.map_congr_left fun c hc => ?_).trans (List.map_id l)
  have := h2 c hc
  have key : ∀ c : Fin 58, (Char.ofNat c.val).toNat = c.val := by decide
  exact key ⟨c, by omega⟩
theorem val_lt {l : List Nat} : AllDigits l → digitsVal l < 10 ^ l.length := by
  have go : ∀ n (l : List Nat), l.length = n → AllDigits l → digitsVal l < 10 ^ n := by
    intro n
    induction n with
    | zero => intro l hl _; rw [List.length_eq_zero_iff.mp hl]; decide
    | succ n ih =>
      intro l hl h
      have hne : l ≠ [] := by intro e; rw [e] at hl; simp at hl
      have e := List.dropLast_concat_getLast hne
      generalize l.dropLast = i at e
      generalize l.getLast hne = c at e
      subst e
      rw [PySem.NumText.digitsVal_snoc, Nat.pow_succ]
      have := ih i (by simp at hl; omega) fun d hd => h d (List.mem_append_left _ hd)
      have := h c (List.mem_append_right _ (List.mem_singleton.mpr rfl))
      omega
  exact go _ l rfl
theorem numOk_num {n d : Nat} (h : (TL.numL n).length ≤ d) : numOk (TL.numL n) d = true := by
  have h0 := TL.numL_ne n
  have hd := TL.numL_digits n
  have hv := TL.numL_val n
  cases e : TL.numL n with
  | nil => exact absurd e h0
  | cons c r =>
    rw [e] at h hd hv
    simp only [numOk, Bool.and_eq_true, Bool.or_eq_true, decide_eq_true_eq]
    refine ⟨⟨h, digs_iff.mpr hd⟩, ?_⟩
    by_cases hc : c = 48
    · left
      subst hc
      cases r with
      | nil => rfl
      | cons x r =>
        exfalso
        have a : digitsVal (x :: r) = n := hv
        have b := val_lt (l := x :: r) hd.tail
        have c1 := TL.numL_len (n := n) (k := (x :: r).length) (by simp) (by rw [← a]; exact b)
        rw [e] at c1
        simp at c1
        omega
    · exact .inr hc
/-- the number that signs are -/
def nIn (l : List Nat) (most : Int) : Option Int := if numOk l 60 = true ∧ (digitsVal l : Int) ≤ most then some (digitsVal l : Int) else none
def maxV : Int := 999999999999999999999999999999999999999999999999999999999999
theorem ok_max {l : List Nat} (h : numOk l 60 = true) : (digitsVal l : Int) ≤ maxV := by
  obtain ⟨_, h1, h2, _⟩ := numOk_inv h
  have := Nat.lt_of_lt_of_le (val_lt h2) (Nat.pow_le_pow_right (by decide) h1)
  have e : maxV = ((10 ^ 60 - 1 : Nat) : Int) := by decide
  rw [e]
  omega
def vIn : List Nat → Option Int
  | 45 :: r => (nIn r maxV).bind fun n => if n = 0 then none else some (-n)
  | l => nIn l maxV
def partOf (w : Int) (p : List Nat) : Option (Int × Int) := match TL.spl [58] 0 [] p with
  | [a, b] => (nIn a (w - 1)).bind fun x => (vIn b).map fun y => (x, y)
  | _ => none
def allOf (w : Int) : List (List Nat) → Option (List (Int × Int))
  | [] => some []
  | p :: ps => (partOf w p).bind fun x => (allOf w ps).map fun xs => x :: xs
def parseS (w : Int) (l : List Nat) : Option (List (Int × Int)) := if l = [45] then some [] else allOf w (TL.spl [32] 0 [] l)
def msgL (x : Int × Int) : List Nat := intL x.1 ++ 58 :: intL x.2
def textL (s : List (Int × Int)) : List Nat := if s = [] then [45] else TL.joinL [32] (s.map msgL)
theorem intL_free {i : Int} {c : Nat} (h : c < 45 ∨ 57 < c) : c ∉ intL i := by
  unfold intL
  have h1 : c ∉ TL.numL i.natAbs := TL.numL_free (by omega)
  split
  · simp only [List.mem_cons, not_or]
    exact ⟨by omega, h1⟩
  · exact h1
theorem nIn_num {n : Nat} {most : Int} (h : n < 10 ^ 60) (hm : (n : Int) ≤ most) : nIn (TL.numL n) most = some (n : Int) := by
  unfold nIn
  have hl := TL.numL_len (n := n) (k := 60) (by decide) h
  rw [TL.numL_val, if_pos ⟨numOk_num hl, hm⟩]
theorem vIn_int {v : Int} (h : v.natAbs < 10 ^ 60) : vIn (intL v) = some v := by
  have e : maxV = ((10 ^ 60 - 1 : Nat) : Int) := by decide
  have q := nIn_num (n := v.natAbs) (most := maxV) h (by rw [e]; omega)
  unfold intL
  split
  · rename_i hv
    show (nIn (TL.numL v.natAbs) maxV).bind _ = _
    rw [q]
    simp only [Option.bind_some]
    rw [if_neg (by omega)]
    congr 1
    omega
  · rename_i hv
    have e2 : vIn (TL.numL v.natAbs) = nIn (TL.numL v.natAbs) maxV := by
      cases e3 : TL.numL v.natAbs with
      | nil => rfl
      | cons c r =>
        have hd := TL.numL_digits v.natAbs
        rw [e3] at hd
        have := hd.head
        unfold vIn
        split
        · rename_i e4
          simp only [List.cons.injEq] at e4
          omega
        · rfl
    rw [e2, q]
    congr 1
    omega
theorem part_msg {w : Int} {x : Int × Int} (h0 : 0 ≤ x.1) (h1 : x.1 < w) (hw : w ≤ 1000) (h2 : x.2.natAbs < 10 ^ 60) : partOf w (msgL x) = some x := by
  have f1 : (58 : Nat) ∉ intL x.1 := intL_free (by omega)
  have f2 : (58 : Nat) ∉ intL x.2 := intL_free (by omega)
  have e : TL.spl [58] 0 [] (msgL x) = [intL x.1, intL x.2] := by
    have := TL.spl_part1 (s := 58) (S := []) (p := intL x.1) (rest := intL x.2) (acc := []) f1
    rw [TL.spl_last1 f2] at this
    simpa [msgL] using this
  unfold partOf
  rw [e]
  have e1 : intL x.1 = TL.numL x.1.natAbs := by unfold intL; rw [if_neg (by omega)]
  have e2 : nIn (intL x.1) (w - 1) = some x.1 := by
    rw [e1, nIn_num (Nat.lt_trans (show x.1.natAbs < 1000 by omega) (by decide)) (by omega)]
    congr 1
    omega
  simp only [e2, vIn_int h2, Option.bind_some, Option.map_some]
theorem all_msgs {w : Int} (hw : w ≤ 1000) : ∀ {s : List (Int × Int)}, (∀ x ∈ s, (0 ≤ x.1 ∧ x.1 < w) ∧ x.2.natAbs < 10 ^ 60) → allOf w (s.map msgL) = some s
  | [], _ => rfl
  | x :: s, h => by
    have h1 := h x (by simp)
    have ih := all_msgs hw (s := s) fun y hy => h y (by simp [hy])
    simp only [List.map_cons, allOf, part_msg h1.1.1 h1.1.2 hw h1.2, ih, Option.bind_some, Option.map_some]
theorem msg_ne {x : Int × Int} : (58 : Nat) ∈ msgL x := by simp [msgL]
theorem joinL_mem {S : List Nat} {c : Nat} : ∀ {ps : List (List Nat)} {p : List Nat}, p ∈ ps → c ∈ p → c ∈ TL.joinL S ps
  | [q], p, h, hc => by
    simp at h
    subst h
    exact hc
  | q :: r :: ps, p, h, hc => by
    show c ∈ q ++ (S ++ TL.joinL S (r :: ps))
    rcases List.mem_cons.mp h with rfl | h
    · simp [hc]
    · have := joinL_mem (S := S) h hc
      simp [this]
theorem parse_text {w : Int} (hw : w ≤ 1000) {s : List (Int × Int)} (h : ∀ x ∈ s, (0 ≤ x.1 ∧ x.1 < w) ∧ x.2.natAbs < 10 ^ 60) : parseS w (textL s) = some s := by
  unfold parseS textL
  by_cases hs : s = []
  · rw [if_pos hs, if_pos rfl, hs]
  · rw [if_neg hs]
    have ne : TL.joinL [32] (s.map msgL) ≠ [45] := fun z => by
      cases s with
      | nil => exact hs rfl
      | cons x s =>
        have := joinL_mem (S := [32]) (ps := (x :: s).map msgL) (p := msgL x) (by simp) msg_ne
        rw [z] at this
        simp at this
    rw [if_neg ne, TL.spl_join (by simpa using hs) fun p hp => ?_, all_msgs hw h]
    obtain ⟨x, _, rfl⟩ := List.mem_map.mp hp
    have f1 : (32 : Nat) ∉ intL x.1 := intL_free (by omega)
    have f2 : (32 : Nat) ∉ intL x.2 := intL_free (by omega)
    simp [msgL, f1, f2]
/-- splitting at one sign and joining again -/
theorem join_spl {c : Nat} : ∀ (l acc : List Nat), TL.joinL [c] (TL.spl [c] 0 acc l) = acc ++ l ∧ TL.spl [c] 0 acc l ≠ []
  | [], acc => by rw [TL.spl_nil]; simp [TL.joinL]
  | x :: r, acc => by
    cases h : TL.pre [c] (x :: r) with
    | true =>
      rw [TL.spl_hit h]
      have hx : x = c := by
        simp [TL.pre] at h
        exact h
      obtain ⟨h1, h2⟩ := join_spl (c := c) r []
      simp only [List.length_singleton, Nat.sub_self]
      cases e : TL.spl [c] 0 [] r with
      | nil => exact absurd e h2
      | cons p ps =>
        rw [e] at h1
        refine ⟨?_, by simp⟩
        show acc ++ ([c] ++ TL.joinL [c] (p :: ps)) = _
        rw [h1, hx]
        simp
    | false =>
      rw [TL.spl_miss h]
      obtain ⟨h1, h2⟩ := join_spl (c := c) r (acc ++ [x])
      exact ⟨by rw [h1]; simp, h2⟩
def valGood : List Nat → Bool
  | 45 :: r => decide (r ≠ [48]) && numOk r 60
  | l => numOk l 60
def partGood (w : Int) (p : List Nat) : Bool := match TL.spl [58] 0 [] p with
  | [a, b] => numOk a 1 && decide ((digitsVal a : Int) < w) && valGood b
  | _ => false
def goodS (w : Int) (l : List Nat) : Bool := decide (l = [45]) || (TL.spl [32] 0 [] l).all (partGood w)
theorem num1 {a : List Nat} {w : Int} (hw : w ≤ 10) : (numOk a 1 && decide ((digitsVal a : Int) < w)) = true ↔ ∃ x, nIn a (w - 1) = some x := by
  unfold nIn
  constructor
  · intro h
    simp only [Bool.and_eq_true, decide_eq_true_eq] at h
    refine ⟨_, if_pos ⟨?_, by omega⟩⟩
    obtain ⟨h1, h2⟩ := h
    cases a with
    | nil => cases h1
    | cons c r =>
      simp only [numOk, Bool.and_eq_true, decide_eq_true_eq] at h1 ⊢
      exact ⟨⟨by omega, h1.1.2⟩, h1.2⟩
  · rintro ⟨x, h⟩
    split at h
    · rename_i hc
      obtain ⟨h1, h2⟩ := hc
      simp only [Bool.and_eq_true, decide_eq_true_eq]
      refine ⟨?_, by omega⟩
      have nb := num_back h1
      have l1 := TL.numL_len (n := digitsVal a) (k := 1) (by decide) (by omega)
      rw [nb] at l1
      cases a with
      | nil => cases h1
      | cons c r =>
        simp only [numOk, Bool.and_eq_true, decide_eq_true_eq] at h1 ⊢
        exact ⟨⟨l1, h1.1.2⟩, h1.2⟩
    · cases h
theorem nIn_val {a : List Nat} {m x : Int} (h : nIn a m = some x) : intL x = a ∧ 0 ≤ x ∧ x ≤ m ∧ x.natAbs < 10 ^ 60 := by
  unfold nIn at h
  split at h
  · rename_i hc
    cases h
    refine ⟨?_, by omega, hc.2, ?_⟩
    · unfold intL
      rw [if_neg (by omega)]
      exact num_back hc.1
    · have := ok_max hc.1
      have e : maxV = ((10 ^ 60 - 1 : Nat) : Int) := by decide
      rw [e] at this
      omega
  · cases h
theorem nIn_max {l : List Nat} : nIn l maxV = if numOk l 60 = true then some (digitsVal l : Int) else none := by
  unfold nIn
  by_cases h : numOk l 60 = true
  · rw [if_pos ⟨h, ok_max h⟩, if_pos h]
  · rw [if_neg (fun z => h z.1), if_neg h]
theorem zero_val {l : List Nat} (h : numOk l 60 = true) : digitsVal l = 0 ↔ l = [48] := by
  constructor
  · intro e
    rw [← num_back h, e]
    decide +kernel
  · rintro rfl; rfl
theorem vGood {b : List Nat} : (valGood b = true → ∃ v, vIn b = some v ∧ intL v = b ∧ v.natAbs < 10 ^ 60) ∧ (valGood b = false → vIn b = none) := by
  unfold valGood vIn
  split
  · rename_i r
    rw [nIn_max]
    constructor
    · intro h
      simp only [Bool.and_eq_true, decide_eq_true_eq] at h
      obtain ⟨h1, h2⟩ := h
      have hz : digitsVal r ≠ 0 := fun z => h1 ((zero_val h2).mp z)
      rw [if_pos h2]
      simp only [Option.bind_some]
      rw [if_neg (by omega)]
      refine ⟨_, rfl, ?_, ?_⟩
      · unfold intL
        rw [if_pos (by omega)]
        have : (-(digitsVal r : Int)).natAbs = digitsVal r := by omega
        rw [this, num_back h2]
      · have := ok_max h2
        have e : maxV = ((10 ^ 60 - 1 : Nat) : Int) := by decide
        rw [e] at this
        omega
    · intro h
      simp only [Bool.and_eq_false_iff, decide_eq_false_iff_not, Decidable.not_not] at h
      by_cases h2 : numOk r 60 = true
      · rw [if_pos h2]
        rcases h with h | h
        · simp only [Option.bind_some]
          rw [if_pos (by have := (zero_val h2).mpr h; omega)]
        · rw [h] at h2; cases h2
      · rw [if_neg h2]; rfl
  · rw [nIn_max]
    constructor
    · intro h
      rw [if_pos h]
      refine ⟨_, rfl, ?_, ?_⟩
      · unfold intL
        rw [if_neg (by omega)]
        have : ((digitsVal b : Int)).natAbs = digitsVal b := by omega
        rw [this, num_back h]
      · have := ok_max h
        have e : maxV = ((10 ^ 60 - 1 : Nat) : Int) := by decide
        rw [e] at this
        omega
    · intro h
      rw [if_neg (by rw [h]; simp)]
theorem pGood {w : Int} (hw : w ≤ 10) {p : List Nat} : (partGood w p = true → ∃ x, partOf w p = some x ∧ msgL x = p ∧ 0 ≤ x.1 ∧ x.1 < w ∧ x.2.natAbs < 10 ^ 60) ∧ (partGood w p = false → partOf w p = none) := by
  have js := (join_spl (c := 58) p []).1
  unfold partGood partOf
  split
  · rename_i a b e
    rw [e] at js
    have js : a ++ 58 :: b = p := by simpa [TL.joinL] using js
    constructor
    · intro h
      rw [Bool.and_eq_true] at h
      obtain ⟨x, hx⟩ := (num1 hw).mp h.1
      obtain ⟨v, hv, i1, i2⟩ := vGood.1 h.2
      obtain ⟨j1, j2, j3, _⟩ := nIn_val hx
      exact ⟨(x, v), by rw [hx, hv]; rfl, by simp [msgL, i1, j1, js], j2, by simp only; omega, i2⟩
    · intro h
      rw [Bool.and_eq_false_iff] at h
      rcases h with h | h
      · cases q : nIn a (w - 1) with
        | none => rfl
        | some x => rw [(num1 hw).mpr ⟨x, q⟩] at h; cases h
      · rw [vGood.2 h]
        cases nIn a (w - 1) <;> rfl
  · exact ⟨(fun h => nomatch h), fun _ => rfl⟩
theorem aGood {w : Int} (hw : w ≤ 10) : ∀ {ps : List (List Nat)}, (ps.all (partGood w) = true → ∃ s, allOf w ps = some s ∧ s.map msgL = ps ∧ ∀ x ∈ s, 0 ≤ x.1 ∧ x.1 < w ∧ x.2.natAbs < 10 ^ 60) ∧ (ps.all (partGood w) = false → allOf w ps = none)
  | [] => ⟨fun _ => ⟨[], rfl, rfl, by simp⟩, fun h => by simp at h⟩
  | p :: ps => by
    obtain ⟨h1, h2⟩ := aGood hw (ps := ps)
    obtain ⟨g1, g2⟩ := pGood hw (p := p)
    constructor
    · intro h
      rw [List.all_cons, Bool.and_eq_true] at h
      obtain ⟨x, e1, e2, e3⟩ := g1 h.1
      obtain ⟨s, f1, f2, f3⟩ := h1 h.2
      refine ⟨x :: s, by simp [allOf, e1, f1], by simp [e2, f2], fun y hy => ?_⟩
      rcases List.mem_cons.mp hy with rfl | hy
      · exact e3
      · exact f3 y hy
    · intro h
      rw [List.all_cons, Bool.and_eq_false_iff] at h
      rcases h with h | h
      · simp [allOf, g2 h]
      · simp only [allOf, h2 h]
        cases partOf w p <;> rfl
theorem sGood {w : Int} (hw : w ≤ 10) {l : List Nat} : (goodS w l = true → ∃ s, parseS w l = some s ∧ textL s = l ∧ ∀ x ∈ s, 0 ≤ x.1 ∧ x.1 < w ∧ x.2.natAbs < 10 ^ 60) ∧ (goodS w l = false → parseS w l = none) := by
  unfold goodS parseS
  by_cases e : l = [45]
  · rw [if_pos e]
    subst e
    exact ⟨fun _ => ⟨[], rfl, rfl, by simp⟩, fun h => by simp at h⟩
  · rw [if_neg e]
    obtain ⟨h1, h2⟩ := aGood hw (ps := TL.spl [32] 0 [] l)
    simp only [e, decide_false, Bool.false_or]
    refine ⟨fun h => ?_, h2⟩
    obtain ⟨s, f1, f2, f3⟩ := h1 h
    refine ⟨s, f1, ?_, f3⟩
    obtain ⟨j1, j2⟩ := join_spl (c := 32) l []
    unfold textL
    have hs : s ≠ [] := fun z => by
      rw [z] at f2
      exact j2 f2.symm
    rw [if_neg hs, f2, j1]
    rfl

--@cut
/-! ### texts: the walk -/
open PySem.NumText (digitsVal AllDigits)
theorem txt_eq {x : Str} {y : String} {l : List Nat} (h : TL.tl (Str.ofString y) = l) : (Dv.str x = Dv.str (Str.ofString y)) ↔ TL.tl x = l := by
  subst h
  exact ⟨fun e => by simp only [Dv.str.injEq] at e; rw [e], fun e => by rw [TL.ext_tl e]⟩
theorem st_eq {x : Str} {y : String} {l : List Nat} (h : TL.tl (Str.ofString y) = l) : (x = Str.ofString y) ↔ TL.tl x = l := by
  subst h
  exact ⟨fun e => by rw [e], fun e => TL.ext_tl e⟩
theorem sg_eq {c : Nat} {y : String} {n : Nat} (h : TL.tl (Str.ofString y) = [n]) : ((⟨#[c]⟩ : Str) = Str.ofString y) ↔ c = n := by
  rw [st_eq h]
  show [c] = [n] ↔ _
  simp
theorem sgn_eq {c : Nat} {y : String} {n : Nat} (h : TL.tl (Str.ofString y) = [n]) : (sgn c = Dv.str (Str.ofString y)) ↔ c = n := by
  rw [txt_eq h]
  show [c] = [n] ↔ _
  simp
@[simp] theorem gInS_sgn {f : Bool → Bool} {c : Nat} {z : Str} {S : Store} {P : DK} : gInS f (sgn c) (.str z) S P ↔ P (.bl (f (decide (c ∈ z.cps.toList)))) S := Iff.rfl
theorem dig_mem {c : Nat} : decide (c ∈ (Str.ofString "0123456789").cps.toList) = (decide (48 ≤ c) && decide (c ≤ 57)) := by
  rw [show (Str.ofString "0123456789").cps.toList = [48, 49, 50, 51, 52, 53, 54, 55, 56, 57] from by decide +kernel, Bool.eq_iff_iff]
  simp only [List.mem_cons, List.not_mem_nil, or_false, decide_eq_true_eq, Bool.and_eq_true]
  omega
theorem dig_mem2 {c : Nat} : decide (c ∈ (Str.ofString "0123456789").cps) = (decide (48 ≤ c) && decide (c ≤ 57)) := by
  rw [← dig_mem]
  simp
theorem digs_all (l : List Nat) : (l.map fun c => decide (48 ≤ c) && decide (c ≤ 57)).all id = digs l := by
  simp [digs, List.all_map]
theorem lenT (x : Str) : x.length = (TL.tl x).length := TL.len_tl x
theorem int_ok {x : Str} {d : Nat} (h : numOk (TL.tl x) d = true) (hd : d ≤ 640) {S : Store} {P : DK} (q : P (.int (digitsVal (TL.tl x))) S) : gInt [.str x] S P := by
  obtain ⟨h0, h1, h2, _⟩ := numOk_inv h
  have e := PySem.intText_digits h2 h0 (by rw [lenT]; omega)
  refine ⟨by rw [lenT]; omega, ?_⟩
  rw [e]
  exact q
/-- a number, or None -/
def optD : Option Int → Dv
  | some i => .int i
  | none => .non
abbrev s_number_in : Stmt := top 7
abbrev n_number_in : List Str := ["word", "most", "sign"]
abbrev p_number_in : List Str := ["word", "most"]
theorem sc_number_in : FnScope n_number_in p_number_in (defScope s_number_in) := ⟨rfl, rfl, rfl, by decide +kernel, rfl, by decide +kernel, by decide +kernel⟩
-- return None
@[simp] def u_number_in_2 (K : Kw) (Pe : DX) : DTS :=
  (dRet (dC .non))
-- return None
@[simp] def u_number_in_4 (K : Kw) (Pe : DX) : DTS :=
  (dRet (dC .non))
-- return int(word) if int(word) <= most else None
@[simp] def u_number_in_5 (K : Kw) (Pe : DX) : DTS :=
  (dRet (dIf (dB (dBin (gCmp fun i j => decide (i ≤ j)) (dCB gInt (dCons (dVar 0) dNil)) (dVar 1))) (dCB gInt (dCons (dVar 0) dNil)) (dC .non)))
-- if word[0] == '0' and word != '0':
def u_number_in_3 (K : Kw) (Pe : DX) : DTS :=
  (dSeq (dIfS (dAnd (dB (dBin (gEqF id) (dBin gIxS (dVar 0) (dC (.int 0))) (dC (.str "0")))) (dB (dBin (gEqF not) (dVar 0) (dC (.str "0")))))
  (u_number_in_4 K Pe)
  dNext)
  (u_number_in_5 K Pe))
-- if word == '' or len(word) > MAX_DIGITS or (not all([sign in DIGITS for sign in word])):
def u_number_in_1 (K : Kw) (Pe : DX) : DTS :=
  (dSeq (dIfS (dOr (dB (dBin (gEqF id) (dVar 0) (dC (.str "")))) (dOr (dB (dBin (gCmp fun i j => decide (j < i)) (dCB gLenA (dCons (dVar 0) dNil)) (dC (.int 60)))) (dNot (dB (dCB gAll (dCons (dLc (dIS (dVar 0)) (.nm 2) dYes (dBin (gInS id) (dVar 2) (dC (.str "0123456789"))) [2]) dNil))))))
  (u_number_in_2 K Pe)
  dNext)
  (u_number_in_3 K Pe))
abbrev t_number_in (K : Kw) (Pe : DX) : DTS := (u_number_in_1 K Pe)
def sp_number_in : DSp := fun ds S Pq _ => ∃ (x : Str) (m : Int), ds = [.str x, .int m] ∧ x.length ≤ 100000 ∧ Pq (optD (nIn (TL.tl x) m)) S
theorem len_number_in : ∀ ds S Pq Pe, sp_number_in ds S Pq Pe → ds.length = p_number_in.length := fun _ _ _ _ ⟨_, _, h, _⟩ => by subst h; rfl
theorem hsp_number_in (K : Kw) : ∀ ds S Pq Pe, sp_number_in ds S Pq Pe → dsp K n_number_in (t_number_in K) ds S Pq Pe := by
  rintro ds S Pq Pe ⟨x, m, rfl, hx, h⟩
  refine VS.pure ?_
  unfold t_number_in
  simp [u_number_in_1, u_number_in_2]
  by_cases h0 : x = Str.ofString ""
  · rw [if_pos h0]
    have e : TL.tl x = [] := by rw [h0]; rfl
    rw [e] at h
    exact VS.pure h
  rw [if_neg h0]
  have hne : TL.tl x ≠ [] := fun e => h0 (TL.ext_tl (by rw [e]; rfl))
  refine ⟨by omega, ?_⟩
  have none : numOk (TL.tl x) 60 = false → Pq .non S := fun e => by
    have : nIn (TL.tl x) m = Option.none := by unfold nIn; rw [e]; simp
    rw [this] at h
    exact h
  by_cases hl : 60 < (x.length : Int)
  · rw [if_pos hl]
    refine VS.pure (none ?_)
    rw [lenT] at hl
    cases e : TL.tl x with
    | nil => rfl
    | cons c r =>
      rw [e] at hl
      simp only [numOk]
      rw [decide_eq_false (by omega)]
      rfl
  rw [if_neg hl]
  refine lc_mk ?_
  simp
  intro D hD
  refine lcRun_all sgn (fun c => Dv.bl (decide (48 ≤ c) && decide (c ≤ 57))) (TL.tl x) (by rw [← lenT]; omega) (fun _ => trivial) (fun c hc => ⟨_, rfl, fun acc N hN => by simp; rw [dig_mem2]; exact hN⟩) ?_
  refine ⟨(TL.tl x).map fun c => decide (48 ≤ c) && decide (c ≤ 57), by rw [up_same, List.map_map]; rfl, ?_⟩
  rw [digs_all]
  have out : ∀ d, Pq d S → VS K (up S D (O.lst (List.map (fun c => Dv.bl (decide (48 ≤ c) && decide (c ≤ 57))) (TL.tl x)))) (Pq d) := fun d q => VS.sub (Sub.refl.new hD) q
  generalize up S D _ = S1 at out
  dsimp only
  cases hd : digs (TL.tl x) with
  | false =>
    rw [if_neg (by simp)]
    refine out _ (none ?_)
    cases e : TL.tl x with
    | nil => rfl
    | cons c r =>
      rw [e] at hd
      simp only [numOk, hd]
      simp
  | true =>
    rw [if_pos rfl]
    obtain ⟨c, r, e⟩ : ∃ c r, TL.tl x = c :: r := by
      cases e : TL.tl x with
      | nil => exact absurd e hne
      | cons c r => exact ⟨c, r, rfl⟩
    have a0 : atI x.cps.toList 0 = some c := by
      rw [show x.cps.toList = c :: r from e, atI_of (by omega)]; rfl
    have len : (c :: r).length ≤ 60 := by rw [← e, ← lenT]; omega
    have okv : numOk (TL.tl x) 60 = (r.isEmpty || decide (c ≠ 48)) := by
      rw [e] at hd ⊢
      simp only [numOk, hd, Bool.and_true]
      rw [decide_eq_true len]
      rfl
    have fin : numOk (TL.tl x) 60 = true → u_number_in_5 K Pe { nx := fun x S1 => VS K S1 (Pq Dv.non), rt := fun d S1 => VS K S1 (Pq d) } [some (Dv.str x), some (Dv.int m), Option.none] S1 := fun ok => by
      have hi : ∀ P : DK, P (.int (digitsVal (TL.tl x))) S1 → gInt [.str x] S1 P := fun P q => int_ok ok (by omega) q
      simp [-gInt]
      refine hi _ ?_
      dsimp only
      unfold nIn at h
      by_cases hm : (digitsVal (TL.tl x) : Int) ≤ m
      · rw [if_pos ⟨ok, hm⟩] at h
        simp [hm, -gInt]
        exact hi _ (out _ h)
      · rw [if_neg (fun z => hm z.2)] at h
        simp [hm, -gInt]
        exact out _ h
    have e48 : (x = Str.ofString "0") ↔ r = [] ∧ c = 48 := by
      rw [st_eq (l := [48]) rfl, e]
      simp [and_comm]
    have s48 : ((⟨#[c]⟩ : Str) = Str.ofString "0") ↔ c = 48 := sg_eq rfl
    unfold u_number_in_5 at fin
    simp at fin
    simp [u_number_in_3, a0, e48, s48]
    refine ⟨by omega, ?_⟩
    by_cases hc : c = 48
    · by_cases hr : r = []
      · simpa [hc, hr] using fin (by rw [okv, hr]; rfl)
      · simp [hc, hr]
        refine out _ (none ?_)
        rw [okv, hc]
        cases r with
        | nil => exact absurd rfl hr
        | cons y r => rfl
    · simpa [hc] using fin (by rw [okv]; simp [hc])
theorem dfn_number_in {P : Program} {w : World} {K : PySem.W.Frag} {mg : Str → Option Value} {base : Heap} {f : Addr} {fd : FuncData} (F : Fun K "number_in" "number_in" s_number_in f fd) (z_len : mg "len" = none) (g_MAX_DIGITS : ∃ t, mg "MAX_DIGITS" = some (.int 60 t)) (g_DIGITS : ∃ t, mg "DIGITS" = some (.str "0123456789" t)) (z_all : mg "all" = none) (z_int : mg "int" = none) : DFn P w K mg base 1 f fd p_number_in sp_number_in :=
  Fun.okD (k := 0) (t := t_number_in ⟨K, w, mg⟩) F sc_number_in len_number_in (fun cdv A outer s H Pe E hgd hr px =>
  (dss_cons (ds_if (L2.PW.pt (dw_or (dt_cmp (c_eq (units_64 hr)) (dv 0) de_str) (dw_or (dt_cmp c_gt (de_callB cg_lenA (by rfl) z_len (by decide +kernel) (da_cons (dv 0) da_nil)) (de_gint g_MAX_DIGITS)) (dw_or1 (dt_not (dt_val (de_callB (cg_all rfl) (by rfl) z_all (by decide +kernel) (da_cons (de_lc (own := [("sign", 2)]) rfl sc_number_in.nd (di_str (dv 0)) (blkOk_by (own := [("sign", 2)]) (N := n_number_in) (sc := defScope s_number_in) (by decide +kernel)) (fun _ _ _ _ _ => (dp_nm sc_number_in.nd)) (fun _ _ _ _ _ => dts_nil) (fun _ _ _ _ _ => (de_cmp c_inS (dv 2) (de_gtx g_DIGITS)))) da_nil))))))))
  (dss_one (ds_ret de_non))
  dss_nil)
  (dss_cons (ds_if (L2.PW.pt (dw_and (dt_cmp (c_eq (units_64 hr)) (de_ixS (dv 0) de_int) de_str) (dw_and1 (dt_cmp (c_ne (units_64 hr)) (dv 0) de_str))))
  (dss_one (ds_ret de_non))
  dss_nil)
  (dss_one (ds_ret (de_if (dt_cmp c_le (de_callTy cg_int (by rfl) z_int (by decide +kernel) (da_cons (dv 0) da_nil)) (dv 1)) (de_callTy cg_int (by rfl) z_int (by decide +kernel) (da_cons (dv 0) da_nil)) de_non)))))) (hsp_number_in ⟨K, w, mg⟩)
theorem ok_number_in {P : Program} {w : World} {K : PySem.W.Frag} {mg : Str → Option Value} {base : Heap} (D : Def K mg "number_in" "number_in" s_number_in) (z_len : mg "len" = none) (g_MAX_DIGITS : ∃ t, mg "MAX_DIGITS" = some (.int 60 t)) (g_DIGITS : ∃ t, mg "DIGITS" = some (.str "0123456789" t)) (z_all : mg "all" = none) (z_int : mg "int" = none) : Cal P w K mg base 1 "number_in" p_number_in sp_number_in :=
  let ⟨f, fd, F, hm⟩ := D.ex
  ⟨f, fd, hm, F.kp, F.binds (ps := p_number_in) fun _ _ _ _ _ _ us hl => match us, hl with | [_, _], _ => rfl, dfn_number_in F z_len g_MAX_DIGITS g_DIGITS z_all z_int⟩
theorem tl_take1 (x : Str) : TL.tl (cutS x none (some 1)) = (TL.tl x).take 1 := by
  show ((x.cps.toList.drop (HT.sIx x.length 0 none)).take (HT.sIx x.length x.length (some 1) - HT.sIx x.length 0 none)) = _
  rw [HT.sIx_none, show (1 : Int) = ((1 : Nat) : Int) from rfl, HT.sIx_nat]
  simp only [List.drop_zero, Nat.sub_zero]
  rw [List.take_eq_take_iff]
  have := lenT x
  simp only [TL.tl] at this
  omega
theorem tl_drop1 (x : Str) : TL.tl (cutS x (some 1) none) = (TL.tl x).drop 1 := by
  show ((x.cps.toList.drop (HT.sIx x.length 0 (some 1))).take (HT.sIx x.length x.length none - HT.sIx x.length 0 (some 1))) = _
  rw [HT.sIx_none, show (1 : Int) = ((1 : Nat) : Int) from rfl, HT.sIx_nat]
  have := lenT x
  simp only [TL.tl] at this ⊢
  rw [List.take_of_length_le (by rw [List.length_drop]; omega)]
  cases h : x.cps.toList with
  | nil => simp
  | cons c r =>
    rw [h] at this
    simp only [List.length_cons] at this
    have e1 : min 1 x.length = 1 := by omega
    rw [e1]
@[simp] theorem number_in_iff {x : Str} {m : Int} {S : Store} {P : DK} {e : DX} : sp_number_in [.str x, .int m] S P e ↔ (x.length ≤ 100000 ∧ P (optD (nIn (TL.tl x) m)) S) := ⟨fun ⟨_, _, h, q⟩ => by simp at h; obtain ⟨rfl, rfl⟩ := h; exact q, fun q => ⟨x, m, rfl, q⟩⟩
abbrev s_value_in : Stmt := top 8
abbrev n_value_in : List Str := ["word", "found"]
abbrev p_value_in : List Str := ["word"]
theorem sc_value_in : FnScope n_value_in p_value_in (defScope s_value_in) := ⟨rfl, rfl, rfl, by decide +kernel, rfl, by decide +kernel, by decide +kernel⟩
-- return number_in(word, MAX_VALUE)
@[simp] def u_value_in_2 (K : Kw) (Pe : DX) : DTS :=
  (dRet (dCall sp_number_in X0 (dCons (dVar 0) (dCons (dC (.int 999999999999999999999999999999999999999999999999999999999999)) dNil))))
-- return None if found is None or found == 0 else -found
@[simp] def u_value_in_4 (K : Kw) (Pe : DX) : DTS :=
  (dRet (dIf (dOr (dB (dBin (gIs id) (dVar 1) (dC .non))) (dB (dBin (gEqF id) (dVar 1) (dC (.int 0))))) (dC .non) (dUn gNeg (dVar 1))))
-- found = number_in(word[1:], MAX_VALUE)
def u_value_in_3 (K : Kw) (Pe : DX) : DTS :=
  (dSeq (dSet 1 (dCall sp_number_in X0 (dCons (dSlS (dVar 0) (dPart (dC (.int 1))) dNoPart) (dCons (dC (.int 999999999999999999999999999999999999999999999999999999999999)) dNil))))
  (u_value_in_4 K Pe))
-- if word[:1] != '-':
def u_value_in_1 (K : Kw) (Pe : DX) : DTS :=
  (dSeq (dIfS (dB (dBin (gEqF not) (dSlS (dVar 0) dNoPart (dPart (dC (.int 1)))) (dC (.str "-"))))
  (u_value_in_2 K Pe)
  dNext)
  (u_value_in_3 K Pe))
abbrev t_value_in (K : Kw) (Pe : DX) : DTS := (u_value_in_1 K Pe)
def sp_value_in : DSp := fun ds S Pq _ => ∃ (x : Str), ds = [.str x] ∧ x.length ≤ 100000 ∧ Pq (optD (vIn (TL.tl x))) S
theorem len_value_in : ∀ ds S Pq Pe, sp_value_in ds S Pq Pe → ds.length = p_value_in.length := fun _ _ _ _ ⟨_, h, _⟩ => by subst h; rfl
theorem hsp_value_in (K : Kw) : ∀ ds S Pq Pe, sp_value_in ds S Pq Pe → dsp K n_value_in (t_value_in K) ds S Pq Pe := by
  rintro ds S Pq Pe ⟨x, rfl, hx, h⟩
  refine VS.pure ?_
  unfold t_value_in
  have v45 : (cutS x none (some 1) = Str.ofString "-") ↔ ∃ r, TL.tl x = 45 :: r := by
    rw [st_eq (l := [45]) rfl, tl_take1]
    cases TL.tl x with
    | nil => simp
    | cons c r => simp
  simp [u_value_in_1, hx]
  refine ⟨by omega, ?_⟩
  by_cases hm : ∃ r, TL.tl x = 45 :: r
  · rw [if_pos (v45.mpr hm)]
    obtain ⟨r, e⟩ := hm
    have l2 := L2.cutS_length x (some 1) none
    have e2 : TL.tl (cutS x (some 1) none) = r := by rw [tl_drop1, e]; rfl
    simp [u_value_in_3, e2]
    refine ⟨by omega, by omega, ?_⟩
    rw [e] at h
    have h : Pq (optD ((nIn r maxV).bind fun n => if n = 0 then none else some (-n))) S := h
    unfold maxV at h
    cases q : nIn r 999999999999999999999999999999999999999999999999999999999999 with
    | none =>
      rw [q] at h
      simp [optD]
      exact VS.pure h
    | some n =>
      rw [q] at h
      simp [optD] at h ⊢
      by_cases hn : n = 0
      · simp [hn] at h ⊢
        exact VS.pure h
      · simp [hn] at h ⊢
        exact VS.pure h
  · rw [if_neg (fun z => hm (v45.mp z))]
    have e3 : vIn (TL.tl x) = nIn (TL.tl x) maxV := by
      unfold vIn
      split
      · rename_i r e
        exact absurd ⟨r, e⟩ hm
      · rfl
    rw [e3] at h
    exact VS.pure h
theorem dfn_value_in {P : Program} {w : World} {K : PySem.W.Frag} {mg : Str → Option Value} {base : Heap} {f : Addr} {fd : FuncData} (F : Fun K "value_in" "value_in" s_value_in f fd) (g_MAX_VALUE : ∃ t, mg "MAX_VALUE" = some (.int 999999999999999999999999999999999999999999999999999999999999 t)) (C_number_in : Cal P w K mg base 1 "number_in" p_number_in sp_number_in) : DFn P w K mg base 2 f fd p_value_in sp_value_in :=
  Fun.okD (k := 1) (t := t_value_in ⟨K, w, mg⟩) F sc_value_in len_value_in (fun cdv A outer s H Pe E hgd hr px =>
  (dss_cons (ds_if (dt_cmp (c_ne (units_64 hr)) (de_slS (dv 0) do_none (do_some de_int)) de_str)
  (dss_one (ds_ret (de_fn C_number_in hgd hr (da_cons (dv 0) (da_cons (de_gint g_MAX_VALUE) da_nil)))))
  dss_nil)
  (dss_cons (ds_set sc_value_in.nd (de_fn C_number_in hgd hr (da_cons (de_slS (dv 0) (do_some de_int) do_none) (da_cons (de_gint g_MAX_VALUE) da_nil))))
  (dss_one (ds_ret (de_if (L2.PW.pt (dw_or (dt_cmp c_is (dv 1) de_non) (dw_or1 (dt_cmp (c_eq (units_64 hr)) (dv 1) de_int)))) de_non (de_neg (dv 1)))))))) (hsp_value_in ⟨K, w, mg⟩)
theorem ok_value_in {P : Program} {w : World} {K : PySem.W.Frag} {mg : Str → Option Value} {base : Heap} (D : Def K mg "value_in" "value_in" s_value_in) (g_MAX_VALUE : ∃ t, mg "MAX_VALUE" = some (.int 999999999999999999999999999999999999999999999999999999999999 t)) (C_number_in : Cal P w K mg base 1 "number_in" p_number_in sp_number_in) : Cal P w K mg base 2 "value_in" p_value_in sp_value_in :=
  let ⟨f, fd, F, hm⟩ := D.ex
  ⟨f, fd, hm, F.kp, F.binds (ps := p_value_in) fun _ _ _ _ _ _ us hl => match us, hl with | [_], _ => rfl, dfn_value_in F g_MAX_VALUE C_number_in⟩
@[simp] theorem value_in_iff {x : Str} {S : Store} {P : DK} {e : DX} : sp_value_in [.str x] S P e ↔ (x.length ≤ 100000 ∧ P (optD (vIn (TL.tl x))) S) := ⟨fun ⟨_, h, q⟩ => by simp at h; obtain rfl := h; exact q, fun q => ⟨x, rfl, q⟩⟩

--@cut
/-! ### parse_stream -/
open PySem.NumText (digitsVal AllDigits)
theorem allOf_snoc {w : Int} (p : List Nat) : ∀ ps : List (List Nat), allOf w (ps ++ [p]) = (allOf w ps).bind fun xs => (partOf w p).map fun x => xs ++ [x]
  | [] => by simp only [List.nil_append, allOf, Option.bind_some]; cases partOf w p <;> rfl
  | q :: ps => by
    simp only [List.cons_append, allOf, allOf_snoc p ps]
    cases partOf w q with
    | none => rfl
    | some y =>
      simp only [Option.bind_some]
      cases allOf w ps with
      | none => rfl
      | some ys =>
        simp only [Option.bind_some, Option.map_some]
        cases partOf w p <;> rfl
theorem allOf_none {w : Int} {p : List Nat} (h : partOf w p = none) : ∀ {ps : List (List Nat)}, p ∈ ps → allOf w ps = none
  | q :: ps, hm => by
    rcases List.mem_cons.mp hm with rfl | hm
    · simp [allOf, h]
    · simp only [allOf, allOf_none h hm]
      cases partOf w q <;> rfl
theorem allOf_len {w : Int} : ∀ {ps : List (List Nat)} {s : List (Int × Int)}, allOf w ps = some s → s.length = ps.length
  | [], s, h => by simp only [allOf, Option.some.injEq] at h; rw [← h]; rfl
  | p :: ps, s, h => by
    simp only [allOf] at h
    obtain ⟨x, _, h⟩ := Option.bind_eq_some_iff.mp h
    obtain ⟨xs, h1, rfl⟩ := Option.map_eq_some_iff.mp h
    simp [allOf_len h1]
theorem split_tl (x : Str) {y : String} {c : Nat} (h : TL.tl (Str.ofString y) = [c]) (hc : c < 256) : (Txt.split x (Str.ofString y)).map TL.tl = TL.spl [c] 0 [] (TL.tl x) := by
  rw [← h]
  refine TL.split_spl x _ (by rw [h]; simp) (TL.kind_ok ?_)
  have e : (Str.ofString y).cps = #[c] := by rw [← Array.toList_inj]; exact h
  rw [e]
  simp [hc]
theorem split_ne (x y : Str) (n : Nat) (h : (Txt.split x y).map TL.tl = TL.spl [n] 0 [] (TL.tl x)) : ∃ a r, Txt.split x y = a :: r := by
  have := (join_spl (c := n) (TL.tl x) []).2
  rw [← h] at this
  cases e : Txt.split x y with
  | nil => rw [e] at this; exact absurd rfl this
  | cons a r => exact ⟨a, r, rfl⟩
theorem joinL_len {S : List Nat} : ∀ {ps : List (List Nat)} {p : List Nat}, p ∈ ps → p.length ≤ (TL.joinL S ps).length
  | [q], p, h => by simp at h; subst h; exact Nat.le_refl _
  | q :: r :: ps, p, h => by
    show p.length ≤ (q ++ (S ++ TL.joinL S (r :: ps))).length
    rcases List.mem_cons.mp h with rfl | h
    · simp
    · have := joinL_len (S := S) h
      simp
      omega
theorem split_len {x y : Str} {n : Nat} (h : (Txt.split x y).map TL.tl = TL.spl [n] 0 [] (TL.tl x)) {p : Str} (hp : p ∈ Txt.split x y) : p.length ≤ x.length := by
  have := (join_spl (c := n) (TL.tl x) []).1
  rw [lenT, lenT, ← List.nil_append (TL.tl x), ← this, ← h]
  exact joinL_len (List.mem_map_of_mem hp)
theorem none_bk {S S' : Store} {a : Addr} (e : Ext S S') (h : S' a = none) : S a = none := by
  cases q : S a with
  | none => rfl
  | some o => rw [e a o q] at h; cases h
theorem Ext_put {S S' : Store} {a : Addr} {o : O} (e : Ext S S') (h : S a = none) : Ext S (up S' a o) := fun b u q => by rw [up_ne (some_ne q h)]; exact e b u q
abbrev s_parse_stream : Stmt := top 9
abbrev n_parse_stream : List Str := ["text", "words", "found", "part", "sides", "word", "value"]
abbrev p_parse_stream : List Str := ["text", "words"]
theorem sc_parse_stream : FnScope n_parse_stream p_parse_stream (defScope s_parse_stream) := ⟨rfl, rfl, rfl, by decide +kernel, rfl, by decide +kernel, by decide +kernel⟩
-- return ()
@[simp] def u_parse_stream_2 (K : Kw) (Pe : DSt → DX) : DTS :=
  (dRet (dTup dNil))
-- raise ParseError(0)
@[simp] def u_parse_stream_9 (K : Kw) (Pe : DSt → DX) : DTS :=
  (dRaiseI Pe "ParseError" "line" (dCons (dC (.int 0)) dNil))
-- found.append((word, value))
@[simp] def u_parse_stream_10 (K : Kw) (Pe : DSt → DX) : DTS :=
  (dDrop (dBM isL gAppend (dVar 2) (dCons (dTup (dCons (dVar 5) (dCons (dVar 6) dNil))) dNil)))
-- if word is None or value is None:
def u_parse_stream_8 (K : Kw) (Pe : DSt → DX) : DTS :=
  (dSeq (dIfS (dOr (dB (dBin (gIs id) (dVar 5) (dC .non))) (dB (dBin (gIs id) (dVar 6) (dC .non))))
  (u_parse_stream_9 K Pe)
  dNext)
  (u_parse_stream_10 K Pe))
-- value = value_in(sides[1]) if len(sides) == 2 else None
def u_parse_stream_7 (K : Kw) (Pe : DSt → DX) : DTS :=
  (dSeq (dSet 6 (dIf (dB (dBin (gEqF id) (dCB gLenA (dCons (dVar 4) dNil)) (dC (.int 2)))) (dCall sp_value_in X0 (dCons (dBin gIx (dVar 4) (dC (.int 1))) dNil)) (dC .non)))
  (u_parse_stream_8 K Pe))
-- word = number_in(sides[0], words - 1)
def u_parse_stream_6 (K : Kw) (Pe : DSt → DX) : DTS :=
  (dSeq (dSet 5 (dCall sp_number_in X0 (dCons (dBin gIx (dVar 4) (dC (.int 0))) (dCons (dBin gSub (dVar 1) (dC (.int 1))) dNil))))
  (u_parse_stream_7 K Pe))
-- sides = part.split(':')
def u_parse_stream_5 (K : Kw) (Pe : DSt → DX) : DTS :=
  (dSeq (dSet 4 (dSplit (dVar 3) (dC (.str ":"))))
  (u_parse_stream_6 K Pe))
-- return tuple(found)
@[simp] def u_parse_stream_11 (K : Kw) (Pe : DSt → DX) : DTS :=
  (dRet (dCB gTuple (dCons (dVar 2) dNil)))
-- for part in text.split(' '):
def u_parse_stream_4 (K : Kw) (Pe : DSt → DX) : DTS :=
  (dSeq (dFor (dIL (dSplit (dVar 0) (dC (.str " ")))) (.nm 3)
  (u_parse_stream_5 K Pe))
  (u_parse_stream_11 K Pe))
-- found = []
def u_parse_stream_3 (K : Kw) (Pe : DSt → DX) : DTS :=
  (dSeq (dSet 2 (dLst dNil))
  (u_parse_stream_4 K Pe))
-- if text == '-':
def u_parse_stream_1 (K : Kw) (Pe : DSt → DX) : DTS :=
  (dSeq (dIfS (dB (dBin (gEqF id) (dVar 0) (dC (.str "-"))))
  (u_parse_stream_2 K Pe)
  dNext)
  (u_parse_stream_3 K Pe))
abbrev t_parse_stream (K : Kw) (Pe : DX) : DTS := (u_parse_stream_1 K (fun _ => Pe))
def sp_parse_stream : DSp := fun ds S Pq Pe => ∃ (x : Str) (w : Int), ds = [.str x, .int w] ∧ x.length ≤ 60000 ∧ (∀ s, parseS w (TL.tl x) = some s → Pq (.tup (s.map mD)) S) ∧
  (parseS w (TL.tl x) = none → ∀ a, S a = none → Pe "ParseError" (some a) (up S a (.xd [("line", .int 0)])))
theorem len_parse_stream : ∀ ds S Pq Pe, sp_parse_stream ds S Pq Pe → ds.length = p_parse_stream.length := fun _ _ _ _ ⟨_, _, h, _⟩ => by subst h; rfl
theorem hsp_parse_stream (K : Kw) : ∀ ds S Pq Pe, sp_parse_stream ds S Pq Pe → dspV K n_parse_stream (t_parse_stream K) ds S Pq Pe := by
  rintro ds S Pq Pe ⟨x, w, rfl, hx, h1, h2⟩
  refine VS.pure ?_
  unfold t_parse_stream
  have x45 : (x = Str.ofString "-") ↔ TL.tl x = [45] := st_eq rfl
  simp [u_parse_stream_1, x45]
  by_cases h45 : TL.tl x = [45]
  · rw [if_pos h45]
    exact VS.pure (h1 [] (by unfold parseS; rw [if_pos h45]))
  rw [if_neg h45]
  have hp : parseS w (TL.tl x) = allOf w (TL.spl [32] 0 [] (TL.tl x)) := by unfold parseS; rw [if_neg h45]
  have sp := split_tl x (y := " ") (c := 32) rfl (by decide)
  have pl := fun p hp => split_len (x := x) (y := " ") (n := 32) sp (p := p) hp
  have cnt : (Txt.split x (Str.ofString " ")).length ≤ 60002 := by have := PyProof.Rows.split_le x (Str.ofString " "); omega
  rw [hp, ← sp] at h1 h2
  simp [u_parse_stream_3, u_parse_stream_4]
  intro f hf
  refine ⟨by decide +kernel, by omega, fun l lf hl => ?_⟩
  generalize Txt.split x (Str.ofString " ") = parts at *
  refine forL_enc Dv.str (fun i δ S' => Ext S S' ∧ (∃ acc, S' f = some (.lst (acc.map mD)) ∧ allOf w ((parts.take i).map TL.tl) = some acc) ∧ S' l = some (.lst (parts.map .str)) ∧ ∃ z3 z4 z5 z6, δ = [some (.str x), some (.int w), some (.ref f), z3, z4, z5, z6])
    ⟨(Ext.new hf).trans (Ext.new (by rw [up_ne lf]; exact hl)), ⟨[], by rw [up_ne (Ne.symm lf), up_same]; rfl, rfl⟩, up_same, _, _, _, _, rfl⟩ ?_ ?_
  · rintro i p δ S' hi ⟨e, ⟨acc, hfa, ha⟩, hla, z3, z4, z5, z6, rfl⟩ N hN
    refine ⟨hla, _, rfl, ?_⟩
    have pm := List.mem_of_getElem? hi
    have plen := pl p pm
    have sp2 := split_tl p (y := ":") (c := 58) rfl (by decide)
    have pl2 := fun q hq => split_len (x := p) (y := ":") (n := 58) sp2 (p := q) hq
    obtain ⟨a, r, ear⟩ := split_ne p _ 58 sp2
    have cnt2 : (a :: r).length ≤ 60002 := by have := PyProof.Rows.split_le p (Str.ofString ":"); rw [ear] at this; omega
    rw [ear] at sp2 pl2
    simp [u_parse_stream_5]
    refine ⟨by decide +kernel, by omega, fun q hq => ?_⟩
    rw [ear]
    have la := pl2 a (by simp)
    have a0 : atI (Dv.str a :: r.map Dv.str) 0 = some (Dv.str a) := by rw [atI_of (by omega)]; rfl
    simp [u_parse_stream_6, a0]
    refine ⟨by omega, ?_⟩
    have e2 : Ext S (up S' q (.lst (Dv.str a :: r.map Dv.str))) := e.trans (Ext.new hq)
    have nfq : f ≠ q := some_ne hfa hq
    have nlq : l ≠ q := some_ne hla hq
    have app : ∀ y : Int × Int, partOf w (TL.tl p) = some y → allOf w ((parts.take (i + 1)).map TL.tl) = some (acc ++ [y]) := fun y hy => by
      rw [List.take_add_one, hi]
      simp only [Option.toList_some, List.map_append, List.map_cons, List.map_nil]
      rw [allOf_snoc, ha, hy]
      rfl
    have bad : partOf w (TL.tl p) = none → ∀ b, (up S' q (.lst (Dv.str a :: r.map Dv.str))) b = none → VS K (up (up S' q (.lst (Dv.str a :: r.map Dv.str))) b (.xd [("line", .int 0)])) (Pe "ParseError" (some b)) := fun hn b hb => by
      have hb0 : S b = none := none_bk e2 hb
      exact VS.sub (Sub.up e2) (h2 (allOf_none hn (List.mem_map_of_mem pm)) b hb0)
    have tail : ∀ (o1 o2 : Option Int), (partOf w (TL.tl p) = o1.bind fun x => o2.map fun y => (x, y)) → u_parse_stream_8 K (fun _ c od S1 => VS K S1 (Pe c od))
        { nx := N, rt := fun d S1 => VS K S1 (Pq d), bk := u_parse_stream_11 K (fun _ c od S1 => VS K S1 (Pe c od)) { nx := fun x S1 => VS K S1 (Pq Dv.non), rt := fun d S1 => VS K S1 (Pq d) }, ct := N }
        [some (.str x), some (.int w), some (.ref f), some (.str p), some (.ref q), some (optD o1), some (optD o2)] (up S' q (.lst (Dv.str a :: r.map Dv.str))) := by
      intro o1 o2 ho
      have al : acc.length ≤ 60002 := by
        have h1 := allOf_len ha
        simp at h1
        omega
      cases o1 with
      | none =>
        simp [u_parse_stream_8, optD]
        exact fun d h1 h2 => bad ho d (by rw [up_ne h1]; exact h2)
      | some v =>
        cases o2 with
        | none =>
          simp [u_parse_stream_8, optD]
          exact fun d h1 h2 => bad ho d (by rw [up_ne h1]; exact h2)
        | some u =>
          simp [u_parse_stream_8, optD, nfq, hfa]
          refine ⟨by omega, hN _ _ ⟨Ext_put e2 hf, ⟨acc ++ [(v, u)], by rw [up_same]; simp [mD], app _ ho⟩, by rw [up_ne lf, up_ne nlq]; exact hla, _, _, _, _, rfl⟩⟩
    unfold partOf at tail
    rw [← sp2] at tail
    cases r with
    | nil =>
      simp [u_parse_stream_7]
      exact tail _ none (by simp)
    | cons b r =>
      cases r with
      | nil =>
        have lb := pl2 b (by simp)
        have a1 : atI [Dv.str a, Dv.str b] 1 = some (Dv.str b) := by rw [atI_of (by omega)]; rfl
        simp [u_parse_stream_7, a1]
        refine ⟨by omega, ?_⟩
        exact tail _ _ (by simp)
      | cons c r =>
        have ne : ¬ ((r.length : Int) + 1 + 1 + 1 = 2) := by omega
        simp [u_parse_stream_7, ne]
        exact tail _ none (by simp)
  · rintro δ S' ⟨e, ⟨acc, hfa, ha⟩, hla, z3, z4, z5, z6, rfl⟩
    refine ⟨hla, ?_⟩
    simp [hfa]
    rw [List.take_of_length_le (Nat.le_refl _)] at ha
    exact VS.sub e (h1 _ ha)
theorem dfn_parse_stream {P : Program} {w : World} {K : PySem.W.Frag} {mg : Str → Option Value} {base : Heap} {f : Addr} {fd : FuncData} (F : Fun K "parse_stream" "parse_stream" s_parse_stream f fd) (C_number_in : Cal P w K mg base 1 "number_in" p_number_in sp_number_in) (z_len : mg "len" = none) (C_value_in : Cal P w K mg base 2 "value_in" p_value_in sp_value_in) (x_ParseError : ExcK P w K mg base "ParseError" "line" okI) (z_tuple : mg "tuple" = none) : DFn P w K mg base 3 f fd p_parse_stream sp_parse_stream :=
  Fun.okD (k := 2) (t := fun Pe => t_parse_stream ⟨K, w, mg⟩ fun c od S1 => VS ⟨K, w, mg⟩ S1 (Pe c od)) F sc_parse_stream len_parse_stream (fun cdv A outer s H Pe_ E hgd hr px_ =>
  have px := px_.vs
  (dss_cons (ds_if (dt_cmp (c_eq (units_64 hr)) (dv 0) de_str)
  (dss_one (ds_ret (de_tup da_nil)))
  dss_nil)
  (dss_cons (ds_set sc_parse_stream.nd (de_lst da_nil))
  (dss_cons (ds_for (passes_of rfl) rfl (di_list (de_split (dv 0) de_str)) (dp_nm sc_parse_stream.nd)
  (dss_cons (ds_set sc_parse_stream.nd (de_split (dv 3) de_str))
  (dss_cons (ds_set sc_parse_stream.nd (de_fn C_number_in hgd hr (da_cons (de_ix (dv 4) de_int) (da_cons (de_op o_sub (dv 1) de_int) da_nil))))
  (dss_cons (ds_set sc_parse_stream.nd (de_if (dt_cmp (c_eq (units_64 hr)) (de_callB cg_lenA (by rfl) z_len (by decide +kernel) (da_cons (dv 4) da_nil)) de_int) (de_fn C_value_in hgd hr (da_cons (de_ix (dv 4) de_int) da_nil)) de_non))
  (dss_cons (ds_if (L2.PW.pt (dw_or (dt_cmp c_is (dv 5) de_non) (dw_or1 (dt_cmp c_is (dv 6) de_non))))
  (dss_one (ds_raiseI x_ParseError (dtk_of px) hr (da_cons de_int da_nil)))
  dss_nil)
  (dss_one (ds_expr (de_bm mg_append PySem.F.plainAttrs_list PySem.F.slot_list_append PySem.F.type_list_append (dv 2) (da_cons (de_tup (da_cons (dv 5) (da_cons (dv 6) da_nil))) da_nil)))))))))
  (dss_one (ds_ret (de_callTy cg_tuple (by rfl) z_tuple (by decide +kernel) (da_cons (dv 2) da_nil)))))))) (hsp_parse_stream ⟨K, w, mg⟩)
theorem ok_parse_stream {P : Program} {w : World} {K : PySem.W.Frag} {mg : Str → Option Value} {base : Heap} (D : Def K mg "parse_stream" "parse_stream" s_parse_stream) (C_number_in : Cal P w K mg base 1 "number_in" p_number_in sp_number_in) (z_len : mg "len" = none) (C_value_in : Cal P w K mg base 2 "value_in" p_value_in sp_value_in) (x_ParseError : ExcK P w K mg base "ParseError" "line" okI) (z_tuple : mg "tuple" = none) : Cal P w K mg base 3 "parse_stream" p_parse_stream sp_parse_stream :=
  let ⟨f, fd, F, hm⟩ := D.ex
  ⟨f, fd, hm, F.kp, F.binds (ps := p_parse_stream) fun _ _ _ _ _ _ us hl => match us, hl with | [_, _], _ => rfl, dfn_parse_stream F C_number_in z_len C_value_in x_ParseError z_tuple⟩

--@cut
/-! ### format_stream, _law_text -/
open PySem.NumText (digitsVal AllDigits)
/-- numbers of at most 60 figures -/
def Sz (s : List (Int × Int)) : Prop := ∀ x ∈ s, x.1.natAbs < 10 ^ 60 ∧ x.2.natAbs < 10 ^ 60
theorem log_ok {i : Int} (h : i.natAbs < 10 ^ 60) : i.natAbs.log2 < 1920 := by
  by_cases h0 : i.natAbs = 0
  · rw [h0]; decide
  · exact (Nat.log2_lt h0).mpr (Nat.lt_trans h (by decide))
theorem intL_len {i : Int} (h : i.natAbs < 10 ^ 60) : (intL i).length ≤ 61 := by
  have := TL.numL_len (n := i.natAbs) (k := 60) (by decide) h
  unfold intL
  split
  · simp; omega
  · omega
theorem is_len {i : Int} (h : i.natAbs < 10 ^ 60) : (Str.ofString (toString i)).length ≤ 61 := by
  rw [lenT, tl_int]
  exact intL_len h
def textS (s : List (Int × Int)) : Str := ⟨(textL s).toArray⟩
theorem tl_textS (s : List (Int × Int)) : TL.tl (textS s) = textL s := rfl
def msgS (x : Int × Int) : Str := Str.ofString (toString x.1) ++ Str.ofString ":" ++ Str.ofString (toString x.2)
theorem tl_msgS (x : Int × Int) : TL.tl (msgS x) = msgL x := by
  unfold msgS msgL
  rw [TL.tl_append, TL.tl_append, tl_int, tl_int, List.append_assoc]
  rfl
theorem msgS_len {x : Int × Int} (h : x.1.natAbs < 10 ^ 60 ∧ x.2.natAbs < 10 ^ 60) : (msgS x).length ≤ 123 := by
  rw [lenT, tl_msgS]
  have h1 := intL_len h.1
  have h2 := intL_len h.2
  simp [msgL]
  omega
theorem join_textS {s : List (Int × Int)} (h : s ≠ []) : Txt.join (Str.ofString " ") (s.map msgS) = textS s := by
  refine TL.ext_tl ?_
  rw [TL.join_eq, TL.tl_join, tl_textS, List.map_map]
  unfold textL
  rw [if_neg h]
  have e : TL.tl ∘ msgS = msgL := funext tl_msgS
  rw [e]
  rfl
theorem sum_msgs {s : List (Int × Int)} (h : Sz s) : ((s.map msgS).map (·.length)).sum ≤ s.length * 123 := by
  induction s with
  | nil => simp
  | cons x s ih =>
    have := msgS_len (h x (by simp))
    have := ih fun y hy => h y (by simp [hy])
    simp only [List.map_cons, List.sum_cons, List.length_cons]
    omega
theorem empty_app (x : Str) : Str.empty ++ x = x := TL.ext_tl (by rw [TL.tl_append]; rfl)
theorem len_app (x y : Str) : (x ++ y).length = x.length + y.length := by rw [lenT, lenT x, lenT y, TL.tl_append, List.length_append]
theorem len_colon : (Str.ofString ":").length = 1 := by decide +kernel
abbrev s_format_stream : Stmt := top 6
abbrev n_format_stream : List Str := ["stream", "word", "value"]
abbrev p_format_stream : List Str := ["stream"]
theorem sc_format_stream : FnScope n_format_stream p_format_stream (defScope s_format_stream) := ⟨rfl, rfl, rfl, by decide +kernel, rfl, by decide +kernel, by decide +kernel⟩
-- return ' '.join([f'{word}:{value}' for word, value in stream]) if stream != () else '-'
@[simp] def u_format_stream_1 (K : Kw) (Pe : DX) : DTS :=
  (dRet (dIf (dB (dBin gNeNil (dVar 0) (dTup dNil))) (dJoin (dC (.str " ")) (dLc (dIT (dVar 0)) (.tp [(.nm 1), (.nm 2)]) dYes (dJoined [(dFmt (dVar 1)), (dC (.str ":")), (dFmt (dVar 2))]) [1, 2])) (dC (.str "-"))))
abbrev t_format_stream (K : Kw) (Pe : DX) : DTS := (u_format_stream_1 K Pe)
def sp_format_stream : DSp := fun ds S Pq _ => ∃ s : List (Int × Int), ds = [.tup (s.map mD)] ∧ Sz s ∧ s.length ≤ 70000 ∧ Pq (.str (textS s)) S
theorem len_format_stream : ∀ ds S Pq Pe, sp_format_stream ds S Pq Pe → ds.length = p_format_stream.length := fun _ _ _ _ ⟨_, h, _⟩ => by subst h; rfl
@[simp] theorem format_stream_iff {s : List (Int × Int)} {S : Store} {P : DK} {e : DX} : sp_format_stream [.tup (s.map mD)] S P e ↔ (Sz s ∧ s.length ≤ 70000 ∧ P (.str (textS s)) S) := ⟨fun ⟨_, h, q⟩ => by
  simp [map_mD_inj] at h; subst h; exact q, fun q => ⟨s, rfl, q⟩⟩
theorem hsp_format_stream (K : Kw) : ∀ ds S Pq Pe, sp_format_stream ds S Pq Pe → dsp K n_format_stream (t_format_stream K) ds S Pq Pe := by
  rintro ds S Pq Pe ⟨s, rfl, hs, hl, h⟩
  refine VS.pure ?_
  unfold t_format_stream
  simp [u_format_stream_1]
  by_cases h0 : s = []
  · rw [if_pos h0]
    have e : textS s = Str.ofString "-" := TL.ext_tl (by rw [tl_textS]; unfold textL; rw [if_pos h0]; rfl)
    rw [e] at h
    exact VS.pure h
  rw [if_neg h0]
  refine lc_mk ?_
  simp
  intro D hD
  refine lcRun_all mD (fun x => Dv.str (msgS x)) s (by omega) (fun _ => trivial) (fun x hx => ⟨_, rfl, fun acc N hN => ?_⟩) ?_
  · obtain ⟨w, v⟩ := x
    have hw := hs _ hx
    have l1 := is_len hw.1
    have l2 := is_len hw.2
    have g1 := log_ok hw.1
    have g2 := log_ok hw.2
    simp only at l1 l2 g1 g2
    unfold msgS at hN
    simp [g1, g2, len_app, len_colon, empty_app] at hN l1 l2 ⊢
    exact ⟨by omega, by omega, by omega, hN⟩
  · refine ⟨s.map msgS, by rw [up_same, List.map_map]; rfl, ?_, ?_⟩
    · have := sum_msgs hs
      have e : (Str.ofString " ").length = 1 := by decide +kernel
      rw [e]
      simp only [List.length_map]
      omega
    · rw [join_textS h0]
      exact VS.sub (Sub.refl.new hD) h
theorem dfn_format_stream {P : Program} {w : World} {K : PySem.W.Frag} {mg : Str → Option Value} {base : Heap} {f : Addr} {fd : FuncData} (F : Fun K "format_stream" "format_stream" s_format_stream f fd) : DFn P w K mg base 1 f fd p_format_stream sp_format_stream :=
  Fun.okD (k := 0) (t := t_format_stream ⟨K, w, mg⟩) F sc_format_stream len_format_stream (fun cdv A outer s H Pe E hgd hr px =>
  (dss_one (ds_ret (de_if (dt_cmp (c_neNil hr.units0) (dv 0) (de_tup da_nil)) (de_join de_str (de_lc (own := [("word", 1), ("value", 2)]) rfl sc_format_stream.nd (di_tup (dv 0)) (blkOk_by (own := [("word", 1), ("value", 2)]) (N := n_format_stream) (sc := defScope s_format_stream) (by decide +kernel)) (fun _ _ _ _ _ => (dp_tp rfl (dps_cons (dp_nm sc_format_stream.nd) (dps_cons (dp_nm sc_format_stream.nd) dps_nil)))) (fun _ _ _ _ _ => dts_nil) (fun _ _ _ _ _ => (de_joined (.cons (de_fmt (dv 1)) (.cons de_str (.cons (de_fmt (dv 2)) .nil))))))) de_str)))) (hsp_format_stream ⟨K, w, mg⟩)
theorem ok_format_stream {P : Program} {w : World} {K : PySem.W.Frag} {mg : Str → Option Value} {base : Heap} (D : Def K mg "format_stream" "format_stream" s_format_stream) : Cal P w K mg base 1 "format_stream" p_format_stream sp_format_stream :=
  let ⟨f, fd, F, hm⟩ := D.ex
  ⟨f, fd, hm, F.kp, F.binds (ps := p_format_stream) fun _ _ _ _ _ _ us hl => match us, hl with | [_], _ => rfl, dfn_format_stream F ⟩
abbrev s__law_text : Stmt := top 15
abbrev n__law_text : List Str := ["stream", "word", "value"]
abbrev p__law_text : List Str := ["stream"]
theorem sc__law_text : FnScope n__law_text p__law_text (defScope s__law_text) := ⟨rfl, rfl, rfl, by decide +kernel, rfl, by decide +kernel, by decide +kernel⟩
-- return ' '.join([str(word) + ':' + str(value) for word, value in stream]) if stream != () else '-'
@[simp] def u__law_text_1 (K : Kw) (Pe : DX) : DTS :=
  (dRet (dIf (dB (dBin gNeNil (dVar 0) (dTup dNil))) (dJoin (dC (.str " ")) (dLc (dIT (dVar 0)) (.tp [(.nm 1), (.nm 2)]) dYes (dBin gAdd (dBin gAdd (dCB gStr (dCons (dVar 1) dNil)) (dC (.str ":"))) (dCB gStr (dCons (dVar 2) dNil))) [1, 2])) (dC (.str "-"))))
abbrev t__law_text (K : Kw) (Pe : DX) : DTS := (u__law_text_1 K Pe)
def sp__law_text : DSp := fun ds S Pq _ => ∃ s : List (Int × Int), ds = [.tup (s.map mD)] ∧ Sz s ∧ s.length ≤ 70000 ∧ Pq (.str (textS s)) S
theorem len__law_text : ∀ ds S Pq Pe, sp__law_text ds S Pq Pe → ds.length = p__law_text.length := fun _ _ _ _ ⟨_, h, _⟩ => by subst h; rfl
@[simp] theorem law_text_iff {s : List (Int × Int)} {S : Store} {P : DK} {e : DX} : sp__law_text [.tup (s.map mD)] S P e ↔ (Sz s ∧ s.length ≤ 70000 ∧ P (.str (textS s)) S) := ⟨fun ⟨_, h, q⟩ => by
  simp [map_mD_inj] at h; subst h; exact q, fun q => ⟨s, rfl, q⟩⟩
theorem hsp__law_text (K : Kw) : ∀ ds S Pq Pe, sp__law_text ds S Pq Pe → dsp K n__law_text (t__law_text K) ds S Pq Pe := by
  rintro ds S Pq Pe ⟨s, rfl, hs, hl, h⟩
  refine VS.pure ?_
  unfold t__law_text
  simp [u__law_text_1]
  by_cases h0 : s = []
  · rw [if_pos h0]
    have e : textS s = Str.ofString "-" := TL.ext_tl (by rw [tl_textS]; unfold textL; rw [if_pos h0]; rfl)
    rw [e] at h
    exact VS.pure h
  rw [if_neg h0]
  refine lc_mk ?_
  simp
  intro D hD
  refine lcRun_all mD (fun x => Dv.str (msgS x)) s (by omega) (fun _ => trivial) (fun x hx => ⟨_, rfl, fun acc N hN => ?_⟩) ?_
  · obtain ⟨w, v⟩ := x
    have hw := hs _ hx
    have l1 := is_len hw.1
    have l2 := is_len hw.2
    have g1 := log_ok hw.1
    have g2 := log_ok hw.2
    simp only at l1 l2 g1 g2
    unfold msgS at hN
    simp [g1, g2, len_app, len_colon, empty_app] at hN l1 l2 ⊢
    exact ⟨by omega, by omega, hN⟩
  · refine ⟨s.map msgS, by rw [up_same, List.map_map]; rfl, ?_, ?_⟩
    · have := sum_msgs hs
      have e : (Str.ofString " ").length = 1 := by decide +kernel
      rw [e]
      simp only [List.length_map]
      omega
    · rw [join_textS h0]
      exact VS.sub (Sub.refl.new hD) h
theorem dfn__law_text {P : Program} {w : World} {K : PySem.W.Frag} {mg : Str → Option Value} {base : Heap} {f : Addr} {fd : FuncData} (F : Fun K "_law_text" "_law_text" s__law_text f fd) (z_str : mg "str" = none) : DFn P w K mg base 1 f fd p__law_text sp__law_text :=
  Fun.okD (k := 0) (t := t__law_text ⟨K, w, mg⟩) F sc__law_text len__law_text (fun cdv A outer s H Pe E hgd hr px =>
  (dss_one (ds_ret (de_if (dt_cmp (c_neNil hr.units0) (dv 0) (de_tup da_nil)) (de_join de_str (de_lc (own := [("word", 1), ("value", 2)]) rfl sc__law_text.nd (di_tup (dv 0)) (blkOk_by (own := [("word", 1), ("value", 2)]) (N := n__law_text) (sc := defScope s__law_text) (by decide +kernel)) (fun _ _ _ _ _ => (dp_tp rfl (dps_cons (dp_nm sc__law_text.nd) (dps_cons (dp_nm sc__law_text.nd) dps_nil)))) (fun _ _ _ _ _ => dts_nil) (fun _ _ _ _ _ => (de_op o_add (de_op o_add (de_callTy cg_str (by rfl) z_str (by decide +kernel) (da_cons (dv 1) da_nil)) de_str) (de_callTy cg_str (by rfl) z_str (by decide +kernel) (da_cons (dv 2) da_nil)))))) de_str)))) (hsp__law_text ⟨K, w, mg⟩)
theorem ok__law_text {P : Program} {w : World} {K : PySem.W.Frag} {mg : Str → Option Value} {base : Heap} (D : Def K mg "_law_text" "_law_text" s__law_text) (z_str : mg "str" = none) : Cal P w K mg base 1 "_law_text" p__law_text sp__law_text :=
  let ⟨f, fd, F, hm⟩ := D.ex
  ⟨f, fd, hm, F.kp, F.binds (ps := p__law_text) fun _ _ _ _ _ _ us hl => match us, hl with | [_], _ => rfl, dfn__law_text F z_str⟩

--@cut
/-! ### _law_is_number, _law_good, _law_raised -/
open PySem.NumText (digitsVal AllDigits)
/-- signs that there are -/
def Ch (x : Str) : Prop := ∀ c ∈ TL.tl x, c < 1114112
theorem Ch.ok {x : Str} (h : Ch x) : PyData.strOk x = true := by
  unfold PyData.strOk
  rw [Array.all_eq_true']
  exact fun c hc => by simpa using h c (by simpa using hc)
theorem ch_sgn {c : Nat} (h : c < 1114112) : PyData.strOk ⟨#[c]⟩ = true := by simp [PyData.strOk, h]
theorem plains_sgns : ∀ {l : List Nat}, (∀ c ∈ l, c < 1114112) → plains (l.map sgn) = true ∧ deps (l.map sgn) = 0
  | [], _ => ⟨rfl, rfl⟩
  | c :: r, h => by
    obtain ⟨a, b⟩ := plains_sgns (l := r) fun d hd => h d (by simp [hd])
    have := ch_sgn (h c (by simp))
    simp [plains, plain, deps, dep, a, b, this]
theorem fm_sgn (l : List Nat) : l.filterMap (fun c => if (decide (48 ≤ c) && decide (c ≤ 57)) = true then none else some (sgn c)) = (l.filter fun c => !(decide (48 ≤ c) && decide (c ≤ 57))).map sgn := by
  induction l with
  | nil => rfl
  | cons c r ih =>
    cases h : (decide (48 ≤ c) && decide (c ≤ 57)) with
    | true => rw [List.filterMap_cons_none (by rw [h]; rfl), List.filter_cons_of_neg (by rw [h]; simp), ih]
    | false => rw [List.filterMap_cons_some (b := sgn c) (by rw [h]; rfl), List.filter_cons_of_pos (by rw [h]; rfl), ih]; rfl
theorem filter_digs (l : List Nat) : (l.filter fun c => !(decide (48 ≤ c) && decide (c ≤ 57))) = [] ↔ digs l = true := by
  rw [List.filter_eq_nil_iff]
  simp [digs]
abbrev s__law_is_number : Stmt := top 16
abbrev n__law_is_number : List Str := ["word", "digits", "sign"]
abbrev p__law_is_number : List Str := ["word", "digits"]
theorem sc__law_is_number : FnScope n__law_is_number p__law_is_number (defScope s__law_is_number) := ⟨rfl, rfl, rfl, by decide +kernel, rfl, by decide +kernel, by decide +kernel⟩
-- return False
@[simp] def u__law_is_number_2 (K : Kw) (Pe : DX) : DTS :=
  (dRet (dC (.bl false)))
-- return word == '0' or word[0] != '0'
@[simp] def u__law_is_number_3 (K : Kw) (Pe : DX) : DTS :=
  (dRet (dOrV (dBin (gEqF id) (dVar 0) (dC (.str "0"))) (dBin (gEqF not) (dBin gIxS (dVar 0) (dC (.int 0))) (dC (.str "0")))))
-- if word == '' or len(word) > digits or [sign for sign in word if sign not in '0123456789'] != []:
def u__law_is_number_1 (K : Kw) (Pe : DX) : DTS :=
  (dSeq (dIfS (dOr (dB (dBin (gEqF id) (dVar 0) (dC (.str "")))) (dOr (dB (dBin (gCmp fun i j => decide (j < i)) (dCB gLenA (dCons (dVar 0) dNil)) (dVar 1))) (dB (dBin (gEqF not) (dLc (dIS (dVar 0)) (.nm 2) (dB (dBin (gInS not) (dVar 2) (dC (.str "0123456789")))) (dVar 2) [2]) (dLst dNil)))))
  (u__law_is_number_2 K Pe)
  dNext)
  (u__law_is_number_3 K Pe))
abbrev t__law_is_number (K : Kw) (Pe : DX) : DTS := (u__law_is_number_1 K Pe)
def sp__law_is_number : DSp := fun ds S Pq _ => ∃ (x : Str) (d : Nat), ds = [.str x, .int d] ∧ x.length ≤ 100000 ∧ d ≤ 60 ∧ Ch x ∧ Pq (.bl (numOk (TL.tl x) d)) S
theorem len__law_is_number : ∀ ds S Pq Pe, sp__law_is_number ds S Pq Pe → ds.length = p__law_is_number.length := fun _ _ _ _ ⟨_, _, h, _⟩ => by subst h; rfl
theorem hsp__law_is_number (K : Kw) : ∀ ds S Pq Pe, sp__law_is_number ds S Pq Pe → dsp K n__law_is_number (t__law_is_number K) ds S Pq Pe := by
  rintro ds S Pq Pe ⟨x, m, rfl, hx, hm, hc, h⟩
  refine VS.pure ?_
  unfold t__law_is_number
  simp [u__law_is_number_1]
  by_cases h0 : x = Str.ofString ""
  · rw [if_pos h0]
    have e : TL.tl x = [] := by rw [h0]; rfl
    rw [e] at h
    exact VS.pure h
  rw [if_neg h0]
  have hne : TL.tl x ≠ [] := fun e => h0 (TL.ext_tl (by rw [e]; rfl))
  refine ⟨by omega, ?_⟩
  obtain ⟨c, r, e⟩ : ∃ c r, TL.tl x = c :: r := by
    cases e : TL.tl x with
    | nil => exact absurd e hne
    | cons c r => exact ⟨c, r, rfl⟩
  by_cases hl : m < x.length
  · rw [if_pos hl]
    have : numOk (TL.tl x) m = false := by
      rw [lenT] at hl
      rw [e] at hl ⊢
      simp only [numOk]
      rw [decide_eq_false (by omega)]
      rfl
    rw [this] at h
    exact VS.pure h
  rw [if_neg hl]
  refine lc_mk ?_
  simp
  intro D hD
  refine lcRun_enc sgn (fun c => if (decide (48 ≤ c) && decide (c ≤ 57)) = true then none else some (sgn c)) (TL.tl x) [] (by rw [← lenT]; simp; omega) (fun _ => trivial) (fun c hc => ⟨_, rfl, fun acc N1 N2 h1 h2 => ?_⟩) ?_
  · simp
    have dm := @dig_mem2 c
    cases hd : (decide (48 ≤ c) && decide (c ≤ 57)) with
    | true =>
      rw [hd] at h2 dm
      rw [if_pos (of_decide_eq_true dm)]
      exact h2 rfl
    | false =>
      rw [hd] at h1 dm
      rw [if_neg (of_decide_eq_false dm)]
      exact h1 _ rfl
  · rw [fm_sgn]
    simp only [List.nil_append]
    intro l hl0
    have hl1 : l ≠ D := fun z => by rw [z, up_same] at hl0; cases hl0
    have hl2 : S l = none := by rw [up_ne hl1] at hl0; exact hl0
    have fl : ∀ c ∈ (TL.tl x).filter (fun c => !(decide (48 ≤ c) && decide (c ≤ 57))), c < 1114112 := fun c h => hc c (List.mem_filter.mp h).1
    have out : ∀ d, Pq d S → VS K (up (up S D (O.lst (((TL.tl x).filter fun c => !(decide (48 ≤ c) && decide (c ≤ 57))).map sgn))) l (O.lst [])) (Pq d) := fun d q => VS.sub ((Sub.refl.new hD).new hl2) q
    obtain ⟨p1, p2⟩ := plains_sgns fl
    refine (gEqF_lists (ds := ((TL.tl x).filter fun c => !(decide (48 ≤ c) && decide (c ≤ 57))).map sgn) (es := []) (by rw [up_ne (Ne.symm hl1), up_same]) up_same p1 rfl (by rw [p2]; decide) (by decide)).mpr ?_
    generalize up (up S D _) l _ = S1 at out
    have dn : decide (((TL.tl x).filter fun c => !(decide (48 ≤ c) && decide (c ≤ 57))).map sgn = []) = digs (TL.tl x) := by
      rw [Bool.eq_iff_iff, decide_eq_true_eq, List.map_eq_nil_iff, filter_digs]
    rw [dn]
    have hx0 : x.cps[0]? = some c := by
      have : x.cps.toList[0]? = some c := by rw [show x.cps.toList = c :: r from e]; rfl
      simpa using this
    have lr : (c :: r).length ≤ m := by rw [← e, ← lenT]; omega
    have okv : numOk (TL.tl x) m = (digs (TL.tl x) && (r.isEmpty || decide (c ≠ 48))) := by
      rw [e]
      simp only [numOk]
      rw [decide_eq_true lr, Bool.true_and]
    have e48 : (x = Str.ofString "0") ↔ r = [] ∧ c = 48 := by
      rw [st_eq (l := [48]) rfl, e]
      simp [and_comm]
    have s48 : ((⟨#[c]⟩ : Str) = Str.ofString "0") ↔ c = 48 := sg_eq rfl
    rw [okv] at h
    cases hd : digs (TL.tl x) with
    | false =>
      rw [hd] at h
      simpa using out _ h
    | true =>
      rw [hd] at h
      simp only [Bool.true_and] at h
      simp only [Bool.not_true, Bool.false_eq_true, if_false, e48, hx0, s48]
      by_cases hr : r = []
      · subst hr
        by_cases hc : c = 48
        · simp [hc] at h ⊢
          exact out _ h
        · simp [hc] at h ⊢
          exact ⟨by omega, out _ h⟩
      · have hr2 : r.isEmpty = false := by cases r with
          | nil => exact absurd rfl hr
          | cons y r => rfl
        simp [hr, hr2] at h ⊢
        exact ⟨by omega, out _ h⟩
theorem dfn__law_is_number {P : Program} {w : World} {K : PySem.W.Frag} {mg : Str → Option Value} {base : Heap} {f : Addr} {fd : FuncData} (F : Fun K "_law_is_number" "_law_is_number" s__law_is_number f fd) (z_len : mg "len" = none) : DFn P w K mg base 1 f fd p__law_is_number sp__law_is_number :=
  Fun.okD (k := 0) (t := t__law_is_number ⟨K, w, mg⟩) F sc__law_is_number len__law_is_number (fun cdv A outer s H Pe E hgd hr px =>
  (dss_cons (ds_if (L2.PW.pt (dw_or (dt_cmp (c_eq (units_64 hr)) (dv 0) de_str) (dw_or (dt_cmp c_gt (de_callB cg_lenA (by rfl) z_len (by decide +kernel) (da_cons (dv 0) da_nil)) (dv 1)) (dw_or1 (dt_cmp (c_ne (units_64 hr)) (de_lc (own := [("sign", 2)]) rfl sc__law_is_number.nd (di_str (dv 0)) (blkOk_by (own := [("sign", 2)]) (N := n__law_is_number) (sc := defScope s__law_is_number) (by decide +kernel)) (fun _ _ _ _ _ => (dp_nm sc__law_is_number.nd)) (fun _ _ _ _ _ => (dts_one (dt_cmp c_notInS (dv 2) de_str))) (fun _ _ _ _ _ => (dv 2))) (de_lst da_nil))))))
  (dss_one (ds_ret de_bl))
  dss_nil)
  (dss_one (ds_ret (de_or (de_cmp (c_eq (units_64 hr)) (dv 0) de_str) (de_one (de_cmp (c_ne (units_64 hr)) (de_ixS (dv 0) de_int) de_str))))))) (hsp__law_is_number ⟨K, w, mg⟩)
theorem ok__law_is_number {P : Program} {w : World} {K : PySem.W.Frag} {mg : Str → Option Value} {base : Heap} (D : Def K mg "_law_is_number" "_law_is_number" s__law_is_number) (z_len : mg "len" = none) : Cal P w K mg base 1 "_law_is_number" p__law_is_number sp__law_is_number :=
  let ⟨f, fd, F, hm⟩ := D.ex
  ⟨f, fd, hm, F.kp, F.binds (ps := p__law_is_number) fun _ _ _ _ _ _ us hl => match us, hl with | [_, _], _ => rfl, dfn__law_is_number F z_len⟩
@[simp] theorem law_is_number_iff {x : Str} {d : Int} {S : Store} {P : DK} {e : DX} : sp__law_is_number [.str x, .int d] S P e ↔ (∃ n : Nat, d = n ∧ x.length ≤ 100000 ∧ n ≤ 60 ∧ Ch x ∧ P (.bl (numOk (TL.tl x) n)) S) := ⟨fun ⟨_, n, h, q⟩ => by simp at h; obtain ⟨rfl, rfl⟩ := h; exact ⟨n, rfl, q⟩, fun ⟨n, e, q⟩ => ⟨x, n, by rw [e], q⟩⟩
abbrev s__law_good : Stmt := top 17
abbrev n__law_good : List Str := ["text", "many", "part", "sides", "value"]
abbrev p__law_good : List Str := ["text", "many"]
theorem sc__law_good : FnScope n__law_good p__law_good (defScope s__law_good) := ⟨rfl, rfl, rfl, by decide +kernel, rfl, by decide +kernel, by decide +kernel⟩
-- return True
@[simp] def u__law_good_2 (K : Kw) (Pe : DX) : DTS :=
  (dRet (dC (.bl true)))
-- return False
@[simp] def u__law_good_6 (K : Kw) (Pe : DX) : DTS :=
  (dRet (dC (.bl false)))
-- return False
@[simp] def u__law_good_11 (K : Kw) (Pe : DX) : DTS :=
  (dRet (dC (.bl false)))
-- if value == '0':
@[simp] def u__law_good_10 (K : Kw) (Pe : DX) : DTS :=
  (dIfS (dB (dBin (gEqF id) (dVar 4) (dC (.str "0"))))
  (u__law_good_11 K Pe)
  dNext)
-- value = value[1:]
def u__law_good_9 (K : Kw) (Pe : DX) : DTS :=
  (dSeq (dSet 4 (dSlS (dVar 4) (dPart (dC (.int 1))) dNoPart))
  (u__law_good_10 K Pe))
-- return False
@[simp] def u__law_good_13 (K : Kw) (Pe : DX) : DTS :=
  (dRet (dC (.bl false)))
-- if not _law_is_number(value, 60):
@[simp] def u__law_good_12 (K : Kw) (Pe : DX) : DTS :=
  (dIfS (dNot (dB (dCall sp__law_is_number X0 (dCons (dVar 4) (dCons (dC (.int 60)) dNil)))))
  (u__law_good_13 K Pe)
  dNext)
-- if value[:1] == '-':
def u__law_good_8 (K : Kw) (Pe : DX) : DTS :=
  (dSeq (dIfS (dB (dBin (gEqF id) (dSlS (dVar 4) dNoPart (dPart (dC (.int 1)))) (dC (.str "-"))))
  (u__law_good_9 K Pe)
  dNext)
  (u__law_good_12 K Pe))
-- value = sides[1]
def u__law_good_7 (K : Kw) (Pe : DX) : DTS :=
  (dSeq (dSet 4 (dBin gIx (dVar 3) (dC (.int 1))))
  (u__law_good_8 K Pe))
-- if len(sides) != 2 or not _law_is_number(sides[0], 1) or int(sides[0]) >= many:
def u__law_good_5 (K : Kw) (Pe : DX) : DTS :=
  (dSeq (dIfS (dOr (dB (dBin (gEqF not) (dCB gLenA (dCons (dVar 3) dNil)) (dC (.int 2)))) (dOr (dNot (dB (dCall sp__law_is_number X0 (dCons (dBin gIx (dVar 3) (dC (.int 0))) (dCons (dC (.int 1)) dNil))))) (dB (dBin (gCmp fun i j => decide (j ≤ i)) (dCB gInt (dCons (dBin gIx (dVar 3) (dC (.int 0))) dNil)) (dVar 1)))))
  (u__law_good_6 K Pe)
  dNext)
  (u__law_good_7 K Pe))
-- sides = part.split(':')
def u__law_good_4 (K : Kw) (Pe : DX) : DTS :=
  (dSeq (dSet 3 (dSplit (dVar 2) (dC (.str ":"))))
  (u__law_good_5 K Pe))
-- return True
@[simp] def u__law_good_14 (K : Kw) (Pe : DX) : DTS :=
  (dRet (dC (.bl true)))
-- for part in text.split(' '):
def u__law_good_3 (K : Kw) (Pe : DX) : DTS :=
  (dSeq (dFor (dIL (dSplit (dVar 0) (dC (.str " ")))) (.nm 2)
  (u__law_good_4 K Pe))
  (u__law_good_14 K Pe))
-- if text == '-':
def u__law_good_1 (K : Kw) (Pe : DX) : DTS :=
  (dSeq (dIfS (dB (dBin (gEqF id) (dVar 0) (dC (.str "-"))))
  (u__law_good_2 K Pe)
  dNext)
  (u__law_good_3 K Pe))
abbrev t__law_good (K : Kw) (Pe : DX) : DTS := (u__law_good_1 K Pe)
def sp__law_good : DSp := fun ds S Pq _ => ∃ (x : Str) (w : Int), ds = [.str x, .int w] ∧ x.length ≤ 60000 ∧ Ch x ∧ Pq (.bl (goodS w (TL.tl x))) S
theorem len__law_good : ∀ ds S Pq Pe, sp__law_good ds S Pq Pe → ds.length = p__law_good.length := fun _ _ _ _ ⟨_, _, h, _⟩ => by subst h; rfl
theorem spl_mem {c d : Nat} : ∀ (l acc : List Nat) (p : List Nat), p ∈ TL.spl [c] 0 acc l → d ∈ p → d ∈ acc ∨ d ∈ l
  | [], acc, p, h, hd => by
    rw [TL.spl_nil] at h
    simp at h
    subst h
    exact .inl hd
  | x :: r, acc, p, h, hd => by
    cases e : TL.pre [c] (x :: r) with
    | true =>
      rw [TL.spl_hit e] at h
      simp only [List.length_singleton, Nat.sub_self] at h
      rcases List.mem_cons.mp h with rfl | h
      · exact .inl hd
      · rcases spl_mem r [] p h hd with h | h
        · cases h
        · exact .inr (by simp [h])
    | false =>
      rw [TL.spl_miss e] at h
      rcases spl_mem r (acc ++ [x]) p h hd with h | h
      · rcases List.mem_append.mp h with h | h
        · exact .inl h
        · simp at h; exact .inr (by simp [h])
      · exact .inr (by simp [h])
theorem Ch.split {x y p : Str} {n : Nat} (hc : Ch x) (h : (Txt.split x y).map TL.tl = TL.spl [n] 0 [] (TL.tl x)) (hp : p ∈ Txt.split x y) : Ch p := fun c hcp => by
  have hm : TL.tl p ∈ TL.spl [n] 0 [] (TL.tl x) := by rw [← h]; exact List.mem_map_of_mem hp
  rcases spl_mem _ _ _ hm hcp with q | q
  · cases q
  · exact hc c q
theorem Ch.drop {x : Str} (hc : Ch x) : Ch (cutS x (some 1) none) := fun c h => by
  rw [tl_drop1] at h
  exact hc c (List.mem_of_mem_drop h)
theorem hsp__law_good (K : Kw) : ∀ ds S Pq Pe, sp__law_good ds S Pq Pe → dsp K n__law_good (t__law_good K) ds S Pq Pe := by
  rintro ds S Pq Pe ⟨x, w, rfl, hx, hc, h⟩
  refine VS.pure ?_
  unfold t__law_good
  have x45 : (x = Str.ofString "-") ↔ TL.tl x = [45] := st_eq rfl
  simp [u__law_good_1, x45]
  by_cases h45 : TL.tl x = [45]
  · rw [if_pos h45]
    have : goodS w (TL.tl x) = true := by simp [goodS, h45]
    rw [this] at h
    exact VS.pure h
  rw [if_neg h45]
  have sp := split_tl x (y := " ") (c := 32) rfl (by decide)
  have pl := fun p hp => split_len (x := x) (y := " ") (n := 32) sp (p := p) hp
  have pc := fun p hp => hc.split (y := Str.ofString " ") (n := 32) (p := p) sp hp
  have hg : goodS w (TL.tl x) = ((Txt.split x (Str.ofString " ")).map TL.tl).all (partGood w) := by
    unfold goodS
    rw [sp, decide_eq_false h45, Bool.false_or]
  rw [hg] at h
  simp [u__law_good_3]
  refine ⟨by decide +kernel, by omega, fun l hl => ?_⟩
  generalize Txt.split x (Str.ofString " ") = parts at *
  refine forL_enc Dv.str (fun i δ S' => Ext S S' ∧ S' l = some (.lst (parts.map .str)) ∧ (∀ p ∈ parts.take i, partGood w (TL.tl p) = true) ∧ ∃ z2 z3 z4, δ = [some (.str x), some (.int w), z2, z3, z4])
    ⟨Ext.new hl, up_same, by simp, _, _, _, rfl⟩ ?_ ?_
  · rintro i p δ S' hi ⟨e, hla, ha, z2, z3, z4, rfl⟩ N hN
    refine ⟨hla, _, rfl, ?_⟩
    have pm := List.mem_of_getElem? hi
    have plen := pl p pm
    have pch := pc p pm
    have sp2 := split_tl p (y := ":") (c := 58) rfl (by decide)
    have pl2 := fun q hq => split_len (x := p) (y := ":") (n := 58) sp2 (p := q) hq
    have pc2 := fun q hq => pch.split (y := Str.ofString ":") (n := 58) (p := q) sp2 hq
    obtain ⟨a, r, ear⟩ := split_ne p _ 58 sp2
    have cnt2 : (a :: r).length ≤ 60002 := by have := PyProof.Rows.split_le p (Str.ofString ":"); rw [ear] at this; omega
    rw [ear] at sp2 pl2 pc2
    simp [u__law_good_4]
    refine ⟨by decide +kernel, by omega, fun q hq => ?_⟩
    rw [ear]
    have la := pl2 a (by simp)
    have ca := pc2 a (by simp)
    have a0 : atI (Dv.str a :: r.map Dv.str) 0 = some (Dv.str a) := by rw [atI_of (by omega)]; rfl
    have e2 : Ext S (up S' q (.lst (Dv.str a :: r.map Dv.str))) := e.trans (Ext.new hq)
    have nlq : l ≠ q := some_ne hla hq
    have good : partGood w (TL.tl p) = true → ∀ z2 z3 z4, N [some (.str x), some (.int w), z2, z3, z4] (up S' q (.lst (Dv.str a :: r.map Dv.str))) := fun g z2 z3 z4 =>
      hN _ _ ⟨e2, by rw [up_ne nlq]; exact hla, fun y hy => by
        rw [List.take_add_one, hi] at hy
        simp at hy
        rcases hy with hy | rfl
        · exact ha y hy
        · exact g, _, _, _, rfl⟩
    have bad : partGood w (TL.tl p) = false → VS K (up S' q (.lst (Dv.str a :: r.map Dv.str))) (Pq (.bl false)) := fun g => by
      have : (parts.map TL.tl).all (partGood w) = false := by
        rw [List.all_eq_false]
        exact ⟨TL.tl p, List.mem_map_of_mem pm, by rw [g]; simp⟩
      rw [this] at h
      exact VS.sub e2 h
    have pg : partGood w (TL.tl p) = (match (a :: r).map TL.tl with | [a, b] => numOk a 1 && decide ((digitsVal a : Int) < w) && valGood b | _ => false) := by
      unfold partGood
      rw [← sp2]
      try rfl
    rw [pg] at good bad
    match r, a0, cnt2, good, bad, pl2, pc2 with
    | [], a0, cnt2, good, bad, pl2, pc2 =>
      simp [u__law_good_5, a0]
      exact bad rfl
    | b :: c :: r, a0, cnt2, good, bad, pl2, pc2 =>
      have ne : ¬ ((r.length : Int) + 1 + 1 + 1 = 2) := by omega
      simp [u__law_good_5, a0, ne]
      exact bad rfl
    | [b], a0, cnt2, good, bad, pl2, pc2 =>
      have lb := pl2 b (by simp)
      have cb := pc2 b (by simp)
      have a1 : atI [Dv.str a, Dv.str b] 1 = some (Dv.str b) := by rw [atI_of (by omega)]; rfl
      have good : (numOk (TL.tl a) 1 && decide ((digitsVal (TL.tl a) : Int) < w) && valGood (TL.tl b)) = true → _ := good
      have bad : (numOk (TL.tl a) 1 && decide ((digitsVal (TL.tl a) : Int) < w) && valGood (TL.tl b)) = false → _ := bad
      simp at a0
      simp [-gInt, u__law_good_5, a0]
      refine ⟨1, rfl, by omega, by omega, ca, ?_⟩
      cases na : numOk (TL.tl a) 1 with
      | false =>
        simp [-gInt]
        exact bad (by rw [na]; rfl)
      | true =>
        simp [-gInt]
        refine int_ok na (by omega) ?_
        dsimp only
        by_cases hv : w ≤ (digitsVal (TL.tl a) : Int)
        · rw [if_pos hv]
          exact bad (by rw [na, decide_eq_false (by omega)]; rfl)
        rw [if_neg hv]
        rw [na, decide_eq_true (by omega), Bool.true_and, Bool.true_and] at good bad
        have b45 : (cutS b none (some 1) = Str.ofString "-") ↔ ∃ r, TL.tl b = 45 :: r := by
          rw [st_eq (l := [45]) rfl, tl_take1]
          cases TL.tl b with
          | nil => simp
          | cons c r => simp
        have last : ∀ (v : Str), v.length ≤ p.length → Ch v → valGood (TL.tl b) = numOk (TL.tl v) 60 → u__law_good_12 K Pe { nx := N, rt := fun d S1 => VS K S1 (Pq d), bk := u__law_good_14 K Pe { nx := fun x S1 => VS K S1 (Pq Dv.non), rt := fun d S1 => VS K S1 (Pq d) }, ct := N }
            [some (.str x), some (.int w), some (.str p), some (.ref q), some (.str v)] (up S' q (.lst [.str a, .str b])) := fun v hv cv ev => by
          rw [ev] at good bad
          simp
          refine ⟨60, rfl, by omega, by omega, cv, ?_⟩
          cases nv : numOk (TL.tl v) 60 with
          | true => simpa using good nv _ _ _
          | false => simpa using bad nv
        simp [-u__law_good_12, u__law_good_7, u__law_good_8, a1]
        refine ⟨by omega, ?_⟩
        by_cases hm : ∃ r, TL.tl b = 45 :: r
        · rw [if_pos (b45.mpr hm)]
          obtain ⟨r, e⟩ := hm
          have e3 : TL.tl (cutS b (some 1) none) = r := by rw [tl_drop1, e]; rfl
          have l3 := L2.cutS_length b (some 1) none
          have s48 : (cutS b (some 1) none = Str.ofString "0") ↔ r = [48] := by rw [st_eq (l := [48]) rfl, e3]
          simp [-u__law_good_12, u__law_good_9, s48]
          refine ⟨by omega, ?_⟩
          have evg : valGood (TL.tl b) = (decide (r ≠ [48]) && numOk r 60) := by rw [e]; rfl
          by_cases hr : r = [48]
          · rw [if_pos hr]
            exact bad (by rw [evg, decide_eq_false (by simp [hr])]; rfl)
          · rw [if_neg hr]
            exact last _ (by omega) cb.drop (by rw [evg, e3, decide_eq_true hr, Bool.true_and])
        · rw [if_neg (fun z => hm (b45.mp z))]
          refine last b lb cb ?_
          unfold valGood
          split
          · rename_i r e
            exact absurd ⟨r, e⟩ hm
          · rfl
  · rintro δ S' ⟨e, hla, ha, z2, z3, z4, rfl⟩
    refine ⟨hla, ?_⟩
    simp
    rw [List.take_of_length_le (Nat.le_refl _)] at ha
    have : (parts.map TL.tl).all (partGood w) = true := by
      rw [List.all_eq_true]
      intro y hy
      obtain ⟨p, hp, rfl⟩ := List.mem_map.mp hy
      exact ha p hp
    rw [this] at h
    exact VS.sub e h
theorem dfn__law_good {P : Program} {w : World} {K : PySem.W.Frag} {mg : Str → Option Value} {base : Heap} {f : Addr} {fd : FuncData} (F : Fun K "_law_good" "_law_good" s__law_good f fd) (z_len : mg "len" = none) (C__law_is_number : Cal P w K mg base 1 "_law_is_number" p__law_is_number sp__law_is_number) (z_int : mg "int" = none) : DFn P w K mg base 2 f fd p__law_good sp__law_good :=
  Fun.okD (k := 1) (t := t__law_good ⟨K, w, mg⟩) F sc__law_good len__law_good (fun cdv A outer s H Pe E hgd hr px =>
  (dss_cons (ds_if (dt_cmp (c_eq (units_64 hr)) (dv 0) de_str)
  (dss_one (ds_ret de_bl))
  dss_nil)
  (dss_cons (ds_for (passes_of rfl) rfl (di_list (de_split (dv 0) de_str)) (dp_nm sc__law_good.nd)
  (dss_cons (ds_set sc__law_good.nd (de_split (dv 2) de_str))
  (dss_cons (ds_if (L2.PW.pt (dw_or (dt_cmp (c_ne (units_64 hr)) (de_callB cg_lenA (by rfl) z_len (by decide +kernel) (da_cons (dv 3) da_nil)) de_int) (dw_or (dt_not (dt_val (de_fn C__law_is_number hgd hr (da_cons (de_ix (dv 3) de_int) (da_cons de_int da_nil))))) (dw_or1 (dt_cmp c_ge (de_callTy cg_int (by rfl) z_int (by decide +kernel) (da_cons (de_ix (dv 3) de_int) da_nil)) (dv 1))))))
  (dss_one (ds_ret de_bl))
  dss_nil)
  (dss_cons (ds_set sc__law_good.nd (de_ix (dv 3) de_int))
  (dss_cons (ds_if (dt_cmp (c_eq (units_64 hr)) (de_slS (dv 4) do_none (do_some de_int)) de_str)
  (dss_cons (ds_set sc__law_good.nd (de_slS (dv 4) (do_some de_int) do_none))
  (dss_one (ds_if (dt_cmp (c_eq (units_64 hr)) (dv 4) de_str)
  (dss_one (ds_ret de_bl))
  dss_nil)))
  dss_nil)
  (dss_one (ds_if (dt_not (dt_val (de_fn C__law_is_number hgd hr (da_cons (dv 4) (da_cons de_int da_nil)))))
  (dss_one (ds_ret de_bl))
  dss_nil)))))))
  (dss_one (ds_ret de_bl))))) (hsp__law_good ⟨K, w, mg⟩)
theorem ok__law_good {P : Program} {w : World} {K : PySem.W.Frag} {mg : Str → Option Value} {base : Heap} (D : Def K mg "_law_good" "_law_good" s__law_good) (z_len : mg "len" = none) (C__law_is_number : Cal P w K mg base 1 "_law_is_number" p__law_is_number sp__law_is_number) (z_int : mg "int" = none) : Cal P w K mg base 2 "_law_good" p__law_good sp__law_good :=
  let ⟨f, fd, F, hm⟩ := D.ex
  ⟨f, fd, hm, F.kp, F.binds (ps := p__law_good) fun _ _ _ _ _ _ us hl => match us, hl with | [_, _], _ => rfl, dfn__law_good F z_len C__law_is_number z_int⟩

--@cut
open PySem.NumText (digitsVal AllDigits)
theorem parse_len {w : Int} {x : Str} {s : List (Int × Int)} (h : parseS w (TL.tl x) = some s) (hx : x.length ≤ 60000) : s.length ≤ 60002 := by
  unfold parseS at h
  split at h
  · cases h; simp
  · have := allOf_len h
    have sp := split_tl x (y := " ") (c := 32) rfl (by decide)
    rw [this, ← sp, List.length_map]
    have := PyProof.Rows.split_le x (Str.ofString " ")
    omega
abbrev s__law_raised : Stmt := top 18
abbrev n__law_raised : List Str := ["text", "many", "found", "e"]
abbrev p__law_raised : List Str := ["text", "many"]
theorem sc__law_raised : FnScope n__law_raised p__law_raised (defScope s__law_raised) := ⟨rfl, rfl, rfl, by decide +kernel, rfl, by decide +kernel, by decide +kernel⟩
-- found = _law_text(parse_stream(text, many))
@[simp] def u__law_raised_3 (K : Kw) (Pe : DSt → DX) : DTS :=
  (dSet 2 (dCall sp__law_text X0 (dCons (dCallS sp_parse_stream Pe (dCons (dVar 0) (dCons (dVar 1) dNil))) dNil)))
-- found = ('error', e.line)
@[simp] def u__law_raised_5 (K : Kw) (Pe : DSt → DX) (a_ : Addr) (d_ : Option Addr) : DTS :=
  (dSet 2 (dTup (dCons (dC (.str "error")) (dCons (dXf a_ d_ "line" (dVar 3)) dNil))))
-- return found
@[simp] def u__law_raised_6 (K : Kw) (Pe : DSt → DX) : DTS :=
  (dRet (dVar 2))
-- try:
def u__law_raised_2 (K : Kw) (Pe : DSt → DX) : DTS :=
  (dSeq (dTry ["ParseError"] (fun Pe => (u__law_raised_3 K Pe)) [⟨"ParseError", some 3, fun a_ d_ => (u__law_raised_5 K Pe a_ d_)⟩] Pe)
  (u__law_raised_6 K Pe))
-- found = None
def u__law_raised_1 (K : Kw) (Pe : DSt → DX) : DTS :=
  (dSeq (dSet 2 (dC .non))
  (u__law_raised_2 K Pe))
abbrev t__law_raised (K : Kw) (Pe : DX) : DTS := (u__law_raised_1 K (fun _ => Pe))
def sp__law_raised : DSp := fun ds S Pq _ => ∃ (x : Str) (w : Int), ds = [.str x, .int w] ∧ x.length ≤ 60000 ∧ w ≤ 10 ∧ (goodS w (TL.tl x) = true → Pq (.str x) S) ∧ (goodS w (TL.tl x) = false → Pq (.tup [.str "error", .int 0]) S)
theorem len__law_raised : ∀ ds S Pq Pe, sp__law_raised ds S Pq Pe → ds.length = p__law_raised.length := fun _ _ _ _ ⟨_, _, h, _⟩ => by subst h; rfl
theorem hsp__law_raised (K : Kw) : ∀ ds S Pq Pe, sp__law_raised ds S Pq Pe → dsp K n__law_raised (t__law_raised K) ds S Pq Pe := by
  rintro ds S Pq Pe ⟨x, w, rfl, hx, hw, h1, h2⟩
  refine VS.pure ?_
  obtain ⟨g1, g2⟩ := sGood hw (l := TL.tl x)
  unfold t__law_raised
  simp [u__law_raised_1, u__law_raised_2]
  refine ⟨x, w, rfl, hx, fun s hs => ?_, fun hn a ha => ?_⟩
  · cases hg : goodS w (TL.tl x) with
    | false => rw [g2 hg] at hs; cases hs
    | true =>
      obtain ⟨s', e1, e2, e3⟩ := g1 hg
      rw [hs] at e1
      cases e1
      have sl := parse_len hs hx
      have ex : textS s = x := TL.ext_tl (by rw [tl_textS, e2])
      simp
      refine ⟨fun y hy => ?_, by omega, ?_⟩
      · have := e3 y hy
        exact ⟨by omega, this.2.2⟩
      · rw [ex]
        exact VS.pure (h1 hg)
  · simp
    intro d d1 d2
    refine VS.sub (Sub.refl.new ha) (h2 ?_)
    cases hg : goodS w (TL.tl x) with
    | false => rfl
    | true =>
      obtain ⟨s', e1, _⟩ := g1 hg
      rw [hn] at e1
      cases e1
theorem dfn__law_raised {P : Program} {w : World} {K : PySem.W.Frag} {mg : Str → Option Value} {base : Heap} {f : Addr} {fd : FuncData} (F : Fun K "_law_raised" "_law_raised" s__law_raised f fd) (xk_ParseError : XKn K mg ["ParseError"]) (C_parse_stream : Cal P w K mg base 3 "parse_stream" p_parse_stream sp_parse_stream) (C__law_text : Cal P w K mg base 1 "_law_text" p__law_text sp__law_text) {C_ParseError : Addr} (m_ParseError : mg "ParseError" = some (.ref C_ParseError)) (x_ParseError : ExcK P w K mg base "ParseError" "line" okI) : DFn P w K mg base 4 f fd p__law_raised sp__law_raised :=
  Fun.okD (k := 3) (t := t__law_raised ⟨K, w, mg⟩) F sc__law_raised len__law_raised (fun cdv A outer s H Pe E hgd hr px =>
  (dss_cons (ds_set sc__law_raised.nd de_non)
  (dss_cons (ds_try (dtk_of px) xk_ParseError sc__law_raised.nd (fun H1_ Pe pn_ xe_ tk po_ => (dss_one (ds_set sc__law_raised.nd (de_fn C__law_text hgd hr (da_cons (de_fnS C_parse_stream hgd hr tk (da_cons (dv 0) (da_cons (dv 1) da_nil))) da_nil))))) (.named m_ParseError (by decide) rfl rfl rfl rfl (fun a_ oe_ d_ pn_ hz_ hf_ => (dss_one (ds_set sc__law_raised.nd (de_tup (da_cons de_str (da_cons (de_xf x_ParseError m_ParseError hz_ hf_ (dv 3)) da_nil)))))) .nil))
  (dss_one (ds_ret (dv 2)))))) (hsp__law_raised ⟨K, w, mg⟩)
theorem ok__law_raised {P : Program} {w : World} {K : PySem.W.Frag} {mg : Str → Option Value} {base : Heap} (D : Def K mg "_law_raised" "_law_raised" s__law_raised) (xk_ParseError : XKn K mg ["ParseError"]) (C_parse_stream : Cal P w K mg base 3 "parse_stream" p_parse_stream sp_parse_stream) (C__law_text : Cal P w K mg base 1 "_law_text" p__law_text sp__law_text) {C_ParseError : Addr} (m_ParseError : mg "ParseError" = some (.ref C_ParseError)) (x_ParseError : ExcK P w K mg base "ParseError" "line" okI) : Cal P w K mg base 4 "_law_raised" p__law_raised sp__law_raised :=
  let ⟨f, fd, F, hm⟩ := D.ex
  ⟨f, fd, hm, F.kp, F.binds (ps := p__law_raised) fun _ _ _ _ _ _ us hl => match us, hl with | [_, _], _ => rfl, dfn__law_raised F xk_ParseError C_parse_stream C__law_text m_ParseError x_ParseError⟩
@[simp] theorem law_raised_iff {x : Str} {w : Int} {S : Store} {P : DK} {e : DX} : sp__law_raised [.str x, .int w] S P e ↔ (x.length ≤ 60000 ∧ w ≤ 10 ∧ (goodS w (TL.tl x) = true → P (.str x) S) ∧ (goodS w (TL.tl x) = false → P (.tup [.str "error", .int 0]) S)) := ⟨fun ⟨_, _, h, q⟩ => by simp at h; obtain ⟨rfl, rfl⟩ := h; exact q, fun q => ⟨x, w, rfl, q⟩⟩
@[simp] theorem law_good_iff {x : Str} {w : Int} {S : Store} {P : DK} {e : DX} : sp__law_good [.str x, .int w] S P e ↔ (x.length ≤ 60000 ∧ Ch x ∧ P (.bl (goodS w (TL.tl x))) S) := ⟨fun ⟨_, _, h, q⟩ => by simp at h; obtain ⟨rfl, rfl⟩ := h; exact q, fun q => ⟨x, w, rfl, q⟩⟩

--@cut
open PySem.NumText (digitsVal AllDigits)
abbrev s_law : Stmt := top 19
abbrev n_law : List Str := ["script", "pen", "turn", "many", "stream", "value", "page", "place", "sign", "due", "odd"]
abbrev p_law : List Str := ["script"]
theorem sc_law : FnScope n_law p_law (defScope s_law) := ⟨rfl, rfl, rfl, by decide +kernel, rfl, by decide +kernel, by decide +kernel⟩
-- stream = stream + ((0, value),)
@[simp] def u_law_7 (K : Kw) (Pe : DX) : DTS :=
  (dSet 4 (dBin gAdd (dVar 4) (dTup (dCons (dTup (dCons (dC (.int 0)) (dCons (dVar 5) dNil))) dNil))))
-- value = [10 ** 60 - 1, 1 - 10 ** 60, _law_draw(pen, 10 ** 30) - 5 * 10 ** 29][_law_draw(pen, 3)]
def u_law_6 (K : Kw) (Pe : DX) : DTS :=
  (dSeq (dSet 5 (dBin gIx (dLst (dCons (dBin gSub (dBin gPow (dC (.int 10)) (dC (.int 60))) (dC (.int 1))) (dCons (dBin gSub (dC (.int 1)) (dBin gPow (dC (.int 10)) (dC (.int 60)))) (dCons (dBin gSub (dCall sp__law_draw X0 (dCons (dVar 1) (dCons (dBin gPow (dC (.int 10)) (dC (.int 30))) dNil))) (dBin gMul (dC (.int 5)) (dBin gPow (dC (.int 10)) (dC (.int 29))))) dNil)))) (dCall sp__law_draw X0 (dCons (dVar 1) (dCons (dC (.int 3)) dNil)))))
  (u_law_7 K Pe))
-- stream = stream * 25
@[simp] def u_law_9 (K : Kw) (Pe : DX) : DTS :=
  (dSet 4 (dBin gMulT (dVar 4) (dC (.int 25))))
-- return False
@[simp] def u_law_12 (K : Kw) (Pe : DX) : DTS :=
  (dRet (dC (.bl false)))
-- return False
@[simp] def u_law_14 (K : Kw) (Pe : DX) : DTS :=
  (dRet (dC (.bl false)))
-- return False
@[simp] def u_law_20 (K : Kw) (Pe : DX) : DTS :=
  (dRet (dC (.bl false)))
-- if _law_raised(page, many) != due:
@[simp] def u_law_19 (K : Kw) (Pe : DX) : DTS :=
  (dIfS (dB (dBin (gEqF not) (dCall sp__law_raised X0 (dCons (dVar 6) (dCons (dVar 3) dNil))) (dVar 9)))
  (u_law_20 K Pe)
  dNext)
-- due = page if _law_good(page, many) else ('error', 0)
def u_law_18 (K : Kw) (Pe : DX) : DTS :=
  (dSeq (dSet 9 (dIf (dB (dCall sp__law_good X0 (dCons (dVar 6) (dCons (dVar 3) dNil)))) (dVar 6) (dTup (dCons (dC (.str "error")) (dCons (dC (.int 0)) dNil)))))
  (u_law_19 K Pe))
-- page = page[:place] + sign + page[place + _law_draw(pen, 2):]
def u_law_17 (K : Kw) (Pe : DX) : DTS :=
  (dSeq (dSet 6 (dBin gAdd (dBin gAdd (dSlS (dVar 6) dNoPart (dPart (dVar 7))) (dVar 8)) (dSlS (dVar 6) (dPart (dBin gAdd (dVar 7) (dCall sp__law_draw X0 (dCons (dVar 1) (dCons (dC (.int 2)) dNil))))) dNoPart)))
  (u_law_18 K Pe))
-- sign = ' 0123456789:-_\n\t+a'[_law_draw(pen, 18)]
def u_law_16 (K : Kw) (Pe : DX) : DTS :=
  (dSeq (dSet 8 (dBin gIxS (dC (.str " 0123456789:-_\n\t+a")) (dCall sp__law_draw X0 (dCons (dVar 1) (dCons (dC (.int 18)) dNil)))))
  (u_law_17 K Pe))
-- place = _law_draw(pen, len(page) + 1)
def u_law_15 (K : Kw) (Pe : DX) : DTS :=
  (dSeq (dSet 7 (dCall sp__law_draw X0 (dCons (dVar 1) (dCons (dBin gAdd (dCB gLenA (dCons (dVar 6) dNil)) (dC (.int 1))) dNil))))
  (u_law_16 K Pe))
-- if repr(parse_stream(page, many)) != repr(stream):
def u_law_13 (K : Kw) (Pe : DX) : DTS :=
  (dSeq (dIfS (dB (dBin (gEqF not) (dCB gRepr (dCons (dCall sp_parse_stream X0 (dCons (dVar 6) (dCons (dVar 3) dNil))) dNil)) (dCB gRepr (dCons (dVar 4) dNil))))
  (u_law_14 K Pe)
  dNext)
  (u_law_15 K Pe))
-- if format_stream(stream) != page:
def u_law_11 (K : Kw) (Pe : DX) : DTS :=
  (dSeq (dIfS (dB (dBin (gEqF not) (dCall sp_format_stream X0 (dCons (dVar 4) dNil)) (dVar 6)))
  (u_law_12 K Pe)
  dNext)
  (u_law_13 K Pe))
-- page = _law_text(stream)
def u_law_10 (K : Kw) (Pe : DX) : DTS :=
  (dSeq (dSet 6 (dCall sp__law_text X0 (dCons (dVar 4) dNil)))
  (u_law_11 K Pe))
-- if _law_draw(pen, 6) == 0:
def u_law_8 (K : Kw) (Pe : DX) : DTS :=
  (dSeq (dIfS (dB (dBin (gEqF id) (dCall sp__law_draw X0 (dCons (dVar 1) (dCons (dC (.int 6)) dNil))) (dC (.int 0))))
  (u_law_9 K Pe)
  dNext)
  (u_law_10 K Pe))
-- if _law_draw(pen, 3) == 0:
def u_law_5 (K : Kw) (Pe : DX) : DTS :=
  (dSeq (dIfS (dB (dBin (gEqF id) (dCall sp__law_draw X0 (dCons (dVar 1) (dCons (dC (.int 3)) dNil))) (dC (.int 0))))
  (u_law_6 K Pe)
  dNext)
  (u_law_8 K Pe))
-- stream = _law_stream(pen, many, 8, 5)
def u_law_4 (K : Kw) (Pe : DX) : DTS :=
  (dSeq (dSet 4 (dCall sp__law_stream X0 (dCons (dVar 1) (dCons (dVar 3) (dCons (dC (.int 8)) (dCons (dC (.int 5)) dNil))))))
  (u_law_5 K Pe))
-- many = 1 + _law_draw(pen, 3)
def u_law_3 (K : Kw) (Pe : DX) : DTS :=
  (dSeq (dSet 3 (dBin gAdd (dC (.int 1)) (dCall sp__law_draw X0 (dCons (dVar 1) (dCons (dC (.int 3)) dNil)))))
  (u_law_4 K Pe))
-- return False
@[simp] def u_law_25 (K : Kw) (Pe : DX) : DTS :=
  (dRet (dC (.bl false)))
-- if _law_raised(page, 1) != ('error', 0):
@[simp] def u_law_24 (K : Kw) (Pe : DX) : DTS :=
  (dIfS (dB (dBin (gEqF not) (dCall sp__law_raised X0 (dCons (dVar 6) (dCons (dC (.int 1)) dNil))) (dTup (dCons (dC (.str "error")) (dCons (dC (.int 0)) dNil)))))
  (u_law_25 K Pe)
  dNext)
-- return False
@[simp] def u_law_29 (K : Kw) (Pe : DX) : DTS :=
  (dRet (dC (.bl false)))
-- if _law_raised(page, 3) != ('error', 0):
@[simp] def u_law_28 (K : Kw) (Pe : DX) : DTS :=
  (dIfS (dB (dBin (gEqF not) (dCall sp__law_raised X0 (dCons (dVar 6) (dCons (dC (.int 3)) dNil))) (dTup (dCons (dC (.str "error")) (dCons (dC (.int 0)) dNil)))))
  (u_law_29 K Pe)
  dNext)
-- return _law_raised('0:' + '9' * 60, 1) == '0:' + '9' * 60
@[simp] def u_law_30 (K : Kw) (Pe : DX) : DTS :=
  (dRet (dBin (gEqF id) (dCall sp__law_raised X0 (dCons (dBin gAdd (dC (.str "0:")) (dBin gMulS (dC (.str "9")) (dC (.int 60)))) (dCons (dC (.int 1)) dNil))) (dBin gAdd (dC (.str "0:")) (dBin gMulS (dC (.str "9")) (dC (.int 60))))))
-- for page in odd:
def u_law_27 (K : Kw) (Pe : DX) : DTS :=
  (dSeq (dFor (dIL (dVar 10)) (.nm 6)
  (u_law_28 K Pe))
  (u_law_30 K Pe))
-- odd = ['0:' + '7' * 4400, '7' * 4400 + ':0', '0:-' + '7' * 4400, '0:1_0', '0:1\n', '0:1:1', '3:0']
def u_law_26 (K : Kw) (Pe : DX) : DTS :=
  (dSeq (dSet 10 (dLst (dCons (dBin gAdd (dC (.str "0:")) (dBin gMulS (dC (.str "7")) (dC (.int 4400)))) (dCons (dBin gAdd (dBin gMulS (dC (.str "7")) (dC (.int 4400))) (dC (.str ":0"))) (dCons (dBin gAdd (dC (.str "0:-")) (dBin gMulS (dC (.str "7")) (dC (.int 4400)))) (dCons (dC (.str "0:1_0")) (dCons (dC (.str "0:1\n")) (dCons (dC (.str "0:1:1")) (dCons (dC (.str "3:0")) dNil)))))))))
  (u_law_27 K Pe))
-- for page in odd:
def u_law_23 (K : Kw) (Pe : DX) : DTS :=
  (dSeq (dFor (dIL (dVar 10)) (.nm 6)
  (u_law_24 K Pe))
  (u_law_26 K Pe))
-- odd = odd + ['0:' + '9' * 61, '1:0']
def u_law_22 (K : Kw) (Pe : DX) : DTS :=
  (dSeq (dSet 10 (dBin gAdd (dVar 10) (dLst (dCons (dBin gAdd (dC (.str "0:")) (dBin gMulS (dC (.str "9")) (dC (.int 61)))) (dCons (dC (.str "1:0")) dNil)))))
  (u_law_23 K Pe))
-- odd = ['', ' ', '--', '0:', ':0', '0:-0', '0:01', '0:1 ', ' 0:1', '0:1  0:1']
def u_law_21 (K : Kw) (Pe : DX) : DTS :=
  (dSeq (dSet 10 (dLst (dCons (dC (.str "")) (dCons (dC (.str " ")) (dCons (dC (.str "--")) (dCons (dC (.str "0:")) (dCons (dC (.str ":0")) (dCons (dC (.str "0:-0")) (dCons (dC (.str "0:01")) (dCons (dC (.str "0:1 ")) (dCons (dC (.str " 0:1")) (dCons (dC (.str "0:1  0:1")) dNil))))))))))))
  (u_law_22 K Pe))
-- for turn in range(8):
def u_law_2 (K : Kw) (Pe : DX) : DTS :=
  (dSeq (dFor (dIR1 (dCons (dC (.int 8)) dNil)) (.nm 2)
  (u_law_3 K Pe))
  (u_law_21 K Pe))
-- pen = _law_pen(script)
def u_law_1 (K : Kw) (Pe : DX) : DTS :=
  (dSeq (dSet 1 (dCall sp__law_pen X0 (dCons (dVar 0) dNil)))
  (u_law_2 K Pe))
abbrev t_law (K : Kw) (Pe : DX) : DTS := (u_law_1 K Pe)
theorem ch_intL {i : Int} : ∀ c ∈ intL i, c < 128 := fun c h => by
  by_cases hc : c < 128
  · exact hc
  · exact absurd h (intL_free (by omega))
theorem joinL_all {S : List Nat} {Q : Nat → Prop} (hS : ∀ c ∈ S, Q c) : ∀ {ps : List (List Nat)}, (∀ p ∈ ps, ∀ c ∈ p, Q c) → ∀ c ∈ TL.joinL S ps, Q c
  | [], _, c, h => by simp [TL.joinL] at h
  | [p], hp, c, h => hp p (by simp) c h
  | p :: q :: r, hp, c, h => by
    have h : c ∈ p ++ (S ++ TL.joinL S (q :: r)) := h
    rcases List.mem_append.mp h with h | h
    · exact hp p (by simp) c h
    rcases List.mem_append.mp h with h | h
    · exact hS c h
    · exact joinL_all hS (fun p hp' => hp p (by simp at hp' ⊢; exact .inr hp')) c h
theorem ch_text (s : List (Int × Int)) : ∀ c ∈ textL s, c < 128 := fun c h => by
  unfold textL at h
  split at h
  · simp at h; omega
  · refine joinL_all (Q := fun c => c < 128) (fun c h => by simp at h; omega) (fun p hp c hc => ?_) c h
    obtain ⟨x, _, rfl⟩ := List.mem_map.mp hp
    unfold msgL at hc
    rcases List.mem_append.mp hc with hc | hc
    · exact ch_intL c hc
    · rcases List.mem_cons.mp hc with rfl | hc
      · decide
      · exact ch_intL c hc
theorem joinL_le {n : Nat} : ∀ {ps : List (List Nat)}, (∀ p ∈ ps, p.length ≤ n) → (TL.joinL [32] ps).length ≤ ps.length * (n + 1)
  | [], _ => by simp [TL.joinL]
  | [p], h => by
    have := h p (by simp)
    show p.length ≤ _
    simp
    omega
  | p :: q :: r, h => by
    have h1 := h p (by simp)
    have h2 := joinL_le (n := n) (ps := q :: r) fun p hp => h p (by simp at hp ⊢; exact .inr hp)
    show (p ++ ([32] ++ TL.joinL [32] (q :: r))).length ≤ _
    simp only [List.length_append, List.length_cons, List.length_nil] at h2 ⊢
    rw [Nat.succ_mul]
    omega
theorem text_le {s : List (Int × Int)} (h : Sz s) : (textS s).length ≤ s.length * 124 + 1 := by
  rw [lenT, tl_textS]
  unfold textL
  split
  · simp
  · have := joinL_le (n := 123) (ps := s.map msgL) fun p hp => by
      obtain ⟨x, hx, rfl⟩ := List.mem_map.mp hp
      have := msgS_len (h x hx)
      rw [lenT, tl_msgS] at this
      exact this
    simp at this
    omega
theorem Ch.app {x y : Str} (h : Ch x) (k : Ch y) : Ch (x ++ y) := fun c hc => by
  rw [TL.tl_append] at hc
  rcases List.mem_append.mp hc with q | q
  · exact h c q
  · exact k c q
theorem Ch.cut {x : Str} (h : Ch x) (lo hi : Option Int) : Ch (cutS x lo hi) := fun c hc => h c (List.mem_of_mem_drop (List.mem_of_mem_take hc))
theorem ch_textS (s : List (Int × Int)) : Ch (textS s) := fun c h => Nat.lt_trans (ch_text s c h) (by decide)
/-- a stream within bounds -/
structure Okm (s : List (Int × Int)) (w : Int) : Prop where
  sz : Sz s
  wd : ∀ x ∈ s, 0 ≤ x.1 ∧ x.1 < w
theorem Okm.parse {s : List (Int × Int)} {w : Int} (h : Okm s w) (hw : w ≤ 1000) : parseS w (TL.tl (textS s)) = some s := by
  rw [tl_textS]
  exact parse_text hw fun x hx => ⟨h.wd x hx, (h.sz x hx).2⟩
theorem sign_at {i : Int} (h0 : 0 ≤ i) (h1 : i < 18) : ∃ c, c < 128 ∧ atI (Str.ofString " 0123456789:-_\n\t+a").cps.toList i = some c := by
  rw [show (Str.ofString " 0123456789:-_\n\t+a").cps.toList = [32, 48, 49, 50, 51, 52, 53, 54, 55, 56, 57, 58, 45, 95, 10, 9, 43, 97] from by decide +kernel, atI_of h0]
  have key : ∀ k : Fin 18, ∃ c, c < 128 ∧ [32, 48, 49, 50, 51, 52, 53, 54, 55, 56, 57, 58, 45, 95, 10, 9, 43, 97][k.val]? = some c := by decide +kernel
  exact key ⟨i.toNat, by omega⟩
theorem err_eq {f : Bool → Bool} {S : Store} {P : DK} : gEqF f (.tup [.str (Str.ofString "error"), .int 0]) (.tup [.str (Str.ofString "error"), .int 0]) S P ↔ P (.bl (f true)) S := by
  rw [gEqF_plain (by simp [plain, plains, strOk_lit]) (by simp [plain, plains, strOk_lit]) (by simp [dep, deps]) (by simp [dep, deps])]
  simp
section
variable {K : Kw} {Pe : DX} {D : DEnds} {ns : List Int} {a : Addr} {w : Int} {s : List (Int × Int)} {z2 z4 z5 z6 z7 z8 z9 z10 : Option Dv} {S : Store}
theorem law_10 (ha : S a = some .pen) (hw : 0 < w ∧ w ≤ 3) (ok : Okm s w) (hl : s.length ≤ 225) (hN : ∀ z6 z7 z8 z9, D.nx [some (.scr ns), some (.ref a), z2, some (.int w), some (.tup (s.map mD)), z5, z6, z7, z8, z9, z10] S) :
    u_law_10 K Pe D [some (.scr ns), some (.ref a), z2, some (.int w), some (.tup (s.map mD)), z5, z6, z7, z8, z9, z10] S := by
  have fit : Fit s := fun x hx => ⟨log_ok (ok.sz x hx).1, log_ok (ok.sz x hx).2⟩
  have r1 := fun P => @gRepr_str s S P fit (by omega)
  simp only [strD_eq] at r1
  have tl := text_le ok.sz
  simp [u_law_10, u_law_11, u_law_13, ok.sz]
  refine ⟨by omega, textS s, w, rfl, by omega, fun s' hs' => ?_, fun z => ?_⟩
  · rw [ok.parse (by omega)] at hs'
    cases hs'
    simp [r1, u_law_15, u_law_16, u_law_17]
    refine ⟨by omega, ha, by omega, fun d d0 d1 => ⟨ha, fun e e0 e1 => ?_⟩⟩
    obtain ⟨c, hc, ec⟩ := sign_at e0 e1
    have l0 : (Str.ofString " 0123456789:-_\n\t+a").length ≤ 16777216 := by decide +kernel
    refine ⟨l0, ?_⟩
    rw [ec]
    have c1 := L2.cutS_length (textS s) none (some d)
    have sg : (⟨#[c]⟩ : Str).length = 1 := rfl
    refine ⟨by omega, by rw [sg]; omega, ha, fun e2 e20 e21 => ?_⟩
    have c2 := L2.cutS_length (textS s) (some (d + e2)) none
    refine ⟨by omega, by rw [len_app, sg]; omega, ?_⟩
    have cp : Ch (cutS (textS s) none (some d) ++ ⟨#[c]⟩ ++ cutS (textS s) (some (d + e2)) none) :=
      (((ch_textS s).cut _ _).app fun x hx => by simp at hx; omega).app ((ch_textS s).cut _ _)
    have lp : (cutS (textS s) none (some d) ++ ⟨#[c]⟩ ++ cutS (textS s) (some (d + e2)) none).length ≤ 60000 := by rw [len_app, len_app, sg]; omega
    generalize cutS (textS s) none (some d) ++ (⟨#[c]⟩ : Str) ++ cutS (textS s) (some (d + e2)) none = page at cp lp
    simp [u_law_18, lp, cp]
    cases hg : goodS w (TL.tl page) with
    | true =>
      simp
      exact ⟨by omega, hN _ _ _ _⟩
    | false =>
      simp
      refine ⟨by omega, err_eq.mpr ?_⟩
      simp
      exact hN _ _ _ _
  · rw [ok.parse (by omega)] at z
    cases z
end
section
variable {K : Kw} {Pe : DX} {D : DEnds} {ns : List Int} {a : Addr} {w : Int} {s : List (Int × Int)} {z2 z4 z5 z6 z7 z8 z9 z10 : Option Dv} {S : Store}
theorem Okm.rep {s : List (Int × Int)} {w : Int} (h : Okm s w) (k : Int) : Okm (repV s k) w :=
  ⟨fun x hx => h.sz x (repV_mem hx), fun x hx => h.wd x (repV_mem hx)⟩
theorem law_8 (ha : S a = some .pen) (hw : 0 < w ∧ w ≤ 3) (ok : Okm s w) (hl : s.length ≤ 9) (hN : ∀ z4 z6 z7 z8 z9, D.nx [some (.scr ns), some (.ref a), z2, some (.int w), z4, z5, z6, z7, z8, z9, z10] S) :
    u_law_8 K Pe D [some (.scr ns), some (.ref a), z2, some (.int w), some (.tup (s.map mD)), z5, z6, z7, z8, z9, z10] S := by
  simp [u_law_8, ha]
  intro d d0 d1
  by_cases hd : d = 0
  · simp [hd, repV_map]
    refine ⟨by omega, law_10 ha hw (ok.rep 25) (by rw [repV_length, show (25 : Int).toNat = 25 from rfl]; omega) fun _ _ _ _ => hN _ _ _ _ _⟩
  · simp [hd]
    exact law_10 ha hw ok (by omega) fun _ _ _ _ => hN _ _ _ _ _
theorem law_5 (ha : S a = some .pen) (hw : 0 < w ∧ w ≤ 3) (ok : Okm s w) (hl : s.length ≤ 8) (hN : ∀ S z4 z5 z6 z7 z8 z9, S a = some .pen → D.nx [some (.scr ns), some (.ref a), z2, some (.int w), z4, z5, z6, z7, z8, z9, z10] S) :
    u_law_5 K Pe D [some (.scr ns), some (.ref a), z2, some (.int w), some (.tup (s.map mD)), z5, z6, z7, z8, z9, z10] S := by
  simp [u_law_5, ha]
  intro d d0 d1
  by_cases hd : d = 0
  · simp [hd, u_law_6, ha]
    refine ⟨⟨by decide, by decide, by decide⟩, ⟨by decide, by decide, by decide⟩, fun g g0 g1 => ⟨⟨by decide, by decide, by decide⟩, .inl ⟨by decide, by decide⟩, fun l hl => ?_⟩⟩
    have ha2 : ∀ o, up S l o a = some .pen := fun o => by rw [up_ne (some_ne ha hl)]; exact ha
    refine ⟨ha2 _, fun e e0 e1 => ?_⟩
    obtain ⟨v, v1, v2⟩ := pick Dv.int (vs := [999999999999999999999999999999999999999999999999999999999999, -999999999999999999999999999999999999999999999999999999999999, g - 500000000000000000000000000000]) e0 e1
    have vb : v.natAbs < 10 ^ 60 := by
      simp at v1
      omega
    simp at v2
    simp [v2]
    refine ⟨by omega, ?_⟩
    have ok2 : Okm (s ++ [(0, v)]) w := by
      refine ⟨fun x hx => ?_, fun x hx => ?_⟩
      · rcases List.mem_append.mp hx with hx | hx
        · exact ok.sz x hx
        · simp at hx
          subst hx
          exact ⟨by show (0 : Int).natAbs < 10 ^ 60; decide, vb⟩
      · rcases List.mem_append.mp hx with hx | hx
        · exact ok.wd x hx
        · simp at hx
          subst hx
          exact ⟨by omega, hw.1⟩
    have := law_8 (K := K) (Pe := Pe) (D := D) (ns := ns) (z2 := z2) (z5 := some (.int v)) (z6 := z6) (z7 := z7) (z8 := z8) (z9 := z9) (z10 := z10) (ha2 (O.lst [Dv.int 999999999999999999999999999999999999999999999999999999999999, Dv.int (-999999999999999999999999999999999999999999999999999999999999), Dv.int (g - 500000000000000000000000000000)])) hw ok2 (by simp; omega) fun _ _ _ _ _ => hN _ _ _ _ _ _ _ (ha2 _)
    simpa [mD] using this
  · simp [hd]
    exact law_8 ha hw ok (by omega) fun _ _ _ _ _ => hN _ _ _ _ _ _ _ ha
end
/-! ### texts that are no streams -/
theorem num_long {l : List Nat} {d : Nat} (h : d < l.length) : numOk l d = false := by
  cases l with
  | nil => rfl
  | cons c r =>
    simp only [numOk]
    rw [decide_eq_false (by omega)]
    rfl
theorem rep_free {n c d : Nat} (h : d ≠ c) : d ∉ List.replicate n c := fun z => h (List.eq_of_mem_replicate z)
theorem good_one {w : Int} {l : List Nat} (h : (32 : Nat) ∉ l) (h2 : l ≠ [45]) : goodS w l = partGood w l := by
  unfold goodS
  rw [TL.spl_last1 h, decide_eq_false h2]
  simp
theorem part_two {w : Int} {a b : List Nat} (ha : (58 : Nat) ∉ a) (hb : (58 : Nat) ∉ b) : partGood w (a ++ 58 :: b) = (numOk a 1 && decide ((digitsVal a : Int) < w) && valGood b) := by
  have e : TL.spl [58] 0 [] (a ++ 58 :: b) = [a, b] := by
    have := TL.spl_part1 (s := 58) (S := []) (p := a) (rest := b) (acc := []) ha
    rw [TL.spl_last1 hb] at this
    simpa using this
  unfold partGood
  rw [e]
theorem big1 {w : Int} {n c : Nat} (hc : c ≠ 32 ∧ c ≠ 58 ∧ c ≠ 45) (hn : 60 < n) : goodS w ([48] ++ 58 :: List.replicate n c) = false := by
  have f1 : (32 : Nat) ∉ List.replicate n c := rep_free (Ne.symm hc.1)
  have f2 : (58 : Nat) ∉ List.replicate n c := rep_free (Ne.symm hc.2.1)
  rw [good_one (by simp [f1]) (by simp), part_two (by simp) f2]
  have v : valGood (List.replicate n c) = false := by
    obtain ⟨m, rfl⟩ : ∃ m, n = m + 1 := ⟨n - 1, by omega⟩
    have e : valGood (List.replicate (m + 1) c) = numOk (List.replicate (m + 1) c) 60 := by
      rw [List.replicate_succ]
      unfold valGood
      split
      · rename_i e
        simp only [List.cons.injEq] at e
        exact absurd e.1 hc.2.2
      · rfl
    rw [e, num_long (by simpa using hn)]
  rw [v]
  simp
theorem big2 {w : Int} {n c : Nat} (hc : c ≠ 32 ∧ c ≠ 58) (hn : 1 < n) : goodS w (List.replicate n c ++ 58 :: [48]) = false := by
  have f1 : (32 : Nat) ∉ List.replicate n c := rep_free (Ne.symm hc.1)
  have f2 : (58 : Nat) ∉ List.replicate n c := rep_free (Ne.symm hc.2)
  rw [good_one (by simp [f1]) (fun z => by have := congrArg List.length z; simp at this), part_two f2 (by simp), num_long (by simpa using hn)]
  rfl
theorem big3 {w : Int} {n c : Nat} (hc : c ≠ 32 ∧ c ≠ 58) (hn : 60 < n) : goodS w ([48] ++ 58 :: 45 :: List.replicate n c) = false := by
  have f1 : (32 : Nat) ∉ List.replicate n c := rep_free (Ne.symm hc.1)
  have f2 : (58 : Nat) ∉ List.replicate n c := rep_free (Ne.symm hc.2)
  rw [good_one (by simp [f1]) (by simp), part_two (by simp) (by simp [f2])]
  have v : valGood (45 :: List.replicate n c) = false := by
    show (decide (List.replicate n c ≠ [48]) && numOk (List.replicate n c) 60) = false
    rw [num_long (by simpa using hn)]
    simp
  rw [v]
  simp
theorem foldl_rep (a : Array Nat) : ∀ (n : Nat) (acc : Array Nat), ((List.replicate n a).foldl (· ++ ·) acc).toList = acc.toList ++ (List.replicate n a.toList).flatten
  | 0, acc => by simp
  | n + 1, acc => by
    rw [List.replicate_succ, List.foldl_cons, foldl_rep a n, List.replicate_succ, List.flatten_cons]
    simp
theorem flat_one (c : Nat) : ∀ n : Nat, (List.replicate n [c]).flatten = List.replicate n c
  | 0 => rfl
  | n + 1 => by rw [List.replicate_succ, List.flatten_cons, flat_one c n, List.replicate_succ]; rfl
theorem tl_mul {x : Str} {c n : Nat} (h : TL.tl x = [c]) (hn : 2 ≤ n) : TL.tl (Txt.mul x (n : Int)) = List.replicate n c := by
  unfold Txt.mul
  have hl : x.length = 1 := by rw [lenT, h]; rfl
  rw [if_neg (by omega), if_neg (by rw [hl]; simp; omega)]
  show (List.foldl (· ++ ·) #[] (List.replicate (n : Int).toNat x.cps)).toList = _
  rw [foldl_rep, show x.cps.toList = [c] from h, Int.toNat_natCast, flat_one]
  rfl
theorem mul_ok {x : Str} {c n : Nat} (h : TL.tl x = [c]) (hn : n ≤ 100000) : MulOk x (n : Int) := by
  have hl : x.length = 1 := by rw [lenT, h]; rfl
  refine ⟨?_, fun h1 _ => ?_, fun _ _ => ?_⟩
  · rw [decide_eq_false (by omega), decide_eq_false (by omega)]
    rfl
  · rw [hl]
    have : (1 : Int) ≤ (2 ^ 63 - 1) / (n : Int) := by
      rw [Int.le_ediv_iff_mul_le (by omega)]
      omega
    omega
  · rw [hl]
    have : sizeLine = 16777216 := sizeLine_eq
    unfold Builtin.Str.tooLong
    rw [decide_eq_false (by omega)]
theorem tl_cat {x y : Str} {l m : List Nat} (h : TL.tl x = l) (k : TL.tl y = m) : TL.tl (x ++ y) = l ++ m := by rw [TL.tl_append, h, k]
/-- texts that are no streams of so many words -/
def Bad (w : Int) (x : Str) : Prop := x.length ≤ 60000 ∧ goodS w (TL.tl x) = false
theorem bad_lit {w : Int} {y : String} (h : (decide ((Str.ofString y).length ≤ 60000) && !goodS w (TL.tl (Str.ofString y))) = true) : Bad w (Str.ofString y) := by
  simp at h
  exact h
section
variable {K : Kw} {Pe : DX} {D : DEnds} {ns : List Int} {a : Addr} {z1 z2 z3 z4 z5 z6 z7 z8 z9 z10 : Option Dv} {S : Store}
theorem law_30 (hR : ∀ S, D.rt (.bl true) S) : u_law_30 K Pe D [some (.scr ns), z1, z2, z3, z4, z5, z6, z7, z8, z9, z10] S := by
  have m := tl_mul (x := Str.ofString "9") (c := 57) (n := 60) rfl (by decide)
  have mo := mul_ok (x := Str.ofString "9") (c := 57) (n := 60) rfl (by decide)
  have ml : (Txt.mul (Str.ofString "9") ((60 : Nat) : Int)).length = 60 := by rw [lenT, m]; simp
  have l2 : (Str.ofString "0:").length = 2 := by decide +kernel
  have tg : TL.tl (Str.ofString "0:" ++ Txt.mul (Str.ofString "9") ((60 : Nat) : Int)) = [48, 58] ++ List.replicate 60 57 := tl_cat rfl m
  have tg2 : goodS 1 (TL.tl (Str.ofString "0:" ++ Txt.mul (Str.ofString "9") ((60 : Nat) : Int))) = true := by rw [tg]; decide +kernel
  rw [show ((60 : Nat) : Int) = 60 from rfl] at mo ml tg tg2
  simp [mo, ml, l2, len_app, tg2]
  exact hR S
theorem law_27 {l : Addr} {ps : List Str} (hl : S l = some (.lst (ps.map .str))) (hp : ∀ p ∈ ps, Bad 3 p) (hR : ∀ S, D.rt (.bl true) S) :
    u_law_27 K Pe D [some (.scr ns), z1, z2, z3, z4, z5, z6, z7, z8, z9, some (.ref l)] S := by
  simp [-u_law_30, u_law_27, hl]
  refine forL_enc Dv.str (fun i δ S' => S' = S ∧ ∃ z6, δ = [some (.scr ns), z1, z2, z3, z4, z5, z6, z7, z8, z9, some (.ref l)]) ⟨rfl, _, rfl⟩ ?_ ?_
  · rintro i p δ S' hi ⟨rfl, z6, rfl⟩ N hN
    refine ⟨hl, _, rfl, ?_⟩
    obtain ⟨b1, b2⟩ := hp p (List.mem_of_getElem? hi)
    simp [b1, b2]
    refine err_eq.mpr ?_
    simp
    exact hN _ _ ⟨rfl, _, rfl⟩
  · rintro δ S' ⟨rfl, z6, rfl⟩
    exact ⟨hl, law_30 (K := K) (Pe := Pe) hR⟩
theorem law_23 {l : Addr} {ps : List Str} (hl : S l = some (.lst (ps.map .str))) (hp : ∀ p ∈ ps, Bad 1 p) (hR : ∀ S, D.rt (.bl true) S) :
    u_law_23 K Pe D [some (.scr ns), z1, z2, z3, z4, z5, z6, z7, z8, z9, some (.ref l)] S := by
  simp [u_law_23, hl]
  refine forL_enc Dv.str (fun i δ S' => S' = S ∧ ∃ z6, δ = [some (.scr ns), z1, z2, z3, z4, z5, z6, z7, z8, z9, some (.ref l)]) ⟨rfl, _, rfl⟩ ?_ ?_
  · rintro i p δ S' hi ⟨rfl, z6, rfl⟩ N hN
    refine ⟨hl, _, rfl, ?_⟩
    obtain ⟨b1, b2⟩ := hp p (List.mem_of_getElem? hi)
    simp [b1, b2]
    refine err_eq.mpr ?_
    simp
    exact hN _ _ ⟨rfl, _, rfl⟩
  · rintro δ S' ⟨rfl, z6, rfl⟩
    refine ⟨hl, ?_⟩
    have m := tl_mul (x := Str.ofString "7") (c := 55) (n := 4400) rfl (by decide)
    have mo := mul_ok (x := Str.ofString "7") (c := 55) (n := 4400) rfl (by decide)
    have ml : (Txt.mul (Str.ofString "7") ((4400 : Nat) : Int)).length = 4400 := by rw [lenT, m]; simp
    have l2 : (Str.ofString "0:").length = 2 := by decide +kernel
    have l3 : (Str.ofString ":0").length = 2 := by decide +kernel
    have l4 : (Str.ofString "0:-").length = 3 := by decide +kernel
    have t1 : Bad 3 (Str.ofString "0:" ++ Txt.mul (Str.ofString "7") ((4400 : Nat) : Int)) := ⟨by rw [len_app, l2, ml]; decide, by rw [tl_cat (l := [48, 58]) rfl m]; exact big1 (by decide) (by decide)⟩
    have t2 : Bad 3 (Txt.mul (Str.ofString "7") ((4400 : Nat) : Int) ++ Str.ofString ":0") := ⟨by rw [len_app, l3, ml]; decide, by rw [tl_cat (m := [58, 48]) m rfl]; exact big2 (by decide) (by decide)⟩
    have t3 : Bad 3 (Str.ofString "0:-" ++ Txt.mul (Str.ofString "7") ((4400 : Nat) : Int)) := ⟨by rw [len_app, l4, ml]; decide, by rw [tl_cat (l := [48, 58, 45]) rfl m]; exact big3 (by decide) (by decide)⟩
    clear m
    rw [show ((4400 : Nat) : Int) = 4400 from rfl] at mo ml t1 t2 t3
    simp [u_law_26, mo, ml, l2, l3, l4, len_app]
    generalize Txt.mul (Str.ofString "7") 4400 = R at *
    intro l2 hl2
    refine law_27 (ps := [Str.ofString "0:" ++ R, R ++ Str.ofString ":0", Str.ofString "0:-" ++ R, Str.ofString "0:1_0", Str.ofString "0:1\n", Str.ofString "0:1:1", Str.ofString "3:0"]) (by rw [up_same]; rfl) (fun p hp => ?_) hR
    simp only [List.mem_cons, List.not_mem_nil, or_false] at hp
    rcases hp with rfl | rfl | rfl | rfl | rfl | rfl | rfl
    · exact t1
    · exact t2
    · exact t3
    · exact bad_lit (by decide +kernel)
    · exact bad_lit (by decide +kernel)
    · exact bad_lit (by decide +kernel)
    · exact bad_lit (by decide +kernel)
theorem law_21 (hR : ∀ S, D.rt (.bl true) S) : u_law_21 K Pe D [some (.scr ns), z1, z2, z3, z4, z5, z6, z7, z8, z9, z10] S := by
  have m := tl_mul (x := Str.ofString "9") (c := 57) (n := 61) rfl (by decide)
  have mo := mul_ok (x := Str.ofString "9") (c := 57) (n := 61) rfl (by decide)
  have ml : (Txt.mul (Str.ofString "9") ((61 : Nat) : Int)).length = 61 := by rw [lenT, m]; simp
  have l2 : (Str.ofString "0:").length = 2 := by decide +kernel
  have t1 : Bad 1 (Str.ofString "0:" ++ Txt.mul (Str.ofString "9") ((61 : Nat) : Int)) := ⟨by rw [len_app, l2, ml]; decide, by rw [tl_cat (l := [48, 58]) rfl m]; exact big1 (by decide) (by decide)⟩
  clear m
  rw [show ((61 : Nat) : Int) = 61 from rfl] at mo ml t1
  simp [u_law_21, u_law_22, mo, ml, l2, len_app]
  generalize Txt.mul (Str.ofString "9") 61 = R at *
  intro l hl l1 n1 hl1
  rw [up_ne (Ne.symm n1), up_same]
  refine ⟨by simp, fun q q1 q2 hq => ?_⟩
  refine law_23 (ps := [Str.ofString "", Str.ofString " ", Str.ofString "--", Str.ofString "0:", Str.ofString ":0", Str.ofString "0:-0", Str.ofString "0:01", Str.ofString "0:1 ", Str.ofString " 0:1", Str.ofString "0:1  0:1", Str.ofString "0:" ++ R, Str.ofString "1:0"]) (by rw [up_same]; rfl) (fun p hp => ?_) hR
  simp only [List.mem_cons, List.not_mem_nil, or_false] at hp
  rcases hp with rfl | rfl | rfl | rfl | rfl | rfl | rfl | rfl | rfl | rfl | rfl | rfl
  · exact bad_lit (by decide +kernel)
  · exact bad_lit (by decide +kernel)
  · exact bad_lit (by decide +kernel)
  · exact bad_lit (by decide +kernel)
  · exact bad_lit (by decide +kernel)
  · exact bad_lit (by decide +kernel)
  · exact bad_lit (by decide +kernel)
  · exact bad_lit (by decide +kernel)
  · exact bad_lit (by decide +kernel)
  · exact bad_lit (by decide +kernel)
  · exact t1
  · exact bad_lit (by decide +kernel)
end
def sp_law : DSp := fun ds S Pq _ => ∃ ns : List Int, ds = [.scr ns] ∧ ns.length ≤ 63 ∧ (∀ S', Pq (.bl true) S')
theorem len_law : ∀ ds S Pq Pe, sp_law ds S Pq Pe → ds.length = p_law.length := fun _ _ _ _ ⟨_, h, _⟩ => by subst h; rfl
theorem law_true : ∀ ns : List Int, ns.length ≤ 63 → (∀ z ∈ ns, Builtin.Int.intBits z ≤ 1048576) → sp_law [.scr ns] (fun _ => none) (fun d _ => d = .bl true) X0 := fun ns h _ => ⟨ns, rfl, h, fun _ => rfl⟩
theorem hsp_law (K : Kw) : ∀ ds S Pq Pe, sp_law ds S Pq Pe → dsp K n_law (t_law K) ds S Pq Pe := by
  rintro ds S Pq Pe ⟨ns, rfl, hl, h⟩
  refine VS.pure ?_
  unfold t_law
  simp [u_law_1, u_law_2, hl]
  intro a ha
  refine forL_range (n := 8) (fun k δ S' => S' a = some .pen ∧ ∃ z2 z3 z4 z5 z6 z7 z8 z9 z10, δ = [some (.scr ns), some (.ref a), z2, z3, z4, z5, z6, z7, z8, z9, z10]) ⟨up_same, _, _, _, _, _, _, _, _, _, rfl⟩ ?_ ?_
  · rintro k δ S' hk ⟨hp, z2, z3, z4, z5, z6, z7, z8, z9, z10, rfl⟩ N hN
    refine ⟨trivial, _, rfl, ?_⟩
    simp [u_law_3, hp]
    intro d d0 d1
    simp [u_law_4, hp]
    refine ⟨by omega, by omega, fun s hs => ?_⟩
    have sl : s.length ≤ 8 := hs.len
    exact law_5 hp (by omega) ⟨fun x hx => ⟨by have := hs.word x hx; omega, hs.val x hx⟩, hs.word⟩ (by omega) fun S2 z4 z5 z6 z7 z8 z9 h2 => hN _ _ ⟨h2, _, _, _, _, _, _, _, _, _, rfl⟩
  · rintro δ S' ⟨hp, z2, z3, z4, z5, z6, z7, z8, z9, z10, rfl⟩
    refine ⟨trivial, ?_⟩
    exact law_21 fun S => VS.pure (h _)
theorem dfn_law {P : Program} {w : World} {K : PySem.W.Frag} {mg : Str → Option Value} {base : Heap} {f : Addr} {fd : FuncData} (F : Fun K "law" "law" s_law f fd) (C__law_pen : Cal P w K mg base 1 "_law_pen" p__law_pen sp__law_pen) (z_range : mg "range" = none) (C__law_draw : Cal P w K mg base 2 "_law_draw" p__law_draw sp__law_draw) (C__law_stream : Cal P w K mg base 3 "_law_stream" p__law_stream sp__law_stream) (C__law_text : Cal P w K mg base 1 "_law_text" p__law_text sp__law_text) (C_format_stream : Cal P w K mg base 1 "format_stream" p_format_stream sp_format_stream) (C_parse_stream : Cal P w K mg base 3 "parse_stream" p_parse_stream sp_parse_stream) (z_repr : mg "repr" = none) (z_len : mg "len" = none) (C__law_good : Cal P w K mg base 2 "_law_good" p__law_good sp__law_good) (C__law_raised : Cal P w K mg base 4 "_law_raised" p__law_raised sp__law_raised) : DFn P w K mg base 5 f fd p_law sp_law :=
  Fun.okD (k := 4) (t := t_law ⟨K, w, mg⟩) F sc_law len_law (fun cdv A outer s H Pe E hgd hr px =>
  (dss_cons (ds_set sc_law.nd (de_fn C__law_pen hgd hr (da_cons (dv 0) da_nil)))
  (dss_cons (ds_for (passes_of rfl) rfl (di_range1 (by rfl) z_range (da_cons de_int da_nil)) (dp_nm sc_law.nd)
  (dss_cons (ds_set sc_law.nd (de_op o_add de_int (de_fn C__law_draw hgd hr (da_cons (dv 1) (da_cons de_int da_nil)))))
  (dss_cons (ds_set sc_law.nd (de_fn C__law_stream hgd hr (da_cons (dv 1) (da_cons (dv 3) (da_cons de_int (da_cons de_int da_nil))))))
  (dss_cons (ds_if (dt_cmp (c_eq (units_64 hr)) (de_fn C__law_draw hgd hr (da_cons (dv 1) (da_cons de_int da_nil))) de_int)
  (dss_cons (ds_set sc_law.nd (de_ix (de_lst (da_cons (de_op o_sub (de_op o_pow de_int de_int) de_int) (da_cons (de_op o_sub de_int (de_op o_pow de_int de_int)) (da_cons (de_op o_sub (de_fn C__law_draw hgd hr (da_cons (dv 1) (da_cons (de_op o_pow de_int de_int) da_nil))) (de_op o_mul de_int (de_op o_pow de_int de_int))) da_nil)))) (de_fn C__law_draw hgd hr (da_cons (dv 1) (da_cons de_int da_nil)))))
  (dss_one (ds_set sc_law.nd (de_op o_add (dv 4) (de_tup (da_cons (de_tup (da_cons de_int (da_cons (dv 5) da_nil))) da_nil))))))
  dss_nil)
  (dss_cons (ds_if (dt_cmp (c_eq (units_64 hr)) (de_fn C__law_draw hgd hr (da_cons (dv 1) (da_cons de_int da_nil))) de_int)
  (dss_one (ds_set sc_law.nd (de_op o_mulT (dv 4) de_int)))
  dss_nil)
  (dss_cons (ds_set sc_law.nd (de_fn C__law_text hgd hr (da_cons (dv 4) da_nil)))
  (dss_cons (ds_if (dt_cmp (c_ne (units_64 hr)) (de_fn C_format_stream hgd hr (da_cons (dv 4) da_nil)) (dv 6))
  (dss_one (ds_ret de_bl))
  dss_nil)
  (dss_cons (ds_if (dt_cmp (c_ne (units_64 hr)) (de_callB (cg_repr hgd (units_100 hr)) (by rfl) z_repr (by decide +kernel) (da_cons (de_fn C_parse_stream hgd hr (da_cons (dv 6) (da_cons (dv 3) da_nil))) da_nil)) (de_callB (cg_repr hgd (units_100 hr)) (by rfl) z_repr (by decide +kernel) (da_cons (dv 4) da_nil)))
  (dss_one (ds_ret de_bl))
  dss_nil)
  (dss_cons (ds_set sc_law.nd (de_fn C__law_draw hgd hr (da_cons (dv 1) (da_cons (de_op o_add (de_callB cg_lenA (by rfl) z_len (by decide +kernel) (da_cons (dv 6) da_nil)) de_int) da_nil))))
  (dss_cons (ds_set sc_law.nd (de_ixS de_str (de_fn C__law_draw hgd hr (da_cons (dv 1) (da_cons de_int da_nil)))))
  (dss_cons (ds_set sc_law.nd (de_op o_add (de_op o_add (de_slS (dv 6) do_none (do_some (dv 7))) (dv 8)) (de_slS (dv 6) (do_some (de_op o_add (dv 7) (de_fn C__law_draw hgd hr (da_cons (dv 1) (da_cons de_int da_nil))))) do_none)))
  (dss_cons (ds_set sc_law.nd (de_if (dt_val (de_fn C__law_good hgd hr (da_cons (dv 6) (da_cons (dv 3) da_nil)))) (dv 6) (de_tup (da_cons de_str (da_cons de_int da_nil)))))
  (dss_one (ds_if (dt_cmp (c_ne (units_64 hr)) (de_fn C__law_raised hgd hr (da_cons (dv 6) (da_cons (dv 3) da_nil))) (dv 9))
  (dss_one (ds_ret de_bl))
  dss_nil))))))))))))))
  (dss_cons (ds_set sc_law.nd (de_lst (da_cons de_str (da_cons de_str (da_cons de_str (da_cons de_str (da_cons de_str (da_cons de_str (da_cons de_str (da_cons de_str (da_cons de_str (da_cons de_str da_nil))))))))))))
  (dss_cons (ds_set sc_law.nd (de_op o_add (dv 10) (de_lst (da_cons (de_op o_add de_str (de_op o_mulS de_str de_int)) (da_cons de_str da_nil)))))
  (dss_cons (ds_for (passes_of rfl) rfl (di_list (dv 10)) (dp_nm sc_law.nd)
  (dss_one (ds_if (dt_cmp (c_ne (units_64 hr)) (de_fn C__law_raised hgd hr (da_cons (dv 6) (da_cons de_int da_nil))) (de_tup (da_cons de_str (da_cons de_int da_nil))))
  (dss_one (ds_ret de_bl))
  dss_nil)))
  (dss_cons (ds_set sc_law.nd (de_lst (da_cons (de_op o_add de_str (de_op o_mulS de_str de_int)) (da_cons (de_op o_add (de_op o_mulS de_str de_int) de_str) (da_cons (de_op o_add de_str (de_op o_mulS de_str de_int)) (da_cons de_str (da_cons de_str (da_cons de_str (da_cons de_str da_nil)))))))))
  (dss_cons (ds_for (passes_of rfl) rfl (di_list (dv 10)) (dp_nm sc_law.nd)
  (dss_one (ds_if (dt_cmp (c_ne (units_64 hr)) (de_fn C__law_raised hgd hr (da_cons (dv 6) (da_cons de_int da_nil))) (de_tup (da_cons de_str (da_cons de_int da_nil))))
  (dss_one (ds_ret de_bl))
  dss_nil)))
  (dss_one (ds_ret (de_cmp (c_eq (units_64 hr)) (de_fn C__law_raised hgd hr (da_cons (de_op o_add de_str (de_op o_mulS de_str de_int)) (da_cons de_int da_nil))) (de_op o_add de_str (de_op o_mulS de_str de_int))))))))))))) (hsp_law ⟨K, w, mg⟩)
theorem ok_law {P : Program} {w : World} {K : PySem.W.Frag} {mg : Str → Option Value} {base : Heap} (D : Def K mg "law" "law" s_law) (C__law_pen : Cal P w K mg base 1 "_law_pen" p__law_pen sp__law_pen) (z_range : mg "range" = none) (C__law_draw : Cal P w K mg base 2 "_law_draw" p__law_draw sp__law_draw) (C__law_stream : Cal P w K mg base 3 "_law_stream" p__law_stream sp__law_stream) (C__law_text : Cal P w K mg base 1 "_law_text" p__law_text sp__law_text) (C_format_stream : Cal P w K mg base 1 "format_stream" p_format_stream sp_format_stream) (C_parse_stream : Cal P w K mg base 3 "parse_stream" p_parse_stream sp_parse_stream) (z_repr : mg "repr" = none) (z_len : mg "len" = none) (C__law_good : Cal P w K mg base 2 "_law_good" p__law_good sp__law_good) (C__law_raised : Cal P w K mg base 4 "_law_raised" p__law_raised sp__law_raised) : Cal P w K mg base 5 "law" p_law sp_law :=
  let ⟨f, fd, F, hm⟩ := D.ex
  ⟨f, fd, hm, F.kp, F.binds (ps := p_law) fun _ _ _ _ _ _ us hl => match us, hl with | [_], _ => rfl, dfn_law F C__law_pen z_range C__law_draw C__law_stream C__law_text C_format_stream C_parse_stream z_repr z_len C__law_good C__law_raised⟩
end Sb
namespace Sb
open PySem PySem.Spec PyProof.Rows L2
theorem all_mk {l : PySem.W.OpenLaw} {w : World} {K : PySem.W.Frag} {h : Heap} {mg : Str → Option Value} {fa : Addr} (X : K.In h) (G : h.Ns mainGlobals mg) (hfa : mg "law" = some (.ref fa)) (g_MAX_VALUE : ∃ t, mg "MAX_VALUE" = some (.int 999999999999999999999999999999999999999999999999999999999999 t))
    {tk_MAX_DIGITS : Tok}
    {tk_DIGITS : Tok}
    {C_ParseError fi_ParseError : Addr} {odi_ParseError ani_ParseError : Option Addr} {sli_ParseError : Array (Option Value)} {oci_ParseError kVi_ParseError dci_ParseError pmi_ParseError cdi_ParseError cti_ParseError : Value}
    {odc_ParseError : Option Addr} {cdc_ParseError : ClassData} {slc_ParseError : Array (Option Value)}
    {f0 : Addr} {od0 an0 : Option Addr} {sl0 : Array (Option Value)} {oc0 kV0 dc0 pm0 cd0 ct0 : Value}
    {f1 : Addr} {od1 an1 : Option Addr} {sl1 : Array (Option Value)} {oc1 kV1 dc1 pm1 cd1 ct1 : Value}
    {f2 : Addr} {od2 an2 : Option Addr} {sl2 : Array (Option Value)} {oc2 kV2 dc2 pm2 cd2 ct2 : Value}
    {f3 : Addr} {od3 an3 : Option Addr} {sl3 : Array (Option Value)} {oc3 kV3 dc3 pm3 cd3 ct3 : Value}
    {f4 : Addr} {od4 an4 : Option Addr} {sl4 : Array (Option Value)} {oc4 kV4 dc4 pm4 cd4 ct4 : Value}
    {f5 : Addr} {od5 an5 : Option Addr} {sl5 : Array (Option Value)} {oc5 kV5 dc5 pm5 cd5 ct5 : Value}
    {f6 : Addr} {od6 an6 : Option Addr} {sl6 : Array (Option Value)} {oc6 kV6 dc6 pm6 cd6 ct6 : Value}
    {f7 : Addr} {od7 an7 : Option Addr} {sl7 : Array (Option Value)} {oc7 kV7 dc7 pm7 cd7 ct7 : Value}
    {f8 : Addr} {od8 an8 : Option Addr} {sl8 : Array (Option Value)} {oc8 kV8 dc8 pm8 cd8 ct8 : Value}
    {f9 : Addr} {od9 an9 : Option Addr} {sl9 : Array (Option Value)} {oc9 kV9 dc9 pm9 cd9 ct9 : Value}
    {f10 : Addr} {od10 an10 : Option Addr} {sl10 : Array (Option Value)} {oc10 kV10 dc10 pm10 cd10 ct10 : Value}
    {f11 : Addr} {od11 an11 : Option Addr} {sl11 : Array (Option Value)} {oc11 kV11 dc11 pm11 cd11 ct11 : Value}
    {f12 : Addr} {od12 an12 : Option Addr} {sl12 : Array (Option Value)} {oc12 kV12 dc12 pm12 cd12 ct12 : Value}
    (gc_MAX_DIGITS : PySem.W.nsIn K mainGlobals "MAX_DIGITS" = some (some (.int 60 tk_MAX_DIGITS)))
    (gc_DIGITS : PySem.W.nsIn K mainGlobals "DIGITS" = some (some (.str "0123456789" tk_DIGITS)))
    (aC_ParseError : PySem.W.nsIn K mainGlobals "ParseError" = some (some (.ref C_ParseError)))
    (lk_ParseError : K.lookup C_ParseError = some ⟨.type "type", odc_ParseError, .cls cdc_ParseError, slc_ParseError⟩)
    (sh_ParseError : oxS C_ParseError cdc_ParseError slc_ParseError "ValueError.__new__" bm_ParseError = true)
    (sa_ParseError : PySem.W.findIn K (.ref C_ParseError) "__setattr__" = some (some (.builtin "object.__setattr__")))
    (sb_ParseError : PySem.W.subIn K (.ref C_ParseError) (.type "BaseException") = some true)
    (ty_ParseError : PySem.W.typeIn K (.ref C_ParseError) = some (.type "type"))
    (ke_ParseError : PySem.W.keepIn K (.ref C_ParseError) = true)
    (ga_ParseError : PySem.W.findIn K (.ref C_ParseError) "__getattribute__" = some (some (.builtin "BaseException.__getattribute__")))
    (gg_ParseError : PySem.W.findIn K (.ref C_ParseError) "__getattr__" = some none)
    (hx_ParseError : PySem.W.hasDictIn K C_ParseError = true)
    (no_ParseError : PySem.W.findIn K (.ref C_ParseError) "line" = some none)
    (ai_ParseError : PySem.W.findIn K (.ref C_ParseError) "__init__" = some (some (.ref fi_ParseError)))
    (ii_ParseError : PySem.W.isFn K (.ref fi_ParseError) = true)
    (li_ParseError : K.lookup fi_ParseError = some ⟨oci_ParseError, odi_ParseError, .func (PySem.W.fnOf "__init__" "ParseError.__init__" (defArgs s_ParseError___init__) (defBody s_ParseError___init__) (defScope s_ParseError___init__) .none kVi_ParseError dci_ParseError pmi_ParseError ani_ParseError cdi_ParseError cti_ParseError), sli_ParseError⟩)
    (ci_ParseError : PySem.W.codeIn K cdi_ParseError "ParseError.__init__" = true)
    (ki_ParseError : PySem.W.keepIn K (.ref fi_ParseError) = true)
    (xq_ParseError_ParseError : PySem.W.exmOne K (.ref C_ParseError) (.ref C_ParseError) = some true)
    (a0 : PySem.W.nsIn K mainGlobals "_law_pen" = some (some (.ref f0)))
    (l0 : K.lookup f0 = some ⟨oc0, od0, .func (PySem.W.fnOf "_law_pen" "_law_pen" (defArgs s__law_pen) (defBody s__law_pen) (defScope s__law_pen) .none kV0 dc0 pm0 an0 cd0 ct0), sl0⟩)
    (c0 : PySem.W.codeIn K cd0 "_law_pen" = true)
    (k0 : PySem.W.keepIn K (.ref f0) = true)
    (a1 : PySem.W.nsIn K mainGlobals "_law_fresh" = some (some (.ref f1)))
    (l1 : K.lookup f1 = some ⟨oc1, od1, .func (PySem.W.fnOf "_law_fresh" "_law_fresh" (defArgs s__law_fresh) (defBody s__law_fresh) (defScope s__law_fresh) .none kV1 dc1 pm1 an1 cd1 ct1), sl1⟩)
    (c1 : PySem.W.codeIn K cd1 "_law_fresh" = true)
    (k1 : PySem.W.keepIn K (.ref f1) = true)
    (a2 : PySem.W.nsIn K mainGlobals "_law_draw" = some (some (.ref f2)))
    (l2 : K.lookup f2 = some ⟨oc2, od2, .func (PySem.W.fnOf "_law_draw" "_law_draw" (defArgs s__law_draw) (defBody s__law_draw) (defScope s__law_draw) .none kV2 dc2 pm2 an2 cd2 ct2), sl2⟩)
    (c2 : PySem.W.codeIn K cd2 "_law_draw" = true)
    (k2 : PySem.W.keepIn K (.ref f2) = true)
    (a3 : PySem.W.nsIn K mainGlobals "_law_stream" = some (some (.ref f3)))
    (l3 : K.lookup f3 = some ⟨oc3, od3, .func (PySem.W.fnOf "_law_stream" "_law_stream" (defArgs s__law_stream) (defBody s__law_stream) (defScope s__law_stream) .none kV3 dc3 pm3 an3 cd3 ct3), sl3⟩)
    (c3 : PySem.W.codeIn K cd3 "_law_stream" = true)
    (k3 : PySem.W.keepIn K (.ref f3) = true)
    (a4 : PySem.W.nsIn K mainGlobals "number_in" = some (some (.ref f4)))
    (l4 : K.lookup f4 = some ⟨oc4, od4, .func (PySem.W.fnOf "number_in" "number_in" (defArgs s_number_in) (defBody s_number_in) (defScope s_number_in) .none kV4 dc4 pm4 an4 cd4 ct4), sl4⟩)
    (c4 : PySem.W.codeIn K cd4 "number_in" = true)
    (k4 : PySem.W.keepIn K (.ref f4) = true)
    (a5 : PySem.W.nsIn K mainGlobals "value_in" = some (some (.ref f5)))
    (l5 : K.lookup f5 = some ⟨oc5, od5, .func (PySem.W.fnOf "value_in" "value_in" (defArgs s_value_in) (defBody s_value_in) (defScope s_value_in) .none kV5 dc5 pm5 an5 cd5 ct5), sl5⟩)
    (c5 : PySem.W.codeIn K cd5 "value_in" = true)
    (k5 : PySem.W.keepIn K (.ref f5) = true)
    (a6 : PySem.W.nsIn K mainGlobals "parse_stream" = some (some (.ref f6)))
    (l6 : K.lookup f6 = some ⟨oc6, od6, .func (PySem.W.fnOf "parse_stream" "parse_stream" (defArgs s_parse_stream) (defBody s_parse_stream) (defScope s_parse_stream) .none kV6 dc6 pm6 an6 cd6 ct6), sl6⟩)
    (c6 : PySem.W.codeIn K cd6 "parse_stream" = true)
    (k6 : PySem.W.keepIn K (.ref f6) = true)
    (a7 : PySem.W.nsIn K mainGlobals "format_stream" = some (some (.ref f7)))
    (l7 : K.lookup f7 = some ⟨oc7, od7, .func (PySem.W.fnOf "format_stream" "format_stream" (defArgs s_format_stream) (defBody s_format_stream) (defScope s_format_stream) .none kV7 dc7 pm7 an7 cd7 ct7), sl7⟩)
    (c7 : PySem.W.codeIn K cd7 "format_stream" = true)
    (k7 : PySem.W.keepIn K (.ref f7) = true)
    (a8 : PySem.W.nsIn K mainGlobals "_law_text" = some (some (.ref f8)))
    (l8 : K.lookup f8 = some ⟨oc8, od8, .func (PySem.W.fnOf "_law_text" "_law_text" (defArgs s__law_text) (defBody s__law_text) (defScope s__law_text) .none kV8 dc8 pm8 an8 cd8 ct8), sl8⟩)
    (c8 : PySem.W.codeIn K cd8 "_law_text" = true)
    (k8 : PySem.W.keepIn K (.ref f8) = true)
    (a9 : PySem.W.nsIn K mainGlobals "_law_is_number" = some (some (.ref f9)))
    (l9 : K.lookup f9 = some ⟨oc9, od9, .func (PySem.W.fnOf "_law_is_number" "_law_is_number" (defArgs s__law_is_number) (defBody s__law_is_number) (defScope s__law_is_number) .none kV9 dc9 pm9 an9 cd9 ct9), sl9⟩)
    (c9 : PySem.W.codeIn K cd9 "_law_is_number" = true)
    (k9 : PySem.W.keepIn K (.ref f9) = true)
    (a10 : PySem.W.nsIn K mainGlobals "_law_good" = some (some (.ref f10)))
    (l10 : K.lookup f10 = some ⟨oc10, od10, .func (PySem.W.fnOf "_law_good" "_law_good" (defArgs s__law_good) (defBody s__law_good) (defScope s__law_good) .none kV10 dc10 pm10 an10 cd10 ct10), sl10⟩)
    (c10 : PySem.W.codeIn K cd10 "_law_good" = true)
    (k10 : PySem.W.keepIn K (.ref f10) = true)
    (a11 : PySem.W.nsIn K mainGlobals "_law_raised" = some (some (.ref f11)))
    (l11 : K.lookup f11 = some ⟨oc11, od11, .func (PySem.W.fnOf "_law_raised" "_law_raised" (defArgs s__law_raised) (defBody s__law_raised) (defScope s__law_raised) .none kV11 dc11 pm11 an11 cd11 ct11), sl11⟩)
    (c11 : PySem.W.codeIn K cd11 "_law_raised" = true)
    (k11 : PySem.W.keepIn K (.ref f11) = true)
    (a12 : PySem.W.nsIn K mainGlobals "law" = some (some (.ref f12)))
    (l12 : K.lookup f12 = some ⟨oc12, od12, .func (PySem.W.fnOf "law" "law" (defArgs s_law) (defBody s_law) (defScope s_law) .none kV12 dc12 pm12 an12 cd12 ct12), sl12⟩)
    (c12 : PySem.W.codeIn K cd12 "law" = true)
    (k12 : PySem.W.keepIn K (.ref f12) = true)
    (zz_list : PySem.W.nsIn K mainGlobals "list" = some none)
    (zz_len : PySem.W.nsIn K mainGlobals "len" = some none)
    (zz_range : PySem.W.nsIn K mainGlobals "range" = some none)
    (zz_tuple : PySem.W.nsIn K mainGlobals "tuple" = some none)
    (zz_all : PySem.W.nsIn K mainGlobals "all" = some none)
    (zz_int : PySem.W.nsIn K mainGlobals "int" = some none)
    (zz_str : PySem.W.nsIn K mainGlobals "str" = some none)
    (zz_repr : PySem.W.nsIn K mainGlobals "repr" = some none)
    (zz_ValueError : PySem.W.nsIn K mainGlobals "ValueError" = some none) :
    ∃ fd : FuncData, (∀ (s : Shared) (v : Value), BindsTo s fd ⟨[v], []⟩ [("script", v)]) ∧ ∀ base : Heap, K.In base → base.Ns mainGlobals mg → DFn l.prog w K mg base 5 fa fd ["script"] sp_law := by
  have e := hfa.symm.trans (PySem.W.mg_of X G a12)
  cases e
  have z_list := PySem.W.mg_none_of X G zz_list
  have z_len := PySem.W.mg_none_of X G zz_len
  have z_range := PySem.W.mg_none_of X G zz_range
  have z_tuple := PySem.W.mg_none_of X G zz_tuple
  have z_all := PySem.W.mg_none_of X G zz_all
  have z_int := PySem.W.mg_none_of X G zz_int
  have z_str := PySem.W.mg_none_of X G zz_str
  have z_repr := PySem.W.mg_none_of X G zz_repr
  have z_ValueError := PySem.W.mg_none_of X G zz_ValueError
  have g_MAX_DIGITS : ∃ t, mg "MAX_DIGITS" = some (.int 60 t) := ⟨_, PySem.W.mg_of X G gc_MAX_DIGITS⟩
  have g_DIGITS : ∃ t, mg "DIGITS" = some (.str "0123456789" t) := ⟨_, PySem.W.mg_of X G gc_DIGITS⟩
  refine ⟨PySem.W.fnOf "law" "law" (defArgs s_law) (defBody s_law) (defScope s_law) .none kV12 dc12 pm12 an12 cd12 ct12, fun s v => .of_eq rfl, fun base _ _ => ?_⟩
  have m_ParseError := PySem.W.mg_of X G aC_ParseError
  have x_ParseError := exc_ParseError (P := l.prog) (w := w) (base := base) m_ParseError (oxS_ok lk_ParseError sh_ParseError sa_ParseError sb_ParseError ty_ParseError ke_ParseError) ⟨ga_ParseError, gg_ParseError, sb_ParseError, hx_ParseError⟩ no_ParseError z_ValueError ⟨⟨_, _, fun_mk li_ParseError ci_ParseError ki_ParseError, ⟨ai_ParseError, ii_ParseError, ki_ParseError⟩⟩⟩
  have xk_ParseError : XKn K mg ["ParseError"] := by
    intro c hc x hx Ca Cx m1 m2
    simp only [List.mem_cons, List.not_mem_nil, or_false] at hc hx
    rcases hc with rfl <;> rcases hx with rfl
    · rw [m_ParseError] at m1; cases m1; rw [m_ParseError] at m2; cases m2; exact xq_ParseError_ParseError.trans (by decide)
  have C__law_pen := ok__law_pen (P := l.prog) (w := w) (base := base) (def_mk X G a0 l0 c0 k0) z_list
  have C__law_fresh := ok__law_fresh (P := l.prog) (w := w) (base := base) (def_mk X G a1 l1 c1 k1) z_len z_range
  have C__law_draw := ok__law_draw (P := l.prog) (w := w) (base := base) (def_mk X G a2 l2 c2 k2) C__law_fresh
  have C__law_stream := ok__law_stream (P := l.prog) (w := w) (base := base) (def_mk X G a3 l3 c3 k3) C__law_draw z_range z_tuple
  have C_number_in := ok_number_in (P := l.prog) (w := w) (base := base) (def_mk X G a4 l4 c4 k4) z_len g_MAX_DIGITS g_DIGITS z_all z_int
  have C_value_in := ok_value_in (P := l.prog) (w := w) (base := base) (def_mk X G a5 l5 c5 k5) g_MAX_VALUE C_number_in
  have C_parse_stream := ok_parse_stream (P := l.prog) (w := w) (base := base) (def_mk X G a6 l6 c6 k6) C_number_in z_len C_value_in x_ParseError z_tuple
  have C_format_stream := ok_format_stream (P := l.prog) (w := w) (base := base) (def_mk X G a7 l7 c7 k7) 
  have C__law_text := ok__law_text (P := l.prog) (w := w) (base := base) (def_mk X G a8 l8 c8 k8) z_str
  have C__law_is_number := ok__law_is_number (P := l.prog) (w := w) (base := base) (def_mk X G a9 l9 c9 k9) z_len
  have C__law_good := ok__law_good (P := l.prog) (w := w) (base := base) (def_mk X G a10 l10 c10 k10) z_len C__law_is_number z_int
  have C__law_raised := ok__law_raised (P := l.prog) (w := w) (base := base) (def_mk X G a11 l11 c11 k11) xk_ParseError C_parse_stream C__law_text m_ParseError x_ParseError
  exact dfn_law (fun_mk l12 c12 k12) C__law_pen z_range C__law_draw C__law_stream C__law_text C_format_stream C_parse_stream z_repr z_len C__law_good C__law_raised
theorem walk_ {l : PySem.W.OpenLaw} {q : Program} {loose : List Str} {XP : (Str → Option Value) → Heap → Prop} {YP : World → Heap → Prop} {d : DefRec} {K : Params → PySem.W.Frag} {Z : (Str → Option Value) → Prop} (hn : l.most = some 63) (hdf : d.params.defaults = [])
    (hY : ∀ (w : World) (h : Heap), YP w h → (K w.params).In h)
    (hZ : ∀ (mg : Str → Option Value) (h : Heap), XP mg h → Z mg)
    (F : ∀ (w : World) (mg : Str → Option Value) (fa : Addr) (h : Heap), (K w.params).In h → h.Ns mainGlobals mg → mg d.name = some (.ref fa) → Z mg →
      ∃ fd : FuncData, (∀ (s : Shared) (u : Value), BindsTo s fd ⟨[u], []⟩ [("script", u)]) ∧ ∀ base : Heap, (K w.params).In base → base.Ns mainGlobals mg → DFn l.prog w (K w.params) mg base 5 fa fd ["script"] sp_law) :
    PySem.W.WalkO q loose XP YP l.row.toRowW d [] (fun f vs => PySem.call f vs) :=
  law_walkX (n := 63) (k := 5) (x := "script") (sp := sp_law) hn (by decide) hdf ⟨rfl, by decide, by decide⟩ hY hZ F law_true
end Sb
open PySem PySem.W PyProof.Rows in
set_option maxRecDepth 100000 in
set_option maxHeartbeats 0 in
theorem PySem.Challenge.cw_seenbefore_k77_streams_written_and_read_holds : PySem.Challenge.rw_seenbefore_k77_streams_written_and_read.Holds := by
  w_on; o_law; k_head; (case hw => w_witness2)
  k_fill
  refine Sb.walk_ (l := PySem.Challenge.rw_seenbefore_k77_streams_written_and_read) (Z := fun mg => (∃ t, mg "MAX_VALUE" = some (.int 999999999999999999999999999999999999999999999999999999999999 t))) rfl rfl (fun w h Y => by first | exact PySem.W.kIn_of Y | exact PySem.W.km_in_of Y) (fun mg h x => Sb.loose_int x (by simp)) ?F
  case F =>
    intro w mg fa h KX G hmg hz
    refine' Sb.all_mk KX G hmg hz ?gc_MAX_DIGITS ?gc_DIGITS ?aC_ParseError ?lk_ParseError ?sh_ParseError ?sa_ParseError ?sb_ParseError ?ty_ParseError ?ke_ParseError ?ga_ParseError ?gg_ParseError ?hx_ParseError ?no_ParseError ?ai_ParseError ?ii_ParseError ?li_ParseError ?ci_ParseError ?ki_ParseError ?xq_ParseError_ParseError ?a0 ?l0 ?c0 ?k0 ?a1 ?l1 ?c1 ?k1 ?a2 ?l2 ?c2 ?k2 ?a3 ?l3 ?c3 ?k3 ?a4 ?l4 ?c4 ?k4 ?a5 ?l5 ?c5 ?k5 ?a6 ?l6 ?c6 ?k6 ?a7 ?l7 ?c7 ?k7 ?a8 ?l8 ?c8 ?k8 ?a9 ?l9 ?c9 ?k9 ?a10 ?l10 ?c10 ?k10 ?a11 ?l11 ?c11 ?k11 ?a12 ?l12 ?c12 ?k12 ?zz_list ?zz_len ?zz_range ?zz_tuple ?zz_all ?zz_int ?zz_str ?zz_repr ?zz_ValueError
    (case gc_MAX_DIGITS => k_is)
    (case gc_DIGITS => k_is)
    (case aC_ParseError => k_is)
    (case lk_ParseError => k_is)
    (case sh_ParseError => decide +kernel)
    (case sa_ParseError => k_is)
    (case sb_ParseError => k_is)
    (case ty_ParseError => k_is)
    (case ke_ParseError => k_is)
    (case ga_ParseError => k_is)
    (case gg_ParseError => k_is)
    (case hx_ParseError => k_is)
    (case no_ParseError => k_is)
    (case ai_ParseError => k_is)
    (case ii_ParseError => k_is)
    (case li_ParseError => k_is)
    (case ci_ParseError => k_is)
    (case ki_ParseError => k_is)
    (case xq_ParseError_ParseError => kts_exm)
    (case a0 => k_is)
    (case l0 => k_is)
    (case c0 => k_is)
    (case k0 => k_is)
    (case a1 => k_is)
    (case l1 => k_is)
    (case c1 => k_is)
    (case k1 => k_is)
    (case a2 => k_is)
    (case l2 => k_is)
    (case c2 => k_is)
    (case k2 => k_is)
    (case a3 => k_is)
    (case l3 => k_is)
    (case c3 => k_is)
    (case k3 => k_is)
    (case a4 => k_is)
    (case l4 => k_is)
    (case c4 => k_is)
    (case k4 => k_is)
    (case a5 => k_is)
    (case l5 => k_is)
    (case c5 => k_is)
    (case k5 => k_is)
    (case a6 => k_is)
    (case l6 => k_is)
    (case c6 => k_is)
    (case k6 => k_is)
    (case a7 => k_is)
    (case l7 => k_is)
    (case c7 => k_is)
    (case k7 => k_is)
    (case a8 => k_is)
    (case l8 => k_is)
    (case c8 => k_is)
    (case k8 => k_is)
    (case a9 => k_is)
    (case l9 => k_is)
    (case c9 => k_is)
    (case k9 => k_is)
    (case a10 => k_is)
    (case l10 => k_is)
    (case c10 => k_is)
    (case k10 => k_is)
    (case a11 => k_is)
    (case l11 => k_is)
    (case c11 => k_is)
    (case k11 => k_is)
    (case a12 => k_is)
    (case l12 => k_is)
    (case c12 => k_is)
    (case k12 => k_is)
    (case zz_list => k_is)
    (case zz_len => k_is)
    (case zz_range => k_is)
    (case zz_tuple => k_is)
    (case zz_all => k_is)
    (case zz_int => k_is)
    (case zz_str => k_is)
    (case zz_repr => k_is)
    (case zz_ValueError => k_is)

