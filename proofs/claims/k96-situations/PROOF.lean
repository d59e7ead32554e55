import PyProof.Rows.All
import Wide.All
import OpenK.AllK
import Wide.FinOn
import KE.KDictKeyed
import HandS.ForMost
import HandS.Dict
import HandS.Iter
import KE.GoesEnum
import HandS.TupAny
import HandS.TupMul
import PyProof.ListMulRoad
import PyProof.FactsAll.tuple_2
import HandS.List
import HandS.Zip
import HandS.SortKw
import HandS.ForExc
import HandS.ExcInit
import HandS.ExcField
import HandS.TryMany
import PyProof.ExcBaseAll.LookupError
import PyProof.ExcBaseAll.RuntimeError
import PyProof.ExcBaseAll.OverflowError
import HandS.WordsExc
import HandS.ExcOwn
import PyProof.ReprRoads
import HandS.DictComp
import HandS.Lambda
import HandS.DictTup
import KE.KDictItemsList
import HandS.More
import HandS.ExcIs
import HandS.EndBits
import HandS.Deep
import HandS.Style
import HandS.Wide
import HandS.Flow
import HandS.FStrTup
import HandS.IsInst
import HandS.WordsDict
import HandS.TupLe
import PyProof.SeqIndex
import HandS.Conv
import HandS.Codes
import PyProof.NeKinds
import Wide.Loose
import PyProof.EqKinds
import HandS.EndTab
import HandS.NestedK
import HandS.SortInts
import KE.KDictCopyH
import HandS.NoneIn
import HandS.FStr
import KE.SortData
import HandS.Text
import HandS.RaiseMore
import PyProof.StrBlock2
import PySem.Challenge.RW_seenbefore_k96_many_situations_by_hand
set_option Elab.async false
set_option linter.all false
set_option maxRecDepth 100000
/-! Dicts whose keys are data: numbers, texts, None, tuples of such. -/
namespace Sb
open PySem PySem.Spec L2

section
variable {prog : Program} {w : World} {A : Around} {E : Value → Shared → Prop} {s : Shared}
theorem nd_eq {x y : NestedKey} {a b : Value} {Q : Bool → Shared → Prop} (room : A.units + 8 < cLine) (hx : NestedIs s.heap x a) (hy : NestedIs s.heap y b) (dx : x.depth ≤ 8) (h : Q (decide (x = y)) s) :
    wpAny (model prog w) A (eqBool a b) Q E s := eqAt_key x y A s a b hx hy (by omega) _ _ _ _ (by rw [← NestedKey.decide_eq]; exact h)
theorem nd_quiet {x : NestedKey} {a : Value} {Q : Bool → Shared → Prop} (hx : NestedIs s.heap x a) (dx : x.depth ≤ 8) (h : Q true s) : wpAny (model prog w) A (eqIsQuiet 8 a) Q E s :=
  quiet_key x a 8 s hx dx A E Q h
theorem nd_silent {x : NestedKey} {a : Value} {vs : List Value} {Q : Bool → Shared → Prop} (hx : NestedIs s.heap x a) (dx : x.depth ≤ 8) (hv : ∀ v ∈ vs, ∃ y, NestedIs s.heap y v ∧ y.depth ≤ 8) (h : Q false s) :
    wpAny (model prog w) A (tableMayTell a vs) Q E s := by
  unfold tableMayTell
  split
  · exact wpAny_pure h
  refine wpAny_bind (nd_quiet hx dx ?_)
  rw [if_neg (by decide)]
  refine wpAny_bind (wpAny_forIn_list _ (fun rest r t => t = s ∧ r = (none, ()) ∧ ∀ v ∈ rest, ∃ y, NestedIs s.heap y v ∧ y.depth ≤ 8) _ ?_ ?_ _ _ ⟨rfl, rfl, hv⟩)
  · rintro v rest r t ⟨e1, e2, hr⟩
    subst e1 e2
    obtain ⟨y, hy, dy⟩ := hr v List.mem_cons_self
    refine wpAny_bind (nd_quiet hy dy ?_)
    rw [if_neg (by decide)]
    exact wpAny_pure ⟨rfl, rfl, fun u hu => hr u (List.mem_cons_of_mem _ hu)⟩
  · rintro r t ⟨e1, e2, _⟩
    subst e1 e2
    exact wpAny_pure h

/-- the entries of a dict have these keys -/
structure Ents (w : World) (h : Heap) (es : Array DictEntry) (ks : List NestedKey) : Prop where
  size : es.size = ks.length
  at_ : ∀ (i : Nat) (k : NestedKey), ks[i]? = some k → ∃ e, es[i]? = some e ∧ e.hash = k.hash w ∧ NestedIs h k e.key ∧ k.depth ≤ 8
  nodup : ks.Nodup
theorem Ents.back {h : Heap} {es : Array DictEntry} {ks : List NestedKey} (x : Ents w h es ks) {i : Nat} {e : DictEntry} (he : es[i]? = some e) : ∃ k, ks[i]? = some k ∧ e.hash = k.hash w ∧ NestedIs h k e.key ∧ k.depth ≤ 8 := by
  obtain ⟨hi, _⟩ := Array.getElem?_eq_some_iff.mp he
  have hk : i < ks.length := by rw [← x.size]; exact hi
  obtain ⟨e', h1, h2⟩ := x.at_ i ks[i] (List.getElem?_eq_getElem hk)
  rw [he] at h1; cases h1
  exact ⟨_, List.getElem?_eq_getElem hk, h2⟩
theorem one_place {ks : List NestedKey} (n : ks.Nodup) {i j : Nat} {k : NestedKey} (hi : ks[i]? = some k) (hj : ks[j]? = some k) : i = j :=
  (List.getElem?_inj (List.getElem?_eq_some_iff.mp hi).1 n).mp (hi.trans hj.symm)
/-- dictFind's last loop -/
def findLoop (d : Addr) (key : Value) (h : Int) (es : Array DictEntry) (places : List Nat) (stored : List Value) (tells : Bool) : Sem (Option Nat) := do
  let mut hit : Option Nat := none
  for i in places do
    if let some e := es[i]? then
      if e.hash == h then
        let before ← dictEpoch d (keyPart key)
        let same ← eqBool e.key key
        if (← dictEpoch d (keyPart key)) != before then unsupported "dict.changed-during-lookup"
        if same then
          if hit.isSome then unsupported "dict.find:order-among-keys-of-one-hash"
          rule "dict.find.hit"
          if stored.length < 2 then return some i
          hit := some i
        else
          rule "dict.find.same-hash-other-key"
          if tells && !(0 ≤ h && h < 32) then unsupported "dict.find:asked-again-or-not-hangs-on-the-table"
  return hit
def findTold (d : Addr) (key : Value) (h : Int) (es : Array DictEntry) (places : List Nat) (stored : List Value) : Sem (Option Nat) := do
  let tells ← if stored == [key] then pure false else tableMayTell key stored
  if tells && stored.length ≥ 2 then unsupported "dict.find:order-among-keys-of-one-hash"
  findLoop d key h es places stored tells
def findMid (d : Addr) (key : Value) (h : Int) (es : Array DictEntry) (places : List Nat) (stored : List Value) : Sem (Option Nat) := do
  if let .ref _ := key then
    if es.any fun e => e.key == key && e.hash != h then unsupported "dict.find:a-stored-key-whose-hash-has-changed"
  findTold d key h es places stored
/-- what dictFind does behind its short way for texts -/
def findBehind (d : Addr) (key : Value) (h : Int) (es : Array DictEntry) : Sem (Option Nat) := do
  let places := placesWithHash es.size (fun i => es[i]?.map (·.hash)) h
  let stored := places.filterMap fun i => es[i]?.map (·.key)
  if (key :: stored).all carriedByValue then return ← dictWalkPlain d key h es places
  findMid d key h es places stored
theorem find_text {d : Addr} {x : Str} {t : Tok} {h : Int} : dictFind d (.str x t) h = holding [.str x t] (do
    let es ← dictEntries d (keyPart (.str x t))
    if es.all fun e => isExactStrKey e.key then return ← foundByValue d (.str x t) es x
    findBehind d (.str x t) h es) := rfl
theorem find_other {d : Addr} {key : Value} {h : Int} (hn : ∀ x t, key ≠ .str x t) : dictFind d key h = holding [key] (do
    let es ← dictEntries d (keyPart key)
    findBehind d key h es) := by
  cases key <;> first | rfl | exact absurd rfl (hn _ _)

theorem mem_places {n : Nat} {f : Nat → Option Int} {h : Int} {i : Nat} : i ∈ placesWithHash n f h ↔ i < n ∧ f i = some h := by
  unfold placesWithHash
  rw [List.mem_filter, List.mem_range, beq_iff_eq]
theorem nodup_places {n : Nat} {f : Nat → Option Int} {h : Int} : (placesWithHash n f h).Nodup := List.Pairwise.filter _ List.nodup_range

theorem nd_behind {d : Addr} {o : Obj} {es : Array DictEntry} {ep : Nat} {ks : List NestedKey} {k : NestedKey} {u : Value} {Q : Option Nat → Shared → Prop} (room : A.units + 8 < cLine) (hk : NestedIs s.heap k u) (dk : k.depth ≤ 8)
    (ho : s.heap.get? d = some o) (hd : o.data = .dict es ep) (x : Ents w s.heap es ks) (hnone : k ∉ ks → Q none s) (hsome : ∀ j, ks[j]? = some k → Q (some j) s) :
    wpAny (model prog w) A (findBehind d u (k.hash w) es) Q E s := by
  have atp : ∀ j, ks[j]? = some k → j ∈ placesWithHash es.size (fun i => es[i]?.map (·.hash)) (k.hash w) := fun j hj => by
    obtain ⟨e, e1, e2, _⟩ := x.at_ j k hj
    exact mem_places.mpr ⟨(Array.getElem?_eq_some_iff.mp e1).1, by rw [e1, Option.map_some, e2]⟩
  have none_of : (∀ j, ks[j]? = some k → False) → k ∉ ks := fun h m => by
    obtain ⟨j, hj⟩ := List.mem_iff_getElem?.mp m
    exact h j hj
  have nd := nodup_places (n := es.size) (f := fun i => es[i]?.map (·.hash)) (h := k.hash w)
  have inp : ∀ i ∈ placesWithHash es.size (fun i => es[i]?.map (·.hash)) (k.hash w), ∃ e k', es[i]? = some e ∧ e.hash = k.hash w ∧ ks[i]? = some k' ∧ NestedIs s.heap k' e.key ∧ k'.depth ≤ 8 := fun i hi => by
    obtain ⟨h1, h2⟩ := mem_places.mp hi
    obtain ⟨e, e1, e2⟩ := Option.map_eq_some_iff.mp h2
    obtain ⟨k', k1, _, k2, k3⟩ := x.back e1
    exact ⟨e, k', e1, e2, k1, k2, k3⟩
  unfold findBehind
  dsimp only
  by_cases hv : ((u :: (placesWithHash es.size (fun i => es[i]?.map (·.hash)) (k.hash w)).filterMap fun i => es[i]?.map (·.key)).all carriedByValue) = true
  · rw [if_pos hv]
    unfold dictWalkPlain
    refine wpAny_bind ?_
    refine wpAny_forIn_list _ (fun rest b t => t = s ∧ b = (none, ()) ∧ (∀ i ∈ rest, i ∈ placesWithHash es.size (fun i => es[i]?.map (·.hash)) (k.hash w)) ∧ ∀ j, ks[j]? = some k → j ∈ rest) _ ?_ ?_ _ _ ⟨rfl, rfl, fun _ h => h, atp⟩
    · rintro i rest b t ⟨e1, e2, hr, hj⟩
      subst e1 e2
      obtain ⟨e, k', e1, e2, k1, k2, k3⟩ := inp i (hr i List.mem_cons_self)
      rw [e1]
      dsimp only
      rw [if_pos (by rw [e2]; exact beq_self_eq_true _)]
      refine wpAny_bind (wpAny_dictEpoch ho hd (wpAny_bind (nd_eq room k2 hk k3 (wpAny_bind (wpAny_dictEpoch ho hd ?_)))))
      rw [if_neg (by simp)]
      by_cases hkk : k' = k
      · rw [decide_eq_true hkk, if_pos rfl]
        subst hkk
        exact wpAny_bind (wpAny_rule (wpAny_pure (wpAny_pure (hsome i k1))))
      · rw [decide_eq_false hkk, if_neg (by decide)]
        refine wpAny_bind (wpAny_rule (wpAny_pure ⟨rfl, rfl, fun i hi => hr i (List.mem_cons_of_mem _ hi), fun j h => ?_⟩))
        rcases List.mem_cons.mp (hj j h) with z | z
        · subst z; rw [k1] at h; cases h; exact absurd rfl hkk
        · exact z
    · rintro b t ⟨e1, e2, hr, hj⟩
      subst e1 e2
      exact wpAny_pure (hnone (none_of fun j h => by cases hj j h))
  · rw [if_neg hv]
    clear hv
    generalize (placesWithHash es.size (fun i => es[i]?.map (·.hash)) (k.hash w)) = ps at atp nd inp
    have hst : ∀ v ∈ ps.filterMap fun i => es[i]?.map (·.key), ∃ y, NestedIs s.heap y v ∧ y.depth ≤ 8 := fun v hv => by
      obtain ⟨i, hi, e0⟩ := List.mem_filterMap.mp hv
      obtain ⟨e, k', e1, _, _, k2, k3⟩ := inp i hi
      rw [e1] at e0; cases e0
      exact ⟨k', k2, k3⟩
    have hany : ¬ (es.any fun e => e.key == u && e.hash != k.hash w) = true := by
      intro hc
      obtain ⟨i, hi, q⟩ := Array.any_eq_true.mp hc
      rw [Bool.and_eq_true, beq_iff_eq, bne_iff_ne] at q
      obtain ⟨k', _, k1, k2, _⟩ := x.back (Array.getElem?_eq_getElem hi)
      rw [q.1] at k2
      rw [NestedIs.inj _ _ _ k2 hk] at k1
      exact q.2 k1
    generalize (ps.filterMap fun i => es[i]?.map (·.key)) = st at hst
    have last : wpAny (model prog w) A (findTold d u (k.hash w) es ps st) Q E s := by
      have lp : wpAny (model prog w) A (findLoop d u (k.hash w) es ps st false) Q E s := by
        unfold findLoop
        refine wpAny_bind ?_
        refine wpAny_forIn_list _ (fun rest (b : Option (Option Nat) × Option Nat) t => t = s ∧ b.1 = none ∧ (∀ i ∈ rest, i ∈ ps) ∧ rest.Nodup ∧ ((b.2 = none ∧ ∀ j, ks[j]? = some k → j ∈ rest) ∨ ∃ j, b.2 = some j ∧ ks[j]? = some k ∧ j ∉ rest)) _ ?_ ?_ _ _ ⟨rfl, rfl, fun _ h => h, nd, .inl ⟨rfl, atp⟩⟩
        · rintro i rest ⟨b1, b2⟩ t ⟨e1, e2, hr, hn, hj⟩
          dsimp only at e2 hj
          subst e1 e2
          obtain ⟨hni, hn'⟩ := List.nodup_cons.mp hn
          obtain ⟨e, k', e1, e2, k1, k2, k3⟩ := inp i (hr i List.mem_cons_self)
          rw [e1]
          dsimp only
          rw [if_pos (by rw [e2]; exact beq_self_eq_true _)]
          refine wpAny_bind (wpAny_dictEpoch ho hd (wpAny_bind (nd_eq room k2 hk k3 (wpAny_bind (wpAny_dictEpoch ho hd ?_)))))
          rw [if_neg (by simp)]
          by_cases hkk : k' = k
          · rw [decide_eq_true hkk, if_pos rfl]
            subst hkk
            rcases hj with ⟨rfl, hj⟩ | ⟨j, rfl, hj1, hj2⟩
            · rw [if_neg (by decide)]
              refine wpAny_bind (wpAny_rule ?_)
              by_cases hl : st.length < 2
              · rw [if_pos hl]
                exact wpAny_pure (wpAny_pure (hsome i k1))
              · rw [if_neg hl]
                exact wpAny_pure ⟨rfl, rfl, fun i hi => hr i (List.mem_cons_of_mem _ hi), hn', .inr ⟨i, rfl, k1, hni⟩⟩
            · exact absurd (one_place x.nodup hj1 k1 ▸ List.mem_cons_self) hj2
          · rw [decide_eq_false hkk, if_neg (by decide)]
            refine wpAny_bind (wpAny_rule ?_)
            rw [if_neg (by simp)]
            refine wpAny_pure ⟨rfl, rfl, fun i hi => hr i (List.mem_cons_of_mem _ hi), hn', ?_⟩
            rcases hj with ⟨rfl, hj⟩ | ⟨j, rfl, hj1, hj2⟩
            · refine .inl ⟨rfl, fun j h => ?_⟩
              rcases List.mem_cons.mp (hj j h) with z | z
              · subst z; rw [k1] at h; cases h; exact absurd rfl hkk
              · exact z
            · exact .inr ⟨j, rfl, hj1, fun m => hj2 (List.mem_cons_of_mem _ m)⟩
        · rintro ⟨b1, b2⟩ t ⟨e1, e2, hr, hn, hj⟩
          dsimp only at e2 hj
          subst e1 e2
          rcases hj with ⟨rfl, hj⟩ | ⟨j, rfl, hj1, hj2⟩
          · exact wpAny_pure (hnone (none_of fun j h => by cases hj j h))
          · exact wpAny_pure (hsome j hj1)
      unfold findTold
      by_cases hone : (st == [u]) = true
      · rw [if_pos hone]
        exact wpAny_bind (wpAny_pure lp)
      · rw [if_neg hone]
        exact wpAny_bind (nd_silent hk dk hst lp)
    unfold findMid
    cases u with
    | ref a =>
      dsimp only
      rw [if_neg hany]
      exact last
    | _ => exact last
/-- a key is found at its place, or not -/
theorem nd_find {d : Addr} {o : Obj} {es : Array DictEntry} {ep : Nat} {ks : List NestedKey} {k : NestedKey} {u : Value} {Q : Option Nat → Shared → Prop} (room : A.units + 8 < cLine) (hk : NestedIs s.heap k u) (dk : k.depth ≤ 8)
    (ho : s.heap.get? d = some o) (hd : o.data = .dict es ep) (x : Ents w s.heap es ks) (hnone : k ∉ ks → Q none s) (hsome : ∀ j, ks[j]? = some k → Q (some j) s) :
    wpAny (model prog w) A (dictFind d u (k.hash w)) Q E s := by
  have last := nd_behind (prog := prog) (E := E) room hk dk ho hd x hnone hsome
  have other : (∀ y t, u ≠ .str y t) → wpAny (model prog w) A (dictFind d u (k.hash w)) Q E s := fun hn => by
    rw [find_other hn]
    exact wpAny_holding (wpAny_bind (wpAny_dictEntries ho hd last))
  cases hk with
  | text y t =>
    rw [find_text]
    refine wpAny_holding (wpAny_bind (wpAny_dictEntries ho hd ?_))
    by_cases hall : (es.all fun e => isExactStrKey e.key) = true
    · rw [if_pos hall]
      have isk : ∀ (i : Nat) (e : DictEntry) (k' : NestedKey), es[i]? = some e → ks[i]? = some k' → (e.key.isStr y = true ↔ k' = .text y) := fun i e k' h1 h2 => by
        obtain ⟨e', h3, _, h4, _⟩ := x.at_ i k' h2
        rw [h1] at h3; cases h3
        have h5 : isExactStrKey e.key = true := by
          obtain ⟨hi, rfl⟩ := Array.getElem?_eq_some_iff.mp h1
          exact (Array.all_eq_true.mp hall) i hi
        cases hkey : e.key with
        | str z t' =>
          rw [hkey] at h4
          cases h4
          show (z == y) = true ↔ _
          simp
        | _ => rw [hkey] at h5; exact absurd h5 Bool.false_ne_true
      unfold foundByValue
      cases hf : es.findIdx? (fun e => e.key.isStr y) with
      | none =>
        refine wpAny_pure (hnone fun m => ?_)
        obtain ⟨j, hj⟩ := List.mem_iff_getElem?.mp m
        obtain ⟨e, h3, _⟩ := x.at_ j _ hj
        have := Array.findIdx?_eq_none_iff.mp hf e (Array.mem_of_getElem? h3)
        rw [(isk j e _ h3 hj).mpr rfl] at this
        cases this
      | some i =>
        obtain ⟨hlt, hi, _⟩ := Array.findIdx?_eq_some_iff_getElem.mp hf
        obtain ⟨k', k1, k2, k3, k4⟩ := x.back (Array.getElem?_eq_getElem hlt)
        have hkk := (isk i _ _ (Array.getElem?_eq_getElem hlt) k1).mp hi
        subst hkk
        dsimp only
        rw [Array.getElem?_eq_getElem hlt]
        dsimp only
        refine wpAny_bind (wpAny_dictEpoch ho hd (wpAny_bind (nd_eq room k3 (.text y t) k4 (wpAny_bind (wpAny_dictEpoch ho hd ?_)))))
        rw [if_neg (by simp), decide_eq_true rfl, if_pos rfl]
        exact wpAny_bind (wpAny_rule (wpAny_pure (hsome i k1)))
    · rw [if_neg hall]
      exact last
  | none => exact other fun _ _ h => by cases h
  | bool h => exact other fun _ _ h => by cases h
  | int i t => exact other fun _ _ h => by cases h
  | tup h1 h2 h3 h4 => exact other fun _ _ h => by cases h
end
end Sb

/-! Dicts over data keys: the operations, over the heap. -/
namespace Sb
open PySem PySem.Spec L2

/-! ### entries as lists -/
section
variable {α β : Type}
abbrev NL (α β : Type) := List (NestedKey × α × β)
def ngetp (es : NL α β) (k : NestedKey) : Option (α × β) := (es.find? fun e => decide (e.1 = k)).map (·.2)
def nput (es : NL α β) (k : NestedKey) (a : α) (b : β) : NL α β := if k ∈ es.map (·.1) then es.map fun e => if e.1 = k then (e.1, e.2.1, b) else e else es ++ [(k, a, b)]
def ndrop (es : NL α β) (k : NestedKey) : NL α β := es.filter fun e => !decide (e.1 = k)
theorem ngetp_at : ∀ {es : NL α β} {i : Nat} {k : NestedKey} {p : α × β}, (es.map (·.1)).Nodup → es[i]? = some (k, p) → ngetp es k = some p
  | [], _, _, _, _, h => by simp at h
  | e :: es, 0, k, p, _, h => by
    simp only [List.getElem?_cons_zero, Option.some.injEq] at h
    subst h
    simp [ngetp]
  | e :: es, i + 1, k, p, n, h => by
    simp only [List.map_cons, List.nodup_cons] at n
    simp only [List.getElem?_cons_succ] at h
    have hm : k ∈ es.map (·.1) := List.mem_map.mpr ⟨(k, p), List.mem_of_getElem? h, rfl⟩
    have hk : ¬ e.1 = k := fun z => n.1 (z ▸ hm)
    have ih := ngetp_at n.2 h
    simpa [ngetp, List.find?_cons, hk] using ih
theorem ngetp_none {es : NL α β} {k : NestedKey} (h : k ∉ es.map (·.1)) : ngetp es k = none := by
  unfold ngetp
  rw [Option.map_eq_none_iff, List.find?_eq_none]
  intro e he hk
  exact h (List.mem_map.mpr ⟨e, he, of_decide_eq_true hk⟩)
theorem keys_at {es : NL α β} {i : Nat} {k : NestedKey} (h : (es.map (·.1))[i]? = some k) : ∃ p, es[i]? = some (k, p) := by
  rw [List.getElem?_map] at h
  obtain ⟨e, h1, h2⟩ := Option.map_eq_some_iff.mp h
  exact ⟨e.2, by rw [h1, ← h2]⟩
theorem nput_keys {es : NL α β} {k : NestedKey} {a : α} {b : β} : (nput es k a b).map (·.1) = if k ∈ es.map (·.1) then es.map (·.1) else es.map (·.1) ++ [k] := by
  unfold nput
  split
  · rw [List.map_map]
    refine List.map_congr_left fun e _ => ?_
    simp only [Function.comp]
    split <;> rfl
  · simp
theorem nput_nodup {es : NL α β} {k : NestedKey} {a : α} {b : β} (n : (es.map (·.1)).Nodup) : ((nput es k a b).map (·.1)).Nodup := by
  rw [nput_keys]
  split
  · exact n
  · rename_i h
    refine List.nodup_append.mpr ⟨n, by simp, fun x hx y hy => ?_⟩
    simp only [List.mem_singleton] at hy
    subst hy
    exact fun z => h (z ▸ hx)
theorem nput_mem {es : NL α β} {k : NestedKey} {a : α} {b : β} {x : NestedKey × α × β} (h : x ∈ nput es k a b) : (∃ e ∈ es, e.1 = x.1 ∧ e.2.1 = x.2.1 ∧ (e.2.2 = x.2.2 ∨ (x.1 = k ∧ x.2.2 = b))) ∨ x = (k, a, b) := by
  unfold nput at h
  split at h
  · obtain ⟨e, he, rfl⟩ := List.mem_map.mp h
    refine .inl ⟨e, he, ?_⟩
    split
    · rename_i z; exact ⟨rfl, rfl, .inr ⟨z, rfl⟩⟩
    · exact ⟨rfl, rfl, .inl rfl⟩
  · rcases List.mem_append.mp h with h | h
    · exact .inl ⟨x, h, rfl, rfl, .inl rfl⟩
    · simp only [List.mem_singleton] at h; exact .inr h
theorem ndrop_nodup {es : NL α β} {k : NestedKey} (n : (es.map (·.1)).Nodup) : ((ndrop es k).map (·.1)).Nodup := by
  unfold ndrop
  exact n.sublist (List.filter_sublist.map _)
theorem nput_modify {γ : Type} (f : NestedKey × α × β → γ) (g : γ → γ) (k : NestedKey) (a : α) (b : β) (hg : ∀ x y, g (f (k, x, y)) = f (k, x, b)) : ∀ {es : NL α β} {j : Nat} {p : α × β}, (es.map (·.1)).Nodup → es[j]? = some (k, p) → (es.map f).modify j g = (nput es k a b).map f := by
  intro es j p n h
  have hm : k ∈ es.map (·.1) := List.mem_map.mpr ⟨(k, p), List.mem_of_getElem? h, rfl⟩
  unfold nput
  rw [if_pos hm]
  refine List.ext_getElem? fun i => ?_
  rw [List.getElem?_modify, List.getElem?_map, List.getElem?_map, List.getElem?_map]
  cases e : es[i]? with
  | none => rfl
  | some x =>
    have hx : (x.1 = k) ↔ j = i := by
      constructor
      · intro z
        refine one_place n (k := k) ?_ ?_
        · rw [List.getElem?_map, h]; rfl
        · rw [List.getElem?_map, e]; exact congrArg some z
      · intro z
        subst z
        rw [h] at e; cases e; rfl
    obtain ⟨x1, x2, x3⟩ := x
    by_cases z : j = i
    · have := hx.mpr z
      simp only at this
      subst this
      simp [z, hg]
    · have : ¬ x1 = k := fun q => z (hx.mp q)
      simp [z, this]
theorem ndrop_erase {es : NL α β} {j : Nat} {k : NestedKey} {p : α × β} (n : (es.map (·.1)).Nodup) (h : es[j]? = some (k, p)) : es.eraseIdx j = ndrop es k := by
  induction es generalizing j with
  | nil => simp at h
  | cons e es ih =>
    simp only [List.map_cons, List.nodup_cons] at n
    cases j with
    | zero =>
      simp only [List.getElem?_cons_zero, Option.some.injEq] at h
      subst h
      have : es.filter (fun e => !decide (e.1 = k)) = es := by
        refine List.filter_eq_self.mpr fun x hx => ?_
        have : ¬ x.1 = k := fun z => n.1 (z ▸ List.mem_map.mpr ⟨x, hx, rfl⟩)
        simp [this]
      simp [ndrop, List.filter_cons, this]
    | succ j =>
      simp only [List.getElem?_cons_succ] at h
      have hm : k ∈ es.map (·.1) := List.mem_map.mpr ⟨(k, p), List.mem_of_getElem? h, rfl⟩
      have hk : ¬ e.1 = k := fun z => n.1 (z ▸ hm)
      have := ih n.2 h
      simp only [ndrop] at this
      simp [ndrop, List.filter_cons, hk, this]
end

/-! ### the dict in the heap -/
def entN (w : World) (e : NestedKey × Value × Value) : DictEntry := ⟨e.1.hash w, e.2.1, e.2.2⟩
structure NAt (w : World) (h : Heap) (d : Addr) (es : NL Value Value) : Prop where
  low : (d == sysModules) = false
  len : es.length ≤ sizeLine
  obj : ∃ o arr ep, h.get? d = some o ∧ o.ExactDict ∧ o.data = .dict arr ep ∧ arr.toList = es.map (entN w)
  key : ∀ e ∈ es, NestedIs h e.1 e.2.1 ∧ e.1.depth ≤ 8
  nodup : (es.map (·.1)).Nodup
theorem arr_at {w : World} {arr : Array DictEntry} {es : NL Value Value} (he : arr.toList = es.map (entN w)) (i : Nat) : arr[i]? = (es[i]?).map (entN w) := by rw [← Array.getElem?_toList, he, List.getElem?_map]
theorem arr_size {w : World} {arr : Array DictEntry} {es : NL Value Value} (he : arr.toList = es.map (entN w)) : arr.size = es.length := by rw [← Array.length_toList, he, List.length_map]
theorem ents_of {w : World} {h : Heap} {arr : Array DictEntry} {es : NL Value Value} (he : arr.toList = es.map (entN w)) (hk : ∀ e ∈ es, NestedIs h e.1 e.2.1 ∧ e.1.depth ≤ 8) (n : (es.map (·.1)).Nodup) : Ents w h arr (es.map (·.1)) where
  size := by rw [arr_size he, List.length_map]
  at_ := fun i k e => by
    obtain ⟨p, hp⟩ := keys_at e
    have := hk _ (List.mem_of_getElem? hp)
    exact ⟨entN w (k, p), by rw [arr_at he, hp]; rfl, rfl, this.1, this.2⟩
  nodup := n
theorem nested_but {d : Addr} {h h' : Heap} {o : Obj} {arr : Array DictEntry} {ep : Nat} (ho : h.get? d = some o) (hd : o.data = .dict arr ep) (hs : Heap.SameBut d h h') {k : NestedKey} {v : Value} (x : NestedIs h k v) : NestedIs h' k v :=
  NestedIs.at (fun b ob vs n e q => by
    by_cases z : b = d
    · subst z; rw [ho] at e; cases e; rw [hd] at q; cases q
    · exact (hs.2 b z).trans e) k v x
section
variable {prog : Program} {w : World} {A : Around} {E : Value → Shared → Prop} {s : Shared} {d : Addr} {es : NL Value Value} {k : NestedKey} {u v : Value}
theorem NAt.typeIs (x : NAt w s.heap d es) : s.TypeIs (.ref d) "dict" := let ⟨o, _, _, ho, hc, _⟩ := x.obj; ⟨o, ho, hc.1⟩
theorem NAt.plain (x : NAt w s.heap d es) : ∀ b, Value.ref d = .ref b → ∃ ob, s.heap.get? b = some ob ∧ ob.dict = none := fun b q => by
  cases q
  obtain ⟨o, _, _, ho, hc, _⟩ := x.obj
  exact ⟨o, ho, hc.2.1⟩
theorem nd_hash {Q : Int → Shared → Prop} (room : A.units + 8 < cLine) (hk : NestedIs s.heap k u) (dk : k.depth ≤ 8) (h : Q (k.hash w) { s with toks := s.toks + k.draws }) : wpAny (model prog w) A (pyHash u) Q E s :=
  pyHash_key k u A s Q hk (by omega) h
theorem nd_get {Q : Option Value → Shared → Prop} (room : A.units + 8 < cLine) (hk : NestedIs s.heap k u) (dk : k.depth ≤ 8) (x : NAt w s.heap d es) (h : Q ((ngetp es k).map (·.2)) { s with toks := s.toks + k.draws }) :
    wpAny (model prog w) A (dictGet d u) Q E s := by
  obtain ⟨o, arr, ep, ho, _, hd, he⟩ := x.obj
  unfold dictGet
  refine wpAny_holding (wpAny_bind (nd_hash room hk dk (wpAny_bind ?_)))
  refine nd_find (s := { s with toks := s.toks + k.draws }) room hk dk ho hd (ents_of he x.key x.nodup) (fun hn => ?_) fun j hj => ?_
  · rw [ngetp_none hn] at h
    exact wpAny_pure h
  · obtain ⟨p, hp⟩ := keys_at hj
    rw [ngetp_at x.nodup hp] at h
    refine wpAny_bind (wpAny_dictEntries (s := { s with toks := s.toks + k.draws }) ho hd ?_)
    rw [arr_at he, hp]
    exact wpAny_pure h
theorem nd_set {Q : Unit → Shared → Prop} (room : A.units + 8 < cLine) (hk : NestedIs s.heap k u) (dk : k.depth ≤ 8) (x : NAt w s.heap d es) (hl : es.length < sizeLine)
    (h : ∀ h', NAt w h' d (nput es k u v) → Heap.SameBut d s.heap h' → Q () { s with heap := h', toks := s.toks + k.draws }) : wpAny (model prog w) A (dictSet d u v) Q E s := by
  obtain ⟨o, arr, ep, ho, hc, hd, he⟩ := x.obj
  have ln : (nput es k u v).length ≤ sizeLine := by
    unfold nput
    split
    · rw [List.length_map]; exact x.len
    · rw [List.length_append]; exact hl
  have kn : ∀ h', Heap.SameBut d s.heap h' → ∀ e ∈ nput es k u v, NestedIs h' e.1 e.2.1 ∧ e.1.depth ≤ 8 := fun h' hs e he' => by
    rcases nput_mem he' with ⟨e', m, e1, e2, _⟩ | e1
    · have := x.key e' m
      rw [← e1, ← e2]
      exact ⟨nested_but ho hd hs this.1, this.2⟩
    · rw [e1]; exact ⟨nested_but ho hd hs hk, dk⟩
  unfold dictSet
  refine wpAny_holding (wpAny_bind (nd_hash room hk dk ?_))
  unfold dictSetHashed
  refine wpAny_holding (wpAny_bind ?_)
  refine nd_find (s := { s with toks := s.toks + k.draws }) room hk dk ho hd (ents_of he x.key x.nodup) (fun hn => ?_) fun j hj => ?_
  · refine wpAny_bind (wpAny_rule (wpAny_updateDictKeys (hz := by have e := arr_size he; have := x.len; omega) (s := { s with toks := s.toks + k.draws }) ho hd (h _ ⟨x.low, ln, ⟨_, _, ep + 1, Heap.get?_update_self _ ho (Obj.isFreed_of_dict (Obj.data_mapDictKeys hd _)), hc.mapDictKeys _, Obj.data_mapDictKeys hd _, ?_⟩, kn _ (Heap.SameBut.update ..), nput_nodup x.nodup⟩ (Heap.SameBut.update ..))))
    unfold nput
    rw [if_neg hn]
    simp [he, entN]
  · obtain ⟨p, hp⟩ := keys_at hj
    refine wpAny_bind (wpAny_rule (wpAny_bind (wpAny_updateDict (s := { s with toks := s.toks + k.draws }) ho hd (wpAny_point (h _ ⟨x.low, ln, ⟨_, _, ep, Heap.get?_update_self _ ho (Obj.isFreed_of_dict (Obj.data_mapDict hd _)), hc.mapDict _, Obj.data_mapDict hd _, ?_⟩, kn _ (Heap.SameBut.update ..), nput_nodup x.nodup⟩ (Heap.SameBut.update ..))))))
    have := nput_modify (entN w) (fun e : DictEntry => { e with val := v }) k u v (fun _ _ => rfl) x.nodup hp
    rw [← he] at this
    obtain ⟨l⟩ := arr
    simpa using this
theorem nd_take {Q : Option DictEntry → Shared → Prop} {p : Value × Value} (room : A.units + 8 < cLine) (hk : NestedIs s.heap k u) (dk : k.depth ≤ 8) (x : NAt w s.heap d es) (hp : ngetp es k = some p)
    (h : ∀ e h', e.val = p.2 → NAt w h' d (ndrop es k) → Heap.SameBut d s.heap h' → Q (some e) { s with heap := h', toks := s.toks + k.draws }) : wpAny (model prog w) A (Builtin.Dict.takeOut d u) Q E s := by
  obtain ⟨o, arr, ep, ho, hc, hd, he⟩ := x.obj
  unfold Builtin.Dict.takeOut
  refine wpAny_holding (wpAny_bind (nd_hash room hk dk (wpAny_bind ?_)))
  refine nd_find (s := { s with toks := s.toks + k.draws }) room hk dk ho hd (ents_of he x.key x.nodup) (fun hn => ?_) fun j hj => ?_
  · rw [ngetp_none hn] at hp; cases hp
  · obtain ⟨p', hp'⟩ := keys_at hj
    rw [ngetp_at x.nodup hp'] at hp; cases hp
    refine wpAny_bind (wpAny_dictEntries (s := { s with toks := s.toks + k.draws }) ho hd ?_)
    rw [arr_at he, hp']
    refine wpAny_bind (wpAny_updateDictKeys (hz := by have e := arr_size he; have := x.len; omega) (s := { s with toks := s.toks + k.draws }) ho hd (wpAny_pure (h _ _ rfl ⟨x.low, ?_, ⟨_, _, ep + 1, Heap.get?_update_self _ ho (Obj.isFreed_of_dict (Obj.data_mapDictKeys hd _)), hc.mapDictKeys _, Obj.data_mapDictKeys hd _, ?_⟩, fun e m => ?_, ndrop_nodup x.nodup⟩ (Heap.SameBut.update ..))))
    · exact Nat.le_trans (List.length_filter_le _ _) x.len
    · rw [← ndrop_erase x.nodup hp', PySem.map_eraseIdx, ← he]
      obtain ⟨l⟩ := arr
      simp
    · have := x.key e ((List.mem_filter.mp m).1)
      exact ⟨nested_but ho hd (Heap.SameBut.update ..) this.1, this.2⟩
end
end Sb

/-! Dicts over data keys: what Python does with them. -/
namespace Sb
open PySem PySem.Spec L2

section
variable {prog : Program} {w : World} {A : Around} {E : Value → Shared → Prop} {s : Shared} {d : Addr} {es : NL Value Value} {k : NestedKey} {u v : Value}
theorem room1 (h : A.units + 9 < cLine) : A.in1.units + 8 < cLine := by
  show A.units + 1 + 8 < cLine
  omega
theorem nd_contains {Q : Value → Shared → Prop} (room : A.units + 9 < cLine) (hk : NestedIs s.heap k u) (dk : k.depth ≤ 8) (x : NAt w s.heap d es) (h : Q (.bool (ngetp es k).isSome) { s with toks := s.toks + k.draws }) :
    wpAny (model prog w) A (compareOp .In u (.ref d)) Q E s := by
  show wpAny _ _ (do return .bool (← contains (.ref d) u)) Q E s
  refine wpAny_bind ?_
  unfold contains
  refine wpAny_holding (wpAny_bind (wpAny_specialOf x.typeIs slot_dict_contains.lookup ?_))
  show wpAny _ _ (if (some (Value.builtin "dict.__contains__") == some Value.none) = true then _ else _) _ E s
  rw [if_neg (by rw [beq_builtin_none]; exact Bool.false_ne_true)]
  refine wpAny_bind (wpAny_callSpecialUnlessNone?_slot (name := Str.ofString "__contains__") x.typeIs slot_dict_contains (wpAny_call_entry slot_dict_contains x.typeIs entry_dict_contains ?_ (args_dict_contains _ _)))
  show wpAny _ _ (dictGet d u >>= _) _ _ s
  refine wpAny_bind (nd_get (room1 room) hk dk x ?_)
  cases hf : ngetp es k with
  | some p =>
    rw [hf] at h
    show wpAny _ _ (ret (.bool true)) _ _ _
    exact wpAny_pure ⟨_, rfl, wpAny_truthy_bool (wpAny_pure h)⟩
  | none =>
    rw [hf] at h
    show wpAny _ _ (Builtin.Dict.pendingKey? d u >>= _) _ _ _
    exact wpAny_bind (wpAny_pendingKey_other x.low (wpAny_pure ⟨_, rfl, wpAny_truthy_bool (wpAny_pure h)⟩))
theorem nd_ncontains {Q : Value → Shared → Prop} (room : A.units + 9 < cLine) (hk : NestedIs s.heap k u) (dk : k.depth ≤ 8) (x : NAt w s.heap d es) (h : Q (.bool (!(ngetp es k).isSome)) { s with toks := s.toks + k.draws }) :
    wpAny (model prog w) A (compareOp .NotIn u (.ref d)) Q E s := by
  show wpAny _ _ (do return .bool (!(← contains (.ref d) u))) Q E s
  refine wpAny_bind ?_
  unfold contains
  refine wpAny_holding (wpAny_bind (wpAny_specialOf x.typeIs slot_dict_contains.lookup ?_))
  show wpAny _ _ (if (some (Value.builtin "dict.__contains__") == some Value.none) = true then _ else _) _ E s
  rw [if_neg (by rw [beq_builtin_none]; exact Bool.false_ne_true)]
  refine wpAny_bind (wpAny_callSpecialUnlessNone?_slot (name := Str.ofString "__contains__") x.typeIs slot_dict_contains (wpAny_call_entry slot_dict_contains x.typeIs entry_dict_contains ?_ (args_dict_contains _ _)))
  show wpAny _ _ (dictGet d u >>= _) _ _ s
  refine wpAny_bind (nd_get (room1 room) hk dk x ?_)
  cases hf : ngetp es k with
  | some p =>
    rw [hf] at h
    show wpAny _ _ (ret (.bool true)) _ _ _
    exact wpAny_pure ⟨_, rfl, wpAny_truthy_bool (wpAny_pure h)⟩
  | none =>
    rw [hf] at h
    show wpAny _ _ (Builtin.Dict.pendingKey? d u >>= _) _ _ _
    exact wpAny_bind (wpAny_pendingKey_other x.low (wpAny_pure ⟨_, rfl, wpAny_truthy_bool (wpAny_pure h)⟩))
theorem nd_item {Q : Value → Shared → Prop} {p : Value × Value} (room : A.units + 9 < cLine) (hk : NestedIs s.heap k u) (dk : k.depth ≤ 8) (x : NAt w s.heap d es) (hp : ngetp es k = some p) (h : Q p.2 { s with toks := s.toks + k.draws }) :
    wpAny (model prog w) A (getItem (.ref d) u) Q E s := by
  unfold getItem
  refine wpAny_holding (wpAny_bind (wpAny_sequenceKey x.typeIs (by decide) ?_))
  refine wpAny_bind (wpAny_callSpecial?_slot (name := Str.ofString "__getitem__") x.typeIs slot_dict_getitem (wpAny_call_entry slot_dict_getitem x.typeIs entry_dict_getitem ?_ (args_dict_getitem _ _)))
  show wpAny _ _ (dictGet d u >>= _) _ _ s
  refine wpAny_bind (nd_get (room1 room) hk dk x ?_)
  rw [hp]
  exact wpAny_pure ⟨p.2, rfl, wpAny_pure h⟩
theorem nd_store {Q : Unit → Shared → Prop} (room : A.units + 9 < cLine) (hk : NestedIs s.heap k u) (dk : k.depth ≤ 8) (x : NAt w s.heap d es) (hl : es.length < sizeLine)
    (h : ∀ h', NAt w h' d (nput es k u v) → Heap.SameBut d s.heap h' → Q () { s with heap := h', toks := s.toks + k.draws }) : wpAny (model prog w) A (setItem (.ref d) u v) Q E s := by
  unfold setItem
  refine wpAny_holding (wpAny_bind (wpAny_sequenceKey x.typeIs (by decide) ?_))
  refine wpAny_bind (wpAny_callSpecial?_slot (name := Str.ofString "__setitem__") x.typeIs slot_dict_setitem (wpAny_call_entry slot_dict_setitem x.typeIs entry_dict_setitem ?_ (args_dict_setitem _ _ _)))
  show wpAny _ _ (Builtin.Dict.notOrdered "__setitem__" ⟨[.ref d, u, v], []⟩ >>= _) _ _ s
  refine wpAny_bind (wpAny_notOrdered_dict x.typeIs ?_)
  show wpAny _ _ (dictSet d u v >>= _) _ _ s
  exact wpAny_bind (nd_set (room1 room) hk dk x hl fun h' x' hs => wpAny_pure ⟨.none, rfl, wpAny_pure (h h' x' hs)⟩)
theorem nd_meets_get (d : Addr) (u : Value) : MeetsIn prog w (Builtin.«dict.get» ⟨[.ref d, u], []⟩) (fun A R s => A.units + 9 < cLine ∧ ∃ k es, NestedIs s.heap k u ∧ k.depth ≤ 8 ∧ NAt w s.heap d es ∧ R (.ok (.ret (((ngetp es k).map (·.2)).getD .none))) { s with toks := s.toks + k.draws }) :=
  .of_wp fun A R s ⟨room, k, es, hk, dk, x, h⟩ => by
    show wpAny _ _ (dictGet d u >>= _) _ _ s
    refine wpAny_bind (nd_get (room1 room) hk dk x ?_)
    cases hf : (ngetp es k).map (·.2) with
    | some y =>
      rw [hf] at h
      exact wpAny_pure ⟨y, rfl, h⟩
    | none =>
      rw [hf] at h
      show wpAny _ _ (Builtin.Dict.missed d u >>= _) _ _ _
      exact wpAny_bind (wpAny_missed_other x.low (wpAny_pure ⟨.none, rfl, h⟩))
theorem nd_meets_getD (d : Addr) (u y : Value) : MeetsIn prog w (Builtin.«dict.get» ⟨[.ref d, u, y], []⟩) (fun A R s => A.units + 9 < cLine ∧ ∃ k es, NestedIs s.heap k u ∧ k.depth ≤ 8 ∧ NAt w s.heap d es ∧ R (.ok (.ret (((ngetp es k).map (·.2)).getD y))) { s with toks := s.toks + k.draws }) :=
  .of_wp fun A R s ⟨room, k, es, hk, dk, x, h⟩ => by
    show wpAny _ _ (dictGet d u >>= _) _ _ s
    refine wpAny_bind (nd_get (room1 room) hk dk x ?_)
    cases hf : (ngetp es k).map (·.2) with
    | some z =>
      rw [hf] at h
      exact wpAny_pure ⟨z, rfl, h⟩
    | none =>
      rw [hf] at h
      show wpAny _ _ (Builtin.Dict.missed d u >>= _) _ _ _
      exact wpAny_bind (wpAny_missed_other x.low (wpAny_pure ⟨y, rfl, h⟩))
/-- d.pop(k), the key there -/
theorem nd_meets_pop (d : Addr) (u : Value) : MeetsIn prog w (Builtin.«dict.pop» ⟨[.ref d, u], []⟩) (fun A R s => A.units + 9 < cLine ∧ ∃ k es p, NestedIs s.heap k u ∧ k.depth ≤ 8 ∧ NAt w s.heap d es ∧ ngetp es k = some p ∧
      ∀ h', NAt w h' d (ndrop es k) → Heap.SameBut d s.heap h' → R (.ok (.ret p.2)) { s with heap := h', toks := s.toks + k.draws }) :=
  .of_wp fun A R s ⟨room, k, es, p, hk, dk, x, hp, h⟩ => by
    obtain ⟨o, arr, ep, ho, hc, hd, he⟩ := x.obj
    unfold Builtin.«dict.pop»
    refine wpAny_bind ?_
    unfold Builtin.Dict.keyAndDefault
    refine wpAny_bind (wpAny_notOrdered_dict x.typeIs ?_)
    show wpAny _ _ (pure (d, u, none)) _ _ s
    refine wpAny_pure ?_
    have ne : arr.isEmpty = false := by
      cases hq : arr.isEmpty with
      | false => rfl
      | true =>
        have h0 : arr.size = 0 := by simpa using hq
        have : es = [] := List.length_eq_zero_iff.mp (by rw [← arr_size he]; exact h0)
        subst this
        cases hp
    have fin : ∀ (e : DictEntry) (h' : Heap), e.val = p.2 → NAt w h' d (ndrop es k) → Heap.SameBut d s.heap h' → wpAny (model prog w) A.in1 (do letGo [e.key] [e.val]; ret e.val) (fun fin s' => ∃ v, fin = .done (Flow.ret v) ∧ R (Except.ok (Flow.ret v)) s') (fun e s' => R (Except.error e) s') { s with heap := h', toks := s.toks + k.draws } :=
      fun e h' hv x' hs => wpAny_bind (wpAny_letGo (wpAny_pure ⟨e.val, rfl, by rw [hv]; exact h h' x' hs⟩))
    dsimp only
    by_cases hq : (keyPart u).isSome = true
    · rw [if_pos hq]
      refine wpAny_bind (wpAny_pure ?_)
      rw [if_neg (by decide)]
      refine wpAny_bind (nd_take (room1 room) hk dk x hp fun e h' hv x' hs => ?_)
      exact fin e h' hv x' hs
    · rw [if_neg hq]
      refine wpAny_bind (wpAny_dictEntries ho hd (wpAny_bind (wpAny_pure ?_)))
      rw [ne, if_neg (by decide)]
      refine wpAny_bind (nd_take (room1 room) hk dk x hp fun e h' hv x' hs => ?_)
      exact fin e h' hv x' hs
end

/-! ### keys as values -/
mutual
def KeyV (K : PySem.W.Frag) (H : Hp) : NestedKey → V → Prop
  | .none, v => v = .non
  | .num i, v => v = .int i
  | .text x, v => v = .str x
  | .tup ks, v => ∃ a xs, v = .ref a ∧ SqT K H a xs ∧ KeyVs K H ks xs
def KeyVs (K : PySem.W.Frag) (H : Hp) : List NestedKey → List V → Prop
  | [], xs => xs = []
  | k :: ks, xs => ∃ y ys, xs = y :: ys ∧ KeyV K H k y ∧ KeyVs K H ks ys
end
section
variable {X : Cx} {pins : List (Addr × Obj)} {σ : L2.St} {H : Hp} {s : Shared}
mutual
theorem KeyV.nested (I : Inv X pins σ H s) : ∀ (k : NestedKey) (v : V) (u : Value), KeyV X.K H k v → RelV v u → NestedIs s.heap k u
  | .none, v, u, h, r => by simp only [KeyV] at h; subst h; cases (show u = Value.none from r); exact .none
  | .num i, v, u, h, r => by simp only [KeyV] at h; subst h; obtain ⟨t, rfl⟩ := (show ∃ t, u = Value.int i t from r); exact .int i t
  | .text x, v, u, h, r => by simp only [KeyV] at h; subst h; obtain ⟨t, rfl⟩ := (show ∃ t, u = Value.str x t from r); exact .text x t
  | .tup ks, v, u, h, r => by
    simp only [KeyV] at h
    obtain ⟨a, xs, rfl, hT, hs⟩ := h
    cases (show u = Value.ref a from r)
    obtain ⟨its, rv, ⟨o, ho, hc, n, hd⟩, _⟩ := I.tuple hT
    exact .tup ho hc hd (by simpa using KeyVs.nested I ks xs its hs rv)
theorem KeyVs.nested (I : Inv X pins σ H s) : ∀ (ks : List NestedKey) (xs : List V) (us : List Value), KeyVs X.K H ks xs → Vals xs us → NestedAll s.heap ks us
  | [], xs, us, h, r => by simp only [KeyVs] at h; subst h; cases r; exact .nil
  | k :: ks, xs, us, h, r => by
    simp only [KeyVs] at h
    obtain ⟨y, ys, rfl, h1, h2⟩ := h
    cases r with
    | cons r1 r2 => exact .cons (KeyV.nested I k y _ h1 r1) (KeyVs.nested I ks ys _ h2 r2)
end
end

/-! ### the dict as an object of the abstract heap -/
def EntR (e : NestedKey × V × V) (x : NestedKey × Value × Value) : Prop := e.1 = x.1 ∧ RelV e.2.1 x.2.1 ∧ RelV e.2.2 x.2.2
def NObj (w : World) (h : Heap) (d : Addr) (es : NL Value Value) : Prop := (d == sysModules) = false ∧ es.length ≤ sizeLine ∧ (∃ o arr ep, h.get? d = some o ∧ o.ExactDict ∧ o.data = .dict arr ep ∧ arr.toList = es.map (entN w)) ∧ (es.map (·.1)).Nodup
def NdO (w : World) (d : Addr) (es : NL V V) : HO := .ext fun h => ∃ xs, NObj w h d xs ∧ Paired EntR es xs
/-- the keys as they ought to be -/
def NdK (K : PySem.W.Frag) (H : Hp) (es : NL V V) : Prop := ∀ e ∈ es, KeyV K H e.1 e.2.1 ∧ e.1.depth ≤ 8
theorem _root_.PySem.Paired.nkeys {es : NL V V} {xs : NL Value Value} (p : Paired EntR es xs) : xs.map (·.1) = es.map (·.1) := by
  induction p with
  | nil => rfl
  | cons a b ih => simp only [List.map_cons, ih, a.1]
theorem _root_.PySem.Paired.nlen {α β : Type} {R : α → β → Prop} {es : List α} {xs : List β} (p : Paired R es xs) : xs.length = es.length := by
  induction p with
  | nil => rfl
  | cons a b ih => simp only [List.length_cons, ih]
theorem _root_.PySem.Paired.nmem {α β : Type} {R : α → β → Prop} {es : List α} {xs : List β} (p : Paired R es xs) {x : β} (h : x ∈ xs) : ∃ e ∈ es, R e x := by
  induction p with
  | nil => cases h
  | cons a b ih =>
    rcases List.mem_cons.mp h with h | h
    · subst h; exact ⟨_, List.mem_cons_self, a⟩
    · obtain ⟨e, he, r⟩ := ih h; exact ⟨e, List.mem_cons_of_mem _ he, r⟩
theorem _root_.PySem.Paired.nget {es : NL V V} {xs : NL Value Value} (p : Paired EntR es xs) (k : NestedKey) : match ngetp es k, ngetp xs k with
    | some a, some b => RelV a.1 b.1 ∧ RelV a.2 b.2
    | none, none => True
    | _, _ => False := by
  induction p with
  | nil => trivial
  | @cons e x es xs a b ih =>
    obtain ⟨e1, e2, e3⟩ := e
    obtain ⟨x1, x2, x3⟩ := x
    obtain ⟨h1, h2⟩ := a
    simp only at h1
    subst h1
    by_cases z : e1 = k
    · subst z; simpa [ngetp, List.find?_cons] using h2
    · simpa [ngetp, List.find?_cons, z] using ih
theorem _root_.PySem.Paired.nput {es : NL V V} {xs : NL Value Value} (p : Paired EntR es xs) (k : NestedKey) {a b : V} {a' b' : Value} (ha : RelV a a') (hb : RelV b b') : Paired EntR (nput es k a b) (nput xs k a' b') := by
  unfold Sb.nput
  rw [p.nkeys]
  split
  · rename_i hh
    clear hh
    induction p with
    | nil => exact .nil
    | @cons e x es xs r t ih =>
      obtain ⟨e1, e2, e3⟩ := e
      obtain ⟨x1, x2, x3⟩ := x
      obtain ⟨h1, h2, h3⟩ := r
      simp only at h1
      subst h1
      refine .cons ?_ ih
      by_cases z : e1 = k
      · simp only [z, if_true]; exact ⟨rfl, h2, hb⟩
      · simp only [z, if_false]; exact ⟨rfl, h2, h3⟩
  · exact p.snoc ⟨rfl, ha, hb⟩
theorem _root_.PySem.Paired.ndrop {es : NL V V} {xs : NL Value Value} (p : Paired EntR es xs) (k : NestedKey) : Paired EntR (ndrop es k) (ndrop xs k) := by
  unfold Sb.ndrop
  induction p with
  | nil => exact .nil
  | @cons e x es xs r t ih =>
    obtain ⟨e1, e2, e3⟩ := e
    obtain ⟨x1, x2, x3⟩ := x
    obtain ⟨h1, h2, h3⟩ := r
    simp only at h1
    subst h1
    by_cases z : e1 = k
    · simpa [List.filter_cons, z] using ih
    · simp only [List.filter_cons, z, decide_false, Bool.not_false, if_true]
      exact .cons ⟨rfl, h2, h3⟩ ih
theorem ndo_stay {w : World} {d : Addr} {es : NL V V} {h1 h2 : Heap} (x : ∃ xs, NObj w h1 d xs ∧ Paired EntR es xs) (k : ∀ o, h1.get? d = some o → h2.get? d = some o) : ∃ xs, NObj w h2 d xs ∧ Paired EntR es xs := by
  obtain ⟨xs, ⟨a, b, ⟨o, arr, ep, ho, r⟩, c⟩, p⟩ := x
  exact ⟨xs, ⟨a, b, ⟨o, arr, ep, k o ho, r⟩, c⟩, p⟩
theorem ndo_new {w : World} {P : Program} {H : Hp} {h : Heap} {d : Addr} {es : NL V V} {xs : NL Value Value} (x : NAt w h d xs) (p : Paired EntR es xs) : ObjOk P w H h d (NdO w d es) :=
  ⟨⟨xs, ⟨x.low, x.len, x.obj, x.nodup⟩, p⟩, let ⟨o, _, _, ho, _⟩ := x.obj; ⟨o, ho⟩, fun _ _ a k => ndo_stay a k⟩
section
variable {X : Cx} {pins : List (Addr × Obj)} {σ : L2.St} {H : Hp} {s : Shared} {a : Addr} {es : NL V V} {k : NestedKey} {y v : V} {u r : Value} {A : Around} {E : Value → Shared → Prop}
theorem ndo_get (I : Inv X pins σ H s) (e : Rd H a (NdO X.w a es)) (kk : NdK X.K H es) : ∃ xs, NAt X.w s.heap a xs ∧ Paired EntR es xs := by
  obtain ⟨xs, ⟨h1, h2, h3, h4⟩, p⟩ := (e.ok I.hok).1
  refine ⟨xs, ⟨h1, h2, h3, fun x hx => ?_, h4⟩, p⟩
  obtain ⟨e, he, r1, r2, _⟩ := p.nmem hx
  obtain ⟨q1, q2⟩ := kk e he
  rw [← r1]
  exact ⟨KeyV.nested I _ _ _ q1 r2, q2⟩
def nval (es : NL V V) (k : NestedKey) : Option V := (ngetp es k).map (·.2)
theorem nval_some {xs : NL Value Value} (p : Paired EntR es xs) (h : nval es k = some v) : ∃ q, ngetp xs k = some q ∧ RelV v q.2 := by
  have := p.nget k
  unfold nval at h
  obtain ⟨z, hz, rfl⟩ := Option.map_eq_some_iff.mp h
  rw [hz] at this
  cases e : ngetp xs k with
  | none => rw [e] at this; exact this.elim
  | some q => rw [e] at this; exact ⟨q, rfl, this.2⟩
theorem nval_isSome {xs : NL Value Value} (p : Paired EntR es xs) : (ngetp xs k).isSome = (nval es k).isSome := by
  have := p.nget k
  unfold nval
  cases e : ngetp es k <;> cases e' : ngetp xs k <;> rw [e, e'] at this <;> first | rfl | exact this.elim
theorem nval_getD {xs : NL Value Value} {d : V} {d' : Value} (p : Paired EntR es xs) (hd : RelV d d') : RelV ((nval es k).getD d) (((ngetp xs k).map (·.2)).getD d') := by
  have := p.nget k
  unfold nval
  cases e : ngetp es k <;> cases e' : ngetp xs k <;> rw [e, e'] at this
  · exact hd
  · exact this.elim
  · exact this.elim
  · exact this.2
theorem ndo_write {h' : Heap} {t' : Nat} {es' : NL V V} {xs' : NL Value Value} (I : Inv X pins σ H s) (e : H a = some (NdO X.w a es)) (hs : Heap.SameBut a s.heap h') (x : NAt X.w h' a xs') (p : Paired EntR es' xs') : Inv X pins σ (upd H a (NdO X.w a es')) { s with heap := h', toks := t' } :=
  I.write (x := a) (e := a) (by rw [e]; exact True.intro) (.inl rfl) (fun b q hb z => (hs.2 b hb).trans z) (let ⟨o, _, _, ho, _⟩ := x.obj; ⟨o, ho⟩) (ndo_new x p)
theorem ndr_item {Q : Value → Shared → Prop} (room : A.units + 9 < cLine) (I : Inv X pins σ H s) (e : Rd H a (NdO X.w a es)) (kk : NdK X.K H es) (hk : KeyV X.K H k y) (dk : k.depth ≤ 8) (ry : RelV y u) (hv : nval es k = some v) (h : ∀ w' s', Inv X pins σ H s' → RelV v w' → Q w' s') :
    wpAny (model X.prog X.w) A (getItem (.ref a) u) Q E s := by
  obtain ⟨xs, x, p⟩ := ndo_get I e kk
  obtain ⟨q, hq, rq⟩ := nval_some p hv
  exact nd_item room (KeyV.nested I _ _ _ hk ry) dk x hq (h _ _ (I.tok _) rq)
theorem ndr_in {Q : Value → Shared → Prop} (room : A.units + 9 < cLine) (I : Inv X pins σ H s) (e : Rd H a (NdO X.w a es)) (kk : NdK X.K H es) (hk : KeyV X.K H k y) (dk : k.depth ≤ 8) (ry : RelV y u) (h : ∀ s', Inv X pins σ H s' → Q (.bool (nval es k).isSome) s') :
    wpAny (model X.prog X.w) A (compareOp .In u (.ref a)) Q E s := by
  obtain ⟨xs, x, p⟩ := ndo_get I e kk
  refine nd_contains room (KeyV.nested I _ _ _ hk ry) dk x ?_
  rw [nval_isSome p]
  exact h _ (I.tok _)
theorem ndr_notin {Q : Value → Shared → Prop} (room : A.units + 9 < cLine) (I : Inv X pins σ H s) (e : Rd H a (NdO X.w a es)) (kk : NdK X.K H es) (hk : KeyV X.K H k y) (dk : k.depth ≤ 8) (ry : RelV y u) (h : ∀ s', Inv X pins σ H s' → Q (.bool (!(nval es k).isSome)) s') :
    wpAny (model X.prog X.w) A (compareOp .NotIn u (.ref a)) Q E s := by
  obtain ⟨xs, x, p⟩ := ndo_get I e kk
  refine nd_ncontains room (KeyV.nested I _ _ _ hk ry) dk x ?_
  rw [nval_isSome p]
  exact h _ (I.tok _)
theorem ndr_store {Q : Unit → Shared → Prop} (room : A.units + 9 < cLine) (I : Inv X pins σ H s) (e : H a = some (NdO X.w a es)) (kk : NdK X.K H es) (hl : es.length < sizeLine) (hk : KeyV X.K H k y) (dk : k.depth ≤ 8) (ry : RelV y u) (rv : RelV v r)
    (h : ∀ s', Inv X pins σ (upd H a (NdO X.w a (nput es k y v))) s' → Q () s') : wpAny (model X.prog X.w) A (setItem (.ref a) u r) Q E s := by
  obtain ⟨xs, x, p⟩ := ndo_get I (.of e) kk
  exact nd_store room (KeyV.nested I _ _ _ hk ry) dk x (by rw [p.nlen]; exact hl) fun h' x' hs => h _ (ndo_write I e hs x' (p.nput k ry rv))
theorem ndr_set {Q : Unit → Shared → Prop} (room : A.units + 8 < cLine) (I : Inv X pins σ H s) (e : H a = some (NdO X.w a es)) (kk : NdK X.K H es) (hl : es.length < sizeLine) (hk : KeyV X.K H k y) (dk : k.depth ≤ 8) (ry : RelV y u) (rv : RelV v r)
    (h : ∀ s', Inv X pins σ (upd H a (NdO X.w a (nput es k y v))) s' → Q () s') : wpAny (model X.prog X.w) A (dictSet a u r) Q E s := by
  obtain ⟨xs, x, p⟩ := ndo_get I (.of e) kk
  exact nd_set room (KeyV.nested I _ _ _ hk ry) dk x (by rw [p.nlen]; exact hl) fun h' x' hs => h _ (ndo_write I e hs x' (p.nput k ry rv))
theorem ndr_get1 {Q : Value → Shared → Prop} (room : A.units + 9 < cLine) (I : Inv X pins σ H s) (e : Rd H a (NdO X.w a es)) (kk : NdK X.K H es) (hk : KeyV X.K H k y) (dk : k.depth ≤ 8) (ry : RelV y u) (h : ∀ w' s', Inv X pins σ H s' → RelV ((nval es k).getD .non) w' → Q w' s') :
    wpAny (model X.prog X.w) A (call (.builtin "dict.get") [.ref a, u]) Q E s := by
  obtain ⟨xs, x, p⟩ := ndo_get I e kk
  exact call_meetsIn PySem.F.slot_dict_get x.typeIs PySem.F.entry_dict_get (PySem.F.args_dict_get_2 _ _) (nd_meets_get a u) ⟨room, k, xs, KeyV.nested I _ _ _ hk ry, dk, x, h _ _ (I.tok _) (nval_getD p rfl)⟩
theorem ndr_get2 {Q : Value → Shared → Prop} {d : V} {d' : Value} (room : A.units + 9 < cLine) (I : Inv X pins σ H s) (e : Rd H a (NdO X.w a es)) (kk : NdK X.K H es) (hk : KeyV X.K H k y) (dk : k.depth ≤ 8) (ry : RelV y u) (rd : RelV d d') (h : ∀ w' s', Inv X pins σ H s' → RelV ((nval es k).getD d) w' → Q w' s') :
    wpAny (model X.prog X.w) A (call (.builtin "dict.get") [.ref a, u, d']) Q E s := by
  obtain ⟨xs, x, p⟩ := ndo_get I e kk
  exact call_meetsIn PySem.F.slot_dict_get x.typeIs PySem.F.entry_dict_get (PySem.F.args_dict_get_3 _ _ _) (nd_meets_getD a u d') ⟨room, k, xs, KeyV.nested I _ _ _ hk ry, dk, x, h _ _ (I.tok _) (nval_getD p rd)⟩
theorem ndr_pop {Q : Value → Shared → Prop} (room : A.units + 9 < cLine) (I : Inv X pins σ H s) (e : H a = some (NdO X.w a es)) (kk : NdK X.K H es) (hk : KeyV X.K H k y) (dk : k.depth ≤ 8) (ry : RelV y u) (hv : nval es k = some v) (h : ∀ w' s', Inv X pins σ (upd H a (NdO X.w a (ndrop es k))) s' → RelV v w' → Q w' s') :
    wpAny (model X.prog X.w) A (call (.builtin "dict.pop") [.ref a, u]) Q E s := by
  obtain ⟨xs, x, p⟩ := ndo_get I (.of e) kk
  obtain ⟨q, hq, rq⟩ := nval_some p hv
  exact call_meetsIn PySem.F.slot_dict_pop x.typeIs PySem.F.entry_dict_pop (PySem.F.args_dict_pop_2 _ _) (nd_meets_pop a u) ⟨room, k, xs, q, KeyV.nested I _ _ _ hk ry, dk, x, hq, fun h' x' hs => h _ _ (ndo_write I e hs x' (p.ndrop k)) rq⟩
theorem ndo_empty {P : Program} {w : World} {H : Hp} (h : Heap) (hb : sysModules < h.objs.size) : ObjOk P w H (h.push { cls := .type "dict", data := .dict #[] }) h.objs.size (NdO w h.objs.size []) :=
  ndo_new (xs := []) { low := beq_eq_false_iff_ne.mpr (Ne.symm (Nat.ne_of_lt hb)), len := Nat.zero_le _, obj := ⟨_, #[], 0, Heap.get?_push_size _ rfl, ⟨rfl, rfl, rfl⟩, rfl, rfl⟩, key := (fun _ h => nomatch h), nodup := List.nodup_nil } .nil
end
end Sb

/-! Walks: the keys of a dict over data keys, enumerate over a tuple. -/
namespace Sb
open PySem PySem.Spec L2

/-! ### the keys of a locked dict -/
theorem paired_at {α β : Type} {R : α → β → Prop} {l : List α} {m : List β} (p : Paired R l m) {i : Nat} {a : α} (h : l[i]? = some a) : ∃ b, m[i]? = some b ∧ R a b := by
  induction p generalizing i with
  | nil => simp at h
  | cons r t ih =>
    cases i with
    | zero => simp only [List.getElem?_cons_zero, Option.some.injEq] at h ⊢; subst h; exact ⟨_, rfl, r⟩
    | succ j => simp only [List.getElem?_cons_succ] at h ⊢; exact ih h
theorem ndo_lock {X : Cx} {pins : List (Addr × Obj)} {σ : L2.St} {H : Hp} {s : Shared} {d : Addr} {o : Obj} {es : NL V V} (I : Inv X pins σ H s) (h : H d = some (.frz o (NdO X.w d es))) :
    (d == sysModules) = false ∧ s.heap.get? d = some o ∧ o.ExactDict ∧ ∃ (arr : Array DictEntry) (ep : Nat), o.data = .dict arr ep ∧ arr.size = es.length ∧ ∀ (i : Nat) (e : NestedKey × V × V), es[i]? = some e → ∃ en, arr[i]? = some en ∧ RelV e.2.1 en.key ∧ RelV e.2.2 en.val := by
  obtain ⟨hd, ⟨xs, ⟨low, _, ⟨o', arr, ep, ho, hc, hda, he⟩, _⟩, p⟩, _⟩ := I.hok d _ h
  rw [hd] at ho; cases ho
  refine ⟨low, hd, hc, arr, ep, hda, (arr_size he).trans p.nlen, fun i e hi => ?_⟩
  obtain ⟨x, hx, _, r1, r2⟩ := paired_at p hi
  exact ⟨entN X.w x, by rw [arr_at he, hx]; rfl, r1, r2⟩
def Itn (w : World) (d : Addr) (o : Obj) (es : NL V V) : It :=
  ⟨fun i H => H d = some (.frz o (NdO w d es)) ∧ i < es.length, fun i H x H' => H' = H ∧ ∃ e, es[i]? = some e ∧ x = e.2.1, fun i H => H d = some (.frz o (NdO w d es)) ∧ es.length ≤ i⟩
theorem turn_nkeys {P : Program} {w : World} {K : PySem.W.Frag} {tg : Expr} {d : Addr} {o : Obj} {arr : Array DictEntry} {ep : Nat} {es : NL V V} (it : Addr) (hod : o.data = .dict arr ep) :
    Turn P w K tg (Itn w d o es) [it] it (fun i h => h.IsKeyIter it d i es.length ep) where
  mem := by simp
  obj := fun i h st b hb => by
    obtain rfl : b = it := by simpa using hb
    obtain ⟨oi, e, c, dd⟩ := st
    exact ⟨oi, e, fun v z => by rw [dd] at z; cases z⟩
  keep := fun i h h' st k => st.at fun oi e => k it (by simp) oi e
  item := by
    intro X hP hw hK hc i pins s σ H E I hf st hg
    subst hP hw hK
    obtain ⟨hd, hi⟩ := hg
    obtain ⟨f0, f1, f2, f3, f4, f5⟩ := hf it (by simp)
    obtain ⟨hs, hgd, hx, arr', ep', hdt, hsz, ent⟩ := ndo_lock I hd
    rw [hod] at hdt; cases hdt
    obtain ⟨e, he⟩ : ∃ p, es[i]? = some p := ⟨es[i], List.getElem?_eq_getElem hi⟩
    obtain ⟨en, hen, hkey, _⟩ := ent i e he
    refine next_key_item st hgd hod hsz hen fun h' st' sb => ?_
    have I1 : Inv X pins σ H { s with heap := h' } := I.turned (t' := s.toks) (fun b ob hb e => (sb.2 b hb).trans e) f0 f1 f3 f4 f5
    obtain ⟨oi, e1, c, dd⟩ := id st'
    exact ⟨en.key, rfl, go_of (s := { s with heap := h' }) e1 c dd (by decide) ⟨e.2.1, H, I1, hkey, ⟨rfl, e, he, rfl⟩, st', fun b hb => (hf b hb).1⟩⟩
  done := by
    intro X hP hw hK hc i pins s σ H E I hf st hg
    subst hP hw hK
    obtain ⟨hd, hi⟩ := hg
    obtain ⟨f0, f1, f2, f3, f4, f5⟩ := hf it (by simp)
    obtain ⟨hs, hgd, hx, arr', ep', hdt, hsz, ent⟩ := ndo_lock I hd
    rw [hod] at hdt; cases hdt
    exact next_key_end (I.ok.hd hc) st hgd hod hsz hi fun h' eb => ⟨rfl, I.turned (t' := s.toks) (fun b ob hb e => eb b ob hb e) f0 f1 f3 f4 f5⟩
  self := fun A i s Q E st h => by
    refine wpAny_pyIter_slot st.typeIs PySem.F.slot_dict_keyiterator_iter (wpAny_call_entry PySem.F.slot_dict_keyiterator_iter st.typeIs PySem.F.entry_dict_keyiterator_iter ?_ (PySem.F.args_dict_keyiterator_iter_1 _))
    show wpAny _ _ (ret (.ref it)) _ _ s
    exact wpAny_pure ⟨_, rfl, "dict_keyiterator", _, st.typeIs, PySem.F.slot_dict_keyiterator_next.lookup, h⟩
theorem pi_nkeys {X : Cx} {tg e : Expr} {td : TE} (he : PE X e td) : PI X tg e (fun σ H R => td σ H fun x H1 => ∃ d o es, x = .ref d ∧ H1 d = some (.frz o (NdO X.w d es)) ∧ R (Itn X.w d o es) H1) := by
  refine ⟨fun pins s σ H R I h => ?_⟩
  refine thn (he.run pins s σ H _ I h) fun u s1 ⟨x, H1, I1, rx, d, o, es, ex, hd, q⟩ => ?_
  subst ex
  obtain rfl : u = Value.ref d := rx
  obtain ⟨hs, hgd, hx, arr, ep, hdt, hsz, _⟩ := ndo_lock I1 hd
  refine iter_keys hs hgd hx hdt (pi_one (tk := s1.toks) I1 _ (turn_nkeys _ hdt) ⟨_, Heap.get?_push_size _ rfl, rfl, ?_⟩ q)
  rw [hsz] <;> rfl

/-! ### enumerate(t) -/
theorem meets_enum1 {v : Value} {o : Obj} {H : Heap → Prop} (B : Begins v o H) :
    Meets (Builtin.«enumerate.__new__» ⟨[.type "enumerate", v], []⟩) (fun _ R s => H s.heap ∧
      R (.ok (.ret (.ref (s.heap.push o).objs.size))) { s with heap := (s.heap.push o).push { cls := .type "enumerate", data := .fields #[.none, .bool false, .ref s.heap.objs.size, rawInt 0, .none, .none] } }) :=
  .of_wp fun prog w A R s h => by
    obtain ⟨hp, g, d, tk, os⟩ := s; obtain ⟨h1, h⟩ := h
    have hsub := sub_enumerate
    have go : ∀ {A' : Around} {E : Value → Shared → Prop} {Q : Value → Shared → Prop}, Q (.ref hp.objs.size) ⟨hp.push o, g, d, tk, os⟩ → wpAny (model prog w) A' (pyIter v) Q E ⟨hp, g, d, tk, os⟩ :=
      fun q => B.iter prog w _ _ ⟨hp, g, d, tk, os⟩ _ h1 q
    wp_walk using go
    refine wpAny_stack_any fun st => wpAny_pure ?_
    split
    · rename_i c _ _ _ _ _
      cases (c == Value.type "enumerate")
      · wp_walk using go
        exact ⟨_, rfl, h⟩
      · wp_walk using go
        exact ⟨_, rfl, h⟩
    · wp_walk using go
      exact ⟨_, rfl, h⟩

theorem enum1_new {prog : Program} {w : World} {A : Around} {E : Value → Shared → Prop} {s : Shared} {v : Value} {o : Obj} {H : Heap → Prop} {Q : Value → Shared → Prop} (B : Begins v o H) (h1 : H s.heap)
    (h : ∀ h', IsEnum h' (s.heap.objs.size + 1) s.heap.objs.size 0 .none → h'.get? s.heap.objs.size = some o → h'.objs.size = s.heap.objs.size + 2 → (∀ b o, s.heap.get? b = some o → h'.get? b = some o) → Q (.ref (s.heap.objs.size + 1)) { s with heap := h' }) :
    wpAny (model prog w) A (call (.type "enumerate") [v]) Q E s := by
  refine callType_new PySem.F.called_enumerate (by decide) (PySem.F.typeCall_enumerate_1 _) (PySem.F.newCall_enumerate_1 _) (fun obj => PySem.F.args_object_init_2 obj _) PySem.F.entry_enumerate_new (meets_enum1 B) ⟨h1, ?_⟩
  have z : (s.heap.push o).objs.size = s.heap.objs.size + 1 := Heap.size_push ..
  show _ ∧ _
  rw [z]
  have e : IsEnum ((s.heap.push o).push { cls := .type "enumerate", data := .fields #[.none, .bool false, .ref s.heap.objs.size, rawInt 0, .none, .none] }) (s.heap.objs.size + 1) s.heap.objs.size 0 .none := by
    have := Heap.get?_push_size (s.heap.push o) (o := { cls := .type "enumerate", data := .fields #[.none, .bool false, .ref s.heap.objs.size, rawInt 0, .none, .none] }) rfl
    rw [z] at this; exact this
  exact ⟨⟨_, e, rfl⟩, h _ e (Heap.get?_push_of_some _ (Heap.get?_push_size _ B.free)) (by rw [Heap.size_push, z]) fun b o x => Heap.get?_push_of_some _ (Heap.get?_push_of_some _ x)⟩
/-- the tuple at a, each item in a new pair with its place -/
def IteT (K : PySem.W.Frag) (a : Addr) : It :=
  ⟨fun i H => ∃ (xs : List V) (x : V), SqT K H a xs ∧ xs[i]? = some x, fun i H v H' => ∃ T x, ∃ o : Obj, v = .ref T ∧ H T = none ∧ o.dict = none ∧ H' = upd H T (.frz o (.tup [.int (i : Nat), x])) ∧ ∀ xs, SqT K H a xs → xs[i]? = some x, fun i H => ∃ xs : List V, SqT K H a xs ∧ xs.length = i⟩
theorem turn_enumT {P : Program} {w : World} {K : PySem.W.Frag} {elts : List Expr} {kk : Nat} {tpos : Pos} (a e it : Addr) (hai : a ≠ it) (hea : e ≠ a) :
    Turn P w K (.Tuple elts kk tpos) (IteT K a) [e, it] e (fun i h => (∃ old, IsEnum h e it ((i : Nat) : Int) old) ∧ h.IsTupleIter it a i ∧ e ≠ it) where
  mem := by simp
  obj := fun i h st b hb => by
    obtain ⟨⟨old, he⟩, ⟨o, ho, hc, hd⟩, _⟩ := st
    rcases (by simpa using hb : b = e ∨ b = it) with z | z
    · rw [z]; exact ⟨_, he, fun v q => nomatch q⟩
    · rw [z]; exact ⟨o, ho, fun v q => by rw [hd] at q; cases q⟩
  keep := fun i h h' st k => let ⟨⟨old, he⟩, hi, hne⟩ := st; ⟨⟨old, k e (by simp) _ he⟩, hi.at fun o q => k it (by simp) o q, hne⟩
  item := by
    intro X hP hw hK hc i pins s σ H E I hf st hg
    subst hP hw hK
    obtain ⟨⟨old, he⟩, hit, hne⟩ := st
    obtain ⟨xs, x, hq, hx⟩ := hg
    obtain ⟨its, rv, p, hz⟩ := I.tuple hq
    obtain ⟨u, hu, ru⟩ := rv.get hx
    have hel : e < s.heap.objs.size := Heap.lt_size he
    have hil : it < s.heap.objs.size := by obtain ⟨_, q, _⟩ := hit; exact Heap.lt_size q
    have hlt : i < its.toArray.size := by
      have := (List.getElem?_eq_some_iff.mp hu).1
      simpa using this
    have D := Draws.tuple (prog := X.prog) (w := X.w) (A := X.A.in1) (I.ok.hd hc) it a hai its.toArray
    refine wpAny_pyNext_enum_itemD D he ⟨hit, p⟩ hlt hne (by simp [hne, hea]) fun u' h' tk hu' ho hit' hT hsz hk => ?_
    have : u' = u := by
      have : its.toArray[i]? = some u := by simpa using hu
      rw [this] at hu'; exact (Option.some.inj hu').symm
    subst this
    refine ⟨_, rfl, wpAny_letOwnedTupleGo_enum (s := { s with heap := h', toks := tk + 1 }) ho fun h'' he' sb => ?_⟩
    have hT2 : h''.get? s.heap.objs.size = some { cls := .type "tuple", data := .seq #[.int i tk, u'] } := (sb.2 _ (Nat.ne_of_gt hel)).trans hT
    have new : ObjOk X.prog X.w (upd H s.heap.objs.size (.frz { cls := .type "tuple", data := .seq #[.int i tk, u'] } (.tup [.int (i : Nat), x]))) h'' s.heap.objs.size (.frz { cls := .type "tuple", data := .seq #[.int i tk, u'] } (.tup [.int (i : Nat), x])) :=
      ⟨hT2, by show 2 ≤ sizeLine; decide, [.int i tk, u'], .cons ⟨_, rfl⟩ (.cons ru .nil), ⟨_, hT2, rfl, _, rfl⟩⟩
    have I1 : Inv X pins σ (upd H s.heap.objs.size (.frz { cls := .type "tuple", data := .seq #[.int i tk, u'] } (.tup [.int (i : Nat), x]))) { s with heap := h'', toks := tk + 1 } :=
      I.turnedNew (ch := [e, it]) (fun b ob hb q => (sb.2 b (fun z => hb (by simp [z]))).trans (hk b ob (fun z => hb (by simp [z])) (fun z => hb (by simp [z])) q)) hf (Nat.le_refl _) new
    refine ⟨.ref s.heap.objs.size, _, I1, rfl, ⟨_, x, _, rfl, I.hok.fresh (Nat.le_refl _), rfl, rfl, fun ys hy => by rw [I.tuple_inj hy hq]; exact hx⟩, ⟨⟨u', ?_⟩, hit'.1.at fun o q => (sb.2 it (Ne.symm hne)).trans q, hne⟩, fun b hb => ?_⟩
    · have e1 : ((i + 1 : Nat) : Int) = (i : Int) + 1 := by omega
      rw [e1]; exact he'
    · have hb' : b < s.heap.objs.size := by
        rcases (by simpa using hb : b = e ∨ b = it) with z | z
        · rw [z]; exact hel
        · rw [z]; exact hil
      rw [upd_ne (Nat.ne_of_lt hb')]
      exact (hf b hb).1
  done := by
    intro X hP hw hK hc i pins s σ H E I hf st hg
    subst hP hw hK
    obtain ⟨⟨old, he⟩, hit, hne⟩ := st
    obtain ⟨xs, hq, hx⟩ := hg
    obtain ⟨its, rv, p, hz⟩ := I.tuple hq
    obtain ⟨f0, f1, f2, f3, f4, f5⟩ := hf it (by simp)
    have hl : its.toArray.size = i := by have := rv.length; simp; omega
    have D := Draws.tuple (prog := X.prog) (w := X.w) (A := X.A.in1) (I.ok.hd hc) it a hai its.toArray
    rw [hl] at D
    exact wpAny_pyNext_enum_endD D he ⟨hit, p⟩ fun h' eb => ⟨rfl, I.turned (t' := s.toks) (fun b o hb q => eb b o hb q) f0 f1 f3 f4 f5⟩
  self := fun A i s Q E st h => let ⟨⟨_, he⟩, _⟩ := st; wpAny_pyIter_enum he h
open PyProof.Rows in
theorem pi_enumT {X : Cx} {e : Expr} {ta : TA} {p pos tpos : Pos} {elts : List Expr} {kk : Nat} (hg : Gl X "enumerate") (hm : X.mg "enumerate" = none) (ha : PA X [e] ta) (hs : starEach [e] X.env = [(false, eval e X.env)] := by rfl) :
    PI X (.Tuple elts kk tpos) (.Call (.Name "enumerate" p) [e] [] pos) (fun σ H R => ta σ H fun vs H1 => ∃ a xs, vs = [.ref a] ∧ SqT X.K H1 a xs ∧ R (IteT X.K a) H1) := by
  refine ⟨fun pins s σ H R I h => ?_⟩
  refine Call_ (ld_blt I hg hm PyProof.Rows.boot_enumerate (PyProof.Rows.callWith_type1 (thn (ha.run pos pins s σ H _ I h) fun us s1 ⟨vs, H1, I1, r1, q1⟩ => ?_) hs rfl))
  obtain ⟨a, xs, ex, hq, q⟩ := q1
  subst ex
  cases r1 with
  | cons r rr =>
    cases rr
    cases r
    obtain ⟨its, rv, p', hz⟩ := I1.tuple hq
    refine enum1_new (begins_tuple a its.toArray) p' fun h' he hit hsz hk => wpAny_pyIter_enum he ?_
    have I2 : Inv X pins σ H1 { s1 with heap := h' } := I1.kept (t' := s1.toks) hk
    have la : a < s1.heap.objs.size := let ⟨_, q, _⟩ := p'; Heap.lt_size q
    refine ⟨s1.heap.objs.size + 1, [s1.heap.objs.size + 1, s1.heap.objs.size], _, _, H1, rfl, I2, turn_enumT a (s1.heap.objs.size + 1) s1.heap.objs.size (Nat.ne_of_lt la) (Nat.ne_of_gt (Nat.lt_succ_of_lt la)), ⟨⟨.none, he⟩, ⟨_, hit, rfl, rfl⟩, Nat.succ_ne_self _⟩, fun b hb => ?_, q⟩
    have hle : s1.heap.objs.size ≤ b := by
      rcases (by simpa using hb : b = s1.heap.objs.size + 1 ∨ b = s1.heap.objs.size) with z | z
      · rw [z]; exact Nat.le_add_right _ _
      · rw [z]; exact Nat.le_refl _
    exact I1.fpOk hle (I1.hok.fresh hle)
end Sb

/-! Tuples whose object is known to have no dict: what makes them. -/
namespace Sb
open PySem PySem.Spec PyProof.Rows L2

/-- a tuple without a dict -/
def SqN (K : PySem.W.Frag) (H : Hp) (a : Addr) (xs : List V) : Prop :=
  (∃ o, H a = some (.frz o (.tup xs)) ∧ o.dict = none) ∨
    ∃ (o : Obj) (its : Array Value) (n : Nat), K.lookup a = some o ∧ o.cls = .type "tuple" ∧ o.dict = none ∧ o.data = .seq its n ∧ its.size ≤ sizeLine ∧ Vals xs its.toList
theorem SqN.t {K : PySem.W.Frag} {H : Hp} {a : Addr} {xs : List V} (h : SqN K H a xs) : SqT K H a xs := by
  rcases h with ⟨o, h, _⟩ | ⟨o, its, n, h1, h2, _, h4, h5, h6⟩
  · exact .inl (.inr ⟨o, h⟩)
  · exact .inr ⟨o, its, n, h1, h2, h4, h5, h6⟩
/-- a new tuple wanted -/
def NewT (H : Hp) (xs : List V) (Q : VK) : Prop := ∀ p (o : Obj), H p = none → o.dict = none → Q (.ref p) (upd H p (.frz o (.tup xs)))
section
variable {X : Cx} {es : List Expr} {pos : Pos}
theorem laidN {pins : List (Addr × Obj)} {σ : L2.St} {H : Hp} {s : Shared} {its : List Value} {xs : List V} {t' : Nat} (I : Inv X pins σ H s) (r : Vals xs its) (hz : xs.length ≤ sizeLine) :
    Inv X pins σ (upd H s.heap.objs.size (.frz { cls := .type "tuple", data := .seq its.toArray } (.tup xs))) { s with heap := s.heap.push { cls := .type "tuple", data := .seq its.toArray }, toks := t' } :=
  I.laid (fun b u e => Heap.get?_push_of_some _ e) (Nat.le_refl _) ⟨Heap.get?_push_size _ rfl, hz, its, r, _, Heap.get?_push_size _ rfl, rfl, _, rfl⟩
def tTupN (t : TA) : TE := fun σ H Q => t σ H fun xs H1 => xs.length ≤ sizeLine ∧ NewT H1 xs Q
theorem pe_tupN {x1 : Nat} {t : TA} (h : PA X es t) : PE X (.Tuple es x1 pos) (tTupN t) := by
  refine ⟨fun pins s σ H Q I hq => ?_⟩
  refine wpAny_Tuple_spliced (thn (h.run pos pins s σ H _ I hq) fun us s1 ⟨xs, H1, I1, r, z, q⟩ => ⟨by rw [← r.length]; exact z, ?_⟩)
  exact ⟨.ref s1.heap.objs.size, _, laidN I1 r z, rfl, q _ _ (I1.hok.fresh (Nat.le_refl _)) rfl⟩
theorem call_tupN : CallR X (.type "tuple") (fun xs H Q => ∃ p ys, xs = [.ref p] ∧ ((SqL X.K H p ys ∧ NewT H ys Q) ∨ (SqT X.K H p ys ∧ Q (.ref p) H))) := by
  intro pins s σ H xs us Q I r h
  obtain ⟨p, ys, rfl, h⟩ := h
  obtain ⟨u, rfl, rx⟩ := vals1 r
  cases rx
  rcases h with ⟨hq, q⟩ | ⟨hq, q⟩
  · obtain ⟨its, r', pl, hz⟩ := I.list hq
    have hlen := r'.length
    refine call_tuple_list pl.isList (fun h' kp => ?_) (by simp only [List.size_toArray] <;> omega)
    have I1 : Inv X pins σ H { s with heap := h' } := I.kept (t' := s.toks) kp
    exact ⟨.ref h'.objs.size, _, laidN (t' := s.toks) I1 r' hz, rfl, q _ _ (I1.hok.fresh (Nat.le_refl _)) rfl⟩
  · obtain ⟨its, r', pl, hz⟩ := I.tuple hq
    exact call_tuple_same pl ⟨.ref p, H, I, rfl, q⟩
def rCatN (K : PySem.W.Frag) : R2 := fun x y H Q => ∃ a b xs ys, x = .ref a ∧ y = .ref b ∧ SqT K H a xs ∧ SqT K H b ys ∧ xs.length + ys.length ≤ sizeLine ∧
  (xs = [] → Q (.ref b) H) ∧ (xs ≠ [] → ys = [] → Q (.ref a) H) ∧ (xs ≠ [] → ys ≠ [] → NewT H (xs ++ ys) Q)
theorem op_catN : OpR X (binaryOp .Add) (rCatN X.K) := by
  intro pins s σ H x y v u Q I rx ry h
  obtain ⟨a, b, xs, ys, rfl, rfl, ha, hb, hz, q0, q1, q2⟩ := h
  cases rx
  cases ry
  obtain ⟨its, r1, p1, _⟩ := I.tuple ha
  obtain ⟨its2, r2, p2, _⟩ := I.tuple hb
  by_cases hx : xs = []
  · subst hx
    cases r1
    exact cat_tup0 p1 p2 ⟨.ref b, H, I, rfl, q0 rfl⟩
  · refine HT.cat_tup p1 p2 (fun z => hx (r1.nil_iff.mp z)) (fun z => ⟨.ref a, H, I, rfl, q1 hx (r2.nil_iff.mp z)⟩) (fun z => ?_) (by rw [← r1.length, ← r2.length]; exact hz)
    exact ⟨.ref s.heap.objs.size, _, laidN (t' := s.toks) I (r1.append r2) (by rw [List.length_append]; exact hz), rfl, q2 hx (fun w => z (r2.nil_iff.mpr w)) _ _ (I.hok.fresh (Nat.le_refl _)) rfl⟩
def rSlN (K : PySem.W.Frag) : V → Option Int → Option Int → Hp → VK → Prop := fun x lo hi H Q => ∃ a xs, x = .ref a ∧ SqT K H a xs ∧
  (HT.sIx xs.length 0 lo = 0 ∧ HT.sIx xs.length xs.length hi = xs.length → Q (.ref a) H) ∧ (¬ (HT.sIx xs.length 0 lo = 0 ∧ HT.sIx xs.length xs.length hi = xs.length) → NewT H (cutV xs lo hi) Q)
theorem sl_tupN : SlR X (rSlN X.K) := by
  intro pins s σ H x v vl vu lo hi sl Q I rx hs pl pu h
  obtain ⟨a, xs, rfl, hx, q1, q2⟩ := h
  cases rx
  obtain ⟨its, r, ht, hz⟩ := I.tuple hx
  have hlen : its.toArray.size = xs.length := by rw [List.size_toArray]; exact r.length.symm
  refine ⟨"tuple", _, PyProof.Rows.slot_tuple_getitem.lookup, ht.typeIs, ?_⟩
  by_cases hw : HT.sIx xs.length 0 lo = 0 ∧ HT.sIx xs.length xs.length hi = xs.length
  · exact getItem_tuple_whole ht hs pl pu (by rw [hlen]; exact hw) ⟨.ref a, H, I, rfl, q1 hw⟩
  · refine HT.getItem_tuple_cut ht hs pl pu (by rw [hlen]; exact hw) ?_ (by rw [hlen]; exact hz)
    rw [hlen]
    exact ⟨.ref s.heap.objs.size, _, laidN (t' := s.toks) I ((r.drop (HT.sIx xs.length 0 lo)).take (HT.sIx xs.length xs.length hi - HT.sIx xs.length 0 lo)) (Nat.le_trans (cutV_length xs lo hi) hz), rfl, q2 hw _ _ (I.hok.fresh (Nat.le_refl _)) rfl⟩
end
end Sb

/-! tuple * int, all counts; the tuple's object has no dict. -/
namespace Sb
open PySem PySem.Spec PyProof.Rows L2
set_option maxHeartbeats 4000000 in
theorem tmul_same (l : Addr) (vs : Array Value) (n : Nat) (sl : Array (Option Value)) (dd : Option Addr) (k : Int) (u : Tok) (c0 : (decide (k < -(2 ^ 63)) || decide (k ≥ 2 ^ 63)) = false) (c1 : (vs.isEmpty || k == 1) = true) :
    Meets (Builtin.«tuple.__mul__» ⟨[.ref l, .int k u], []⟩) (fun _ R s => s.heap.get? l = some { cls := .type "tuple", dict := dd, data := .seq vs n, slots := sl } ∧ R (.ok (.ret (Value.ref l))) s) :=
  .of_wp fun prog w A R s hh => by
    obtain ⟨hp, g, d, tk, os⟩ := s
    obtain ⟨hl, hh⟩ := hh
    have f1 := AutoSeq1.idx_int
    wp_walk using wpAny_loadPart' hl
    repeat (first
      | (refine wpAny_ite_false (decide_eq_false (by rw [c0]; exact Bool.false_ne_true)) ?_; wp_walk using wpAny_loadPart' hl)
      | (refine wpAny_ite_true (decide_eq_true c1) ?_; wp_walk using wpAny_loadPart' hl))
    exact ⟨_, rfl, hh⟩
set_option maxHeartbeats 4000000 in
theorem tmul_zero (l : Addr) (vs : Array Value) (n : Nat) (sl : Array (Option Value)) (dd : Option Addr) (k : Int) (u : Tok) (c0 : (decide (k < -(2 ^ 63)) || decide (k ≥ 2 ^ 63)) = false) (c1 : (vs.isEmpty || k == 1) = false) (c2 : (decide (k ≤ 0) || vs.isEmpty) = true) :
    Meets (Builtin.«tuple.__mul__» ⟨[.ref l, .int k u], []⟩) (fun _ R s => s.heap.get? l = some { cls := .type "tuple", dict := dd, data := .seq vs n, slots := sl } ∧
      R (.ok (.ret (Value.ref s.heap.objs.size))) { s with heap := s.heap.push { cls := Value.type "tuple", data := Data.seq #[] }, toks := s.toks }) :=
  .of_wp fun prog w A R s hh => by
    obtain ⟨hp, g, d, tk, os⟩ := s
    obtain ⟨hl, hh⟩ := hh
    have f1 := AutoSeq1.idx_int
    wp_walk using wpAny_loadPart' hl
    repeat (first
      | (refine wpAny_ite_false (decide_eq_false (by rw [c0]; exact Bool.false_ne_true)) ?_; wp_walk using wpAny_loadPart' hl)
      | (refine wpAny_ite_false (decide_eq_false (by rw [c1]; exact Bool.false_ne_true)) ?_; wp_walk using wpAny_loadPart' hl)
      | (refine wpAny_ite_true (decide_eq_true c2) ?_; wp_walk using wpAny_loadPart' hl))
    exact ⟨_, rfl, hh⟩
/-- the items of a tuple taken k times -/
def repV {α : Type} (xs : List α) (k : Int) : List α := (List.replicate k.toNat xs).flatten
def rRepN (K : PySem.W.Frag) : R2 := fun x y H Q => ∃ l k xs, x = .ref l ∧ y = .int k ∧ SqT K H l xs ∧ 0 ≤ k ∧ k ≤ 1000 ∧ xs.length ≤ 1000 ∧
  ((xs = [] ∨ k = 1) → Q (.ref l) H) ∧ (xs ≠ [] → k ≠ 1 → NewT H (repV xs k) Q)
section
variable {X : Cx}
theorem op_repN : OpR X (binaryOp .Mult) (rRepN X.K) := by
  intro pins s σ H x y v u Q I rx ry hh
  obtain ⟨l, k, xs, rfl, rfl, hT, k0, k1, hz, qs, qn⟩ := hh
  cases rx
  obtain ⟨t, rfl⟩ := ry
  obtain ⟨its, r, ⟨⟨cls, dd, data, sl⟩, ho, hc, n, hd⟩, hs⟩ := I.tuple hT
  simp only at hc hd
  subst hc hd
  have hle : its.length = xs.length := r.length.symm
  have c0 : (decide (k < -(2 ^ 63)) || decide (k ≥ 2 ^ 63)) = false := by simp; omega
  have ie : its.toArray.isEmpty = decide (xs = []) := by
    cases its with
    | nil => have : xs = [] := List.eq_nil_of_length_eq_zero hle.symm
             simp [this]
    | cons a b => cases xs with
      | nil => simp at hle
      | cons c d => simp
  refine wpAny_binaryOp_repeat_ref (T := "tuple") (U := "int") (by decide) ⟨_, ho, rfl⟩ (fun s' => typeIs_int s' k t) noFill_tuple_mul F.fills_int_mul F.slot_int_rmul repeat_tuple F.slot_int_index.lookup
    (call_meets F.slot_int_rmul (typeIs_int s k t) F.entry_int_rmul (F.args_int_rmul_2 _ _) (int_rmul_tuple k t l its.toArray n dd sl) ⟨ho, rfl, ⟨_, ho, rfl⟩, ?_⟩)
  by_cases h1 : xs = [] ∨ k = 1
  · have c1 : (its.toArray.isEmpty || k == 1) = true := by
      rw [ie]; rcases h1 with h1 | h1 <;> simp [h1]
    exact call_meets F.slot_tuple_mul ⟨_, ho, rfl⟩ F.entry_tuple_mul (F.args_tuple_mul_2 _ _) (tmul_same l its.toArray n sl dd k t c0 c1) ⟨ho, .ref l, H, I, rfl, qs h1⟩
  have hne : xs ≠ [] := fun e => h1 (.inl e)
  have hk1 : k ≠ 1 := fun e => h1 (.inr e)
  have c1 : (its.toArray.isEmpty || k == 1) = false := by rw [ie]; simp [hne, hk1]
  have q := qn hne hk1
  by_cases h0 : k = 0
  · have c2 : (decide (k ≤ 0) || its.toArray.isEmpty) = true := by simp [h0]
    have e : repV xs k = [] := by simp [repV, h0]
    rw [e] at q
    exact call_meets F.slot_tuple_mul ⟨_, ho, rfl⟩ F.entry_tuple_mul (F.args_tuple_mul_2 _ _) (tmul_zero l its.toArray n sl dd k t c0 c1 c2)
      ⟨ho, .ref s.heap.objs.size, _, laidN (its := []) (t' := s.toks) I .nil (by simp), rfl, q _ _ (I.hok.fresh (Nat.le_refl _)) rfl⟩
  · have c2 : (decide (k ≤ 0) || its.toArray.isEmpty) = false := by rw [ie]; simp [hne]; omega
    have a1 : k.toNat * xs.length ≤ 1000 * 1000 := Nat.mul_le_mul (by omega) hz
    have a2 : ((xs.length : Nat) : Int) * k ≤ 1000000 := by
      have : ((xs.length : Nat) : Int) * k ≤ 1000 * k := Int.mul_le_mul_of_nonneg_right (by omega) (by omega)
      omega
    have hm : ((its.toArray.size : Nat) : Int) * k ≤ 1000000 := by rw [List.size_toArray, hle]; exact a2
    have flen : (List.replicate k.toNat its).flatten.length ≤ sizeLine := by
      rw [PyProof.Rows.lm_len_rep_flat, hle, sizeLine_eq]; omega
    have flen2 : (repV xs k).length ≤ sizeLine := by
      unfold repV; rw [PyProof.Rows.lm_len_rep_flat, sizeLine_eq]; omega
    have c4 : Builtin.Tuple.tupleTooMany (((its.toArray.size : Nat) : Int) * k) = false := by
      unfold Builtin.Tuple.tupleTooMany
      rw [sizeLine_eq]; simp; simp at hm; omega
    refine call_meets F.slot_tuple_mul ⟨_, ho, rfl⟩ F.entry_tuple_mul (F.args_tuple_mul_2 _ _) (tuple_mulW l its.toArray n dd sl k t c0 c1 c2 (by omega) c4 (by rw [size_rep, List.size_toArray]; exact flen)) ⟨ho, ?_⟩
    rw [size_rep]
    exact ⟨.ref s.heap.objs.size, _, laidN (t' := s.toks) I (r.rep k.toNat) flen2, rfl, q _ _ (I.hok.fresh (Nat.le_refl _)) rfl⟩
end
end Sb

/-! zip over two sequences, lists and tuples mixed, strict or not. -/
namespace Sb
open PySem PySem.Spec PyProof.Rows L2
/-- an iterator over a tuple (true) or a list -/
def SI (t : Bool) (h : Heap) (it l : Addr) (i : Nat) : Prop := match t with | true => h.IsTupleIter it l i | false => h.IsListIter it l i
def SQ (t : Bool) (h : Heap) (l : Addr) (xs : Array Value) : Prop := match t with | true => h.IsTuple l xs | false => h.IsList l xs
theorem SI.ext {t : Bool} {h h' : Heap} {a b l : Addr} {i : Nat} (x : SI t h a l i) (hs : Heap.ExtBut b h h') (n : a ≠ b) : SI t h' a l i := by
  cases t with
  | true => exact Heap.IsTupleIter.extBut x hs n
  | false => exact Heap.IsListIter.extBut x hs n
theorem SI.at {t : Bool} {h h' : Heap} {a l : Addr} {i : Nat} (x : SI t h a l i) (e : ∀ o, h.get? a = some o → h'.get? a = some o) : SI t h' a l i := by
  cases t with
  | true => exact Heap.IsTupleIter.at x e
  | false => exact Heap.IsListIter.at x e
theorem SI.get {t : Bool} {h : Heap} {a l : Addr} {i : Nat} (x : SI t h a l i) : ∃ o, h.get? a = some o ∧ o.data = .fields #[.ref l, .int i 0] := by
  cases t with
  | true => obtain ⟨o, e, _, d⟩ := x; exact ⟨o, e, d⟩
  | false => obtain ⟨o, e, _, d⟩ := x; exact ⟨o, e, d⟩
theorem SQ.ext {t : Bool} {h h' : Heap} {a b : Addr} {xs : Array Value} (x : SQ t h a xs) (hs : Heap.ExtBut b h h') (n : a ≠ b) : SQ t h' a xs := by
  cases t with
  | true => exact Heap.IsTuple.extBut x hs n
  | false => exact Heap.IsList.extBut x hs n
theorem SQ.push {t : Bool} {h : Heap} {a : Addr} {xs : Array Value} (x : SQ t h a xs) (o : Obj) : SQ t (h.push o) a xs := by
  cases t with
  | true => exact Heap.IsTuple.push x o
  | false => exact Heap.IsList.push x o
theorem SQ.lt {t : Bool} {h : Heap} {a : Addr} {xs : Array Value} (x : SQ t h a xs) : a < h.objs.size := by
  cases t with
  | true => obtain ⟨o, e, _⟩ := x; exact Heap.lt_size e
  | false => obtain ⟨o, e, _⟩ := x; exact Heap.lt_size e
def itTy (t : Bool) : String := match t with | true => "tuple_iterator" | false => "list_iterator"
/-- the zip object -/
abbrev Zo (b : Bool) (h : Heap) (z TI TO : Addr) (f0 : Value) : Prop := h.get? z = some { cls := .type "zip", dict := none, data := .fields #[f0, .bool false, .bool b, .ref TI, .ref TO], slots := #[] }
def drawB (b : Bool) (it : Value) : Sem (Option Value) := match b with
  | true => Builtin.SmallTypes.nextOrEnd it
  | false => (do return some (← Builtin.SmallTypes.nextOf it))
theorem wp_eq {α : Type} {M : Model} {A : Around} {m m' : Sem α} {Q : α → Shared → Prop} {E : Value → Shared → Prop} {s : Shared} (e : m = m') (h : wpAny M A m' Q E s) : wpAny M A m Q E s := e ▸ h
section
variable {prog : Program} {w : World} {A : Around} {E : Value → Shared → Prop} {s : Shared}
theorem next_some {t : Bool} {it l : Addr} {i : Nat} {xs : Array Value} {x : Value} {Q : Value → Shared → Prop} (hit : SI t s.heap it l i) (hl : SQ t s.heap l xs) (hx : xs[i]? = some x)
    (hQ : ∀ h', SI t h' it l (i + 1) → Heap.SameBut it s.heap h' → Q x { s with heap := h' }) : wpAny (model prog w) A (Builtin.SmallTypes.nextOf (.ref it)) Q E s := by
  cases t with
  | true => exact RZ.nextOf_tuple_item hit hl hx hQ
  | false => exact wpAny_nextOf_list_item hit hl hx hQ
theorem next_end {t : Bool} {it l : Addr} {i : Nat} {xs : Array Value} {Q : Value → Shared → Prop} (hh : A.handled = none) (hit : SI t s.heap it l i) (hl : SQ t s.heap l xs) (hx : xs[i]? = none)
    (hE : ∀ h' e, Heap.ExtBut it s.heap h' → (∃ o, h'.get? e = some o ∧ o.cls = .type "StopIteration") → E (.ref e) { s with heap := h' }) : wpAny (model prog w) A (Builtin.SmallTypes.nextOf (.ref it)) Q E s := by
  cases t with
  | true => exact RZ.nextOf_tuple_end hh hit hl hx hE
  | false => exact wpAny_nextOf_list_end hh hit hl hx hE
theorem draw_some {b t : Bool} {it l : Addr} {i : Nat} {xs : Array Value} {x : Value} {Q : Option Value → Shared → Prop} (hit : SI t s.heap it l i) (hl : SQ t s.heap l xs) (hx : xs[i]? = some x)
    (hQ : ∀ h', SI t h' it l (i + 1) → Heap.SameBut it s.heap h' → Q (some x) { s with heap := h' }) : wpAny (model prog w) A (drawB b (.ref it)) Q E s := by
  cases b with
  | true => exact wpAny_bind (wpAny_attempt (next_some hit hl hx fun h' a c => wpAny_pure (hQ h' a c)))
  | false => exact wpAny_bind (next_some hit hl hx fun h' a c => wpAny_pure (hQ h' a c))
theorem drawT_end {t : Bool} {it l : Addr} {i : Nat} {xs : Array Value} {Q : Option Value → Shared → Prop} (hh : A.handled = none) (hit : SI t s.heap it l i) (hl : SQ t s.heap l xs) (hx : xs[i]? = none)
    (hQ : ∀ h', Heap.ExtBut it s.heap h' → Q none { s with heap := h' }) : wpAny (model prog w) A (Builtin.SmallTypes.nextOrEnd (.ref it)) Q E s := by
  refine wpAny_bind (wpAny_attempt (next_end hh hit hl hx fun h' e he ho => ?_))
  obtain ⟨o, ho, hc⟩ := ho
  exact wpAny_bind (wpAny_isInstance (T := "StopIteration") (b := true) ⟨o, ho, hc⟩ isSubtype_stop (wpAny_pure (hQ h' he)))
theorem stop_raised {Q : Fin → Shared → Prop} (hh : A.handled = none) (hE : ∀ h' e, (∀ c o, s.heap.get? c = some o → h'.get? c = some o) → (∃ o, h'.get? e = some o ∧ o.cls = .type "StopIteration") → E (.ref e) { s with heap := h' }) :
    wpAny (model prog w) A (Builtin.SmallTypes.stopIteration : Sem Fin) Q E s := by
  unfold Builtin.SmallTypes.stopIteration
  refine wpAny_bind ?_
  simp only [newExc, newTuple]
  refine wpAny_bind (wpAny_newObj_type ?_ (by size_fits))
  refine wpAny_bind (m := firstArgMember _ _) (wpAny_of_eq (a := Value.none) (by first | rfl | (simp only [firstArgMember]; rfl)) ?_)
  refine wpAny_newObj_type ?_ (by size_fits)
  simp only [raiseNew]
  refine wpAny_bind (wpAny_handled ?_)
  first | rw [show A.in1.handled = none from hh] | rw [hh]
  refine wpAny_bind (wpAny_pure (wpAny_throw ?_))
  exact hE _ _ (fun c o q => Heap.get?_push_of_some _ (Heap.get?_push_of_some _ q)) ⟨_, Heap.get?_push_size _ rfl, rfl⟩
theorem znext_item {b t1 t2 : Bool} {z TI TO i1 i2 l1 l2 : Addr} {k1 k2 : Nat} {xs ys : Array Value} {x y u v : Value} {Q : Value → Shared → Prop} (D : ZipApart z TI TO i1 i2 l1 l2)
    (hz : Zo b s.heap z TI TO .none) (hTI : IsPair s.heap TI (.ref i1) (.ref i2)) (hTO : IsPair s.heap TO u v) (h1 : SI t1 s.heap i1 l1 k1) (h2 : SI t2 s.heap i2 l2 k2) (hl1 : SQ t1 s.heap l1 xs) (hl2 : SQ t2 s.heap l2 ys) (hx : xs[k1]? = some x) (hy : ys[k2]? = some y)
    (hQ : ∀ h', Zo b h' z TI TO (rawInt s.heap.objs.size) → IsPair h' TO x y → SI t1 h' i1 l1 (k1 + 1) → SI t2 h' i2 l2 (k2 + 1) → IsPair h' s.heap.objs.size x y → h'.objs.size = s.heap.objs.size + 1 →
      (∀ c o, c ≠ z → c ≠ TO → c ≠ i1 → c ≠ i2 → s.heap.get? c = some o → h'.get? c = some o) → Q (.ref s.heap.objs.size) { s with heap := h' }) :
    wpAny (model prog w) A (Builtin.«zip.__next__» ⟨[.ref z], []⟩) (fun fin s' => ∃ v, fin = .done (.ret v) ∧ Q v s') E s := by
  show wpAny (model prog w) A (field (.ref z) 2 >>= _) _ E s
  refine wpAny_bind (wpAny_field hz rfl (x := .bool b) rfl ?_)
  show wpAny (model prog w) A (field (.ref z) 3 >>= _) _ E s
  refine wpAny_bind (wpAny_field hz rfl (x := .ref TI) rfl (wpAny_bind (wpAny_seqItems hTI rfl ?_)))
  show wpAny (model prog w) A (Builtin.SmallTypes.ownedTupleIsFree (.ref z) >>= _) _ E s
  refine wpAny_bind ?_
  unfold Builtin.SmallTypes.ownedTupleIsFree
  refine wpAny_bind (wpAny_field hz rfl (x := .none) rfl (wpAny_pure ?_))
  simp only [if_true]
  refine wpAny_bind (wpAny_rule (wpAny_bind (wpAny_field hz rfl (x := .ref TO) rfl (wpAny_bind (wpAny_setField_rec hz (by simp) fun g1 z1 s1 => ?_)))))
  replace z1 : Zo b g1 z TI TO .ellipsis := z1
  refine wpAny_bind ?_
  simp only [List.zipIdx_cons, List.zipIdx_nil, List.forIn_cons, List.forIn_nil]
  refine wpAny_bind (wpAny_bind (wpAny_onRaise ?_))
  have e1 : SI t1 g1 i1 l1 k1 := h1.ext s1.extBut D.i1z
  refine wp_eq (m' := drawB b (.ref i1)) (by cases b <;> rfl) (draw_some e1 (hl1.ext s1.extBut D.l1z) hx fun g2 p2 s2 => ?_)
  have T2 : IsPair g2 TO u v := s2.extBut _ _ D.TOi1 (s1.extBut _ _ D.TOz hTO)
  refine wpAny_bind (wpAny_seqItems T2 rfl (wpAny_bind (wpAny_updateSeq_pair T2 fun g3 T3 s3 => ?_)))
  replace T3 : IsPair g3 TO x v := T3
  refine wpAny_bind (wpAny_letGo (wpAny_pure ?_))
  refine wpAny_bind (wpAny_bind (wpAny_onRaise ?_))
  have e2 : SI t2 g3 i2 l2 k2 := ((h2.ext s1.extBut D.i2z).ext s2.extBut D.i12.symm).ext s3.extBut D.TOi2.symm
  have q2 : SQ t2 g3 l2 ys := ((hl2.ext s1.extBut D.l2z).ext s2.extBut D.l2i1).ext s3.extBut D.l2TO
  refine wp_eq (m' := drawB b (.ref i2)) (by cases b <;> rfl) (draw_some e2 q2 hy fun g4 p4 s4 => ?_)
  have T4 : IsPair g4 TO x v := s4.extBut _ _ D.TOi2 T3
  refine wpAny_bind (wpAny_seqItems T4 rfl (wpAny_bind (wpAny_updateSeq_pair T4 fun g5 T5 s5 => ?_)))
  replace T5 : IsPair g5 TO x y := T5
  refine wpAny_bind (wpAny_letGo (wpAny_pure (wpAny_pure ?_)))
  refine wpAny_bind (wpAny_seqItems T5 rfl (wpAny_bind (wpAny_newTuple ?_)))
  have sz : g5.objs.size = s.heap.objs.size := by rw [s5.1, s4.1, s3.1, s2.1, s1.1]
  have z5 : Zo b g5 z TI TO .ellipsis := s5.extBut _ _ D.TOz.symm (s4.extBut _ _ D.i2z.symm (s3.extBut _ _ D.TOz.symm (s2.extBut _ _ D.i1z.symm z1)))
  have old : ∀ c o, c ≠ z → c ≠ TO → c ≠ i1 → c ≠ i2 → s.heap.get? c = some o → g5.get? c = some o := fun c o c1 c2 c3 c4 e =>
    s5.extBut _ _ c2 (s4.extBut _ _ c4 (s3.extBut _ _ c2 (s2.extBut _ _ c3 (s1.extBut _ _ c1 e))))
  have p5 : SI t1 g5 i1 l1 (k1 + 1) := ((p2.ext s3.extBut D.TOi1.symm).ext s4.extBut D.i12).ext s5.extBut D.TOi1.symm
  have r5 : SI t2 g5 i2 l2 (k2 + 1) := p4.ext s5.extBut D.TOi2.symm
  have zlt : z < g5.objs.size := Heap.lt_size z5
  show wpAny (model prog w) A (Builtin.SmallTypes.ownedTupleHandOut (.ref z) (.ref g5.objs.size) >>= _) _ E _
  refine wpAny_bind ?_
  unfold Builtin.SmallTypes.ownedTupleHandOut
  have z6 : Zo b (g5.push { cls := .type "tuple", data := .seq #[x, y] }) z TI TO .ellipsis := Heap.get?_push_of_some _ z5
  refine wpAny_bind (wpAny_setField_rec z6 (by simp) fun g7 z7 s7 => ?_)
  replace z7 : Zo b g7 z TI TO (rawInt g5.objs.size) := z7
  refine wpAny_setField_rec z7 (by simp) fun g8 z8 s8 => ?_
  replace z8 : Zo b g8 z TI TO (rawInt g5.objs.size) := z8
  have more : ∀ c o, c ≠ z → g5.get? c = some o → g8.get? c = some o := fun c o c1 e => s8.extBut _ _ c1 (s7.extBut _ _ c1 (Heap.get?_push_of_some _ e))
  have P8 : IsPair g8 g5.objs.size x y := s8.extBut _ _ (Nat.ne_of_gt zlt) (s7.extBut _ _ (Nat.ne_of_gt zlt) (Heap.get?_push_size _ rfl))
  have n8 : g8.objs.size = g5.objs.size + 1 := by rw [s8.1, s7.1, Heap.size_push]
  rw [sz] at z8 P8 n8
  refine wpAny_pure ⟨_, rfl, ?_⟩
  show Q (.ref g5.objs.size) _
  rw [sz]
  exact hQ g8 z8 (more _ _ D.TOz T5) (p5.at fun o e => more _ o D.i1z e) (r5.at fun o e => more _ o D.i2z e) P8 n8 fun c o c1 c2 c3 c4 e => more c o c1 (old c o c1 c2 c3 c4 e)
theorem znext_end {b t1 t2 : Bool} {z TI TO i1 i2 l1 l2 : Addr} {k1 k2 : Nat} {xs ys : Array Value} {u v : Value} {Q : Fin → Shared → Prop} (hh : A.handled = none) (D : ZipApart z TI TO i1 i2 l1 l2)
    (hz : Zo b s.heap z TI TO .none) (hTI : IsPair s.heap TI (.ref i1) (.ref i2)) (hTO : IsPair s.heap TO u v) (h1 : SI t1 s.heap i1 l1 k1) (h2 : SI t2 s.heap i2 l2 k2) (hl1 : SQ t1 s.heap l1 xs) (hl2 : SQ t2 s.heap l2 ys)
    (hend : (b = false ∧ (xs[k1]? = none ∨ ys[k2]? = none)) ∨ (xs[k1]? = none ∧ ys[k2]? = none))
    (hE : ∀ h' e, (∀ c o, c ≠ z → c ≠ TO → c ≠ i1 → c ≠ i2 → s.heap.get? c = some o → h'.get? c = some o) → (∃ o, h'.get? e = some o ∧ o.cls = .type "StopIteration") → E (.ref e) { s with heap := h' }) :
    wpAny (model prog w) A (Builtin.«zip.__next__» ⟨[.ref z], []⟩) Q E s := by
  show wpAny (model prog w) A (field (.ref z) 2 >>= _) _ E s
  refine wpAny_bind (wpAny_field hz rfl (x := .bool b) rfl ?_)
  show wpAny (model prog w) A (field (.ref z) 3 >>= _) _ E s
  refine wpAny_bind (wpAny_field hz rfl (x := .ref TI) rfl (wpAny_bind (wpAny_seqItems hTI rfl ?_)))
  show wpAny (model prog w) A (Builtin.SmallTypes.ownedTupleIsFree (.ref z) >>= _) _ E s
  refine wpAny_bind ?_
  unfold Builtin.SmallTypes.ownedTupleIsFree
  refine wpAny_bind (wpAny_field hz rfl (x := .none) rfl (wpAny_pure ?_))
  simp only [if_true]
  refine wpAny_bind (wpAny_rule (wpAny_bind (wpAny_field hz rfl (x := .ref TO) rfl (wpAny_bind (wpAny_setField_rec hz (by simp) fun g1 z1 s1 => ?_)))))
  replace z1 : Zo b g1 z TI TO .ellipsis := z1
  refine wpAny_bind ?_
  simp only [List.zipIdx_cons, List.zipIdx_nil, List.forIn_cons, List.forIn_nil]
  refine wpAny_bind (wpAny_bind (wpAny_onRaise ?_))
  have e1 : SI t1 g1 i1 l1 k1 := h1.ext s1.extBut D.i1z
  cases hx : xs[k1]? with
  | none =>
    cases b with
    | false =>
      refine wp_eq (m' := drawB false (.ref i1)) rfl (wpAny_bind (next_end hh e1 (hl1.ext s1.extBut D.l1z) hx fun g2 e s2 he => ?_))
      obtain ⟨oe, hoe, hce⟩ := he
      have z2 : Zo false g2 z TI TO .ellipsis := s2 _ _ D.i1z.symm z1
      have ez : e ≠ z := fun q => by subst q; rw [z2] at hoe; cases hoe; simp at hce
      exact wpAny_setField_rec z2 (by simp) fun g3 _ s3 => hE g3 e (fun c o c1 _ c3 _ q => s3.extBut _ _ c1 (s2 _ _ c3 (s1.extBut _ _ c1 q))) ⟨oe, s3.extBut _ _ ez hoe, hce⟩
    | true =>
      have hy : ys[k2]? = none := by
        rcases hend with ⟨q, _⟩ | ⟨_, q⟩
        · cases q
        · exact q
      refine wp_eq (m' := Builtin.SmallTypes.nextOrEnd (.ref i1)) rfl (drawT_end hh e1 (hl1.ext s1.extBut D.l1z) hx fun g2 s2 => ?_)
      have z2 : Zo true g2 z TI TO .ellipsis := s2 _ _ D.i1z.symm z1
      refine wpAny_bind (wpAny_setField_rec z2 (by simp) fun g3 z3 s3 => wpAny_bind ?_)
      have e2 : SI t2 g3 i2 l2 k2 := ((h2.ext s1.extBut D.i2z).ext s2 D.i12.symm).ext s3.extBut D.i2z
      have q2 : SQ t2 g3 l2 ys := ((hl2.ext s1.extBut D.l2z).ext s2 D.l2i1).ext s3.extBut D.l2z
      show wpAny (model prog w) A (if (0 : Nat) > 0 then unsupported "x" else _) _ E _
      rw [if_neg (by decide)]
      refine wpAny_bind ?_
      simp only [List.drop_succ_cons, List.drop_zero, List.zipIdx_cons, List.zipIdx_nil, List.forIn_cons, List.forIn_nil]
      refine wpAny_bind (wpAny_bind (drawT_end hh e2 q2 hy fun g4 s4 => ?_))
      simp only [Option.isSome_none, Bool.false_eq_true, if_false]
      refine wpAny_pure (wpAny_pure ?_)
      refine wpAny_bind (wpAny_rule (stop_raised (s := { s with heap := g4 }) hh fun g5 e s5 he => hE g5 e (fun c o c1 _ c3 c4 q => s5 _ _ (s4 _ _ c4 (s3.extBut _ _ c1 (s2 _ _ c3 (s1.extBut _ _ c1 q))))) he))
  | some x =>
    obtain ⟨rfl, hy⟩ : b = false ∧ ys[k2]? = none := by
      rcases hend with ⟨q1, q | q⟩ | ⟨q, _⟩
      · rw [hx] at q; cases q
      · exact ⟨q1, q⟩
      · rw [hx] at q; cases q
    refine wp_eq (m' := drawB false (.ref i1)) rfl (draw_some e1 (hl1.ext s1.extBut D.l1z) hx fun g2 p2 s2 => ?_)
    have T2 : IsPair g2 TO u v := s2.extBut _ _ D.TOi1 (s1.extBut _ _ D.TOz hTO)
    refine wpAny_bind (wpAny_seqItems T2 rfl (wpAny_bind (wpAny_updateSeq_pair T2 fun g3 T3 s3 => ?_)))
    refine wpAny_bind (wpAny_letGo (wpAny_pure ?_))
    refine wpAny_bind (wpAny_bind (wpAny_onRaise ?_))
    have e2 : SI t2 g3 i2 l2 k2 := ((h2.ext s1.extBut D.i2z).ext s2.extBut D.i12.symm).ext s3.extBut D.TOi2.symm
    have q2 : SQ t2 g3 l2 ys := ((hl2.ext s1.extBut D.l2z).ext s2.extBut D.l2i1).ext s3.extBut D.l2TO
    refine wp_eq (m' := drawB false (.ref i2)) rfl (wpAny_bind (next_end hh e2 q2 hy fun g4 e s4 he => ?_))
    obtain ⟨oe, hoe, hce⟩ := he
    have z4 : Zo false g4 z TI TO .ellipsis := s4 _ _ D.i2z.symm (s3.extBut _ _ D.TOz.symm (s2.extBut _ _ D.i1z.symm z1))
    have ez : e ≠ z := fun q => by subst q; rw [z4] at hoe; cases hoe; simp at hce
    exact wpAny_setField_rec z4 (by simp) fun g5 _ s5 => hE g5 e (fun c o c1 c2 c3 c4 q => s5.extBut _ _ c1 (s4 _ _ c4 (s3.extBut _ _ c2 (s2.extBut _ _ c3 (s1.extBut _ _ c1 q))))) ⟨oe, s5.extBut _ _ ez hoe, hce⟩
theorem pyNext_item {b t1 t2 : Bool} {z TI TO i1 i2 l1 l2 : Addr} {k1 k2 : Nat} {xs ys : Array Value} {x y u v : Value} {Q : Option Value → Shared → Prop} (D : ZipApart z TI TO i1 i2 l1 l2)
    (hz : Zo b s.heap z TI TO .none) (hTI : IsPair s.heap TI (.ref i1) (.ref i2)) (hTO : IsPair s.heap TO u v) (h1 : SI t1 s.heap i1 l1 k1) (h2 : SI t2 s.heap i2 l2 k2) (hl1 : SQ t1 s.heap l1 xs) (hl2 : SQ t2 s.heap l2 ys) (hx : xs[k1]? = some x) (hy : ys[k2]? = some y)
    (hQ : ∀ h', Zo b h' z TI TO (rawInt s.heap.objs.size) → IsPair h' TO x y → SI t1 h' i1 l1 (k1 + 1) → SI t2 h' i2 l2 (k2 + 1) → IsPair h' s.heap.objs.size x y → h'.objs.size = s.heap.objs.size + 1 →
      (∀ c o, c ≠ z → c ≠ TO → c ≠ i1 → c ≠ i2 → s.heap.get? c = some o → h'.get? c = some o) → Q (some (.ref s.heap.objs.size)) { s with heap := h' }) :
    wpAny (model prog w) A (pyNext (.ref z)) Q E s := by
  have hT : s.TypeIs (.ref z) "zip" := ⟨_, hz, rfl⟩
  unfold pyNext
  exact wpAny_bind (wpAny_attempt (wpAny_callSpecial?_slot (name := Str.ofString "__next__") hT F.slot_zip_next (wpAny_call_entry F.slot_zip_next hT F.entry_zip_next
      (znext_item D hz hTI hTO h1 h2 hl1 hl2 hx hy fun h' a1 a2 a3 a4 a5 a6 a7 => wpAny_pure (hQ h' a1 a2 a3 a4 a5 a6 a7)) (F.args_zip_next_1 _))))
theorem pyNext_end {b t1 t2 : Bool} {z TI TO i1 i2 l1 l2 : Addr} {k1 k2 : Nat} {xs ys : Array Value} {u v : Value} {Q : Option Value → Shared → Prop} (hh : A.handled = none) (D : ZipApart z TI TO i1 i2 l1 l2)
    (hz : Zo b s.heap z TI TO .none) (hTI : IsPair s.heap TI (.ref i1) (.ref i2)) (hTO : IsPair s.heap TO u v) (h1 : SI t1 s.heap i1 l1 k1) (h2 : SI t2 s.heap i2 l2 k2) (hl1 : SQ t1 s.heap l1 xs) (hl2 : SQ t2 s.heap l2 ys)
    (hend : (b = false ∧ (xs[k1]? = none ∨ ys[k2]? = none)) ∨ (xs[k1]? = none ∧ ys[k2]? = none))
    (hQ : ∀ h', (∀ c o, c ≠ z → c ≠ TO → c ≠ i1 → c ≠ i2 → s.heap.get? c = some o → h'.get? c = some o) → Q none { s with heap := h' }) : wpAny (model prog w) A (pyNext (.ref z)) Q E s := by
  have hT : s.TypeIs (.ref z) "zip" := ⟨_, hz, rfl⟩
  unfold pyNext
  refine wpAny_bind (wpAny_attempt (wpAny_callSpecial?_slot (name := Str.ofString "__next__") hT F.slot_zip_next (wpAny_call_entry F.slot_zip_next hT F.entry_zip_next
    (znext_end hh D hz hTI hTO h1 h2 hl1 hl2 hend fun h' e hk he => ?_) (F.args_zip_next_1 _))))
  obtain ⟨o, ho, hc⟩ := he
  exact wpAny_bind (wpAny_isInstance (T := "StopIteration") (b := true) ⟨o, ho, hc⟩ isSubtype_stop (wpAny_pure (hQ _ hk)))
theorem zletgo {b : Bool} {elts : List Expr} {x1} {pos : Pos} {z TI TO T : Addr} {Q : Unit → Shared → Prop} (hz : Zo b s.heap z TI TO (rawInt T)) (hQ : ∀ h', Zo b h' z TI TO .none → Heap.SameBut z s.heap h' → Q () { s with heap := h' }) :
    wpAny (model prog w) A (letOwnedTupleGo (.Tuple elts x1 pos) (.ref z) (.ref T)) Q E s := by
  unfold letOwnedTupleGo
  refine wpAny_bind (wpAny_load hz ?_)
  show wpAny _ _ (if (["enumerate", "zip", "dict_itemiterator", "dict_reverseitemiterator", "odict_iterator", "itertools.zip_longest", "itertools.pairwise"].contains "zip" && (#[rawInt T, .bool false, .bool b, .ref TI, .ref TO] : Array Value)[0]? == some (rawInt T)) = true then _ else _) Q E s
  rw [if_pos (by simp)]
  exact wpAny_bind (wpAny_rule (wpAny_setField_rec hz (by simp) fun h' hz' hs' => hQ h' hz' hs'))
theorem zpyIter {b : Bool} {z TI TO : Addr} {f0 : Value} {Q : Value → Shared → Prop} (hz : Zo b s.heap z TI TO f0) (h : Q (.ref z) s) : wpAny (model prog w) A (pyIter (.ref z)) Q E s := by
  have hT : s.TypeIs (.ref z) "zip" := ⟨_, hz, rfl⟩
  refine wpAny_pyIter_slot hT F.slot_zip_iter (wpAny_call_entry F.slot_zip_iter hT F.entry_zip_iter ?_ (F.args_zip_iter_1 _))
  exact wpAny_pure ⟨_, rfl, "zip", _, hT, F.slot_zip_next.lookup, h⟩
end
abbrev zA (t1 : Bool) (h : Heap) (l1 : Addr) : Heap := h.push { cls := .type (itTy t1), data := .fields #[.ref l1, .int 0 0] }
abbrev zB (t1 t2 : Bool) (h : Heap) (l1 l2 : Addr) : Heap := (zA t1 h l1).push { cls := .type (itTy t2), data := .fields #[.ref l2, .int 0 0] }
abbrev zC (t1 t2 : Bool) (h : Heap) (l1 l2 : Addr) : Heap := (zB t1 t2 h l1 l2).push { cls := .type "tuple", data := .seq #[.ref h.objs.size, .ref (zA t1 h l1).objs.size] }
abbrev zD (t1 t2 : Bool) (h : Heap) (l1 l2 : Addr) : Heap := (zC t1 t2 h l1 l2).push { cls := .type "tuple", data := .seq #[.none, .none] }
abbrev zE (t1 t2 b : Bool) (h : Heap) (l1 l2 : Addr) : Heap := (zD t1 t2 h l1 l2).push { cls := .type "zip", data := .fields #[.none, .bool false, .bool b, .ref (zB t1 t2 h l1 l2).objs.size, .ref (zC t1 t2 h l1 l2).objs.size] }
theorem itr_s {prog : Program} {w : World} {A : Around} {E : Value → Shared → Prop} {s : Shared} {t : Bool} {l : Addr} {items : Array Value} {Q : Value → Shared → Prop} (hl : SQ t s.heap l items)
    (hQ : Q (.ref s.heap.objs.size) { s with heap := s.heap.push { cls := .type (itTy t), data := .fields #[.ref l, .int 0 0] } }) : wpAny (model prog w) A (pyIter (.ref l)) Q E s := by
  cases t with
  | true => exact wpAny_pyIter_tuple hl hQ
  | false => exact wpAny_pyIter_list hl hQ
set_option maxHeartbeats 4000000 in
theorem znew (t1 t2 : Bool) (l1 l2 : Addr) (xs ys : Array Value) : Meets (Builtin.«zip.__new__» ⟨[.type "zip", .ref l1, .ref l2], []⟩) (fun _ R s => SQ t1 s.heap l1 xs ∧ SQ t2 s.heap l2 ys ∧
      R (.ok (.ret (.ref (zD t1 t2 s.heap l1 l2).objs.size))) { s with heap := zE t1 t2 false s.heap l1 l2 }) :=
  .of_wp fun prog w A R s h => by
    obtain ⟨hp, g, d, tk, os⟩ := s; obtain ⟨q1, q2, h⟩ := h
    have hsub := sub_zip
    have a1 : SQ t1 (Shared.heap ⟨hp, g, d, tk, os⟩) l1 xs := q1
    have a2 : SQ t2 (Shared.heap ⟨hp.push { cls := .type (itTy t1), data := .fields #[.ref l1, .int 0 0] }, g, d, tk, os⟩) l2 ys := SQ.push q2 _
    wp_walk using itr_s a1, itr_s a2
    exact ⟨_, rfl, h⟩
set_option maxHeartbeats 4000000 in
theorem znewS (t1 t2 : Bool) (l1 l2 : Addr) (xs ys : Array Value) : Meets (Builtin.«zip.__new__» ⟨[.type "zip", .ref l1, .ref l2], [("strict", .bool true)]⟩) (fun _ R s => SQ t1 s.heap l1 xs ∧ SQ t2 s.heap l2 ys ∧
      R (.ok (.ret (.ref (zD t1 t2 s.heap l1 l2).objs.size))) { s with heap := zE t1 t2 true s.heap l1 l2 }) :=
  .of_wp fun prog w A R s h => by
    obtain ⟨hp, g, d, tk, os⟩ := s; obtain ⟨q1, q2, h⟩ := h
    have hsub := sub_zip
    have a1 : SQ t1 (Shared.heap ⟨hp, g, d, tk, os⟩) l1 xs := q1
    have a2 : SQ t2 (Shared.heap ⟨hp.push { cls := .type (itTy t1), data := .fields #[.ref l1, .int 0 0] }, g, d, tk, os⟩) l2 ys := SQ.push q2 _
    wp_walk using itr_s a1, itr_s a2
    exact ⟨_, rfl, h⟩
section
variable {prog : Program} {w : World} {A : Around} {E : Value → Shared → Prop} {s : Shared}
/-- what stands behind zip(a, b) -/
def ZMade (b t1 t2 : Bool) (s : Shared) (l1 l2 : Addr) (h' : Heap) : Prop :=
  Zo b h' (s.heap.objs.size + 4) (s.heap.objs.size + 2) (s.heap.objs.size + 3) .none ∧ IsPair h' (s.heap.objs.size + 2) (.ref s.heap.objs.size) (.ref (s.heap.objs.size + 1)) ∧ IsPair h' (s.heap.objs.size + 3) .none .none ∧
    SI t1 h' s.heap.objs.size l1 0 ∧ SI t2 h' (s.heap.objs.size + 1) l2 0 ∧ h'.objs.size = s.heap.objs.size + 5 ∧ ∀ c o, s.heap.get? c = some o → h'.get? c = some o
theorem si_new {t : Bool} {h : Heap} {a l : Addr} (e : h.get? a = some { cls := .type (itTy t), data := .fields #[.ref l, .int 0 0] }) : SI t h a l 0 := by
  cases t with
  | true => exact ⟨_, e, rfl, rfl⟩
  | false => exact ⟨_, e, rfl, rfl⟩
theorem zmade {b t1 t2 : Bool} {l1 l2 : Addr} : ZMade b t1 t2 s l1 l2 (zE t1 t2 b s.heap l1 l2) ∧ (zD t1 t2 s.heap l1 l2).objs.size = s.heap.objs.size + 4 := by
  have n1 : (zA t1 s.heap l1).objs.size = s.heap.objs.size + 1 := Heap.size_push ..
  have n2 : (zB t1 t2 s.heap l1 l2).objs.size = s.heap.objs.size + 2 := by rw [Heap.size_push, n1]
  have n3 : (zC t1 t2 s.heap l1 l2).objs.size = s.heap.objs.size + 3 := by rw [Heap.size_push, n2]
  have n4 : (zD t1 t2 s.heap l1 l2).objs.size = s.heap.objs.size + 4 := by rw [Heap.size_push, n3]
  have n5 : (zE t1 t2 b s.heap l1 l2).objs.size = s.heap.objs.size + 5 := by rw [Heap.size_push, n4]
  have o5 : (zE t1 t2 b s.heap l1 l2).get? (zD t1 t2 s.heap l1 l2).objs.size = some _ := Heap.get?_push_size _ rfl
  have o4 : (zE t1 t2 b s.heap l1 l2).get? (zC t1 t2 s.heap l1 l2).objs.size = some _ := Heap.get?_push_of_some _ (Heap.get?_push_size _ rfl)
  have o3 : (zE t1 t2 b s.heap l1 l2).get? (zB t1 t2 s.heap l1 l2).objs.size = some _ := Heap.get?_push_of_some _ (Heap.get?_push_of_some _ (Heap.get?_push_size _ rfl))
  have o2 : (zE t1 t2 b s.heap l1 l2).get? (zA t1 s.heap l1).objs.size = some _ := Heap.get?_push_of_some _ (Heap.get?_push_of_some _ (Heap.get?_push_of_some _ (Heap.get?_push_size _ rfl)))
  have o1 : (zE t1 t2 b s.heap l1 l2).get? s.heap.objs.size = some _ := Heap.get?_push_of_some _ (Heap.get?_push_of_some _ (Heap.get?_push_of_some _ (Heap.get?_push_of_some _ (Heap.get?_push_size _ rfl))))
  rw [n2, n3, n4] at o5
  rw [n1, n2] at o3
  rw [n3] at o4
  rw [n1] at o2
  exact ⟨⟨o5, o3, o4, si_new o1, si_new o2, n5, fun c o q => Heap.get?_push_of_some _ (Heap.get?_push_of_some _ (Heap.get?_push_of_some _ (Heap.get?_push_of_some _ (Heap.get?_push_of_some _ q))))⟩, n4⟩
theorem zcall {t1 t2 : Bool} {l1 l2 : Addr} {xs ys : Array Value} {Q : Value → Shared → Prop} (q1 : SQ t1 s.heap l1 xs) (q2 : SQ t2 s.heap l2 ys)
    (h : ∀ h', ZMade false t1 t2 s l1 l2 h' → Q (.ref (s.heap.objs.size + 4)) { s with heap := h' }) : wpAny (model prog w) A (call (.type "zip") [.ref l1, .ref l2]) Q E s := by
  refine callType_new F.called_zip (by decide) (F.typeCall_zip_2 _ _) (F.newCall_zip_2 _ _) (fun obj => F.args_object_init_3 obj _ _) F.entry_zip_new (znew t1 t2 l1 l2 xs ys) ⟨q1, q2, ?_⟩
  have z := zmade (b := false) (t1 := t1) (t2 := t2) (l1 := l1) (l2 := l2) (s := s)
  show _ ∧ _
  rw [z.2]
  exact ⟨⟨_, z.1.1, rfl⟩, h _ z.1⟩
end
end Sb

/-! zip: what is walked. -/
namespace Sb
open PySem PySem.Spec PyProof.Rows L2
/-- a sequence of the abstract heap -/
def QX (t : Bool) (K : PySem.W.Frag) (H : Hp) (a : Addr) (xs : List V) : Prop := match t with | true => SqT K H a xs | false => SqL K H a xs
theorem QX.at {X : Cx} {pins : List (Addr × Obj)} {σ : L2.St} {H : Hp} {s : Shared} {t : Bool} {a : Addr} {xs : List V} (I : Inv X pins σ H s) (q : QX t X.K H a xs) : ∃ its : List Value, Vals xs its ∧ SQ t s.heap a its.toArray := by
  cases t with
  | true => obtain ⟨its, r, p, _⟩ := I.tuple q; exact ⟨its, r, p⟩
  | false => obtain ⟨its, r, p, _⟩ := I.list q; exact ⟨its, r, p.isList⟩
theorem QX.same {X : Cx} {pins : List (Addr × Obj)} {σ : L2.St} {H : Hp} {s : Shared} {t : Bool} {a : Addr} {xs ys : List V} (I : Inv X pins σ H s) (q : QX t X.K H a xs) (q' : QX t X.K H a ys) : xs = ys := by
  cases t with
  | true => exact I.tuple_inj q q'
  | false => exact I.list_inj q q'
/-- the sequences at a and c, item by item in new pairs -/
def ItzB (b t1 t2 : Bool) (K : PySem.W.Frag) (a c : Addr) : It :=
  ⟨fun i H => ∃ (xs ys : List V) (x y : V), QX t1 K H a xs ∧ QX t2 K H c ys ∧ xs[i]? = some x ∧ ys[i]? = some y,
    fun i H v H' => ∃ T x y, ∃ o : Obj, v = .ref T ∧ H T = none ∧ o.dict = none ∧ H' = upd H T (.frz o (.tup [x, y])) ∧ (∀ xs, QX t1 K H a xs → xs[i]? = some x) ∧ ∀ ys, QX t2 K H c ys → ys[i]? = some y,
    fun i H => ∃ xs ys : List V, QX t1 K H a xs ∧ QX t2 K H c ys ∧ ((b = false ∧ (xs.length ≤ i ∨ ys.length ≤ i)) ∨ (xs.length ≤ i ∧ ys.length ≤ i))⟩
theorem turn_zipB {P : Program} {w : World} {K : PySem.W.Frag} {elts : List Expr} {kk : Nat} {tpos : Pos} {b t1 t2 : Bool} {a c z TI TO i1 i2 : Addr} (D : ZipApart z TI TO i1 i2 a c) :
    Turn P w K (.Tuple elts kk tpos) (ItzB b t1 t2 K a c) [z, TI, TO, i1, i2] z (fun i h => Zo b h z TI TO .none ∧ IsPair h TI (.ref i1) (.ref i2) ∧ (∃ x y, IsPair h TO x y) ∧ SI t1 h i1 a i ∧ SI t2 h i2 c i) where
  mem := by simp
  obj := fun i h st d hd => by
    obtain ⟨hz, hTI, ⟨x, y, hTO⟩, h1, h2⟩ := st
    obtain ⟨o1, e1, d1⟩ := h1.get
    obtain ⟨o2, e2, d2⟩ := h2.get
    rcases (by simpa using hd : d = z ∨ d = TI ∨ d = TO ∨ d = i1 ∨ d = i2) with q | q | q | q | q
    · rw [q]; exact ⟨_, hz, fun v q => nomatch q⟩
    · rw [q]; exact ⟨_, hTI, fun v q => nomatch q⟩
    · rw [q]; exact ⟨_, hTO, fun v q => nomatch q⟩
    · rw [q]; exact ⟨o1, e1, fun v q => by rw [d1] at q; cases q⟩
    · rw [q]; exact ⟨o2, e2, fun v q => by rw [d2] at q; cases q⟩
  keep := fun i h h' st k => by
    obtain ⟨hz, hTI, ⟨x, y, hTO⟩, h1, h2⟩ := st
    exact ⟨k z (by simp) _ hz, k TI (by simp) _ hTI, ⟨x, y, k TO (by simp) _ hTO⟩, h1.at fun o q => k i1 (by simp) o q, h2.at fun o q => k i2 (by simp) o q⟩
  item := by
    intro X hP hw hK hc i pins s σ H E I hf st hg
    subst hP hw hK
    obtain ⟨hz, hTI, ⟨x0, y0, hTO⟩, h1, h2⟩ := st
    obtain ⟨xs, ys, x, y, qx, qy, hx, hy⟩ := hg
    obtain ⟨its, rv, p1⟩ := qx.at I
    obtain ⟨its2, rv2, p2⟩ := qy.at I
    obtain ⟨u, hu, ru⟩ := rv.get hx
    obtain ⟨u2, hu2, ru2⟩ := rv2.get hy
    have zl : z < s.heap.objs.size := Heap.lt_size hz
    refine pyNext_item D hz hTI hTO h1 h2 p1 p2 (x := u) (y := u2) (by simpa using hu) (by simpa using hu2) fun g gz gT gi1 gi2 gp gn gk => ?_
    refine ⟨_, rfl, zletgo (s := { s with heap := g }) gz fun g2 gz2 sb => ?_⟩
    have hT2 : g2.get? s.heap.objs.size = some { cls := .type "tuple", data := .seq #[u, u2] } := (sb.2 _ (Nat.ne_of_gt zl)).trans gp
    have new : ObjOk X.prog X.w (upd H s.heap.objs.size (.frz { cls := .type "tuple", data := .seq #[u, u2] } (.tup [x, y]))) g2 s.heap.objs.size (.frz { cls := .type "tuple", data := .seq #[u, u2] } (.tup [x, y])) :=
      ⟨hT2, by show 2 ≤ sizeLine; decide, [u, u2], .cons ru (.cons ru2 .nil), ⟨_, hT2, rfl, _, rfl⟩⟩
    have I1 : Inv X pins σ (upd H s.heap.objs.size (.frz { cls := .type "tuple", data := .seq #[u, u2] } (.tup [x, y]))) { s with heap := g2 } :=
      I.turnedNew (t' := s.toks) (ch := [z, TI, TO, i1, i2]) (fun d o hb q => (sb.2 d (fun q' => hb (by simp [q']))).trans (gk d o (fun q' => hb (by simp [q'])) (fun q' => hb (by simp [q'])) (fun q' => hb (by simp [q'])) (fun q' => hb (by simp [q'])) q)) hf (Nat.le_refl _) new
    refine ⟨.ref s.heap.objs.size, _, I1, rfl, ⟨_, x, y, _, rfl, I.hok.fresh (Nat.le_refl _), rfl, rfl, fun l hl => by rw [QX.same I hl qx]; exact hx, fun l hl => by rw [QX.same I hl qy]; exact hy⟩, ⟨gz2, ?_, ⟨u, u2, ?_⟩, ?_, ?_⟩, fun d hdm => ?_⟩
    · exact (sb.2 _ D.TIz).trans (gk _ _ D.TIz D.TITO D.TIi1 D.TIi2 hTI)
    · exact (sb.2 _ D.TOz).trans gT
    · exact gi1.at fun o q => (sb.2 _ D.i1z).trans q
    · exact gi2.at fun o q => (sb.2 _ D.i2z).trans q
    · have hlt : d < s.heap.objs.size := by
        rcases (by simpa using hdm : d = z ∨ d = TI ∨ d = TO ∨ d = i1 ∨ d = i2) with q | q | q | q | q
        · rw [q]; exact zl
        · rw [q]; exact Heap.lt_size hTI
        · rw [q]; exact Heap.lt_size hTO
        · rw [q]; obtain ⟨_, e1, _⟩ := h1.get; exact Heap.lt_size e1
        · rw [q]; obtain ⟨_, e2, _⟩ := h2.get; exact Heap.lt_size e2
      rw [upd_ne (Nat.ne_of_lt hlt)]
      exact (hf d hdm).1
  done := by
    intro X hP hw hK hc i pins s σ H E I hf st hg
    subst hP hw hK
    obtain ⟨hz, hTI, ⟨x0, y0, hTO⟩, h1, h2⟩ := st
    obtain ⟨xs, ys, qx, qy, hend⟩ := hg
    obtain ⟨its, rv, p1⟩ := qx.at I
    obtain ⟨its2, rv2, p2⟩ := qy.at I
    have l1 := rv.length
    have l2 := rv2.length
    have he : (b = false ∧ (its.toArray[i]? = none ∨ its2.toArray[i]? = none)) ∨ (its.toArray[i]? = none ∧ its2.toArray[i]? = none) := by
      rcases hend with ⟨q0, q | q⟩ | ⟨q, q'⟩
      · exact .inl ⟨q0, .inl (by simp; omega)⟩
      · exact .inl ⟨q0, .inr (by simp; omega)⟩
      · exact .inr ⟨by simp; omega, by simp; omega⟩
    exact pyNext_end (I.ok.hd hc) D hz hTI hTO h1 h2 p1 p2 he fun g gk => ⟨rfl, I.turnedL (t' := s.toks) (ch := [z, TI, TO, i1, i2]) (fun d o hb q =>
      gk d o (fun q' => hb (by simp [q'])) (fun q' => hb (by simp [q'])) (fun q' => hb (by simp [q'])) (fun q' => hb (by simp [q'])) q) hf⟩
  self := fun A i s Q E st h => zpyIter st.1 h
theorem zstart {X : Cx} {pins : List (Addr × Obj)} {σ : L2.St} {H : Hp} {s : Shared} {b t1 t2 : Bool} {a c : Addr} {xs ys : List V} {h' : Heap} (I : Inv X pins σ H s) (q1 : QX t1 X.K H a xs) (q2 : QX t2 X.K H c ys) (z : ZMade b t1 t2 s a c h') :
    Inv X pins σ H { s with heap := h' } ∧ ZipApart (s.heap.objs.size + 4) (s.heap.objs.size + 2) (s.heap.objs.size + 3) s.heap.objs.size (s.heap.objs.size + 1) a c ∧
      ∀ d, d ∈ [s.heap.objs.size + 4, s.heap.objs.size + 2, s.heap.objs.size + 3, s.heap.objs.size, s.heap.objs.size + 1] → FpOk X pins H d := by
  obtain ⟨its, rv, p1⟩ := q1.at I
  obtain ⟨its2, rv2, p2⟩ := q2.at I
  refine ⟨I.kept (t' := s.toks) z.2.2.2.2.2.2, PySem.W.ktu_apart s.heap.objs.size a c p1.lt p2.lt, fun d hd => ?_⟩
  have hle : s.heap.objs.size ≤ d := by
    have : d = s.heap.objs.size + 4 ∨ d = s.heap.objs.size + 2 ∨ d = s.heap.objs.size + 3 ∨ d = s.heap.objs.size ∨ d = s.heap.objs.size + 1 := by simpa using hd
    unfold Addr at *
    omega
  exact I.fpOk hle (I.hok.fresh hle)
def iZipB (b : Bool) (K : PySem.W.Frag) (ta : TA) : TI := fun σ H R => ta σ H fun vs H1 => ∃ a c xs ys t1 t2, vs = [.ref a, .ref c] ∧ QX t1 K H1 a xs ∧ QX t2 K H1 c ys ∧ R (ItzB b t1 t2 K a c) H1
theorem pi_zipB {X : Cx} {e e2 : Expr} {ta : TA} {p pos tpos : Pos} {elts : List Expr} {kk : Nat} (hg : Gl X "zip") (hm : X.mg "zip" = none) (ha : PA X [e, e2] ta)
    (hs : starEach [e, e2] X.env = (false, eval e X.env) :: starEach [e2] X.env := by rfl) (hpl : (backTo pos (starEach [e2] X.env)).any (·.1) = false := by rfl) : PI X (.Tuple elts kk tpos) (.Call (.Name "zip" p) [e, e2] [] pos) (iZipB false X.K ta) := by
  refine ⟨fun pins s σ H R I h => ?_⟩
  refine Call_ (ld_blt I hg hm PyProof.Rows.boot_zip (PyProof.Rows.callWith_type1 (thn (ha.run pos pins s σ H _ I h) fun us s1 ⟨vs, H1, I1, r1, q1⟩ => ?_) hs hpl))
  obtain ⟨a, c, xs, ys, t1, t2, ex, qx, qy, q⟩ := q1
  subst ex
  obtain ⟨u1, us1, rfl, ru1, rr⟩ : ∃ u1 us1, us = u1 :: us1 ∧ RelV (.ref a) u1 ∧ Vals [.ref c] us1 := by cases r1 with | cons r rr => exact ⟨_, _, rfl, r, rr⟩
  obtain ⟨u2, rfl, ru2⟩ := vals1 rr
  cases ru1
  cases ru2
  obtain ⟨its, rv, p1⟩ := qx.at I1
  obtain ⟨its2, rv2, p2⟩ := qy.at I1
  refine zcall p1 p2 fun h' z => zpyIter z.1 ?_
  obtain ⟨I2, D, fr⟩ := zstart I1 qx qy z
  exact ⟨s1.heap.objs.size + 4, [s1.heap.objs.size + 4, s1.heap.objs.size + 2, s1.heap.objs.size + 3, s1.heap.objs.size, s1.heap.objs.size + 1], _, _, H1, rfl, I2, turn_zipB D, ⟨z.1, z.2.1, ⟨_, _, z.2.2.1⟩, z.2.2.2.1, z.2.2.2.2.1⟩, fr, q⟩
end Sb

/-! Own exception classes over any built-in one, with one field, made by an __init__ of two rows. -/
namespace Sb
open PySem PySem.Spec PyProof.Rows L2
/-- what is asked of the built-in class -/
structure XB (B newId initId : String) (bm : List Value) : Prop where
  F : ExcBaseFacts B newId initId bm
  pass : ∀ self : Value, refuseLoop self "__setattr__" bm = pure ()
  obj : bm.contains (.type "object") = true
  typ : typeOf (.type B) = pure (.type "type")
  stub : Manifest.isStub B = false
  boot : bootBuiltins (Str.ofString B) = some (.type B)
  n1 : Str.ofString B ≠ "__name__"
  n2 : (Str.ofString B == ("__debug__" : Str)) = false
  hd : PySem.W.handedIn (.builtin initId) = true
  nv : ∀ K : PySem.W.Frag, PySem.W.findCls K (.type B) (.type "type") "__init__" = some (.val (.builtin initId))
  pos : (Value.builtin initId) ≠ .none
theorem xb_value : XB "ValueError" "ValueError.__new__" "ValueError.__init__" [.type "ValueError", .type "Exception", .type "BaseException", .type "object"] where
  F := F.excBase_ValueError
  pass := fun self => by kernel_rfl
  obj := by decide +kernel
  typ := by kernel_rfl
  stub := by decide +kernel
  boot := PyProof.Rows.Boot.«ValueError»
  n1 := by decide
  n2 := by decide
  hd := by decide +kernel
  nv := fun K => by first | rfl | kernel_rfl
  pos := by simp
theorem xb_lookup : XB "LookupError" "LookupError.__new__" "LookupError.__init__" [.type "LookupError", .type "Exception", .type "BaseException", .type "object"] where
  F := F.excBase_LookupError
  pass := fun self => by kernel_rfl
  obj := by decide +kernel
  typ := by kernel_rfl
  stub := by decide +kernel
  boot := PyProof.Rows.Boot.«LookupError»
  n1 := by decide
  n2 := by decide
  hd := by decide +kernel
  nv := fun K => by first | rfl | kernel_rfl
  pos := by simp
theorem xb_runtime : XB "RuntimeError" "RuntimeError.__new__" "RuntimeError.__init__" [.type "RuntimeError", .type "Exception", .type "BaseException", .type "object"] where
  F := F.excBase_RuntimeError
  pass := fun self => by kernel_rfl
  obj := by decide +kernel
  typ := by kernel_rfl
  stub := by decide +kernel
  boot := PyProof.Rows.Boot.«RuntimeError»
  n1 := by decide
  n2 := by decide
  hd := by decide +kernel
  nv := fun K => by first | rfl | kernel_rfl
  pos := by simp
theorem xb_overflow : XB "OverflowError" "OverflowError.__new__" "OverflowError.__init__" [.type "OverflowError", .type "ArithmeticError", .type "Exception", .type "BaseException", .type "object"] where
  F := F.excBase_OverflowError
  pass := fun self => by kernel_rfl
  obj := by decide +kernel
  typ := by kernel_rfl
  stub := by decide +kernel
  boot := PyProof.Rows.Boot.«OverflowError»
  n1 := by decide
  n2 := by decide
  hd := by decide +kernel
  nv := fun K => by first | rfl | kernel_rfl
  pos := by simp
section
open Builtin Builtin.ObjectAttr
variable {pr : Program} {wo : World} {Ar : Around} {Rz : Result → Shared → Prop} {hq : Heap} {gg : Array GenState} {dd : Drawn} {tt : Nat} {oz : OsState}
/-- self.f = v on an exception without a dict -/
theorem osaG {Kf : PySem.W.Frag} {f : Str} {tk : Tok} {v : Value} {e C : Addr} {fv : Array Value} {cd : ClassData} {bm : List Value} (XK : Kf.In hq) (he : hq.get? e = some { cls := .ref C, data := .fields fv }) (hcd : PySem.W.clsIn Kf C = some cd)
    (hm : cd.mro = .ref C :: bm) (hp : ∀ self : Value, refuseLoop self "__setattr__" bm = pure ()) (ho : bm.contains (.type "object") = true) (hh : cd.hasDict = true) (hf : PySem.W.findIn Kf (.ref C) f = some none)
    (fin : ∀ h' tk' dx, (∀ b o, b ≠ e → hq.get? b = some o → h'.get? b = some o) → hq.objs.size ≤ dx → dx ≠ e → h'.get? e = some { cls := .ref C, dict := some dx, data := .fields fv } →
      h'.Ns1 dx (fun y => if y = f then some v else none) → Rz (.ok (.ret .none)) ⟨h', gg, dd, tk', oz⟩) : codeAny (model pr wo) Ar (.call (.builtin "object.__setattr__") ⟨[.ref e, .str f tk, v], []⟩) Rz ⟨hq, gg, dd, tt, oz⟩ := by
  have IA : PySem.W.InstAt hq e { cls := .ref C, data := .fields fv } C none := ⟨he, rfl, rfl, trivial⟩
  have SF := PySem.F.store_object
  have hob : cd.mro.contains (.type "object") = true := by rw [hm, List.contains_cons, ho, Bool.or_true]
  have ne : cd.mro.isEmpty = false := by rw [hm]; rfl
  have es : e ≠ hq.objs.size := Nat.ne_of_lt (Heap.lt_size he)
  have sub : PySem.W.Looks (model pr wo) hq (isInstance (.ref e) (.type "object")) true := IA.type.andThen (PySem.W.looks_mroIn XK (by unfold PySem.W.mroIn; rw [hcd, Option.bind_some, if_neg (by rw [ne]; decide), hob]))
  refine codeAny_call_builtin SF.slot.plain SF.entry (@PySem.W.check_slot (model pr wo) _ _ ⟨hq, gg, dd, tt, oz⟩ "object.__setattr__" "object" "__setattr__" (.ref e) [.str f tk, v] [] _ SF.kind SF.split sub (SF.args (.ref e) (.str f tk) v) ?_)
  have hmr : PySem.W.Looks (model pr wo) hq (mroOf (.ref C)) cd.mro := (PySem.W.looks_clsIn XK hcd).andThen .now
  have L3 : PySem.W.Looks (model pr wo) hq (storeTaker? none) none := .now
  have hcl : PySem.W.Looks (model pr wo) hq (classData C) cd := PySem.W.looks_clsIn XK hcd
  rw [PySem.W.osa_eq, refuse_eq]
  refine wpAny_bind (wpAny_bind (IA.type.at (wpAny_bind (hmr.at ?_))))
  rw [hm, refuseLoop_ref, hp]
  refine wpAny_pure (wpAny_bind (IA.type.at (wpAny_bind ((PySem.W.looks_findIn XK hf).at (wpAny_bind (L3.at ?_))))))
  show wpAny _ _ (storeInOwnDict (.ref e) (.ref C) (.str f tk) f v false) _ _ _
  obtain ⟨nm, bs, mro, ns, qn, hd, sn, sb, ab, col, del⟩ := cd
  dsimp only at hh
  subst hh
  unfold storeInOwnDict ownDictForStores
  repeat (first | with_reducible refine PySem.HandSPX.store_in_new ?_ ?_ | with_reducible refine wpAny_loadPart_at he ?_ | with_reducible refine hcl.at ?_ | wp_step)
  · exact ⟨_, #[], _, (Heap.get?_update_ne _ _ _ _ es.symm).trans (Heap.get?_push_at rfl rfl), rfl, fun z hz => absurd hz (by simp), fun _ => rfl⟩
  · intro h' tk' hn' hs
    have he1 : (hq.push { cls := .type "dict", data := .dict #[] }).get? e = some { cls := .ref C, data := .fields fv } := Heap.get?_push_of_some _ he
    refine fin h' tk' hq.objs.size (fun b o hb hbo => ?_) (Nat.le_refl _) es.symm ?_ hn'
    · exact (hs.2 b (Nat.ne_of_lt (Heap.lt_size hbo))).trans ((Heap.get?_update_ne _ _ _ _ hb).trans (Heap.get?_push_of_some _ hbo))
    · exact (hs.2 e es).trans (Heap.get?_update_self _ he1 rfl)
end
/-- what the written part says of an own class over B -/
structure OxC (K : PySem.W.Frag) (newId : String) (bm : List Value) (C : Addr) : Prop where
  cls : ∃ nm q N bs sn sub ab col dd k0 k1 k2 k3 k5, K.lookup C = some (excClassObj nm q C N bs bm true sn sub ab col dd k0 k1 k2 k3 k5 newId)
  sa : PySem.W.findIn K (.ref C) "__setattr__" = some (some (.builtin "object.__setattr__"))
  exC : PySem.W.subIn K (.ref C) (.type "BaseException") = some true
  tyC : PySem.W.typeIn K (.ref C) = some (.type "type")
  kC : PySem.W.keepIn K (.ref C) = true
section
variable {X : Cx} {pins : List (Addr × Obj)} {σ : L2.St} {H : Hp} {s : Shared} {a C : Addr} {B newId initId : String} {bm : List Value} {f : Str} {y : V} {u : Value} {E : Value → Shared → Prop} {A : Around}
theorem ostG {Q : Unit → Shared → Prop} (Xb : XB B newId initId bm) (T : OxC X.K newId bm C) (I : Inv X pins σ H s) (e : H a = some (exo a C none)) (hno : PySem.W.findIn X.K (.ref C) f = some none) (ry : RelV y u)
    (h : ∀ dx s', H dx = none → dx ≠ a → Inv X pins σ (upd (upd H dx (exd dx [(f, y)])) a (exo a C (some dx))) s' → Q () s') : wpAny (model X.prog X.w) A (setAttr (.ref a) f u) Q E s := by
  obtain ⟨nm, q, N, bs, sn, sub, ab, col, dd, k0, k1, k2, k3, k5, hC⟩ := T.cls
  have hcl : PySem.W.clsIn X.K C = some { name := nm, bases := bs, mro := .ref C :: bm, ns := N, qualname := q, hasDict := true, slotNames := sn, subclasses := sub, abstract := ab, collection := col, hasDel := false } := by unfold PySem.W.clsIn; rw [hC] <;> rfl
  obtain ⟨t1, ho⟩ := exo_at I.hok e
  obtain ⟨hp, g, d, t, os⟩ := s
  refine PySem.W.set_plain I.kIn (ox := { cls := .ref C, dict := none, data := .fields #[.ref t1, .none, .none, .none, .bool false, .none] }) (od := none) ⟨ho, rfl, rfl, trivial⟩ T.sa (osaG (bm := bm) I.kIn ho hcl rfl Xb.pass Xb.obj rfl hno fun h' tk' dx k dn dne hx hn => ?_)
  have hnd : H dx = none := I.hok.fresh dn
  have nd : ∀ {b : Addr} {o : Obj}, hp.get? b = some o → b ≠ dx := fun {b o} z => Nat.ne_of_lt (Nat.lt_of_lt_of_le (Heap.lt_size z) dn)
  have na : ∀ {b : Addr}, H b = none → b ≠ a := fun {b} n z => by rw [z, e] at n; cases n
  have U : Un X.fs [] H (upd (upd H dx (exd dx [(f, y)])) a (exo a C (some dx))) hp h' := {
    keep := fun b o z n _ _ => k b o (na n) z
    slot := fun b o z n _ _ => ⟨o.slots, k b o (na n) z⟩
    free := fun b o z n _ => by rw [upd_ne (na n), upd_ne (nd z)]; exact n
    there := fun b o z _ => by
      by_cases hb : b = a
      · exact ⟨_, by rw [hb]; exact hx⟩
      · exact ⟨o, k b o hb z⟩
    tups := fun b xs z => by rw [upd_ne (at_ne e z exo_tup), upd_ne (ne_of_none z hnd)]; exact z
    frzs := fun b o v z => by rw [upd_ne (at_ne e z exo_frz), upd_ne (ne_of_none z hnd)]; exact z
    tbls := fun b ps z => ⟨#[], by rw [upd_ne (at_ne e z exo_tbl), upd_ne (ne_of_none z hnd), z]; simp⟩ }
  refine h dx _ hnd dne (I.un (t' := tk') U fun b o z => ?_)
  by_cases hb : b = a
  · subst hb; rw [upd_same] at z; cases z
    exact exo_ok hx
  · rw [upd_ne hb] at z
    by_cases hd : b = dx
    · subst hd; rw [upd_same] at z; cases z
      exact exd_ok hn (relO_put (fs := []) ry fun g => True.intro)
    · rw [upd_ne hd] at z
      exact (I.hok b o z).stay (fun c v hc w => k c v (by
          rcases hc with hc | hc
          · rw [hc]; exact hb
          · exact at_ne e hc exo_own) w)
        (fun c hc => by rw [upd_ne (at_ne e hc exo_own), upd_ne (ne_of_none hc hnd)]; exact hc) (fun c xs hc => by rw [upd_ne (at_ne e hc exo_tup), upd_ne (ne_of_none hc hnd)]; exact hc)
theorem oinitG {us : List Value} {Q : Value → Shared → Prop} (Xb : XB B newId initId bm) (T : OxC X.K newId bm C) (I : Inv X pins σ H s) (e : H a = some (exo a C none)) (hl : us.length ≤ sizeLine) (h : ∀ s', Inv X pins σ H s' → Q .none s') :
    wpAny (model X.prog X.w) A (call (.builtin initId) (.ref a :: us)) Q E s := by
  obtain ⟨nm, q, N, bs, sn, sub, ab, col, dd, k0, k1, k2, k3, k5, hC⟩ := T.cls
  obtain ⟨t1, ho⟩ := exo_at I.hok e
  obtain ⟨hp, g, d, t, os⟩ := s
  refine wpAny_call (PySem.HandSPX.init_base Xb.F (fun _ => rfl) (I.kIn _ _ hC) ho hl fun h' t2 k hx => ?_)
  have J := I.write (t' := t) (x := a) (e := a) (o := exo a C none) (by rw [e]; exact True.intro) (.inl rfl) k ⟨_, hx⟩ (exo_ok hx)
  have eu : upd H a (exo a C none) = H := by
    funext b
    by_cases hb : b = a
    · rw [hb, upd_same, e]
    · rw [upd_ne hb]
  rw [eu] at J
  exact h _ J
end
section
variable {X : Cx} {o e : Expr} {es : List Expr} {to te : TE} {ta : TA} {f : Str} {p p' p1 p2 pos : Pos} {B newId initId : String} {bm : List Value}
/-- B.__init__(self, text) -/
theorem pe_initG {pl : Sem Bool} {C : Addr} (Xb : XB B newId initId bm) (T : OxC X.K newId bm C) (hg : Gl X (Str.ofString B)) (hm : X.mg (Str.ofString B) = none) (ha : PA X (e :: es) ta)
    (hc : eval (.Call (.Attribute (.Name (Str.ofString B) p1) "__init__" p2) (e :: es) [] pos) X.env = (do
      let ov ← eval (.Name (Str.ofString B) p1) X.env
      standAt p2.atName
      let (fn, first) ← holding [ov] (getMethod ov "__init__" pl)
      callWith pos fn first (backTo pos (starEach (e :: es) X.env)) (backToKw pos (keywordEach [] X.env))) := by rfl)
    (he : starEach (e :: es) X.env = (false, eval e X.env) :: starEach es X.env := by rfl) (hpl : (backTo pos (starEach es X.env)).any (·.1) = false := by rfl) :
    PE X (.Call (.Attribute (.Name (Str.ofString B) p1) "__init__" p2) (e :: es) [] pos) (fun σ H Q => ta σ H fun vs H1 => ∃ (a : Addr) (ws : List V), vs = .ref a :: ws ∧ ws.length ≤ 1000 ∧ H1 a = some (exo a C none) ∧ Q .non H1) := by
  refine ⟨fun pins s σ H Q I h => ?_⟩
  refine PySem.W.methodCall_KW (ld_blt I hg hm Xb.boot ?_ Xb.n1 Xb.n2) hc
  obtain ⟨m, fr⟩ := I.fr
  refine PySem.W.method_type fr I.ok.mod.kin Xb.typ Xb.stub (Xb.nv _) Xb.hd ?_
  show wpAny _ _ (callWith pos (Value.builtin initId) [] (backTo pos (starEach (e :: es) X.env)) []) _ _ _
  refine callWith_method1 (thn (ha.run pos pins _ σ H _ (I.tok _) h) fun us s1 hh => ?_) he hpl
  obtain ⟨vs, H1, I1, r1, a, ws, ev, hl, ea, q⟩ := hh
  subst ev
  cases r1 with
  | @cons _ u0 _ ur ra rw' =>
    obtain rfl : u0 = Value.ref a := ra
    have hlen : ur.length ≤ sizeLine := by
      rw [← Paired.length rw', sizeLine_eq]
      omega
    exact oinitG Xb T I1 ea hlen fun s' J => ⟨.non, H1, J, rfl, q⟩
end
end Sb

/-! Own exceptions: their __init__, C(..), try with several handlers, with or without a name. -/
namespace Sb
open PySem PySem.Spec PyProof.Rows L2
/-- what C.__init__ does: B.__init__, then the field f -/
def spI (f : Str) (C : Addr) (okv : V → Prop) : Sp := fun vs H Q _ => ∃ (a : Addr) (y : V), vs = [.ref a, y] ∧ okv y ∧ H a = some (exo a C none) ∧ ∀ dx, H dx = none → dx ≠ a → Q .non (upd (upd H dx (exd dx [(f, y)])) a (exo a C (some dx)))
section
variable {X : Cx} {o e : Expr} {es : List Expr} {to te : TE} {ta : TA} {f : Str} {p p' p1 p2 pos : Pos} {B newId initId : String} {bm : List Value} {C : Addr}
def tSf (f : Str) (C : Addr) (to te : TE) : TS := fun D σ H => te σ H fun y H1 => to σ H1 fun x H2 => ∃ a : Addr, x = .ref a ∧ H2 a = some (exo a C none) ∧ ∀ dx, H2 dx = none → dx ≠ a → D.nx σ (upd (upd H2 dx (exd dx [(f, y)])) a (exo a C (some dx)))
theorem ps_ostG (Xb : XB B newId initId bm) (T : OxC X.K newId bm C) (hno : PySem.W.findIn X.K (.ref C) f = some none) (ho : PE X o to) (he : PE X e te) (hs : swapsWith e (some (.Attribute o f p')) pos.line X.env = pure false) : PS X (.Assign [.Attribute o f p'] e pos) (tSf f C to te) := by
  refine ⟨fun pins s σ H D I h => plainObj_wpAny_Assign_Attribute (thn (he.run pins s σ H _ I h) fun v s1 q => ?_) hs⟩
  obtain ⟨y, Ha, Ia, ra, q⟩ := q
  refine thn (ho.run pins s1 σ Ha _ Ia q) fun u s2 q => ?_
  obtain ⟨x, Hb, Ib, rb, a, ex, ea, q⟩ := q
  subst ex
  obtain rfl : u = Value.ref a := rb
  exact ostG Xb T Ib ea hno ra fun dx s3 n ne J => ⟨σ, _, J, q dx n ne⟩
end
section
variable {P : Program} {w : World} {K : PySem.W.Frag} {mg : Str → Option Value} {base : Heap} {B newId initId : String} {bm : List Value} {C : Addr}
theorem init_okG {x qual sf vf f : Str} {st : Stmt} {fI : Addr} {fd : FuncData} {N : List Str} {e2 : Expr} {p1 p2 p3 p4 p5 p6 p7 p8 p9 : Pos} {te2 : TE} {okv : V → Prop} (Xb : XB B newId initId bm) (T : OxC K newId bm C) (hno : PySem.W.findIn K (.ref C) f = some none) (hmB : mg (Str.ofString B) = none)
    (F : Fun K x qual st fI fd) (Sc : FnScope N [sf, vf] (defScope st)) (hb : defBody st = [.Expr (.Call (.Attribute (.Name (Str.ofString B) p1) "__init__" p2) [.Name sf p3, e2] [] p4) p5, .Assign [.Attribute (.Name sf p6) f p7] (.Name vf p8) p9])
    (h0 : N[0]? = some sf) (h1 : N[1]? = some vf) (v0 : Vis (defScope st) sf) (v1 : Vis (defScope st) vf) (hgB : (defScope st).names.lookup (Str.ofString B) = some .globalImplicit)
    (d0 : (sf == ("__debug__" : Str)) = false) (d1 : (vf == ("__debug__" : Str)) = false) (c0 : (sf == ("__classdict__" : Str)) = false) (c1 : (vf == ("__classdict__" : Str)) = false)
    (s1 : ∀ env : Env, swapsWith (.Call (.Attribute (.Name (Str.ofString B) p1) "__init__" p2) [.Name sf p3, e2] [] p4) none p5.line env = pure false) (s2 : ∀ env : Env, swapsWith (.Name vf p8) (some (.Attribute (.Name sf p6) f p7)) p9.line env = pure false)
    (he2 : ∀ Y : Cx, Y.N = N → Y.env.scope = defScope st → PE Y e2 te2) (ht2 : ∀ σ H Q y, σ[1]? = some (some y) → okv y → (∀ z, Q z H) → te2 σ H Q)
    (hc2 : ∀ env : Env, ∃ pl : Sem Bool, eval (.Call (.Attribute (.Name (Str.ofString B) p1) "__init__" p2) [.Name sf p3, e2] [] p4) env = (do
      let ov ← eval (.Name (Str.ofString B) p1) env
      standAt p2.atName
      let (fn, first) ← holding [ov] (getMethod ov "__init__" pl)
      callWith p4 fn first (backTo p4 (starEach [.Name sf p3, e2] env)) (backToKw p4 (keywordEach [] env))))
    (hq1 : ∀ env : Env, starEach [.Name sf p3, e2] env = (false, eval (.Name sf p3) env) :: starEach [e2] env) (hq2 : ∀ env : Env, starEach [e2] env = (false, eval e2 env) :: starEach [] env) (hq3 : ∀ env : Env, (backTo p4 (starEach [e2] env)).any (·.1) = false) :
    FnOk P w K mg base (L2.CX P w) 1 fI fd [sf, vf] (spI f C okv) := by
  refine Fun.okX F Sc (fun vs H Q _ h => ?_) fun cdv A outer s H vs Q E hr h => ?_
  · obtain ⟨a, y, rfl, _⟩ := h; rfl
  obtain ⟨a, y, rfl, oy, ea, hq⟩ := h
  generalize hX : cxOf (L2.CX P w) P w K mg base N qual (defScope st) fI cdv A outer s H E = X
  have eN : X.N = N := by rw [← hX]; rfl
  have eK : X.K = K := by rw [← hX]; rfl
  have em : X.mg = mg := by rw [← hX]; rfl
  have esc : X.env.scope = defScope st := by rw [← hX]; rfl
  have n0 : ∀ pos, PE X (.Name sf pos) (tVar 0) := fun pos => pe_var (by rw [eN]; exact h0) (by rw [esc]; exact v0) d0 c0
  have n1 : ∀ pos, PE X (.Name vf pos) (tVar 1) := fun pos => pe_var (by rw [eN]; exact h1) (by rw [esc]; exact v1) d1 c1
  have gB : Gl X (Str.ofString B) := by show X.env.scope.names.lookup _ = _; rw [esc]; exact hgB
  have T' : OxC X.K newId bm C := by rw [eK]; exact T
  rw [hb]
  obtain ⟨pl, hc⟩ := hc2 X.env
  have A1 := ps_expr (pos := p5) (pe_initG Xb T' gB (by rw [em]; exact hmB) (pa_cons (n0 p3) (pa_cons (he2 X eN esc) pa_nil (hq2 _)) (hq1 _)) hc (hq1 _) (hq3 _)) (s1 _)
  have A2 := ps_ostG (p' := p7) (pos := p9) Xb T' (by rw [eK]; exact hno) (n0 p6) (n1 p8) (s2 _)
  refine ⟨_, pss_cons A1 (pss_cons A2 pss_nil), ?_⟩
  have g0 : (L2.start N [.ref a, y])[0]? = some (some (.ref a)) := by simp [L2.start]
  have g1 : (L2.start N [.ref a, y])[1]? = some (some y) := by simp [L2.start]
  refine ⟨_, g0, ht2 _ _ _ _ g1 oy fun z => ?_⟩
  refine ⟨a, [z], rfl, by simp, ea, ?_⟩
  exact ⟨_, g1, _, g0, a, rfl, ea, hq⟩
end
/-! ### C(e) -/
section
variable {X : Cx} {e : Expr} {es : List Expr} {ta : TA} {f : Str} {p pos : Pos} {B newId initId : String} {bm : List Value} {C fI : Addr} {fd : FuncData} {ps : List Str} {k : Nat} {x : Str}
/-- C(y): the exception with the dict d -/
def tMkG (C : Addr) (f : Str) (okv : V → Prop) (ta : TA) : L2.St → Hp → XK → Prop := fun σ H Q => ta σ H fun vs H1 => ∃ y, vs = [y] ∧ okv y ∧ ∀ d, H1 d = none → Q (.ref C) (some d) (upd H1 d (.xd [(f, y)]))
theorem pmk_oxG {okv : V → Prop} (Xb : XB B newId initId bm) (T : OxC X.K newId bm C) (iC : PySem.W.findIn X.K (.ref C) "__init__" = some (some (.ref fI))) (tI : PySem.W.typeIn X.K (.ref fI) = some (.type "function"))
    (F1 : FnOk X.prog X.w X.K X.mg X.base (L2.CX X.prog X.w) k fI fd ps (spI f C okv)) (hps : ps.length = 2) (hr : Room (k + 1) X.A) (hb : L2.Binds X.K fd ps []) (hg : Gl X x) (hm : X.mg x = some (.ref C)) (ha : PA X (e :: es) ta)
    (hdb : (x == ("__debug__" : Str)) = false := by decide) (he : starEach (e :: es) X.env = (false, eval e X.env) :: starEach es X.env := by rfl) (hpl : (backTo pos (starEach es X.env)).any (·.1) = false := by rfl) :
    PMk X (.Call (.Name x p) (e :: es) [] pos) (tMkG C f okv ta) := by
  intro pins s σ H Q I h
  obtain ⟨nm, q, N, bs, sn, sub, ab, col, dd, k0, k1, k2, k3, k5, hC⟩ := T.cls
  refine wpAny_Call_Name_kw (ld_glob I hg hm ?_ hdb)
  refine PySem.W.callWith_K (h₀ := X.base) I.ok.mod.kin T.kC (thn (ha.run pos pins s σ H _ I h) fun us s1 hh => ?_) he hpl
  obtain ⟨vs, Ha, Ia, ra, y, ev, oy, hq⟩ := hh
  refine ⟨Ia.kIn, ?_⟩
  show wpAny _ _ (call (.ref C) us) _ _ _
  subst ev
  obtain ⟨hp, g, dr, tk, os⟩ := s1
  have big : hp.objs.size ≤ hp.objs.size + 1 := Nat.le_succ _
  have fresh : Ha (hp.objs.size + 1) = none := Ia.hok.fresh big
  generalize hz : hp.objs.size + 1 = z at *
  have grow : ∀ b o, hp.get? b = some o → ((hp.push (PySem.W.kdv_tup us)).push (PySem.HandSPX.excO C hp.objs.size)).get? b = some o := fun b o q => Heap.get?_push_of_some _ (Heap.get?_push_of_some _ q)
  have there : ((hp.push (PySem.W.kdv_tup us)).push (PySem.HandSPX.excO C hp.objs.size)).get? z = some (PySem.HandSPX.excO C hp.objs.size) := by rw [← hz]; heap_get
  have Ib : Inv X pins σ (upd Ha z (exo z C none)) ⟨(hp.push (PySem.W.kdv_tup us)).push (PySem.HandSPX.excO C hp.objs.size), g, dr, tk, os⟩ := Ia.laid (t' := tk) grow big (exo_ok there)
  have rb : Vals [V.ref z, y] (Value.ref z :: us) := .cons rfl ra
  have few : us.length ≤ sizeLine := by
    rw [← Paired.length ra, sizeLine_eq]
    simp
  have ln : (Value.ref z :: us ++ []).length = ps.length := by
    have q1 := ra.length
    rw [hps]
    simp only [List.length_cons, List.length_nil] at q1
    simp only [List.length_append, List.length_cons, List.length_nil]
    omega
  have bnd := hb ⟨(hp.push (PySem.W.kdv_tup us)).push (PySem.HandSPX.excO C hp.objs.size), g, dr, tk, os⟩ (Value.ref z :: us) Ib.kIn ln
  rw [List.append_nil] at bnd
  have run := F1.run _ X.stack _ _ ⟨Value.ref z :: us, []⟩ (Value.ref z :: us) [V.ref z, y] (fun v Hb => v = .non ∧ ∃ d : Addr, Ha d = none ∧ d ≠ z ∧ Hb = upd (upd (upd Ha z (exo z C none)) d (exd d [(f, y)])) z (exo z C (some d))) (fun _ _ _ => False) (hr.make C us []) (Ib.env0.make C us []) bnd rb
    ⟨z, y, rfl, oy, upd_same, fun d hd dz => ⟨rfl, d, by rw [upd_ne dz] at hd; exact hd, dz, rfl⟩⟩
  have hz' : z = hp.objs.size + 1 := hz.symm
  subst hz'
  refine wpAny_call (PySem.HandSPX.call_own Xb.F (fun _ => rfl) (Ia.kIn _ _ hC) (PySem.W.looks_findIn Ia.kIn iC) (fun self => PySem.W.bind_fn Ia.kIn self tI) few (codeAny_mono run fun r s2 hq2 => ?_))
  cases r with
  | error er => exact let ⟨_, _, _, _, _, _, _, _, _, _, _, _, no⟩ := hq2; no.elim
  | ok fl =>
    cases fl with
    | ret u =>
      obtain ⟨v, Hb, os2, bare2, un2, hok2, rv, ev, d, hd, dz, eH⟩ := hq2
      subst ev
      obtain ⟨h2, g2, d2, t2, os'⟩ := s2
      refine ⟨rv, mk_end (Q := Q) (fs := [(f, y)]) (raises_own T.exC T.tyC) Ia big grow un2 hok2 os2 bare2 (by rw [eH, upd_same]) (by rw [eH, upd_ne dz, upd_same]) hd ?_⟩
      have same : upd (del Hb (hp.objs.size + 1)) d (.xd [(f, y)]) = upd Ha d (.xd [(f, y)]) := by
        funext b
        by_cases b1 : b = d
        · rw [b1, upd_same, upd_same]
        · rw [upd_ne b1, upd_ne b1]
          by_cases b2 : b = hp.objs.size + 1
          · rw [b2, del_same, fresh]
          · rw [del_ne b2, eH, upd_ne b2, upd_ne b1, upd_ne b2]
      rw [same]
      exact hq d hd
    | next => exact (show False from hq2).elim
    | brk => exact (show False from hq2).elim
    | cont => exact (show False from hq2).elim
end
/-! ### try with several handlers, each with a name or without -/
/-- a handler: the class, the slot of its name, its suite -/
structure Hnd where
  c : Value
  i : Option Nat
  t : Addr → Value → Option Addr → TS
/-- the ends of a suite whose name goes -/
def goneE (D : Ends) : Option Nat → Ends
  | none => D
  | some i => { nx := fun σ H => D.nx (σ.set i none) H, rt := D.rt, bk := fun σ H => D.bk (σ.set i none) H, ct := fun σ H => D.ct (σ.set i none) H }
def putE (σ : L2.St) (a : Addr) : Option Nat → L2.St
  | none => σ
  | some i => σ.set i (some (.ref a))
def wG (K : PySem.W.Frag) (W : WX) (D : Ends) : List Hnd → WX
  | [] => W
  | h :: r => fun cls d σ H => ∃ b, PySem.W.exmOne K cls h.c = some b ∧ (b = true → ∀ a, H a = none → h.t a cls d (goneE D h.i) (putE σ a h.i) H) ∧ (b = false → wG K W D r cls d σ H)
inductive HdsG (X : Cx) : List ExceptHandler → List Hnd → Prop
  | nil : HdsG X [] []
  | bare {x : Str} {c : Value} {t : Addr → Value → Option Addr → TS} {b₀ : Stmt} {bs : List Stmt} {np hp : Pos} {hds : List ExceptHandler} {l : List Hnd} (nm : Names X x c)
      (su : ∀ (a : Addr) (oe : Obj) (cls : Value) (d : Option Addr) (pn : List (Addr × Obj)), Zc cls d oe → (∃ vs, oe.data = .fields vs) → PSs (X.suite a ((a, oe) :: pn)) (b₀ :: bs) (t a cls d)) (r : HdsG X hds l) :
      HdsG X (.ExceptHandler (some (.Name x np)) none (b₀ :: bs) hp :: hds) (⟨c, none, t⟩ :: l)
  | named {x n : Str} {i : Nat} {c : Value} {t : Addr → Value → Option Addr → TS} {b₀ : Stmt} {bs : List Stmt} {np hp : Pos} {hds : List ExceptHandler} {l : List Hnd} (nm : Names X x c) (hi : X.N[i]? = some n) (hln : X.env.kindOf n = some .local)
      (su : ∀ (a : Addr) (oe : Obj) (cls : Value) (d : Option Addr) (pn : List (Addr × Obj)), Zc cls d oe → (∃ vs, oe.data = .fields vs) → PSs (X.suite a ((a, oe) :: pn)) (b₀ :: bs) (t a cls d)) (r : HdsG X hds l) :
      HdsG X (.ExceptHandler (some (.Name x np)) (some n) (b₀ :: bs) hp :: hds) (⟨c, some i, t⟩ :: l)
section
variable {X : Cx} {body : List Stmt} {h₀ : ExceptHandler} {hds : List ExceptHandler} {l : List Hnd} {pos : Pos} {tb : WX → TS} {W : WX}
theorem ps_tryG (hs : X.stack = X.env :: X.outer) (hf : X.env.frame = some X.env.locals) (hN : X.N.Nodup) (tk : Takes X W)
    (hb : ∀ (V : WX) (pn : List (Addr × Obj)) (xe : Value → Shared → Prop), Takes (X.tr pn xe) V → PassesOwn (model X.prog X.w) X.A X.env xe → PSs (X.tr pn xe) body (tb V)) (hh : HdsG X (h₀ :: hds) l) :
    PS X (.Try body (h₀ :: hds) [] [] pos) (fun D σ H => tb (wG X.K W D l) D σ H) := by
  refine ⟨fun pins s σ H D I h => ?_⟩
  have okX := I.ok
  have frm : X.A.frames = some (X.env :: X.outer) := by rw [okX.frames, hs]
  refine wpAny_Try_except ?_
  refine wpAny_mono ((hb (wG X.K W D l) (X.pn ++ pins) (fun er s1 => wpAny (model X.prog X.w) X.A (noteFrame er X.env) (fun _ s2 => wpAny (model X.prog X.w) X.A (setFlight er none) (fun _ s3 =>
    wpAny (model X.prog X.w) X.A (handleBy er X.env (h₀ :: hds)) (SP X pins D) X.xe s3) X.xe s2) X.xe s1) (fun u s1 xx => ?_) PassesOwn.looking).run [] s σ H D (I.toTry _) h) (fun fl s1 sp => ?_) (fun _ _ q => q)
  · obtain ⟨a, G, sI, pinsI, σx, Hx, cls, d, rfl, Jt, nb, up, sky, na, osq, bareq, want⟩ := xx
    have Jx : Inv X pins σx Hx sI := Jt.ofTry okX
    rw [show (X.tr (X.pn ++ pins) _).stack = X.env :: X.outer from hs] at sky
    show wpAny (model X.prog X.w) X.A (noteFrame (.ref a) X.env) _ _ _
    refine Sky.land Zc.steady frm hf sky fun hn fln upn => ?_
    have Jn : Inv X pins σx Hx { s1 with heap := hn } := Jx.landed nb fln.1 (up.trans upn) osq bareq
    obtain ⟨oen, vsn, hen, hzn, hdn⟩ := fln.there
    have apart : a ∉ frs (X.env :: X.outer) := fun hm => by
      obtain ⟨_, ob, eo, nope⟩ := fln.2.2.1.mem hm
      rw [hen] at eo; cases eo
      exact nope _ hdn
    have offL : a ≠ X.env.locals := fun q => apart (List.mem_filterMap.mpr ⟨X.env, List.mem_cons_self, by rw [hf, q]⟩)
    have offF : a ∉ X.fs := fun hm => by
      obtain ⟨en, hen', q⟩ := List.mem_filterMap.mp hm
      exact apart (List.mem_filterMap.mpr ⟨en, List.mem_cons_of_mem _ hen', q⟩)
    have Sn := Jn.suite hen hdn na offL offF
    have typ : PySem.W.Looks (model X.prog X.w) hn (typeOf (.ref a)) cls := fun A2 Q2 E2 s2 k2 q2 => wpAny_typeOf_ref (k2 _ _ hen) (by rw [hzn.1]; exact q2)
    have name : ∀ {x : Str} {c : Value} {np : Pos} {Q2 E2 : Value → Shared → Prop}, Names X x c → Q2 c { s1 with heap := hn } → wpAny (model X.prog X.w) (X.A.mark (some (.ref a))) (eval (.Name x np) X.env) Q2 E2 { s1 with heap := hn } := fun {x c np Q2 E2} nm q2 => by
      obtain ⟨g2, db2, m2 | ⟨m2, bv2, nn2⟩⟩ := nm
      · exact ld_glob (X := X.suite a ((a, oen) :: (X.pn ++ pins))) Sn g2 m2 q2 db2
      · exact ld_blt (X := X.suite a ((a, oen) :: (X.pn ++ pins))) Sn g2 m2 bv2 q2 nn2 db2
    have each : ∀ {hs2 : List ExceptHandler} {l2 : List Hnd}, HdsG X hs2 l2 → wG X.K W D l2 cls d σx Hx → wpAny (model X.prog X.w) X.A (handleBy (.ref a) X.env hs2) (SP X pins D) X.xe { s1 with heap := hn } := by
      intro hs2 l2 hk
      induction hk with
      | nil =>
        intro want
        refine wpAny_handleBy_nil ?_
        obtain ⟨_, _, _, ob, vs, tb2, _, _, heb, _, hdb, hb1, _⟩ := id fln
        unfold PySem.passOn
        refine wpAny_bind (wpAny_field heb hdb hb1 ?_)
        rw [if_neg (show ¬ ((Value.ref tb2 == Value.none) = true) from by simp)]
        have last : wpAny (model X.prog X.w) X.A (setFlight (.ref a) X.env.frame) (fun _ s4 => wpAny (model X.prog X.w) X.A (throw (.ref a) : Sem Flow) (SP X pins D) X.xe s4) X.xe { s1 with heap := hn } := by
          rw [hf]
          exact HandSPX.setFlight_upZ fln fun h4 held up4 => wpAny_throw (tk _ _ ⟨a, G, sI, pins, σx, Hx, cls, d, rfl, Jx, nb, (up.trans upn).trans up4, .inr (.inr (by rw [hs]; exact held)), na, osq, bareq, want⟩)
        first
          | exact wpAny_bind (wpAny_pure (wpAny_bind last))
          | exact wpAny_bind last
      | @bare x c t b₀ bs np hp hds2 l2 nm su r ih =>
        intro want
        obtain ⟨b, eb, yes, no⟩ := want
        refine wpAny_handleBy_cons (codeAny_handlers_test (name nm ((PySem.W.exm_one (M := model X.prog X.w) Jn.kIn typ eb).here ?_))) (by intro q; cases q)
        cases b with
        | false => exact ih (no rfl)
        | true =>
          refine codeAny_handlers_suite (HandSPX.lands_againZ fln fun hm flm upm => ?_)
          obtain ⟨oem, vsm, hem, hzm, hdm⟩ := flm.there
          have Sm := (Jx.landed (s' := { s1 with heap := hm }) nb flm.1 ((up.trans upn).trans upm) osq bareq).suite hem hdm na offL offF
          refine wpAny_mono ((su a oem cls d (X.pn ++ pins) hzm ⟨_, hdm⟩).run [] _ _ Hx _ Sm (yes rfl a na)) (fun fl s6 sp => ?_) (fun _ _ q => q.elim)
          cases fl with
          | next => exact let ⟨_, _, S6, q6⟩ := sp; ⟨_, _, S6.unsuite okX, q6⟩
          | brk => exact let ⟨_, _, S6, q6⟩ := sp; ⟨_, _, S6.unsuite okX, q6⟩
          | cont => exact let ⟨_, _, S6, q6⟩ := sp; ⟨_, _, S6.unsuite okX, q6⟩
          | ret u => exact let ⟨_, _, _, S6, r6, q6⟩ := sp; ⟨_, _, _, S6.unsuite okX, r6, q6⟩
      | @named x n i c t b₀ bs np hp hds2 l2 nm hi hln su r ih =>
        intro want
        obtain ⟨b, eb, yes, no⟩ := want
        refine wpAny_handleBy_cons (codeAny_handlers_test (name nm ((PySem.W.exm_one (M := model X.prog X.w) Jn.kIn typ eb).here ?_))) (by intro q; cases q)
        cases b with
        | false => exact ih (no rfl)
        | true =>
          refine codeAny_handlers_suite_as (HandSPX.lands_againZ fln fun hm flm upm => ?_)
          obtain ⟨oem, vsm, hem, hzm, hdm⟩ := flm.there
          have Sm := (Jx.landed (s' := { s1 with heap := hm }) nb flm.1 ((up.trans upn).trans upm) osq bareq).suite hem hdm na offL offF
          refine store_ok (X := X.suite a ((a, oem) :: (X.pn ++ pins))) (v := .ref a) Sm hN hi (.inl hln) rfl (fun s5 S5 => ?_) (.inr hln)
          refine wpAny_mono ((su a oem cls d (X.pn ++ pins) hzm ⟨_, hdm⟩).run [] s5 _ Hx _ S5 (yes rfl a na)) (fun fl s6 sp => ?_) (fun _ _ q => q.elim)
          have unname : ∀ {σ6 : L2.St} {H6 : Hp} {Q6 : Shared → Prop}, Inv (X.suite a ((a, oem) :: (X.pn ++ pins))) [] σ6 H6 s6 → (∀ s7, Inv X pins (σ6.set i none) H6 s7 → Q6 s7) →
              wpAny (model X.prog X.w) X.A (do bindName X.env n .none; unbindBehindTheSuite X.env n hp) (fun _ s7 => Q6 s7) X.xe s6 := fun {σ6 H6 Q6} S6 q6 => gone_ok (S6.unsuite okX) hN hi hln q6
          cases fl with
          | next => exact let ⟨_, _, S6, q6⟩ := sp; unname S6 fun _ J7 => ⟨_, _, J7, q6⟩
          | brk => exact let ⟨_, _, S6, q6⟩ := sp; unname S6 fun _ J7 => ⟨_, _, J7, q6⟩
          | cont => exact let ⟨_, _, S6, q6⟩ := sp; unname S6 fun _ J7 => ⟨_, _, J7, q6⟩
          | ret u => exact let ⟨_, _, _, S6, r6, q6⟩ := sp; unname S6 fun _ J7 => ⟨_, _, _, J7, r6, q6⟩
    exact each hh want
  · cases fl with
    | next => exact let ⟨_, _, J1, q⟩ := sp; wpAny_execs_nil ⟨_, _, J1.ofTry okX, q⟩
    | brk => exact let ⟨_, _, J1, q⟩ := sp; ⟨_, _, J1.ofTry okX, q⟩
    | cont => exact let ⟨_, _, J1, q⟩ := sp; ⟨_, _, J1.ofTry okX, q⟩
    | ret u => exact let ⟨_, _, _, J1, r1, q⟩ := sp; ⟨_, _, _, J1.ofTry okX, r1, q⟩
end
end Sb

/-! repr of values in which empty dicts stand: only their own addresses must not be that of sys.modules. -/
namespace Sb
open PySem PySem.Spec PyProof.Rows L2
mutual
/-- as Reads, told by the dicts' own addresses -/
inductive RX (h : Heap) : Value → PyData → List Addr → Prop
  | non : RX h .none .none []
  | bl (b : Bool) : RX h (.bool b) (.bool b) []
  | int (i : Int) (t : Tok) : RX h (.int i t) (.int i) []
  | str (x : Str) (t : Tok) : RX h (.str x t) (.str x) []
  | lst {a : Addr} {o : Obj} {its : Array Value} {n : Nat} {ds : List PyData} {l : List Addr} : h.get? a = some o → o.cls = .type "list" → o.data = .seq its n → RXs h its.toList ds l → RX h (.ref a) (.list ds) (a :: l)
  | tup {a : Addr} {o : Obj} {its : Array Value} {n : Nat} {ds : List PyData} {l : List Addr} : h.get? a = some o → o.cls = .type "tuple" → o.data = .seq its n → RXs h its.toList ds l → RX h (.ref a) (.tuple ds) l
  | dct {a : Addr} {o : Obj} {es : Array DictEntry} {n : Nat} {kvs : List (PyData × PyData)} {l m : List Addr} : h.get? a = some o → o.cls = .type "dict" → o.data = .dict es n → (a == sysModules) = false → RXs h (es.toList.map fun e => e.key) (kvs.map fun p => p.1) l → RXs h (es.toList.map fun e => e.val) (kvs.map fun p => p.2) m → RX h (.ref a) (.dict kvs) (a :: l ++ m)
inductive RXs (h : Heap) : List Value → List PyData → List Addr → Prop
  | nil : RXs h [] [] []
  | cons {v : Value} {vs : List Value} {d : PyData} {ds : List PyData} {l m : List Addr} : RX h v d l → RXs h vs ds m → RXs h (v :: vs) (d :: ds) (l ++ m)
end
section
variable {h : Heap} {P : Program} {w : World}
mutual
theorem RX.to : ∀ {v : Value} {d : PyData} {l : List Addr}, RX h v d l → Reads h v d l
  | _, _, _, .non => .none
  | _, _, _, .bl b => .bool b
  | _, _, _, .int i t => .int i t
  | _, _, _, .str x t => .str x t
  | _, _, _, .lst e c s r => .list e c s r.to
  | _, _, _, .tup e c s r => .tuple e c s r.to
  | _, _, _, .dct e c s _ p q => .dict e c s p.to q.to
theorem RXs.to : ∀ {vs : List Value} {ds : List PyData} {l : List Addr}, RXs h vs ds l → ReadsAll h vs ds l
  | _, _, _, .nil => .nil
  | _, _, _, .cons r rs => .cons r.to rs.to
end
theorem dictText_nil : dictText [] = ("{}" : Str) := by decide +kernel
mutual
theorem RX.shows : ∀ {v : Value} {d : PyData} {l : List Addr}, RX h v d l → d.showable = true → d.shown.length ≤ sizeLine → ∃ cs, ReadAtMost h d.depth cs ∧ ReprK P w cs h d.depth v d.shown
  | _, _, _, .non, _, _ => ⟨[], nofun, by simp only [PyData.shown]; exact .of_is ReprIs.none _ _ _⟩
  | _, _, _, .bl b, _, _ => ⟨[], nofun, by simp only [PyData.shown]; exact .of_is (ReprIs.bool b) _ _ _⟩
  | _, _, _, .int i t, q, _ => ⟨[], nofun, by simp only [PyData.shown]; exact .of_is (ReprIs.int t (by simpa [PyData.showable] using q)) _ _ _⟩
  | _, _, _, .str x t, _, z => ⟨[], nofun, by simp only [PyData.shown]; exact .of_is (ReprIs.str x t (by simpa only [PyData.shown] using z)) _ _ _⟩
  | _, _, _, .lst (a := a) (its := its) (ds := ds) e c s r, q, z => by
    simp only [PyData.shown] at z
    obtain ⟨cs, at_, all⟩ := RXs.shows r (by simpa [PyData.showable] using q) fun t ht => Nat.le_trans (listText_mem_le ht) z
    have whole : Reads h (.ref a) (.list ds) _ := (RX.lst e c s r).to
    have out : a ∉ cs := not_mem_of_deeper whole (by simp only [PyData.depth]; omega) at_
    refine ⟨a :: cs, ReadAtMost.cons whole (by simp only [PyData.depth]; omega) at_, ?_⟩
    simp only [PyData.depth, PyData.shown]
    obtain ⟨its⟩ := its
    cases its with
    | nil =>
      cases (show RXs h [] ds _ from r)
      simp only [PyData.shownAll, listText_nil]
      exact ReprK.listEmpty e c s
    | cons y ys => exact ReprK.list e c s out (by simpa using all.length_eq) fun i u eu => all.item i u (by simpa using eu)
  | _, _, _, .tup (a := a) (ds := ds) e c s r, q, z => by
    simp only [PyData.shown] at z
    obtain ⟨cs, at_, all⟩ := RXs.shows r (by simpa [PyData.showable] using q) fun t ht => Nat.le_trans (tupleText_mem_le ht) z
    have whole : Reads h (.ref a) (.tuple ds) _ := (RX.tup e c s r).to
    have out : a ∉ cs := not_mem_of_deeper whole (by simp only [PyData.depth]; omega) at_
    refine ⟨a :: cs, ReadAtMost.cons whole (by simp only [PyData.depth]; omega) at_, ?_⟩
    simp only [PyData.depth, PyData.shown]
    exact ReprK.tuple e c s out all
  | _, _, _, .dct (a := a) (es := es) (kvs := kvs) e c s ns p1 p2, q, z => by
    have z' : (dictText (PyData.shownKv kvs)).length ≤ sizeLine := by simpa only [PyData.shown] using z
    obtain ⟨y1, y2⟩ := PyData.showableKv_split kvs (by simpa [PyData.showable] using q)
    obtain ⟨c1, a1, k1⟩ := RXs.shows p1 y1 fun t ht => by
      obtain ⟨x, hx, hl⟩ := PyData.shownKv_key_le kvs t ht
      exact Nat.le_trans (Nat.le_trans hl (dictText_mem_le hx)) z'
    obtain ⟨c2, a2, k2⟩ := RXs.shows p2 y2 fun t ht => by
      obtain ⟨x, hx, hl⟩ := PyData.shownKv_val_le kvs t ht
      exact Nat.le_trans (Nat.le_trans hl (dictText_mem_le hx)) z'
    have d1 := PyData.depthAll_keys_le kvs
    have d2 := PyData.depthAll_vals_le kvs
    have at_ : ReadAtMost h (PyData.depthKv kvs) (c1 ++ c2) := (a1.mono d1).append (a2.mono d2)
    have whole := (RX.dct e c s ns p1 p2).to
    have out : a ∉ c1 ++ c2 := not_mem_of_deeper whole (by simp only [PyData.depth]; omega) at_
    refine ⟨a :: (c1 ++ c2), ReadAtMost.cons whole (by simp only [PyData.depth]; omega) at_, ?_⟩
    simp only [PyData.depth, PyData.shown]
    rw [PyData.shownKv_eq]
    exact ReprK.dict e c s ns out (ReprEntriesK.of_two es.toList _ _ (k1.more_le (fun y hy => List.mem_append_left _ hy) d1) (k2.more_le (fun y hy => List.mem_append_right _ hy) d2))
theorem RXs.shows : ∀ {vs : List Value} {ds : List PyData} {l : List Addr}, RXs h vs ds l → PyData.showableAll ds = true → (∀ t ∈ PyData.shownAll ds, t.length ≤ sizeLine) →
    ∃ cs, ReadAtMost h (PyData.depthAll ds) cs ∧ ReprAllK P w cs h (PyData.depthAll ds) vs (PyData.shownAll ds)
  | _, _, _, .nil, _, _ => ⟨[], nofun, by simp only [PyData.shownAll]; exact .nil⟩
  | _, _, _, .cons (d := d) (ds := ds) r rs, q, z => by
    obtain ⟨q1, q2⟩ : d.showable = true ∧ PyData.showableAll ds = true := by simpa [PyData.showableAll] using q
    simp only [PyData.shownAll, List.mem_cons, forall_eq_or_imp] at z
    obtain ⟨c1, a1, k1⟩ := RX.shows r q1 z.1
    obtain ⟨c2, a2, k2⟩ := RXs.shows rs q2 z.2
    simp only [PyData.depthAll, PyData.shownAll]
    exact ⟨c1 ++ c2, (a1.mono (Nat.le_max_left _ _)).append (a2.mono (Nat.le_max_right _ _)),
      .cons ((k1.more fun y hy => List.mem_append_left _ hy).level_le (Nat.le_max_left _ _)) (k2.more_le (fun y hy => List.mem_append_right _ hy) (Nat.le_max_right _ _))⟩
end
/-- repr(x) -/
theorem repr_rx {s : Shared} {A : Around} {E Q : Value → Shared → Prop} {a : Addr} {d : PyData} {l : List Addr} (r : RX s.heap (.ref a) d l) (q : d.showable = true) (z : d.shown.length ≤ sizeLine) (hg : A.guards = some []) (hu : A.units + (d.depth + 1) < cLine)
    (hQ : ∀ h' u tk, (∀ b o, s.heap.get? b = some o → h'.get? b = some o) → Q (.str d.shown u) { s with heap := h', toks := tk }) : wpAny (model P w) A (call (.builtin "repr") [.ref a]) Q E s := by
  have rm : A.in1.units + d.depth < cLine := by show A.units + 1 + d.depth < cLine; omega
  have whole := r.to
  cases r with
  | @lst _ o its n ds l e c sq r =>
    simp only [PyData.shown] at z hQ
    obtain ⟨cs, at_, all⟩ := RXs.shows (P := P) (w := w) r (by simpa [PyData.showable] using q) fun t ht => Nat.le_trans (listText_mem_le ht) z
    have out : a ∉ cs := not_mem_of_deeper whole (by simp only [PyData.depth]; omega) at_
    simp only [PyData.depth] at rm
    refine call_repr_slot (idr := "list.__repr__") (by omega) ⟨o, e, c⟩ F.slot_list_repr.toG ?_
    obtain ⟨its⟩ := its
    cases its with
    | nil =>
      cases (show RXs s.heap [] ds _ from r)
      simp only [PyData.shownAll, listText_nil] at hQ
      exact call_list_repr_empty ⟨o, e, c⟩ e sq ⟨_, _, rfl, hQ s.heap _ _ fun _ _ y => y⟩
    | cons y ys => exact call_list_reprK e c sq out (by simpa using all.length_eq) (fun i u eu => all.item i u (by simpa using eu)) hg (fun b _ => Clear.nil b) rm (fun _ _ y => y) (fun h' u tk k => ⟨_, _, rfl, hQ h' u tk k⟩) z
  | @tup _ o its n ds l e c sq r =>
    simp only [PyData.shown] at z hQ
    obtain ⟨cs, at_, all⟩ := RXs.shows (P := P) (w := w) r (by simpa [PyData.showable] using q) fun t ht => Nat.le_trans (tupleText_mem_le ht) z
    have out : a ∉ cs := not_mem_of_deeper whole (by simp only [PyData.depth]; omega) at_
    simp only [PyData.depth] at rm
    refine call_repr_slot (idr := "tuple.__repr__") (by omega) ⟨o, e, c⟩ F.slot_tuple_repr ?_
    exact call_tuple_reprK e c sq out all hg (fun b _ => Clear.nil b) rm (fun _ _ y => y) (fun h' u tk k => ⟨_, _, rfl, hQ h' u tk k⟩) z
  | @dct _ o es n kvs l m e c sq ns p1 p2 =>
    simp only [PyData.shown] at z hQ
    simp only [PyData.depth] at rm
    obtain ⟨y1, y2⟩ := PyData.showableKv_split kvs (by simpa [PyData.showable] using q)
    obtain ⟨c1, a1, k1⟩ := RXs.shows (P := P) (w := w) p1 y1 fun t ht => by
      obtain ⟨x, hx, hl⟩ := PyData.shownKv_key_le kvs t ht
      exact Nat.le_trans (Nat.le_trans hl (dictText_mem_le hx)) z
    obtain ⟨c2, a2, k2⟩ := RXs.shows (P := P) (w := w) p2 y2 fun t ht => by
      obtain ⟨x, hx, hl⟩ := PyData.shownKv_val_le kvs t ht
      exact Nat.le_trans (Nat.le_trans hl (dictText_mem_le hx)) z
    have d1 := PyData.depthAll_keys_le kvs
    have d2 := PyData.depthAll_vals_le kvs
    have out : a ∉ c1 ++ c2 := not_mem_of_deeper whole (by simp only [PyData.depth]; omega) ((a1.mono d1).append (a2.mono d2))
    rw [PyData.shownKv_eq] at z hQ
    refine call_repr_slot (idr := "dict.__repr__") (by omega) ⟨o, e, c⟩ F.slot_dict_repr ?_
    exact call_dict_reprK e c sq ns out (ReprEntriesK.of_two es.toList _ _ (k1.more_le (fun y hy => List.mem_append_left _ hy) d1) (k2.more_le (fun y hy => List.mem_append_right _ hy) d2)) hg (fun b _ => Clear.nil b) rm (fun _ _ y => y) (fun h' u tk k => ⟨_, _, rfl, hQ h' u tk k⟩) z
end
end Sb

/-! Dict comprehensions that fill a dict of any kind. -/
namespace Sb
open PySem PySem.Spec PyProof.Rows L2
/-- a kind of dict: the empty one, and what it asks to take a pair -/
structure Fill (X : Cx) where
  emp : Addr → HO
  put : Hp → Addr → V → V → (Hp → Prop) → Prop
  new : ∀ (H : Hp) (h : Heap), sysModules < h.objs.size → ObjOk X.prog X.w H (h.push { cls := .type "dict", data := .dict #[] }) h.objs.size (emp h.objs.size)
  set : ∀ {s0 : Shared} {H0 : Hp} {scope : Scope} {env : Env} {fp : List Addr} {pins : List (Addr × Obj)} {τ : L2.St} {H : Hp} {s : Shared} {D : Addr} {y z : V} {u r : Value} {N : Hp → Prop} {Q : Unit → Shared → Prop} {E : Value → Shared → Prop},
    Inv (X.blk s0 H0 scope env fp) pins τ H s → RelV y u → RelV z r → put H D y z N → (∀ H' s', N H' → Inv (X.blk s0 H0 scope env fp) pins τ H' s' → Q () s') → wpAny (model X.prog X.w) X.A (dictSet D u r) Q E s
section
variable {X : Cx} (F : Fill X)
/-- {k: v for target in iter if ..}: D the new dict -/
def tDcG (wi : TI) (g : TG) (tt : TT) (tk tv : TE) (vs : List Nat) : TE := fun σ H Q => wi σ H fun J H1 => ∀ D, H1 D = none → ∃ W : Nat → Nat → Hp → Prop, (∃ m, W 0 m (upd H1 D (F.emp D))) ∧ ∀ i m H2, W i m H2 →
  (J.stop i H2 ∧ Q (.ref D) H2) ∨ (J.go i H2 ∧ ∃ N : Hp → Prop, (∀ H3, N H3 → ∃ m', m' < m ∧ W (i + 1) m' H3) ∧ ∀ x H3, J.yld i H2 x H3 → g x (wipe σ vs) H3 fun τ H4 => wipe τ vs = wipe σ vs ∧ tt τ H4 fun b H5 =>
    if b = true then tk τ H5 fun y H6 => tv τ H6 fun z H7 => F.put H7 D y z N else N H5)
theorem dcG_core {pins : List (Addr × Obj)} {s : Shared} {σ : L2.St} {H : Hp} {Q : VK} {use : Option (Value → Sem Unit)} {Qf : Value → Shared → Prop} {kx vx tg iter : Expr} {ifs : List Expr} {scope : Scope} {own : List (Str × Nat)} {pos pos' : Pos} {wi : TI} {g : TG} {tt : TT} {tk tv : TE} (calm : X.calm = true) (nd : X.N.Nodup) (I : Inv X pins σ H s) (walk : PI X tg iter wi) (blk : BlkOk X.N X.env.scope scope own)
    (aim : ∀ (s : Shared) (H : Hp) (C : Addr) (cl : List (Str × Addr)) (fp : List Addr), PG (X.blk s H scope (compEnvC scope cl C X.env) fp) tg g) (test : ∀ (s : Shared) (H : Hp) (C : Addr) (cl : List (Str × Addr)) (fp : List Addr), PTs (X.blk s H scope (compEnvC scope cl C X.env) fp) ifs tt)
    (key : ∀ (s : Shared) (H : Hp) (C : Addr) (cl : List (Str × Addr)) (fp : List Addr), PE (X.blk s H scope (compEnvC scope cl C X.env) fp) kx tk)
    (val : ∀ (s : Shared) (H : Hp) (C : Addr) (cl : List (Str × Addr)) (fp : List Addr), PE (X.blk s H scope (compEnvC scope cl C X.env) fp) vx tv) (plain : ∀ x, foldedSetIterable iter X.env x = pure x) (h : tDcG F wi g tt tk tv (own.map (·.2)) σ H Q)
    (fin : ∀ D C s' m H', Inv X pins σ H' s' → Q (.ref D) H' → s'.heap.Ns C m → FpOk X pins H' C → compPost (model X.prog X.w) X.A X.xe use Qf (.ref D) C (.ok .next) s') :
    wpAny (model X.prog X.w) X.A (comprehension (.DictComp kx vx [⟨tg, iter, ifs, 0⟩] scope pos) scope X.env pos' newDict false (eval iter X.env) use) Qf X.xe s := by
  have cells : ∀ q ∈ scope.names, q.2 = .free → ∃ c, X.env.cells.lookup q.1 = some c := fun q hq e => (blk.free q hq e).elim (fun k => I.ok.has _ (.inl k)) fun k => I.ok.has _ (.inr k)
  refine wpAny_comprehension_free (use := use) rfl plain (closure_ok cells) blk.kind (fun q hq e => by rw [blk.uniq q hq, e]) (thn (walk.run pins s σ H _ I h) fun xv sa ha => thn ha fun itv sb hb => ?_)
  obtain ⟨it, fp, tn, J, Hb, e, Ib, T, st, free, q⟩ := hb
  subst e
  refine wpAny_newObj_type (newEnv_comp ?_)
  -- the new dict stands at the heap's end
  have big := Ib.big
  have room : ∀ b ∈ fp, b < sb.heap.objs.size := fun b hb => (T.obj _ _ st b hb).elim fun _ k => Heap.lt_size k.1
  generalize eD : sb.heap.objs.size = D at *
  have none_D : Hb D = none := Ib.hok.fresh (Nat.le_of_eq eD)
  obtain ⟨W, ⟨m0, start⟩, each⟩ := q D none_D
  obtain ⟨sc, esc⟩ : ∃ sc : Shared, sc = { sb with heap := sb.heap.push { cls := .type "dict", data := .dict #[] } } := ⟨_, rfl⟩
  have hc : sc.heap = sb.heap.push { cls := .type "dict", data := .dict #[] } := by rw [esc]
  have grow : ∀ b o, sb.heap.get? b = some o → sc.heap.get? b = some o := fun b o k => by rw [hc]; exact Heap.get?_push_of_some _ k
  have Ic : Inv X pins σ (upd Hb D (F.emp D)) sc := by
    rw [esc]
    exact Ib.laid (t' := sb.toks) (fun b o k => Heap.get?_push_of_some _ k) (Nat.le_of_eq eD) (by rw [← eD]; exact F.new _ sb.heap (by rw [eD]; exact big))
  have outC : ∀ b ∈ fp, FpOk X pins (upd Hb D (F.emp D)) b ∧ b < sc.heap.objs.size := fun b hb => by
    have lt := room b hb
    refine ⟨⟨by rw [upd_ne (Nat.ne_of_lt lt)]; exact (free b hb).1, (free b hb).2⟩, ?_⟩
    rw [hc, Heap.size_push, eD]
    exact Nat.lt_succ_of_lt lt
  have stC : tn 0 sc.heap := T.keep _ _ _ st fun b _ o k => grow b o k
  generalize upd Hb D (F.emp D) = Hc at *
  have Id := block_start Ic blk nd outC
  have pa := aim sc Hc sc.heap.objs.size (cellsFrom (sc.heap.objs.size + 1) scope.names (cloFrom X.env.cells scope.names [])) fp
  have pt := test sc Hc sc.heap.objs.size (cellsFrom (sc.heap.objs.size + 1) scope.names (cloFrom X.env.cells scope.names [])) fp
  have pk := key sc Hc sc.heap.objs.size (cellsFrom (sc.heap.objs.size + 1) scope.names (cloFrom X.env.cells scope.names [])) fp
  have pv := val sc Hc sc.heap.objs.size (cellsFrom (sc.heap.objs.size + 1) scope.names (cloFrom X.env.cells scope.names [])) fp
  rw [← esc]
  show codeAny _ _ (.compStart (.DictComp kx vx [⟨tg, iter, ifs, 0⟩] scope pos) 0 (.ref it) (.ref D) (compEnvC scope (cellsFrom (sc.heap.objs.size + 1) scope.names (cloFrom X.env.cells scope.names [])) sc.heap.objs.size X.env)) (compPost (model X.prog X.w) X.A X.xe use Qf (.ref D) sc.heap.objs.size) { sc with heap := pushCells (sc.heap.push { cls := .type "dict", data := .dict #[] }) scope.names }
  have loc : (compEnvC scope (cellsFrom (sc.heap.objs.size + 1) scope.names (cloFrom X.env.cells scope.names [])) sc.heap.objs.size X.env).locals = sc.heap.objs.size := rfl
  generalize compEnvC scope (cellsFrom (sc.heap.objs.size + 1) scope.names (cloFrom X.env.cells scope.names [])) sc.heap.objs.size X.env = env at *
  obtain ⟨sd, esd⟩ : ∃ sd : Shared, sd = { sc with heap := pushCells (sc.heap.push { cls := .type "dict", data := .dict #[] }) scope.names } := ⟨_, rfl⟩
  rw [← esd] at Id ⊢
  have stD : tn 0 sd.heap := T.keep _ _ _ stC fun b _ o k => by rw [esd]; exact pushCells_keeps _ _ _ _ (Heap.get?_push_of_some _ k)
  have static : ∀ {τ : L2.St} {G : Hp} {sx : Shared}, Inv (X.blk sc Hc scope env fp) [] τ G sx → (∀ b ∈ fp, G b = none) → ∀ b ∈ fp, FpOk (X.blk sc Hc scope env fp) [] G b := fun {τ G sx} Ix no b hb =>
    ⟨no b hb, (Ix.ok.exf b hb).1, Ix.ok.exfs b hb, .inl hb, (Ix.ok.exf b hb).2, fun p hp => absurd (show p ∈ ([] : List (Addr × Obj)) ++ [] from hp) (by simp)⟩
  suffices lp : codeAny (model X.prog X.w) X.A (.compLoop (.DictComp kx vx [⟨tg, iter, ifs, 0⟩] scope pos) 0 (.ref it) (.ref D) env) (compPost (model X.prog X.w) X.A X.xe use Qf (.ref D) sc.heap.objs.size) sd from codeAny_compStart_dict lp (T.self X.A 0 _ _ _ stD lp)
  refine compLoop_anyD (fun n sx => ∃ i G, Inv (X.blk sc Hc scope env fp) [] (wipe σ (own.map (·.2))) G sx ∧ tn i sx.heap ∧ (∀ b ∈ fp, G b = none) ∧ W i n G) ?_ m0 ⟨0, Hc, Id, stD, fun b hb => (outC b hb).1.1, start⟩
  rintro n sx ⟨i, G, Ix, stx, no, w⟩
  rcases each i n G w with ⟨stop, done⟩ | ⟨go, N, next, step⟩
  · -- the end: back to the def's own frame
    refine thnF (T.done (X.blk sc Hc scope env fp) rfl rfl rfl calm i [] sx _ G (fun _ _ => False) Ix (static Ix no) stx stop) fun r sy ⟨er, Iy⟩ => ?_
    subst er
    have back : Inv X pins σ G sy := Ic.call' (ch := fp) Iy.os Iy.base Iy.hok Iy.bare fun b hb => let f := (outC b hb).1; ⟨f.2.2.2.1, f.2.1, f.2.2.2.2.1, f.2.2.2.2.2⟩
    have noC : G sc.heap.objs.size = none := by
      have z : G env.locals = none := Iy.free
      rwa [loc] at z
    obtain ⟨m, ns, _⟩ := Iy.loc
    have ns : sy.heap.Ns env.locals m := ns
    rw [loc] at ns
    exact fin D _ sy m G back done ns (Ic.fpOk (Nat.le_refl _) noC)
  · refine thnF (T.item (X.blk sc Hc scope env fp) rfl rfl rfl calm i [] sx _ G (fun _ _ => False) Ix (static Ix no) stx go) fun r sy ⟨u, er, hy⟩ => ?_
    subst er
    refine thnF hy fun _ sy hy => ?_
    obtain ⟨x, Gy, Iy, ry, yld, sty, noy⟩ := hy
    refine thnF (pa.run _ sy _ Gy x u _ (Iy.pinned (static Iy noy) (T.obj _ _ sty)) ry (step x Gy yld)) fun _ s1 h1 => ?_
    obtain ⟨τ, G1, I1, same, q1⟩ := h1
    refine thnF (pt.run _ s1 τ G1 _ I1 q1) fun b s2 h2 => ?_
    obtain ⟨G2, I2, q2⟩ := h2
    have again : ∀ {sz : Shared} {Gz : Hp}, Inv (X.blk sc Hc scope env fp) ([] ++ pinsAt fp sy.heap) τ Gz sz → N Gz → ∃ m, m < n ∧ ∃ i G, Inv (X.blk sc Hc scope env fp) [] (wipe σ (own.map (·.2))) G sz ∧ tn i sz.heap ∧ (∀ b ∈ fp, G b = none) ∧ W i m G := fun {sz Gz} Iz hz => by
      obtain ⟨m', less, wm⟩ := next Gz hz
      have held : ∀ b ∈ fp, ∀ o, sy.heap.get? b = some o → sz.heap.get? b = some o ∧ Gz b = none := fun b hb o e => let p := Iz.pin (b, o) (List.mem_append_right _ (List.mem_append_right _ (mem_pinsAt hb e))); ⟨p.1, p.2.1⟩
      refine ⟨m', less, i + 1, Gz, (Iz.unpinned (pins := [])).weak (by rw [← same, wipe_length]) (fun j v e => ?_), T.keep _ _ _ sty fun b hb o e => (held b hb o e).1, fun b hb => (T.obj _ _ sty b hb).elim fun o k => (held b hb o k.1).2, wm⟩
      rw [← same] at e
      exact (wipe_some e).1
    cases b with
    | false =>
      simp only [Bool.false_eq_true, if_false] at q2 ⊢
      exact again I2 q2
    | true =>
      simp only [if_true] at q2 ⊢
      refine thnF (pk.run _ s2 τ G2 _ I2 q2) fun ku s3 h3 => ?_
      obtain ⟨y, G3, I3, r3, q3⟩ := h3
      refine thnF (pv.run _ s3 τ G3 _ I3 q3) fun vu s4 h4 => ?_
      obtain ⟨z, G4, I4, r4, q4⟩ := h4
      exact F.set I4 r3 r4 q4 fun Gz sz hz Iz => again Iz hz
theorem pe_dcG {kx vx tg iter : Expr} {ifs : List Expr} {scope : Scope} {own : List (Str × Nat)} {pos : Pos} {wi : TI} {g : TG} {tt : TT} {tk tv : TE} (calm : X.calm = true) (nd : X.N.Nodup) (walk : PI X tg iter wi) (blk : BlkOk X.N X.env.scope scope own)
    (aim : ∀ (s : Shared) (H : Hp) (C : Addr) (cl : List (Str × Addr)) (fp : List Addr), PG (X.blk s H scope (compEnvC scope cl C X.env) fp) tg g) (test : ∀ (s : Shared) (H : Hp) (C : Addr) (cl : List (Str × Addr)) (fp : List Addr), PTs (X.blk s H scope (compEnvC scope cl C X.env) fp) ifs tt)
    (key : ∀ (s : Shared) (H : Hp) (C : Addr) (cl : List (Str × Addr)) (fp : List Addr), PE (X.blk s H scope (compEnvC scope cl C X.env) fp) kx tk)
    (val : ∀ (s : Shared) (H : Hp) (C : Addr) (cl : List (Str × Addr)) (fp : List Addr), PE (X.blk s H scope (compEnvC scope cl C X.env) fp) vx tv) (plain : ∀ x, foldedSetIterable iter X.env x = pure x := by intro _; rfl) :
    PE X (.DictComp kx vx [⟨tg, iter, ifs, 0⟩] scope pos) (tDcG F wi g tt tk tv (own.map (·.2))) := by
  refine ⟨fun pins s σ H Q I h => ?_⟩
  rw [arm_eval_DictComp]
  refine dcG_core F calm nd I walk blk aim test key val plain h fun D C s' m H' I' q ns f => ⟨m, ns, fun hz sb => ?_⟩
  obtain ⟨f0, f1, f2, f3, f4, f5⟩ := f
  exact ⟨.ref D, H', I'.turned (t' := s'.toks) (fun b o hb e => (sb.2 b hb).trans e) f0 f1 f3 f4 f5, rfl, q⟩
theorem sw_dict {kx vx : Expr} {gs : List Comprehension} {scope : Scope} {pos py : Pos} {y : Str} {l : Nat} {env : Env} (hk : env.scope.kind = .function) (hy : env.scope.names.lookup y = some .local) (hl : (py.line == pos.line) = true)
    (ha : (scope.names.any fun (n, k) => n == y && (k == .local || k == .cell)) = false) : swapsWith (.DictComp kx vx gs scope pos) (some (.Name y py)) l env = pure true := by
  have b1 : env.kindOf y = some .local := hy
  have b2 : env.blockKind = .function := by unfold Env.blockKind; rw [hk]; rfl
  unfold swapsWith
  simp only [b1, b2, ha, Expr.pos, hl]
  rfl
/-- y = {k: v for ..} on one line, y a local -/
theorem ps_setDc {i : Nat} {y : Str} {py : Pos} {kx vx tg iter : Expr} {ifs : List Expr} {scope : Scope} {own : List (Str × Nat)} {pos spos : Pos} {wi : TI} {g : TG} {tt : TT} {tk tv : TE} (calm : X.calm = true) (nd : X.N.Nodup) (hy : X.N[i]? = some y) (hyl : X.env.scope.names.lookup y = some .local)
    (hsw : swapsWith (.DictComp kx vx [⟨tg, iter, ifs, 0⟩] scope pos) (some (.Name y py)) spos.line X.env = pure true) (walk : PI X tg iter wi) (blk : BlkOk X.N X.env.scope scope own)
    (aim : ∀ (s : Shared) (H : Hp) (C : Addr) (cl : List (Str × Addr)) (fp : List Addr), PG (X.blk s H scope (compEnvC scope cl C X.env) fp) tg g) (test : ∀ (s : Shared) (H : Hp) (C : Addr) (cl : List (Str × Addr)) (fp : List Addr), PTs (X.blk s H scope (compEnvC scope cl C X.env) fp) ifs tt)
    (key : ∀ (s : Shared) (H : Hp) (C : Addr) (cl : List (Str × Addr)) (fp : List Addr), PE (X.blk s H scope (compEnvC scope cl C X.env) fp) kx tk)
    (val : ∀ (s : Shared) (H : Hp) (C : Addr) (cl : List (Str × Addr)) (fp : List Addr), PE (X.blk s H scope (compEnvC scope cl C X.env) fp) vx tv) (plain : ∀ x, foldedSetIterable iter X.env x = pure x := by intro _; rfl) :
    PS X (.Assign [.Name y py] (.DictComp kx vx [⟨tg, iter, ifs, 0⟩] scope pos) spos) (tAsg (tDcG F wi g tt tk tv (own.map (·.2))) (gName i)) := by
  refine ⟨fun pins s σ H E I h => ?_⟩
  rw [exec_Assign_Name_used _ _ _ _ hsw]
  refine wpAny_bind (wpAny_standAt (wpAny_bind ?_))
  show wpAny _ X.A (do let _ ← comprehension (.DictComp kx vx [⟨tg, iter, ifs, 0⟩] scope pos) scope X.env (firstIterPos [⟨tg, iter, ifs, 0⟩] pos) newDict false (eval iter X.env) (some (assign (.Name y py) X.env))) _ _ s
  have h : tDcG F wi g tt tk tv (own.map (·.2)) σ H (fun x H1 => gName i x σ H1 E.nx) := h
  refine wpAny_bind (thn (dcG_core F (Qf := fun _ s' => SP X pins E .next s') calm nd I walk blk aim test key val plain h fun D C s' m H' I' q ns f => ?_) fun _ s' hq => wpAny_pure (wpAny_pure hq))
  show wpAny _ _ (assign (.Name y py) X.env (.ref D)) _ _ _
  refine wpAny_assign_Name (store_ok2 (v := V.ref D) I' nd hy (.inl hyl) rfl (fun s2 I2 ⟨a, sb, ha⟩ => ?_) (.inr hyl))
  obtain ⟨f0, f1, f2, f3, f4, f5⟩ := f
  have away : C ≠ a := ha.elim (fun z => by rw [z]; exact f1) fun z e => f4 y a z e.symm
  exact ⟨m, ns.sameBut sb away, fun hz sz => ⟨_, H', I2.turned (t' := s2.toks) (fun b o hb e => (sz.2 b hb).trans e) f0 f1 f3 f4 f5, q⟩⟩
end
end Sb

/-! list.sort by a key function, whatever the function changes elsewhere. -/
namespace Sb
open PySem PySem.Spec PyProof.Rows L2 Srt SrtO PySem.W
section
variable {P : Program} {w : World} {A : Around} {s : Shared} {a : Addr} {f : Value} {vs : List Value} {n : Nat} {R : PySem.Fin → Shared → Prop} {E : Value → Shared → Prop}
/-- the sort's own list of keys stands here -/
abbrev kAt (s : Shared) : Addr := s.heap.objs.size + 1
/-- the heap when the keys are asked for -/
def hAsk (h : Heap) (a : Addr) (vs : List Value) : Heap := ((h.update a (Obj.mapSeq fun _ => #[])).push (seqObj "tuple" vs.toArray 0)).push (seqObj "list" #[] 0)
theorem zip_pairs (ks vs : List Value) : (ks.toArray.zip vs.toArray).toList = ks.zip vs := by simp
theorem keyed_sort (ho : s.heap.get? a = some (seqObj "list" vs.toArray n)) (hz : vs.length ≤ 1000000) (J : List Value → Shared → Prop) (start : J [] { s with heap := hAsk s.heap a vs })
    (turn : ∀ v ks s' e, vs[ks.length]? = some v → J ks s' → s'.heap.get? (kAt s) = some (seqObj "list" ks.toArray e) → wpAny (model P w) A (call f [v]) (fun k s2 => s2.heap.get? (kAt s) = s'.heap.get? (kAt s) ∧ s2.heap.get? a = s'.heap.get? a ∧
      ∀ h', Heap.SameBut (kAt s) s2.heap h' → (∃ c, h'.get? (kAt s) = some (seqObj "list" (ks ++ [k]).toArray c)) → J (ks ++ [k]) { s2 with heap := h' }) (fun _ _ => False) s')
    (fin : ∀ ks s', J ks s' → ks.length = vs.length → ∃ ltk : Value → Value → Bool, Swo ltk ∧
      (2 ≤ ks.length → ∃ κ, (∀ (Q : SortKind → Shared → Prop) (E : Value → Shared → Prop), Q κ s' → wpAny (model P w) A (keyKind' ks.toArray) Q E s') ∧ Cmp P w A s' κ (fun p => p.1 ∈ ks) (fun p q => ltk p.1 q.1)) ∧
      ∀ (xs : List Keyed) (h1 h2 : Heap), Srtd (fun p q => ltk p.1 q.1) xs → xs.Perm (ks.zip vs) → Heap.SameBut (kAt s) s'.heap h1 → Heap.SameBut a h1 h2 → (∃ c, h2.get? a = some (seqObj "list" (xs.map (·.2)).toArray c)) → R (.done (.ret .none)) { s' with heap := h2 }) :
    wpAny (model P w) A (ksk_tree a f false) R E s := by
  have lt_a : a < s.heap.objs.size := Heap.lt_size ho
  have big : vs.length ≤ sizeLine := Nat.le_trans hz (by rw [sizeLine_eq]; decide)
  obtain ⟨e1, at1⟩ : ∃ e1, (s.heap.update a (Obj.mapSeq fun _ => #[])).get? a = some (seqObj "list" #[] e1) := ⟨_, get?_update_seq ho fun _ => #[]⟩
  have hk : ((s.heap.update a (Obj.mapSeq fun _ => #[])).push (seqObj "tuple" vs.toArray 0)).objs.size = kAt s := by rw [size_push', Heap.size_update]
  have at2 : (hAsk s.heap a vs).get? a = some (seqObj "list" #[] e1) := Heap.get?_push_of_some _ (Heap.get?_push_of_some _ at1)
  have at3 : (hAsk s.heap a vs).get? (kAt s) = some (seqObj "list" #[] 0) := by rw [← hk]; exact Heap.get?_push_size _ rfl
  have apart : kAt s ≠ a := Nat.ne_of_gt (Nat.lt_succ_of_lt lt_a)
  unfold ksk_tree
  refine wpAny_bind (listItems_at ho rfl (wpAny_bind (listUpdate_at ho rfl ?_ (by rw [List.size_toArray]; exact big) (Nat.zero_le _))))
  refine wpAny_bind (seqEpoch_at at1 rfl (wpAny_bind (wpAny_newTuple ?_ (by show vs.length ≤ _; exact big))))
  refine wpAny_bind (wpAny_newList ?_ (Nat.zero_le _))
  refine wpAny_holding ?_
  show wpAny (model P w) A (ksk_rest a f false vs.toArray e1 (.ref ((s.heap.update a (Obj.mapSeq fun _ => #[])).push (seqObj "tuple" vs.toArray 0)).objs.size)) R E { s with heap := hAsk s.heap a vs }
  rw [hk]
  unfold ksk_rest
  refine wpAny_bind (wpAny_rule ?_)
  first
    | rw [List.forIn_toArray]
    | (rw [← Array.forIn_toList]; simp only [List.toList_toArray])
  refine wpAny_bind (ksk_fold (fun i s1 => ∃ ks e, ks.length = i ∧ J ks s1 ∧ s1.heap.get? (kAt s) = some (seqObj "list" ks.toArray e) ∧ s1.heap.get? a = some (seqObj "list" #[] e1)) vs 0 _ ⟨[], 0, rfl, start, at3, at2⟩ ?_ ?_)
  · rintro j v s1 hv ⟨ks, e, len, hJ, gk, ga⟩
    rw [Nat.zero_add] at len ⊢
    have less : j < vs.length := (List.getElem?_eq_some_iff.mp hv).1
    refine wpAny_bind (wpAny_attempt (wpAny_mono (turn v ks s1 e (by rw [len]; exact hv) hJ gk) (fun k s2 h2 => ?_) fun _ _ no => no.elim))
    obtain ⟨g1, g2, next⟩ := h2
    have gk2 : s2.heap.get? (kAt s) = some (seqObj "list" ks.toArray e) := g1.trans gk
    have upd1 := Heap.SameBut.update s2.heap (kAt s) (Obj.mapSeq (·.push k))
    have arr : ks.toArray.push k = (ks ++ [k]).toArray := by simp
    have gk3 : ∃ c, (s2.heap.update (kAt s) (Obj.mapSeq (·.push k))).get? (kAt s) = some (seqObj "list" (ks ++ [k]).toArray c) := ⟨_, by rw [get?_update_seq gk2 (·.push k), ← arr]⟩
    try dsimp only
    refine wpAny_bind (listUpdate_at gk2 rfl ?_ (by rw [List.size_toArray]; omega) (by rw [Array.size_push, List.size_toArray]; omega))
    obtain ⟨c, gk3⟩ := gk3
    exact wpAny_pure ⟨rfl, ks ++ [k], c, by rw [List.length_append, len]; rfl, next _ upd1 ⟨c, gk3⟩, gk3, (upd1.2 a apart.symm).trans (g2.trans ga)⟩
  · rintro s1 ⟨ks, e, len, hJ, gk, ga⟩
    rw [Nat.zero_add] at len
    try dsimp only
    refine wpAny_bind (listItems_at gk rfl ?_)
    obtain ⟨ltk, O, ready, done⟩ := fin ks s1 hJ len
    -- what is behind the runs
    have tail : ∀ st : SortSt, Srtd (fun p q => ltk p.1 q.1) (arrOf st).toList → (arrOf st).toList.Perm (ks.zip vs) → failedOf st = none → wpAny (model P w) A (ksk_tail a false e1 (.ref (kAt s)) st) R E s1 := by
      intro st sorted perm ok
      have u1 := Heap.SameBut.update s1.heap (kAt s) (Obj.mapSeq fun _ => (#[] : Array Value))
      have ga1 : (s1.heap.update (kAt s) (Obj.mapSeq fun _ => (#[] : Array Value))).get? a = some (seqObj "list" #[] e1) := (u1.2 a apart.symm).trans ga
      have u2 := Heap.SameBut.update (s1.heap.update (kAt s) (Obj.mapSeq fun _ => (#[] : Array Value))) a (Obj.mapSeq fun _ => (arrOf st).map (·.2))
      have ga2 := get?_update_seq ga1 fun _ => (arrOf st).map (·.2)
      have lz : (arrOf st).size = vs.length := by rw [← Array.length_toList, perm.length_eq, List.length_zip, len, Nat.min_self]
      unfold ksk_tail
      try dsimp only
      refine wpAny_bind (listUpdate_at gk rfl ?_ (by rw [List.size_toArray, len]; exact big) (Nat.zero_le _))
      refine wpAny_bind (wpAny_letGo (wpAny_bind (seqEpoch_at ga1 rfl ?_)))
      simp only [Bool.false_eq_true, if_false]
      refine wpAny_bind (listUpdate_at ga1 rfl ?_ (Nat.zero_le _) (by rw [Array.size_map, lz]; omega))
      rw [ok]
      simp only [bne_self_eq_false, Bool.false_eq_true, if_false]
      have same : (arrOf st).map (·.2) = ((arrOf st).toList.map (·.2)).toArray := by rw [← Array.toList_map, Array.toArray_toList]
      have there : ∃ c, ((s1.heap.update (kAt s) (Obj.mapSeq fun _ => (#[] : Array Value))).update a (Obj.mapSeq fun _ => (arrOf st).map (·.2))).get? a = some (seqObj "list" ((arrOf st).toList.map (·.2)).toArray c) := by
        obtain ⟨c, gc⟩ : ∃ c, ((s1.heap.update (kAt s) (Obj.mapSeq fun _ => (#[] : Array Value))).update a (Obj.mapSeq fun _ => (arrOf st).map (·.2))).get? a = some (seqObj "list" ((arrOf st).map (·.2)) c) := ⟨_, ga2⟩
        exact ⟨c, by rw [gc, same]⟩
      exact wpAny_pure (done (arrOf st).toList _ _ sorted perm u1 u2 there)
    unfold ksk_end
    simp only [Bool.false_eq_true, if_false]
    by_cases two : vs.toArray.size < 2
    · rw [if_pos two, if_pos two]
      refine wpAny_bind (wpAny_pure ?_)
      rw [StateT.run_pure]
      refine wpAny_bind (wpAny_pure ?_)
      try dsimp only
      rw [List.size_toArray] at two
      refine tail (SortSt.mk' general' (ks.toArray.zip vs.toArray) #[] 7 none) ?_ (by show (ks.toArray.zip vs.toArray).toList.Perm _; rw [zip_pairs]) rfl
      show Srtd _ (ks.toArray.zip vs.toArray).toList
      rw [zip_pairs]
      have short : (ks.zip vs).length < 2 := by rw [List.length_zip]; omega
      match ks.zip vs, short with
      | [], _ => exact List.Pairwise.nil
      | [_], _ => exact List.pairwise_singleton _ _
    · rw [if_neg two, if_neg two]
      rw [List.size_toArray] at two
      obtain ⟨κ, kind, T⟩ := ready (by omega)
      refine wpAny_bind (kind _ _ ?_)
      have O2 : Swo (fun p q : Keyed => ltk p.1 q.1) := ⟨fun x y => O.asym x.1 y.1, fun x y z => O.tr x.1 y.1 z.1⟩
      have each : AllL (fun p : Keyed => p.1 ∈ ks) (ks.toArray.zip vs.toArray).toList := fun p hp => by
        rw [zip_pairs] at hp
        exact (List.of_mem_zip (a := p.1) (b := p.2) hp).1
      refine wpAny_bind (wpAny_mono (wpS_sortO (st0 := SortSt.mk' κ (ks.toArray.zip vs.toArray) #[] 7 none) (Q := fun _ st => Srtd (fun p q => ltk p.1 q.1) (arrOf st).toList ∧ (arrOf st).toList.Perm (ks.zip vs) ∧ failedOf st = none) O2 T rfl each rfl rfl
        fun st b1 b2 b3 => ⟨b1, by have := b2.perm; rwa [show (arrOf (SortSt.mk' κ (ks.toArray.zip vs.toArray) #[] 7 none)).toList = ks.zip vs from zip_pairs ks vs] at this, b3⟩) ?_ fun _ _ e => e)
      rintro ⟨⟨⟩, st⟩ s2 ⟨rfl, b1, b2, b3⟩
      exact tail st b1 b2 b3
end
end Sb

/-! sorted by a key function; keys that are triples of integers. -/
namespace Sb
open PySem PySem.Spec PyProof.Rows L2 Srt SrtO PySem.W
section
variable {P : Program} {w : World} {A : Around} {s : Shared} {l q : Addr} {vs : List Value} {Q E : Value → Shared → Prop}
/-- the heap in which sorted's own list stands, at the next place but one -/
def hCopy (h : Heap) (vs : List Value) : Heap := ((h.push (seqObj "list" #[] 0)).update h.objs.size (Obj.mapSeq (· ++ vs.toArray))).push (seqObj "list" vs.toArray 0)
theorem hCopy_size (h : Heap) (vs : List Value) : (hCopy h vs).objs.size = h.objs.size + 2 := by unfold hCopy; rw [size_push', Heap.size_update, size_push']
theorem hCopy_at (h : Heap) (vs : List Value) : (hCopy h vs).get? (h.objs.size + 1) = some (seqObj "list" vs.toArray 0) := by
  have e : ((h.push (seqObj "list" #[] 0)).update h.objs.size (Obj.mapSeq (· ++ vs.toArray))).objs.size = h.objs.size + 1 := by rw [Heap.size_update, size_push']
  unfold hCopy; rw [← e]; exact Heap.get?_push_size _ rfl
theorem hCopy_old {h : Heap} {vs : List Value} {b : Addr} {o : Obj} (e : h.get? b = some o) : (hCopy h vs).get? b = some o := by
  refine Heap.get?_push_of_some _ ?_
  rw [Heap.get?_update_ne _ _ _ _ (Nat.ne_of_lt (Heap.lt_size e))]
  exact Heap.get?_push_of_some _ e
theorem hAsk_old {h : Heap} {a : Addr} {vs : List Value} {b : Addr} {o : Obj} (e : h.get? b = some o) (n : b ≠ a) : (hAsk h a vs).get? b = some o := Heap.get?_push_of_some _ (Heap.get?_push_of_some _ ((Heap.get?_update_ne _ _ _ _ n).trans e))
/-- sorted(l, key=q) -/
theorem sorted_key (hl : s.heap.IsList l vs.toArray) (hz : vs.length ≤ 1000000) (J : List Value → Shared → Prop) (start : J [] { s with heap := hAsk (hCopy s.heap vs) (s.heap.objs.size + 1) vs })
    (turn : ∀ v ks s' e, vs[ks.length]? = some v → J ks s' → s'.heap.get? (s.heap.objs.size + 3) = some (seqObj "list" ks.toArray e) → wpAny (model P w) A.in1.in1 (call (.ref q) [v]) (fun k s2 => s2.heap.get? (s.heap.objs.size + 3) = s'.heap.get? (s.heap.objs.size + 3) ∧
      s2.heap.get? (s.heap.objs.size + 1) = s'.heap.get? (s.heap.objs.size + 1) ∧ ∀ h', Heap.SameBut (s.heap.objs.size + 3) s2.heap h' → (∃ c, h'.get? (s.heap.objs.size + 3) = some (seqObj "list" (ks ++ [k]).toArray c)) → J (ks ++ [k]) { s2 with heap := h' }) (fun _ _ => False) s')
    (fin : ∀ ks s', J ks s' → ks.length = vs.length → ∃ ltk : Value → Value → Bool, Swo ltk ∧
      (2 ≤ ks.length → ∃ κ, (∀ (Q : SortKind → Shared → Prop) (E : Value → Shared → Prop), Q κ s' → wpAny (model P w) A.in1.in1 (keyKind' ks.toArray) Q E s') ∧ Cmp P w A.in1.in1 s' κ (fun p => p.1 ∈ ks) (fun p q => ltk p.1 q.1)) ∧
      ∀ (xs : List Keyed) (h1 h2 : Heap), Srtd (fun p q => ltk p.1 q.1) xs → xs.Perm (ks.zip vs) → Heap.SameBut (s.heap.objs.size + 3) s'.heap h1 → Heap.SameBut (s.heap.objs.size + 1) h1 h2 → (∃ c, h2.get? (s.heap.objs.size + 1) = some (seqObj "list" (xs.map (·.2)).toArray c)) → Q (.ref (s.heap.objs.size + 1)) { s' with heap := h2 }) :
    wpAny (model P w) A (call (.builtin "sorted") [.ref l] [(Str.ofString "key", .ref q)]) Q E s := by
  have fits : vs.length ≤ sizeLine := Nat.le_trans hz (by rw [sizeLine_eq]; decide)
  refine call_function_entry_kw kind_sorted plain_sorted entry_sorted (ksk_s1 _ _) ?_
  unfold Builtin.«sorted»
  refine wpAny_bind (m := checkCount "sorted" 1 1 _) (wpAny_pure (wpAny_bind (collect_list hl (wpAny_bind (wpAny_newList ?_ fits)) fits)))
  have one : ((s.heap.push (seqObj "list" #[] 0)).update s.heap.objs.size (Obj.mapSeq (· ++ vs.toArray))).objs.size = s.heap.objs.size + 1 := by rw [Heap.size_update, size_push']
  show wpAny _ _ _ _ _ { s with heap := hCopy s.heap vs }
  rw [one]
  have here := hCopy_at s.heap vs
  refine wpAny_bind (wpAny_holding (wpAny_call_entry_kw slot_list_sort ⟨_, here, rfl⟩ entry_list_sort ?_ (ksk_l1 _ _)))
  show wpAny (model P w) A.in1.in1 (Builtin.«list.sort» ⟨[.ref (s.heap.objs.size + 1)], [(Str.ofString "key", .ref q)]⟩) _ _ _
  rw [ksk_t1]
  have three : kAt { s with heap := hCopy s.heap vs } = s.heap.objs.size + 3 := by show (hCopy s.heap vs).objs.size + 1 = _; rw [hCopy_size]
  refine keyed_sort (s := { s with heap := hCopy s.heap vs }) here hz J start (fun v ks s' e => ?_) fun ks s' hJ len => ?_
  · rw [three]; exact turn v ks s' e
  · rw [three]
    obtain ⟨ltk, O, ready, done⟩ := fin ks s' hJ len
    exact ⟨ltk, O, ready, fun xs h1 h2 srt perm b1 b2 at_ => ⟨_, rfl, wpAny_pure ⟨_, rfl, done xs h1 h2 srt perm b1 b2 at_⟩⟩⟩
end
/-! ### triples of integers -/
abbrev T3 := Int × Int × Int
def lex3 (p q : T3) : Bool := if p.1 = q.1 then (if p.2.1 = q.2.1 then decide (p.2.2 < q.2.2) else decide (p.2.1 < q.2.1)) else decide (p.1 < q.1)
theorem lex3_yes {p q : T3} : lex3 p q = true ↔ p.1 < q.1 ∨ (p.1 = q.1 ∧ (p.2.1 < q.2.1 ∨ (p.2.1 = q.2.1 ∧ p.2.2 < q.2.2))) := by
  unfold lex3
  split
  · split
    · rw [decide_eq_true_eq]; omega
    · rw [decide_eq_true_eq]; omega
  · rw [decide_eq_true_eq]; omega
theorem lex3_no {p q : T3} : lex3 p q = false ↔ ¬ (p.1 < q.1 ∨ (p.1 = q.1 ∧ (p.2.1 < q.2.1 ∨ (p.2.1 = q.2.1 ∧ p.2.2 < q.2.2)))) := by
  rw [← lex3_yes]; cases lex3 p q <;> simp
def IsTri (h : Heap) (v : Value) (t : T3) : Prop := ∃ a o t1 t2 t3 n, v = .ref a ∧ h.get? a = some o ∧ o.cls = .type "tuple" ∧ o.data = .seq #[.int t.1 t1, .int t.2.1 t2, .int t.2.2 t3] n
theorem swo3 (k : Value → T3) : Swo fun v u => lex3 (k v) (k u) := by
  refine ⟨fun x y h => ?_, fun x y z h1 h2 => ?_⟩
  · have a := lex3_yes.mp h
    exact lex3_no.mpr (by omega)
  · have a := lex3_no.mp h1
    have b := lex3_no.mp h2
    exact lex3_no.mpr (by omega)
section
variable {P : Program} {w : World} {A : Around} {s : Shared}
theorem tri_cmp {ks : List Value} {k : Value → T3} (hk : ∀ v ∈ ks, IsTri s.heap v (k v)) : Cmp P w A s (tuples' true) (fun p => p.1 ∈ ks) (fun p q => lex3 (k p.1) (k q.1)) := by
  intro p q hp hq
  have h1 := hk _ hp
  have h2 := hk _ hq
  show wpAny (model P w) A (keyLt' (tuples' true) p.1 q.1) (fun r s' => s' = s ∧ r = lex3 (k p.1) (k q.1)) (fun _ _ => False) s
  generalize k p.1 = x at h1 ⊢
  generalize k q.1 = y at h2 ⊢
  obtain ⟨x1, x2, x3⟩ := x
  obtain ⟨y1, y2, y3⟩ := y
  obtain ⟨a, oa, t1, t2, t3, na, ea, ga, ca, da⟩ := h1
  obtain ⟨b, ob, u1, u2, u3, nb, eb, gb, cb, db⟩ := h2
  rw [ea, eb]
  refine kat_lt ga da gb db ?_
  show KatLex P w A true (decide (3 < 3)) _ [(.int x1 t1, .int y1 u1), (.int x2 t2, .int y2 u2), (.int x3 t3, .int y3 u3)] 0 s
  refine kat_cons (SeqAt.EqAt.int_int x1 t1 y1 u1 P w _ _ (kat_go (fun e1 => ?_) fun e1 => ?_))
  · obtain rfl : x1 = y1 := by simpa using e1
    refine kat_yes (kat_cons (SeqAt.EqAt.int_int x2 t2 y2 u2 P w _ _ (kat_go (fun e2 => ?_) fun e2 => ?_)))
    · obtain rfl : x2 = y2 := by simpa using e2
      refine kat_yes (kat_cons (SeqAt.EqAt.int_int x3 t3 y3 u3 P w _ _ (kat_go (fun e3 => ?_) fun e3 => ?_)))
      · obtain rfl : x3 = y3 := by simpa using e3
        exact kat_yes (kat_nil ⟨rfl, by simp [lex3]⟩)
      · refine kat_no (kat_one _ _ (PyProof.Rows.lt_int ?_))
        exact (show s = s ∧ decide (x3 < y3) = lex3 (x1, x2, x3) (x1, x2, y3) from ⟨rfl, by simp [lex3]⟩)
    · have n2 : ¬ x2 = y2 := by simpa using e2
      refine kat_no (kat_one _ _ (PyProof.Rows.lt_int ?_))
      exact (show s = s ∧ decide (x2 < y2) = lex3 (x1, x2, x3) (x1, y2, y3) from ⟨rfl, by simp [lex3, n2]⟩)
  · have n1 : ¬ x1 = y1 := by simpa using e1
    exact kat_no (oneLt_int ⟨rfl, by simp [lex3, n1]⟩)
theorem tri_firsts : ∀ {ks : List Value} {k : Value → T3}, (∀ v ∈ ks, IsTri s.heap v (k v)) → ∃ fs : List Value, KatTups s.heap ks fs ∧ fs.length = ks.length ∧ ∀ f ∈ fs, ∃ i t, f = Value.int i t
  | [], _, _ => ⟨[], .nil, rfl, fun _ h => absurd h (by simp)⟩
  | v :: ks, k, h => by
    obtain ⟨fs, a, b, c⟩ := tri_firsts (ks := ks) (k := k) fun u hu => h u (List.mem_cons_of_mem _ hu)
    obtain ⟨d, o, t1, t2, t3, n, rfl, g, oc, od⟩ := h v List.mem_cons_self
    exact ⟨.int (k (.ref d)).1 t1 :: fs, .cons g oc od rfl a, by simp [b], fun f hf => (List.mem_cons.mp hf).elim (fun e => ⟨_, _, e⟩) (c f)⟩
/-- keys that are triples -/
theorem tri_ready {ks : List Value} {k : Value → T3} (h2 : 2 ≤ ks.length) (hk : ∀ v ∈ ks, IsTri s.heap v (k v)) :
    ∃ κ, (∀ (Q : SortKind → Shared → Prop) (E : Value → Shared → Prop), Q κ s → wpAny (model P w) A (keyKind' ks.toArray) Q E s) ∧ Cmp P w A s κ (fun p => p.1 ∈ ks) (fun p q => lex3 (k p.1) (k q.1)) := by
  obtain ⟨fs, h3, h4, h5⟩ := tri_firsts hk
  refine ⟨tuples' true, fun Q E hq => kat_kind (T := .type "int") h3 (by omega) (fun f hf => ?_) (by rfl) ?_, tri_cmp hk⟩
  · obtain ⟨i, t, rfl⟩ := h5 f hf
    exact Looks.now
  · have e : (Value.type "int" != Value.type "tuple") = true := by first | decide +kernel | rfl | decide
    rw [e]
    exact hq
end
end Sb

/-! A lambda with one parameter that captures nothing: made, and called. -/
namespace Sb
open PySem PySem.Spec PyProof.Rows L2 LamX
section
variable {X : Cx} {pins : List (Addr × Obj)} {σ : L2.St} {H : Hp} {s : Shared}
/-- the table at P: its rows, and what their code objects are -/
structure Tab (H : Hp) (P : Addr) (q : Str) (ps : Array Value) : Prop where
  at_ : H P = some (.tbl ps)
  rows : TriplesOk ps.toList
  codes : ∀ pos cv, codeAmong pos ps.toList = some cv → ∃ c, cv = .ref c ∧ H c = some (CodeO c q)
theorem among_left {pos : Pos} {cv : Value} (l m : List Value) (h : codeAmong pos l = some cv) : codeAmong pos (l ++ m) = some cv := by
  fun_induction codeAmong pos l with
  | case1 line t col u c rest hp => simp only [List.cons_append, codeAmong, hp, if_true]; exact h
  | case2 line t col u c rest hp ih => simp only [List.cons_append, codeAmong, hp, if_false]; exact ih h
  | case3 l h1 => cases h
/-- the abstract heap behind the making of a lambda: as it was, or with a new row and a new code object -/
inductive LamH (H : Hp) (P : Addr) (q : Str) (ps : Array Value) (c : Addr) : Hp → Prop
  | hit : LamH H P q ps c H
  | new (pos : Pos) : H c = none → c ≠ P → LamH H P q ps c (upd (upd H P (.tbl (ps ++ #[rawInt pos.line, rawInt pos.col, .ref c]))) c (CodeO c q))
theorem lam_mk {c P : Addr} {params : Arguments} {body : Expr} {scope : Scope} {pos : Pos} {ps : Array Value} {E Q : Value → Shared → Prop} (I : Inv X pins σ H s) (TB : TabB X.base X.mg c P) (code : X.env.code = .ref c) (tb : Tab H P (X.env.qual ++ "<lambda>") ps)
    (defs : defaultsOf params X.env = ([], [])) (hcl : ∀ y ∈ scope.names, y.2 = .free → ∃ c, X.env.cells.lookup y.1 = some c)
    (h : ∀ (f c' : Addr) (pm ctv : Value) (H1 : Hp) (s1 : Shared), Inv X pins σ H1 s1 → LamH H P (X.env.qual ++ "<lambda>") ps c' H1 →
      s1.heap.get? f = some (PySem.W.kla_obj "<lambda>" (X.env.qual ++ "<lambda>") params body scope (cloFrom X.env.cells scope.names []) pm c' ctv) → H1 f = none → f ∉ frs X.stack → (∃ ps1 : Array Value, H1 P = some (.tbl ps1) ∧ codeAmong pos ps1.toList = some (.ref c')) → Q (.ref f) s1) :
    wpAny (model X.prog X.w) X.A (eval (.Lambda params body scope pos) X.env) Q E s := by
  have blt : s.heap.BuiltinsAt X.mg P := TB.bm.keeps I.bk
  have here : s.heap.get? P = some { cls := .none, data := .fields ps } := I.hok P _ tb.at_
  have above : ∀ f, s.heap.objs.size ≤ f → f ∉ frs X.stack := fun f hf z => (List.mem_cons.mp (I.stkSub _ z)).elim (fun e => by have l := I.lt; rw [← e] at l; exact Nat.lt_irrefl _ (Nat.lt_of_lt_of_le l hf)) (I.nofs hf)
  refine PySem.W.kla_eval defs ?_
  cases row : codeAmong pos ps.toList with
  | some cv =>
    obtain ⟨c', rfl, hc⟩ := tb.codes pos cv row
    refine PySem.W.kla_makeFunctionHit (mg := X.mg) (c := c) (P := P) (ps := ps) (closure_ok hcl) I.ok.glob (I.mod.glob.keeps I.bk) code (TB.code.keeps I.bk) here tb.rows row blt fun ctv h1 tk old size => ?_
    exact h h1.objs.size c' ((X.mg "__name__").getD .none) ctv H { s with heap := h1.push (PySem.W.kla_obj "<lambda>" (X.env.qual ++ "<lambda>") params body scope (cloFrom X.env.cells scope.names []) ((X.mg "__name__").getD .none) c' ctv), toks := tk } (I.kept fun b o e => Heap.get?_push_of_some _ (old b o e)) .hit (Heap.get?_push_size _ rfl) (I.hok.fresh size) (above _ size) ⟨ps, tb.at_, row⟩
  | none =>
    refine PySem.W.kla_makeFunction (mg := X.mg) (c := c) (P := P) (ps := ps) (closure_ok hcl) I.ok.glob (I.mod.glob.keeps I.bk) code (TB.code.keeps I.bk) here tb.rows row TB.gP blt fun c' ctv h1 tk old ge lt rec table => ?_
    obtain ⟨c2, oc, vs, t, ec, gc, dc, nc⟩ := rec
    cases ec
    have size : s.heap.objs.size ≤ h1.objs.size := Nat.le_trans ge (Nat.le_of_lt lt)
    have free : H c' = none := I.hok.fresh ge
    have cP : c' ≠ P := Ne.symm (ne_of_none tb.at_ free)
    have J := inv_table (t' := tk) (more := #[rawInt pos.line, rawInt pos.col, .ref c']) (h' := h1.push (PySem.W.kla_obj "<lambda>" (X.env.qual ++ "<lambda>") params body scope (cloFrom X.env.cells scope.names []) ((X.mg "__name__").getD .none) c' ctv)) I tb.at_
      (fun b o nb e => Heap.get?_push_of_some _ (old b o nb e)) (Heap.get?_push_of_some _ table) ge ⟨oc, vs, t, Heap.get?_push_of_some _ gc, dc, nc⟩
    refine h h1.objs.size c' ((X.mg "__name__").getD .none) ctv _ _ J (.new pos free cP) (Heap.get?_push_size _ rfl) ?_ (above _ size) ⟨_, by rw [upd_ne (Ne.symm cP), upd_same], ?_⟩
    case refine_2 => rw [show (ps ++ #[rawInt pos.line, rawInt pos.col, Value.ref c']).toList = ps.toList ++ [rawInt pos.line, rawInt pos.col, .ref c'] from by simp]; exact codeAmong_snoc _ tb.rows row
    rw [upd_ne (Nat.ne_of_gt lt), upd_ne (Nat.ne_of_gt (Nat.lt_of_lt_of_le (Heap.lt_size here) size))]
    exact I.hok.fresh size
end
section
variable {P : Program} {w : World} {K : PySem.W.Frag} {mg : Str → Option Value} {base : Heap}
/-- the lambda, called with one value -/
theorem lam_run1 {x qual : Str} {params : Arguments} {body : Expr} {scope : Scope} {f c' : Addr} {pm ctv : Value} {k : Nat} {A : Around} {outer : List Env} {s : Shared} {H : Hp} {u : Value} {v : V} {Q : VK} {E : XK} {t : TE} (S : FnScope [x] [x] scope)
    (ho : s.heap.get? f = some (PySem.W.kla_obj "<lambda>" qual params body scope [] pm c' ctv)) (hc : H c' = some (CodeO c' qual)) (bind : bindArgs (PySem.W.kla_fn "<lambda>" qual params body scope [] pm (.ref c') ctv) ⟨[u], []⟩ = pure [(x, u)])
    (hr : Room (k + 1) A) (e0 : Env0 P w K mg base A outer s H) (r : RelV v u)
    (hbody : Room k (A.deeper (envOfC qual scope s.heap.objs.size f (.ref c'))) → PE (cxOf (L2.CX P w) P w K mg base [x] qual scope f (.ref c') A outer s H E) body t) (h : t (L2.start [x] [v]) H Q) :
    codeAny (model P w) A (.call (.ref f) ⟨[u], []⟩) (CR (L2.CX P w) outer P w H s Q E) s := by
  have lim : s.heap.NoLimit := e0.mod.nolimit.keeps fun b o e => (e0.bs b o e).1
  obtain ⟨⟨oc, vs, tn, gc, dc, nc⟩, _, _⟩ := e0.hok c' _ hc
  have kinds : ∀ y ∈ [x].zip [u], scope.names.lookup y.1 = some .local ∨ (scope.names.lookup y.1 = some .cell ∧ ((cellsFrom (s.heap.objs.size + 1) scope.names []).lookup y.1).isSome = true) := fun y hy => by
    obtain rfl : y = (x, u) := by simpa using hy
    exact (S.par x (by simp)).imp id fun z => ⟨z, PySem.W.cellsFrom_some _ _ _ (.inl z)⟩
  refine PySem.W.kla_callFunE hr.depth ho rfl S.co S.gen rfl ⟨c', oc, vs, tn, rfl, gc, dc, nc⟩ ?_
  rw [bind]
  refine wpAny_pure (wpAny_newFunctionEnv_cells (binds := [x].zip [u]) S.kind kinds fun env ee s1 inc => ?_)
  subst ee
  refine ⟨lim.keeps inc.toInCall.keep, ?_⟩
  show codeAny _ _ (.expr body (envOfC qual scope s.heap.objs.size f (.ref c'))) _ _
  have J : Inv (cxOf (L2.CX P w) P w K mg base [x] qual scope f (.ref c') A outer s H E) [] (L2.start [x] [v]) H s1 := inv_start (ps := [x]) (us := [u]) S hr.hd e0 rfl (.cons r .nil) inc
  refine PySem.W.kla_codeExpr (wpAny_mono ((hbody (hr.deeper _)).run [] s1 _ H Q J h) (fun r2 s2 hq => ?_) fun e s2 hq => hq)
  obtain ⟨y, H2, J2, ry, q⟩ := hq
  exact ⟨y, H2, J2.os, J2.bare, J2.base, J2.hok, ry, q⟩
end
end Sb

/-! The pairs of a dict over keys of any depth: d.items() walked. -/
namespace Sb
open PySem PySem.Spec L2
/-- the pairs, each in a new tuple -/
def ItemN (w : World) (d : Addr) (o : Obj) (es : NL V V) : It :=
  ⟨fun i H => H d = some (.frz o (NdO w d es)) ∧ i < es.length, fun i H v H' => ∃ T e, ∃ ob : Obj, v = .ref T ∧ H T = none ∧ ob.dict = none ∧ H' = upd H T (.frz ob (.tup [e.2.1, e.2.2])) ∧ es[i]? = some e, fun i H => H d = some (.frz o (NdO w d es)) ∧ es.length ≤ i⟩
theorem turn_itemN {P : Program} {w : World} {K : PySem.W.Frag} {elts : List Expr} {kk : Nat} {tpos : Pos} {d : Addr} {o : Obj} {arr : Array DictEntry} {ep : Nat} {es : NL V V} (it : Addr) (hod : o.data = .dict arr ep) :
    Turn P w K (.Tuple elts kk tpos) (ItemN w d o es) [it] it (fun i h => ∃ a b, IsItemIter h it d i es.length ep a b) where
  mem := List.mem_singleton.mpr rfl
  obj := fun i h st b hb => by
    obtain rfl := List.mem_singleton.mp hb
    obtain ⟨x, y, e⟩ := st
    exact ⟨_, e, fun v z => nomatch z⟩
  keep := fun i h h' ⟨x, y, e⟩ k => ⟨x, y, k it (List.mem_singleton.mpr rfl) _ e⟩
  item := by
    intro X hP hw hK hc i pins s σ H E I hf ⟨x, y, st⟩ ⟨hd, hi⟩
    subst hP hw hK
    obtain ⟨hs, hgd, hx, arr', ep', hdt, hsz, ent⟩ := ndo_lock I hd
    rw [hod] at hdt; cases hdt
    obtain ⟨e, he⟩ : ∃ p, es[i]? = some p := ⟨es[i], List.getElem?_eq_getElem hi⟩
    obtain ⟨en, hen, rk, rv⟩ := ent i e he
    have old : it < s.heap.objs.size := Heap.lt_size st
    obtain ⟨hia, hib⟩ := Array.getElem?_eq_some_iff.mp hen
    rw [← hsz] at st
    refine DT.nextI st ⟨o, hgd, hx, hod⟩ hia fun h' out tup sz keep => ?_
    rw [hib] at out tup
    refine ⟨_, rfl, wpAny_letOwnedTupleGo_items (s := { s with heap := h' }) out fun h2 st2 sb => ?_⟩
    have tup2 := (sb.2 _ (Nat.ne_of_gt old)).trans tup
    have I1 : Inv X pins σ (upd H s.heap.objs.size (.frz { cls := .type "tuple", data := .seq #[en.key, en.val] } (.tup [e.2.1, e.2.2]))) { s with heap := h2 } :=
      I.turnedNew (t' := s.toks) (ch := [it]) (fun b ob hb q => (sb.2 b fun z => hb (List.mem_singleton.mpr z)).trans (keep b ob (fun z => hb (List.mem_singleton.mpr z)) q)) hf (Nat.le_refl _)
        ⟨tup2, by show 2 ≤ sizeLine; decide, [en.key, en.val], .cons rk (.cons rv .nil), ⟨_, tup2, rfl, _, rfl⟩⟩
    refine ⟨.ref s.heap.objs.size, _, I1, rfl, ⟨_, e, _, rfl, I.hok.fresh (Nat.le_refl _), rfl, rfl, he⟩, ⟨_, _, by rw [← hsz]; exact st2⟩, fun b hb => ?_⟩
    obtain rfl := List.mem_singleton.mp hb
    rw [upd_ne (Nat.ne_of_lt old)]
    exact (hf _ hb).1
  done := by
    intro X hP hw hK hc i pins s σ H E I hf ⟨x, y, st⟩ ⟨hd, hi⟩
    subst hP hw hK
    obtain ⟨f0, f1, f2, f3, f4, f5⟩ := hf it (List.mem_singleton.mpr rfl)
    obtain ⟨hs, hgd, hx, arr', ep', hdt, hsz, ent⟩ := ndo_lock I hd
    rw [hod] at hdt; cases hdt
    rw [← hsz] at st
    exact DT.endI (I.ok.hd hc) st ⟨o, hgd, hx, hod⟩ (by omega) fun h' eb => ⟨rfl, I.turned (t' := s.toks) (fun b ob hb q => eb b ob hb q) f0 f1 f3 f4 f5⟩
  self := fun A i s Q E ⟨_, _, e⟩ h => PySem.W.kcp_self e h
/-- e.items(), the dict just made: it stays locked -/
theorem pi_itemN {X : Cx} {e : Expr} {td : TE} {apos cpos tpos : Pos} {elts : List Expr} {kk : Nat} (he : PE X e td) (m0 : attributeBase e "items" X.env (eval e X.env) = eval e X.env := by rfl) (m1 : (apos.endLine == cpos.line) = true := by rfl) :
    PI X (.Tuple elts kk tpos) (.Call (.Attribute e "items" apos) [] [] cpos) (fun σ H R => td σ H fun x H1 => ∃ d es, x = .ref d ∧ H1 d = some (NdO X.w d es) ∧ ∀ o, R (ItemN X.w d o es) (upd H1 d (.frz o (NdO X.w d es)))) := by
  refine ⟨fun pins s σ H R I h => ?_⟩
  refine wpAny_Call_method (T := "dict") (id := "dict.items") m0 rfl m1 F.plainAttrs_dict F.slot_dict_items F.type_dict_items (thn (he.run pins s σ H _ I h) fun u s1 ⟨x, H1, I1, rx, d, es, ex, hd, q⟩ => ?_)
  subst ex
  obtain rfl : u = Value.ref d := rx
  obtain ⟨o, I2⟩ := I1.lock hd True.intro
  obtain ⟨low, hgd, hx, arr, ep, hdt, hsz, _⟩ := ndo_lock I2 upd_same
  refine ⟨⟨o, hgd, hx.1⟩, ?_, ?_⟩
  · intro b z
    cases z
    exact ⟨o, hgd, hx.2.1⟩
  have I3 : Inv X pins σ (upd H1 d (.frz o (NdO X.w d es))) { s1 with heap := s1.heap.push { cls := .type "dict_items", data := .fields #[.ref d] } } := I2.kept (t' := s1.toks) fun b ob q => Heap.get?_push_of_some _ q
  have fin : wpAny (model X.prog X.w) X.A (pyIter (.ref s1.heap.objs.size)) (PIE X pins σ (.Tuple elts kk tpos) R) X.xe { s1 with heap := s1.heap.push { cls := .type "dict_items", data := .fields #[.ref d] } } :=
    DT.iterI (es := arr) (ep := ep) ⟨_, Heap.get?_push_size _ rfl, rfl, rfl⟩ (DT.Raw.push ⟨o, hgd, hx, hdt⟩ _) (pi_one (tk := s1.toks) I3 _ (turn_itemN _ hdt) ⟨.none, .none, by rw [← hsz]; exact Heap.get?_push_size _ rfl⟩ (q o))
  show wpAny _ _ (callWith cpos (.builtin "dict.items") [.ref d] [] []) _ X.xe s1
  exact method_meetsIn F.slot_dict_items F.entry_dict_items rfl (PySem.evalArgs_none ⟨rfl, ⟨o, hgd, hx.1⟩, F.args_dict_items_1 _, _, DT.meetsItems low, ⟨⟨o, hgd, hx, hdt⟩, fin⟩⟩)
end Sb

/-! list(d.items()). -/
namespace Sb
open PySem PySem.Spec PyProof.Rows L2
/-- new tuples, one behind the other -/
inductive News : Hp → List (Addr × List V) → Hp → Prop
  | nil {H : Hp} : News H [] H
  | cons {H H2 : Hp} {a : Addr} {vs : List V} {ob : Obj} {L : List (Addr × List V)} : H a = none → ob.dict = none → News (upd H a (.frz ob (.tup vs))) L H2 → News H ((a, vs) :: L) H2
section
variable {X : Cx}
theorem lay_all {pins : List (Addr × Obj)} {σ : L2.St} {H0 : Hp} {s : Shared} {h' : Heap} {tk : Nat} (I0 : Inv X pins σ H0 s) : ∀ (as : List Addr) (es : NL V V) (H1 : Hp), Inv X pins σ H1 { s with heap := h', toks := tk } → as.Pairwise (· < ·) → as.length = es.length →
    (∀ (j : Nat) (a : Addr) (e : NestedKey × V × V), as[j]? = some a → es[j]? = some e → s.heap.objs.size ≤ a ∧ H1 a = none ∧ ∃ x y : Value, h'.get? a = some { cls := .type "tuple", data := .seq #[x, y] } ∧ RelV e.2.1 x ∧ RelV e.2.2 y) →
    ∃ (L : List (Addr × List V)) (H2 : Hp), L.map (·.1) = as ∧ L.map (·.2) = es.map (fun e => [e.2.1, e.2.2]) ∧ News H1 L H2 ∧ Inv X pins σ H2 { s with heap := h', toks := tk } ∧ ∀ b, b ∉ as → H2 b = H1 b
  | [], [], H1, I1, _, _, _ => ⟨[], H1, rfl, rfl, .nil, I1, fun _ _ => rfl⟩
  | [], _ :: _, _, _, _, n, _ => by simp at n
  | _ :: _, [], _, _, _, n, _ => by simp at n
  | a :: as, e :: es, H1, I1, up_, n, h => by
    obtain ⟨old, non, x, y, at_, r1, r2⟩ := h 0 a e rfl rfl
    have I2 : Inv X pins σ (upd H1 a (.frz { cls := .type "tuple", data := .seq #[x, y] } (.tup [e.2.1, e.2.2]))) { s with heap := h', toks := tk } :=
      I1.take (h' := h') (t' := tk) (fun b ob _ q => q) (I0.fpOk old non) ⟨at_, by show 2 ≤ sizeLine; decide, [x, y], .cons r1 (.cons r2 .nil), ⟨_, at_, rfl, _, rfl⟩⟩
    obtain ⟨lo, rest⟩ := List.pairwise_cons.mp up_
    obtain ⟨L, H2, e1, e2, ns, I3, same⟩ := lay_all I0 as es _ I2 rest (by simpa using n) fun j b e' hb he => by
      obtain ⟨q1, q2, q3⟩ := h (j + 1) b e' (by simpa using hb) (by simpa using he)
      exact ⟨q1, by rw [upd_ne (Nat.ne_of_gt (lo b (List.mem_of_getElem? hb)))]; exact q2, q3⟩
    refine ⟨(a, [e.2.1, e.2.2]) :: L, H2, by simp [e1], by simp [e2], .cons non rfl ns, I3, fun b hb => ?_⟩
    simp only [List.mem_cons, not_or] at hb
    rw [same b hb.2, upd_ne hb.1]
theorem call_listV (hc : X.calm = true) : CallR X (.type "list") (fun xs H Q => ∃ p d es, xs = [V.ref p] ∧ H p = some (DX.itemsO p d) ∧ H d = some (NdO X.w d es) ∧
    ∀ l L H2, L.map (·.2) = es.map (fun e => [e.2.1, e.2.2]) → News H L H2 → H2 l = none → Q (.ref l) (upd H2 l (.lst (L.map fun t => V.ref t.1)))) := by
  intro pins s σ H vs us Q I r h
  obtain ⟨p, d, es, rfl, hp, hd, q⟩ := h
  obtain ⟨u, rfl, ru⟩ := vals1 r
  obtain rfl : u = Value.ref p := ru
  obtain ⟨o, I2⟩ := I.lock hd True.intro
  obtain ⟨low, hgd, hx, arr, ep, hdt, hsz, ent⟩ := ndo_lock I2 upd_same
  obtain ⟨⟨ys, ⟨_, fit, _⟩, pr⟩, _⟩ := I.hok d _ hd
  have fit2 : arr.size ≤ sizeLine := by rw [hsz, ← pr.nlen]; exact fit
  refine PySem.W.dil_call (I.ok.hd hc) (I.hok p _ hp).1 ⟨o, hgd, hx, hdt⟩ fit2 fun h' tk acc c as keep lat len g hacc => ?_
  have I3 : Inv X pins σ H { s with heap := h', toks := tk } := I.kept keep
  have big : ∀ a ∈ as, s.heap.objs.size ≤ a := fun a ha => Nat.le_of_lt (g.above a ha)
  obtain ⟨L, H2, e1, e2, ns, I4, same⟩ := lay_all I as es H I3 g.rise (by rw [len, hsz]) fun j a e ha he => by
    have b0 := big a (List.mem_of_getElem? ha)
    obtain ⟨hj, at_⟩ := g.pairs j a ha
    obtain ⟨en, hen, r1, r2⟩ := ent j e he
    obtain ⟨_, hib⟩ := Array.getElem?_eq_some_iff.mp hen
    rw [hib] at at_
    exact ⟨b0, I.hok.fresh b0, _, _, at_, r1, r2⟩
  have nl : H2 s.heap.objs.size = none := by
    rw [same _ fun z => absurd (g.above _ z) (Nat.lt_irrefl _)]
    exact I.hok.fresh (Nat.le_refl _)
  have el : (L.map fun t => V.ref t.1) = as.map V.ref := by rw [← e1, List.map_map]; rfl
  have va : Vals (as.map V.ref) acc.toList := by
    rw [hacc]
    clear e1 el nl ns I4 same g len hacc big
    induction as with
    | nil => exact .nil
    | cons a as ih => exact .cons rfl ih
  have I5 := I4.take (h' := h') (t' := tk) (it := s.heap.objs.size) (o := .lst (as.map V.ref)) (fun b ob _ q => q) (I.fpOk (Nat.le_refl _) nl) ⟨by rw [List.length_map, len]; exact fit2, acc.toList, c, va, by rw [Array.toArray_toList]; exact lat⟩
  exact ⟨.ref s.heap.objs.size, _, I5, rfl, by rw [← el]; exact q _ L H2 e2 ns nl⟩
/-- e.items(), the view -/
theorem pe_viewN {e : Expr} {td : TE} {apos cpos : Pos} (he : PE X e td) (m0 : attributeBase e "items" X.env (eval e X.env) = eval e X.env := by rfl) (m1 : (apos.endLine == cpos.line) = true := by rfl) :
    PE X (.Call (.Attribute e "items" apos) [] [] cpos) (fun σ H Q => td σ H fun x H1 => ∃ d es, x = .ref d ∧ H1 d = some (NdO X.w d es) ∧ ∀ p, H1 p = none → Q (.ref p) (upd H1 p (DX.itemsO p d))) := by
  refine ⟨fun pins s σ H Q I h => ?_⟩
  refine wpAny_Call_method (T := "dict") (id := "dict.items") m0 rfl m1 F.plainAttrs_dict F.slot_dict_items F.type_dict_items (thn (he.run pins s σ H _ I h) fun u s1 ⟨x, H1, I1, rx, d, es, ex, hd, q⟩ => ?_)
  subst ex
  obtain rfl : u = Value.ref d := rx
  obtain ⟨o, I2⟩ := I1.lock hd True.intro
  obtain ⟨low, hgd, hx, arr, ep, hdt, hsz, _⟩ := ndo_lock I2 upd_same
  refine ⟨⟨o, hgd, hx.1⟩, ?_, ?_⟩
  · intro b z
    cases z
    exact ⟨o, hgd, hx.2.1⟩
  show wpAny _ _ (callWith cpos (.builtin "dict.items") [.ref d] [] []) _ X.xe s1
  exact method_meetsIn F.slot_dict_items F.entry_dict_items rfl (PySem.evalArgs_none ⟨rfl, ⟨o, hgd, hx.1⟩, F.args_dict_items_1 _, _, DT.meetsItems low, ⟨⟨o, hgd, hx, hdt⟩,
    ⟨.ref _, _, I1.laid (t' := s1.toks) (fun b u q => Heap.get?_push_of_some _ q) (Nat.le_refl _) (DX.itemsO_ok (Heap.get?_push_size _ rfl)), rfl, q _ (I1.hok.fresh (Nat.le_refl _))⟩⟩⟩)
end
end Sb

set_option maxHeartbeats 4000000
/-! isinstance(err, T) in a suite, the error has a dict of its own. -/
namespace Sb
open PySem PySem.Spec PySem.Calls PyProof.Rows L2
section
variable {q : Program} {v : World} {B : Around} {R : Value → Shared → Prop} {t : Shared} {K : PySem.W.Frag} {y C : Addr} {oy : Obj} {dy : Option Obj}
theorem find_data {name : Str} {a g : Value} (h1 : (PySem.W.clsIn K C).isSome = true) (h2 : PySem.W.findIn K (.ref C) name = some (some a)) (h3 : PySem.W.specialIn K a "__get__" = some (some g)) (h4 : PySem.W.takesIn K a = some true) : PySem.W.findObj K C dy name = some (.bind g a) := by
  obtain ⟨cd, e⟩ := Option.isSome_iff_exists.mp h1
  simp [PySem.W.findObj, e, h2, h3, h4]
theorem kin_cls {P : Option Value → Shared → Prop} (E : ExcC K C) (X : K.In t.heap) (I : PySem.W.InstAt t.heap y oy C dy) (h : P (some (.ref C)) { t with toks := t.toks + 1 }) : wpAny (model q v) B (getAttr? (.ref y) "__class__") P R t := by
  obtain ⟨cd, hcd, _⟩ := PySem.W.any_some E.hd
  have hf := find_data (dy := dy) (by rw [hcd]; rfl) E.ha E.hn E.ht
  obtain ⟨hp, g, d, tk, os⟩ := t
  have L0 := I.type (M := model q v)
  have L1 := PySem.W.looks_findIn (M := model q v) X E.hg
  have L2 := PySem.W.looks_findIn (M := model q v) X E.hk
  have L3 := PySem.W.looks_find (M := model q v) X I hf
  have sub : PySem.W.Looks (model q v) hp (isInstance (.ref y) (.type "BaseException")) true := L0.andThen (PySem.W.looks_subIn X E.hs)
  have f1 : (Value.builtin "BaseException.__getattribute__" == Value.builtin "object.__getattribute__") = false := by decide +kernel
  have f2 : (onTheHeap (Value.ref C) && Value.builtin "BaseException.__getattribute__" == Value.builtin "object.__getattribute__") = false := by rw [f1]; rfl
  have f3 : (false && onTheHeap (Value.builtin "BaseException.__getattribute__")) = false := rfl
  unfold getAttr? getAttrBy? getAttrBy
  refine wpAny_bind (wpAny_mkText (wpAny_bind (wpAny_attempt (wpAny_holding (wpAny_bind (L0.at (wpAny_bind (L1.at ?_))))))))
  show wpAny _ _ (if (onTheHeap (Value.ref C) && Value.builtin "BaseException.__getattribute__" == Value.builtin "object.__getattribute__") = true then _ else _) _ _ _
  rw [f2, if_neg (by decide)]
  unfold getAttrByItsOwn hookBefore
  refine wpAny_bind ?_
  have f4 : onTheHeap (Value.ref C) = true := rfl
  rw [if_pos f4]
  refine L2.at (wpAny_bind (wpAny_attempt (wpAny_holding ?_)))
  unfold callGetattribute
  rw [f3, if_neg (by decide)]
  unfold boundAndCalled
  rw [PySem.F.excAttr_ValueError.ga.bind (.ref y)]
  refine wpAny_bind (wpAny_pure ?_)
  show wpAny _ _ (call (.builtin "BaseException.__getattribute__") [.ref y, .str "__class__" tk]) _ _ _
  refine wpAny_call (codeAny_call_builtin PySem.F.excAttr_ValueError.ga.plain PySem.F.entry_bexc_ga ?_)
  refine @PySem.W.check_slot (model q v) _ _ ⟨hp, g, d, tk + 1, os⟩ "BaseException.__getattribute__" "BaseException" "__getattribute__" (.ref y) [.str "__class__" tk] [] _ (by decide +kernel) (by decide +kernel) sub (PySem.F.args_bexc_ga (.ref y) (.str "__class__" tk)) ?_
  unfold Builtin.«object.__getattribute__»
  refine wpAny_bind (wpAny_of_eq (a := ((Value.ref y : Value), [Value.str "__class__" tk])) (by first | rfl | (simp only [slotArgs]; rfl)) ?_)
  refine wpAny_bind (wpAny_pure (wpAny_bind (L0.at (wpAny_bind (L3.at ?_)))))
  show wpAny _ _ (holding [Value.builtin "object.__class__"] (call (.builtin "getset_descriptor.__get__") [.builtin "object.__class__", .ref y, .ref C]) >>= ret) _ _ _
  refine wpAny_bind (wpAny_holding (wpAny_call (PySem.W.class_get (s := ⟨hp, g, d, tk + 1, os⟩) (ox := oy) (od := dy) X I E.hm ?_)))
  refine wpAny_pure ?_
  show wpAny _ _ (handedOut (.ref C)) _ _ _
  rw [PySem.W.handedOut_of (v := .ref C) rfl]
  first
    | exact wpAny_pure (wpAny_pure h)
    | exact wpAny_pure h
    | exact wpAny_pure (wpAny_bind (wpAny_pure (wpAny_pure h)))
theorem kitx_own (E : ExcC K C) : PySem.W.KitX K (.ref y) (.ref C) (fun h => PySem.W.InstAt h y oy C dy) := by
  obtain ⟨cd, hcd, _⟩ := PySem.W.any_some E.hd
  unfold PySem.W.clsIn at hcd
  refine ⟨fun _ _ _ I => I.type, fun _ _ X _ => ?_, fun h tp dd its n sl X htp => Bool.eq_false_iff.mpr fun z => ?_, fun X I k => kin_cls E X I k⟩
  · split at hcd
    · rename_i c' d' cd' sl' ho
      intro A' Q' E' s' k z
      unfold isType loadHead
      exact wpAny_bind (wpAny_loadPart (k _ _ (X _ _ ho)) (wpAny_pure z))
    · cases hcd
  · have e : C = tp := Value.ref.inj (beq_iff_eq.mp z)
    subst e
    split at hcd
    · rename_i c' d' cd' sl' ho
      have := (X _ _ ho).symm.trans htp
      cases this
    · cases hcd
/-- isinstance(err, T): what is asked and told -/
def rIsX (K : PySem.W.Frag) (C a : Addr) (od : Option Addr) : List V → Hp → VK → Prop := fun xs H Q => ∃ (c : V) (cv : Value) (b : Bool) (dd : Addr) (fs : List (Str × V)), xs = [.ref a, c] ∧ (∀ u, RelV c u → u = cv) ∧ PySem.W.kitOne K (.ref C) cv = some b ∧ od = some dd ∧ H dd = some (.xd fs) ∧ Q (.bl b) H
theorem call_isX {X : Cx} {a D : Addr} {oe : Obj} {od : Option Addr} {pn : List (Addr × Obj)} (C : ExcC X.K D) (hz : Zc (.ref D) od oe) (hf : ∃ vs, oe.data = .fields vs) : CallR (X.suite a ((a, oe) :: pn)) (.builtin "isinstance") (rIsX X.K D a od) := by
  intro pins s σ H xs us Q I r h
  obtain ⟨c, cv, b, dd, fs, rfl, hcv, e, rfl, hH, w⟩ := h
  cases r with
  | cons rx rr =>
    cases rr with
    | cons rt rr =>
      cases rr
      cases rx
      cases hcv _ rt
      obtain ⟨hget, _⟩ := I.pin (a, oe) (List.mem_append.mpr (.inl List.mem_cons_self))
      obtain ⟨vs, hv⟩ := hf
      obtain ⟨mA, hns, _⟩ := I.hok dd _ hH
      obtain ⟨ob, ho, _⟩ := lookIn_ns hns
      have J : PySem.W.InstAt s.heap a oe D (some ob) := ⟨hget, hz.1, by unfold PySem.W.notCls; rw [hv] <;> rfl, by rw [hz.2]; exact ho⟩
      exact PySem.W.kia_one (kitx_own C) I.kIn J e (fun z => nomatch z) fun tk => ⟨.bl b, H, I.kept (t' := tk) fun _ _ z => z, rfl, w⟩
end
end Sb

/-! len(set(xs)), xs a list of whole numbers. -/
namespace Sb
open PySem PySem.Spec PyProof.Rows L2
/-- the values once each, as they come -/
def once : List Int → List Int → List Int
  | acc, [] => acc
  | acc, n :: ns => once (if acc.any (· == n) then acc else acc ++ [n]) ns
theorem once_snoc : ∀ (ns acc : List Int) (n : Int), once acc (ns ++ [n]) = if (once acc ns).any (· == n) then once acc ns else once acc ns ++ [n]
  | [], acc, n => rfl
  | m :: ns, acc, n => by simp only [List.cons_append, once]; exact once_snoc ns _ n
theorem firstMet_once {ns : List Int} : ∀ i, i ≤ ns.length → PyProof.Rows.firstMet (fun i => ns.getD i 0) i = once [] (ns.take i)
  | 0, _ => by rw [PyProof.Rows.firstMet_zero]; rfl
  | i + 1, h => by
    have lt : i < ns.length := h
    have e : ns.take (i + 1) = ns.take i ++ [ns[i]] := by rw [List.take_add_one, List.getElem?_eq_getElem lt]; rfl
    have g : ns.getD i 0 = ns[i] := by rw [List.getD_eq_getElem?_getD, List.getElem?_eq_getElem lt]; rfl
    rw [PyProof.Rows.firstMet_succ, firstMet_once i (Nat.le_of_lt lt), e, once_snoc]
    show (if (once [] (ns.take i)).any (· == ns.getD i 0) then once [] (ns.take i) else once [] (ns.take i) ++ [ns.getD i 0]) = _
    rw [g]
def tLenSetO (K : PySem.W.Frag) (ta : TE) : TE := fun σ H Q => ta σ H fun x H1 => ∃ (l : Addr) (ns : List Int), x = .ref l ∧ SqL K H1 l (ns.map V.int) ∧ ns.length ≤ 4000 ∧ Q (.int ((once [] ns).length : Nat)) H1
theorem pe_lenSetO {X : Cx} {a : Expr} {ta : TE} {p p2 q pos : Pos} (hg : Gl X "len") (hm : X.mg "len" = none) (hg2 : Gl X "set") (hm2 : X.mg "set" = none) (ha : PE X a ta) (hc : X.calm = true := by rfl)
    (na : starEach [a] X.env = (false, eval a X.env) :: starEach [] X.env := by rfl) : PE X (.Call (.Name "len" p) [.Call (.Name "set" p2) [a] [] q] [] pos) (tLenSetO X.K ta) := by
  refine ⟨fun pins s σ H Q I h => ?_⟩
  refine Call_ (ld_blt I hg hm (show bootBuiltins "len" = _ from rfl) ?_)
  refine PyProof.Rows.callWith_builtin1 (PyProof.Rows.args_cons ?_ rfl) rfl rfl
  refine Call_ (ld_blt I hg2 hm2 (show bootBuiltins "set" = _ from rfl) ?_)
  refine PyProof.Rows.callWith_type1 (PyProof.Rows.args_cons (thn (ha.run pins s σ H _ I h) fun v s1 z => PyProof.Rows.args_nil ?_) na) na rfl
  obtain ⟨x, H1, I1, r1, l, ns, rfl, hq, hl, q1⟩ := z
  cases r1
  obtain ⟨its, r, pl, hz⟩ := I1.list hq
  have e : its.toArray.size = ns.length := by rw [List.size_toArray, ← r.length, List.length_map]
  refine call_set_list (I1.ok.hd hc) pl.isList (by simpa using RZ.intsAre_vals r) (by rw [e]; unfold scanBound; omega) fun h' tk hS hk => PyProof.Rows.args_nil ?_
  rw [e, firstMet_once ns.length (Nat.le_refl _), List.take_length] at hS
  obtain ⟨o, es, ep, t, ho, hex, hd, _, _, _, hf, hn⟩ := hS
  have I2 : Inv X pins σ H1 { s1 with heap := h', toks := tk } := I1.kept fun b o e => hk b o (Heap.lt_size e) e
  have sz : (once [] ns).length ≤ ns.length := by
    have := PyProof.Rows.firstMet_length_le (fun i => ns.getD i 0) ns.length
    rwa [firstMet_once ns.length (Nat.le_refl _), List.take_length] at this
  exact call_len_set ho hex hd hf (by rw [hn]; omega) ⟨.int (once [] ns).length, H1, I2.tok _, ⟨_, by rw [hn]⟩, q1⟩
end Sb

/-! A lambda with parameters that captures names of the def that makes it: entered, and run. -/
namespace Sb
open PySem PySem.Spec PyProof.Rows L2 LamX
/-- the names of a lambda: its parameters xs, captured ones, globals -/
structure LamP (sc scope : Scope) (xs : List Str) : Prop where
  kind : scope.kind = .function
  co : scope.isCoroutine = false
  gen : scope.isGenerator = false
  cel : ∀ y ∈ scope.names, y.2 ≠ .cell
  own : ∀ y ∈ scope.names, y.2 = .local → y.1 ∈ xs
  par : ∀ x ∈ xs, scope.names.lookup x = some .local
  free : ∀ y ∈ scope.names, y.2 = .free → sc.names.lookup y.1 = some .cell ∨ sc.names.lookup y.1 = some .free
def lamPB (sc scope : Scope) (xs : List Str) : Bool :=
  decide (scope.kind = .function) && !scope.isCoroutine && !scope.isGenerator && (scope.names.all fun y => !decide (y.2 = .cell) && (!decide (y.2 = .local) || xs.contains y.1) && (!decide (y.2 = .free) || decide (sc.names.lookup y.1 = some .cell) || decide (sc.names.lookup y.1 = some .free))) && xs.all fun x => decide (scope.names.lookup x = some .local)
theorem lamP_by {sc scope : Scope} {xs : List Str} (h : lamPB sc scope xs = true) : LamP sc scope xs := by
  unfold lamPB at h
  simp only [Bool.and_eq_true, Bool.or_eq_true, Bool.not_eq_true', decide_eq_true_eq, decide_eq_false_iff_not, List.all_eq_true, List.contains_iff_mem] at h
  obtain ⟨⟨⟨⟨a1, a2⟩, a3⟩, a4⟩, a5⟩ := h
  refine ⟨a1, a2, a3, fun y hy => (a4 y hy).1.1, fun y hy e => ((a4 y hy).1.2).resolve_left fun z => z e, a5, fun y hy e => ?_⟩
  rcases (a4 y hy).2 with (z | z) | z
  · exact absurd e z
  · exact .inl z
  · exact .inr z
theorem LamP.has {X : Cx} {scope : Scope} {xs : List Str} (L : LamP X.env.scope scope xs) (okx : X.Ok) : ∀ y ∈ scope.names, y.2 = .free → ∃ c, X.env.cells.lookup y.1 = some c := fun y hy e => okx.has _ (L.free y hy e)
/-- the context of the lambda's body -/
def lamCxP (X : Cx) (xs : List Str) (A : Around) (outer : List Env) (s : Shared) (H : Hp) (E : XK) (scope : Scope) (f c' : Addr) : Cx := { lamCx X A outer s H E scope f c' with N := xs ++ X.N }
theorem zip_at : ∀ {xs : List Str} {us : List Value} {i : Nat} {x : Str} {u : Value}, xs.Nodup → xs[i]? = some x → us[i]? = some u → (x, u) ∈ xs.zip us ∧ ∀ v, (x, v) ∈ xs.zip us → v = u
  | [], _, _, _, _, _, h, _ => by simp at h
  | _ :: _, [], _, _, _, _, _, h => by simp at h
  | y :: xs, w :: us, 0, x, u, n, h1, h2 => by
    simp at h1 h2
    subst h1 h2
    rw [List.nodup_cons] at n
    refine ⟨by simp, fun v hv => ?_⟩
    rw [List.zip_cons_cons] at hv
    rcases List.mem_cons.mp hv with e | e
    · simpa using e
    · exact absurd (List.of_mem_zip e).1 n.1
  | y :: xs, w :: us, i + 1, x, u, n, h1, h2 => by
    simp at h1 h2
    rw [List.nodup_cons] at n
    obtain ⟨a, b⟩ := zip_at n.2 h1 h2
    refine ⟨by simp [a], fun v hv => ?_⟩
    rw [List.zip_cons_cons] at hv
    rcases List.mem_cons.mp hv with e | e
    · simp at e
      exact absurd (e.1 ▸ List.mem_of_getElem? h1) n.1
    · exact b v e
theorem look_mem : ∀ {l : List (Str × Value)} {x : Str} {u : Value}, (x, u) ∈ l → (∀ v, (x, v) ∈ l → v = u) → l.lookup x = some u
  | (y, w) :: l, x, u, h, q => by
    rw [List.lookup_cons]
    cases e : x == y with
    | true =>
      have : x = y := by simpa using e
      subst this
      exact congrArg some (q w (by simp))
    | false =>
      refine look_mem ?_ fun v hv => q v (by simp [hv])
      rcases List.mem_cons.mp h with z | z
      · simp only [Prod.mk.injEq] at z
        rw [z.1] at e
        simp at e
      · exact z
section
variable {X : Cx} {pins : List (Addr × Obj)} {σ : L2.St} {H HZ : Hp} {s s1 : Shared}
theorem lam_startP {A : Around} {outer : List Env} {E : XK} {scope : Scope} {f c' : Addr} {hp : Heap} {tk : Nat} {xs : List Str} {us : List Value} {vs : List V} (I : Inv X pins σ H s) (L : LamP X.env.scope scope xs) (ez : Env0 X.prog X.w X.K X.mg X.base A outer s1 HZ) (hh : A.handled = none)
    (un : Un (frs X.stack) [] H HZ s.heap s1.heap) (names : hp.Ns s1.heap.objs.size fun y => (xs.zip us).reverse.lookup y) (stay : ∀ b o, s1.heap.get? b = some o → hp.get? b = some o) (rv : Vals vs us) (hl : vs.length = xs.length) (nd : xs.Nodup) (dj : ∀ x ∈ xs, x ∉ X.N) :
    Inv (lamCxP X xs A outer s1 HZ E scope f c') [] (vs.map some ++ σ) HZ { s1 with heap := hp, toks := tk } := by
  have captured := L.has I.ok
  have back : ∀ {y c}, (cloFrom X.env.cells scope.names []).lookup y = some c → X.env.cells.lookup y = some c := fun {y c} e => by
    rcases cloFrom_mem (PySem.mem_of_lookup e) with z | ⟨h1, h2⟩
    · cases z
    · obtain ⟨d, hd⟩ := captured _ h1 rfl
      have hd : X.env.cells.lookup y = some d := hd
      have : c = d := by rw [h2, hd] <;> rfl
      rw [this]; exact hd
  have there : ∀ {y}, scope.names.lookup y = some .free → ∃ c, (cloFrom X.env.cells scope.names []).lookup y = some c := fun {y} q => mem_lookup (cloFrom_has (cells := X.env.cells) (acc := []) (PySem.mem_of_lookup q : (y, NameKind.free) ∈ scope.names))
  have cells : ∀ {c : Addr} {v : Option Value}, H c = none → s.heap.IsCell c v → hp.IsCell c v := fun {c v} n ⟨o, ho, od⟩ => by
    obtain ⟨sl, q⟩ := un.any ho n (by simp)
    exact ⟨_, stay _ _ q, od⟩
  have none0 : ∀ b : Addr, b ∉ (lamCxP X xs A outer s1 HZ E scope f c').ex := fun b z => absurd (show b ∈ ([] : List Addr) from z) (by simp)
  have okz : (lamCxP X xs A outer s1 HZ E scope f c').Ok := by
    refine ⟨ez.mod, L.kind, rfl, rfl, Nat.le_refl _, fun y z c e1 e2 => I.ok.inj y z c (back e1) (back e2), fun y hy => ?_, fun y c z _ => ?_, fun _ => hh, Around.frames_deeper ez.frames, .inr ⟨rfl, rfl⟩, fun b z => absurd z (none0 b), ez.bs, ez.bsz, fun b _ _ => none0 b, fun b z => absurd z (none0 b), ez.funs, ez.frf⟩
    · have hy : scope.names.lookup y = some .cell ∨ scope.names.lookup y = some .free := hy
      exact hy.elim (fun q => absurd rfl (L.cel _ (PySem.mem_of_lookup q))) there
    · exact nomatch (show false = true from z)
  refine ⟨okz, rfl, ez.bare, Un.kept stay, ⟨_, names, fun i y v e1 e2 e3 => ?_⟩, fun y c e => ?_, ez.hok.fresh (Nat.le_refl _), fun y c e => ?_, fun q hq => absurd (show q ∈ ([] : List (Addr × Obj)) ++ [] from hq) (by simp), ez.hok.kept stay, ?_⟩
  · have e1 : (xs ++ X.N)[i]? = some y := e1
    have e3 : Vis scope y := e3
    by_cases hi : i < xs.length
    · rw [List.getElem?_append_left hi] at e1
      rw [List.getElem?_append_left (by simpa [hl] using hi), List.getElem?_map] at e2
      obtain ⟨v', hv, e4⟩ := Option.map_eq_some_iff.mp e2
      cases e4
      obtain ⟨u, hu, ru⟩ := rv.get hv
      obtain ⟨m1, m2⟩ := zip_at nd e1 hu
      refine ⟨u, ru, .inl ⟨L.par y (List.mem_of_getElem? e1), look_mem (List.mem_reverse.mpr m1) fun v hv => m2 v (List.mem_reverse.mp hv)⟩⟩
    · rw [List.getElem?_append_right (by omega)] at e1
      rw [List.getElem?_append_right (by simpa [hl] using hi)] at e2
      have e2 : σ[i - xs.length]? = some (some v) := by simpa [hl] using e2
      rcases e3 with k | k | k
      · exact absurd (List.mem_of_getElem? e1) (dj y (L.own _ (PySem.mem_of_lookup k) rfl))
      · exact absurd rfl (L.cel _ (PySem.mem_of_lookup k))
      · obtain ⟨m, _, look⟩ := I.loc
        have fr := L.free _ (PySem.mem_of_lookup k) rfl
        obtain ⟨u, r, q⟩ := look _ y v e1 e2 (fr.elim (fun z => .inr (.inl z)) fun z => .inr (.inr z))
        obtain ⟨c2, h2⟩ := there k
        refine ⟨u, r, .inr ⟨.inr k, c2, h2, ?_⟩⟩
        rcases q with ⟨kl, _⟩ | ⟨_, c3, h3, z⟩
        · have kl : X.env.scope.names.lookup y = some .local := kl
          rcases fr with k2 | k2
          · have k2 : X.env.scope.names.lookup y = some .cell := k2
            rw [kl] at k2; cases k2
          · have k2 : X.env.scope.names.lookup y = some .free := k2
            rw [kl] at k2; cases k2
        · have h4 := back h2
          rw [h3] at h4
          cases h4
          exact cells (I.freeC y _ h3) z
  · obtain ⟨v, z⟩ := I.cell y c (back e)
    exact ⟨v, cells (I.freeC y c (back e)) z⟩
  · obtain ⟨v, o, ho, _⟩ := I.cell y c (back e)
    exact un.free c o ho (I.freeC y c (back e)) (by simp)
  · show (vs.map some ++ σ).length = (xs ++ X.N).length
    rw [List.length_append, List.length_append, List.length_map, hl, I.len]
/-- the lambda called, from anywhere behind its making -/
theorem lam_runP {A : Around} {outer : List Env} {E : XK} {params : Arguments} {body : Expr} {scope : Scope} {f c' : Addr} {pm ctv : Value} {k : Nat} {xs : List Str} {us : List Value} {vs : List V} {Q : VK} {t : TE} (I : Inv X pins σ H s) (L : LamP X.env.scope scope xs)
    (hf : s.heap.get? f = some (PySem.W.kla_obj "<lambda>" (X.env.qual ++ "<lambda>") params body scope (cloFrom X.env.cells scope.names []) pm c' ctv)) (hfn : H f = none) (hfr : f ∉ frs X.stack)
    (bind : bindArgs (PySem.W.kla_fn "<lambda>" (X.env.qual ++ "<lambda>") params body scope (cloFrom X.env.cells scope.names []) pm (.ref c') ctv) ⟨us, []⟩ = pure (xs.zip us))
    (ez : Env0 X.prog X.w X.K X.mg X.base A outer s1 HZ) (un : Un (frs X.stack) [] H HZ s.heap s1.heap) (hc : HZ c' = some (CodeO c' (X.env.qual ++ "<lambda>"))) (hr : Room (k + 1) A) (rv : Vals vs us) (hl : vs.length = xs.length) (nd : xs.Nodup) (dj : ∀ x ∈ xs, x ∉ X.N)
    (hbody : Room k (A.deeper (lamEnv X scope s1.heap.objs.size f c')) → PE (lamCxP X xs A outer s1 HZ E scope f c') body t) (h : t (vs.map some ++ σ) HZ Q) :
    codeAny (model X.prog X.w) A (.call (.ref f) ⟨us, []⟩) (CR (L2.CX X.prog X.w) outer X.prog X.w HZ s1 Q E) s1 := by
  have here : s1.heap.get? f = some (PySem.W.kla_obj "<lambda>" (X.env.qual ++ "<lambda>") params body scope (cloFrom X.env.cells scope.names []) pm c' ctv) := un.keep f _ hf hfn hfr (by simp)
  obtain ⟨⟨oc, ws, tn, gc, dc, nc⟩, _, _⟩ := ez.hok c' _ hc
  have lim : s1.heap.NoLimit := ez.mod.nolimit.keeps fun b o e => (ez.bs b o e).1
  refine PySem.W.kla_callFunE hr.depth here rfl L.co L.gen rfl ⟨c', oc, ws, tn, rfl, gc, dc, nc⟩ ?_
  rw [bind]
  refine wpAny_pure (wpAny_newFunctionEnv L.cel (fun y hy => L.par y.1 (List.of_mem_zip (b := y.2) hy).1) (fun hp names sb => ⟨lim.fresh _ sb, ?_⟩) L.kind)
  show codeAny _ _ (.expr body (lamEnv X scope s1.heap.objs.size f c')) _ _
  have stay : ∀ b o, s1.heap.get? b = some o → hp.get? b = some o := fun b o e => sb.extBut b o (Nat.ne_of_lt (Heap.lt_size e)) (Heap.get?_push_of_some _ e)
  have J := lam_startP (E := E) (f := f) (c' := c') (tk := s1.toks + (xs.zip us).length) I L ez hr.hd un names stay rv hl nd dj
  refine PySem.W.kla_codeExpr (wpAny_mono ((hbody (hr.deeper _)).run [] _ _ HZ Q J h) (fun v s2 hq => ?_) fun e s2 hq => hq)
  obtain ⟨y, H2, J2, ry, q⟩ := hq
  exact ⟨y, H2, J2.os, J2.bare, J2.base, J2.hok, ry, q⟩
/-- what stays over a call stays over its caller's call -/
theorem Un.thru {fs : List Addr} {x : Addr} {H1 H2 : Hp} {h h1 h2 : Heap} (a : Un fs [] H H1 h h1) (b : Un (x :: fs) [] H1 H2 h1 h2) (hx : h.get? x = none) : Un fs [] H H2 h h2 := by
  have ne : ∀ {c : Addr} {o : Obj}, h.get? c = some o → c ≠ x := fun e z => by rw [z, hx] at e; cases e
  refine ⟨fun c o e n hc hz => ?_, fun c o e n hc hz => ?_, fun c o e n hz => ?_, fun c o e hz => ?_, fun c xs q => b.tups c xs (a.tups c xs q), fun c o u q => b.frzs c o u (a.frzs c o u q), fun c ps q => ?_⟩
  · exact b.keep c o (a.keep c o e n hc hz) (a.free c o e n hz) (by simp [ne e, hc]) hz
  · obtain ⟨sl, e1⟩ := a.slot c o e n hc hz
    obtain ⟨sm, e2⟩ := b.slot c _ e1 (a.free c o e n hz) (by simp [hc]) hz
    exact ⟨sm, e2⟩
  · obtain ⟨o1, e1⟩ := a.there c o e hz
    exact b.free c o1 e1 (a.free c o e n hz) hz
  · obtain ⟨o1, e1⟩ := a.there c o e hz
    exact b.there c o1 e1 hz
  · obtain ⟨m, e1⟩ := a.tbls c ps q
    obtain ⟨m2, e2⟩ := b.tbls c _ e1
    exact ⟨m ++ m2, by rw [e2, Array.append_assoc]⟩
end
end Sb

/-! {k: v}, the key of any kind. -/
namespace Sb
open PySem PySem.Spec PyProof.Rows L2
section
variable {X : Cx} {k v : Expr} {tk tv : TE} {pos : Pos}
def tNdisp (w : World) (K : W.Frag) (tk tv : TE) : TE := fun σ H Q => ∀ p, H p = none → tk σ (upd H p (NdO w p [])) fun x H1 => tv σ H1 fun y H2 => ∃ n, H2 p = some (NdO w p []) ∧ KeyV K H2 n x ∧ n.depth ≤ 8 ∧ Q (.ref p) (upd H2 p (NdO w p (nput [] n x y)))
theorem pe_ndisp (hu : X.A.units + 8 < cLine) (hk : PE X k tk) (hv : PE X v tv) : PE X (.Dict [some k] [v] pos) (tNdisp X.w X.K tk tv) := ⟨fun pins s σ H Q I q => by
  have hn := I.hok.fresh (Nat.le_refl s.heap.objs.size)
  have I1 := I.laid (a := s.heap.objs.size) (o := NdO X.w s.heap.objs.size []) (h' := s.heap.push { cls := .type "dict", data := .dict #[] }) (t' := s.toks) (fun _ _ q => Heap.get?_push_of_some _ q) (Nat.le_refl _) (ndo_empty s.heap I.big)
  rw [arm_eval_Dict, zip_pairTrees [some k] [v] X.env pos rfl rfl, dictDisplay_pairs _ (by simp [pairTrees]) (by simp [pairTrees])]
  refine wpAny_bind (wpAny_standAt (wpAny_bind ?_))
  unfold subDict
  refine wpAny_bind (wpAny_alloc ?_)
  refine wpAny_bind (wpAny_holding ?_)
  rw [if_pos (by simp [pairTrees])]
  refine wpAny_bind (pairTrees_cons_walk (thn (hk.run pins _ σ _ _ I1 (q _ hn)) fun u s1 ⟨x, H1, I1, rx, q1⟩ => thn (hv.run pins s1 σ H1 _ I1 q1) fun w2 s2 ⟨y, H2, I2, ry, n, e, kk, dn, q2⟩ => pairTrees_nil_walk ?_))
  refine wpAny_holding ?_
  rw [List.forIn_cons]
  refine wpAny_bind (wpAny_bind (wpAny_bind (ndr_set hu I2 e (fun _ h => nomatch h) (Nat.zero_lt_succ _) kk dn rx ry fun s3 I3 => wpAny_pure ?_)))
  simp only [List.forIn_nil]
  refine wpAny_pure (wpAny_pure (wpAny_pure (wpAny_pure ?_)))
  exact ⟨.ref s.heap.objs.size, _, I3, rfl, q2⟩⟩
end
end Sb

/-! The layer of data: tuples by value, mutable things by address. -/
namespace Sb
open PySem PySem.Spec L2

/-- the frame, and the world whose hashes are meant -/
structure Kw where
  k : PySem.W.Frag
  w : World
  mg : Str → Option Value
@[reducible] def Kw.fr (K : Kw) : PySem.W.Frag := K.k
instance : CoeOut Kw PySem.W.Frag := ⟨Kw.k⟩
@[reducible] def _root_.L2.Cx.kw (X : Cx) : Kw := ⟨X.K, X.w, X.mg⟩
/-- data -/
inductive Dv where
  | non | bl (b : Bool) | int (i : Int) | str (x : Str) | ty (n : String) | ref (a : Addr) | tup (l : List Dv)
  /-- the script, which never changes -/
  | scr (ns : List Int)

/-- a list that never changes -/
def SqZ (K : Kw) (H : Hp) (a : Addr) (xs : List V) : Prop :=
  (∃ o, H a = some (.frz o (.lst xs))) ∨
    ∃ (o : Obj) (its : Array Value) (n : Nat), K.k.lookup a = some o ∧ o.cls = .type "list" ∧ o.dict = none ∧ o.data = .seq its n ∧ its.size ≤ sizeLine ∧ Vals xs its.toList
theorem SqZ.l {K : Kw} {H : Hp} {a : Addr} {xs : List V} (h : SqZ K H a xs) : SqL K H a xs := h.elim (fun q => .inl (.inr q)) .inr

mutual
def Rep (K : Kw) (H : Hp) : Dv → V → Prop
  | .non, v => v = .non
  | .bl b, v => v = .bl b
  | .int i, v => v = .int i
  | .str x, v => v = .str x
  | .ty n, v => v = .ty n
  | .ref a, v => v = .ref a
  | .tup ds, v => ∃ a xs, v = .ref a ∧ SqN K H a xs ∧ Reps K H ds xs
  | .scr ns, v => ∃ a, v = .ref a ∧ SqZ K H a (ns.map V.int)
def Reps (K : Kw) (H : Hp) : List Dv → List V → Prop
  | [], xs => xs = []
  | d :: ds, xs => ∃ y ys, xs = y :: ys ∧ Rep K H d y ∧ Reps K H ds ys
end

section
variable {K : Kw} {H H' : Hp}
/-- tuples stay, and the script -/
structure Keep (K : Kw) (H H' : Hp) : Prop where
  t : ∀ a xs, SqN K H a xs → SqN K H' a xs
  z : ∀ a xs, SqZ K H a xs → SqZ K H' a xs
theorem Keep.refl : Keep K H H := ⟨fun _ _ h => h, fun _ _ h => h⟩
theorem Keep.trans {H1 H2 : Hp} (a : Keep K H H1) (b : Keep K H1 H2) : Keep K H H2 := ⟨fun c xs h => b.t c xs (a.t c xs h), fun c xs h => b.z c xs (a.z c xs h)⟩
theorem Keep.upd {a : Addr} {o : HO} (h : ∀ u, H a = some u → (∀ xs, u ≠ .tup xs) ∧ ∀ ob w, u ≠ .frz ob w) : Keep K H (upd H a o) := by
  have ne : ∀ {b : Addr} {u : HO}, H b = some u → ((∃ xs, u = .tup xs) ∨ ∃ ob w, u = .frz ob w) → b ≠ a := fun {b u} e q z => by
    subst z
    obtain ⟨h1, h2⟩ := h u e
    rcases q with ⟨xs, q⟩ | ⟨ob, w, q⟩
    · exact h1 xs q
    · exact h2 ob w q
  refine ⟨fun b xs q => ?_, fun b xs q => ?_⟩
  · rcases q with ⟨ob, q, qd⟩ | q
    · exact .inl ⟨ob, by rw [upd_ne (ne q (.inr ⟨_, _, rfl⟩))]; exact q, qd⟩
    · exact .inr q
  · rcases q with ⟨ob, q⟩ | q
    · exact .inl ⟨ob, by rw [upd_ne (ne q (.inr ⟨_, _, rfl⟩))]; exact q⟩
    · exact .inr q
theorem Keep.new {a : Addr} {o : HO} (h : H a = none) : Keep K H (L2.upd H a o) := Keep.upd fun u e => by rw [h] at e; cases e
mutual
theorem Rep.keep (k : Keep K H H') : ∀ (d : Dv) (v : V), Rep K H d v → Rep K H' d v
  | .non, _, h => by simpa only [Rep] using h
  | .bl _, _, h => by simpa only [Rep] using h
  | .int _, _, h => by simpa only [Rep] using h
  | .str _, _, h => by simpa only [Rep] using h
  | .ty _, _, h => by simpa only [Rep] using h
  | .ref _, _, h => by simpa only [Rep] using h
  | .tup ds, v, h => by
    simp only [Rep] at h ⊢
    obtain ⟨a, xs, e, q, r⟩ := h
    exact ⟨a, xs, e, k.t _ _ q, Reps.keep k ds xs r⟩
  | .scr ns, v, h => by
    simp only [Rep] at h ⊢
    obtain ⟨a, e, q⟩ := h
    exact ⟨a, e, k.z _ _ q⟩
theorem Reps.keep (k : Keep K H H') : ∀ (ds : List Dv) (xs : List V), Reps K H ds xs → Reps K H' ds xs
  | [], _, h => by simpa only [Reps] using h
  | d :: ds, xs, h => by
    simp only [Reps] at h ⊢
    obtain ⟨y, ys, e, q, r⟩ := h
    exact ⟨y, ys, e, Rep.keep k d y q, Reps.keep k ds ys r⟩
end
theorem Reps.length : ∀ {ds : List Dv} {xs : List V}, Reps K H ds xs → xs.length = ds.length
  | [], _, h => by simp only [Reps] at h; rw [h]; rfl
  | d :: ds, _, h => by
    simp only [Reps] at h
    obtain ⟨y, ys, rfl, _, r⟩ := h
    simp [Reps.length r]
theorem Reps.nil : Reps K H [] [] := by simp only [Reps]
theorem Reps.cons {d : Dv} {ds : List Dv} {x : V} {xs : List V} (a : Rep K H d x) (b : Reps K H ds xs) : Reps K H (d :: ds) (x :: xs) := by
  simp only [Reps]; exact ⟨x, xs, rfl, a, b⟩
theorem Reps.nil_inv {xs : List V} (h : Reps K H [] xs) : xs = [] := by simpa only [Reps] using h
theorem Reps.cons_inv {d : Dv} {ds : List Dv} {xs : List V} (h : Reps K H (d :: ds) xs) : ∃ y ys, xs = y :: ys ∧ Rep K H d y ∧ Reps K H ds ys := by simpa only [Reps] using h
theorem Reps.append : ∀ {ds es : List Dv} {xs ys : List V}, Reps K H ds xs → Reps K H es ys → Reps K H (ds ++ es) (xs ++ ys)
  | [], _, _, _, h, q => by rw [h.nil_inv]; exact q
  | d :: ds, _, _, _, h, q => by
    obtain ⟨y, ys, rfl, a, b⟩ := h.cons_inv
    exact .cons a (Reps.append b q)
theorem Reps.get : ∀ {ds : List Dv} {xs : List V} {i : Nat} {d : Dv}, Reps K H ds xs → ds[i]? = some d → ∃ x, xs[i]? = some x ∧ Rep K H d x
  | [], _, _, _, _, e => by simp at e
  | d :: ds, _, 0, _, h, e => by
    obtain ⟨y, ys, rfl, a, b⟩ := h.cons_inv
    simp at e; subst e
    exact ⟨y, rfl, a⟩
  | d :: ds, _, i + 1, _, h, e => by
    obtain ⟨y, ys, rfl, a, b⟩ := h.cons_inv
    simpa using Reps.get (i := i) b (by simpa using e)
theorem Reps.set : ∀ {ds : List Dv} {xs : List V} (i : Nat) {d : Dv} {x : V}, Reps K H ds xs → Rep K H d x → Reps K H (ds.set i d) (xs.set i x)
  | [], _, _, _, _, h, _ => by rw [h.nil_inv]; exact .nil
  | d :: ds, _, 0, _, _, h, q => by
    obtain ⟨y, ys, rfl, a, b⟩ := h.cons_inv
    exact .cons q b
  | d :: ds, _, i + 1, _, _, h, q => by
    obtain ⟨y, ys, rfl, a, b⟩ := h.cons_inv
    exact .cons a (Reps.set i b q)
theorem Reps.take : ∀ {ds : List Dv} {xs : List V} (n : Nat), Reps K H ds xs → Reps K H (ds.take n) (xs.take n)
  | _, _, 0, _ => by simp only [List.take_zero]; exact .nil
  | [], _, _ + 1, h => by rw [h.nil_inv]; exact .nil
  | d :: ds, _, n + 1, h => by
    obtain ⟨y, ys, rfl, a, b⟩ := h.cons_inv
    exact .cons a (Reps.take n b)
theorem Reps.drop : ∀ {ds : List Dv} {xs : List V} (n : Nat), Reps K H ds xs → Reps K H (ds.drop n) (xs.drop n)
  | _, _, 0, h => h
  | [], _, _ + 1, h => by rw [h.nil_inv]; exact .nil
  | d :: ds, _, n + 1, h => by
    obtain ⟨y, ys, rfl, a, b⟩ := h.cons_inv
    exact Reps.drop n b
theorem Reps.eraseIdx : ∀ {ds : List Dv} {xs : List V} (i : Nat), Reps K H ds xs → Reps K H (ds.eraseIdx i) (xs.eraseIdx i)
  | [], _, _, h => by rw [h.nil_inv]; simp; exact .nil
  | d :: ds, _, 0, h => by
    obtain ⟨y, ys, rfl, a, b⟩ := h.cons_inv
    exact b
  | d :: ds, _, i + 1, h => by
    obtain ⟨y, ys, rfl, a, b⟩ := h.cons_inv
    exact .cons a (Reps.eraseIdx i b)
theorem Reps.ints (ns : List Int) : Reps K H (ns.map Dv.int) (ns.map V.int) := by
  induction ns with
  | nil => exact .nil
  | cons n ns ih => exact .cons (by simp only [Rep]) ih
end

/-- a field: a value, a list or a dict that belongs to the object alone -/
inductive Fv where
  | val (d : Dv) | lst (ds : List Dv) | dct (kvs : List (Dv × Dv))
/-- what stands at an address -/
inductive O where
  /-- a dict over keys of any depth -/
  | ndc (kvs : List (Dv × Dv))
  /-- the same, locked while it is walked -/
  | fzn (o : Obj) (es : NL V V) (kvs : List (Dv × Dv))
  /-- an object that hides its lists and dicts -/
  | obj (c : Str) (fs : List (Str × Fv))
  | lst (ds : List Dv)
  /-- a dict -/
  | dct (kvs : List (Dv × Dv))
  | ins (c : Str) (fs : List (Str × Dv))
  /-- a law's pen: [cells, at, digits] -/
  | pen
  /-- the dict of an exception -/
  | xd (fs : List (Str × Dv))
  /-- a table of code objects of the name q -/
  | tab (q : Str)
abbrev Store := Addr → Option O
def up (S : Store) (a : Addr) (o : O) : Store := fun b => if b = a then some o else S b
theorem up_same {S : Store} {a : Addr} {o : O} : up S a o a = some o := by unfold up; rw [if_pos rfl]
theorem up_ne {S : Store} {a b : Addr} {o : O} (h : b ≠ a) : up S a o b = S b := by unfold up; rw [if_neg h]
theorem up_up {S : Store} {a : Addr} {o u : O} : up (up S a o) a u = up S a u := by
  funext b; unfold up; split <;> rfl
theorem up_none {S : Store} {a b : Addr} {o : O} : (up S a o b = none) ↔ (b ≠ a ∧ S b = none) := by
  unfold up
  by_cases h : b = a
  · rw [if_pos h]; simp [h]
  · rw [if_neg h]; simp [h]
theorem up_comm {S : Store} {a b : Addr} {o u : O} (h : a ≠ b) : up (up S a o) b u = up (up S b u) a o := by
  funext c; unfold up
  by_cases h1 : c = b
  · subst h1; simp [Ne.symm h]
  · by_cases h2 : c = a
    · subst h2; simp [h1]
    · simp [h1, h2]
theorem up_self {S : Store} {a : Addr} {o : O} (h : S a = some o) : up S a o = S := by
  funext b; unfold up
  by_cases e : b = a
  · subst e; rw [if_pos rfl, h]
  · rw [if_neg e]
theorem some_ne {S : Store} {a b : Addr} {o : O} (h : S a = some o) (h' : S b = none) : a ≠ b := by
  intro e; subst e; rw [h] at h'; cases h'

/-- two lists of pairs with the same names, their values alike -/
def Named {κ : Type} (K : Kw) (H : Hp) (fs : List (κ × Dv)) (ys : List (κ × V)) : Prop := ys.map (·.1) = fs.map (·.1) ∧ Reps K H (fs.map (·.2)) (ys.map (·.2))

/-- a key -/
def kD : Key → Dv
  | .inl i => .int i
  | .inr x => .str x
theorem kD_inj : ∀ {k l : Key}, kD k = kD l → k = l
  | .inl _, .inl _, h => by simp only [kD, Dv.int.injEq] at h; rw [h]
  | .inr _, .inr _, h => by simp only [kD, Dv.str.injEq] at h; rw [h]
  | .inl _, .inr _, h => by simp [kD] at h
  | .inr _, .inl _, h => by simp [kD] at h
/-- a dict: its keys and values, in order -/
def DctAt (K : Kw) (H : Hp) (a : Addr) (kvs : List (Dv × Dv)) : Prop :=
  ∃ ys : List (Key × V), H a = some (.dK ys) ∧ kvs.map (·.1) = ys.map (fun y => kD y.1) ∧ Reps K H (kvs.map (·.2)) (ys.map (·.2))
theorem DctAt.there {K : Kw} {H : Hp} {a : Addr} {kvs : List (Dv × Dv)} (h : DctAt K H a kvs) : H a ≠ none := by
  obtain ⟨ys, e, _⟩ := h; rw [e]; simp
theorem DctAt.plain {K : Kw} {H : Hp} {a : Addr} {kvs : List (Dv × Dv)} (h : DctAt K H a kvs) : ∀ u, H a = some u → (∀ xs, u ≠ .tup xs) ∧ ∀ ob w, u ≠ .frz ob w := fun u e => by
  obtain ⟨ys, q, _⟩ := h; rw [q] at e; cases e; exact ⟨fun _ q => HO.noConfusion q, fun _ _ q => HO.noConfusion q⟩
theorem DctAt.frame {K : Kw} {H H' : Hp} {a : Addr} {kvs : List (Dv × Dv)} (h : DctAt K H a kvs) (k : Keep K H H') (e : H' a = H a) : DctAt K H' a kvs := by
  obtain ⟨ys, q, n, r⟩ := h; exact ⟨ys, e.trans q, n, r.keep k⟩

mutual
/-- a key of any depth -/
def nkD : Dv → Option NestedKey
  | .non => some .none
  | .int i => some (.num i)
  | .str x => some (.text x)
  | .tup ds => (nkDs ds).map .tup
  | .bl _ => none
  | .ty _ => none
  | .ref _ => none
  | .scr _ => none
def nkDs : List Dv → Option (List NestedKey)
  | [] => some []
  | d :: ds => (nkD d).bind fun k => (nkDs ds).map fun ks => k :: ks
end
/-- the entries of a dict over data keys -/
def KVn (K : Kw) (H : Hp) : List (Dv × Dv) → NL V V → Prop
  | [], es => es = []
  | p :: kvs, es => ∃ k x y es', es = (k, x, y) :: es' ∧ nkD p.1 = some k ∧ k.depth ≤ 8 ∧ Rep K H p.1 x ∧ Rep K H p.2 y ∧ KVn K H kvs es'
theorem KVn.keep {K : Kw} {H H' : Hp} (k : Keep K H H') : ∀ {kvs : List (Dv × Dv)} {es : NL V V}, KVn K H kvs es → KVn K H' kvs es
  | [], _, h => h
  | p :: kvs, es, h => by
    obtain ⟨a, x, y, es', e, h1, h2, h3, h4, h5⟩ := h
    exact ⟨a, x, y, es', e, h1, h2, h3.keep k, h4.keep k, KVn.keep k h5⟩
def NdcAt (K : Kw) (H : Hp) (a : Addr) (kvs : List (Dv × Dv)) : Prop := ∃ es : NL V V, H a = some (NdO K.w a es) ∧ KVn K H kvs es
theorem NdcAt.there {K : Kw} {H : Hp} {a : Addr} {kvs : List (Dv × Dv)} (h : NdcAt K H a kvs) : H a ≠ none := by
  obtain ⟨ys, e, _⟩ := h; rw [e]; simp
theorem NdcAt.plain {K : Kw} {H : Hp} {a : Addr} {kvs : List (Dv × Dv)} (h : NdcAt K H a kvs) : ∀ u, H a = some u → (∀ xs, u ≠ .tup xs) ∧ ∀ ob w, u ≠ .frz ob w := fun u e => by
  obtain ⟨ys, q, _⟩ := h; rw [q] at e; cases e; exact ⟨fun _ q => HO.noConfusion q, fun _ _ q => HO.noConfusion q⟩
theorem NdcAt.frame {K : Kw} {H H' : Hp} {a : Addr} {kvs : List (Dv × Dv)} (h : NdcAt K H a kvs) (k : Keep K H H') (e : H' a = H a) : NdcAt K H' a kvs := by
  obtain ⟨ys, q, n⟩ := h; exact ⟨ys, e.trans q, n.keep k⟩

/-- own: the hidden objects, by what they belong to -/
abbrev Own := Addr → Option Addr
/-- the fields of an object that hides its lists and dicts -/
def FvsAt (K : Kw) (H : Hp) (own : Own) (a : Addr) : List (Str × Fv) → List (Str × V) → List Addr → Prop
  | [], ys, hs => ys = [] ∧ hs = []
  | (n, .val d) :: fs, ys, hs => ∃ v ys', ys = (n, v) :: ys' ∧ Rep K H d v ∧ FvsAt K H own a fs ys' hs
  | (n, .lst ds) :: fs, ys, hs => ∃ l xs ys' hs', ys = (n, .ref l) :: ys' ∧ hs = l :: hs' ∧ own l = some a ∧ H l = some (.lst xs) ∧ Reps K H ds xs ∧ FvsAt K H own a fs ys' hs'
  | (n, .dct kvs) :: fs, ys, hs => ∃ l ys' hs', ys = (n, .ref l) :: ys' ∧ hs = l :: hs' ∧ own l = some a ∧ NdcAt K H l kvs ∧ FvsAt K H own a fs ys' hs'
theorem FvsAt.frame {K : Kw} {H H' : Hp} {own own' : Own} {a : Addr} (k : Keep K H H') (ho : ∀ c, own c = some a → own' c = some a) (he : ∀ c, own c = some a → H c ≠ none → H' c = H c) : ∀ {fs : List (Str × Fv)} {ys : List (Str × V)} {hs : List Addr}, FvsAt K H own a fs ys hs → FvsAt K H' own' a fs ys hs
  | [], _, _, h => h
  | (n, .val d) :: fs, _, _, h => by
    obtain ⟨v, ys', e, r, t⟩ := h
    exact ⟨v, ys', e, r.keep k, FvsAt.frame k ho he t⟩
  | (n, .lst ds) :: fs, _, _, h => by
    obtain ⟨l, xs, ys', hs', e1, e2, o, e3, r, t⟩ := h
    exact ⟨l, xs, ys', hs', e1, e2, ho l o, (he l o (by rw [e3]; simp)).trans e3, r.keep k, FvsAt.frame k ho he t⟩
  | (n, .dct kvs) :: fs, _, _, h => by
    obtain ⟨l, ys', hs', e1, e2, o, r, t⟩ := h
    exact ⟨l, ys', hs', e1, e2, ho l o, r.frame k (he l o r.there), FvsAt.frame k ho he t⟩
/-- what may be written -/
def O.wr : O → Bool
  | .fzn _ _ _ => false
  | .ndc _ => true | .obj _ _ => true | .lst _ => true | .dct _ => true | .ins _ _ => true | .pen => true | .xd _ => true | .tab _ => false
def OK1 (K : Kw) (H : Hp) (own : Own) (a : Addr) : O → Prop
  | .fzn o es kvs => own a = none ∧ H a = some (.frz o (NdO K.w a es)) ∧ KVn K H kvs es
  | .ndc kvs => own a = none ∧ NdcAt K H a kvs
  | .obj c fs => own a = none ∧ ∃ C dx ys hs, K.mg c = some (.ref C) ∧ H a = some (.ins C dx ys) ∧ hs.Nodup ∧ FvsAt K H own a fs ys hs
  | .lst ds => own a = none ∧ ∃ xs, H a = some (.lst xs) ∧ Reps K H ds xs
  | .dct kvs => own a = none ∧ DctAt K H a kvs
  | .ins c fs => own a = none ∧ ∃ C dx ys, K.mg c = some (.ref C) ∧ H a = some (.ins C dx ys) ∧ Named K H fs ys
  | .pen => own a = none ∧ ∃ (l : Addr) (at_ dg : Int) (ns : List Int), H a = some (.lst [.ref l, .int at_, .int dg]) ∧ own l = some a ∧ H l = some (.lst (ns.map V.int)) ∧ 0 ≤ at_ ∧ ns.length ≤ 63
  | .xd fs => own a = none ∧ ∃ ys, H a = some (.xd ys) ∧ Named K H fs ys
  | .tab q => own a = none ∧ ∃ ps : Array Value, H a = some (.tbl ps) ∧ TriplesOk ps.toList ∧ ∀ (pos : Pos) (cv : Value), codeAmong pos ps.toList = some cv → ∃ c, cv = .ref c ∧ own c = some a ∧ H c = some (LamX.CodeO c q)
structure Rel (K : Kw) (S : Store) (H : Hp) : Prop where
  ex : ∃ own : Own, (∀ c a, own c = some a → S c = none ∧ H c ≠ none) ∧ ∀ a o, S a = some o → OK1 K H own a o

section
variable {K : Kw} {H H' : Hp} {S S' : Store} {own own' : Own} {a b p : Addr} {o o' : O} {u : HO}
theorem OK1.there (h : OK1 K H own a o) : H a ≠ none := by
  cases o with
  | lst ds => obtain ⟨_, xs, e, _⟩ := h; rw [e]; simp
  | dct ds => exact h.2.there
  | ndc ds => exact h.2.there
  | fzn o es ds => obtain ⟨_, e, _⟩ := h; rw [e]; simp
  | obj C ds => obtain ⟨_, _, dx, xs, _, _, e, _⟩ := h; rw [e]; simp
  | ins C ds => obtain ⟨_, _, dx, xs, _, e, _⟩ := h; rw [e]; simp
  | pen => obtain ⟨_, _, _, _, _, e, _⟩ := h; rw [e]; simp
  | xd fs => obtain ⟨_, _, e, _⟩ := h; rw [e]; simp
  | tab q => obtain ⟨_, _, e, _⟩ := h; rw [e]; simp
theorem OK1.mine (h : OK1 K H own a o) : own a = none := by
  cases o <;> exact h.1
theorem OK1.plain (h : OK1 K H own a o) (hw : o.wr = true) : ∀ u, H a = some u → (∀ xs, u ≠ .tup xs) ∧ ∀ ob w, u ≠ .frz ob w := fun u e => by
  cases o with
  | lst ds => obtain ⟨_, xs, q, _⟩ := h; rw [q] at e; cases e; exact ⟨fun _ q => HO.noConfusion q, fun _ _ q => HO.noConfusion q⟩
  | dct ds => exact h.2.plain u e
  | ndc ds => exact h.2.plain u e
  | fzn o es ds => exact absurd hw Bool.false_ne_true
  | obj C ds => obtain ⟨_, _, dx, xs, _, _, q, _⟩ := h; rw [q] at e; cases e; exact ⟨fun _ q => HO.noConfusion q, fun _ _ q => HO.noConfusion q⟩
  | ins C ds => obtain ⟨_, _, dx, xs, _, q, _⟩ := h; rw [q] at e; cases e; exact ⟨fun _ q => HO.noConfusion q, fun _ _ q => HO.noConfusion q⟩
  | pen => obtain ⟨_, _, _, _, _, q, _⟩ := h; rw [q] at e; cases e; exact ⟨fun _ q => HO.noConfusion q, fun _ _ q => HO.noConfusion q⟩
  | xd fs => obtain ⟨_, _, q, _⟩ := h; rw [q] at e; cases e; exact ⟨fun _ q => HO.noConfusion q, fun _ _ q => HO.noConfusion q⟩
  | tab q => exact absurd hw Bool.false_ne_true
theorem OK1.frame (h : OK1 K H own b o) (k : Keep K H H') (hown : own' b = own b) (ho2 : ∀ c, own c = some b → own' c = some b)
    (he : ∀ c, (c = b ∨ own c = some b) → H c ≠ none → H' c = H c) : OK1 K H' own' b o := by
  cases o with
  | lst ds => obtain ⟨w, xs, e, r⟩ := h; exact ⟨hown.trans w, xs, (he b (.inl rfl) (by rw [e]; simp)).trans e, r.keep k⟩
  | dct ds => exact ⟨hown.trans h.1, h.2.frame k (he b (.inl rfl) h.2.there)⟩
  | ndc ds => exact ⟨hown.trans h.1, h.2.frame k (he b (.inl rfl) h.2.there)⟩
  | fzn ob es ds => obtain ⟨w, e, r⟩ := h; exact ⟨hown.trans w, (he b (.inl rfl) (by rw [e]; simp)).trans e, r.keep k⟩
  | obj C fs =>
    obtain ⟨w, C, dx, ys, hs, hc, e, n, t⟩ := h
    exact ⟨hown.trans w, C, dx, ys, hs, hc, (he b (.inl rfl) (by rw [e]; simp)).trans e, n, t.frame k ho2 fun c hc => he c (.inr hc)⟩
  | ins C ds => obtain ⟨w, C, dx, xs, hc, e, n, r⟩ := h; exact ⟨hown.trans w, C, dx, xs, hc, (he b (.inl rfl) (by rw [e]; simp)).trans e, n, r.keep k⟩
  | pen =>
    obtain ⟨w, l, i, j, ns, e, wl, el, z⟩ := h
    exact ⟨hown.trans w, l, i, j, ns, (he b (.inl rfl) (by rw [e]; simp)).trans e, ho2 l wl, (he l (.inr wl) (by rw [el]; simp)).trans el, z⟩
  | xd fs => obtain ⟨w, ys, e, n, r⟩ := h; exact ⟨hown.trans w, ys, (he b (.inl rfl) (by rw [e]; simp)).trans e, n, r.keep k⟩
  | tab q =>
    obtain ⟨w, ps, e, t, cs⟩ := h
    refine ⟨hown.trans w, ps, (he b (.inl rfl) (by rw [e]; simp)).trans e, t, fun pos cv hc => ?_⟩
    obtain ⟨c, e1, oc, ec⟩ := cs pos cv hc
    exact ⟨c, e1, ho2 c oc, (he c (.inr oc) (by rw [ec]; simp)).trans ec⟩
theorem Rel.free (h : Rel K S H) (hp : H p = none) : S p = none := by
  obtain ⟨own, _, h2⟩ := h.ex
  cases e : S p with
  | none => rfl
  | some o => exact absurd hp (h2 p o e).there
/-- forgetting -/
theorem Rel.sub (h : Rel K S H) (hs : ∀ a o, S' a = some o → S a = some o) : Rel K S' H := by
  obtain ⟨own, h1, h2⟩ := h.ex
  refine ⟨own, fun c a e => ⟨?_, (h1 c a e).2⟩, fun a o e => h2 a o (hs a o e)⟩
  cases q : S' c with
  | none => rfl
  | some o =>
    have := hs c o q
    rw [(h1 c a e).1] at this; cases this
/-- an untracked new object -/
theorem Rel.new (h : Rel K S H) (hp : H p = none) : Rel K S (upd H p u) := by
  obtain ⟨own, h1, h2⟩ := h.ex
  have ne : ∀ c, H c ≠ none → c ≠ p := fun c q z => q (by rw [z]; exact hp)
  refine ⟨own, fun c a e => ⟨(h1 c a e).1, by rw [upd_ne (ne c (h1 c a e).2)]; exact (h1 c a e).2⟩, fun a o e => (h2 a o e).frame (.new hp) rfl (fun _ q => q) fun c _ q => upd_ne (ne c q)⟩
/-- a tracked new object -/
theorem Rel.laid (h : Rel K S H) (hp : H p = none) (hn : ∀ own : Own, own p = none → OK1 K (upd H p u) own p o) : Rel K (up S p o) (upd H p u) := by
  obtain ⟨own, h1, h2⟩ := h.ex
  have ne : ∀ c, H c ≠ none → c ≠ p := fun c q z => q (by rw [z]; exact hp)
  have op : own p = none := by
    cases q : own p with
    | none => rfl
    | some a => exact absurd hp (h1 p a q).2
  refine ⟨own, fun c a e => ⟨?_, by rw [upd_ne (ne c (h1 c a e).2)]; exact (h1 c a e).2⟩, fun a o e => ?_⟩
  · rw [up_ne (ne c (h1 c a e).2)]; exact (h1 c a e).1
  · by_cases ha : a = p
    · subst ha; rw [up_same] at e; cases e; exact hn own op
    · rw [up_ne ha] at e
      exact (h2 a _ e).frame (.new hp) rfl (fun _ q => q) fun c _ q => upd_ne (ne c q)
/-- an object changed -/
theorem Rel.writeK (h : Rel K S H) (e : S a = some o) (kp : Keep K H (upd H a u)) (hn : ∀ own : Own, (∀ c b, own c = some b → S c = none) → OK1 K H own a o → OK1 K (upd H a u) own a o') : Rel K (up S a o') (upd H a u) := by
  obtain ⟨own, h1, h2⟩ := h.ex
  have oa : own a = none := (h2 a o e).mine
  have nc : ∀ c b, own c = some b → c ≠ a := fun c b q z => by rw [z, oa] at q; cases q
  refine ⟨own, fun c b q => ⟨?_, ?_⟩, fun b ob q => ?_⟩
  · rw [up_ne (nc c b q)]; exact (h1 c b q).1
  · rw [upd_ne (nc c b q)]; exact (h1 c b q).2
  · by_cases hb : b = a
    · subst hb; rw [up_same] at q; cases q
      exact hn own (fun c b q => (h1 c b q).1) (h2 b o e)
    · rw [up_ne hb] at q
      refine (h2 b ob q).frame kp rfl (fun _ q => q) fun c hc _ => ?_
      rcases hc with hc | hc
      · rw [hc]; exact upd_ne hb
      · exact upd_ne (nc c b hc)
theorem Rel.write (h : Rel K S H) (e : S a = some o) (hn : ∀ own : Own, (∀ c b, own c = some b → S c = none) → OK1 K H own a o → OK1 K (upd H a u) own a o') (hw : o.wr = true := by rfl) : Rel K (up S a o') (upd H a u) :=
  h.writeK e (let ⟨_, _, h2⟩ := h.ex; .upd (OK1.plain (h2 a o e) hw)) hn
end

/-! ### slots -/
abbrev DSt := List (Option Dv)
structure Wd (K : Kw) (H0 : Hp) (σ : St) (δ : DSt) (S : Store) (H : Hp) : Prop where
  base : Keep K H0 H
  rel : Rel K S H
  len : σ.length = δ.length
  slot : ∀ (i : Nat) (d : Dv), δ[i]? = some (some d) → ∃ v, σ[i]? = some (some v) ∧ Rep K H d v
theorem Wd.keep {K : Kw} {H0 : Hp} {σ : St} {δ : DSt} {S S' : Store} {H H' : Hp} (w : Wd K H0 σ δ S H) (k : Keep K H H') (r : Rel K S' H') : Wd K H0 σ δ S' H' :=
  ⟨w.base.trans k, r, w.len, fun i d e => let ⟨v, e1, q⟩ := w.slot i d e; ⟨v, e1, q.keep k⟩⟩
theorem Wd.set {K : Kw} {H0 : Hp} {σ : St} {δ : DSt} {S : Store} {H : Hp} {i : Nat} {d : Dv} {v : V} (w : Wd K H0 σ δ S H) (r : Rep K H d v) : Wd K H0 (σ.set i (some v)) (δ.set i (some d)) S H := by
  refine ⟨w.base, w.rel, by simp [w.len], fun j e he => ?_⟩
  by_cases hj : j = i
  · subst hj
    have hl : j < δ.length := by
      have := (List.getElem?_eq_some_iff.mp he).1
      simpa using this
    rw [List.getElem?_set_self hl] at he
    cases he
    exact ⟨v, List.getElem?_set_self (by rw [w.len]; exact hl), r⟩
  · rw [List.getElem?_set_ne (Ne.symm hj)] at he ⊢
    exact w.slot j e he

/-! ### readings over data -/
abbrev DK := Dv → Store → Prop
abbrev DTE := DSt → Store → DK → Prop
abbrev DTT := DSt → Store → (Bool → Store → Prop) → Prop
abbrev DTA := DSt → Store → (List Dv → Store → Prop) → Prop
structure DEnds where
  nx : DSt → Store → Prop
  rt : DK
  bk : DSt → Store → Prop := fun _ _ => False
  ct : DSt → Store → Prop := fun _ _ => False
abbrev DTS := DEnds → DSt → Store → Prop

/-- what is wanted of a value -/
def PV (K : Kw) (H : Hp) (P : DK) (Q : VK) : Prop := ∀ d S', P d S' → ∀ v H', Keep K H H' → Rel K S' H' → Rep K H' d v → Q v H'
def liftE (K : Kw) (H0 : Hp) (t : DTE) : TE := fun σ H Q => ∃ δ S P, Wd K H0 σ δ S H ∧ t δ S P ∧ PV K H P Q
def liftT (K : Kw) (H0 : Hp) (t : DTT) : TT := fun σ H Q => ∃ δ S P, Wd K H0 σ δ S H ∧ t δ S P ∧ ∀ b S', P b S' → ∀ H', Keep K H H' → Rel K S' H' → Q b H'
def liftA (K : Kw) (H0 : Hp) (t : DTA) : TA := fun σ H Q => ∃ δ S P, Wd K H0 σ δ S H ∧ t δ S P ∧ ∀ ds S', P ds S' → ∀ vs H', Keep K H H' → Rel K S' H' → Reps K H' ds vs → Q vs H'
structure PD (K : Kw) (H0 H : Hp) (D' : DEnds) (D : Ends) : Prop where
  nx : ∀ δ1 S1, D'.nx δ1 S1 → ∀ σ1 H1, Keep K H H1 → Wd K H0 σ1 δ1 S1 H1 → D.nx σ1 H1
  bk : ∀ δ1 S1, D'.bk δ1 S1 → ∀ σ1 H1, Keep K H H1 → Wd K H0 σ1 δ1 S1 H1 → D.bk σ1 H1
  ct : ∀ δ1 S1, D'.ct δ1 S1 → ∀ σ1 H1, Keep K H H1 → Wd K H0 σ1 δ1 S1 H1 → D.ct σ1 H1
  rt : PV K H D'.rt D.rt
def liftS (K : Kw) (H0 : Hp) (t : DTS) : TS := fun D σ H => ∃ δ S D', Wd K H0 σ δ S H ∧ t D' δ S ∧ PD K H0 H D' D
theorem PV.keep {K : Kw} {H H1 : Hp} {P : DK} {Q : VK} (h : PV K H P Q) (k : Keep K H H1) : PV K H1 P Q := fun d S' p v H' k' r q => h d S' p v H' (k.trans k') r q
theorem PD.keep {K : Kw} {H0 H H1 : Hp} {D' : DEnds} {D : Ends} (h : PD K H0 H D' D) (k : Keep K H H1) : PD K H0 H1 D' D :=
  ⟨fun δ S p σ H' k' w => h.nx δ S p σ H' (k.trans k') w, fun δ S p σ H' k' w => h.bk δ S p σ H' (k.trans k') w, fun δ S p σ H' k' w => h.ct δ S p σ H' (k.trans k') w, h.rt.keep k⟩

theorem _root_.L2.PE.to {X : Cx} {e : Expr} {t t' : TE} (h : PE X e t) (i : ∀ σ H Q, t' σ H Q → t σ H Q) : PE X e t' := ⟨fun pins s σ H Q I q => h.run pins s σ H Q I (i σ H Q q)⟩
theorem _root_.L2.PT.to {X : Cx} {e : Expr} {t t' : TT} (h : PT X e t) (i : ∀ σ H Q, t' σ H Q → t σ H Q) : PT X e t' := ⟨fun pins s σ H Q I q => h.run pins s σ H Q I (i σ H Q q)⟩
theorem _root_.L2.PW.to {X : Cx} {e : Expr} {t t' : TT} (h : PW X e t) (i : ∀ σ H Q, t' σ H Q → t σ H Q) : PW X e t' := ⟨fun wh pins s σ H Q I q => h.run wh pins s σ H Q I (i σ H Q q)⟩
theorem _root_.L2.PA.to {X : Cx} {e : List Expr} {t t' : TA} (h : PA X e t) (i : ∀ σ H Q, t' σ H Q → t σ H Q) : PA X e t' := ⟨fun pos pins s σ H Q I q => h.run pos pins s σ H Q I (i σ H Q q)⟩
theorem _root_.L2.PS.to {X : Cx} {e : Stmt} {t t' : TS} (h : PS X e t) (i : ∀ D σ H, t' D σ H → t D σ H) : PS X e t' := ⟨fun pins s σ H D I q => h.run pins s σ H D I (i D σ H q)⟩
theorem _root_.L2.PSs.to {X : Cx} {e : List Stmt} {t t' : TS} (h : PSs X e t) (i : ∀ D σ H, t' D σ H → t D σ H) : PSs X e t' := ⟨fun pins s σ H D I q => h.run pins s σ H D I (i D σ H q)⟩
theorem _root_.L2.PG.to {X : Cx} {e : Expr} {t t' : TG} (h : PG X e t) (i : ∀ v σ H Q, t' v σ H Q → t v σ H Q) : PG X e t' := ⟨fun pins s σ H v u Q I r q => h.run pins s σ H v u Q I r (i v σ H Q q)⟩
theorem _root_.L2.PGs.to {X : Cx} {e : List Expr} {t t' : TGs} (h : PGs X e t) (i : ∀ v σ H Q, t' v σ H Q → t v σ H Q) : PGs X e t' := ⟨fun pins s σ H v u Q I r q => h.run pins s σ H v u Q I r (i v σ H Q q)⟩
theorem _root_.L2.PI.to {X : Cx} {tg e : Expr} {t t' : TI} (h : PI X tg e t) (i : ∀ σ H Q, t' σ H Q → t σ H Q) : PI X tg e t' := ⟨fun pins s σ H Q I q => h.run pins s σ H Q I (i σ H Q q)⟩

abbrev DE (X : Cx) (H0 : Hp) (e : Expr) (t : DTE) : Prop := PE X e (liftE X.kw H0 t)
abbrev DT (X : Cx) (H0 : Hp) (e : Expr) (t : DTT) : Prop := PT X e (liftT X.kw H0 t)
abbrev DW (X : Cx) (H0 : Hp) (e : Expr) (t : DTT) : Prop := PW X e (liftT X.kw H0 t)
abbrev DA (X : Cx) (H0 : Hp) (e : List Expr) (t : DTA) : Prop := PA X e (liftA X.kw H0 t)
abbrev DS (X : Cx) (H0 : Hp) (e : Stmt) (t : DTS) : Prop := PS X e (liftS X.kw H0 t)
abbrev DSs (X : Cx) (H0 : Hp) (e : List Stmt) (t : DTS) : Prop := PSs X e (liftS X.kw H0 t)
end Sb

/-! Rules over data: expressions. -/
namespace Sb
open PySem PySem.Spec L2

section
variable {X : Cx} {H0 : Hp} {a b c : Expr} {ta tb tc : DTE} {pos : Pos}

/-! ### names, constants -/
@[simp] def dVar (i : Nat) : DTE := fun δ S P => match δ[i]? with | some (some d) => P d S | _ => False
@[simp] def dC (d : Dv) : DTE := fun _ S P => P d S
theorem dVar_some {i : Nat} {δ : DSt} {S : Store} {P : DK} (h : dVar i δ S P) : ∃ d, δ[i]? = some (some d) ∧ P d S := by
  unfold dVar at h
  split at h
  · exact ⟨_, by assumption, h⟩
  · exact h.elim
theorem dv (i : Nat) {x : Str} {pos : Pos} (hN : X.N[i]? = some x := by rfl) (hv : Vis X.env.scope x := by first | exact Or.inl rfl | exact Or.inr (Or.inl rfl) | exact Or.inr (Or.inr rfl)) (hd : (x == ("__debug__" : Str)) = false := by decide)
    (hcd : (x == ("__classdict__" : Str)) = false := by decide) : DE X H0 (.Name x pos) (dVar i) := (pe_var hN hv hd hcd).to fun σ H Q h => by
  obtain ⟨δ, S, P, w, ht, hp⟩ := h
  obtain ⟨d, e, q⟩ := dVar_some ht
  obtain ⟨v, ev, r⟩ := w.slot i d e
  exact ⟨v, ev, hp d S q v H .refl w.rel r⟩
theorem lift_C {K : Kw} {d : Dv} {v : V} (hr : ∀ H, Rep K H d v) : ∀ σ H Q, liftE K H0 (dC d) σ H Q → tC v σ H Q := fun σ H Q h => by
  obtain ⟨δ, S, P, w, ht, hp⟩ := h
  exact hp d S ht v H .refl w.rel (hr H)
theorem de_int {i : Int} {j pos} : DE X H0 (.Constant (.int i) j pos) (dC (.int i)) := pe_int.to (lift_C fun _ => by simp only [Rep])
theorem de_bl {i : Bool} {j pos} : DE X H0 (.Constant (.bool i) j pos) (dC (.bl i)) := pe_bl.to (lift_C fun _ => by simp only [Rep])
theorem de_non {j pos} : DE X H0 (.Constant .none j pos) (dC .non) := pe_non.to (lift_C fun _ => by simp only [Rep])
theorem de_str {x : Str} {j pos} : DE X H0 (.Constant (.str x) j pos) (dC (.str x)) := pe_str.to (lift_C fun _ => by simp only [Rep])

/-! ### two places -/
abbrev G2 := Dv → Dv → Store → DK → Prop
def Bin (K : Kw) (g : G2) (r : R2) : Prop := ∀ d e S P, g d e S P → ∀ v u H Q, Rel K S H → Rep K H d v → Rep K H e u → PV K H P Q → r v u H Q
@[simp] def dBin (g : G2) (ta tb : DTE) : DTE := fun δ S P => ta δ S fun d S1 => tb δ S1 fun e S2 => g d e S2 P
theorem bin_lift {K : Kw} {g : G2} {r : R2} (h : Bin K g r) : ∀ σ H Q, liftE K H0 (dBin g ta tb) σ H Q → tOp r (liftE K H0 ta) (liftE K H0 tb) σ H Q := fun σ H Q q => by
  obtain ⟨δ, S, P, w, ht, hp⟩ := q
  refine ⟨δ, S, _, w, ht, fun d S1 q1 v H1 k1 r1 p1 => ⟨δ, S1, _, w.keep k1 r1, q1, fun e S2 q2 u H2 k2 r2 p2 => ?_⟩⟩
  exact h d e S2 P q2 v u H2 Q r2 (p1.keep k2) p2 (hp.keep (k1.trans k2))
/-- an operation told by data -/
def OpG (X : Cx) (f : Value → Value → Sem Value) (g : G2) : Prop := ∃ r, OpR X f r ∧ Bin X.kw g r
theorem de_op {op : Operator} {g : G2} (o : OpG X (binaryOp op) g) (ha : DE X H0 a ta) (hb : DE X H0 b tb) : DE X H0 (.BinOp a op b pos) (dBin g ta tb) := let ⟨_, h1, h2⟩ := o; (pe_op h1 ha hb).to (bin_lift h2)
theorem de_cmp {op : CmpOp} {g : G2} (o : OpG X (compareOp op) g) (ha : DE X H0 a ta) (hb : DE X H0 b tb) (h1 : behindInMarks op b = false := by first | exact nobehind _ (by decide) (by decide) | rfl) : DE X H0 (.Compare a [op] [b] pos) (dBin g ta tb) := let ⟨_, h1', h2⟩ := o; (pe_cmpR h1' ha hb h1).to (bin_lift h2)
theorem OpR.or {f : Value → Value → Sem Value} {r r' : R2} (h : OpR X f r) (h' : OpR X f r') : OpR X f (fun x y H Q => r x y H Q ∨ r' x y H Q) := fun pins s σ H x y v u Q I rx ry q =>
  q.elim (h pins s σ H x y v u Q I rx ry) (h' pins s σ H x y v u Q I rx ry)
theorem Bin.or1 {K : Kw} {g : G2} {r r' : R2} (h : Bin K g r) : Bin K g (fun x y H Q => r x y H Q ∨ r' x y H Q) := fun d e S P q v u H Q a b c z => .inl (h d e S P q v u H Q a b c z)
theorem Bin.or2 {K : Kw} {g : G2} {r r' : R2} (h : Bin K g r') : Bin K g (fun x y H Q => r x y H Q ∨ r' x y H Q) := fun d e S P q v u H Q a b c z => .inr (h d e S P q v u H Q a b c z)
/-- two ints under a condition -/
@[simp] def gI (C : Int → Int → Prop) (f : Int → Int → Dv) : G2 := fun d e S P => match d, e with | .int i, .int j => C i j ∧ P (f i j) S | _, _ => False
@[simp] def gI0 (f : Int → Int → Dv) : G2 := fun d e S P => match d, e with | .int i, .int j => P (f i j) S | _, _ => False
theorem gI_inv {C : Int → Int → Prop} {f : Int → Int → Dv} {d e : Dv} {S : Store} {P : DK} (h : gI C f d e S P) : ∃ i j, d = .int i ∧ e = .int j ∧ C i j ∧ P (f i j) S := by
  unfold gI at h
  split at h
  · exact ⟨_, _, rfl, rfl, h⟩
  · exact h.elim
theorem gI0_inv {f : Int → Int → Dv} {d e : Dv} {S : Store} {P : DK} (h : gI0 f d e S P) : ∃ i j, d = .int i ∧ e = .int j ∧ P (f i j) S := by
  unfold gI0 at h
  split at h
  · exact ⟨_, _, rfl, rfl, h⟩
  · exact h.elim
theorem rep_int {K : Kw} {H : Hp} {i : Int} {v : V} : Rep K H (.int i) v ↔ v = .int i := by simp only [Rep]
theorem rep_bl {K : Kw} {H : Hp} {i : Bool} {v : V} : Rep K H (.bl i) v ↔ v = .bl i := by simp only [Rep]
theorem rep_str {K : Kw} {H : Hp} {i : Str} {v : V} : Rep K H (.str i) v ↔ v = .str i := by simp only [Rep]
theorem rep_ref {K : Kw} {H : Hp} {i : Addr} {v : V} : Rep K H (.ref i) v ↔ v = .ref i := by simp only [Rep]
theorem rep_non {K : Kw} {H : Hp} {v : V} : Rep K H .non v ↔ v = .non := by simp only [Rep]
theorem rep_tup {K : Kw} {H : Hp} {ds : List Dv} {v : V} : Rep K H (.tup ds) v ↔ ∃ a xs, v = .ref a ∧ SqN K H a xs ∧ Reps K H ds xs := by simp only [Rep]
theorem rep_scr {K : Kw} {H : Hp} {ns : List Int} {v : V} : Rep K H (.scr ns) v ↔ ∃ a, v = .ref a ∧ SqZ K H a (ns.map V.int) := by simp only [Rep]
theorem bin_I {K : Kw} {C : Int → Int → Prop} {g : Int → Int → V} {f : Int → Int → Dv} (hg : ∀ H i j, Rep K H (f i j) (g i j)) : Bin K (gI C f) (rI C g) := fun d e S P q v u H Q r1 rv ru hp => by
  obtain ⟨i, j, rfl, rfl, hc, q⟩ := gI_inv q
  exact ⟨i, j, rep_int.mp rv, rep_int.mp ru, hc, hp _ _ q _ _ .refl r1 (hg H i j)⟩
theorem bin_I0 {K : Kw} {g : Int → Int → V} {f : Int → Int → Dv} (hg : ∀ H i j, Rep K H (f i j) (g i j)) : Bin K (gI0 f) (rI0 g) := fun d e S P q v u H Q r1 rv ru hp => by
  obtain ⟨i, j, rfl, rfl, q⟩ := gI0_inv q
  exact ⟨i, j, rep_int.mp rv, rep_int.mp ru, hp _ _ q _ _ .refl r1 (hg H i j)⟩
abbrev gSub : G2 := gI0 fun i j => .int (i - j)
abbrev gMod : G2 := gI (fun _ j => 0 < j) fun i j => .int (i % j)
abbrev gDiv : G2 := gI CDiv fun i j => .int (i / j)
abbrev gDivW : G2 := gI CDivW fun i j => .int (i / j)
abbrev gPow : G2 := gI CPow fun i j => .int (i ^ j.toNat)
abbrev gMul : G2 := gI CMul fun i j => .int (i * j)
abbrev gMulW : G2 := gI CMulW fun i j => .int (i * j)
theorem o_sub : OpG X (binaryOp .Sub) (gSub) := ⟨_, op_sub, bin_I0 fun _ _ _ => rep_int.mpr rfl⟩
theorem o_mod : OpG X (binaryOp .Mod) (gMod) := ⟨_, op_mod, bin_I fun _ _ _ => rep_int.mpr rfl⟩
theorem o_fdiv : OpG X (binaryOp .FloorDiv) (gDiv) := ⟨_, op_fdiv, bin_I fun _ _ _ => rep_int.mpr rfl⟩
theorem o_fdivW : OpG X (binaryOp .FloorDiv) (gDivW) := ⟨_, op_fdivW, bin_I fun _ _ _ => rep_int.mpr rfl⟩
theorem o_pow : OpG X (binaryOp .Pow) (gPow) := ⟨_, op_pow, bin_I fun _ _ _ => rep_int.mpr rfl⟩
theorem o_mul : OpG X (binaryOp .Mult) (gMul) := ⟨_, op_mul, bin_I fun _ _ _ => rep_int.mpr rfl⟩
theorem o_mulW : OpG X (binaryOp .Mult) (gMulW) := ⟨_, op_mulW, bin_I fun _ _ _ => rep_int.mpr rfl⟩
/-- + of ints, tuples, lists, texts -/
@[simp] def gAdd : G2 := fun d e S P => match d, e with
  | .int i, .int j => P (.int (i + j)) S
  | .tup xs, .tup ys => xs.length + ys.length ≤ sizeLine ∧ P (.tup (xs ++ ys)) S
  | .str x, .str y => x.length + y.length ≤ sizeLine ∧ P (.str (x ++ y)) S
  | .ref p, .ref q => match S p, S q with
    | some (.lst xs), some (.lst ys) => xs.length + ys.length ≤ sizeLine ∧ ∀ l, S l = none → P (.ref l) (up S l (.lst (xs ++ ys)))
    | _, _ => False
  | _, _ => False
theorem Rel.get {K : Kw} {S : Store} {H : Hp} {a : Addr} {o : O} (h : Rel K S H) (e : S a = some o) : ∃ own, OK1 K H own a o := let ⟨own, _, h2⟩ := h.ex; ⟨own, h2 a o e⟩
theorem Rel.lst {K : Kw} {S : Store} {H : Hp} {a : Addr} {ds : List Dv} (h : Rel K S H) (e : S a = some (.lst ds)) : ∃ xs, H a = some (.lst xs) ∧ Reps K H ds xs := let ⟨_, _, q⟩ := h.get e; q
theorem Rel.dct {K : Kw} {S : Store} {H : Hp} {a : Addr} {ds : List (Dv × Dv)} (h : Rel K S H) (e : S a = some (.dct ds)) : DctAt K H a ds := let ⟨_, _, q⟩ := h.get e; q
theorem Rel.ins {K : Kw} {S : Store} {H : Hp} {a : Addr} {c : Str} {fs : List (Str × Dv)} (h : Rel K S H) (e : S a = some (.ins c fs)) : ∃ C dx ys, K.mg c = some (.ref C) ∧ H a = some (.ins C dx ys) ∧ Named K H fs ys := let ⟨_, _, q⟩ := h.get e; q
theorem rep_new_tup {K : Kw} {H : Hp} {p : Addr} {ds : List Dv} {xs : List V} {o : Obj} (ho : o.dict = none) (hp : H p = none) (r : Reps K H ds xs) : Rep K (upd H p (.frz o (.tup xs))) (.tup ds) (.ref p) :=
  rep_tup.mpr ⟨p, xs, rfl, .inl ⟨o, upd_same, ho⟩, Reps.keep (Keep.new hp) _ _ r⟩
/-- wanted of a new tuple -/
theorem PV.tup {K : Kw} {S : Store} {H : Hp} {P : DK} {Q : VK} {ds : List Dv} {xs : List V} (h : PV K H P Q) (r : Rel K S H) (rs : Reps K H ds xs) (q : P (.tup ds) S) : NewT H xs Q := fun _ _ hp ho =>
  h _ _ q _ _ (.new hp) (r.new hp) (rep_new_tup ho hp rs)
theorem PV.lst {K : Kw} {S : Store} {H : Hp} {P : DK} {Q : VK} {p : Addr} {ds : List Dv} {xs : List V} (h : PV K H P Q) (r : Rel K S H) (rs : Reps K H ds xs) (q : ∀ l, S l = none → P (.ref l) (up S l (.lst ds))) (hp : H p = none) : Q (.ref p) (upd H p (.lst xs)) :=
  h _ _ (q p (r.free hp)) _ _ (.new hp) (r.laid hp fun own ow => ⟨ow, xs, upd_same, Reps.keep (Keep.new hp) _ _ rs⟩) (rep_ref.mpr rfl)
theorem o_add : OpG X (binaryOp .Add) gAdd := by
  refine ⟨_, ((op_add.or op_catN).or (op_cat.or op_add_str)), fun d e S P q v u H Q r rv ru hp => ?_⟩
  unfold gAdd at q
  split at q
  · exact .inl (.inl ⟨_, _, rep_int.mp rv, rep_int.mp ru, hp _ _ q _ _ .refl r (rep_int.mpr rfl)⟩)
  · obtain ⟨hl, q⟩ := q
    obtain ⟨p1, xs, rfl, t1, s1⟩ := rep_tup.mp rv
    obtain ⟨p2, ys, rfl, t2, s2⟩ := rep_tup.mp ru
    refine .inl (.inr ⟨p1, p2, xs, ys, rfl, rfl, t1.t, t2.t, by rw [s1.length, s2.length]; exact hl, fun e => ?_, fun _ e => ?_, fun _ _ => ?_⟩)
    · subst e
      have := s1.append s2
      exact hp _ _ q _ _ .refl r (rep_tup.mpr ⟨p2, ys, rfl, t2, by simpa using this⟩)
    · subst e
      have := s1.append s2
      exact hp _ _ q _ _ .refl r (rep_tup.mpr ⟨p1, xs, rfl, t1, by simpa using this⟩)
    · exact hp.tup r (s1.append s2) q
  · exact .inr (.inr ⟨_, _, rep_str.mp rv, rep_str.mp ru, q.1, hp _ _ q.2 _ _ .refl r (rep_str.mpr rfl)⟩)
  · rename_i p1 p2
    split at q
    · rename_i e1 e2
      obtain ⟨xs, h1, s1⟩ := r.lst e1
      obtain ⟨ys, h2, s2⟩ := r.lst e2
      exact .inr (.inl ⟨p1, p2, xs, ys, rep_ref.mp rv, rep_ref.mp ru, h1, h2, by rw [s1.length, s2.length]; exact q.1, fun p hpn => hp.lst r (s1.append s2) q.2 hpn⟩)
    · exact q.elim
  · exact q.elim
/-- -a -/
@[simp] def gNeg : Dv → Store → DK → Prop := fun d S P => match d with | .int i => P (.int (-i)) S | _ => False
@[simp] def dUn (g : Dv → Store → DK → Prop) (ta : DTE) : DTE := fun δ S P => ta δ S fun d S1 => g d S1 P
theorem de_neg (ha : DE X H0 a ta) : DE X H0 (.UnaryOp .USub a pos) (dUn gNeg ta) := (pe_un un_neg ha).to fun σ H Q h => by
  obtain ⟨δ, S, P, w, ht, hp⟩ := h
  refine ⟨δ, S, _, w, ht, fun d S1 q v H1 k1 r1 p1 => ?_⟩
  unfold gNeg at q
  split at q
  · exact ⟨_, rep_int.mp p1, hp _ _ q _ _ k1 r1 (rep_int.mpr rfl)⟩
  · exact q.elim

/-! ### comparisons -/
@[simp] def gCmp (f : Int → Int → Bool) : G2 := gI0 fun i j => .bl (f i j)
theorem bin_cmp {K : Kw} {f : Int → Int → Bool} : Bin K (gCmp f) (rI0 fun i j => .bl (f i j)) := bin_I0 fun _ _ _ => rep_bl.mpr rfl
theorem c_lt : OpG X (compareOp .Lt) ((gCmp fun i j => decide (i < j))) := ⟨_, op_lt, bin_cmp⟩
theorem c_le : OpG X (compareOp .LtE) ((gCmp fun i j => decide (i ≤ j))) := ⟨_, op_le, bin_cmp⟩
theorem c_gt : OpG X (compareOp .Gt) ((gCmp fun i j => decide (j < i))) := ⟨_, op_gt, bin_cmp⟩
theorem c_ge : OpG X (compareOp .GtE) ((gCmp fun i j => decide (j ≤ i))) := ⟨_, op_ge, bin_cmp⟩
end
end Sb

/-! Rules over data: tests, equality, displays, subscripts, calls. -/
namespace Sb
open PySem PySem.Spec L2

/-! ### what a value is as data -/
mutual
@[simp] def datE (f : Addr → Option PyData) : Dv → Option PyData
  | .non => some .none
  | .bl b => some (.bool b)
  | .int i => some (.int i)
  | .str x => some (.str x)
  | .ty _ => none
  | .ref a => f a
  | .tup ds => (datEs f ds).map .tuple
  | .scr ns => some (.list (ns.map .int))
@[simp] def datEs (f : Addr → Option PyData) : List Dv → Option (List PyData)
  | [] => some []
  | d :: ds => (datE f d).bind fun x => (datEs f ds).map fun xs => x :: xs
end
def res (S : Store) : Nat → Addr → Option PyData
  | 0, _ => none
  | n + 1, a => match S a with
    | some (.lst ds) => (datEs (res S n) ds).map .list
    | _ => none
/-- the data of a value, lists in lists at most four deep -/
def dat (S : Store) (d : Dv) : Option PyData := datE (res S 4) d
section
variable {K : Kw} {H0 : Hp} {S : Store} {H : Hp}
theorem dp_ints : ∀ ns : List Int, DpAll K H (ns.map V.int) (ns.map PyData.int)
  | [] => .nil
  | n :: ns => .cons (.int n) (dp_ints ns)
mutual
theorem dp_of {f : Addr → Option PyData} (hf : ∀ a x, f a = some x → Dp K H (.ref a) x) : ∀ (d : Dv) (v : V) (x : PyData), datE f d = some x → Rep K H d v → Dp K H v x
  | .non, v, x, e, r => by simp only [datE, Option.some.injEq] at e; rw [rep_non.mp r, ← e]; exact .non
  | .bl b, v, x, e, r => by simp only [datE, Option.some.injEq] at e; rw [rep_bl.mp r, ← e]; exact .bl b
  | .int b, v, x, e, r => by simp only [datE, Option.some.injEq] at e; rw [rep_int.mp r, ← e]; exact .int b
  | .str b, v, x, e, r => by simp only [datE, Option.some.injEq] at e; rw [rep_str.mp r, ← e]; exact .str b
  | .ty n, v, x, e, r => by simp [datE] at e
  | .ref a, v, x, e, r => by simp only [datE] at e; rw [rep_ref.mp r]; exact hf a x e
  | .scr ns, v, x, e, r => by
    simp only [datE, Option.some.injEq] at e
    obtain ⟨a, rfl, q⟩ := rep_scr.mp r
    rw [← e]; exact .lst q.l (dp_ints ns)
  | .tup ds, v, x, e, r => by
    simp only [datE] at e
    obtain ⟨xs, e1, rfl⟩ := Option.map_eq_some_iff.mp e
    obtain ⟨a, ys, rfl, q, rs⟩ := rep_tup.mp r
    exact .tup q.t (dps_of hf ds ys xs e1 rs)
theorem dps_of {f : Addr → Option PyData} (hf : ∀ a x, f a = some x → Dp K H (.ref a) x) : ∀ (ds : List Dv) (vs : List V) (xs : List PyData), datEs f ds = some xs → Reps K H ds vs → DpAll K H vs xs
  | [], vs, xs, e, r => by simp only [datEs, Option.some.injEq] at e; rw [r.nil_inv, ← e]; exact .nil
  | d :: ds, vs, xs, e, r => by
    simp only [datEs] at e
    obtain ⟨x, e1, e2⟩ := Option.bind_eq_some_iff.mp e
    obtain ⟨xs', e3, rfl⟩ := Option.map_eq_some_iff.mp e2
    obtain ⟨y, ys, rfl, r1, r2⟩ := r.cons_inv
    exact .cons (dp_of hf d y x e1 r1) (dps_of hf ds ys xs' e3 r2)
end
theorem dp_res (r : Rel K S H) : ∀ (n : Nat) (a : Addr) (x : PyData), res S n a = some x → Dp K H (.ref a) x
  | 0, _, _, e => by simp [res] at e
  | n + 1, a, x, e => by
    simp only [res] at e
    split at e
    · rename_i ds e0
      obtain ⟨xs, e1, rfl⟩ := Option.map_eq_some_iff.mp e
      obtain ⟨ys, h, rs⟩ := r.lst e0
      exact .lst (.of h) (dps_of (dp_res r n) ds ys xs e1 rs)
    · cases e
theorem dp_dat (r : Rel K S H) {d : Dv} {v : V} {x : PyData} (e : dat S d = some x) (p : Rep K H d v) : Dp K H v x := dp_of (dp_res r 4) d v x e p
end

section
variable {X : Cx} {H0 : Hp} {a b c : Expr} {ta tb tc : DTE} {pos : Pos}
/-! ### ==, in -/
/-- values that the rule of scalars compares -/
def scl : Dv → Dv → Bool
  | .non, .non => true | .non, .int _ => true | .int _, .non => true | .non, .bl _ => true | .bl _, .non => true | .non, .str _ => true | .str _, .non => true
  | .int _, .int _ => true | .bl _, .bl _ => true | .str _, .str _ => true | .int _, .str _ => true | .str _, .int _ => true | .bl _, .str _ => true | .str _, .bl _ => true
  | _, _ => false
theorem scl_rep {K : Kw} {H : Hp} {d e : Dv} {v u : V} (h : scl d e = true) (r1 : Rep K H d v) (r2 : Rep K H e u) : scal v u = true ∧ (v = u ↔ d = e) := by
  cases d <;> cases e <;> first | exact absurd (show false = true from h) Bool.false_ne_true | skip
  all_goals first
    | (have r1 := rep_non.mp r1) | (have r1 := rep_bl.mp r1) | (have r1 := rep_int.mp r1) | (have r1 := rep_str.mp r1)
  all_goals first
    | (have r2 := rep_non.mp r2) | (have r2 := rep_bl.mp r2) | (have r2 := rep_int.mp r2) | (have r2 := rep_str.mp r2)
  all_goals subst r1 r2; simp [scal]
open Classical in
def gEqF (f : Bool → Bool) : G2 := fun d e S P => if scl d e = true then P (.bl (f (decide (d = e)))) S else match dat S d, dat S e with
  | some x, some y => SeqAt.shaped x = true ∧ SeqAt.shaped y = true ∧ P (.bl (f (PyData.eqv x y))) S
  | _, _ => False
abbrev gEq : G2 := gEqF id
abbrev gNe : G2 := gEqF not
open Classical in
theorem c_eq (hu : X.A.units + 64 < cLine) : OpG X (compareOp .Eq) gEq := ⟨_, op_eq.or (op_eqD hu), fun d e S P q v u H Q r rv ru hp => by
  unfold gEq gEqF at q
  split at q
  · rename_i h
    obtain ⟨h1, h2⟩ := scl_rep h rv ru
    refine .inl ⟨h1, hp _ _ q _ _ .refl r (rep_bl.mpr ?_)⟩
    simp [h2]
  split at q
  · rename_i x y e1 e2
    exact .inr ⟨x, y, dp_dat r e1 rv, dp_dat r e2 ru, q.1, q.2.1, hp _ _ q.2.2 _ _ .refl r (rep_bl.mpr rfl)⟩
  · exact q.elim⟩
open Classical in
theorem c_ne (hu : X.A.units + 64 < cLine) : OpG X (compareOp .NotEq) gNe := ⟨_, op_ne.or (op_neD hu), fun d e S P q v u H Q r rv ru hp => by
  unfold gNe gEqF at q
  split at q
  · rename_i h
    obtain ⟨h1, h2⟩ := scl_rep h rv ru
    refine .inl ⟨h1, hp _ _ q _ _ .refl r (rep_bl.mpr ?_)⟩
    simp [h2]
  split at q
  · rename_i x y e1 e2
    exact .inr ⟨x, y, dp_dat r e1 rv, dp_dat r e2 ru, q.1, q.2.1, hp _ _ q.2.2 _ _ .refl r (rep_bl.mpr rfl)⟩
  · exact q.elim⟩
/-- in a list or a tuple -/
def gInF (f : Bool → Bool) : G2 := fun d e S P => match dat S d, dat S e with
  | some x, some (.list ys) => SeqAt.shaped x = true ∧ SeqAt.shaped (.list ys) = true ∧ P (.bl (f (ys.any fun z => PyData.eqv z x))) S
  | some x, some (.tuple ys) => SeqAt.shaped x = true ∧ SeqAt.shaped (.tuple ys) = true ∧ P (.bl (f (ys.any fun z => PyData.eqv z x))) S
  | _, _ => False
def rInT (f : Bool → Bool) (K : Kw) : R2 := fun x y H Q => ∃ d ds, Dp K H x d ∧ Dp K H y (.tuple ds) ∧ SeqAt.shaped d = true ∧ SeqAt.shaped (.tuple ds) = true ∧ Q (.bl (f (ds.any fun z => PyData.eqv z d))) H
theorem o_inT (hu : X.A.units + 65 < cLine) : OpR X (compareOp .In) (rInT id X.kw) := by
  intro pins s σ H x y v u Q I rx ry h
  obtain ⟨d, ds, hd, he, sd, se, q⟩ := h
  obtain ⟨_, r1⟩ := Dp.reads I d x v hd rx
  obtain ⟨_, r2⟩ := Dp.reads I (.tuple ds) y u he ry
  refine SeqAt.in_tuple_reads r2 r1 (SeqAt.canLay_of_shaped se) (SeqAt.canLay_of_shaped sd) ?_ ⟨.bl _, H, I, rfl, q⟩
  exact PyProof.Rows.room_in_shaped sd hu
theorem o_notInT (hu : X.A.units + 65 < cLine) : OpR X (compareOp .NotIn) (rInT not X.kw) := by
  intro pins s σ H x y v u Q I rx ry h
  obtain ⟨d, ds, hd, he, sd, se, q⟩ := h
  obtain ⟨_, r1⟩ := Dp.reads I d x v hd rx
  obtain ⟨_, r2⟩ := Dp.reads I (.tuple ds) y u he ry
  refine SeqAt.notIn_tuple_reads r2 r1 (SeqAt.canLay_of_shaped se) (SeqAt.canLay_of_shaped sd) ?_ ⟨.bl _, H, I, rfl, q⟩
  exact PyProof.Rows.room_in_shaped sd hu
theorem c_in (hu : X.A.units + 65 < cLine) : OpG X (compareOp .In) (gInF id) := ⟨_, (op_inD hu).or (o_inT hu), fun d e S P q v u H Q r rv ru hp => by
  unfold gInF at q
  split at q
  · rename_i x y e1 e2
    exact .inl ⟨x, y, dp_dat r e1 rv, dp_dat r e2 ru, q.1, q.2.1, hp _ _ q.2.2 _ _ .refl r (rep_bl.mpr rfl)⟩
  · rename_i x y e1 e2
    exact .inr ⟨x, y, dp_dat r e1 rv, dp_dat r e2 ru, q.1, q.2.1, hp _ _ q.2.2 _ _ .refl r (rep_bl.mpr rfl)⟩
  · exact q.elim⟩
theorem c_notIn (hu : X.A.units + 65 < cLine) : OpG X (compareOp .NotIn) (gInF not) := ⟨_, (op_notInD hu).or (o_notInT hu), fun d e S P q v u H Q r rv ru hp => by
  unfold gInF at q
  split at q
  · rename_i x y e1 e2
    exact .inl ⟨x, y, dp_dat r e1 rv, dp_dat r e2 ru, q.1, q.2.1, hp _ _ q.2.2 _ _ .refl r (rep_bl.mpr rfl)⟩
  · rename_i x y e1 e2
    exact .inr ⟨x, y, dp_dat r e1 rv, dp_dat r e2 ru, q.1, q.2.1, hp _ _ q.2.2 _ _ .refl r (rep_bl.mpr rfl)⟩
  · exact q.elim⟩

/-! ### tests -/
/-- a truth value as a test -/
@[simp] def dB (t : DTE) : DTT := fun δ S P => t δ S fun d S1 => match d with | .bl c => P c S1 | _ => False
theorem b_lift {K : Kw} {t : DTE} : ∀ σ H Q, liftT K H0 (dB t) σ H Q → tB (liftE K H0 t) σ H Q := fun σ H Q h => by
  obtain ⟨δ, S, P, w, ht, hp⟩ := h
  refine ⟨δ, S, _, w, ht, fun d S1 q v H1 k1 r1 p1 => ?_⟩
  split at q
  · exact ⟨_, rep_bl.mp p1, hp _ _ q _ k1 r1⟩
  · exact q.elim
theorem dt_val {e : Expr} {t : DTE} (h : DE X H0 e t) (he : ∀ whole, isTrue e X.env whole = (do let v ← whole; standAt e.pos; holding [v] (truthy v)) := by intro _; rfl) : DT X H0 e (dB t) := (pt_val h he).to b_lift
theorem dt_cmp {op : CmpOp} {g : G2} (o : OpG X (compareOp op) g) (ha : DE X H0 a ta) (hb : DE X H0 b tb) (h1 : behindInMarks op b = false := by first | exact nobehind _ (by decide) (by decide) | rfl) : DT X H0 (.Compare a [op] [b] pos) (dB (dBin g ta tb)) :=
  let ⟨_, h1', h2⟩ := o
  (pt_cmpR h1' ha hb h1).to fun σ H Q h => by
    obtain ⟨δ, S, P, w, ht, hp⟩ := h
    refine bin_lift h2 σ H _ ⟨δ, S, _, w, ht, fun d S1 q v H1 k1 r1 p1 => ?_⟩
    split at q
    · exact ⟨_, rep_bl.mp p1, hp _ _ q _ k1 r1⟩
    · exact q.elim
@[simp] def dChain (g g' : G2) (ta tb tc : DTE) : DTE := fun δ S P => ta δ S fun x S1 => tb δ S1 fun y S2 => g x y S2 fun z S3 => match z with
  | .bl true => tc δ S3 fun w S4 => g' y w S4 P
  | .bl false => P (.bl false) S3
  | _ => False
theorem chain_lift {K : Kw} {g g' : G2} {r r' : R2} (h : Bin K g r) (h' : Bin K g' r') : ∀ σ H Q, liftE K H0 (dChain g g' ta tb tc) σ H Q → tChain r r' (liftE K H0 ta) (liftE K H0 tb) (liftE K H0 tc) σ H Q := fun σ H Q q => by
  obtain ⟨δ, S, P, w, ht, hp⟩ := q
  refine ⟨δ, S, _, w, ht, fun d S1 q1 v H1 k1 r1 p1 => ⟨δ, S1, _, w.keep k1 r1, q1, fun e S2 q2 u H2 k2 r2 p2 => ?_⟩⟩
  refine h d e S2 _ q2 v u H2 _ r2 (p1.keep k2) p2 fun z S3 q3 zv H3 k3 r3 p3 => ?_
  dsimp only at q3
  split at q3
  · exact ⟨true, rep_bl.mp p3, δ, S3, _, (w.keep (k1.trans (k2.trans k3)) r3), q3, fun e4 S4 q4 v4 H4 k4 r4 p4 =>
      h' e e4 S4 P q4 u v4 H4 Q r4 (p2.keep (k3.trans k4)) p4 (hp.keep (k1.trans (k2.trans (k3.trans k4))))⟩
  · exact ⟨false, rep_bl.mp p3, hp _ _ q3 _ _ (k1.trans (k2.trans k3)) r3 (rep_bl.mpr rfl)⟩
  · exact q3.elim
theorem de_chain {op op' : CmpOp} {g g' : G2} (o : OpG X (compareOp op) g) (o' : OpG X (compareOp op') g') (ha : DE X H0 a ta) (hb : DE X H0 b tb) (hc : DE X H0 c tc) (hm : lastMarks [op, op'] [b, c] = false := by with_unfolding_all rfl) :
    DE X H0 (.Compare a [op, op'] [b, c] pos) (dChain g g' ta tb tc) := let ⟨_, h1, h2⟩ := o; let ⟨_, h1', h2'⟩ := o'; (pe_chain h1 h1' ha hb hc hm).to (chain_lift h2 h2')
theorem dt_chain {op op' : CmpOp} {g g' : G2} (o : OpG X (compareOp op) g) (o' : OpG X (compareOp op') g') (ha : DE X H0 a ta) (hb : DE X H0 b tb) (hc : DE X H0 c tc) (hm : lastMarks [op, op'] [b, c] = false := by with_unfolding_all rfl) :
    DT X H0 (.Compare a [op, op'] [b, c] pos) (dB (dChain g g' ta tb tc)) := let ⟨_, h1, h2⟩ := o; let ⟨_, h1', h2'⟩ := o'; (pt_chain h1 h1' ha hb hc hm).to fun σ H Q h => by
    obtain ⟨δ, S, P, w, ht, hp⟩ := h
    refine chain_lift h2 h2' σ H _ ⟨δ, S, _, w, ht, fun d S1 q v H1 k1 r1 p1 => ?_⟩
    split at q
    · exact ⟨_, rep_bl.mp p1, hp _ _ q _ k1 r1⟩
    · exact q.elim
variable {tA tB' : DTT} {rest : List Expr}
@[simp] def dAnd (t u : DTT) : DTT := fun δ S P => t δ S fun c S1 => if c = true then u δ S1 P else P false S1
@[simp] def dOr (t u : DTT) : DTT := fun δ S P => t δ S fun c S1 => if c = true then P true S1 else u δ S1 P
@[simp] def dNot (t : DTT) : DTT := fun δ S P => t δ S fun c S1 => P (!c) S1
theorem dw_and1 (ha : DT X H0 a tA) : DW X H0 (.BoolOp .And [a] pos) tA := pw_and1 ha
theorem dw_or1 (ha : DT X H0 a tA) : DW X H0 (.BoolOp .Or [a] pos) tA := pw_or1 ha
theorem dw_and (ha : DT X H0 a tA) (hb : DW X H0 (.BoolOp .And (b :: rest) pos) tB') : DW X H0 (.BoolOp .And (a :: b :: rest) pos) (dAnd tA tB') := (pw_and ha hb).to fun σ H Q h => by
  obtain ⟨δ, S, P, w, ht, hp⟩ := h
  refine ⟨δ, S, _, w, ht, fun c S1 q H1 k1 r1 => ?_⟩
  cases c with
  | true => exact ⟨δ, S1, P, w.keep k1 r1, q, fun b S2 p H2 k2 r2 => hp b S2 p H2 (k1.trans k2) r2⟩
  | false => exact hp _ _ q _ k1 r1
theorem dw_or (ha : DT X H0 a tA) (hb : DW X H0 (.BoolOp .Or (b :: rest) pos) tB') : DW X H0 (.BoolOp .Or (a :: b :: rest) pos) (dOr tA tB') := (pw_or ha hb).to fun σ H Q h => by
  obtain ⟨δ, S, P, w, ht, hp⟩ := h
  refine ⟨δ, S, _, w, ht, fun c S1 q H1 k1 r1 => ?_⟩
  cases c with
  | false => exact ⟨δ, S1, P, w.keep k1 r1, q, fun b S2 p H2 k2 r2 => hp b S2 p H2 (k1.trans k2) r2⟩
  | true => exact hp _ _ q _ k1 r1
theorem dt_not (ha : DT X H0 a tA) : DT X H0 (.UnaryOp .Not a pos) (dNot tA) := (pt_not ha).to fun σ H Q h => by
  obtain ⟨δ, S, P, w, ht, hp⟩ := h
  exact ⟨δ, S, _, w, ht, fun c S1 q H1 k1 r1 => hp _ _ q _ k1 r1⟩
/-- and, or, not as values: all parts truth values -/
@[simp] def dAndV (t u : DTE) : DTE := fun δ S P => t δ S fun d S1 => match d with | .bl true => u δ S1 P | .bl false => P (.bl false) S1 | _ => False
@[simp] def dOrV (t u : DTE) : DTE := fun δ S P => t δ S fun d S1 => match d with | .bl false => u δ S1 P | .bl true => P (.bl true) S1 | _ => False
@[simp] def dNotV (t : DTE) : DTE := fun δ S P => t δ S fun d S1 => match d with | .bl c => P (.bl (!c)) S1 | _ => False
theorem de_one {op} (h : DE X H0 a ta) : DE X H0 (.BoolOp op [a] pos) ta := pe_one h
theorem de_and (ha : DE X H0 a ta) (hb : DE X H0 (.BoolOp .And (b :: rest) pos) tb) : DE X H0 (.BoolOp .And (a :: b :: rest) pos) (dAndV ta tb) := (pe_and ha hb).to fun σ H Q h => by
  obtain ⟨δ, S, P, w, ht, hp⟩ := h
  refine ⟨δ, S, _, w, ht, fun d S1 q v H1 k1 r1 p1 => ?_⟩
  split at q
  · exact ⟨true, rep_bl.mp p1, δ, S1, P, w.keep k1 r1, q, hp.keep k1⟩
  · exact ⟨false, rep_bl.mp p1, hp _ _ q _ _ k1 r1 (rep_bl.mpr rfl)⟩
  · exact q.elim
theorem de_or (ha : DE X H0 a ta) (hb : DE X H0 (.BoolOp .Or (b :: rest) pos) tb) : DE X H0 (.BoolOp .Or (a :: b :: rest) pos) (dOrV ta tb) := (pe_or ha hb).to fun σ H Q h => by
  obtain ⟨δ, S, P, w, ht, hp⟩ := h
  refine ⟨δ, S, _, w, ht, fun d S1 q v H1 k1 r1 p1 => ?_⟩
  split at q
  · exact ⟨false, rep_bl.mp p1, δ, S1, P, w.keep k1 r1, q, hp.keep k1⟩
  · exact ⟨true, rep_bl.mp p1, hp _ _ q _ _ k1 r1 (rep_bl.mpr rfl)⟩
  · exact q.elim
theorem de_not (ha : DE X H0 a ta) : DE X H0 (.UnaryOp .Not a pos) (dNotV ta) := (pe_not ha).to fun σ H Q h => by
  obtain ⟨δ, S, P, w, ht, hp⟩ := h
  refine ⟨δ, S, _, w, ht, fun d S1 q v H1 k1 r1 p1 => ?_⟩
  split at q
  · exact ⟨_, rep_bl.mp p1, hp _ _ q _ _ k1 r1 (rep_bl.mpr rfl)⟩
  · exact q.elim
@[simp] def dIf (t : DTT) (u v : DTE) : DTE := fun δ S P => t δ S fun c S1 => if c = true then u δ S1 P else v δ S1 P
theorem de_if (hc : DT X H0 c tA) (ha : DE X H0 a ta) (hb : DE X H0 b tb) : DE X H0 (.IfExp c a b pos) (dIf tA ta tb) := (pe_ifExp hc ha hb).to fun σ H Q h => by
  obtain ⟨δ, S, P, w, ht, hp⟩ := h
  refine ⟨δ, S, _, w, ht, fun c S1 q H1 k1 r1 => ?_⟩
  cases c with
  | true => exact ⟨δ, S1, P, w.keep k1 r1, q, hp.keep k1⟩
  | false => exact ⟨δ, S1, P, w.keep k1 r1, q, hp.keep k1⟩
/-- is None, is not None -/
def gIsN (f : Bool → Bool) : G2 := fun d e S P => match d, e with
  | .non, .non => P (.bl (f true)) S
  | _, .non => P (.bl (f false)) S
  | _, _ => False

/-! ### argument lists, displays -/
@[simp] def dNil : DTA := fun _ S P => P [] S
@[simp] def dCons (t : DTE) (u : DTA) : DTA := fun δ S P => t δ S fun d S1 => u δ S1 fun ds S2 => P (d :: ds) S2
variable {e : Expr} {es : List Expr} {te : DTE} {t : DTA}
theorem da_nil : DA X H0 [] dNil := pa_nil.to fun σ H Q h => by
  obtain ⟨δ, S, P, w, ht, hp⟩ := h
  exact hp _ _ ht _ _ .refl w.rel .nil
theorem da_cons (ha : DE X H0 e te) (hr : DA X H0 es t) (hs : starEach (e :: es) X.env = (false, eval e X.env) :: starEach es X.env := by rfl) : DA X H0 (e :: es) (dCons te t) := (pa_cons ha hr hs).to fun σ H Q h => by
  obtain ⟨δ, S, P, w, ht, hp⟩ := h
  exact ⟨δ, S, _, w, ht, fun d S1 q v H1 k1 r1 p1 => ⟨δ, S1, _, w.keep k1 r1, q, fun ds S2 q2 vs H2 k2 r2 p2 => hp _ _ q2 _ _ (k1.trans k2) r2 (.cons (p1.keep k2) p2)⟩⟩
@[simp] def dTup (t : DTA) : DTE := fun δ S P => t δ S fun ds S1 => ds.length ≤ sizeLine ∧ P (.tup ds) S1
@[simp] def dLst (t : DTA) : DTE := fun δ S P => t δ S fun ds S1 => ds.length ≤ sizeLine ∧ ∀ l, S1 l = none → P (.ref l) (up S1 l (.lst ds))
theorem de_tup {x1} (h : DA X H0 es t) : DE X H0 (.Tuple es x1 pos) (dTup t) := (pe_tupN h).to fun σ H Q q => by
  obtain ⟨δ, S, P, w, ht, hp⟩ := q
  exact ⟨δ, S, _, w, ht, fun ds S1 q vs H1 k1 r1 p1 => ⟨by rw [p1.length]; exact q.1, (hp.keep k1).tup r1 p1 q.2⟩⟩
theorem de_lst (h : DA X H0 es t) : DE X H0 (.List es pos) (dLst t) := (pe_lst h).to fun σ H Q q => by
  obtain ⟨δ, S, P, w, ht, hp⟩ := q
  exact ⟨δ, S, _, w, ht, fun ds S1 q vs H1 k1 r1 p1 => ⟨by rw [p1.length]; exact q.1, fun p hpn => (hp.keep k1).lst r1 p1 q.2 hpn⟩⟩

/-! ### subscripts -/
/-- the items of a sequence -/
@[simp] def sq (S : Store) : Dv → Option (List Dv)
  | .tup ds => some ds
  | .ref a => match S a with | some (.lst ds) => some ds | _ => none
  | .scr ns => some (ns.map .int)
  | _ => none
@[simp] def gIx : G2 := fun d e S P => match sq S d, e with
  | some ds, .int i => (match atI ds i with | some x => P x S | none => False)
  | _, _ => False
theorem sq_seq {K : Kw} {S : Store} {H : Hp} {d : Dv} {v : V} {ds : List Dv} (r : Rel K S H) (e : sq S d = some ds) (p : Rep K H d v) : ∃ a xs, v = .ref a ∧ (SqL K H a xs ∨ SqN K H a xs) ∧ Reps K H ds xs := by
  cases d with
  | tup ds' => simp only [sq, Option.some.injEq] at e; subst e; obtain ⟨a, xs, rfl, q, rs⟩ := rep_tup.mp p; exact ⟨a, xs, rfl, .inr q, rs⟩
  | ref a =>
    simp only [sq] at e
    split at e
    · rename_i ds' e0; simp only [Option.some.injEq] at e; subst e
      obtain ⟨xs, h, rs⟩ := r.lst e0
      exact ⟨a, xs, rep_ref.mp p, .inl (.of h), rs⟩
    · cases e
  | scr ns => simp only [sq, Option.some.injEq] at e; subst e; obtain ⟨a, rfl, q⟩ := rep_scr.mp p; exact ⟨a, _, rfl, .inl q.l, Reps.ints ns⟩
  | _ => simp [sq] at e
theorem reps_at {K : Kw} {H : Hp} {ds : List Dv} {xs : List V} {i : Int} {x : Dv} (rs : Reps K H ds xs) (e : atI ds i = some x) : ∃ y, atI xs i = some y ∧ Rep K H x y := by
  unfold atI at e ⊢
  rw [rs.length]
  obtain ⟨j, e1, e2⟩ := Option.bind_eq_some_iff.mp e
  obtain ⟨y, e3, r⟩ := rs.get e2
  exact ⟨y, by rw [e1]; exact e3, r⟩
theorem ix_lift {K : Kw} : Bin K gIx (fun x y H Q => rIxL K x y H Q ∨ rIxT K x y H Q) := fun d e S P q v u H Q r rv ru hp => by
  unfold gIx at q
  split at q
  · rename_i ds i e0
    split at q
    · rename_i x e1
      obtain ⟨a, xs, rfl, hq, rs⟩ := sq_seq r e0 rv
      obtain ⟨y, e2, ry⟩ := reps_at rs e1
      have fin := hp _ _ q _ _ .refl r ry
      rcases hq with hq | hq
      · exact .inl ⟨a, xs, i, y, rfl, rep_int.mp ru, hq, e2, fin⟩
      · exact .inr ⟨a, xs, i, y, rfl, rep_int.mp ru, hq.t, e2, fin⟩
    · exact q.elim
  · exact q.elim
theorem de_ix (ha : DE X H0 a ta) (hb : DE X H0 b tb) (hs : PlainIx b := by exact fun _ _ => rfl) : DE X H0 (.Subscript a b pos) (dBin gIx ta tb) := (pe_ix (ix_list.or ix_tup) ha hb hs).to (bin_lift ix_lift)
/-! slices -/
abbrev DTO := DSt → Store → (Option Int → Store → Prop) → Prop
def liftO (K : Kw) (H0 : Hp) (t : DTO) : TO := fun σ H Q => ∃ δ S P, Wd K H0 σ δ S H ∧ t δ S P ∧ ∀ b S', P b S' → ∀ H', Keep K H H' → Rel K S' H' → Q b H'
@[simp] def dNoPart : DTO := fun _ S P => P none S
@[simp] def dPart (t : DTE) : DTO := fun δ S P => t δ S fun d S1 => match d with | .int i => P (some i) S1 | _ => False
theorem _root_.L2.PO.to {X : Cx} {e : Option Expr} {t t' : TO} (h : PO X e t) (i : ∀ σ H Q, t' σ H Q → t σ H Q) : PO X e t' := ⟨fun pins s σ H Q I q => h.run pins s σ H Q I (i σ H Q q)⟩
theorem do_none : PO X none (liftO X.kw H0 dNoPart) := po_none.to fun σ H Q h => by
  obtain ⟨δ, S, P, w, ht, hp⟩ := h
  exact hp _ _ ht _ .refl w.rel
theorem do_some (h : DE X H0 e te) : PO X (some e) (liftO X.kw H0 (dPart te)) := (po_some h).to fun σ H Q h => by
  obtain ⟨δ, S, P, w, ht, hp⟩ := h
  refine ⟨δ, S, _, w, ht, fun d S1 q v H1 k1 r1 p1 => ?_⟩
  split at q
  · exact ⟨_, rep_int.mp p1, hp _ _ q _ k1 r1⟩
  · exact q.elim
/-- the items of a slice -/
def cutD (xs : List Dv) (lo hi : Option Int) : List Dv := (xs.drop (HT.sIx xs.length 0 lo)).take (HT.sIx xs.length xs.length hi - HT.sIx xs.length 0 lo)
theorem cutD_length (xs : List Dv) (lo hi : Option Int) : (cutD xs lo hi).length ≤ xs.length := by unfold cutD; rw [List.length_take, List.length_drop]; omega
theorem reps_cut {K : Kw} {H : Hp} {ds : List Dv} {xs : List V} (r : Reps K H ds xs) (lo hi : Option Int) : Reps K H (cutD ds lo hi) (cutV xs lo hi) := by
  unfold cutD cutV
  rw [r.length]
  exact (r.drop _).take _
@[simp] def gSl (d : Dv) (lo hi : Option Int) (S : Store) (P : DK) : Prop := match d with
  | .tup ds => P (.tup (cutD ds lo hi)) S
  | .ref a => match S a with | some (.lst ds) => ∀ l, S l = none → P (.ref l) (up S l (.lst (cutD ds lo hi))) | _ => False
  | .scr ns => ∀ l, S l = none → P (.ref l) (up S l (.lst (cutD (ns.map .int) lo hi)))
  | _ => False
@[simp] def dSl (te : DTE) (tl th : DTO) : DTE := fun δ S P => te δ S fun d S1 => tl δ S1 fun lo S2 => th δ S2 fun hi S3 => gSl d lo hi S3 P
theorem de_sl {lo hi : Option Expr} {tl th : DTO} {p2 : Pos} (he : DE X H0 e te) (hl : PO X lo (liftO X.kw H0 tl)) (hh : PO X hi (liftO X.kw H0 th)) : DE X H0 (.Subscript e (.Slice lo hi none p2) pos) (dSl te tl th) :=
  (pe_slice (sl_list.or sl_tupN) he hl hh).to fun σ H Q h => by
  obtain ⟨δ, S, P, w, ht, hp⟩ := h
  refine ⟨δ, S, _, w, ht, fun d S1 q v H1 k1 r1 p1 => ⟨δ, S1, _, w.keep k1 r1, q, fun l S2 q2 H2 k2 r2 => ⟨δ, S2, _, w.keep (k1.trans k2) r2, q2, fun u S3 q3 H3 k3 r3 => ?_⟩⟩⟩
  have p3 := p1.keep (k2.trans k3)
  have hp3 := hp.keep (k1.trans (k2.trans k3))
  unfold gSl at q3
  split at q3
  · obtain ⟨a, xs, rfl, hq, rs⟩ := rep_tup.mp p3
    refine .inr ⟨a, xs, rfl, hq.t, fun z => ?_, fun _ => hp3.tup r3 (reps_cut rs _ _) q3⟩
    refine hp3 _ _ q3 _ _ .refl r3 (rep_tup.mpr ⟨a, xs, rfl, hq, ?_⟩)
    have e : cutV xs l u = xs := by
      unfold cutV
      rw [z.1, z.2]
      simp
    have := reps_cut rs l u
    rw [e] at this
    exact this
  · split at q3
    · rename_i ds e0
      obtain ⟨xs, h, rs⟩ := r3.lst e0
      exact .inl ⟨_, xs, rep_ref.mp p3, .of h, fun p hpn => hp3.lst r3 (reps_cut rs _ _) q3 hpn⟩
    · exact q3.elim
  · obtain ⟨a, rfl, hq⟩ := rep_scr.mp p3
    exact .inl ⟨a, _, rfl, hq.l, fun p hpn => hp3.lst r3 (reps_cut (Reps.ints _) _ _) q3 hpn⟩
  · exact q3.elim

/-! ### calls of built-ins -/
abbrev GA := List Dv → Store → DK → Prop
def CallG (X : Cx) (f : Value) (g : GA) : Prop := ∃ r, CallR X f r ∧ ∀ ds S P, g ds S P → ∀ vs H Q, Rel X.kw S H → Reps X.kw H ds vs → PV X.kw H P Q → r vs H Q
@[simp] def dCB (g : GA) (t : DTA) : DTE := fun δ S P => t δ S fun ds S1 => g ds S1 P
theorem cb_lift {r : List V → Hp → VK → Prop} {g : GA} (h : ∀ ds S P, g ds S P → ∀ vs H Q, Rel X.kw S H → Reps X.kw H ds vs → PV X.kw H P Q → r vs H Q) : ∀ σ H Q, liftE X.kw H0 (dCB g t) σ H Q → tCB r (liftA X.kw H0 t) σ H Q := fun σ H Q q => by
  obtain ⟨δ, S, P, w, ht, hp⟩ := q
  exact ⟨δ, S, _, w, ht, fun ds S1 q vs H1 k1 r1 p1 => h _ _ _ q _ _ _ r1 p1 (hp.keep k1)⟩
theorem de_callB {id : String} {g : GA} {x : Str} {p : Pos} (hc : CallG X (.builtin id) g) (hg : Gl X x) (hm : X.mg x = none) (hv : bootBuiltins x = some (.builtin id)) (ha : DA X H0 (e :: es) t) (hn : x ≠ "__name__" := by decide) (hdb : (x == ("__debug__" : Str)) = false := by decide)
    (he : starEach (e :: es) X.env = (false, eval e X.env) :: starEach es X.env := by rfl) (hpl : (backTo pos (starEach es X.env)).any (·.1) = false := by rfl) : DE X H0 (.Call (.Name x p) (e :: es) [] pos) (dCB g t) :=
  let ⟨_, h1, h2⟩ := hc; (pe_callB h1 hg hm hv ha hn hdb he hpl).to (cb_lift h2)
theorem de_callTy {T : String} {g : GA} {x : Str} {p : Pos} (hc : CallG X (.type T) g) (hg : Gl X x) (hm : X.mg x = none) (hv : bootBuiltins x = some (.type T)) (ha : DA X H0 (e :: es) t) (hn : x ≠ "__name__" := by decide) (hdb : (x == ("__debug__" : Str)) = false := by decide)
    (he : starEach (e :: es) X.env = (false, eval e X.env) :: starEach es X.env := by rfl) (hpl : (backTo pos (starEach es X.env)).any (·.1) = false := by rfl) : DE X H0 (.Call (.Name x p) (e :: es) [] pos) (dCB g t) :=
  let ⟨_, h1, h2⟩ := hc; (pe_callTy h1 hg hm hv ha hn hdb he hpl).to (cb_lift h2)
/-- len of a sequence -/
@[simp] def gLen : GA := fun ds S P => match ds with
  | [d] => (match sq S d with | some xs => P (.int xs.length) S | none => False)
  | _ => False
theorem reps1 {K : Kw} {H : Hp} {d : Dv} {vs : List V} (r : Reps K H [d] vs) : ∃ v, vs = [v] ∧ Rep K H d v := by
  obtain ⟨y, ys, rfl, a, b⟩ := r.cons_inv
  rw [b.nil_inv]; exact ⟨y, rfl, a⟩
theorem reps2 {K : Kw} {H : Hp} {d e : Dv} {vs : List V} (r : Reps K H [d, e] vs) : ∃ v u, vs = [v, u] ∧ Rep K H d v ∧ Rep K H e u := by
  obtain ⟨y, ys, rfl, a, b⟩ := r.cons_inv
  obtain ⟨u, rfl, c⟩ := reps1 b
  exact ⟨y, u, rfl, a, c⟩
theorem cg_len : CallG X (.builtin "len") gLen := ⟨_, call_len_seq, fun ds S P q vs H Q r rs hp => by
  unfold gLen at q
  split at q
  · rename_i d
    split at q
    · rename_i xs e0
      obtain ⟨v, rfl, rv⟩ := reps1 rs
      obtain ⟨a, ys, rfl, hq, rs'⟩ := sq_seq r e0 rv
      exact ⟨a, ys, rfl, hq.imp id SqN.t, hp _ _ q _ _ .refl r (rep_int.mpr (by rw [rs'.length]))⟩
    · exact q.elim
  · exact q.elim⟩
@[simp] def gList : GA := fun ds S P => match ds with
  | [d] => (match sq S d with | some xs => ∀ l, S l = none → P (.ref l) (up S l (.lst xs)) | none => False)
  | _ => False
theorem cg_list : CallG X (.type "list") gList := ⟨_, call_list_of, fun ds S P q vs H Q r rs hp => by
  unfold gList at q
  split at q
  · rename_i d
    split at q
    · rename_i xs e0
      obtain ⟨v, rfl, rv⟩ := reps1 rs
      obtain ⟨a, ys, rfl, hq, rs'⟩ := sq_seq r e0 rv
      exact ⟨a, ys, rfl, hq.imp id SqN.t, fun l hl => hp.lst r rs' q hl⟩
    · exact q.elim
  · exact q.elim⟩
@[simp] def gTuple : GA := fun ds S P => match ds with
  | [d] => (match sq S d with | some xs => P (.tup xs) S | none => False)
  | _ => False
theorem cg_tuple : CallG X (.type "tuple") gTuple := ⟨_, call_tupN, fun ds S P q vs H Q r rs hp => by
  unfold gTuple at q
  split at q
  · rename_i d
    split at q
    · rename_i xs e0
      obtain ⟨v, rfl, rv⟩ := reps1 rs
      obtain ⟨a, ys, rfl, hq, rs'⟩ := sq_seq r e0 rv
      rcases hq with hq | hq
      · exact ⟨a, ys, rfl, .inl ⟨hq, hp.tup r rs' q⟩⟩
      · exact ⟨a, ys, rfl, .inr ⟨hq.t, hp _ _ q _ _ .refl r (rep_tup.mpr ⟨a, ys, rfl, hq, rs'⟩)⟩⟩
    · exact q.elim
  · exact q.elim⟩
/-- repr -/
def gRepr : GA := fun ds S P => match ds with
  | [d] => (match dat S d with | some x => SeqAt.shaped x = true ∧ x.showable = true ∧ x.shown.length ≤ sizeLine ∧ P (.str x.shown) S | none => False)
  | _ => False
theorem callR_repr (hg : X.A.guards = some []) (hu : X.A.units + 100 < cLine) : CallR X (.builtin "repr") (fun xs H Q => ∃ v x, xs = [v] ∧ Dp X.kw H v x ∧ SeqAt.shaped x = true ∧ x.showable = true ∧ x.shown.length ≤ sizeLine ∧ Q (.str x.shown) H) := by
  intro pins s σ H xs us Q I rr h
  obtain ⟨v, x, rfl, hd, hsh, hs, hz, q⟩ := h
  obtain ⟨u, rfl, ru⟩ := rr.one
  obtain ⟨as, rd⟩ := Dp.reads I x v u hd ru
  have hnd := PyData.hasDict_of_canLay x (SeqAt.canLay_of_shaped hsh)
  have h64 := SeqAt.depth_of_shaped hsh
  have fin : ∀ (h' : Heap) (u tk : Tok), (∀ b o, s.heap.get? b = some o → h'.get? b = some o) → EP X pins σ Q (.str x.shown u) { s with heap := h', toks := tk } := fun h' u tk k => ⟨.str x.shown, H, I.kept k, ⟨_, rfl⟩, q⟩
  have go : ∀ a, u = .ref a → wpAny (model X.prog X.w) X.A (call (.builtin "repr") [.ref a]) (EP X pins σ Q) X.xe s := fun a ea => by
    subst ea
    exact repr_of_reads' (h₀ := s.heap) rd hs (PyData.noDict_hsm hnd) hg (by omega) (fun _ _ z => z) fin hz
  cases rd with
  | none => simp only [PyData.shown] at fin; exact PySem.P.repr_of_none (fin s.heap _ _ fun _ _ z => z)
  | bool b => simp only [PyData.shown] at fin; exact PySem.P.repr_of_bool (fin s.heap _ _ fun _ _ z => z)
  | int i t => simp only [PyData.shown] at fin; exact PySem.P.repr_of_int (by simpa [PyData.showable] using hs) (fin s.heap _ _ fun _ _ z => z)
  | str y t => simp only [PyData.shown] at fin; exact PySem.P.repr_of_str (fin s.heap _ _ fun _ _ z => z) (by simpa only [PyData.shown] using hz)
  | list h1 h2 h3 h4 => exact go _ rfl
  | tuple h1 h2 h3 h4 => exact go _ rfl
  | dict h1 h2 h3 h4 h5 => exact go _ rfl
theorem cg_repr (hg : X.A.guards = some []) (hu : X.A.units + 100 < cLine) : CallG X (.builtin "repr") gRepr := ⟨_, callR_repr hg hu, fun ds S P q vs H Q r rs hp => by
  unfold gRepr at q
  split at q
  · rename_i d
    split at q
    · rename_i x e0
      obtain ⟨v, rfl, rv⟩ := reps1 rs
      exact ⟨v, x, rfl, dp_dat r e0 rv, q.1, q.2.1, q.2.2.1, hp _ _ q.2.2.2 _ _ .refl r (rep_str.mpr rfl)⟩
    · exact q.elim
  · exact q.elim⟩
end
end Sb

/-! Rules over data: targets, what is walked, comprehensions, methods, dicts. -/
namespace Sb
open PySem PySem.Spec L2

/-! ### targets -/
inductive Pat where
  | nm (i : Nat)
  | tp (ps : List Pat)
mutual
/-- what a value unpacked gives -/
@[simp] def pset : Pat → Dv → DSt → Option DSt
  | .nm i, d, δ => some (δ.set i (some d))
  | .tp ps, .tup ds, δ => psets ps ds δ
  | .tp _, _, _ => none
@[simp] def psets : List Pat → List Dv → DSt → Option DSt
  | [], [], δ => some δ
  | p :: ps, d :: ds, δ => (pset p d δ).bind fun δ1 => psets ps ds δ1
  | [], _ :: _, _ => none
  | _ :: _, [], _ => none
end
mutual
def gP (K : Kw) : Pat → TG
  | .nm i => gName i
  | .tp ps => gTup K ps.length (gPs K ps)
def gPs (K : Kw) : List Pat → TGs
  | [] => gNil
  | p :: ps => gCons (gP K p) (gPs K ps)
end
mutual
/-- the slots of a target -/
def pslots : Pat → List Nat
  | .nm i => [i]
  | .tp ps => pslotss ps
def pslotss : List Pat → List Nat
  | [] => []
  | p :: ps => pslots p ++ pslotss ps
end
theorem psets_length : ∀ (ps : List Pat) (ds : List Dv) (δ δ' : DSt), psets ps ds δ = some δ' → ds.length = ps.length
  | [], [], _, _, _ => rfl
  | p :: ps, d :: ds, δ, δ', h => by
    simp only [psets] at h
    obtain ⟨δ1, _, h2⟩ := Option.bind_eq_some_iff.mp h
    simp [psets_length ps ds δ1 δ' h2]
  | [], _ :: _, _, _, h => by simp [psets] at h
  | _ :: _, [], _, _, h => by simp [psets] at h
theorem wipe_set2 {σ : St} {i : Nat} {x : Option V} : ∀ vs : List Nat, wipe (σ.set i x) vs = if i ∈ vs then wipe σ vs else (wipe σ vs).set i x
  | [] => by simp [wipe]
  | v :: vs => by
    have ih := wipe_set2 (σ := σ) (i := i) (x := x) vs
    simp only [wipe, ih, List.mem_cons]
    by_cases h : i ∈ vs
    · simp [h]
    · by_cases e : i = v
      · subst e; simp [h, List.set_set]
      · simp only [h, e, or_self, if_false]
        rw [List.set_comm _ _ e]
theorem wipe_set {σ : St} {i : Nat} {x : Option V} {vs : List Nat} (h : i ∈ vs) : wipe (σ.set i x) vs = wipe σ vs := by rw [wipe_set2, if_pos h]
section
variable {K : Kw} {H0 : Hp} {S : Store} {H : Hp}
mutual
theorem pset_ok : ∀ (p : Pat) (d : Dv) (x : V) (σ : St) (δ δ' : DSt), pset p d δ = some δ' → Rep K H d x → Wd K H0 σ δ S H → ∀ Q : St → Hp → Prop, (∀ σ', Wd K H0 σ' δ' S H → (∀ vs, (∀ i ∈ pslots p, i ∈ vs) → wipe σ' vs = wipe σ vs) → Q σ' H) → gP K p x σ H Q
  | .nm i, d, x, σ, δ, δ', h, r, w, Q, hq => by
    simp only [pset, Option.some.injEq] at h
    subst h
    simp only [gP, gName]
    refine hq _ (w.set r) fun vs hv => wipe_set (hv i (by simp [pslots]))
  | .tp ps, .tup ds, x, σ, δ, δ', h, r, w, Q, hq => by
    simp only [pset] at h
    obtain ⟨a, xs, rfl, q, rs⟩ := rep_tup.mp r
    simp only [gP, gTup]
    exact ⟨a, xs, rfl, q.t, by rw [rs.length]; exact psets_length _ _ _ _ h, psets_ok ps ds xs σ δ δ' h rs w Q fun σ' w' hs => hq σ' w' fun vs hv => hs vs fun i hi => hv i (by simpa [pslots] using hi)⟩
  | .tp _, .non, _, _, _, _, h, _, _, _, _ => by simp [pset] at h
  | .tp _, .bl _, _, _, _, _, h, _, _, _, _ => by simp [pset] at h
  | .tp _, .int _, _, _, _, _, h, _, _, _, _ => by simp [pset] at h
  | .tp _, .str _, _, _, _, _, h, _, _, _, _ => by simp [pset] at h
  | .tp _, .ty _, _, _, _, _, h, _, _, _, _ => by simp [pset] at h
  | .tp _, .ref _, _, _, _, _, h, _, _, _, _ => by simp [pset] at h
  | .tp _, .scr _, _, _, _, _, h, _, _, _, _ => by simp [pset] at h
theorem psets_ok : ∀ (ps : List Pat) (ds : List Dv) (xs : List V) (σ : St) (δ δ' : DSt), psets ps ds δ = some δ' → Reps K H ds xs → Wd K H0 σ δ S H → ∀ Q : St → Hp → Prop, (∀ σ', Wd K H0 σ' δ' S H → (∀ vs, (∀ i ∈ pslotss ps, i ∈ vs) → wipe σ' vs = wipe σ vs) → Q σ' H) → gPs K ps xs σ H Q
  | [], [], xs, σ, δ, δ', h, r, w, Q, hq => by
    simp only [psets, Option.some.injEq] at h
    subst h
    simp only [gPs, gNil]
    exact ⟨r.nil_inv, hq σ w fun _ _ => rfl⟩
  | p :: ps, d :: ds, xs, σ, δ, δ', h, r, w, Q, hq => by
    simp only [psets] at h
    obtain ⟨δ1, h1, h2⟩ := Option.bind_eq_some_iff.mp h
    obtain ⟨y, ys, rfl, r1, r2⟩ := r.cons_inv
    simp only [gPs, gCons]
    refine ⟨y, ys, rfl, pset_ok p d y σ δ δ1 h1 r1 w _ fun σ1 w1 s1 => psets_ok ps ds ys σ1 δ1 δ' h2 r2 w1 Q fun σ2 w2 s2 => hq σ2 w2 fun vs hv => ?_⟩
    rw [s2 vs fun i hi => hv i (by simp [pslotss, hi]), s1 vs fun i hi => hv i (by simp [pslotss, hi])]
  | [], _ :: _, _, _, _, _, h, _, _, _, _ => by simp [psets] at h
  | _ :: _, [], _, _, _, _, h, _, _, _, _ => by simp [psets] at h
end
end
/-- a target's text is a pattern -/
def DP (X : Cx) (tg : Expr) (p : Pat) : Prop := PG X tg (gP X.kw p)
def DPs (X : Cx) (tgs : List Expr) (ps : List Pat) : Prop := PGs X tgs (gPs X.kw ps)
section
variable {X : Cx} {H0 : Hp} {pos : Pos}
theorem dp_nm {i : Nat} {x : Str} (hN : X.N.Nodup) (hi : X.N[i]? = some x := by rfl) (hx : Loc X.env.scope x := by first | exact Or.inl rfl | exact Or.inr rfl) (hf : X.fn x = true ∨ X.env.scope.names.lookup x = some .local := by first | exact .inl rfl | exact .inr rfl | assumption) : DP X (.Name x pos) (.nm i) := pg_name hN hi hx hf
theorem dps_nil : DPs X [] [] := pgs_nil
theorem dps_cons {e : Expr} {es : List Expr} {p : Pat} {ps : List Pat} (h1 : DP X e p) (h2 : DPs X es ps) (hs : (assignEach (e :: es) X.env).map (·.2) = assign e X.env :: (assignEach es X.env).map (·.2) := by rfl) : DPs X (e :: es) (p :: ps) := pgs_cons h1 h2 hs
theorem dp_tp {es : List Expr} {k : Nat} {ps : List Pat} (hc : X.calm = true) (h : DPs X es ps) (hn : (assignEach es X.env).length = ps.length := by rfl) (hst : (assignEach es X.env).findIdx? (·.1) = none := by rfl) : DP X (.Tuple es k pos) (.tp ps) := pg_tup hc h hn hst
end

/-! ### what is walked -/
abbrev Grd := Store → Prop
abbrev DTI := DSt → Store → (List Dv → Grd → Store → Prop) → Prop
/-- the walk gives the items while the guard stands -/
def Serves (K : Kw) (H0 : Hp) (J : It) (items : List Dv) (G : Grd) : Prop := ∀ (i : Nat) (S : Store) (H : Hp), Keep K H0 H → Rel K S H → G S →
  (i = items.length → J.stop i H) ∧ ∀ d, items[i]? = some d → J.go i H ∧ ∀ x H', J.yld i H x H' → Keep K H H' ∧ Rel K S H' ∧ Rep K H' d x
def liftI (K : Kw) (H0 : Hp) (t : DTI) : TI := fun σ H R => ∃ δ S P, Wd K H0 σ δ S H ∧ t δ S P ∧ ∀ items G S1, P items G S1 → ∀ J H1, Keep K H H1 → Rel K S1 H1 → Serves K H1 J items G → R J H1
abbrev DI (X : Cx) (H0 : Hp) (tg iter : Expr) (t : DTI) : Prop := PI X tg iter (liftI X.kw H0 t)
/-- over a list -/
@[simp] def dIL (tl : DTE) : DTI := fun δ S P => tl δ S fun d S1 => match d with
  | .ref a => (match S1 a with | some (.lst ds) => P ds (fun S => S a = some (.lst ds)) S1 | _ => False)
  | _ => False
/-- over a tuple -/
@[simp] def dIT (tl : DTE) : DTI := fun δ S P => tl δ S fun d S1 => match d with
  | .tup ds => P ds (fun _ => True) S1
  | _ => False
@[simp] def dIR1 (ta : DTA) : DTI := fun δ S P => ta δ S fun ds S1 => match ds with
  | [.int j] => -(2 ^ 62) ≤ j ∧ j < 2 ^ 62 ∧ P ((List.range j.toNat).map fun (i : Nat) => .int i) (fun _ => True) S1
  | _ => False
@[simp] def dIR2 (ta : DTA) : DTI := fun δ S P => ta δ S fun ds S1 => match ds with
  | [.int i, .int j] => (-(2 ^ 62) ≤ i ∧ i < 2 ^ 62 ∧ -(2 ^ 62) ≤ j ∧ j < 2 ^ 62) ∧ P ((List.range (j - i).toNat).map fun (k : Nat) => .int (i + k)) (fun _ => True) S1
  | _ => False
section
variable {X : Cx} {H0 : Hp} {tg l a b : Expr} {tl : DTE} {ta : DTA} {pos p : Pos}
theorem di_tup (hl : DE X H0 l tl) : DI X H0 tg l (dIT tl) := (pi_tup hl).to fun σ H R h => by
  obtain ⟨δ, S, P, w, ht, hp⟩ := h
  refine ⟨δ, S, _, w, ht, fun d S1 q v H1 k1 r1 p1 => ?_⟩
  split at q
  · rename_i ds
    obtain ⟨a, xs, rfl, hq, rs⟩ := rep_tup.mp p1
    refine ⟨a, rfl, ⟨xs, hq.t⟩, hp _ _ _ q _ _ k1 r1 fun i S2 H2 k2 r2 _ => ?_⟩
    have hq2 := (k2.t _ _ hq).t
    have rs2 := Reps.keep k2 _ _ rs
    refine ⟨fun e => ⟨xs, hq2, by rw [rs.length]; omega⟩, fun d e => ?_⟩
    obtain ⟨x, ex, rx⟩ := rs2.get e
    refine ⟨⟨xs, x, hq2, ex⟩, fun y H' q => ?_⟩
    obtain ⟨rfl, q2⟩ := q
    have e2 := q2 xs hq2
    rw [ex] at e2
    cases e2
    exact ⟨.refl, r2, rx⟩
  · exact q.elim
theorem di_list (hl : DE X H0 l tl) : DI X H0 tg l (dIL tl) := (pi_list hl).to fun σ H R h => by
  obtain ⟨δ, S, P, w, ht, hp⟩ := h
  refine ⟨δ, S, _, w, ht, fun d S1 q v H1 k1 r1 p1 => ?_⟩
  split at q
  · rename_i a
    split at q
    · rename_i ds e0
      obtain ⟨xs, h, rs⟩ := r1.lst e0
      refine ⟨a, rep_ref.mp p1, ⟨xs, .of h⟩, hp _ _ _ q _ _ k1 r1 fun i S2 H2 k2 r2 g => ?_⟩
      obtain ⟨ys, h2, rs2⟩ := r2.lst g
      refine ⟨fun e => ⟨ys, .of h2, by rw [rs2.length]; omega⟩, fun d e => ?_⟩
      obtain ⟨x, ex, rx⟩ := rs2.get e
      refine ⟨⟨ys, x, .of h2, ex⟩, fun y H' q => ?_⟩
      obtain ⟨rfl, q2⟩ := q
      have e2 := q2 ys (.of h2)
      rw [ex] at e2
      cases e2
      exact ⟨.refl, r2, rx⟩
    · exact q.elim
  · exact q.elim
theorem serves_range {K : Kw} {H0 : Hp} {lo : Int} {n : Nat} : Serves K H0 (Itr lo n) ((List.range n).map fun (k : Nat) => .int (lo + k)) (fun _ => True) := fun i S H k r _ => by
  refine ⟨fun e => ?_, fun d e => ?_⟩
  · have e : i = n := by simpa using e
    exact Nat.le_of_eq e.symm
  · rw [List.getElem?_map] at e
    obtain ⟨j, e1, rfl⟩ := Option.map_eq_some_iff.mp e
    obtain ⟨h1, h2⟩ := List.getElem?_eq_some_iff.mp e1
    have hj : i = j := by simpa using h2
    subst hj
    have h1 : i < n := by simpa using h1
    refine ⟨h1, fun x H' q => ?_⟩
    obtain ⟨rfl, rfl⟩ := q
    exact ⟨.refl, r, rep_int.mpr rfl⟩
theorem di_range1 (hg : Gl X "range") (hm : X.mg "range" = none) (ha : DA X H0 [a] ta) (hs : starEach [a] X.env = [(false, eval a X.env)] := by rfl) : DI X H0 tg (.Call (.Name "range" p) [a] [] pos) (dIR1 ta) := (pi_range1 hg hm ha hs).to fun σ H R h => by
  obtain ⟨δ, S, P, w, ht, hp⟩ := h
  refine ⟨δ, S, _, w, ht, fun ds S1 q vs H1 k1 r1 p1 => ?_⟩
  split at q
  · rename_i j
    obtain ⟨v, rfl, rv⟩ := reps1 p1
    refine ⟨j, by rw [rep_int.mp rv], q.1, q.2.1, hp _ _ _ q.2.2 _ _ k1 r1 ?_⟩
    have := serves_range (K := X.kw) (H0 := H1) (lo := 0) (n := j.toNat)
    simpa using this
  · exact q.elim
theorem di_range2 (hg : Gl X "range") (hm : X.mg "range" = none) (ha : DA X H0 [a, b] ta) (hs : starEach [a, b] X.env = [(false, eval a X.env), (false, eval b X.env)] := by rfl) (hs2 : starEach [b] X.env = [(false, eval b X.env)] := by rfl) :
    DI X H0 tg (.Call (.Name "range" p) [a, b] [] pos) (dIR2 ta) := (pi_range2 hg hm ha hs hs2).to fun σ H R h => by
  obtain ⟨δ, S, P, w, ht, hp⟩ := h
  refine ⟨δ, S, _, w, ht, fun ds S1 q vs H1 k1 r1 p1 => ?_⟩
  split at q
  · rename_i i j
    obtain ⟨v, u, rfl, rv, ru⟩ := reps2 p1
    exact ⟨i, j, by rw [rep_int.mp rv, rep_int.mp ru], q.1, hp _ _ _ q.2 _ _ k1 r1 serves_range⟩
  · exact q.elim
end
end Sb

/-! Rules over data: statements, loops, comprehensions. -/
namespace Sb
open PySem PySem.Spec L2

section
variable {X : Cx} {H0 : Hp} {st : Stmt} {rest : List Stmt} {t u : DTS} {e : Expr} {te : DTE} {pos : Pos}
@[simp] def dNext : DTS := fun D δ S => D.nx δ S
def dSeq (t u : DTS) : DTS := fun D δ S => t { D with nx := u D } δ S
/-- the store told anew between two statements -/
def VS (K : Kw) (S : Store) (P : Store → Prop) : Prop := ∀ H, Rel K S H → ∃ S2, Rel K S2 H ∧ P S2
theorem VS.pure {K : Kw} {S : Store} {P : Store → Prop} (h : P S) : VS K S P := fun H r => ⟨S, r, h⟩
theorem VS.drop {K : Kw} {S S' : Store} {P : Store → Prop} (hs : ∀ a o, S' a = some o → S a = some o) (h : P S') : VS K S P := fun H r => ⟨S', r.sub hs, h⟩
theorem VS.mono {K : Kw} {S : Store} {P P' : Store → Prop} (h : VS K S P) (hp : ∀ S', P S' → P' S') : VS K S P' := fun H r => let ⟨S2, r2, q⟩ := h H r; ⟨S2, r2, hp _ q⟩
theorem VS.bind {K : Kw} {S : Store} {P P' : Store → Prop} (h : VS K S P) (hp : ∀ S', P S' → VS K S' P') : VS K S P' := fun H r => let ⟨S2, r2, q⟩ := h H r; hp S2 q H r2
def dSeqV (K : Kw) (t u : DTS) : DTS := fun D δ S => t { D with nx := fun δ1 S1 => VS K S1 fun S2 => u D δ1 S2 } δ S
theorem dss_nil : DSs X H0 [] dNext := pss_nil.to fun D σ H h => by
  obtain ⟨δ, S, D', w, ht, hp⟩ := h
  exact hp.nx _ _ ht _ _ .refl w
theorem dss_cons (h1 : DS X H0 st t) (h2 : DSs X H0 rest u) : DSs X H0 (st :: rest) (dSeq t u) := (pss_cons h1 h2).to fun D σ H h => by
  obtain ⟨δ, S, D', w, ht, hp⟩ := h
  exact ⟨δ, S, _, w, ht, fun δ1 S1 q σ1 H1 k w1 => ⟨δ1, S1, D', w1, q, hp.keep k⟩, hp.bk, hp.ct, hp.rt⟩
theorem dss_consV (h1 : DS X H0 st t) (h2 : DSs X H0 rest u) : DSs X H0 (st :: rest) (dSeqV X.kw t u) := (pss_cons h1 h2).to fun D σ H h => by
  obtain ⟨δ, S, D', w, ht, hp⟩ := h
  refine ⟨δ, S, _, w, ht, fun δ1 S1 q σ1 H1 k w1 => ?_, hp.bk, hp.ct, hp.rt⟩
  obtain ⟨S2, r2, q2⟩ := q H1 w1.rel
  exact ⟨δ1, S2, D', ⟨w1.base, r2, w1.len, w1.slot⟩, q2, hp.keep k⟩
theorem dss_one (h1 : DS X H0 st t) : DSs X H0 [st] t := pss_one h1
@[simp] def dBreak : DTS := fun D δ S => D.bk δ S
@[simp] def dCont : DTS := fun D δ S => D.ct δ S
theorem ds_pass : DS X H0 (.Pass pos) dNext := ps_pass.to fun D σ H h => by
  obtain ⟨δ, S, D', w, ht, hp⟩ := h
  exact hp.nx _ _ ht _ _ .refl w
theorem ds_break : DS X H0 (.Break pos) dBreak := ps_break.to fun D σ H h => by
  obtain ⟨δ, S, D', w, ht, hp⟩ := h
  exact hp.bk _ _ ht _ _ .refl w
theorem ds_continue : DS X H0 (.Continue pos) dCont := ps_continue.to fun D σ H h => by
  obtain ⟨δ, S, D', w, ht, hp⟩ := h
  exact hp.ct _ _ ht _ _ .refl w
@[simp] def dDrop (te : DTE) : DTS := fun D δ S => te δ S fun _ S1 => D.nx δ S1
theorem ds_expr (he : DE X H0 e te) (hs : swapsWith e none pos.line X.env = pure false := by rfl) : DS X H0 (.Expr e pos) (dDrop te) := (ps_expr he hs).to fun D σ H h => by
  obtain ⟨δ, S, D', w, ht, hp⟩ := h
  exact ⟨δ, S, _, w, ht, fun d S1 q v H1 k1 r1 p1 => hp.nx _ _ q _ _ k1 (w.keep k1 r1)⟩
@[simp] def dRet (te : DTE) : DTS := fun D δ S => te δ S D.rt
theorem ds_ret (he : DE X H0 e te) : DS X H0 (.Return (some e) pos) (dRet te) := (ps_ret he).to fun D σ H h => by
  obtain ⟨δ, S, D', w, ht, hp⟩ := h
  exact ⟨δ, S, _, w, ht, hp.rt⟩
@[simp] def dRetN : DTS := fun D _ S => D.rt .non S
theorem ds_retN : DS X H0 (.Return none pos) dRetN := ps_retN.to fun D σ H h => by
  obtain ⟨δ, S, D', w, ht, hp⟩ := h
  exact hp.rt _ _ ht _ _ .refl w.rel (rep_non.mpr rfl)
@[simp] def dIfS (c : DTT) (t u : DTS) : DTS := fun D δ S => c δ S fun b S1 => if b = true then t D δ S1 else u D δ S1
theorem ds_if {c : Expr} {a b : List Stmt} {tc : DTT} (hc : DT X H0 c tc) (ha : DSs X H0 a t) (hb : DSs X H0 b u) : DS X H0 (.If c a b pos) (dIfS tc t u) := (ps_if hc ha hb).to fun D σ H h => by
  obtain ⟨δ, S, D', w, ht, hp⟩ := h
  refine ⟨δ, S, _, w, ht, fun c S1 q H1 k1 r1 => ?_⟩
  cases c with
  | true => exact ⟨δ, S1, D', w.keep k1 r1, q, hp.keep k1⟩
  | false => exact ⟨δ, S1, D', w.keep k1 r1, q, hp.keep k1⟩
@[simp] def dNever : DTS := fun _ _ _ => False
theorem ds_never : DS X H0 st dNever := ps_never.to fun D σ H h => by
  obtain ⟨δ, S, D', w, ht, hp⟩ := h
  exact ht
/-- target = e -/
@[simp] def dAsg (te : DTE) (p : Pat) : DTS := fun D δ S => te δ S fun d S1 => match pset p d δ with | some δ1 => D.nx δ1 S1 | none => False
theorem ds_asg {tg : Expr} {p : Pat} (he : DE X H0 e te) (hg : DP X tg p) (hs : swapsWithSole [tg] e pos.line X.env = pure false := by rfl) (hw : swappedStores [tg] e X.env = pure none := by rfl)
    (h1 : (assignEach [tg] X.env).map (·.2) = [assign tg X.env] := by rfl) : DS X H0 (.Assign [tg] e pos) (dAsg te p) := (ps_asg he hg hs hw h1).to fun D σ H h => by
  obtain ⟨δ, S, D', w, ht, hp⟩ := h
  refine ⟨δ, S, _, w, ht, fun d S1 q v H1 k1 r1 p1 => ?_⟩
  split at q
  · rename_i δ1 e1
    exact pset_ok p d v σ δ δ1 e1 p1 (w.keep k1 r1) _ fun σ2 w2 _ => hp.nx _ _ q _ _ k1 w2
  · exact q.elim
/-- x = e -/
@[simp] def dSet (i : Nat) (te : DTE) : DTS := fun D δ S => te δ S fun d S1 => D.nx (δ.set i (some d)) S1
theorem ds_set {i : Nat} {x : Str} {pos' : Pos} (hN : X.N.Nodup) (he : DE X H0 e te) (hi : X.N[i]? = some x := by rfl) (hx : Loc X.env.scope x := by first | exact Or.inl rfl | exact Or.inr rfl) (hs : swapsWith e (some (.Name x pos')) pos.line X.env = pure false := by rfl)
    (hf : X.fn x = true ∨ X.env.scope.names.lookup x = some .local := by first | exact .inl rfl | exact .inr rfl | assumption) : DS X H0 (.Assign [.Name x pos'] e pos) (dSet i te) := (ps_set hN hi hx he hs hf).to fun D σ H h => by
  obtain ⟨δ, S, D', w, ht, hp⟩ := h
  exact ⟨δ, S, _, w, ht, fun d S1 q v H1 k1 r1 p1 => hp.nx _ _ q _ _ k1 ((w.keep k1 r1).set p1)⟩
/-- a, b = e1, e2 with two local names -/
@[simp] def dPar (i j : Nat) (ta : DTA) : DTS := fun D δ S => ta δ S fun ds S1 => match ds with | [d, e] => D.nx ((δ.set i (some d)).set j (some e)) S1 | _ => False
theorem ds_par {i j : Nat} {x y : Str} {a b : Expr} {ta : DTA} {px py pt : Pos} {kt k2 pt2} (hc : X.calm = true) (hN : X.N.Nodup) (ha : DA X H0 [a, b] ta) (hi : X.N[i]? = some x := by rfl) (hj : X.N[j]? = some y := by rfl) (hij : i ≠ j := by decide)
    (hx : X.env.scope.names.lookup x = some .local := by rfl) (hy : X.env.scope.names.lookup y = some .local := by rfl)
    (hw : swappedStores [.Tuple [.Name x px, .Name y py] kt pt] (.Tuple [a, b] k2 pt2) X.env = pure (some [x, y]) := by rfl)
    (hs : swapsWithSole [.Tuple [.Name x px, .Name y py] kt pt] (.Tuple [a, b] k2 pt2) pos.line X.env = pure false := by rfl) :
    DS X H0 (.Assign [.Tuple [.Name x px, .Name y py] kt pt] (.Tuple [a, b] k2 pt2) pos) (dPar i j ta) := (ps_par hc hN hi hj hij hx hy ha hw hs).to fun D σ H h => by
  obtain ⟨δ, S, D', w, ht, hp⟩ := h
  refine ⟨δ, S, _, w, ht, fun ds S1 q vs H1 k1 r1 p1 => ?_⟩
  split at q
  · obtain ⟨v, u, rfl, rv, ru⟩ := reps2 p1
    exact ⟨v, u, rfl, hp.nx _ _ q _ _ k1 (((w.keep k1 r1).set rv).set ru)⟩
  · exact q.elim
theorem reps3 {K : Kw} {H : Hp} {d e f : Dv} {vs : List V} (r : Reps K H [d, e, f] vs) : ∃ v u x, vs = [v, u, x] ∧ Rep K H d v ∧ Rep K H e u ∧ Rep K H f x := by
  obtain ⟨y, ys, rfl, a, b⟩ := r.cons_inv
  obtain ⟨u, x, rfl, c⟩ := reps2 b
  exact ⟨y, u, x, rfl, a, c⟩
@[simp] def dPar3 (i j l : Nat) (ta : DTA) : DTS := fun D δ S => ta δ S fun ds S1 => match ds with | [d, e, f] => D.nx (((δ.set i (some d)).set j (some e)).set l (some f)) S1 | _ => False
theorem ds_par3 {i j l : Nat} {x y z : Str} {a b c : Expr} {ta : DTA} {px py pz pt : Pos} {kt k2 pt2} (hc : X.calm = true) (hN : X.N.Nodup) (ha : DA X H0 [a, b, c] ta) (hi : X.N[i]? = some x := by rfl) (hj : X.N[j]? = some y := by rfl) (hl : X.N[l]? = some z := by rfl)
    (hij : i ≠ j := by decide) (hil : i ≠ l := by decide) (hjl : j ≠ l := by decide)
    (hx : X.env.scope.names.lookup x = some .local := by rfl) (hy : X.env.scope.names.lookup y = some .local := by rfl) (hz : X.env.scope.names.lookup z = some .local := by rfl)
    (hw : swappedStores [.Tuple [.Name x px, .Name y py, .Name z pz] kt pt] (.Tuple [a, b, c] k2 pt2) X.env = pure (some [x, y, z]) := by rfl)
    (hs : swapsWithSole [.Tuple [.Name x px, .Name y py, .Name z pz] kt pt] (.Tuple [a, b, c] k2 pt2) pos.line X.env = pure false := by rfl) :
    DS X H0 (.Assign [.Tuple [.Name x px, .Name y py, .Name z pz] kt pt] (.Tuple [a, b, c] k2 pt2) pos) (dPar3 i j l ta) := (ps_par3 hc hN hi hj hl hij hil hjl hx hy hz ha hw hs).to fun D σ H h => by
  obtain ⟨δ, S, D', w, ht, hp⟩ := h
  refine ⟨δ, S, _, w, ht, fun ds S1 q vs H1 k1 r1 p1 => ?_⟩
  split at q
  · obtain ⟨v, u, x, rfl, rv, ru, rx⟩ := reps3 p1
    exact ⟨v, u, x, rfl, hp.nx _ _ q _ _ k1 ((((w.keep k1 r1).set rv).set ru).set rx)⟩
  · exact q.elim
/-- x += e, whole numbers -/
@[simp] def dAug (i : Nat) (te : DTE) (f : Int → Int → Int) : DTS := fun D δ S => match δ[i]? with
  | some (some (.int m)) => te δ S fun d S1 => (match d with | .int n => D.nx (δ.set i (some (.int (f m n)))) S1 | _ => False)
  | _ => False
theorem ds_aug {i : Nat} {x : Str} {op : Operator} {f : Int → Int → Int} {pos' : Pos} (hN : X.N.Nodup) (he : DE X H0 e te) (ho : PIp X op (ipI f)) (hi : X.N[i]? = some x := by rfl) (hx : Loc X.env.scope x := by first | exact Or.inl rfl | exact Or.inr rfl)
    (hf : X.fn x = true ∨ X.env.scope.names.lookup x = some .local := by first | exact .inl rfl | exact .inr rfl | assumption) : DS X H0 (.AugAssign (.Name x pos') op e pos) (dAug i te f) := (ps_aug hN hi hx he ho hf).to fun D σ H h => by
  obtain ⟨δ, S, D', w, ht, hp⟩ := h
  unfold dAug at ht
  split at ht
  · rename_i m e0
    obtain ⟨v, ev, rv⟩ := w.slot i _ e0
    refine ⟨v, ev, δ, S, _, w, ht, fun d S1 q u H1 k1 r1 p1 => ?_⟩
    split at q
    · rename_i n
      exact ⟨m, n, rep_int.mp rv, rep_int.mp p1, hp.nx _ _ q _ _ k1 ((w.keep k1 r1).set (rep_int.mpr rfl))⟩
    · exact q.elim
  · exact ht.elim

/-! ### for -/
def forL (p : Pat) (tb : DTS) (D : DEnds) (G : Grd) : List Dv → DSt → Store → Prop
  | [], δ, S => G S ∧ D.nx δ S
  | x :: xs, δ, S => G S ∧ match pset p x δ with
    | some δ1 => tb { D with nx := forL p tb D G xs, ct := forL p tb D G xs, bk := D.nx } δ1 S
    | none => False
def dFor (wi : DTI) (p : Pat) (tb : DTS) : DTS := fun D δ S => wi δ S fun items G S1 => forL p tb D G items δ S1
theorem ds_for {tg iter : Expr} {body : List Stmt} {wi : DTI} {p : Pat} {tb : DTS} (hp : PassesOwn (model X.prog X.w) X.A X.env X.xe) (hc : X.calm = true) (hi : DI X H0 tg iter wi) (hg : DP X tg p) (hb : DSs X H0 body tb)
    (hs : ∀ x, foldedSetIterable iter X.env x = pure x := by intro _; rfl) : DS X H0 (.For tg iter body [] pos) (dFor wi p tb) := (ps_for hp hc hi hg hb hs).to fun D σ H h => by
  obtain ⟨δ, S, D', w, ht, hp⟩ := h
  refine ⟨δ, S, _, w, ht, fun items G S1 q J H1 k1 r1 sv => ?_⟩
  refine ⟨fun i m σ' H' => m = items.length - i ∧ i ≤ items.length ∧ ∃ δ' S', Keep X.kw H1 H' ∧ Wd X.kw H0 σ' δ' S' H' ∧ forL p tb D' G (items.drop i) δ' S', ⟨_, rfl, Nat.zero_le _, δ, S1, .refl, w.keep k1 r1, q⟩, ?_⟩
  rintro i m σ2 H2 ⟨rfl, hi, δ2, S2, k2, w2, q2⟩
  by_cases hlt : i < items.length
  · rw [List.drop_eq_getElem_cons hlt] at q2
    simp only [forL] at q2
    obtain ⟨g, q2⟩ := q2
    obtain ⟨go, yld⟩ := (sv i S2 H2 k2 w2.rel g).2 items[i] (List.getElem?_eq_getElem hlt)
    refine .inr ⟨go, fun σ' H' => ∃ δ' S', Keep X.kw H1 H' ∧ Wd X.kw H0 σ' δ' S' H' ∧ forL p tb D' G (items.drop (i + 1)) δ' S', fun σ' H' z => ⟨_, by omega, rfl, hlt, z⟩, fun x H3 y => ?_⟩
    obtain ⟨k3, r3, rx⟩ := yld x H3 y
    cases e : pset p items[i] δ2 with
    | none => rw [e] at q2; exact q2.elim
    | some δ3 =>
      rw [e] at q2
      refine pset_ok p _ x σ2 δ2 δ3 e rx (w2.keep k3 r3) _ fun σ4 w4 _ => ⟨δ3, S2, _, w4, q2, fun δ5 S5 q5 σ5 H5 k5 w5 => ?_, fun δ5 S5 q5 σ5 H5 k5 w5 => ?_, fun δ5 S5 q5 σ5 H5 k5 w5 => ?_, ?_⟩
      · exact ⟨δ5, S5, k2.trans (k3.trans k5), w5, q5⟩
      · exact hp.nx _ _ q5 _ _ (k1.trans (k2.trans (k3.trans k5))) w5
      · exact ⟨δ5, S5, k2.trans (k3.trans k5), w5, q5⟩
      · exact hp.rt.keep (k1.trans (k2.trans k3))
  · have e : i = items.length := by omega
    subst e
    rw [List.drop_length] at q2
    simp only [forL] at q2
    exact .inl ⟨(sv _ S2 H2 k2 w2.rel q2.1).1 rfl, hp.nx _ _ q2.2 _ _ (k1.trans k2) w2⟩
/-! ### while -/
def dWhile (c : DTT) (tb : DTS) : DTS := fun D δ S => ∃ I : Nat → DSt → Store → Prop, (∃ m, I m δ S) ∧ ∀ m δ S, I m δ S →
  c δ S fun b S1 => if b = true then tb { D with nx := fun δ' S' => ∃ m', m' < m ∧ I m' δ' S', ct := fun δ' S' => ∃ m', m' < m ∧ I m' δ' S', bk := D.nx } δ S1 else D.nx δ S1
theorem ds_while {c : Expr} {body : List Stmt} {tc : DTT} {tb : DTS} (hp : PassesOwn (model X.prog X.w) X.A X.env X.xe) (hc : DT X H0 c tc) (hb : DSs X H0 body tb) : DS X H0 (.While c body [] pos) (dWhile tc tb) := (ps_while hp hc hb).to fun D σ H h => by
  obtain ⟨δ, S, D', w, ⟨I, ⟨m0, i0⟩, turn⟩, hp⟩ := h
  refine ⟨fun m σ' H' => ∃ δ' S', Keep X.kw H H' ∧ Wd X.kw H0 σ' δ' S' H' ∧ I m δ' S', ⟨m0, δ, S, .refl, w, i0⟩, ?_⟩
  rintro m σ2 H2 ⟨δ2, S2, k2, w2, i2⟩
  refine ⟨δ2, S2, _, w2, turn m δ2 S2 i2, fun b S3 q H3 k3 r3 => ?_⟩
  cases b with
  | true =>
    refine ⟨fun σ' H' => ∃ m', m' < m ∧ ∃ δ' S', Keep X.kw H H' ∧ Wd X.kw H0 σ' δ' S' H' ∧ I m' δ' S', fun σ' H' z => z, δ2, S3, _, w2.keep k3 r3, q, ?_⟩
    exact ⟨fun δ5 S5 ⟨m', hm, q5⟩ σ5 H5 k5 w5 => ⟨m', hm, δ5, S5, k2.trans (k3.trans k5), w5, q5⟩, fun δ5 S5 q5 σ5 H5 k5 w5 => hp.nx _ _ q5 _ _ (k2.trans (k3.trans k5)) w5,
      fun δ5 S5 ⟨m', hm, q5⟩ σ5 H5 k5 w5 => ⟨m', hm, δ5, S5, k2.trans (k3.trans k5), w5, q5⟩, hp.rt.keep (k2.trans k3)⟩
  | false => exact hp.nx _ _ q _ _ (k2.trans k3) (w2.keep k3 r3)
end

/-! ### list comprehensions -/
@[simp] def wipeD (δ : DSt) : List Nat → DSt
  | [] => δ
  | v :: vs => (wipeD δ vs).set v none
theorem wipeD_length (δ : DSt) : ∀ vs, (wipeD δ vs).length = δ.length
  | [] => rfl
  | v :: vs => by simp [wipeD, wipeD_length δ vs]
theorem wd_wipe {K : Kw} {H0 : Hp} {σ : St} {δ : DSt} {S : Store} {H : Hp} (w : Wd K H0 σ δ S H) : ∀ vs, Wd K H0 (wipe σ vs) (wipeD δ vs) S H
  | [] => w
  | v :: vs => by
    have ih := wd_wipe w vs
    refine ⟨ih.base, ih.rel, by simp [wipe, wipeD, ih.len], fun j d e => ?_⟩
    simp only [wipeD] at e
    simp only [wipe]
    by_cases h : v = j
    · subst h
      rw [List.getElem?_set_self (by have := (List.getElem?_eq_some_iff.mp e).1; simpa using this)] at e
      cases e
    · rw [List.getElem?_set_ne h] at e ⊢
      exact ih.slot j d e
theorem wipe_sub {σ : St} {vs : List Nat} : ∀ us : List Nat, (∀ i ∈ us, i ∈ vs) → wipe (wipe σ us) vs = wipe σ vs
  | [], _ => rfl
  | v :: us, h => by
    rw [show wipe σ (v :: us) = (wipe σ us).set v none from rfl, wipe_set (h v (by simp))]
    exact wipe_sub us fun i hi => h i (by simp [hi])
def lcRun (p : Pat) (tt : DTT) (te : DTE) (δ : DSt) (G : Grd) (D : Addr) (P : DK) : List Dv → Store → Prop
  | [], S => G S ∧ P (.ref D) S
  | x :: xs, S => G S ∧ match pset p x δ with
    | some δ1 => tt δ1 S fun b S2 => if b = true then te δ1 S2 fun y S3 => (match S3 D with
        | some (.lst acc) => acc.length < sizeLine ∧ lcRun p tt te δ G D P xs (up S3 D (.lst (acc ++ [y])))
        | _ => False) else lcRun p tt te δ G D P xs S2
    | none => False
def dLc (wi : DTI) (p : Pat) (tt : DTT) (te : DTE) (vs : List Nat) : DTE := fun δ S P => wi δ S fun items G S1 => ∀ D, S1 D = none → lcRun p tt te (wipeD δ vs) G D P items (up S1 D (.lst []))
@[simp] def dYes : DTT := fun _ S P => P true S
abbrev DTs (X : Cx) (H0 : Hp) (ifs : List Expr) (t : DTT) : Prop := PTs X ifs (liftT X.kw H0 t)
theorem _root_.L2.PTs.to {X : Cx} {e : List Expr} {t t' : TT} (h : PTs X e t) (i : ∀ σ H Q, t' σ H Q → t σ H Q) : PTs X e t' := ⟨fun pins s σ H Q I q => h.run pins s σ H Q I (i σ H Q q)⟩
section
variable {X : Cx} {H0 : Hp}
theorem dts_nil : DTs X H0 [] dYes := pts_nil.to fun σ H Q h => by
  obtain ⟨δ, S, P, w, ht, hp⟩ := h
  exact hp _ _ ht _ .refl w.rel
theorem dts_one {c : Expr} {t : DTT} (h : DT X H0 c t) : DTs X H0 [c] t := pts_one h
theorem lc_lift {K : Kw} {wi : DTI} {p : Pat} {tt : DTT} {te : DTE} {vs : List Nat} (hv : ∀ i ∈ pslots p, i ∈ vs) : ∀ σ H Q, liftE K H0 (dLc wi p tt te vs) σ H Q → tLc (liftI K H0 wi) (gP K p) (liftT K H0 tt) (liftE K H0 te) vs σ H Q := fun σ H Q h => by
  obtain ⟨δ, S, P, w, ht, hp⟩ := h
  refine ⟨δ, S, _, w, ht, fun items G S1 q J H1 k1 r1 sv => fun D hD => ?_⟩
  have q := q D (r1.free hD)
  have hk0 : Keep K H1 (upd H1 D (.lst [])) := .new hD
  have rl : Rel K (up S1 D (.lst [])) (upd H1 D (.lst [])) := r1.laid hD fun own ow => ⟨ow, [], upd_same, .nil⟩
  refine ⟨fun i m H' => m = items.length - i ∧ i ≤ items.length ∧ ∃ S', Keep K H1 H' ∧ Rel K S' H' ∧ lcRun p tt te (wipeD δ vs) G D P (items.drop i) S', ⟨_, rfl, Nat.zero_le _, _, hk0, rl, q⟩, ?_⟩
  rintro i m H2 ⟨rfl, hi, S2, k2, r2, q2⟩
  by_cases hlt : i < items.length
  · rw [List.drop_eq_getElem_cons hlt] at q2
    simp only [lcRun] at q2
    obtain ⟨g, q2⟩ := q2
    obtain ⟨go, yld⟩ := (sv i S2 H2 k2 r2 g).2 items[i] (List.getElem?_eq_getElem hlt)
    refine .inr ⟨go, fun H' => ∃ S', Keep K H1 H' ∧ Rel K S' H' ∧ lcRun p tt te (wipeD δ vs) G D P (items.drop (i + 1)) S', fun H' z => ⟨_, by omega, rfl, hlt, z⟩, fun x H3 y => ?_⟩
    obtain ⟨k3, r3, rx⟩ := yld x H3 y
    cases e : pset p items[i] (wipeD δ vs) with
    | none => rw [e] at q2; exact q2.elim
    | some δ3 =>
      rw [e] at q2
      have w3 : Wd K H0 (wipe σ vs) (wipeD δ vs) S2 H3 := (wd_wipe w vs).keep (k1.trans (k2.trans k3)) r3
      refine pset_ok p _ x _ _ δ3 e rx w3 _ fun σ4 w4 hw4 => ⟨by rw [hw4 vs hv]; exact wipe_sub vs fun _ z => z, δ3, S2, _, w4, q2, fun b S5 q5 H5 k5 r5 => ?_⟩
      cases b with
      | false => exact ⟨S5, k2.trans (k3.trans k5), r5, q5⟩
      | true =>
        refine ⟨δ3, S5, _, w4.keep k5 r5, q5, fun y S6 q6 yv H6 k6 r6 p6 => ?_⟩
        split at q6
        · rename_i acc e6
          obtain ⟨xs, h6, rs6⟩ := r6.lst e6
          have kk : Keep K H6 (upd H6 D (.lst (xs ++ [yv]))) := .upd fun u z => by
            rw [h6] at z; cases z
            exact ⟨fun _ q => HO.noConfusion q, fun _ _ q => HO.noConfusion q⟩
          refine ⟨xs, h6, by rw [rs6.length]; exact q6.1, _, (k2.trans (k3.trans (k5.trans k6))).trans kk, r6.write (o' := .lst (acc ++ [y])) e6 fun own _ z => ⟨OK1.mine z, _, upd_same, Reps.keep kk _ _ (rs6.append (.cons p6 .nil))⟩, q6.2⟩
        · exact q6.elim
  · have e : i = items.length := by omega
    subst e
    rw [List.drop_length] at q2
    simp only [lcRun] at q2
    exact .inl ⟨(sv _ S2 H2 k2 r2 q2.1).1 rfl, hp _ _ q2.2 _ _ (k1.trans k2) r2 (rep_ref.mpr rfl)⟩
theorem de_lc {elt tg iter : Expr} {ifs : List Expr} {scope : Scope} {own : List (Str × Nat)} {pos : Pos} {wi : DTI} {p : Pat} {tt : DTT} {te : DTE} (hc : X.calm = true) (hN : X.N.Nodup) (hi : DI X H0 tg iter wi) (ok : BlkOk X.N X.env.scope scope own)
    (hg : ∀ (s : Shared) (H : Hp) (C : Addr) (cl : List (Str × Addr)) (fp : List Addr), DP (X.blk s H scope (compEnvC scope cl C X.env) fp) tg p)
    (ht : ∀ (s : Shared) (H : Hp) (C : Addr) (cl : List (Str × Addr)) (fp : List Addr), DTs (X.blk s H scope (compEnvC scope cl C X.env) fp) H0 ifs tt)
    (he : ∀ (s : Shared) (H : Hp) (C : Addr) (cl : List (Str × Addr)) (fp : List Addr), DE (X.blk s H scope (compEnvC scope cl C X.env) fp) H0 elt te)
    (hv : ∀ i ∈ pslots p, i ∈ own.map (·.2) := by decide) (hs : ∀ x, foldedSetIterable iter X.env x = pure x := by intro _; rfl) :
    DE X H0 (.ListComp elt [⟨tg, iter, ifs, 0⟩] scope pos) (dLc wi p tt te (own.map (·.2))) := (pe_lc (g := gP X.kw p) (tt := liftT X.kw H0 tt) (te := liftE X.kw H0 te) hc hN hi ok hg ht he hs).to (lc_lift hv)
/-- x = [..] -/
theorem ds_setLc {i : Nat} {y : Str} {py : Pos} {elt tg iter : Expr} {ifs : List Expr} {scope : Scope} {own : List (Str × Nat)} {pos spos : Pos} {wi : DTI} {p : Pat} {tt : DTT} {te : DTE} (hc : X.calm = true) (hN : X.N.Nodup)
    (hi : DI X H0 tg iter wi) (ok : BlkOk X.N X.env.scope scope own)
    (hg : ∀ (s : Shared) (H : Hp) (C : Addr) (cl : List (Str × Addr)) (fp : List Addr), DP (X.blk s H scope (compEnvC scope cl C X.env) fp) tg p)
    (ht : ∀ (s : Shared) (H : Hp) (C : Addr) (cl : List (Str × Addr)) (fp : List Addr), DTs (X.blk s H scope (compEnvC scope cl C X.env) fp) H0 ifs tt)
    (he : ∀ (s : Shared) (H : Hp) (C : Addr) (cl : List (Str × Addr)) (fp : List Addr), DE (X.blk s H scope (compEnvC scope cl C X.env) fp) H0 elt te)
    (hy : X.N[i]? = some y := by rfl) (hyl : X.env.scope.names.lookup y = some .local := by rfl)
    (hsw : swapsWith (.ListComp elt [⟨tg, iter, ifs, 0⟩] scope pos) (some (.Name y py)) spos.line X.env = pure true := by exact sw_true rfl rfl rfl (by decide +kernel))
    (hv : ∀ i ∈ pslots p, i ∈ own.map (·.2) := by decide) (hs : ∀ x, foldedSetIterable iter X.env x = pure x := by intro _; rfl) :
    DS X H0 (.Assign [.Name y py] (.ListComp elt [⟨tg, iter, ifs, 0⟩] scope pos) spos) (dSet i (dLc wi p tt te (own.map (·.2)))) := (ps_setLc (g := gP X.kw p) (tt := liftT X.kw H0 tt) (te := liftE X.kw H0 te) hc hN hy hyl hsw hi ok hg ht he hs).to fun D σ H h => by
  obtain ⟨δ, S, D', w, ht, hp⟩ := h
  exact lc_lift hv σ H _ ⟨δ, S, _, w, ht, fun d S1 q v H1 k1 r1 p1 => hp.nx _ _ q _ _ k1 ((w.keep k1 r1).set p1)⟩
end
end Sb

/-! Rules over data: methods, stores, dicts. -/
namespace Sb
open PySem PySem.Spec L2

/-! ### methods of built-ins -/
section
variable {X : Cx} {H0 : Hp} {o e : Expr} {es : List Expr} {to te : DTE} {t : DTA} {name : Str} {apos cpos pos : Pos} {T id : String}
abbrev GM := Dv → List Dv → Store → DK → Prop
structure MtG (X : Cx) (T id : String) (ty : Dv → Store → Prop) (g : GM) : Prop where
  ex : ∃ r, MtR X id r ∧ ∀ d ds S P, g d ds S P → ∀ x xs H Q, Rel X.kw S H → Rep X.kw H d x → Reps X.kw H ds xs → PV X.kw H P Q → r x xs H Q
  tyv : ∀ d S x H, ty d S → Rel X.kw S H → Rep X.kw H d x → tyV X.kw T x H
@[simp] def dBM (ty : Dv → Store → Prop) (g : GM) (to : DTE) (t : DTA) : DTE := fun δ S P => to δ S fun d S1 => ty d S1 ∧ t δ S1 fun ds S2 => g d ds S2 P
@[simp] def dBM0 (ty : Dv → Store → Prop) (g : GM) (to : DTE) : DTE := fun δ S P => to δ S fun d S1 => ty d S1 ∧ g d [] S1 P
theorem de_bm0 {ty : Dv → Store → Prop} {g : GM} (m : MtG X T id ty g) (pa : PlainAttrs T) (slot : Slot T name id) (hty : typeOf (.builtin id) = pure (.type "method_descriptor")) (ho : DE X H0 o to)
    (hbase : attributeBase o name X.env (eval o X.env) = eval o X.env := by rfl) (hline : (apos.endLine == cpos.line) = true := by rfl) : DE X H0 (.Call (.Attribute o name apos) [] [] cpos) (dBM0 ty g to) :=
  let ⟨r, h1, h2⟩ := m.ex
  (pe_bm0 pa slot hty h1 ho hbase hline).to fun σ H Q h => by
    obtain ⟨δ, S, P, w, ht, hp⟩ := h
    exact ⟨δ, S, _, w, ht, fun d S1 q v H1 k1 r1 p1 => ⟨m.tyv d S1 v H1 q.1 r1 p1, h2 d [] S1 P q.2 v [] H1 Q r1 p1 .nil (hp.keep k1)⟩⟩
theorem de_bm {ty : Dv → Store → Prop} {g : GM} (m : MtG X T id ty g) (pa : PlainAttrs T) (slot : Slot T name id) (hty : typeOf (.builtin id) = pure (.type "method_descriptor")) (ho : DE X H0 o to) (ha : DA X H0 (e :: es) t)
    (hbase : attributeBase o name X.env (eval o X.env) = eval o X.env := by rfl)
    (hfew : ((backTo cpos (starEach (e :: es) X.env)).all (fun x => !x.1) && (backToKw cpos (keywordEach [] X.env)).all (fun x => x.1.isSome)
      && decide ((e :: es).length + ([] : List Keyword).length + (if ([] : List Keyword).isEmpty then 0 else 1) < 30)) = true := by rfl)
    (hline : (apos.endLine == cpos.line) = true := by rfl) (hs : starEach (e :: es) X.env = (false, eval e X.env) :: starEach es X.env := by rfl) (hplain : (backTo cpos (starEach es X.env)).any (·.1) = false := by rfl) :
    DE X H0 (.Call (.Attribute o name apos) (e :: es) [] cpos) (dBM ty g to t) :=
  let ⟨r, h1, h2⟩ := m.ex
  (pe_bm pa slot hty h1 ho ha hbase hfew hline hs hplain).to fun σ H Q h => by
    obtain ⟨δ, S, P, w, ht, hp⟩ := h
    exact ⟨δ, S, _, w, ht, fun d S1 q v H1 k1 r1 p1 => ⟨m.tyv d S1 v H1 q.1 r1 p1, δ, S1, _, w.keep k1 r1, q.2, fun ds S2 q2 vs H2 k2 r2 p2 => h2 d ds S2 P q2 v vs H2 Q r2 (p1.keep k2) p2 (hp.keep (k1.trans k2))⟩⟩
/-- a list -/
@[simp] def isL (d : Dv) (S : Store) : Prop := match d with
  | .ref a => (match S a with | some (.lst _) => True | _ => False)
  | _ => False
theorem isL_ty {K : Kw} {d : Dv} {S : Store} {x : V} {H : Hp} (h : isL d S) (r : Rel K S H) (p : Rep K H d x) : tyV K "list" x H := by
  unfold isL at h
  split at h
  · split at h
    · rename_i ds e
      obtain ⟨xs, hx, _⟩ := r.lst e
      rw [rep_ref.mp p]
      exact .inl ⟨rfl, xs, .of hx⟩
    · exact h.elim
  · exact h.elim
theorem keep_lst {K : Kw} {H : Hp} {a : Addr} {xs : List V} {o : HO} (h : H a = some (.lst xs)) : Keep K H (upd H a o) := .upd fun u z => by
  rw [h] at z; cases z
  exact ⟨fun _ q => HO.noConfusion q, fun _ _ q => HO.noConfusion q⟩
/-- a list changed -/
theorem Rel.lstw {K : Kw} {S : Store} {H : Hp} {a : Addr} {ds ds' : List Dv} {xs xs' : List V} (r : Rel K S H) (e : S a = some (.lst ds)) (h : H a = some (.lst xs)) (rs : Reps K H ds' xs') : Rel K (up S a (.lst ds')) (upd H a (.lst xs')) :=
  r.write (o' := .lst ds') e fun own _ z => ⟨OK1.mine z, xs', upd_same, Reps.keep (keep_lst h) _ _ rs⟩
@[simp] def gAppend : GM := fun d ds S P => match d, ds with
  | .ref a, [x] => (match S a with | some (.lst xs) => xs.length < sizeLine ∧ P .non (up S a (.lst (xs ++ [x]))) | _ => False)
  | _, _ => False
theorem mg_append : MtG X "list" "list.append" isL gAppend where
  tyv := fun _ _ _ _ => isL_ty
  ex := ⟨_, mt_append, fun d ds S P q x xs H Q r p ps hp => by
    unfold gAppend at q
    split at q
    · split at q
      · rename_i ys e
        obtain ⟨v, rfl, rv⟩ := reps1 ps
        obtain ⟨zs, h, rs⟩ := r.lst e
        exact ⟨_, zs, v, rep_ref.mp p, rfl, h, by rw [rs.length]; exact q.1, hp _ _ q.2 _ _ (keep_lst h) (r.lstw e h (rs.append (.cons rv .nil))) (rep_non.mpr rfl)⟩
      · exact q.elim
    · exact q.elim⟩
@[simp] def gExtend : GM := fun d ds S P => match d, ds with
  | .ref a, [.ref b] => (match S a, S b with | some (.lst xs), some (.lst ys) => xs.length + ys.length ≤ sizeLine ∧ P .non (up S a (.lst (xs ++ ys))) | _, _ => False)
  | _, _ => False
theorem mg_extend : MtG X "list" "list.extend" isL gExtend where
  tyv := fun _ _ _ _ => isL_ty
  ex := ⟨_, mt_extend, fun d ds S P q x xs H Q r p ps hp => by
    unfold gExtend at q
    split at q
    · split at q
      · rename_i ys e1 e2
        obtain ⟨v, rfl, rv⟩ := reps1 ps
        obtain ⟨zs, h, rs⟩ := r.lst e1
        obtain ⟨ws, h2, rs2⟩ := r.lst e2
        rw [rep_ref.mp rv]
        exact ⟨_, _, zs, ws, rep_ref.mp p, rfl, h, h2, by rw [rs.length, rs2.length]; exact q.1, hp _ _ q.2 _ _ (keep_lst h) (r.lstw e1 h (rs.append rs2)) (rep_non.mpr rfl)⟩
      · exact q.elim
    · exact q.elim⟩
theorem Reps.dropLast {K : Kw} {H : Hp} {ds : List Dv} {xs : List V} (r : Reps K H ds xs) : Reps K H ds.dropLast xs.dropLast := by
  rw [List.dropLast_eq_take, List.dropLast_eq_take, r.length]
  exact r.take _
@[simp] def gPop : GM := fun d ds S P => match d, ds with
  | .ref a, [] => (match S a with | some (.lst xs) => (match xs[xs.length - 1]? with | some x => P x (up S a (.lst xs.dropLast)) | none => False) | _ => False)
  | .ref a, [.int i] => (match S a with | some (.lst xs) => -(2 ^ 63) ≤ i ∧ i < 2 ^ 63 ∧ (match seqIndex? i xs.length with | some k => (match xs[k]? with | some x => P x (up S a (.lst (xs.eraseIdx k))) | none => False) | none => False) | _ => False)
  | _, _ => False
theorem mt_pops : MtR X "list.pop" (fun x vs H Q => rPop x vs H Q ∨ rPopAt x vs H Q) := MtR.or mt_pop mt_popAt
theorem mg_pop : MtG X "list" "list.pop" isL gPop where
  tyv := fun _ _ _ _ => isL_ty
  ex := ⟨_, mt_pops, fun d ds S P q x xs H Q r p ps hp => by
    unfold gPop at q
    split at q
    · split at q
      · rename_i ys e
        split at q
        · rename_i y e1
          obtain ⟨zs, h, rs⟩ := r.lst e
          obtain ⟨z, ez, rz⟩ := rs.get e1
          rw [ps.nil_inv]
          exact .inl ⟨_, zs, z, rep_ref.mp p, rfl, h, by rw [rs.length]; exact ez, hp _ _ q _ _ (keep_lst h) (r.lstw e h rs.dropLast) (rz.keep (keep_lst h))⟩
        · exact q.elim
      · exact q.elim
    · split at q
      · rename_i ys e
        obtain ⟨l1, l2, q⟩ := q
        split at q
        · rename_i k e1
          split at q
          · rename_i y e2
            obtain ⟨zs, h, rs⟩ := r.lst e
            obtain ⟨z, ez, rz⟩ := rs.get e2
            obtain ⟨v, rfl, rv⟩ := reps1 ps
            exact .inr ⟨_, zs, _, k, z, rep_ref.mp p, by rw [rep_int.mp rv], h, l1, l2, by rw [rs.length]; exact e1, ez, hp _ _ q _ _ (keep_lst h) (r.lstw e h (rs.eraseIdx k)) (rz.keep (keep_lst h))⟩
          · exact q.elim
        · exact q.elim
      · exact q.elim
    · exact q.elim⟩

/-! ### l[i] = e -/
@[simp] def dSetIx (te to ti : DTE) : DTS := fun D δ S => te δ S fun d S1 => to δ S1 fun o S2 => ti δ S2 fun i S3 => match o, i with
  | .ref a, .int k => (match S3 a with | some (.lst ds) => (match ixN ds.length k with | some j => D.nx δ (up S3 a (.lst (ds.set j d))) | none => False) | _ => False)
  | _, _ => False
theorem ds_setIx {i : Expr} {ti : DTE} {pos' : Pos} (he : DE X H0 e te) (ho : DE X H0 o to) (hi : DE X H0 i ti) (hs : swapsWithSole [.Subscript o i pos'] e pos.line X.env = pure false := by rfl) (hw : swappedStores [.Subscript o i pos'] e X.env = pure none := by rfl)
    (h1 : (assignEach [.Subscript o i pos'] X.env).map (·.2) = [assign (.Subscript o i pos') X.env] := by rfl)
    (ha : ∀ v, assign (.Subscript o i pos') X.env v = (do
      let ov ← holding [v] (eval o X.env)
      let iv ← holding [v, ov] (eval i X.env)
      standAt pos'
      holding [v, ov, iv] (setItem ov iv v)
      release [v, ov, iv] []) := by intro _; rfl) : DS X H0 (.Assign [.Subscript o i pos'] e pos) (dSetIx te to ti) := (ps_asg he (pg_sub ho hi set_list ha) hs hw h1).to fun D σ H h => by
  obtain ⟨δ, S, D', w, ht, hp⟩ := h
  refine ⟨δ, S, _, w, ht, fun d S1 q v H1 k1 r1 p1 => ⟨δ, S1, _, w.keep k1 r1, q, fun od S2 q2 ov H2 k2 r2 p2 => ⟨δ, S2, _, w.keep (k1.trans k2) r2, q2, fun id S3 q3 iv H3 k3 r3 p3 => ?_⟩⟩⟩
  split at q3
  · split at q3
    · rename_i ds e0
      split at q3
      · rename_i j e1
        obtain ⟨xs, h, rs⟩ := r3.lst e0
        refine ⟨_, xs, _, j, rep_ref.mp p2, rep_int.mp p3, h, by rw [rs.length]; exact e1, ?_⟩
        exact hp.nx _ _ q3 _ _ (k1.trans (k2.trans (k3.trans (keep_lst h)))) ((w.keep (k1.trans (k2.trans k3)) r3).keep (keep_lst h) (r3.lstw e0 h (rs.set j (p1.keep (k2.trans k3)))))
      · exact q3.elim
    · exact q3.elim
  · exact q3.elim
end

/-! ### dicts -/
section
open Classical
noncomputable def dval : List (Dv × Dv) → Dv → Option Dv
  | [], _ => none
  | (k', v) :: r, k => if k' = k then some v else dval r k
noncomputable def dput (kvs : List (Dv × Dv)) (k v : Dv) : List (Dv × Dv) := match dval kvs k with
  | some _ => kvs.map fun kv => if kv.1 = k then (kv.1, v) else kv
  | none => kvs ++ [(k, v)]
noncomputable def ddrop (kvs : List (Dv × Dv)) (k : Dv) : List (Dv × Dv) := kvs.filter fun kv => decide (kv.1 ≠ k)
noncomputable def dmerge (kvs more : List (Dv × Dv)) : List (Dv × Dv) := more.foldl (fun acc kv => dput acc kv.1 kv.2) kvs
end
/-- a key of a dict -/
@[simp] def isK : Dv → Option Key
  | .int i => some (.inl i)
  | .str x => some (.inr x)
  | _ => none
theorem isK_kD {d : Dv} {k : Key} (h : isK d = some k) : d = kD k := by
  cases d <;> simp only [isK, Option.some.injEq, reduceCtorEq] at h <;> subst h <;> rfl
theorem rep_kD {K : Kw} {H : Hp} {k : Key} {v : V} (r : Rep K H (kD k) v) : v = kV k := by
  cases k with
  | inl i => exact rep_int.mp r
  | inr x => exact rep_str.mp r
/-- the keys and values of a dict, as they stand -/
def KVs (K : Kw) (H : Hp) (kvs : List (Dv × Dv)) (ys : List (Key × V)) : Prop := kvs.map (·.1) = ys.map (fun y => kD y.1) ∧ Reps K H (kvs.map (·.2)) (ys.map (·.2))
section
variable {K : Kw} {H : Hp}
theorem KVs.cons_inv {p : Dv × Dv} {kvs : List (Dv × Dv)} {ys : List (Key × V)} (h : KVs K H (p :: kvs) ys) : ∃ y ys', ys = y :: ys' ∧ p.1 = kD y.1 ∧ Rep K H p.2 y.2 ∧ KVs K H kvs ys' := by
  obtain ⟨h1, h2⟩ := h
  cases ys with
  | nil => simp at h1
  | cons y ys' =>
    simp only [List.map_cons, List.cons.injEq] at h1 h2
    obtain ⟨z, zs, e, r1, r2⟩ := h2.cons_inv
    simp only [List.cons.injEq] at e
    obtain ⟨rfl, rfl⟩ := e
    exact ⟨y, ys', rfl, h1.1, r1, h1.2, r2⟩
theorem KVs.nil_inv {ys : List (Key × V)} (h : KVs K H [] ys) : ys = [] := by
  have := h.1
  cases ys with
  | nil => rfl
  | cons y ys => simp at this
theorem KVs.nil : KVs K H [] [] := ⟨rfl, .nil⟩
theorem KVs.cons {p : Dv × Dv} {y : Key × V} {kvs : List (Dv × Dv)} {ys : List (Key × V)} (h1 : p.1 = kD y.1) (h2 : Rep K H p.2 y.2) (h : KVs K H kvs ys) : KVs K H (p :: kvs) (y :: ys) := ⟨by simp [h1, h.1], by simp only [List.map_cons]; exact .cons h2 h.2⟩
theorem KVs.append {kvs kvs' : List (Dv × Dv)} {ys ys' : List (Key × V)} (h : KVs K H kvs ys) (h' : KVs K H kvs' ys') : KVs K H (kvs ++ kvs') (ys ++ ys') := ⟨by simp [h.1, h'.1], by simp only [List.map_append]; exact h.2.append h'.2⟩
theorem KVs.length {kvs : List (Dv × Dv)} {ys : List (Key × V)} (h : KVs K H kvs ys) : ys.length = kvs.length := by have := congrArg List.length h.1; simpa using this.symm
theorem KVs.get : ∀ {kvs : List (Dv × Dv)} {ys : List (Key × V)} (k : Key), KVs K H kvs ys → (dval kvs (kD k) = none ∧ valV ys k = none) ∨ ∃ d v, dval kvs (kD k) = some d ∧ valV ys k = some v ∧ Rep K H d v
  | [], ys, k, h => by rw [h.nil_inv]; exact .inl ⟨rfl, rfl⟩
  | (d, e) :: kvs, ys, k, h => by
    obtain ⟨y, ys', rfl, h1, h2, h3⟩ := h.cons_inv
    simp only at h1 h2
    by_cases q : y.1 = k
    · refine .inr ⟨e, y.2, ?_, valV_pos q, h2⟩
      rw [dval, if_pos (by rw [h1, q])]
    · have q' : ¬ d = kD k := fun z => q (kD_inj (h1.symm.trans z))
      rw [dval, if_neg q', valV_neg q]
      exact h3.get k
theorem KVs.putm : ∀ {kvs : List (Dv × Dv)} {ys : List (Key × V)} (k : Key) {d : Dv} {v : V}, KVs K H kvs ys → Rep K H d v →
    KVs K H (kvs.map fun kv => @ite _ (kv.1 = kD k) (Classical.propDecidable _) (kv.1, d) kv) (ys.map fun kv => if kv.1 = k then (kv.1, v) else kv)
  | [], ys, k, _, _, h, _ => by rw [h.nil_inv]; exact .nil
  | (d, e) :: kvs, ys, k, _, _, h, r => by
    obtain ⟨y, ys', rfl, h1, h2, h3⟩ := h.cons_inv
    simp only at h1 h2
    simp only [List.map_cons]
    refine .cons ?_ ?_ (KVs.putm k h3 r)
    · by_cases q : y.1 = k
      · rw [if_pos q, if_pos (by rw [h1, q])]; exact h1
      · rw [if_neg q, if_neg fun z => q (kD_inj (h1.symm.trans z))]; exact h1
    · by_cases q : y.1 = k
      · rw [if_pos q, if_pos (by rw [h1, q])]; exact r
      · rw [if_neg q, if_neg fun z => q (kD_inj (h1.symm.trans z))]; exact h2
theorem KVs.put {kvs : List (Dv × Dv)} {ys : List (Key × V)} (k : Key) {d : Dv} {v : V} (h : KVs K H kvs ys) (r : Rep K H d v) : KVs K H (dput kvs (kD k) d) (putK ys k v) := by
  unfold dput putK
  rw [valV_any]
  rcases h.get k with ⟨h1, h2⟩ | ⟨x, y, h1, h2, _⟩
  · rw [h1, h2]
    simp only [Option.isSome_none, Bool.false_eq_true, if_false]
    exact h.append (.cons rfl r .nil)
  · rw [h1, h2]
    simp only [Option.isSome_some, if_true]
    exact h.putm k r
theorem KVs.drop : ∀ {kvs : List (Dv × Dv)} {ys : List (Key × V)} (k : Key), KVs K H kvs ys → KVs K H (ddrop kvs (kD k)) (dropK ys k)
  | [], ys, k, h => by rw [h.nil_inv]; exact .nil
  | (d, e) :: kvs, ys, k, h => by
    obtain ⟨y, ys', rfl, h1, h2, h3⟩ := h.cons_inv
    simp only at h1 h2
    have ih := KVs.drop k h3
    unfold ddrop dropK at ih ⊢
    rw [List.filter_cons, List.filter_cons]
    by_cases q : y.1 = k
    · have q' : d = kD k := by rw [h1, q]
      simp only [q', q, ne_eq, not_true_eq_false, decide_false, Bool.false_eq_true, if_false]
      exact ih
    · have q' : ¬ d = kD k := fun z => q (kD_inj (h1.symm.trans z))
      simp only [q', q, ne_eq, not_false_eq_true, decide_true, if_true]
      exact .cons h1 h2 ih
theorem KVs.merge : ∀ {more : List (Dv × Dv)} {ms : List (Key × V)} {kvs : List (Dv × Dv)} {ys : List (Key × V)}, KVs K H more ms → KVs K H kvs ys → KVs K H (dmerge kvs more) (mergeK ys ms)
  | [], ms, kvs, ys, h, q => by rw [h.nil_inv]; exact q
  | (d, e) :: more, ms, kvs, ys, h, q => by
    obtain ⟨y, ys', rfl, h1, h2, h3⟩ := h.cons_inv
    simp only at h1 h2
    have := q.put y.1 h2
    rw [← h1] at this
    have ih := KVs.merge (more := more) h3 this
    exact ih
theorem KVs.keep {H' : Hp} {kvs : List (Dv × Dv)} {ys : List (Key × V)} (h : KVs K H kvs ys) (k : Keep K H H') : KVs K H' kvs ys := ⟨h.1, h.2.keep k⟩
end
theorem keep_dk {K : Kw} {H : Hp} {a : Addr} {ys : List (Key × V)} {o : HO} (h : H a = some (.dK ys)) : Keep K H (upd H a o) := .upd fun u z => by
  rw [h] at z; cases z
  exact ⟨fun _ q => HO.noConfusion q, fun _ _ q => HO.noConfusion q⟩
theorem Rel.dctw {K : Kw} {S : Store} {H : Hp} {a : Addr} {ds ds' : List (Dv × Dv)} {ys ys' : List (Key × V)} (r : Rel K S H) (e : S a = some (.dct ds)) (h : H a = some (.dK ys)) (rs : KVs K H ds' ys') : Rel K (up S a (.dct ds')) (upd H a (.dK ys')) :=
  r.write (o' := .dct ds') e fun own _ z => let q := KVs.keep (H' := upd H a (.dK ys')) rs (keep_dk h); ⟨OK1.mine z, ys', upd_same, q.1, q.2⟩
section
variable {X : Cx} {H0 : Hp} {o i e f : Expr} {td ty tv tx : DTE} {pos apos cpos : Pos}
/-- {} -/
@[simp] def dDnew : DTE := fun _ S P => ∀ p, S p = none → P (.ref p) (up S p (.dct []))
theorem de_dnew : DE X H0 (.Dict [] [] pos) dDnew := pe_dnewK.to fun σ H Q h => by
  obtain ⟨δ, S, P, w, ht, hp⟩ := h
  exact fun p hn => hp _ _ (ht p (w.rel.free hn)) _ _ (.new hn) (w.rel.laid hn fun own ow => ⟨ow, [], upd_same, rfl, .nil⟩) (rep_ref.mpr rfl)
/-- what a dict holds at a key -/
@[simp] def gAt (S : Store) (d k : Dv) (P : Option Dv → Prop) : Prop := match d, isK k with
  | .ref a, some _ => (match S a with | some (.dct kvs) => P (dval kvs k) | _ => False)
  | _, _ => False
theorem at_get {K : Kw} {S : Store} {H : Hp} {d k : Dv} {x y : V} {P : Option Dv → Prop} (h : gAt S d k P) (r : Rel K S H) (p1 : Rep K H d x) (p2 : Rep K H k y) :
    ∃ a ov, x = .ref a ∧ DGet H a y ov ∧ ((ov = none ∧ P none) ∨ ∃ d v, ov = some v ∧ Rep K H d v ∧ P (some d)) := by
  unfold gAt at h
  split at h
  · rename_i a key ek
    split at h
    · rename_i kvs e
      obtain ⟨ys, hy, n, rs⟩ := r.dct e
      have ek := isK_kD ek
      rw [ek] at p2 h
      have hyk := rep_kD p2
      refine ⟨a, valV ys key, rep_ref.mp p1, by rw [hyk]; exact .k hy, ?_⟩
      rcases KVs.get key ⟨n, rs⟩ with ⟨h1, h2⟩ | ⟨d, v, h1, h2, h3⟩
      · rw [h1] at h; exact .inl ⟨h2, h⟩
      · rw [h1] at h; exact .inr ⟨d, v, h2, h3, h⟩
    · exact h.elim
  · exact h.elim
@[simp] def dDget (td ty : DTE) : DTE := fun δ S P => td δ S fun d S1 => ty δ S1 fun k S2 => gAt S2 d k fun v => match v with | some v => P v S2 | none => False
theorem de_dget (hu : X.A.units + 1 < cLine) (ho : DE X H0 o td) (hi : DE X H0 i ty) (hs : NoSl i := by exact fun _ _ => rfl) : DE X H0 (.Subscript o i pos) (dDget td ty) := (pe_dget hu ho hi hs).to fun σ H Q h => by
  obtain ⟨δ, S, P, w, ht, hp⟩ := h
  refine ⟨δ, S, _, w, ht, fun d S1 q x H1 k1 r1 p1 => ⟨δ, S1, _, w.keep k1 r1, q, fun k S2 q2 y H2 k2 r2 p2 => ?_⟩⟩
  obtain ⟨a, ov, rfl, g, z⟩ := at_get q2 r2 (p1.keep k2) p2
  rcases z with ⟨_, z⟩ | ⟨d', v, rfl, rv, z⟩
  · exact z.elim
  · exact ⟨a, v, rfl, g, hp _ _ z _ _ (k1.trans k2) r2 rv⟩
@[simp] def dDin (b : Bool → Bool) (ty td : DTE) : DTE := fun δ S P => ty δ S fun k S1 => td δ S1 fun d S2 => gAt S2 d k fun v => P (.bl (b v.isSome)) S2
theorem din_lift {K : Kw} {b : Bool → Bool} : ∀ σ H Q, liftE K H0 (dDin b ty td) σ H Q → liftE K H0 ty σ H fun y H1 => liftE K H0 td σ H1 fun x H2 => ∃ a ov, x = .ref a ∧ DGet H2 a y ov ∧ Q (.bl (b ov.isSome)) H2 := fun σ H Q h => by
  obtain ⟨δ, S, P, w, ht, hp⟩ := h
  refine ⟨δ, S, _, w, ht, fun k S1 q y H1 k1 r1 p1 => ⟨δ, S1, _, w.keep k1 r1, q, fun d S2 q2 x H2 k2 r2 p2 => ?_⟩⟩
  obtain ⟨a, ov, rfl, g, z⟩ := at_get q2 r2 p2 (p1.keep k2)
  refine ⟨a, ov, rfl, g, ?_⟩
  rcases z with ⟨rfl, z⟩ | ⟨d', v, rfl, rv, z⟩
  · exact hp _ _ z _ _ (k1.trans k2) r2 (rep_bl.mpr rfl)
  · exact hp _ _ z _ _ (k1.trans k2) r2 (rep_bl.mpr rfl)
theorem de_din (hu : X.A.units + 1 < cLine) (hi : DE X H0 i ty) (ho : DE X H0 o td) (h1 : behindInMarks .In o = false := by rfl) : DE X H0 (.Compare i [.In] [o] pos) (dDin id ty td) := (pe_cmp (pc_din hu hi ho) h1).to din_lift
theorem de_dnotin (hu : X.A.units + 1 < cLine) (hi : DE X H0 i ty) (ho : DE X H0 o td) (h1 : behindInMarks .NotIn o = false := by rfl) : DE X H0 (.Compare i [.NotIn] [o] pos) (dDin not ty td) := (pe_cmp (pc_dnotin hu hi ho) h1).to din_lift
theorem dt_din (hu : X.A.units + 1 < cLine) (hi : DE X H0 i ty) (ho : DE X H0 o td) (h1 : behindInMarks .In o = false := by rfl) : DT X H0 (.Compare i [.In] [o] pos) (dB (dDin id ty td)) := (pt_cmp (pc_din hu hi ho) h1).to fun σ H Q h => by
  obtain ⟨δ, S, P, w, ht, hp⟩ := h
  refine din_lift (b := id) σ H (fun x H' => ∃ c, x = .bl c ∧ Q c H') ⟨δ, S, _, w, ht, fun d S1 q v H1 k1 r1 p1 => ?_⟩
  split at q
  · exact ⟨_, rep_bl.mp p1, hp _ _ q _ k1 r1⟩
  · exact q.elim
theorem dt_dnotin (hu : X.A.units + 1 < cLine) (hi : DE X H0 i ty) (ho : DE X H0 o td) (h1 : behindInMarks .NotIn o = false := by rfl) : DT X H0 (.Compare i [.NotIn] [o] pos) (dB (dDin not ty td)) := (pt_cmp (pc_dnotin hu hi ho) h1).to fun σ H Q h => by
  obtain ⟨δ, S, P, w, ht, hp⟩ := h
  refine din_lift (b := not) σ H (fun x H' => ∃ c, x = .bl c ∧ Q c H') ⟨δ, S, _, w, ht, fun d S1 q v H1 k1 r1 p1 => ?_⟩
  split at q
  · exact ⟨_, rep_bl.mp p1, hp _ _ q _ k1 r1⟩
  · exact q.elim
/-- d.get(k), d.get(k, x) -/
@[simp] def isDc (d : Dv) (S : Store) : Prop := match d with
  | .ref a => (match S a with | some (.dct _) => True | _ => False)
  | _ => False
theorem isDc_is {K : Kw} {d : Dv} {S : Store} {x : V} {H : Hp} (h : isDc d S) (r : Rel K S H) (p : Rep K H d x) : ∃ a, x = .ref a ∧ IsD H a := by
  unfold isDc at h
  split at h
  · split at h
    · rename_i ds e
      obtain ⟨ys, hy, _⟩ := r.dct e
      exact ⟨_, rep_ref.mp p, .inl ⟨ys, .inl hy⟩⟩
    · exact h.elim
  · exact h.elim
@[simp] def dDget1 (td ty : DTE) : DTE := fun δ S P => td δ S fun d S1 => isDc d S1 ∧ ty δ S1 fun k S2 => gAt S2 d k fun v => P (v.getD .non) S2
@[simp] def dDget2 (td ty tx : DTE) : DTE := fun δ S P => td δ S fun d S1 => isDc d S1 ∧ ty δ S1 fun k S2 => tx δ S2 fun x S3 => gAt S3 d k fun v => P (v.getD x) S3
theorem de_dget1 (hu : X.A.units + 1 < cLine) (ho : DE X H0 o td) (he : DE X H0 e ty) (m : M1 X o "get" apos e cpos) : DE X H0 (.Call (.Attribute o "get" apos) [e] [] cpos) (dDget1 td ty) := (pe_dget1 hu ho he m).to fun σ H Q h => by
  obtain ⟨δ, S, P, w, ht, hp⟩ := h
  refine ⟨δ, S, _, w, ht, fun d S1 q x H1 k1 r1 p1 => ?_⟩
  obtain ⟨a, rfl, isd⟩ := isDc_is q.1 r1 p1
  refine ⟨a, rfl, isd, δ, S1, _, w.keep k1 r1, q.2, fun k S2 q2 y H2 k2 r2 p2 => ?_⟩
  obtain ⟨b, ov, e, g, z⟩ := at_get q2 r2 (p1.keep k2) p2
  cases e
  refine ⟨ov, g, ?_⟩
  rcases z with ⟨rfl, z⟩ | ⟨d', v, rfl, rv, z⟩
  · exact hp _ _ z _ _ (k1.trans k2) r2 (rep_non.mpr rfl)
  · exact hp _ _ z _ _ (k1.trans k2) r2 rv
theorem de_dget2 (hu : X.A.units + 1 < cLine) (ho : DE X H0 o td) (he : DE X H0 e ty) (hf : DE X H0 f tx) (m : M2 X o "get" apos e f cpos) : DE X H0 (.Call (.Attribute o "get" apos) [e, f] [] cpos) (dDget2 td ty tx) := (pe_dget2 hu ho he hf m).to fun σ H Q h => by
  obtain ⟨δ, S, P, w, ht, hp⟩ := h
  refine ⟨δ, S, _, w, ht, fun d S1 q x H1 k1 r1 p1 => ?_⟩
  obtain ⟨a, rfl, isd⟩ := isDc_is q.1 r1 p1
  refine ⟨a, rfl, isd, δ, S1, _, w.keep k1 r1, q.2, fun k S2 q2 y H2 k2 r2 p2 => ⟨δ, S2, _, w.keep (k1.trans k2) r2, q2, fun xd S3 q3 z H3 k3 r3 p3 => ?_⟩⟩
  obtain ⟨b, ov, e, g, zz⟩ := at_get q3 r3 (p1.keep (k2.trans k3)) (p2.keep k3)
  cases e
  refine ⟨ov, g, ?_⟩
  rcases zz with ⟨rfl, zz⟩ | ⟨d', v, rfl, rv, zz⟩
  · exact hp _ _ zz _ _ (k1.trans (k2.trans k3)) r3 p3
  · exact hp _ _ zz _ _ (k1.trans (k2.trans k3)) r3 rv
/-- d[k] = v -/
@[simp] def dDput (td ty tv : DTE) : DTS := fun D δ S => tv δ S fun v S1 => td δ S1 fun d S2 => ty δ S2 fun k S3 => match d, isK k with
  | .ref a, some _ => (match S3 a with | some (.dct kvs) => kvs.length < sizeLine ∧ D.nx δ (up S3 a (.dct (dput kvs k v))) | _ => False)
  | _, _ => False
theorem ds_dput {value : Expr} {pos' : Pos} (hu : X.A.units + 1 < cLine) (ho : DE X H0 o td) (hi : DE X H0 i ty) (hv : DE X H0 value tv) (hs : swapsWith value (some (.Subscript o i pos')) pos.line X.env = pure false := by rfl) :
    DS X H0 (.Assign [.Subscript o i pos'] value pos) (dDput td ty tv) := (ps_dput hu ho hi hv hs).to fun D σ H h => by
  obtain ⟨δ, S, D', w, ht, hp⟩ := h
  refine ⟨δ, S, _, w, ht, fun vd S1 q v H1 k1 r1 p1 => ⟨δ, S1, _, w.keep k1 r1, q, fun d S2 q2 x H2 k2 r2 p2 => ⟨δ, S2, _, w.keep (k1.trans k2) r2, q2, fun k S3 q3 y H3 k3 r3 p3 => ?_⟩⟩⟩
  split at q3
  · rename_i a key ek
    split at q3
    · rename_i kvs e
      obtain ⟨ys, hy, n, rs⟩ := r3.dct e
      have ek := isK_kD ek
      subst ek
      have hyk := rep_kD p3
      have kv : KVs X.kw H3 kvs ys := ⟨n, rs⟩
      refine ⟨a, _, rep_ref.mp p2, by rw [hyk]; exact .k hy (by rw [kv.length]; exact q3.1), ?_⟩
      exact hp.nx _ _ q3.2 _ _ (k1.trans (k2.trans (k3.trans (keep_dk hy)))) ((w.keep (k1.trans (k2.trans k3)) r3).keep (keep_dk hy) (r3.dctw e hy (kv.put key (p1.keep (k2.trans k3)))))
    · exact q3.elim
  · exact q3.elim
end
end Sb

/-! Contracts of defs over data, the end of a law. -/
namespace Sb
open PySem PySem.Spec PyProof.Rows L2

/-- an exception wanted: its class by name, its dict, the store -/
abbrev DX := Str → Option Addr → Store → Prop
abbrev DSp := List Dv → Store → DK → DX → Prop
def PX (K : Kw) (H : Hp) (Pe : DX) (E : XK) : Prop := ∀ c od S1, Pe c od S1 → ∀ C H1, K.mg c = some (.ref C) → Keep K H H1 → Rel K S1 H1 → E (.ref C) od H1
abbrev X0 : DX := fun _ _ _ => False
theorem px0 {K : Kw} {H : Hp} {E : XK} : PX K H X0 E := fun _ _ _ h => h.elim
theorem PX.keep {K : Kw} {H H1 : Hp} {Pe : DX} {E : XK} (h : PX K H Pe E) (k : Keep K H H1) : PX K H1 Pe E := fun c od S1 p C H2 m k2 r => h c od S1 p C H2 m (k.trans k2) r

/-- a def keeps a promise over data -/
structure DFn (P : Program) (w : World) (K : PySem.W.Frag) (mg : Str → Option Value) (base : Heap) (k : Nat) (f : Addr) (fd : FuncData) (ps : List Str) (sp : DSp) : Prop where
  len : ∀ ds S Pq Pe, sp ds S Pq Pe → ds.length = ps.length
  run : ∀ {A : Around} {outer : List Env} {s : Shared} {H : Hp} {args : Args} {us : List Value} {vs : List V} {ds : List Dv} {S : Store} {Pq : DK} {Pe : DX} {Q : VK} {E : XK}, A.guards = some [] → Room k A →
    Env0 P w K mg base A outer s H → BindsTo s fd args (ps.zip us) → Vals vs us → Rel ⟨K, w, mg⟩ S H → Reps ⟨K, w, mg⟩ H ds vs → sp ds S Pq Pe → PV ⟨K, w, mg⟩ H Pq Q → PX ⟨K, w, mg⟩ H Pe E →
    codeAny (model P w) A (.call (.ref f) args) (CR (CX P w) outer P w H s Q E) s
theorem DFn.mono {P : Program} {w : World} {K : PySem.W.Frag} {mg : Str → Option Value} {base : Heap} {j k : Nat} {f : Addr} {fd : FuncData} {ps : List Str} {sp : DSp} (F : DFn P w K mg base j f fd ps sp) (h : j ≤ k) : DFn P w K mg base k f fd ps sp :=
  ⟨F.len, fun g r => F.run g (r.mono h)⟩
/-- a promise that follows -/
theorem DFn.imp {P : Program} {w : World} {K : PySem.W.Frag} {mg : Str → Option Value} {base : Heap} {k : Nat} {f : Addr} {fd : FuncData} {ps : List Str} {sp sp' : DSp} (F : DFn P w K mg base k f fd ps sp)
    (len : ∀ ds S Pq Pe, sp' ds S Pq Pe → ds.length = ps.length) (h : ∀ ds S Pq Pe, sp' ds S Pq Pe → VS ⟨K, w, mg⟩ S fun S0 => sp ds S0 (fun d S1 => VS ⟨K, w, mg⟩ S1 (Pq d)) Pe) : DFn P w K mg base k f fd ps sp' := by
  refine ⟨len, fun g r e b v rl rs q pv px => ?_⟩
  · obtain ⟨S0, r0, q0⟩ := h _ _ _ _ q _ rl
    exact F.run g r e b v r0 rs q0 (fun d S1 p x H1 k1 r1 rep => let ⟨S2, r2, p2⟩ := p H1 r1; pv d S2 p2 x H1 k1 r2 rep) px

section
variable {X : Cx} {H0 : Hp} {k : Nat} {f C : Addr} {fd : FuncData} {ps : List Str} {sp : DSp} {E : XK} {Pe : DX} {x m : Str} {p pos apos : Pos} {e o : Expr} {es : List Expr} {ta : DTE} {t : DTA}
@[simp] def dCall (sp : DSp) (Pe : DX) (t : DTA) : DTE := fun δ S P => t δ S fun ds S1 => sp ds S1 P Pe
theorem go_fn {pins : List (Addr × Obj)} {σ : L2.St} {H : Hp} {s : Shared} {Q : VK} {us : List Value} {vs : List V} {ds : List Dv} {S : Store} {P : DK} (F : DFn X.prog X.w X.K X.mg X.base k f fd ps sp) (hgd : X.A.guards = some []) (hr : Room k X.A)
    (hb : Binds X.K fd ps []) (hx : Passes (CX X.prog X.w) X E) (I : Inv X pins σ H s) (rv : Vals vs us) (rl : Rel X.kw S H) (rs : Reps X.kw H ds vs) (q : sp ds S P Pe) (pv : PV X.kw H P Q) (px : PX X.kw H Pe E) :
    wpAny (model X.prog X.w) X.A (call (.ref f) us) (EP X pins σ Q) X.xe s := by
  have hl : (us ++ []).length = ps.length := by rw [List.append_nil, ← rv.length, rs.length]; exact F.len _ _ _ _ q
  have bnd := hb s us I.kIn hl
  rw [List.append_nil] at bnd
  refine wpAny_call (codeAny_mono (F.run hgd hr I.env0 bnd rv rl rs q pv px) fun r s' hq => ?_)
  cases r with
  | error e => exact hx pins σ H s e s' I hq
  | ok fl =>
    cases fl with
    | ret u => exact I.after hq
    | _ => exact (show False from hq).elim
theorem de_call (F : DFn X.prog X.w X.K X.mg X.base k f fd ps sp) (hgd : X.A.guards = some []) (hr : Room k X.A) (hg : Gl X x) (hm : X.mg x = some (.ref f)) (hk : PySem.W.keepIn X.K (.ref f) = true) (hb : Binds X.K fd ps []) (hx : Passes (CX X.prog X.w) X E) (px : PX X.kw H0 Pe E)
    (ha : DA X H0 (e :: es) t) (hdb : (x == ("__debug__" : Str)) = false := by decide) (he : starEach (e :: es) X.env = (false, eval e X.env) :: starEach es X.env := by rfl)
    (hpl : (backTo pos (starEach es X.env)).any (·.1) = false := by rfl) : DE X H0 (.Call (.Name x p) (e :: es) [] pos) (dCall sp Pe t) := by
  refine ⟨fun pins s σ H Q I h => wpAny_Call_Name_kw (ld_glob I hg hm ?_ hdb)⟩
  obtain ⟨δ, S, P, w, ht, hp⟩ := h
  refine PySem.W.callWith_K (h₀ := X.base) I.ok.mod.kin hk (thn (ha.run pos pins s σ H (fun vs H1 => ∃ ds S1, Keep X.kw H H1 ∧ Rel X.kw S1 H1 ∧ Reps X.kw H1 ds vs ∧ sp ds S1 P Pe) I ⟨δ, S, _, w, ht, fun ds S1 q vs H1 k1 r1 p1 => ⟨ds, S1, k1, r1, p1, q⟩⟩) fun us s1 q => ?_) he hpl
  obtain ⟨vs, H1, I1, rv, ds, S1, k1, r1, p1, q⟩ := q
  exact ⟨I1.kIn, go_fn F hgd hr hb hx I1 rv r1 p1 q (hp.keep k1) (px.keep (w.base.trans k1))⟩
theorem de_call0 (F : DFn X.prog X.w X.K X.mg X.base k f fd ps sp) (hgd : X.A.guards = some []) (hr : Room k X.A) (hg : Gl X x) (hm : X.mg x = some (.ref f)) (hk : PySem.W.keepIn X.K (.ref f) = true) (hb : Binds X.K fd ps []) (hx : Passes (CX X.prog X.w) X E) (px : PX X.kw H0 Pe E)
    (hdb : (x == ("__debug__" : Str)) = false := by decide) : DE X H0 (.Call (.Name x p) [] [] pos) (dCall sp Pe dNil) := by
  refine ⟨fun pins s σ H Q I h => wpAny_Call_Name_kw (ld_glob I hg hm ?_ hdb)⟩
  obtain ⟨δ, S, P, w, ht, hp⟩ := h
  exact PySem.W.callWith_K0 I.kIn hk (go_fn (us := []) F hgd hr hb hx I .nil w.rel .nil ht hp (px.keep w.base))
end

/-! ### a def by its body -/
@[simp] def dstart (N : List Str) (ds : List Dv) : DSt := ds.map some ++ List.replicate (N.length - ds.length) none
theorem wd_start {K : Kw} {H : Hp} {S : Store} {N : List Str} {ds : List Dv} {vs : List V} (r : Rel K S H) (rs : Reps K H ds vs) : Wd K H (L2.start N vs) (dstart N ds) S H := by
  refine ⟨.refl, r, by simp [L2.start, dstart, rs.length], fun i d e => ?_⟩
  unfold dstart at e
  unfold L2.start
  by_cases hi : i < ds.length
  · rw [List.getElem?_append_left (by simpa using hi), List.getElem?_map] at e
    obtain ⟨d', e1, e2⟩ := Option.map_eq_some_iff.mp e
    cases e2
    obtain ⟨v, ev, rv⟩ := rs.get e1
    exact ⟨v, by rw [List.getElem?_append_left (by simpa [rs.length] using hi), List.getElem?_map, ev]; rfl, rv⟩
  · rw [List.getElem?_append_right (by simpa using hi), List.getElem?_replicate] at e
    split at e <;> cases e
section
variable {P : Program} {w : World} {K : PySem.W.Frag} {mg : Str → Option Value} {base : Heap}
theorem guards_deeper {A : Around} {env : Env} (h : A.guards = some []) : (A.deeper env).guards = some [] := by
  first | exact h | simpa [Around.deeper] using h
/-- the promise told by the body's reading -/
def dsp (K : Kw) (N : List Str) (t : DX → DTS) (ds : List Dv) (S : Store) (Pq : DK) (Pe : DX) : Prop :=
  VS K S fun S0 => t Pe { nx := fun _ S1 => VS K S1 (Pq .non), rt := fun d S1 => VS K S1 (Pq d) } (dstart N ds) S0
theorem _root_.L2.Fun.okD {x qual : Str} {st : Stmt} {f : Addr} {fd : FuncData} {N ps : List Str} {k : Nat} {sp : DSp} {t : DX → DTS} (F : Fun K x qual st f fd) (Sc : FnScope N ps (defScope st)) (len : ∀ ds S Pq Pe, sp ds S Pq Pe → ds.length = ps.length)
    (hbody : ∀ (cdv : Value) (A : Around) (outer : List Env) (s : Shared) (H : Hp) (Pe : DX) (E : XK), (A.deeper (PyProof.Rows.envOfC qual (defScope st) s.heap.objs.size f cdv)).guards = some [] → Room k (A.deeper (PyProof.Rows.envOfC qual (defScope st) s.heap.objs.size f cdv)) → PX ⟨K, w, mg⟩ H Pe E →
      DSs (cxOf (CX P w) P w K mg base N qual (defScope st) f cdv A outer s H E) H (defBody st) (t Pe))
    (hsp : ∀ ds S Pq Pe, sp ds S Pq Pe → dsp ⟨K, w, mg⟩ N t ds S Pq Pe) : DFn P w K mg base (k + 1) f fd ps sp := by
  obtain ⟨oc, od, kV, doc, pm, an, cdv, ct, osl, rfl, lk, hcd⟩ := F.ex
  refine ⟨len, fun {A outer s H args us vs ds S Pq Pe Q E} hgd hr e0 hb rv rl rs q pv px => ?_⟩
  have hl : vs.length = ps.length := by rw [rs.length]; exact len _ _ _ _ q
  have old : ∀ b o, base.get? b = some o → s.heap.get? b = some o := fun b o e => (e0.bs b o e).1
  have KX := PySem.W.Frag.In.keeps e0.mod.kin old
  have lim := Heap.NoLimit.keeps e0.mod.nolimit old
  generalize hsc : defScope st = scope at *
  have hkind : ∀ y ∈ ps.zip us, scope.names.lookup y.1 = some .local ∨ (scope.names.lookup y.1 = some .cell ∧ ((cellsFrom (s.heap.objs.size + 1) scope.names []).lookup y.1).isSome = true) := by
    intro y hy
    exact (Sc.par y.1 (List.of_mem_zip (b := y.2) hy).1).imp id fun z => ⟨z, PySem.W.cellsFrom_some _ _ _ (.inl z)⟩
  refine codeAny_call_function hr.depth (KX _ _ lk) rfl Sc.co Sc.gen rfl (PySem.W.codeRec_of KX hcd) (hb _ _ _ _ ?_)
  refine wpAny_newFunctionEnv_cells Sc.kind hkind fun env he s1 x1 => ?_
  subst he
  refine ⟨lim.keeps x1.toInCall.keep, codeAny_func ?_⟩
  have body := hbody cdv A outer s H Pe E (guards_deeper hgd) (hr.deeper _) px
  obtain ⟨S0, r0, q0⟩ := hsp ds S Pq Pe q H rl
  have I := inv_start (CX := CX P w) (E := E) Sc hr.hd e0 hl rv x1
  have go := body.run [] s1 (L2.start N vs) H { nx := fun _ H' => Q .non H', rt := Q } I ⟨_, S0, _, wd_start r0 rs, q0, fun δ1 S1 z σ1 H1 k1 w1 => ?_, fun _ _ z => z.elim, fun _ _ z => z.elim, fun d S1 z v H1 k1 r1 p1 => ?_⟩
  · refine wpAny_mono go (fun fl s' hs => ?_) fun e s' hs => hs
    cases fl with
    | ret u => exact let ⟨v, σ', H', J, ru, hq⟩ := hs; (show CE outer P w H s Q u s' from ⟨v, H', J.os, J.bare, J.base, J.hok, ru, hq⟩)
    | next => exact let ⟨σ', H', J, hq⟩ := hs; (show CE outer P w H s Q .none s' from ⟨.non, H', J.os, J.bare, J.base, J.hok, rfl, hq⟩)
    | brk => exact let ⟨_, _, _, z⟩ := hs; (show False from z).elim
    | cont => exact let ⟨_, _, _, z⟩ := hs; (show False from z).elim
  · obtain ⟨S2, r2, z2⟩ := z H1 w1.rel
    exact pv _ S2 z2 _ H1 k1 r2 (rep_non.mpr rfl)
  · obtain ⟨S2, r2, z2⟩ := z H1 r1
    exact pv _ S2 z2 _ H1 k1 r2 p1
end

/-! ### the end of a law -/
/-- the law's def, called upon the script -/
theorem law_run {P : Program} {w : World} {K : PySem.W.Frag} {mg mb : Str → Option Value} {k : Nat} {fa a : Addr} {fd : FuncData} {x : Str} {sp : DSp} {s1 : Shared} {vs : List Value} {ns : List Int}
    (KX : K.In s1.heap) (hns : s1.heap.Ns mainGlobals mg) (hbu : s1.heap.Ns builtinsNs mb) (hbb : ∀ x : Str, x ≠ "__name__" → mb x = bootBuiltins x) (hlim : s1.heap.NoLimit) (hg : s1.gens = #[])
    (ha : s1.heap.get? a = some { cls := .type "list", data := .seq vs.toArray }) (hi : IntsAre vs ns) (hl : ns.length ≤ sizeLine) (hr : Room k callerA)
    (F : ∀ base : Heap, K.In base → base.Ns mainGlobals mg → DFn P w K mg base k fa fd [x] sp) (hbind : ∀ (s : Shared) (u : Value), BindsTo s fd ⟨[u], []⟩ [(x, u)])
    (hsp : sp [.scr ns] (fun _ => none) (fun d _ => d = .bl true) X0) :
    codeAny (model P w) callerA (.call (.ref fa) ⟨[.ref a], []⟩) (fun r s' => r = .ok (.ret (.bool true)) ∧ OldK s1.heap s'.heap ∧ s'.os = s1.os ∧ AllBare s'.gens) s1 := by
  have rv := vals_ints hi
  obtain ⟨H, hS, hok, hA, hK, hF⟩ : ∃ H : Hp, SqZ ⟨K, w, mg⟩ H a (ns.map V.int) ∧ HOk P w H s1.heap ∧ (∀ b, H b ≠ none → b = a) ∧ (H a ≠ none → K.lookup a = none) ∧ ∀ b u, H b = some u → ∃ o xs, u = .frz o (.lst xs) := by
    cases hk : K.lookup a with
    | some o =>
      have e := KX a o hk
      rw [ha] at e
      cases e
      refine ⟨fun _ => none, .inr ⟨_, vs.toArray, _, hk, rfl, rfl, rfl, ?_, by simpa using rv⟩, fun b u z => absurd z (by simp), fun b z => absurd rfl z, fun z => absurd rfl z, fun b u z => absurd z (by simp)⟩
      rw [List.size_toArray, hi.length]; exact hl
    | none =>
      have key : ∀ (b : Addr) (u : HO), (if b = a then some (HO.frz { cls := .type "list", data := .seq vs.toArray } (.lst (ns.map V.int))) else none) = some u → b = a ∧ u = .frz { cls := .type "list", data := .seq vs.toArray } (.lst (ns.map V.int)) := fun b u z => by
        by_cases hb : b = a
        · rw [if_pos hb] at z; exact ⟨hb, (Option.some.inj z).symm⟩
        · rw [if_neg hb] at z; cases z
      refine ⟨fun b => if b = a then some (.frz { cls := .type "list", data := .seq vs.toArray } (.lst (ns.map V.int))) else none, .inl ⟨_, if_pos rfl⟩, fun b u z => ?_, fun b z => ?_, fun _ => rfl, fun b u z => ⟨_, _, (key b u z).2⟩⟩
      · obtain ⟨rfl, rfl⟩ := key b u z
        exact ⟨ha, by rw [List.length_map]; exact hl, vs, _, rv, ha⟩
      · cases q : (if b = a then some (HO.frz { cls := .type "list", data := .seq vs.toArray } (.lst (ns.map V.int))) else none) with
        | none => exact absurd q z
        | some u => exact (key b u q).1
  have down : ∀ {b : Addr} {o : Obj}, s1.heap.get? b = some o → H b = none → (hidT s1.heap H).get? b = some o := fun e n => hidT_get e n
  have notA : ∀ {b : Addr} {o : Obj} {es : Array DictEntry} {ep : Nat}, s1.heap.get? b = some o → o.data = .dict es ep → H b = none := fun {b o es ep} e d => by
    cases q : H b with
    | none => rfl
    | some u =>
      obtain rfl : b = a := hA b (by rw [q]; exact Option.some_ne_none u)
      rw [ha] at e; cases e
      exact Data.noConfusion (show Data.seq vs.toArray _ = Data.dict es ep from d)
  have nsB : ∀ {b : Addr} {m : Str → Option Value}, s1.heap.Ns b m → (hidT s1.heap H).Ns b m := fun {b m} ⟨o, es, ep, e, d, r⟩ => ⟨o, es, ep, down e (notA e d), d, r⟩
  have inB : K.In (hidT s1.heap H) := fun b o e => down (KX b o e) (by
    cases q : H b with
    | none => rfl
    | some u =>
      obtain rfl : b = a := hA b (by rw [q]; exact Option.some_ne_none u)
      have z := hK (by rw [q]; exact Option.some_ne_none u)
      rw [z] at e; cases e)
  have modB : Mod K mg (hidT s1.heap H) := ⟨inB, nsB hns, ⟨mb, nsB hbu, hbb⟩, let ⟨mc, h1, h2⟩ := hlim; ⟨mc, nsB h1, h2⟩⟩
  have e0 : Env0 P w K mg (hidT s1.heap H) callerA [] s1 H :=
    ⟨rfl, modB, fun _ _ => of_hidT, Nat.le_of_eq (hidT_size _ _), trivial, fun b hb => absurd (show b ∈ ([] : List Addr) from hb) (by simp), hok, .of_eq hg⟩
  have rel0 : Rel ⟨K, w, mg⟩ (fun _ => none) H := ⟨fun _ => none, fun _ _ z => absurd z (by simp), fun _ _ z => absurd z (by simp)⟩
  refine codeAny_mono ((F _ inB (nsB hns)).run (E := fun _ _ _ => False) (Q := fun v _ => v = .bl true) (us := [.ref a]) (vs := [.ref a]) rfl hr e0 (hbind s1 (.ref a)) (.cons (show RelV (.ref a) (.ref a) from rfl) .nil) rel0 (.cons (rep_scr.mpr ⟨a, rfl, hS⟩) .nil) hsp
    (fun d S' q v H' _ _ rp => by subst q; exact rep_bl.mp rp) px0) fun r s' h => ?_
  cases r with
  | error e => exact let ⟨_, _, _, _, _, _, _, _, _, _, _, _, z⟩ := h; z.elim
  | ok fl =>
    cases fl with
    | ret u =>
      obtain ⟨v, H', os, bare, un, hok', r', q⟩ := h
      obtain rfl : v = .bl true := q
      obtain rfl : u = Value.bool true := r'
      refine ⟨rfl, OldK.of_keep fun b o e => ?_, os, bare⟩
      cases q : H b with
      | none => exact un.keep b o e q (fun z => absurd (show b ∈ ([] : List Addr) from z) (by simp)) (by simp)
      | some u =>
        obtain ⟨ob, xs, rfl⟩ := hF b u q
        have q2 := un.frzs b ob _ q
        have e1 := (hok b _ q).1
        have e2 := (hok' b _ q2).1
        rw [e] at e1; cases e1
        exact e2
    | _ => exact (show False from h).elim
/-- the goal that k_head leaves, from the law's promise -/
theorem law_walk {l : PySem.W.OpenLaw} {n k : Nat} {q : Program} {loose : List Str} {XP : (Str → Option Value) → Heap → Prop} {YP : World → Heap → Prop} {d : DefRec} {K : Params → PySem.W.Frag} {sp : DSp} {x : Str}
    (hn : l.most = some n) (hn2 : n ≤ sizeLine) (hdf : d.params.defaults = []) (hr : Room k callerA) (hY : ∀ (w : World) (h : Heap), YP w h → (K w.params).In h)
    (F : ∀ (w : World) (mg : Str → Option Value) (fa : Addr) (h : Heap), (K w.params).In h → h.Ns mainGlobals mg → mg d.name = some (.ref fa) →
      ∃ fd : FuncData, (∀ (s : Shared) (u : Value), BindsTo s fd ⟨[u], []⟩ [(x, u)]) ∧ ∀ base : Heap, (K w.params).In base → base.Ns mainGlobals mg → DFn l.prog w (K w.params) mg base k fa fd [x] sp)
    (hsp : ∀ ns : List Int, ns.length ≤ n → (∀ z ∈ ns, Builtin.Int.intBits z ≤ 1048576) → sp [.scr ns] (fun _ => none) (fun d _ => d = .bl true) X0) :
    PySem.W.WalkO q loose XP YP l.row.toRowW d [] (fun f vs => PySem.call f vs) := by
  refine Att.attach_callB hn hdf fun w s0 s1 mg mb fa o pm cd doc a vs ns G Y ho hd hcd hmg hobj hints hlen hbits hg => ?_
  obtain ⟨fd, hb, hF⟩ := F w mg fa _ (hY w _ Y) G.T.g hmg
  exact law_run (hY w _ Y) G.T.g G.T.b G.T.builtins G.T.nolimit hg hobj hints (Nat.le_trans hlen hn2) hr hF hb (hsp ns hlen hbits)

/-! ### what a caller needs of a def -/
structure Cal (P : Program) (w : World) (K : PySem.W.Frag) (mg : Str → Option Value) (base : Heap) (k : Nat) (x : Str) (ps : List Str) (sp : DSp) : Prop where
  ex : ∃ f fd, mg x = some (.ref f) ∧ PySem.W.keepIn K (.ref f) = true ∧ L2.Binds K fd ps [] ∧ DFn P w K mg base k f fd ps sp
section
variable {X : Cx} {H0 : Hp} {k j : Nat} {ps : List Str} {sp : DSp} {x : Str} {p pos : Pos} {e : Expr} {es : List Expr} {t : DTA}
theorem passN {X : Cx} : Passes (CX X.prog X.w) X E0 := passL
/-- f(..), nothing raised -/
theorem de_fn (c : Cal X.prog X.w X.K X.mg X.base j x ps sp) (hgd : X.A.guards = some []) (hr : Room k X.A) (ha : DA X H0 (e :: es) t) (hj : j ≤ k := by decide) (hg : Gl X x := by rfl) (hdb : (x == ("__debug__" : Str)) = false := by decide)
    (he : starEach (e :: es) X.env = (false, eval e X.env) :: starEach es X.env := by rfl) (hpl : (backTo pos (starEach es X.env)).any (·.1) = false := by rfl) : DE X H0 (.Call (.Name x p) (e :: es) [] pos) (dCall sp X0 t) :=
  let ⟨_, _, hm, hk, hb, F⟩ := c.ex
  de_call F hgd (hr.mono hj) hg hm hk hb passN px0 ha hdb he hpl
theorem de_fn0 (c : Cal X.prog X.w X.K X.mg X.base j x ps sp) (hgd : X.A.guards = some []) (hr : Room k X.A) (hj : j ≤ k := by decide) (hg : Gl X x := by rfl) (hdb : (x == ("__debug__" : Str)) = false := by decide) : DE X H0 (.Call (.Name x p) [] [] pos) (dCall sp X0 dNil) :=
  let ⟨_, _, hm, hk, hb, F⟩ := c.ex
  de_call0 F hgd (hr.mono hj) hg hm hk hb passN px0 hdb
end
theorem PX.vs {K : Kw} {H : Hp} {Pe : DX} {E : XK} (h : PX K H Pe E) : PX K H (fun c od S1 => VS K S1 (Pe c od)) E := fun c od S1 v C H1 m k r => let ⟨S2, r2, p⟩ := v H1 r; h c od S2 p C H1 m k r2
/-- the same, the view may shift where an exception leaves -/
abbrev dspV (K : Kw) (N : List Str) (t : DX → DTS) (ds : List Dv) (S : Store) (Pq : DK) (Pe : DX) : Prop := dsp K N (fun Pe => t fun c od S1 => VS K S1 (Pe c od)) ds S Pq Pe
end Sb

/-! Small things that the printed terms name. -/
namespace Sb
open PySem PySem.Spec L2
theorem units_n {A : Around} {k : Nat} (hr : Room k A) (n : Nat) (h : n ≤ 200 := by decide) : A.units + n < cLine := by have := hr.un; omega
theorem units_1 {A : Around} {k : Nat} (hr : Room k A) : A.units + 1 < cLine := units_n hr 1
theorem units_64 {A : Around} {k : Nat} (hr : Room k A) : A.units + 64 < cLine := units_n hr 64
theorem units_65 {A : Around} {k : Nat} (hr : Room k A) : A.units + 65 < cLine := units_n hr 65
theorem units_100 {A : Around} {k : Nat} (hr : Room k A) : A.units + 100 < cLine := units_n hr 100
/-- a def of the top -/
structure Def (K : PySem.W.Frag) (mg : Str → Option Value) (x qual : Str) (st : Stmt) : Prop where
  ex : ∃ f fd, Fun K x qual st f fd ∧ mg x = some (.ref f)
theorem def_mk {K : PySem.W.Frag} {h : Heap} {mg : Str → Option Value} {x qual : Str} {st : Stmt} (X : K.In h) (G : h.Ns mainGlobals mg) {f : Addr} {oc : Value} {od an : Option Addr} {osl : Array (Option Value)} {kV doc pm cdv ct : Value}
    (a : PySem.W.nsIn K mainGlobals x = some (some (.ref f))) (l : K.lookup f = some ⟨oc, od, .func (PySem.W.fnOf x qual (defArgs st) (defBody st) (defScope st) .none kV doc pm an cdv ct), osl⟩)
    (c : PySem.W.codeIn K cdv qual = true) (k : PySem.W.keepIn K (.ref f) = true) : Def K mg x qual st := ⟨f, _, fun_mk l c k, PySem.W.mg_of X G a⟩

/-! ### {k: v, ..} -/
@[simp] def dPairs : List (DTE × DTE) → DSt → Store → (List (Dv × Dv) → Store → Prop) → Prop
  | [], _, S, P => P [] S
  | (tk, tv) :: r, δ, S, P => tk δ S fun k S1 => tv δ S1 fun v S2 => dPairs r δ S2 fun kvs S3 => P ((k, v) :: kvs) S3
@[simp] def dDisp (trs : List (DTE × DTE)) : DTE := fun δ S P => ∀ p, S p = none → dPairs trs δ (up S p (.dct [])) fun kvs S2 => S2 p = some (.dct []) ∧ kvs.length ≤ 15 ∧ (∀ kv ∈ kvs, (isK kv.1).isSome = true) ∧ P (.ref p) (up S2 p (.dct (dmerge [] kvs)))
def liftPs (K : Kw) (H0 : Hp) (trs : List (DTE × DTE)) : List (TE × TE) := trs.map fun p => (liftE K H0 p.1, liftE K H0 p.2)
theorem pairs_lift {K : Kw} {H0 : Hp} : ∀ (trs : List (DTE × DTE)) (σ : L2.St) (δ : DSt) (S : Store) (H : Hp) (P : List (Dv × Dv) → Store → Prop) (Q : List (V × V) → Hp → Prop), Wd K H0 σ δ S H → dPairs trs δ S P →
    (∀ kvs S', P kvs S' → ∀ ps H', Keep K H H' → Rel K S' H' → Reps K H' (kvs.map (·.1)) (ps.map (·.1)) → Reps K H' (kvs.map (·.2)) (ps.map (·.2)) → Q ps H') → tPairs (liftPs K H0 trs) σ H Q
  | [], σ, δ, S, H, P, Q, w, h, hq => hq [] S h [] H .refl w.rel .nil .nil
  | (tk, tv) :: r, σ, δ, S, H, P, Q, w, h, hq => by
    simp only [dPairs] at h
    refine ⟨δ, S, _, w, h, fun k S1 q1 kx H1 k1 r1 p1 => ⟨δ, S1, _, w.keep k1 r1, q1, fun v S2 q2 vx H2 k2 r2 p2 => ?_⟩⟩
    refine pairs_lift r σ δ S2 H2 _ _ (w.keep (k1.trans k2) r2) q2 fun kvs S3 q3 ps H3 k3 r3 a b => hq _ _ q3 _ H3 (k1.trans (k2.trans k3)) r3 ?_ ?_
    · simp only [List.map_cons]; exact .cons (p1.keep (k2.trans k3)) a
    · simp only [List.map_cons]; exact .cons (p2.keep k3) b
theorem kvs_of {K : Kw} {H : Hp} : ∀ (kvs : List (Dv × Dv)) (ps : List (V × V)), (∀ kv ∈ kvs, (isK kv.1).isSome = true) → Reps K H (kvs.map (·.1)) (ps.map (·.1)) → Reps K H (kvs.map (·.2)) (ps.map (·.2)) →
    ∃ ys : List (Key × V), ps = ys.map (fun kv => (kV kv.1, kv.2)) ∧ KVs K H kvs ys ∧ ys.length = kvs.length
  | [], ps, _, a, _ => by
    have e := a.nil_inv
    simp only [List.map_nil, List.map_eq_nil_iff] at e
    exact ⟨[], e, .nil, rfl⟩
  | (d, e) :: kvs, ps, h, a, b => by
    simp only [List.map_cons] at a b
    obtain ⟨x, xs, e1, r1, a2⟩ := a.cons_inv
    obtain ⟨y, ys', e2, r2, b2⟩ := b.cons_inv
    cases ps with
    | nil => simp at e1
    | cons p ps =>
      simp only [List.map_cons, List.cons.injEq] at e1 e2
      obtain ⟨rfl, rfl⟩ := e1
      obtain ⟨rfl, rfl⟩ := e2
      obtain ⟨ys, h1, h2, h3⟩ := kvs_of kvs ps (fun kv hk => h kv (by simp [hk])) a2 b2
      obtain ⟨key, ek⟩ := Option.isSome_iff_exists.mp (h (d, e) (by simp))
      have ed := isK_kD ek
      simp only at ed
      have ev := rep_kD (by rw [ed] at r1; exact r1)
      exact ⟨(key, p.2) :: ys, by simp only [List.map_cons, ← h1, ← ev], .cons ed r2 h2, by simp [h3]⟩
section
variable {X : Cx} {H0 : Hp} {pos : Pos}
abbrev DPPs (X : Cx) (H0 : Hp) (pos : Pos) (keys : List (Option Expr)) (values : List Expr) (trs : List (DTE × DTE)) : Prop := PPs X pos keys values (liftPs X.kw H0 trs)
theorem dpp_nil : DPPs X H0 pos [] [] [] := pps_nil
theorem dpp_cons {k v : Expr} {ks : List (Option Expr)} {vs : List Expr} {tk tv : DTE} {trs : List (DTE × DTE)} (hk : DE X H0 k tk) (hv : DE X H0 v tv) (hr : DPPs X H0 pos ks vs trs) : DPPs X H0 pos (some k :: ks) (v :: vs) ((tk, tv) :: trs) := pps_cons hk hv hr
theorem de_disp {keys : List (Option Expr)} {values : List Expr} {trs : List (DTE × DTE)} (h : DPPs X H0 pos keys values trs) (hall : keys.all (·.isSome) = true := by rfl) (hl : keys.length = values.length := by rfl) (h0 : keys ≠ [] := by exact fun z => nomatch z) (h15 : keys.length ≤ 15 := by decide) :
    DE X H0 (.Dict keys values pos) (dDisp trs) := (pe_disp h hall hl h0 h15).to fun σ H Q q => by
  obtain ⟨δ, S, P, w, ht, hp⟩ := q
  intro p hn
  have r0 : Rel X.kw (up S p (.dct [])) (upd H p (.dK [])) := w.rel.laid hn fun own ow => ⟨ow, [], upd_same, rfl, .nil⟩
  refine pairs_lift trs σ δ _ _ _ _ (w.keep (.new hn) r0) (ht p (w.rel.free hn)) fun kvs S2 q2 ps H2 k2 r2 a b => ?_
  obtain ⟨e0, l15, hk, q2⟩ := q2
  obtain ⟨ys, e1, kv, e2⟩ := kvs_of kvs ps hk a b
  obtain ⟨ys0, hy0, n0, _⟩ := r2.dct e0
  have : ys0 = [] := by
    cases ys0 with
    | nil => rfl
    | cons _ _ => simp at n0
  subst this
  exact ⟨hy0, ys, e1, by omega, hp _ _ q2 _ _ ((Keep.new hn).trans (k2.trans (keep_dk hy0))) (r2.dctw e0 hy0 (kv.merge .nil)) (rep_ref.mpr rfl)⟩
end
end Sb

/-! For the reasoning over data. -/
namespace Sb
open PySem PySem.Spec L2

@[simp] theorem szl : sizeLine = 16777216 := sizeLine_eq
@[simp] theorem up_same' {S : Store} {a : Addr} {o : O} : up S a o a = some o := up_same
@[simp] theorem up_up' {S : Store} {a : Addr} {o u : O} : up (up S a o) a u = up S a u := up_up
@[simp] theorem up_none' {S : Store} {a b : Addr} {o : O} : (up S a o b = none) ↔ (b ≠ a ∧ S b = none) := up_none
/-- a part of a store -/
def Sub (S' S : Store) : Prop := ∀ a o, S' a = some o → S a = some o
theorem Sub.refl {S : Store} : Sub S S := fun _ _ h => h
theorem Sub.trans {S S1 S2 : Store} (a : Sub S S1) (b : Sub S1 S2) : Sub S S2 := fun c o h => b c o (a c o h)
theorem Sub.new {S' S : Store} {a : Addr} {o : O} (h : Sub S' S) (hn : S' a = none) : Sub S' (up S a o) := fun b u e => by
  by_cases q : b = a
  · subst q; rw [hn] at e; cases e
  · rw [up_ne q]; exact h b u e
theorem Sub.up {S' S : Store} {a : Addr} {o : O} (h : Sub S' S) : Sub (up S' a o) (up S a o) := fun b u e => by
  by_cases q : b = a
  · subst q; rw [up_same] at e ⊢; exact e
  · rw [up_ne q] at e ⊢; exact h b u e
theorem VS.sub {K : Kw} {S S' : Store} {P : Store → Prop} (hs : Sub S' S) (h : P S') : VS K S P := VS.drop hs h
theorem reps_ints_inv {K : Kw} {H : Hp} : ∀ {ns : List Int} {xs : List V}, Reps K H (ns.map Dv.int) xs → xs = ns.map V.int
  | [], xs, h => h.nil_inv
  | n :: ns, xs, h => by
    obtain ⟨y, ys, rfl, a, b⟩ := h.cons_inv
    rw [rep_int.mp a, reps_ints_inv b]; rfl
/-- the pen put together -/
theorem VS.mkPen {K : Kw} {S S' : Store} {P : Store → Prop} {a l : Addr} {i j : Int} {ns : List Int} (ha : S a = some (.lst [.ref l, .int i, .int j])) (hl : S l = some (.lst (ns.map .int))) (hla : l ≠ a) (h0 : 0 ≤ i) (h63 : ns.length ≤ 63)
    (hs : ∀ b o, b ≠ a → S' b = some o → S b = some o) (hn : S' l = none) (h : P (up S' a .pen)) : VS K S P := fun H r => by
  refine ⟨_, ?_, h⟩
  obtain ⟨own, h1, h2⟩ := r.ex
  have ka := h2 a _ ha
  have kl := h2 l _ hl
  have oa := OK1.mine ka
  have ol := OK1.mine kl
  refine ⟨fun c => if c = l then some a else own c, fun c b e => ?_, fun b o e => ?_⟩
  · dsimp only at e
    by_cases hc : c = l
    · subst hc
      exact ⟨by rw [up_ne hla]; exact hn, OK1.there kl⟩
    · rw [if_neg hc] at e
      obtain ⟨e1, e2⟩ := h1 c b e
      have ca : c ≠ a := fun z => by rw [z, oa] at e; cases e
      refine ⟨?_, e2⟩
      rw [up_ne ca]
      cases q : S' c with
      | none => rfl
      | some u => rw [hs c u ca q] at e1; cases e1
  · by_cases hb : b = a
    · subst hb
      rw [up_same] at e; cases e
      obtain ⟨_, xs, ex, rx⟩ := ka
      obtain ⟨_, ys, ey, ry⟩ := kl
      obtain ⟨v, u, z, rfl, q1, q2, q3⟩ := reps3 rx
      rw [rep_ref.mp q1, rep_int.mp q2, rep_int.mp q3] at ex
      rw [reps_ints_inv ry] at ey
      exact ⟨(if_neg (Ne.symm hla)).trans oa, l, i, j, ns, ex, if_pos rfl, ey, h0, h63⟩
    · rw [up_ne hb] at e
      have bl : b ≠ l := fun z => by rw [z, hn] at e; cases e
      refine OK1.frame (h2 b o (hs b o hb e)) .refl (if_neg bl) (fun c q => ?_) fun _ _ _ => rfl
      have cl : c ≠ l := fun z => by rw [z, ol] at q; cases q
      rw [if_neg cl]; exact q
/-- the pen taken apart -/
theorem VS.openPen {K : Kw} {S : Store} {P : Store → Prop} {a : Addr} (ha : S a = some .pen)
    (h : ∀ (l : Addr) (i j : Int) (ns : List Int), l ≠ a → S l = none → 0 ≤ i → ns.length ≤ 63 → P (up (up S l (.lst (ns.map .int))) a (.lst [.ref l, .int i, .int j]))) : VS K S P := fun H r => by
  obtain ⟨own, h1, h2⟩ := r.ex
  have ka := h2 a _ ha
  obtain ⟨oa, l, i, j, ns, ex, ol, ey, h0, h63⟩ := id ka
  have la : l ≠ a := fun z => by rw [z, oa] at ol; cases ol
  have Sl := (h1 l a ol).1
  refine ⟨_, ?_, h l i j ns la Sl h0 h63⟩
  refine ⟨fun c => if c = l then none else own c, fun c b e => ?_, fun b o e => ?_⟩
  · dsimp only at e
    by_cases hc : c = l
    · rw [if_pos hc] at e; cases e
    · rw [if_neg hc] at e
      obtain ⟨e1, e2⟩ := h1 c b e
      have ca : c ≠ a := fun z => by rw [z, oa] at e; cases e
      exact ⟨by rw [up_ne ca, up_ne hc]; exact e1, e2⟩
  · by_cases hb : b = a
    · subst hb
      rw [up_same] at e; cases e
      exact ⟨(if_neg (Ne.symm la)).trans oa, _, ex, .cons (rep_ref.mpr rfl) (.cons (rep_int.mpr rfl) (.cons (rep_int.mpr rfl) .nil))⟩
    · rw [up_ne hb] at e
      by_cases hc : b = l
      · subst hc
        rw [up_same] at e; cases e
        exact ⟨if_pos rfl, _, ey, Reps.ints ns⟩
      · rw [up_ne hc] at e
        refine OK1.frame (h2 b o e) .refl (if_neg hc) (fun c q => ?_) fun _ _ _ => rfl
        have cl : c ≠ l := fun z => by rw [z, ol] at q; cases q; exact hb rfl
        rw [if_neg cl]; exact q

theorem dSeq_mk {t u : DTS} {D : DEnds} {δ : DSt} {S : Store} (h : t { D with nx := u D } δ S) : dSeq t u D δ S := h
theorem dSeqV_mk {K : Kw} {t u : DTS} {D : DEnds} {δ : DSt} {S : Store} (h : t { D with nx := fun δ1 S1 => VS K S1 fun S2 => u D δ1 S2 } δ S) : dSeqV K t u D δ S := h
theorem dFor_mk {wi : DTI} {p : Pat} {tb : DTS} {D : DEnds} {δ : DSt} {S : Store} (h : wi δ S fun items G S1 => forL p tb D G items δ S1) : dFor wi p tb D δ S := h
/-- a loop, by what holds ahead of the i-th turn -/
theorem forL_ind {p : Pat} {tb : DTS} {D : DEnds} {G : Grd} {items : List Dv} {δ : DSt} {S : Store} (I : Nat → DSt → Store → Prop) (h0 : I 0 δ S)
    (step : ∀ i x δ S, items[i]? = some x → I i δ S → ∀ N : DSt → Store → Prop, (∀ δ' S', I (i + 1) δ' S' → N δ' S') → G S ∧ ∃ δ1, pset p x δ = some δ1 ∧ tb { D with nx := N, ct := N, bk := D.nx } δ1 S)
    (done : ∀ δ S, I items.length δ S → G S ∧ D.nx δ S) : forL p tb D G items δ S := by
  have go : ∀ (n i : Nat), n = items.length - i → i ≤ items.length → ∀ δ S, I i δ S → forL p tb D G (items.drop i) δ S := by
    intro n
    induction n with
    | zero =>
      intro i h1 h2 δ S h
      have e : i = items.length := by omega
      subst e
      rw [List.drop_length]
      simp only [forL]
      exact done δ S h
    | succ n ih =>
      intro i h1 h2 δ S h
      have hlt : i < items.length := by omega
      rw [List.drop_eq_getElem_cons hlt]
      simp only [forL]
      obtain ⟨g, δ1, e, q⟩ := step i items[i] δ S (List.getElem?_eq_getElem hlt) h _ fun δ' S' z => ih (i + 1) (by omega) hlt δ' S' z
      rw [e]
      exact ⟨g, q⟩
  have := go _ 0 rfl (Nat.zero_le _) δ S h0
  simpa using this
/-- a comprehension whose element changes nothing -/
theorem lcRun_pure {p : Pat} {tt : DTT} {te : DTE} {δ : DSt} {G : Grd} {D : Addr} {P : DK} {S0 : Store} (f : Dv → Option Dv) : ∀ (items acc : List Dv), acc.length + items.length ≤ 16777216 → (∀ acc, G (up S0 D (.lst acc))) →
    (∀ x ∈ items, ∃ δ1, pset p x δ = some δ1 ∧ ∀ (acc : List Dv) (N1 : DK) (N2 : Store → Prop), (∀ y, f x = some y → N1 y (up S0 D (.lst acc))) → (f x = none → N2 (up S0 D (.lst acc))) →
      tt δ1 (up S0 D (.lst acc)) fun b S2 => if b = true then te δ1 S2 N1 else N2 S2) →
    P (.ref D) (up S0 D (.lst (acc ++ items.filterMap f))) → lcRun p tt te δ G D P items (up S0 D (.lst acc))
  | [], acc, _, hG, _, h => by
    simp only [lcRun]
    exact ⟨hG acc, by simpa using h⟩
  | x :: xs, acc, hl, hG, hs, h => by
    simp only [lcRun]
    obtain ⟨δ1, e, q⟩ := hs x (by simp)
    rw [e]
    refine ⟨hG acc, q acc _ _ (fun y fy => ?_) fun fn => ?_⟩
    · simp only [up_same, up_up, szl]
      simp only [List.length_cons] at hl
      refine ⟨by omega, lcRun_pure f xs (acc ++ [y]) (by simp; omega) hG (fun x hx => hs x (by simp [hx])) ?_⟩
      rw [List.filterMap_cons_some fy] at h
      simpa using h
    · refine lcRun_pure f xs acc (by simp at hl; omega) hG (fun x hx => hs x (by simp [hx])) ?_
      rw [List.filterMap_cons_none fn] at h
      exact h
theorem lc_mk {wi : DTI} {p : Pat} {tt : DTT} {te : DTE} {vs : List Nat} {δ : DSt} {S : Store} {P : DK} (h : wi δ S fun items G S1 => ∀ D, S1 D = none → lcRun p tt te (wipeD δ vs) G D P items (up S1 D (.lst []))) : dLc wi p tt te vs δ S P := h

/-! ### places -/
@[simp] theorem atI_0 {α : Type} (xs : List α) : atI xs 0 = xs[0]? := by
  unfold atI ixN
  by_cases h : (0 : Int) < xs.length
  · have h' : 0 < xs.length := by omega
    simp [h']
  · simp only [Int.le_refl, if_true, h, if_false]
    have : xs = [] := by cases xs <;> simp_all
    subst this; rfl
@[simp] theorem atI_nat' {α : Type} (xs : List α) (n : Nat) : atI xs (n : Int) = xs[n]? := by
  unfold atI ixN
  by_cases h : (n : Int) < xs.length
  · simp [h]
  · simp only [Int.natCast_nonneg, if_true, h, if_false]
    exact (List.getElem?_eq_none (by omega)).symm
@[simp] theorem atI_2 {α : Type} (xs : List α) : atI xs 2 = xs[2]? := atI_nat' xs 2
@[simp] theorem atI_3 {α : Type} (xs : List α) : atI xs 3 = xs[3]? := atI_nat' xs 3
@[simp] theorem atI_4 {α : Type} (xs : List α) : atI xs 4 = xs[4]? := atI_nat' xs 4
@[simp] theorem atI_5 {α : Type} (xs : List α) : atI xs 5 = xs[5]? := atI_nat' xs 5
@[simp] theorem atI_6 {α : Type} (xs : List α) : atI xs 6 = xs[6]? := atI_nat' xs 6
@[simp] theorem atI_7 {α : Type} (xs : List α) : atI xs 7 = xs[7]? := atI_nat' xs 7
@[simp] theorem atI_1 {α : Type} (xs : List α) : atI xs 1 = xs[1]? := atI_nat' xs 1
theorem atI_of {α : Type} {xs : List α} {i : Int} (h : 0 ≤ i) : atI xs i = xs[i.toNat]? := by
  obtain ⟨n, rfl⟩ := Int.eq_ofNat_of_zero_le h
  simp
@[simp] theorem ixN_0 (n : Nat) : ixN n 0 = if 0 < n then some 0 else none := by
  unfold ixN; by_cases h : 0 < n <;> simp [h]
@[simp] theorem ixN_nat (n k : Nat) : ixN n (k : Int) = if k < n then some k else none := by
  unfold ixN; by_cases h : k < n <;> simp [h]
@[simp] theorem ixN_2 (n : Nat) : ixN n 2 = if 2 < n then some 2 else none := ixN_nat n 2
@[simp] theorem ixN_3 (n : Nat) : ixN n 3 = if 3 < n then some 3 else none := ixN_nat n 3
@[simp] theorem ixN_4 (n : Nat) : ixN n 4 = if 4 < n then some 4 else none := ixN_nat n 4
@[simp] theorem ixN_5 (n : Nat) : ixN n 5 = if 5 < n then some 5 else none := ixN_nat n 5
@[simp] theorem ixN_6 (n : Nat) : ixN n 6 = if 6 < n then some 6 else none := ixN_nat n 6
@[simp] theorem ixN_7 (n : Nat) : ixN n 7 = if 7 < n then some 7 else none := ixN_nat n 7
@[simp] theorem ixN_1 (n : Nat) : ixN n 1 = if 1 < n then some 1 else none := ixN_nat n 1
end Sb

/-! Plain data: no references. -/
namespace Sb
open PySem PySem.Spec L2

mutual
def toP : Dv → PyData
  | .non => .none
  | .bl b => .bool b
  | .int i => .int i
  | .str x => .str x
  | .tup ds => .tuple (toPs ds)
  | .ty _ => .none
  | .ref _ => .none
  | .scr ns => .list (ns.map .int)
def toPs : List Dv → List PyData
  | [] => []
  | d :: ds => toP d :: toPs ds
end
mutual
/-- no reference, no truth value -/
def plain : Dv → Bool
  | .non => true
  | .int _ => true
  | .str x => PyData.strOk x
  | .tup ds => plains ds
  | .bl _ => false
  | .ty _ => false
  | .ref _ => false
  | .scr _ => false
def plains : List Dv → Bool
  | [] => true
  | d :: ds => plain d && plains ds
end
mutual
def dep : Dv → Nat
  | .tup ds => deps ds + 1
  | .non => 0
  | .int _ => 0
  | .str _ => 0
  | .bl _ => 0
  | .ty _ => 0
  | .ref _ => 0
  | .scr _ => 0
def deps : List Dv → Nat
  | [] => 0
  | d :: ds => max (dep d) (deps ds)
end
mutual
theorem datE_plain (f : Addr → Option PyData) : ∀ d : Dv, plain d = true → datE f d = some (toP d)
  | .non, _ => rfl
  | .int _, _ => rfl
  | .str _, _ => rfl
  | .tup ds, h => by
    simp only [plain] at h
    simp only [datE, datEs_plain f ds h, Option.map_some, toP]
  | .bl _, h => by simp [plain] at h
  | .ty _, h => by simp [plain] at h
  | .ref _, h => by simp [plain] at h
  | .scr _, h => by simp [plain] at h
theorem datEs_plain (f : Addr → Option PyData) : ∀ ds : List Dv, plains ds = true → datEs f ds = some (toPs ds)
  | [], _ => rfl
  | d :: ds, h => by
    simp only [plains, Bool.and_eq_true] at h
    simp only [datEs, datE_plain f d h.1, datEs_plain f ds h.2, Option.bind_some, Option.map_some, toPs]
end
mutual
theorem lay_plain : ∀ d : Dv, plain d = true → (toP d).canLay0 = true ∧ (toP d).depth = dep d
  | .non, _ => by simp [toP, PyData.canLay0, PyData.depth, dep]
  | .int _, _ => by simp [toP, PyData.canLay0, PyData.depth, dep]
  | .str _, h => by
    simp only [plain] at h
    simpa [toP, PyData.canLay0, PyData.depth, dep] using h
  | .tup ds, h => by
    simp only [plain] at h
    have := lays_plain ds h
    simp [toP, PyData.canLay0, PyData.depth, dep, this.1, this.2]
  | .bl _, h => by simp [plain] at h
  | .ty _, h => by simp [plain] at h
  | .ref _, h => by simp [plain] at h
  | .scr _, h => by simp [plain] at h
theorem lays_plain : ∀ ds : List Dv, plains ds = true → PyData.canLayAll0 (toPs ds) = true ∧ PyData.depthAll (toPs ds) = deps ds
  | [], _ => by simp [toPs, PyData.canLayAll0, PyData.depthAll, deps]
  | d :: ds, h => by
    simp only [plains, Bool.and_eq_true] at h
    have h1 := lay_plain d h.1
    have h2 := lays_plain ds h.2
    simp [toPs, PyData.canLayAll0, PyData.depthAll, deps, h1, h2]
end
theorem shaped_plain {d : Dv} (h : plain d = true) (hd : dep d ≤ 64) : SeqAt.shaped (toP d) = true := by
  have := lay_plain d h
  unfold SeqAt.shaped
  simp [this.1, this.2, hd]
mutual
theorem eqv_plain : ∀ d e : Dv, plain d = true → plain e = true → (PyData.eqv (toP d) (toP e) = true ↔ d = e)
  | .non, e, _, h2 => by cases e <;> simp_all [toP, PyData.eqv, plain]
  | .int i, e, _, h2 => by cases e <;> simp_all [toP, PyData.eqv, plain]
  | .str x, e, _, h2 => by cases e <;> simp_all [toP, PyData.eqv, plain]
  | .tup ds, .tup es, h1, h2 => by
    simp only [plain] at h1 h2
    simp only [toP, PyData.eqv, Dv.tup.injEq]
    exact eqvs_plain ds es h1 h2
  | .tup ds, .non, _, _ => by simp [toP, PyData.eqv]
  | .tup ds, .int _, _, _ => by simp [toP, PyData.eqv]
  | .tup ds, .str _, _, _ => by simp [toP, PyData.eqv]
  | .tup ds, .bl _, _, h2 => by simp [plain] at h2
  | .tup ds, .ty _, _, h2 => by simp [plain] at h2
  | .tup ds, .ref _, _, h2 => by simp [plain] at h2
  | .tup ds, .scr _, _, h2 => by simp [plain] at h2
  | .bl _, _, h, _ => by simp [plain] at h
  | .ty _, _, h, _ => by simp [plain] at h
  | .ref _, _, h, _ => by simp [plain] at h
  | .scr _, _, h, _ => by simp [plain] at h
theorem eqvs_plain : ∀ ds es : List Dv, plains ds = true → plains es = true → (PyData.eqvAll (toPs ds) (toPs es) = true ↔ ds = es)
  | [], [], _, _ => by simp [toPs, PyData.eqvAll]
  | [], _ :: _, _, _ => by simp [toPs, PyData.eqvAll]
  | _ :: _, [], _, _ => by simp [toPs, PyData.eqvAll]
  | d :: ds, e :: es, h1, h2 => by
    simp only [plains, Bool.and_eq_true] at h1 h2
    simp only [toPs, PyData.eqvAll, Bool.and_eq_true, List.cons.injEq, eqv_plain d e h1.1 h2.1, eqvs_plain ds es h1.2 h2.2]
end
theorem dat_plain {S : Store} {d : Dv} (h : plain d = true) : dat S d = some (toP d) := datE_plain _ d h
theorem dat_list {S : Store} {a : Addr} {ds : List Dv} (h : S a = some (.lst ds)) (hp : plains ds = true) : dat S (.ref a) = some (.list (toPs ds)) := by
  show (match S a with | some (.lst ds) => (datEs (res S 3) ds).map PyData.list | _ => none) = _
  rw [h]
  simp only [datEs_plain _ ds hp, Option.map_some]
open Classical in
theorem gEqF_plain {f : Bool → Bool} {d e : Dv} {S : Store} {P : DK} (h1 : plain d = true) (h2 : plain e = true) (k1 : dep d ≤ 64) (k2 : dep e ≤ 64) : gEqF f d e S P ↔ P (.bl (f (decide (d = e)))) S := by
  have : PyData.eqv (toP d) (toP e) = decide (d = e) := by
    rw [Bool.eq_iff_iff, eqv_plain d e h1 h2]; simp
  unfold gEqF
  split
  · rfl
  rw [dat_plain h1, dat_plain h2]
  simp [shaped_plain h1 k1, shaped_plain h2 k2, this]
open Classical in
theorem gEqF_lists {f : Bool → Bool} {a b : Addr} {ds es : List Dv} {S : Store} {P : DK} (e1 : S a = some (.lst ds)) (e2 : S b = some (.lst es)) (h1 : plains ds = true) (h2 : plains es = true) (k1 : deps ds ≤ 63) (k2 : deps es ≤ 63) :
    gEqF f (.ref a) (.ref b) S P ↔ P (.bl (f (decide (ds = es)))) S := by
  have : PyData.eqv (PyData.list (toPs ds)) (PyData.list (toPs es)) = decide (ds = es) := by
    rw [Bool.eq_iff_iff]
    simp only [PyData.eqv, eqvs_plain ds es h1 h2, decide_eq_true_eq]
  have sh : ∀ {ds : List Dv}, plains ds = true → deps ds ≤ 63 → SeqAt.shaped (PyData.list (toPs ds)) = true := fun {ds} h k => by
    have := lays_plain ds h
    unfold SeqAt.shaped
    simp only [PyData.canLay0, PyData.depth, this.1, this.2, Bool.true_and, decide_eq_true_eq]
    omega
  unfold gEqF
  rw [if_neg (by simp [scl])]
  rw [dat_list e1 h1, dat_list e2 h2]
  simp [sh h1 k1, sh h2 k2, this]
open Classical in
@[simp] theorem gEqF_int {f : Bool → Bool} {a b : Int} {S : Store} {P : DK} : gEqF f (.int a) (.int b) S P ↔ P (.bl (f (decide (a = b)))) S := by
  unfold gEqF; rw [if_pos (by rfl)]; simp
open Classical in
@[simp] theorem gEqF_txt {f : Bool → Bool} {a b : Str} {S : Store} {P : DK} : gEqF f (.str a) (.str b) S P ↔ P (.bl (f (decide (a = b)))) S := by
  unfold gEqF; rw [if_pos (by rfl)]; simp
open Classical in
@[simp] theorem gEqF_bl {f : Bool → Bool} {a b : Bool} {S : Store} {P : DK} : gEqF f (.bl a) (.bl b) S P ↔ P (.bl (f (decide (a = b)))) S := by
  unfold gEqF; rw [if_pos (by rfl)]; simp
open Classical in
@[simp] theorem gEqF_non {f : Bool → Bool} {S : Store} {P : DK} : gEqF f .non .non S P ↔ P (.bl (f true)) S := by
  unfold gEqF; rw [if_pos (by rfl)]; simp
open Classical in
@[simp] theorem gEqF_intnon {f : Bool → Bool} {a : Int} {S : Store} {P : DK} : gEqF f (.int a) .non S P ↔ P (.bl (f false)) S := by
  unfold gEqF; rw [if_pos (by rfl)]; simp
open Classical in
@[simp] theorem gEqF_txtnon {f : Bool → Bool} {a : Str} {S : Store} {P : DK} : gEqF f (.str a) .non S P ↔ P (.bl (f false)) S := by
  unfold gEqF; rw [if_pos (by rfl)]; simp
theorem any_plain {d : Dv} (hd : plain d = true) : ∀ ds : List Dv, plains ds = true → ((toPs ds).any (fun z => PyData.eqv z (toP d)) = true ↔ d ∈ ds)
  | [], _ => by simp [toPs]
  | e :: es, h => by
    simp only [plains, Bool.and_eq_true] at h
    simp only [toPs, List.any_cons, Bool.or_eq_true, eqv_plain e d h.1 hd, any_plain hd es h.2, List.mem_cons]
    exact or_congr eq_comm Iff.rfl
theorem sh_list {ds : List Dv} (h : plains ds = true) (k : deps ds ≤ 63) : SeqAt.shaped (.list (toPs ds)) = true := by
  have := lays_plain ds h
  unfold SeqAt.shaped
  simp only [PyData.canLay0, PyData.depth, this.1, this.2, Bool.true_and, decide_eq_true_eq]
  omega
open Classical in
theorem gInF_tup {f : Bool → Bool} {d : Dv} {ds : List Dv} {S : Store} {P : DK} (h1 : plain d = true) (h2 : plains ds = true) (k1 : dep d ≤ 64) (k2 : deps ds ≤ 63) : gInF f d (.tup ds) S P ↔ P (.bl (f (decide (d ∈ ds)))) S := by
  have e : ((toPs ds).any fun z => PyData.eqv z (toP d)) = decide (d ∈ ds) := by rw [Bool.eq_iff_iff, any_plain h1 ds h2]; simp
  have s2 := shaped_plain (d := .tup ds) (by simpa only [plain] using h2) (by simp only [dep]; omega)
  simp only [toP] at s2
  unfold gInF
  rw [dat_plain h1, dat_plain (d := .tup ds) (by simpa only [plain] using h2)]
  simp [toP, shaped_plain h1 k1, s2, e]
open Classical in
theorem gInF_list {f : Bool → Bool} {d : Dv} {a : Addr} {ds : List Dv} {S : Store} {P : DK} (e0 : S a = some (.lst ds)) (h1 : plain d = true) (h2 : plains ds = true) (k1 : dep d ≤ 64) (k2 : deps ds ≤ 63) : gInF f d (.ref a) S P ↔ P (.bl (f (decide (d ∈ ds)))) S := by
  have e : ((toPs ds).any fun z => PyData.eqv z (toP d)) = decide (d ∈ ds) := by rw [Bool.eq_iff_iff, any_plain h1 ds h2]; simp
  unfold gInF
  rw [dat_plain h1, dat_list e0 h2]
  simp [shaped_plain h1 k1, sh_list h2 k2, e]
/-! ### repr of plain data -/
mutual
def shw : Dv → Bool
  | .int i => decide (i.natAbs.log2 < 1920)
  | .tup ds => shws ds
  | .non => true
  | .str _ => true
  | .bl _ => true
  | .ty _ => true
  | .ref _ => true
  | .scr _ => false
def shws : List Dv → Bool
  | [] => true
  | d :: ds => shw d && shws ds
end
mutual
/-- more than the signs of the repr -/
def cost : Dv → Nat
  | .int _ => 2000
  | .tup ds => costs ds + 2
  | .non => 4
  | .str x => 10 * x.length + 2
  | .bl _ => 5
  | .ty _ => 4
  | .ref _ => 4
  | .scr _ => 0
def costs : List Dv → Nat
  | [] => 0
  | d :: ds => cost d + 2 + costs ds
end

theorem int_len {i : Int} (h : i.natAbs.log2 < 1920) : (Str.ofString (toString i)).length ≤ 2000 := by
  have q := int_text_length_le (a := i) (k := 1920) (by decide) h
  rw [PySem.ofString_length]
  omega
mutual
theorem shown_plain : ∀ d : Dv, plain d = true → shw d = true → (toP d).showable = true ∧ (toP d).shown.length ≤ cost d
  | .non, _, _ => ⟨by simp [toP, PyData.showable], by simp only [toP, PyData.shown, cost]; decide⟩
  | .int i, _, h => by
    simp only [shw, decide_eq_true_eq] at h
    exact ⟨by simpa [toP, PyData.showable] using h, by simp only [toP, PyData.shown, cost]; exact int_len h⟩
  | .str x, h, _ => by
    simp only [plain] at h
    refine ⟨by simp [toP, PyData.showable], ?_⟩
    simp only [toP, PyData.shown, cost]
    refine StrLaws.reprText_len x fun c hc => ?_
    unfold PyData.strOk at h
    rw [← Array.all_toList, List.all_eq_true] at h
    have := h c hc
    simp only [decide_eq_true_eq] at this
    omega
  | .tup ds, h, h2 => by
    simp only [plain] at h
    simp only [shw] at h2
    obtain ⟨q1, q2⟩ := showns_plain ds h h2
    refine ⟨by simpa [toP, PyData.showable] using q1, ?_⟩
    simp only [toP, PyData.shown, cost]
    have := fmt_text (PyData.shownAll (toPs ds))
    omega
  | .bl _, h, _ => by simp [plain] at h
  | .ty _, h, _ => by simp [plain] at h
  | .ref _, h, _ => by simp [plain] at h
  | .scr _, h, _ => by simp [plain] at h
theorem showns_plain : ∀ ds : List Dv, plains ds = true → shws ds = true → PyData.showableAll (toPs ds) = true ∧ piled (PyData.shownAll (toPs ds)) ≤ costs ds
  | [], _, _ => by simp [toPs, PyData.showableAll, PyData.shownAll, piled_nil, costs]
  | d :: ds, h, h2 => by
    simp only [plains, Bool.and_eq_true] at h
    simp only [shws, Bool.and_eq_true] at h2
    obtain ⟨a1, a2⟩ := shown_plain d h.1 h2.1
    obtain ⟨b1, b2⟩ := showns_plain ds h.2 h2.2
    refine ⟨by simp [toPs, PyData.showableAll, a1, b1], ?_⟩
    simp only [toPs, PyData.shownAll, piled_cons, costs]
    omega
end
theorem gRepr_plain {d : Dv} {S : Store} {P : DK} (h : plain d = true) (hs : shw d = true) (hd : dep d ≤ 64) (hc : cost d ≤ 16777216) : gRepr [d] S P ↔ P (.str (toP d).shown) S := by
  obtain ⟨a, b⟩ := shown_plain d h hs
  simp only [gRepr, dat_plain h, shaped_plain h hd, a, szl, true_and]
  exact ⟨fun q => q.2, fun q => ⟨by omega, q⟩⟩
end Sb

/-! Dicts, looked up. -/
namespace Sb
open PySem PySem.Spec L2
open Classical
theorem dval_append (k v j : Dv) : ∀ kvs : List (Dv × Dv), dval (kvs ++ [(k, v)]) j = match dval kvs j with | some x => some x | none => if k = j then some v else none
  | [] => by simp [dval]
  | (k', v') :: r => by
    have ih := dval_append k v j r
    simp only [List.cons_append, dval]
    by_cases h : k' = j
    · simp [h]
    · simp only [h, if_false, ih]
theorem dval_map (k v j : Dv) : ∀ kvs : List (Dv × Dv), dval (kvs.map fun kv => if kv.1 = k then (kv.1, v) else kv) j = (dval kvs j).map fun x => if k = j then v else x
  | [] => by simp [dval]
  | (k', v') :: r => by
    have ih := dval_map k v j r
    simp only [List.map_cons, dval]
    by_cases h : k' = k
    · subst h
      simp only [if_true]
      by_cases h2 : k' = j
      · simp [dval, h2]
      · simp only [dval, h2, if_false, ih]
    · simp only [h, if_false]
      by_cases h2 : k' = j
      · subst h2
        simp [dval, Ne.symm h]
      · simp only [dval, h2, if_false, ih]
theorem dval_put (kvs : List (Dv × Dv)) (k v j : Dv) : dval (dput kvs k v) j = if k = j then some v else dval kvs j := by
  unfold dput
  cases e : dval kvs k with
  | none =>
    simp only [dval_append]
    by_cases h : k = j
    · subst h; simp [e]
    · simp only [h, if_false]; cases dval kvs j <;> rfl
  | some x =>
    simp only [dval_map]
    by_cases h : k = j
    · subst h; simp [e]
    · simp only [h, if_false]; cases dval kvs j <;> rfl
theorem dput_new {kvs : List (Dv × Dv)} {k v : Dv} (h : dval kvs k = none) : dput kvs k v = kvs ++ [(k, v)] := by unfold dput; rw [h]
theorem dput_length (kvs : List (Dv × Dv)) (k v : Dv) : (dput kvs k v).length ≤ kvs.length + 1 := by
  unfold dput
  cases dval kvs k <;> simp
@[simp] theorem dval_nil (k : Dv) : dval [] k = none := rfl
theorem dmerge_cons (kvs more : List (Dv × Dv)) (k v : Dv) : dmerge kvs ((k, v) :: more) = dmerge (dput kvs k v) more := rfl
theorem dmerge_nil (kvs : List (Dv × Dv)) : dmerge kvs [] = kvs := rfl

/-- a comprehension over typed items -/
theorem lcRun_enc {α : Type} (enc : α → Dv) (f : α → Option Dv) {p : Pat} {tt : DTT} {te : DTE} {δ : DSt} {G : Grd} {D : Addr} {P : DK} {S0 : Store} : ∀ (s : List α) (acc : List Dv), acc.length + s.length ≤ 16777216 → (∀ acc, G (up S0 D (.lst acc))) →
    (∀ x ∈ s, ∃ δ1, pset p (enc x) δ = some δ1 ∧ ∀ (acc : List Dv) (N1 : DK) (N2 : Store → Prop), (∀ y, f x = some y → N1 y (up S0 D (.lst acc))) → (f x = none → N2 (up S0 D (.lst acc))) →
      tt δ1 (up S0 D (.lst acc)) fun b S2 => if b = true then te δ1 S2 N1 else N2 S2) →
    P (.ref D) (up S0 D (.lst (acc ++ s.filterMap f))) → lcRun p tt te δ G D P (s.map enc) (up S0 D (.lst acc))
  | [], acc, _, hG, _, h => by
    simp only [lcRun, List.map_nil]
    exact ⟨hG acc, by simpa using h⟩
  | x :: xs, acc, hl, hG, hs, h => by
    simp only [lcRun, List.map_cons]
    obtain ⟨δ1, e, q⟩ := hs x (by simp)
    rw [e]
    refine ⟨hG acc, q acc _ _ (fun y fy => ?_) fun fn => ?_⟩
    · simp only [up_same, up_up, szl]
      simp only [List.length_cons] at hl
      refine ⟨by omega, lcRun_enc enc f xs (acc ++ [y]) (by simp; omega) hG (fun x hx => hs x (by simp [hx])) ?_⟩
      rw [List.filterMap_cons_some fy] at h
      simpa using h
    · refine lcRun_enc enc f xs acc (by simp at hl; omega) hG (fun x hx => hs x (by simp [hx])) ?_
      rw [List.filterMap_cons_none fn] at h
      exact h
theorem lcRun_all {α : Type} (enc : α → Dv) (f : α → Dv) {p : Pat} {te : DTE} {δ : DSt} {G : Grd} {D : Addr} {P : DK} {S0 : Store} (s : List α) (hl : s.length ≤ 16777216) (hG : ∀ acc, G (up S0 D (.lst acc)))
    (hs : ∀ x ∈ s, ∃ δ1, pset p (enc x) δ = some δ1 ∧ ∀ (acc : List Dv) (N : DK), N (f x) (up S0 D (.lst acc)) → te δ1 (up S0 D (.lst acc)) N)
    (h : P (.ref D) (up S0 D (.lst (s.map f)))) : lcRun p dYes te δ G D P (s.map enc) (up S0 D (.lst [])) := by
  refine lcRun_enc enc (fun x => some (f x)) s [] (by simpa using hl) hG (fun x hx => ?_) ?_
  · obtain ⟨δ1, e, q⟩ := hs x hx
    refine ⟨δ1, e, fun acc N1 N2 h1 _ => ?_⟩
    simp only [dYes, if_true]
    exact q acc N1 (h1 _ rfl)
  · rw [List.filterMap_eq_map']
    simpa using h
/-- a loop over typed items -/
theorem forL_enc {α : Type} (enc : α → Dv) {p : Pat} {tb : DTS} {D : DEnds} {G : Grd} {s : List α} {δ : DSt} {S : Store} (I : Nat → DSt → Store → Prop) (h0 : I 0 δ S)
    (step : ∀ i x δ S, s[i]? = some x → I i δ S → ∀ N : DSt → Store → Prop, (∀ δ' S', I (i + 1) δ' S' → N δ' S') → G S ∧ ∃ δ1, pset p (enc x) δ = some δ1 ∧ tb { D with nx := N, ct := N, bk := D.nx } δ1 S)
    (done : ∀ δ S, I s.length δ S → G S ∧ D.nx δ S) : forL p tb D G (s.map enc) δ S := by
  refine forL_ind I h0 (fun i x δ S hx hi N hN => ?_) fun δ S hi => done δ S (by simpa using hi)
  rw [List.getElem?_map] at hx
  obtain ⟨y, ey, rfl⟩ := Option.map_eq_some_iff.mp hx
  exact step i y δ S ey hi N hN
/-- a loop over range(n) -/
theorem forL_range {p : Pat} {tb : DTS} {D : DEnds} {G : Grd} {n : Nat} {δ : DSt} {S : Store} (I : Nat → DSt → Store → Prop) (h0 : I 0 δ S)
    (step : ∀ i δ S, i < n → I i δ S → ∀ N : DSt → Store → Prop, (∀ δ' S', I (i + 1) δ' S' → N δ' S') → G S ∧ ∃ δ1, pset p (.int i) δ = some δ1 ∧ tb { D with nx := N, ct := N, bk := D.nx } δ1 S)
    (done : ∀ δ S, I n δ S → G S ∧ D.nx δ S) : forL p tb D G ((List.range n).map fun (i : Nat) => .int i) δ S := by
  refine forL_enc (fun (i : Nat) => Dv.int i) I h0 (fun i x δ S hx hi N hN => ?_) fun δ S hi => done δ S (by simpa using hi)
  obtain ⟨h1, h2⟩ := List.getElem?_eq_some_iff.mp hx
  simp at h1 h2
  subst h2
  exact step i δ S h1 hi N hN
end Sb

/-! More for the reasoning over data. -/
namespace Sb
open PySem PySem.Spec L2

@[simp] theorem dSeq_eq {t u : DTS} {D : DEnds} {δ : DSt} {S : Store} : dSeq t u D δ S = t { D with nx := u D } δ S := rfl
@[simp] theorem dSeqV_eq {K : Kw} {t u : DTS} {D : DEnds} {δ : DSt} {S : Store} : dSeqV K t u D δ S = t { D with nx := fun δ1 S1 => VS K S1 fun S2 => u D δ1 S2 } δ S := rfl
@[simp] theorem dFor_eq {wi : DTI} {p : Pat} {tb : DTS} {D : DEnds} {δ : DSt} {S : Store} : dFor wi p tb D δ S = wi δ S fun items G S1 => forL p tb D G items δ S1 := rfl
@[simp] theorem up_ne1 {S : Store} {a b : Addr} {o : O} (h : b ≠ a) : up S a o b = S b := up_ne h
@[simp] theorem up_ne2 {S : Store} {a b : Addr} {o : O} (h : S b ≠ S a) : up S a o b = S b := up_ne fun e => h (by rw [e])
theorem ne_of_new {S : Store} {a b : Addr} (h : S b ≠ S a) : ¬ b = a := fun e => h (by rw [e])
/-- a comprehension without tests over typed items, the store grown by its list alone -/
theorem lc_all {α : Type} (enc : α → Dv) (f : α → Dv) {p : Pat} {te : DTE} {δ : DSt} {G : Grd} {P : DK} {S : Store} (s : List α) (hl : s.length ≤ 16777216) (hG : ∀ S', G S')
    (hs : ∀ x ∈ s, ∃ δ1, pset p (enc x) δ = some δ1 ∧ ∀ (S' : Store) (N : DK), Sub S S' → N (f x) S' → te δ1 S' N)
    (h : ∀ D, S D = none → P (.ref D) (up S D (.lst (s.map f)))) : ∀ D, S D = none → lcRun p dYes te δ G D P (s.map enc) (up S D (.lst [])) := fun D hD => by
  refine lcRun_all enc f s hl (fun _ => hG _) (fun x hx => ?_) (h D hD)
  obtain ⟨δ1, e, q⟩ := hs x hx
  exact ⟨δ1, e, fun acc N hN => q _ N (Sub.refl.new hD) hN⟩
theorem Sub.at {S' S : Store} (h : Sub S' S) {a : Addr} {o : O} (e : S' a = some o) : S a = some o := h a o e
theorem cut_toI {xs : List Dv} {d : Int} (h : 0 ≤ d) : cutD xs none (some d) = xs.take d.toNat := by
  obtain ⟨n, rfl⟩ := Int.eq_ofNat_of_zero_le h
  unfold cutD
  rw [HT.sIx_none, HT.sIx_nat]
  simp only [List.drop_zero, Nat.sub_zero, Int.toNat_natCast]
  rw [List.take_eq_take_iff]
  omega
theorem cut_fromI {xs : List Dv} {d : Int} (h : 0 ≤ d) : cutD xs (some d) none = xs.drop d.toNat := by
  obtain ⟨n, rfl⟩ := Int.eq_ofNat_of_zero_le h
  unfold cutD
  rw [HT.sIx_none, HT.sIx_nat]
  simp only [Int.toNat_natCast]
  by_cases hn : n ≤ xs.length
  · rw [Nat.min_eq_left hn, List.take_of_length_le (by simp)]
  · rw [Nat.min_eq_right (by omega), List.drop_of_length_le (by omega), List.drop_of_length_le (by omega)]; simp
/-- a text's code points -/
theorem strOk_lit (s : String) : PyData.strOk (s : Str) = true := by
  show PyData.strOk (PySem.Str.ofString s) = true
  rw [PySem.Str.ofString_eq_toList]
  unfold PyData.strOk
  simp only [List.all_toArray, List.all_map, List.all_eq_true, Function.comp, decide_eq_true_eq]
  intro c _
  have := c.valid
  rcases this with h | ⟨_, h⟩
  · exact Nat.lt_trans h (by decide)
  · exact h
theorem map_getElem? {α β : Type} {f : α → β} {s : List α} {i : Nat} {x : α} (h : s[i]? = some x) : (s.map f)[i]? = some (f x) := by rw [List.getElem?_map, h]; rfl
theorem take_snoc {α : Type} {s : List α} {i : Nat} {x : α} (h : s[i]? = some x) : s.take (i + 1) = s.take i ++ [x] := by rw [List.take_add_one, h]; rfl
theorem get_lt {α : Type} {s : List α} {i : Nat} {x : α} (h : s[i]? = some x) : i < s.length := (List.getElem?_eq_some_iff.mp h).1
theorem get_mem {α : Type} {s : List α} {i : Nat} {x : α} (h : s[i]? = some x) : x ∈ s := List.mem_of_getElem? h
theorem CDivW.of {m : Int} (h : 0 < m) (h2 : m ≤ 100000000000000000000000000000000000000000) : CDivW 0 m := by
  refine ⟨h, ?_⟩
  have : m.natAbs < 2 ^ 200 := Nat.lt_of_le_of_lt (m := 100000000000000000000000000000000000000000) (by omega) (by decide)
  have h3 : m.natAbs.log2 < 200 := (Nat.log2_lt (by omega)).mpr this
  omega
end Sb

/-! More operations over data: len of dicts, is, isinstance, abs. -/
namespace Sb
open PySem PySem.Spec L2
open Classical
theorem cr_or {X : Cx} {f : Value} {r r' : List V → Hp → VK → Prop} (h : CallR X f r) (h' : CallR X f r') : CallR X f (fun xs H Q => r xs H Q ∨ r' xs H Q) := CallR.or h h'
section
variable {X : Cx} {H0 : Hp} {a b c : Expr} {ta tb tc : DTE} {pos : Pos}
/-- len of a sequence, a dict, a text -/
@[simp] def gLenA : GA := fun ds S P => match ds with
  | [.ref a] => (match S a with | some (.lst xs) => P (.int xs.length) S | some (.dct xs) => P (.int xs.length) S | _ => False)
  | [.tup xs] => P (.int xs.length) S
  | [.scr xs] => P (.int xs.length) S
  | [.str z] => z.length ≤ 16777216 ∧ P (.int z.length) S
  | _ => False
theorem cg_lenA : CallG X (.builtin "len") gLenA := ⟨_, cr_or call_len_seq (cr_or call_lenD call_len_str), fun ds S P q vs H Q r rs hp => by
  have seq : ∀ d xs, ds = [d] → sq S d = some xs → P (.int xs.length) S → ∃ (p : Addr) (ys : List V), vs = [.ref p] ∧ (SqL X.kw H p ys ∨ SqT X.kw H p ys) ∧ Q (.int ys.length) H := fun d xs e e0 q0 => by
    subst e
    obtain ⟨v, rfl, rv⟩ := reps1 rs
    obtain ⟨a, ys, rfl, hq, rs'⟩ := sq_seq r e0 rv
    exact ⟨a, ys, rfl, hq.imp id SqN.t, hp _ _ q0 _ _ .refl r (rep_int.mpr (by rw [rs'.length]))⟩
  unfold gLenA at q
  split at q
  · rename_i a
    split at q
    · rename_i xs e0
      exact .inl (seq _ xs rfl (by simp [sq, e0]) q)
    · rename_i xs e0
      obtain ⟨v, rfl, rv⟩ := reps1 rs
      obtain ⟨ys, hy, n, rs'⟩ := r.dct e0
      exact .inr (.inl ⟨a, ys, by rw [rep_ref.mp rv], hy, hp _ _ q _ _ .refl r (rep_int.mpr (by have := congrArg List.length n; simp at this; rw [this]))⟩)
    · exact q.elim
  · exact .inl (seq _ _ rfl (by simp [sq]) q)
  · rename_i xs
    exact .inl (seq _ (xs.map Dv.int) rfl (by simp [sq]) (by simpa using q))
  · obtain ⟨v, rfl, rv⟩ := reps1 rs
    exact .inr (.inr ⟨_, by rw [rep_str.mp rv], by rw [sizeLine_eq]; exact q.1, hp _ _ q.2 _ _ .refl r (rep_int.mpr rfl)⟩)
  · exact q.elim⟩
/-- is -/
@[simp] def gIs (f : Bool → Bool) : G2 := fun d e S P => match d, e with
  | .non, .non => P (.bl (f true)) S
  | .bl _, .non => P (.bl (f false)) S
  | .int _, .non => P (.bl (f false)) S
  | .str _, .non => P (.bl (f false)) S
  | .ref _, .non => P (.bl (f false)) S
  | .tup _, .non => P (.bl (f false)) S
  | .bl a, .bl b => P (.bl (f (decide (a = b)))) S
  | _, _ => False
theorem c_is : OpG X (compareOp .Is) (gIs id) := ⟨_, op_isN.or op_is_bl, fun d e S P q v u H Q r rv ru hp => by
  unfold gIs at q
  split at q
  · refine .inl ⟨rep_non.mp ru, hp _ _ q _ _ .refl r (rep_bl.mpr ?_)⟩; rw [rep_non.mp rv]; simp
  · refine .inl ⟨rep_non.mp ru, hp _ _ q _ _ .refl r (rep_bl.mpr ?_)⟩; rw [rep_bl.mp rv]; simp
  · refine .inl ⟨rep_non.mp ru, hp _ _ q _ _ .refl r (rep_bl.mpr ?_)⟩; rw [rep_int.mp rv]; simp
  · refine .inl ⟨rep_non.mp ru, hp _ _ q _ _ .refl r (rep_bl.mpr ?_)⟩; rw [rep_str.mp rv]; simp
  · refine .inl ⟨rep_non.mp ru, hp _ _ q _ _ .refl r (rep_bl.mpr ?_)⟩; rw [rep_ref.mp rv]; simp
  · refine .inl ⟨rep_non.mp ru, hp _ _ q _ _ .refl r (rep_bl.mpr ?_)⟩; obtain ⟨_, _, e, _⟩ := rep_tup.mp rv; rw [e]; simp
  · refine .inr ⟨_, _, rep_bl.mp rv, rep_bl.mp ru, hp _ _ q _ _ .refl r (rep_bl.mpr ?_)⟩; simp
  · exact q.elim⟩
theorem c_isnot : OpG X (compareOp .IsNot) (gIs not) := ⟨_, op_notN.or op_isnot_bl, fun d e S P q v u H Q r rv ru hp => by
  unfold gIs at q
  split at q
  · refine .inl ⟨rep_non.mp ru, hp _ _ q _ _ .refl r (rep_bl.mpr ?_)⟩; rw [rep_non.mp rv]; simp
  · refine .inl ⟨rep_non.mp ru, hp _ _ q _ _ .refl r (rep_bl.mpr ?_)⟩; rw [rep_bl.mp rv]; simp
  · refine .inl ⟨rep_non.mp ru, hp _ _ q _ _ .refl r (rep_bl.mpr ?_)⟩; rw [rep_int.mp rv]; simp
  · refine .inl ⟨rep_non.mp ru, hp _ _ q _ _ .refl r (rep_bl.mpr ?_)⟩; rw [rep_str.mp rv]; simp
  · refine .inl ⟨rep_non.mp ru, hp _ _ q _ _ .refl r (rep_bl.mpr ?_)⟩; rw [rep_ref.mp rv]; simp
  · refine .inl ⟨rep_non.mp ru, hp _ _ q _ _ .refl r (rep_bl.mpr ?_)⟩; obtain ⟨_, _, e, _⟩ := rep_tup.mp rv; rw [e]; simp
  · refine .inr ⟨_, _, rep_bl.mp rv, rep_bl.mp ru, hp _ _ q _ _ .refl r (rep_bl.mpr ?_)⟩; simp
  · exact q.elim⟩
@[simp] def gAbs : GA := fun ds S P => match ds with
  | [.int i] => P (.int (if i < 0 then -i else i)) S
  | _ => False
theorem cg_abs : CallG X (.builtin "abs") gAbs := ⟨_, call_abs, fun ds S P q vs H Q r rs hp => by
  unfold gAbs at q
  split at q
  · obtain ⟨v, rfl, rv⟩ := reps1 rs
    exact ⟨_, by rw [rep_int.mp rv], hp _ _ q _ _ .refl r (rep_int.mpr rfl)⟩
  · exact q.elim⟩
end
end Sb

/-! Dicts over data keys of any depth. -/
namespace Sb
open PySem PySem.Spec L2

/-! ### keys -/
mutual
theorem nkD_inj : ∀ (d e : Dv) (k : NestedKey), nkD d = some k → nkD e = some k → d = e
  | .non, e, k, h1, h2 => by simp only [nkD, Option.some.injEq] at h1; subst h1; cases e <;> simp_all [nkD]
  | .int i, e, k, h1, h2 => by simp only [nkD, Option.some.injEq] at h1; subst h1; cases e <;> simp_all [nkD]
  | .str i, e, k, h1, h2 => by simp only [nkD, Option.some.injEq] at h1; subst h1; cases e <;> simp_all [nkD]
  | .tup ds, e, k, h1, h2 => by
    simp only [nkD, Option.map_eq_some_iff] at h1
    obtain ⟨ks, e1, rfl⟩ := h1
    cases e with
    | tup es =>
      simp only [nkD, Option.map_eq_some_iff] at h2
      obtain ⟨ks', e2, e3⟩ := h2
      cases e3
      rw [nkDs_inj ds es ks e1 e2]
    | _ => simp [nkD] at h2
  | .bl _, _, _, h, _ => by simp [nkD] at h
  | .ty _, _, _, h, _ => by simp [nkD] at h
  | .ref _, _, _, h, _ => by simp [nkD] at h
  | .scr _, _, _, h, _ => by simp [nkD] at h
theorem nkDs_inj : ∀ (ds es : List Dv) (ks : List NestedKey), nkDs ds = some ks → nkDs es = some ks → ds = es
  | [], [], _, _, _ => rfl
  | [], e :: es, ks, h1, h2 => by
    simp only [nkDs, Option.some.injEq] at h1; subst h1
    simp [nkDs, Option.bind_eq_some_iff] at h2
  | d :: ds, [], ks, h1, h2 => by
    simp only [nkDs, Option.some.injEq] at h2; subst h2
    simp [nkDs, Option.bind_eq_some_iff] at h1
  | d :: ds, e :: es, ks, h1, h2 => by
    simp only [nkDs, Option.bind_eq_some_iff, Option.map_eq_some_iff] at h1 h2
    obtain ⟨k, a1, ks1, a2, rfl⟩ := h1
    obtain ⟨k', b1, ks2, b2, e3⟩ := h2
    cases e3
    rw [nkD_inj d e k a1 b1, nkDs_inj ds es ks1 a2 b2]
end
mutual
/-- a key at most n tuples deep -/
@[simp] def kOk : Nat → Dv → Bool
  | _, .non => true
  | _, .int _ => true
  | _, .str _ => true
  | 0, .tup _ => false
  | n + 1, .tup ds => kOks n ds
  | _, .bl _ => false
  | _, .ty _ => false
  | _, .ref _ => false
  | _, .scr _ => false
@[simp] def kOks : Nat → List Dv → Bool
  | _, [] => true
  | n, d :: ds => kOk n d && kOks n ds
end
mutual
theorem kOk_key : ∀ (n : Nat) (d : Dv), kOk n d = true → ∃ k, nkD d = some k ∧ k.depth ≤ n
  | n, .non, _ => ⟨_, rfl, Nat.zero_le _⟩
  | n, .int _, _ => ⟨_, rfl, Nat.zero_le _⟩
  | n, .str _, _ => ⟨_, rfl, Nat.zero_le _⟩
  | 0, .tup ds, h => by simp [kOk] at h
  | n + 1, .tup ds, h => by
    simp only [kOk] at h
    obtain ⟨ks, e, hd⟩ := kOks_keys n ds h
    exact ⟨.tup ks, by simp only [nkD, e, Option.map_some], by simp only [NestedKey.depth]; omega⟩
  | n, .bl _, h => by simp [kOk] at h
  | n, .ty _, h => by simp [kOk] at h
  | n, .ref _, h => by simp [kOk] at h
  | n, .scr _, h => by simp [kOk] at h
theorem kOks_keys : ∀ (n : Nat) (ds : List Dv), kOks n ds = true → ∃ ks, nkDs ds = some ks ∧ NestedKey.depthAll ks ≤ n
  | n, [], _ => ⟨[], rfl, Nat.zero_le _⟩
  | n, d :: ds, h => by
    simp only [kOks, Bool.and_eq_true] at h
    obtain ⟨k, e1, h1⟩ := kOk_key n d h.1
    obtain ⟨ks, e2, h2⟩ := kOks_keys n ds h.2
    exact ⟨k :: ks, by simp only [nkDs, e1, e2, Option.bind_some, Option.map_some], by simp only [NestedKey.depthAll]; omega⟩
end
theorem kOks_map {α : Type} {n : Nat} {f : α → Dv} {s : List α} (h : ∀ x ∈ s, kOk n (f x) = true) : kOks n (s.map f) = true := by
  induction s with
  | nil => rfl
  | cons x s ih => simp [h x (by simp), ih fun y hy => h y (by simp [hy])]
theorem kOks_append {n : Nat} : ∀ {ds es : List Dv}, kOks n (ds ++ es) = (kOks n ds && kOks n es)
  | [], es => by simp
  | d :: ds, es => by simp [kOks_append (ds := ds), Bool.and_assoc]
section
variable {K : Kw} {H : Hp}
mutual
theorem keyV_of : ∀ (d : Dv) (k : NestedKey) (v : V), nkD d = some k → Rep K H d v → KeyV K.k H k v
  | .non, k, v, h, r => by simp only [nkD, Option.some.injEq] at h; subst h; exact rep_non.mp r
  | .int i, k, v, h, r => by simp only [nkD, Option.some.injEq] at h; subst h; exact rep_int.mp r
  | .str i, k, v, h, r => by simp only [nkD, Option.some.injEq] at h; subst h; exact rep_str.mp r
  | .tup ds, k, v, h, r => by
    simp only [nkD, Option.map_eq_some_iff] at h
    obtain ⟨ks, e, rfl⟩ := h
    obtain ⟨a, xs, rfl, q, rs⟩ := rep_tup.mp r
    simp only [KeyV]
    exact ⟨a, xs, rfl, q.t, keyVs_of ds ks xs e rs⟩
  | .bl _, _, _, h, _ => by simp [nkD] at h
  | .ty _, _, _, h, _ => by simp [nkD] at h
  | .ref _, _, _, h, _ => by simp [nkD] at h
  | .scr _, _, _, h, _ => by simp [nkD] at h
theorem keyVs_of : ∀ (ds : List Dv) (ks : List NestedKey) (xs : List V), nkDs ds = some ks → Reps K H ds xs → KeyVs K.k H ks xs
  | [], ks, xs, h, r => by simp only [nkDs, Option.some.injEq] at h; subst h; exact r.nil_inv
  | d :: ds, ks, xs, h, r => by
    simp only [nkDs, Option.bind_eq_some_iff, Option.map_eq_some_iff] at h
    obtain ⟨k, a1, ks1, a2, rfl⟩ := h
    obtain ⟨y, ys, rfl, r1, r2⟩ := r.cons_inv
    simp only [KeyVs]
    exact ⟨y, ys, rfl, keyV_of d k y a1 r1, keyVs_of ds ks1 ys a2 r2⟩
end
theorem KVn.ndk : ∀ {kvs : List (Dv × Dv)} {es : NL V V}, KVn K H kvs es → NdK K.k H es
  | [], _, h, e, he => by simp only [KVn] at h; subst h; cases he
  | p :: kvs, _, h, e, he => by
    obtain ⟨k, x, y, es', rfl, h1, h2, h3, h4, h5⟩ := h
    rcases List.mem_cons.mp he with z | z
    · subst z; exact ⟨keyV_of _ _ _ h1 h3, h2⟩
    · exact h5.ndk e z
theorem KVn.length : ∀ {kvs : List (Dv × Dv)} {es : NL V V}, KVn K H kvs es → es.length = kvs.length
  | [], _, h => by simp only [KVn] at h; subst h; rfl
  | p :: kvs, _, h => by
    obtain ⟨k, x, y, es', rfl, _, _, _, _, h5⟩ := h
    simp [h5.length]
theorem KVn.get : ∀ {kvs : List (Dv × Dv)} {es : NL V V} {d : Dv} {k : NestedKey}, KVn K H kvs es → nkD d = some k → (dval kvs d = none ∧ nval es k = none) ∨ ∃ e v, dval kvs d = some e ∧ nval es k = some v ∧ Rep K H e v
  | [], _, d, k, h, hk => by simp only [KVn] at h; subst h; exact .inl ⟨rfl, rfl⟩
  | (d', e') :: kvs, _, d, k, h, hk => by
    obtain ⟨k', x, y, es', rfl, h1, h2, h3, h4, h5⟩ := h
    simp only at h1 h4
    by_cases q : k' = k
    · have : d' = d := nkD_inj _ _ _ h1 (q ▸ hk)
      refine .inr ⟨e', y, ?_, ?_, h4⟩
      · rw [dval, if_pos this]
      · simp [nval, ngetp, q]
    · have : ¬ d' = d := fun z => q (by rw [z, hk] at h1; exact (Option.some.inj h1).symm)
      rw [dval, if_neg this]
      rcases h5.get hk with ⟨g1, g2⟩ | ⟨e, v, g1, g2, g3⟩
      · exact .inl ⟨g1, by simpa [nval, ngetp, List.find?_cons, q] using g2⟩
      · exact .inr ⟨e, v, g1, by simpa [nval, ngetp, List.find?_cons, q] using g2, g3⟩
theorem KVn.key_mem : ∀ {kvs : List (Dv × Dv)} {es : NL V V} {d : Dv} {k : NestedKey}, KVn K H kvs es → nkD d = some k → (k ∈ es.map (·.1) ↔ (dval kvs d).isSome = true)
  | [], _, d, k, h, hk => by simp only [KVn] at h; subst h; simp [dval]
  | (d', e') :: kvs, _, d, k, h, hk => by
    obtain ⟨k', x, y, es', rfl, h1, h2, h3, h4, h5⟩ := h
    simp only at h1
    by_cases q : k' = k
    · have : d' = d := nkD_inj _ _ _ h1 (q ▸ hk)
      simp [dval, this, q]
    · have : ¬ d' = d := fun z => q (by rw [z, hk] at h1; exact (Option.some.inj h1).symm)
      have ih := h5.key_mem hk
      simp only [dval, this, if_false, List.map_cons, List.mem_cons]
      rw [← ih]
      exact ⟨fun h => h.resolve_left fun z => q z.symm, .inr⟩
theorem KVn.append : ∀ {kvs more : List (Dv × Dv)} {es ms : NL V V}, KVn K H kvs es → KVn K H more ms → KVn K H (kvs ++ more) (es ++ ms)
  | [], _, _, _, h, q => by simp only [KVn] at h; subst h; exact q
  | p :: kvs, _, _, _, h, q => by
    obtain ⟨k, x, y, es', rfl, h1, h2, h3, h4, h5⟩ := h
    exact ⟨k, x, y, _, rfl, h1, h2, h3, h4, h5.append q⟩
theorem KVn.putm : ∀ {kvs : List (Dv × Dv)} {es : NL V V} {d e : Dv} {k : NestedKey} {v : V}, KVn K H kvs es → nkD d = some k → Rep K H e v →
    KVn K H (kvs.map fun kv => @ite _ (kv.1 = d) (Classical.propDecidable _) (kv.1, e) kv) (es.map fun x => if x.1 = k then (x.1, x.2.1, v) else x)
  | [], _, _, _, _, _, h, _, _ => by simp only [KVn] at h; subst h; rfl
  | (d', e') :: kvs, _, d, e, k, v, h, hk, r => by
    obtain ⟨k', x, y, es', rfl, h1, h2, h3, h4, h5⟩ := h
    simp only at h1 h3 h4
    have ih := h5.putm hk r
    by_cases q : k' = k
    · have : d' = d := nkD_inj _ _ _ h1 (q ▸ hk)
      refine ⟨k', x, v, _, by simp only [List.map_cons, q, if_true], ?_, h2, ?_, ?_, ih⟩
      · dsimp only; rw [if_pos this]; exact h1
      · dsimp only; rw [if_pos this]; exact h3
      · dsimp only; rw [if_pos this]; exact r
    · have : ¬ d' = d := fun z => q (by rw [z, hk] at h1; exact (Option.some.inj h1).symm)
      refine ⟨k', x, y, _, by simp only [List.map_cons, q, if_false], ?_, h2, ?_, ?_, ih⟩
      · dsimp only; rw [if_neg this]; exact h1
      · dsimp only; rw [if_neg this]; exact h3
      · dsimp only; rw [if_neg this]; exact h4
theorem KVn.put {kvs : List (Dv × Dv)} {es : NL V V} {d e : Dv} {k : NestedKey} {x v : V} (h : KVn K H kvs es) (hk : nkD d = some k) (dk : k.depth ≤ 8) (rd : Rep K H d x) (r : Rep K H e v) : KVn K H (dput kvs d e) (nput es k x v) := by
  have m := h.key_mem hk
  unfold dput nput
  cases q : dval kvs d with
  | none =>
    rw [if_neg (by rw [m, q]; simp)]
    exact h.append ⟨k, x, v, [], rfl, hk, dk, rd, r, rfl⟩
  | some z =>
    rw [if_pos (by rw [m, q]; rfl)]
    exact h.putm hk r
theorem KVn.drop : ∀ {kvs : List (Dv × Dv)} {es : NL V V} {d : Dv} {k : NestedKey}, KVn K H kvs es → nkD d = some k → KVn K H (ddrop kvs d) (ndrop es k)
  | [], _, _, _, h, _ => by simp only [KVn] at h; subst h; rfl
  | (d', e') :: kvs, _, d, k, h, hk => by
    obtain ⟨k', x, y, es', rfl, h1, h2, h3, h4, h5⟩ := h
    simp only at h1 h3 h4
    have ih := h5.drop hk
    unfold ddrop ndrop at ih ⊢
    rw [List.filter_cons, List.filter_cons]
    by_cases q : k' = k
    · have : d' = d := nkD_inj _ _ _ h1 (q ▸ hk)
      simp only [this, q, ne_eq, not_true_eq_false, decide_false, decide_true, Bool.not_true, Bool.false_eq_true, if_false]
      exact ih
    · have : ¬ d' = d := fun z => q (by rw [z, hk] at h1; exact (Option.some.inj h1).symm)
      simp only [this, q, ne_eq, not_false_eq_true, decide_true, decide_false, Bool.not_false, if_true]
      exact ⟨k', x, y, _, rfl, h1, h2, h3, h4, ih⟩
theorem keep_nd {a : Addr} {es : NL V V} {o : HO} {w : World} (h : H a = some (NdO w a es)) : Keep K H (upd H a o) := .upd fun u z => by
  rw [h] at z; cases z
  exact ⟨fun _ q => HO.noConfusion q, fun _ _ q => HO.noConfusion q⟩
theorem Rel.ndc {S : Store} {a : Addr} {kvs : List (Dv × Dv)} (r : Rel K S H) (e : S a = some (.ndc kvs)) : NdcAt K H a kvs := by
  obtain ⟨own, _, h2⟩ := r.ex
  exact (h2 a _ e).2
theorem Rel.ndcw {S : Store} {a : Addr} {ds ds' : List (Dv × Dv)} {es es' : NL V V} (r : Rel K S H) (e : S a = some (.ndc ds)) (h : H a = some (NdO K.w a es)) (rs : KVn K H ds' es') : Rel K (up S a (.ndc ds')) (upd H a (NdO K.w a es')) :=
  r.write (o' := .ndc ds') e fun own _ z => ⟨OK1.mine z, es', upd_same, rs.keep (keep_nd h)⟩
end

/-! ### what Python does with them, over the abstract heap -/
section
variable {X : Cx} {o i e f value : Expr} {pos pos' apos cpos : Pos} {td ty tv tx : TE}
/-- the dict at a, the key y -/
def NLook (X : Cx) (H : Hp) (a : Addr) (y : V) (es : NL V V) (k : NestedKey) : Prop := Rd H a (NdO X.w a es) ∧ NdK X.K H es ∧ KeyV X.K H k y ∧ k.depth ≤ 8
theorem u9 {A : Around} (hu : A.units + 64 < cLine) : A.units + 9 < cLine := by omega
theorem look_is {pins : List (Addr × Obj)} {σ : L2.St} {H : Hp} {s : Shared} {a : Addr} {es : NL V V} (I : Inv X pins σ H s) (e : Rd H a (NdO X.w a es)) : s.TypeIs (.ref a) "dict" ∧ ∀ b, Value.ref a = .ref b → ∃ ob, s.heap.get? b = some ob ∧ ob.dict = none := by
  obtain ⟨xs, ⟨_, _, ⟨ob, _, _, ho, hc, _⟩, _⟩, _⟩ := (e.ok I.hok).1
  exact ⟨⟨ob, ho, hc.1⟩, fun b q => by cases q; exact ⟨ob, ho, hc.2.1⟩⟩
theorem pe_nget (hu : X.A.units + 64 < cLine) (ho : PE X o td) (hi : PE X i ty) (hs : NoSl i) : PE X (.Subscript o i pos) (fun σ H Q => td σ H fun x H1 => ty σ H1 fun y H2 => ∃ a es k v, x = .ref a ∧ NLook X H2 a y es k ∧ nval es k = some v ∧ Q v H2) := by
  refine ⟨fun pins s σ H Q I h => ?_⟩
  refine subD_of PySem.F.slot_dict_getitem.lookup hs (thn (ho.run pins s σ H _ I h) fun u s1 ⟨x, H1, I1, rx, q1⟩ => thn (hi.run pins s1 σ H1 _ I1 q1) fun iv s2 ⟨y, H2, I2, ry, a, es, k, v, ex, ⟨g1, g2, g3, g4⟩, hv, q2⟩ => ?_)
  subst ex
  obtain rfl : u = Value.ref a := rx
  exact ⟨(look_is I2 g1).1, ndr_item (u9 hu) I2 g1 g2 g3 g4 ry hv fun w' s3 I3 rw' => ⟨v, H2, I3, rw', q2⟩⟩
theorem pc_nin (hu : X.A.units + 64 < cLine) (hi : PE X i ty) (ho : PE X o td) : PC X .In i o (fun σ H Q => ty σ H fun y H1 => td σ H1 fun x H2 => ∃ a es k, x = .ref a ∧ NLook X H2 a y es k ∧ Q (.bl (nval es k).isSome) H2) := by
  refine ⟨fun pins s σ H Q I h => ?_⟩
  refine thn (hi.run pins s σ H _ I h) fun iv s1 ⟨y, H1, I1, ry, q1⟩ => thn (ho.run pins s1 σ H1 _ I1 q1) fun u s2 ⟨x, H2, I2, rx, a, es, k, ex, ⟨g1, g2, g3, g4⟩, q2⟩ => ?_
  subst ex
  obtain rfl : u = Value.ref a := rx
  exact ndr_in (u9 hu) I2 g1 g2 g3 g4 ry fun s3 I3 => ⟨.bl _, H2, I3, rfl, q2⟩
theorem pc_nnotin (hu : X.A.units + 64 < cLine) (hi : PE X i ty) (ho : PE X o td) : PC X .NotIn i o (fun σ H Q => ty σ H fun y H1 => td σ H1 fun x H2 => ∃ a es k, x = .ref a ∧ NLook X H2 a y es k ∧ Q (.bl (!(nval es k).isSome)) H2) := by
  refine ⟨fun pins s σ H Q I h => ?_⟩
  refine thn (hi.run pins s σ H _ I h) fun iv s1 ⟨y, H1, I1, ry, q1⟩ => thn (ho.run pins s1 σ H1 _ I1 q1) fun u s2 ⟨x, H2, I2, rx, a, es, k, ex, ⟨g1, g2, g3, g4⟩, q2⟩ => ?_
  subst ex
  obtain rfl : u = Value.ref a := rx
  exact ndr_notin (u9 hu) I2 g1 g2 g3 g4 ry fun s3 I3 => ⟨.bl _, H2, I3, rfl, q2⟩
theorem ps_nput (hu : X.A.units + 64 < cLine) (ho : PE X o td) (hi : PE X i ty) (hv : PE X value tv) (hs : swapsWith value (some (.Subscript o i pos')) pos.line X.env = pure false) :
    PS X (.Assign [.Subscript o i pos'] value pos) (fun D σ H => tv σ H fun v H1 => td σ H1 fun x H2 => ty σ H2 fun y H3 => ∃ a es k, x = .ref a ∧ H3 a = some (NdO X.w a es) ∧ NLook X H3 a y es k ∧ es.length < sizeLine ∧ D.nx σ (upd H3 a (NdO X.w a (nput es k y v)))) := by
  refine ⟨fun pins s σ H D I h => ?_⟩
  refine wpAny_Assign_Subscript (thn (hv.run pins s σ H _ I h) fun r s1 ⟨v, H1, I1, rv, q1⟩ => thn (ho.run pins s1 σ H1 _ I1 q1) fun u s2 ⟨x, H2, I2, rx, q2⟩ => thn (hi.run pins s2 σ H2 _ I2 q2) fun iv s3 ⟨y, H3, I3, ry, a, es, k, ex, g0, ⟨g1, g2, g3, g4⟩, hl, q3⟩ => ?_) hs
  subst ex
  obtain rfl : u = Value.ref a := rx
  exact ndr_store (u9 hu) I3 g0 g2 hl g3 g4 ry rv fun s4 I4 => ⟨σ, _, I4, q3⟩
theorem pe_nget1 (hu : X.A.units + 64 < cLine) (ho : PE X o td) (he : PE X e ty) (m : M1 X o "get" apos e cpos) : PE X (.Call (.Attribute o "get" apos) [e] [] cpos) (fun σ H Q => td σ H fun x H1 => ∃ a, x = .ref a ∧ (∃ es, Rd H1 a (NdO X.w a es)) ∧ ty σ H1 fun y H2 => ∃ es k, NLook X H2 a y es k ∧ Q ((nval es k).getD .non) H2) := by
  refine ⟨fun pins s σ H Q I h => ?_⟩
  refine wpAny_Call_method m.base m.few m.line PySem.F.plainAttrs_dict PySem.F.slot_dict_get PySem.F.type_dict_get (thn (ho.run pins s σ H _ I h) fun u s1 ⟨x, H1, I1, rx, a, ex, ⟨es0, d⟩, q1⟩ => ?_)
  subst ex
  obtain rfl : u = Value.ref a := rx
  obtain ⟨t1, t2⟩ := look_is I1 d
  refine ⟨t1, t2, ?_⟩
  rw [m.trees]
  refine Calls.callWith_builtin rfl (Calls.evalArgs_plain (Calls.spliced_cons (thn (he.run pins s1 σ H1 _ I1 q1) fun iv s2 ⟨y, H2, I2, ry, es, k, ⟨g1, g2, g3, g4⟩, q2⟩ => Calls.spliced_nil ?_)))
  exact ndr_get1 (u9 hu) I2 g1 g2 g3 g4 ry fun w' s3 I3 rw' => ⟨_, H2, I3, rw', q2⟩
theorem pe_nget2 (hu : X.A.units + 64 < cLine) (ho : PE X o td) (he : PE X e ty) (hf : PE X f tx) (m : M2 X o "get" apos e f cpos) : PE X (.Call (.Attribute o "get" apos) [e, f] [] cpos) (fun σ H Q => td σ H fun x H1 => ∃ a, x = .ref a ∧ (∃ es, Rd H1 a (NdO X.w a es)) ∧ ty σ H1 fun y H2 => tx σ H2 fun z H3 => ∃ es k, NLook X H3 a y es k ∧ Q ((nval es k).getD z) H3) := by
  refine ⟨fun pins s σ H Q I h => ?_⟩
  refine wpAny_Call_method m.base m.few m.line PySem.F.plainAttrs_dict PySem.F.slot_dict_get PySem.F.type_dict_get (thn (ho.run pins s σ H _ I h) fun u s1 ⟨x, H1, I1, rx, a, ex, ⟨es0, d⟩, q1⟩ => ?_)
  subst ex
  obtain rfl : u = Value.ref a := rx
  obtain ⟨t1, t2⟩ := look_is I1 d
  refine ⟨t1, t2, ?_⟩
  rw [m.trees]
  refine Calls.callWith_builtin rfl (Calls.evalArgs_plain (Calls.spliced_cons (thn (he.run pins s1 σ H1 _ I1 q1) fun iv s2 ⟨y, H2, I2, ry, q2⟩ =>
    Calls.spliced_cons (thn (hf.run pins s2 σ H2 _ I2 q2) fun fv s3 ⟨z, H3, I3, rz, es, k, ⟨g1, g2, g3, g4⟩, q3⟩ => Calls.spliced_nil ?_))))
  exact ndr_get2 (u9 hu) I3 g1 g2 g3 g4 ry rz fun w' s4 I4 rw' => ⟨_, H3, I4, rw', q3⟩
theorem pe_npop1 (hu : X.A.units + 64 < cLine) (ho : PE X o td) (he : PE X e ty) (m : M1 X o "pop" apos e cpos) : PE X (.Call (.Attribute o "pop" apos) [e] [] cpos) (fun σ H Q => td σ H fun x H1 => ∃ a, x = .ref a ∧ (∃ es, Rd H1 a (NdO X.w a es)) ∧ ty σ H1 fun y H2 => ∃ es k v, H2 a = some (NdO X.w a es) ∧ NLook X H2 a y es k ∧ nval es k = some v ∧ Q v (upd H2 a (NdO X.w a (ndrop es k)))) := by
  refine ⟨fun pins s σ H Q I h => ?_⟩
  refine wpAny_Call_method m.base m.few m.line PySem.F.plainAttrs_dict PySem.F.slot_dict_pop PySem.F.type_dict_pop (thn (ho.run pins s σ H _ I h) fun u s1 ⟨x, H1, I1, rx, a, ex, ⟨es0, d⟩, q1⟩ => ?_)
  subst ex
  obtain rfl : u = Value.ref a := rx
  obtain ⟨t1, t2⟩ := look_is I1 d
  refine ⟨t1, t2, ?_⟩
  rw [m.trees]
  refine Calls.callWith_builtin rfl (Calls.evalArgs_plain (Calls.spliced_cons (thn (he.run pins s1 σ H1 _ I1 q1) fun iv s2 ⟨y, H2, I2, ry, es, k, v, g0, ⟨g1, g2, g3, g4⟩, hv, q2⟩ => Calls.spliced_nil ?_)))
  exact ndr_pop (u9 hu) I2 g0 g2 g3 g4 ry hv fun w' s3 I3 rw' => ⟨v, _, I3, rw', q2⟩
theorem pe_nnew : PE X (.Dict [] [] pos) (fun _ H Q => ∀ p, H p = none → Q (.ref p) (upd H p (NdO X.w p []))) := ⟨fun pins s σ H Q I h =>
  wpAny_Dict_empty ⟨.ref s.heap.objs.size, _, I.laid (a := s.heap.objs.size) (o := NdO X.w s.heap.objs.size []) (t' := s.toks) (fun _ _ q => Heap.get?_push_of_some _ q) (Nat.le_refl _) (ndo_empty s.heap I.big), rfl, h _ (I.hok.fresh (Nat.le_refl _))⟩⟩
theorem len_raw {prog : Program} {w : World} {A : Around} {E : Value → Shared → Prop} {s : Shared} {d : Addr} {arr : Array DictEntry} {ep : Nat} {Q : Value → Shared → Prop} (low : (d == sysModules) = false) (raw : s.heap.DictRaw d arr ep) (fit : arr.size ≤ 16777216)
    (h : Q (.int arr.size (s.toks + 1)) { s with toks := s.toks + 1 + 1 }) : wpAny (model prog w) A (call (.builtin "len") [.ref d]) Q E s := by
  refine Calls.call_function_entry kind_len plain_len entry_len (args_len1 _) ?_
  unfold Builtin.«len»
  refine wpAny_bind (m := oneArg "len" _) (wpAny_pure (wpAny_bind (m := callSpecial? (.ref d) (Str.ofString "__len__")) (wpAny_callSpecial?_slot (name := Str.ofString "__len__") raw.typeIs PySem.F.slot_dict_len
    (call_meetsIn PySem.F.slot_dict_len raw.typeIs PySem.F.entry_dict_len (PySem.F.args_dict_len_1 _) (meets_dict_len_raw d low) ⟨arr, ep, raw, ?_⟩))))
  refine wpAny_bind (wpAny_holding (wpAny_pure (wpAny_bind (wpAny_letGo ?_))))
  show wpAny _ _ (if ((arr.size : Nat) : Int) < 0 then _ else _) _ _ _
  rw [if_neg (by omega)]
  show wpAny _ _ (if ((arr.size : Nat) : Int) ≥ 2 ^ 63 then _ else _) _ _ _
  rw [if_neg (by omega)]
  exact wpAny_bind (wpAny_mkInt (wpAny_pure ⟨_, rfl, h⟩))
theorem call_len_nd : CallR X (.builtin "len") (fun xs H Q => ∃ a es, xs = [V.ref a] ∧ H a = some (NdO X.w a es) ∧ Q (.int (es.length : Nat)) H) := by
  intro pins s σ H xs us Q I r h
  obtain ⟨a, es, rfl, ha, q⟩ := h
  obtain ⟨u, rfl, ru⟩ := vals1 r
  cases ru
  obtain ⟨xs, ⟨low, ln, ⟨ob, arr, ep, ho, hc, hd, he⟩, _⟩, p⟩ := (I.hok a _ ha).1
  have raw : s.heap.DictRaw a arr ep := ⟨ob, ho, hc, hd⟩
  have e1 : arr.size = es.length := (arr_size he).trans p.nlen
  refine len_raw low raw (by rw [arr_size he, ← sizeLine_eq]; exact ln) ?_
  rw [e1]
  exact ⟨.int (es.length : Nat), H, I.tok _, ⟨_, rfl⟩, q⟩
end

/-! ### readings -/
section
variable {X : Cx} {H0 : Hp} {o i e f : Expr} {td ty tv tx : DTE} {pos apos cpos : Pos}
/-- {} -/
@[simp] def dNnew : DTE := fun _ S P => ∀ p, S p = none → P (.ref p) (up S p (.ndc []))
theorem de_nnew : DE X H0 (.Dict [] [] pos) dNnew := pe_nnew.to fun σ H Q h => by
  obtain ⟨δ, S, P, w, ht, hp⟩ := h
  exact fun p hn => hp _ _ (ht p (w.rel.free hn)) _ _ (.new hn) (w.rel.laid hn fun own ow => ⟨ow, [], upd_same, rfl⟩) (rep_ref.mpr rfl)
/-- what a dict holds at a key -/
@[simp] def gNat (S : Store) (d k : Dv) (P : Option Dv → Prop) : Prop := match d with
  | .ref a => (match S a with | some (.ndc kvs) => kOk 8 k = true ∧ P (dval kvs k) | some (.fzn _ _ kvs) => kOk 8 k = true ∧ P (dval kvs k) | _ => False)
  | _ => False
theorem nat_get {S : Store} {H : Hp} {d k : Dv} {x y : V} {P : Option Dv → Prop} (h : gNat S d k P) (r : Rel X.kw S H) (p1 : Rep X.kw H d x) (p2 : Rep X.kw H k y) :
    ∃ a es n, x = .ref a ∧ NLook X H a y es n ∧ ((nval es n = none ∧ P none) ∨ ∃ d v, nval es n = some v ∧ Rep X.kw H d v ∧ P (some d)) := by
  unfold gNat at h
  split at h
  · rename_i a
    split at h
    · rename_i kvs e
      obtain ⟨es, he, n⟩ := r.ndc e
      obtain ⟨k', hk, dk⟩ := kOk_key 8 k h.1
      refine ⟨a, es, k', rep_ref.mp p1, ⟨.of he, n.ndk, keyV_of k k' y hk p2, dk⟩, ?_⟩
      rcases n.get hk with ⟨h1, h2⟩ | ⟨d, v, h1, h2, h3⟩
      · rw [h1] at h; exact .inl ⟨h2, h.2⟩
      · rw [h1] at h; exact .inr ⟨d, v, h2, h3, h.2⟩
    · rename_i o es kvs e
      obtain ⟨_, _, he, n⟩ := r.get e
      obtain ⟨k', hk, dk⟩ := kOk_key 8 k h.1
      refine ⟨a, es, k', rep_ref.mp p1, ⟨.inr ⟨o, he⟩, n.ndk, keyV_of k k' y hk p2, dk⟩, ?_⟩
      rcases n.get hk with ⟨h1, h2⟩ | ⟨d, v, h1, h2, h3⟩
      · rw [h1] at h; exact .inl ⟨h2, h.2⟩
      · rw [h1] at h; exact .inr ⟨d, v, h2, h3, h.2⟩
    · exact h.elim
  · exact h.elim
@[simp] def dNget (td ty : DTE) : DTE := fun δ S P => td δ S fun d S1 => ty δ S1 fun k S2 => gNat S2 d k fun v => match v with | some v => P v S2 | none => False
theorem de_nget (hu : X.A.units + 64 < cLine) (ho : DE X H0 o td) (hi : DE X H0 i ty) (hs : NoSl i := by exact fun _ _ => rfl) : DE X H0 (.Subscript o i pos) (dNget td ty) := (pe_nget hu ho hi hs).to fun σ H Q h => by
  obtain ⟨δ, S, P, w, ht, hp⟩ := h
  refine ⟨δ, S, _, w, ht, fun d S1 q x H1 k1 r1 p1 => ⟨δ, S1, _, w.keep k1 r1, q, fun k S2 q2 y H2 k2 r2 p2 => ?_⟩⟩
  obtain ⟨a, es, n, rfl, g, z⟩ := nat_get q2 r2 (p1.keep k2) p2
  rcases z with ⟨_, z⟩ | ⟨d', v, hv, rv, z⟩
  · exact z.elim
  · exact ⟨a, es, n, v, rfl, g, hv, hp _ _ z _ _ (k1.trans k2) r2 rv⟩
@[simp] def dNin (b : Bool → Bool) (ty td : DTE) : DTE := fun δ S P => ty δ S fun k S1 => td δ S1 fun d S2 => gNat S2 d k fun v => P (.bl (b v.isSome)) S2
theorem nin_lift {b : Bool → Bool} : ∀ σ H Q, liftE X.kw H0 (dNin b ty td) σ H Q → liftE X.kw H0 ty σ H fun y H1 => liftE X.kw H0 td σ H1 fun x H2 => ∃ a es k, x = .ref a ∧ NLook X H2 a y es k ∧ Q (.bl (b (nval es k).isSome)) H2 := fun σ H Q h => by
  obtain ⟨δ, S, P, w, ht, hp⟩ := h
  refine ⟨δ, S, _, w, ht, fun k S1 q y H1 k1 r1 p1 => ⟨δ, S1, _, w.keep k1 r1, q, fun d S2 q2 x H2 k2 r2 p2 => ?_⟩⟩
  obtain ⟨a, es, n, rfl, g, z⟩ := nat_get q2 r2 p2 (p1.keep k2)
  refine ⟨a, es, n, rfl, g, ?_⟩
  rcases z with ⟨e, z⟩ | ⟨d', v, e, rv, z⟩
  · rw [e]; exact hp _ _ z _ _ (k1.trans k2) r2 (rep_bl.mpr rfl)
  · rw [e]; exact hp _ _ z _ _ (k1.trans k2) r2 (rep_bl.mpr rfl)
theorem de_nin (hu : X.A.units + 64 < cLine) (hi : DE X H0 i ty) (ho : DE X H0 o td) (h1 : behindInMarks .In o = false := by rfl) : DE X H0 (.Compare i [.In] [o] pos) (dNin id ty td) := (pe_cmp (pc_nin hu hi ho) h1).to nin_lift
theorem de_nnotin (hu : X.A.units + 64 < cLine) (hi : DE X H0 i ty) (ho : DE X H0 o td) (h1 : behindInMarks .NotIn o = false := by rfl) : DE X H0 (.Compare i [.NotIn] [o] pos) (dNin not ty td) := (pe_cmp (pc_nnotin hu hi ho) h1).to nin_lift
theorem dt_nin (hu : X.A.units + 64 < cLine) (hi : DE X H0 i ty) (ho : DE X H0 o td) (h1 : behindInMarks .In o = false := by rfl) : DT X H0 (.Compare i [.In] [o] pos) (dB (dNin id ty td)) := (pt_cmp (pc_nin hu hi ho) h1).to fun σ H Q h => by
  obtain ⟨δ, S, P, w, ht, hp⟩ := h
  refine nin_lift (b := id) σ H (fun x H' => ∃ c, x = .bl c ∧ Q c H') ⟨δ, S, _, w, ht, fun d S1 q v H1 k1 r1 p1 => ?_⟩
  split at q
  · exact ⟨_, rep_bl.mp p1, hp _ _ q _ k1 r1⟩
  · exact q.elim
theorem dt_nnotin (hu : X.A.units + 64 < cLine) (hi : DE X H0 i ty) (ho : DE X H0 o td) (h1 : behindInMarks .NotIn o = false := by rfl) : DT X H0 (.Compare i [.NotIn] [o] pos) (dB (dNin not ty td)) := (pt_cmp (pc_nnotin hu hi ho) h1).to fun σ H Q h => by
  obtain ⟨δ, S, P, w, ht, hp⟩ := h
  refine nin_lift (b := not) σ H (fun x H' => ∃ c, x = .bl c ∧ Q c H') ⟨δ, S, _, w, ht, fun d S1 q v H1 k1 r1 p1 => ?_⟩
  split at q
  · exact ⟨_, rep_bl.mp p1, hp _ _ q _ k1 r1⟩
  · exact q.elim
@[simp] def isNd (d : Dv) (S : Store) : Prop := match d with
  | .ref a => (match S a with | some (.ndc _) => True | some (.fzn _ _ _) => True | _ => False)
  | _ => False
theorem isNd_is {d : Dv} {S : Store} {x : V} {H : Hp} (h : isNd d S) (r : Rel X.kw S H) (p : Rep X.kw H d x) : ∃ a, x = .ref a ∧ ∃ es, Rd H a (NdO X.w a es) := by
  unfold isNd at h
  split at h
  · split at h
    · rename_i ds e
      obtain ⟨es, he, _⟩ := r.ndc e
      exact ⟨_, rep_ref.mp p, es, .of he⟩
    · rename_i o es ds e
      obtain ⟨_, _, he, n⟩ := r.get e
      exact ⟨_, rep_ref.mp p, es, .inr ⟨o, he⟩⟩
    · exact h.elim
  · exact h.elim
@[simp] def dNget1 (td ty : DTE) : DTE := fun δ S P => td δ S fun d S1 => isNd d S1 ∧ ty δ S1 fun k S2 => gNat S2 d k fun v => P (v.getD .non) S2
@[simp] def dNget2 (td ty tx : DTE) : DTE := fun δ S P => td δ S fun d S1 => isNd d S1 ∧ ty δ S1 fun k S2 => tx δ S2 fun x S3 => gNat S3 d k fun v => P (v.getD x) S3
theorem de_nget1 (hu : X.A.units + 64 < cLine) (ho : DE X H0 o td) (he : DE X H0 e ty) (m : M1 X o "get" apos e cpos) : DE X H0 (.Call (.Attribute o "get" apos) [e] [] cpos) (dNget1 td ty) := (pe_nget1 hu ho he m).to fun σ H Q h => by
  obtain ⟨δ, S, P, w, ht, hp⟩ := h
  refine ⟨δ, S, _, w, ht, fun d S1 q x H1 k1 r1 p1 => ?_⟩
  obtain ⟨a, rfl, isd⟩ := isNd_is q.1 r1 p1
  refine ⟨a, rfl, isd, δ, S1, _, w.keep k1 r1, q.2, fun k S2 q2 y H2 k2 r2 p2 => ?_⟩
  obtain ⟨b, es, n, e, g, z⟩ := nat_get q2 r2 (p1.keep k2) p2
  cases e
  refine ⟨es, n, g, ?_⟩
  rcases z with ⟨e, z⟩ | ⟨d', v, e, rv, z⟩
  · rw [e]; exact hp _ _ z _ _ (k1.trans k2) r2 (rep_non.mpr rfl)
  · rw [e]; exact hp _ _ z _ _ (k1.trans k2) r2 rv
theorem de_nget2 (hu : X.A.units + 64 < cLine) (ho : DE X H0 o td) (he : DE X H0 e ty) (hf : DE X H0 f tx) (m : M2 X o "get" apos e f cpos) : DE X H0 (.Call (.Attribute o "get" apos) [e, f] [] cpos) (dNget2 td ty tx) := (pe_nget2 hu ho he hf m).to fun σ H Q h => by
  obtain ⟨δ, S, P, w, ht, hp⟩ := h
  refine ⟨δ, S, _, w, ht, fun d S1 q x H1 k1 r1 p1 => ?_⟩
  obtain ⟨a, rfl, isd⟩ := isNd_is q.1 r1 p1
  refine ⟨a, rfl, isd, δ, S1, _, w.keep k1 r1, q.2, fun k S2 q2 y H2 k2 r2 p2 => ⟨δ, S2, _, w.keep (k1.trans k2) r2, q2, fun xd S3 q3 z H3 k3 r3 p3 => ?_⟩⟩
  obtain ⟨b, es, n, e, g, zz⟩ := nat_get q3 r3 (p1.keep (k2.trans k3)) (p2.keep k3)
  cases e
  refine ⟨es, n, g, ?_⟩
  rcases zz with ⟨e, zz⟩ | ⟨d', v, e, rv, zz⟩
  · rw [e]; exact hp _ _ zz _ _ (k1.trans (k2.trans k3)) r3 p3
  · rw [e]; exact hp _ _ zz _ _ (k1.trans (k2.trans k3)) r3 rv
/-- d.pop(k), the key there -/
@[simp] def dNpop (td ty : DTE) : DTE := fun δ S P => td δ S fun d S1 => isNd d S1 ∧ ty δ S1 fun k S2 => match d with
  | .ref a => (match S2 a with | some (.ndc kvs) => kOk 8 k = true ∧ (match dval kvs k with | some v => P v (up S2 a (.ndc (ddrop kvs k))) | none => False) | _ => False)
  | _ => False
theorem de_npop (hu : X.A.units + 64 < cLine) (ho : DE X H0 o td) (he : DE X H0 e ty) (m : M1 X o "pop" apos e cpos) : DE X H0 (.Call (.Attribute o "pop" apos) [e] [] cpos) (dNpop td ty) := (pe_npop1 hu ho he m).to fun σ H Q h => by
  obtain ⟨δ, S, P, w, ht, hp⟩ := h
  refine ⟨δ, S, _, w, ht, fun d S1 q x H1 k1 r1 p1 => ?_⟩
  obtain ⟨a, rfl, isd⟩ := isNd_is q.1 r1 p1
  refine ⟨a, rfl, isd, δ, S1, _, w.keep k1 r1, q.2, fun k S2 q2 y H2 k2 r2 p2 => ?_⟩
  split at q2
  · rename_i b
    have eb := rep_ref.mp p1
    cases eb
    split at q2
    · rename_i kvs e
      obtain ⟨hk, q2⟩ := q2
      split at q2
      · rename_i v ev
        obtain ⟨es, hes, n⟩ := r2.ndc e
        obtain ⟨k', hk', dk⟩ := kOk_key 8 k hk
        rcases n.get hk' with ⟨h1, h2⟩ | ⟨d, v', h1, h2, h3⟩
        · rw [h1] at ev; cases ev
        · rw [h1] at ev; cases ev
          refine ⟨es, k', v', hes, ⟨.of hes, n.ndk, keyV_of k k' y hk' p2, dk⟩, h2, ?_⟩
          exact hp _ _ q2 _ _ ((k1.trans k2).trans (keep_nd hes)) (r2.ndcw e hes (n.drop hk')) (h3.keep (keep_nd hes))
      · exact q2.elim
    · exact q2.elim
  · exact q2.elim
/-- d[k] = v -/
@[simp] def dNput (td ty tv : DTE) : DTS := fun D δ S => tv δ S fun v S1 => td δ S1 fun d S2 => ty δ S2 fun k S3 => match d with
  | .ref a => (match S3 a with | some (.ndc kvs) => kOk 8 k = true ∧ kvs.length < sizeLine ∧ D.nx δ (up S3 a (.ndc (dput kvs k v))) | _ => False)
  | _ => False
theorem ds_nput {value : Expr} {pos' : Pos} (hu : X.A.units + 64 < cLine) (ho : DE X H0 o td) (hi : DE X H0 i ty) (hv : DE X H0 value tv) (hs : swapsWith value (some (.Subscript o i pos')) pos.line X.env = pure false := by rfl) :
    DS X H0 (.Assign [.Subscript o i pos'] value pos) (dNput td ty tv) := (ps_nput hu ho hi hv hs).to fun D σ H h => by
  obtain ⟨δ, S, D', w, ht, hp⟩ := h
  refine ⟨δ, S, _, w, ht, fun vd S1 q v H1 k1 r1 p1 => ⟨δ, S1, _, w.keep k1 r1, q, fun d S2 q2 x H2 k2 r2 p2 => ⟨δ, S2, _, w.keep (k1.trans k2) r2, q2, fun k S3 q3 y H3 k3 r3 p3 => ?_⟩⟩⟩
  split at q3
  · rename_i a
    split at q3
    · rename_i kvs e
      obtain ⟨es, hes, n⟩ := r3.ndc e
      obtain ⟨k', hk', dk⟩ := kOk_key 8 k q3.1
      refine ⟨a, es, k', rep_ref.mp p2, hes, ⟨.of hes, n.ndk, keyV_of k k' y hk' p3, dk⟩, by rw [n.length]; exact q3.2.1, ?_⟩
      exact hp.nx _ _ q3.2.2 _ _ (k1.trans (k2.trans (k3.trans (keep_nd hes)))) ((w.keep (k1.trans (k2.trans k3)) r3).keep (keep_nd hes) (r3.ndcw e hes (n.put hk' dk p3 (p1.keep (k2.trans k3)))))
    · exact q3.elim
  · exact q3.elim
/-- len(d) -/
@[simp] def gLenN : GA := fun ds S P => match ds with
  | [.ref a] => (match S a with | some (.ndc kvs) => P (.int kvs.length) S | _ => False)
  | _ => False
theorem cg_lenN : CallG X (.builtin "len") gLenN := ⟨_, call_len_nd, fun ds S P q vs H Q r rs hp => by
  unfold gLenN at q
  split at q
  · split at q
    · rename_i kvs e
      obtain ⟨v, rfl, rv⟩ := reps1 rs
      obtain ⟨es, hes, n⟩ := r.ndc e
      exact ⟨_, es, by rw [rep_ref.mp rv], hes, hp _ _ q _ _ .refl r (rep_int.mpr (by rw [n.length]))⟩
    · exact q.elim
  · exact q.elim⟩
end
end Sb

/-! Objects of the program's own classes. -/
namespace Sb
open PySem PySem.Spec PyProof.Rows L2

/-! ### facts about classes -/
/-- the class c -/
structure KlG (K : PySem.W.Frag) (mg : Str → Option Value) (c : Str) (C : Addr) : Prop where
  at_ : mg c = some (.ref C)
  cls : Cls K C
/-- fields by name -/
def fput (f : Str) (d : Dv) : List (Str × Dv) → List (Str × Dv)
  | [] => [(f, d)]
  | (g, x) :: r => if g = f then (g, d) :: r else (g, x) :: fput f d r
section
variable {K : Kw} {H : Hp}
theorem named_cons {p : Str × Dv} {fs : List (Str × Dv)} {ys : List (Str × V)} (h : Named K H (p :: fs) ys) : ∃ v ys', ys = (p.1, v) :: ys' ∧ Rep K H p.2 v ∧ Named K H fs ys' := by
  obtain ⟨h1, h2⟩ := h
  cases ys with
  | nil => simp at h1
  | cons y ys' =>
    simp only [List.map_cons, List.cons.injEq] at h1 h2
    obtain ⟨z, zs, e, r1, r2⟩ := h2.cons_inv
    simp only [List.cons.injEq] at e
    obtain ⟨rfl, rfl⟩ := e
    obtain ⟨y1, y2⟩ := y
    simp only at h1 r1
    obtain ⟨rfl, h1⟩ := h1
    exact ⟨y2, ys', rfl, r1, h1, r2⟩
theorem named_nil {ys : List (Str × V)} (h : Named K H [] ys) : ys = [] := by
  have := h.1
  simpa using this
theorem named_mk {n : Str} {d : Dv} {v : V} {fs : List (Str × Dv)} {ys : List (Str × V)} (r : Rep K H d v) (h : Named K H fs ys) : Named K H ((n, d) :: fs) ((n, v) :: ys) := ⟨by simp [h.1], by simp only [List.map_cons]; exact .cons r h.2⟩
theorem named_get : ∀ {fs : List (Str × Dv)} {ys : List (Str × V)} {f : Str} {d : Dv}, Named K H fs ys → fs.lookup f = some d → ∃ v, ys.lookup f = some v ∧ Rep K H d v
  | [], _, _, _, h, e => by simp at e
  | (n, x) :: fs, _, f, d, h, e => by
    obtain ⟨v, ys', rfl, r, t⟩ := named_cons h
    simp only [List.lookup_cons] at e ⊢
    cases q : f == n with
    | true => rw [q] at e; simp only [Option.some.injEq] at e; subst e; exact ⟨v, rfl, r⟩
    | false => rw [q] at e; exact named_get t e
theorem named_none : ∀ {fs : List (Str × Dv)} {ys : List (Str × V)} {f : Str}, Named K H fs ys → fs.lookup f = none → ys.lookup f = none
  | [], _, _, h, e => by rw [named_nil h]; rfl
  | (n, x) :: fs, _, f, h, e => by
    obtain ⟨v, ys', rfl, r, t⟩ := named_cons h
    simp only [List.lookup_cons] at e ⊢
    cases q : f == n with
    | true => rw [q] at e; cases e
    | false => rw [q] at e; exact named_none t e
theorem named_put : ∀ {fs : List (Str × Dv)} {ys : List (Str × V)} {f : Str} {d : Dv} {v : V}, Named K H fs ys → Rep K H d v → Named K H (fput f d fs) (putF f v ys)
  | [], _, _, _, _, h, r => by rw [named_nil h]; exact named_mk r ⟨rfl, .nil⟩
  | (n, x) :: fs, _, f, d, v, h, r => by
    obtain ⟨v', ys', rfl, r', t⟩ := named_cons h
    simp only [fput, putF]
    split
    · exact named_mk r t
    · exact named_mk r' (named_put t r)
theorem named_keep {H' : Hp} {fs : List (Str × Dv)} {ys : List (Str × V)} (h : Named K H fs ys) (k : Keep K H H') : Named K H' fs ys := ⟨h.1, h.2.keep k⟩
theorem named_len {fs : List (Str × Dv)} {ys : List (Str × V)} (h : Named K H fs ys) : ys.length = fs.length := by have := congrArg List.length h.1; simpa using this
theorem fvs_get {own : Own} {a : Addr} : ∀ {fs : List (Str × Fv)} {ys : List (Str × V)} {hs : List Addr} {f : Str} {d : Dv}, FvsAt K H own a fs ys hs → fs.lookup f = some (.val d) → ∃ v, ys.lookup f = some v ∧ Rep K H d v
  | [], _, _, _, _, _, e => by simp at e
  | (n, .val x) :: fs, _, _, f, d, h, e => by
    obtain ⟨v, ys', rfl, r, t⟩ := h
    simp only [List.lookup_cons] at e ⊢
    cases q : f == n with
    | true => rw [q] at e; simp only [Option.some.injEq, Fv.val.injEq] at e; subst e; exact ⟨v, rfl, r⟩
    | false => rw [q] at e; exact fvs_get t e
  | (n, .lst x) :: fs, _, _, f, d, h, e => by
    obtain ⟨l, xs, ys', hs', rfl, _, _, _, _, t⟩ := h
    simp only [List.lookup_cons] at e ⊢
    cases q : f == n with
    | true => rw [q] at e; cases e
    | false => rw [q] at e; exact fvs_get t e
  | (n, .dct x) :: fs, _, _, f, d, h, e => by
    obtain ⟨l, ys', hs', rfl, _, _, _, t⟩ := h
    simp only [List.lookup_cons] at e ⊢
    cases q : f == n with
    | true => rw [q] at e; cases e
    | false => rw [q] at e; exact fvs_get t e
theorem fvs_none {own : Own} {a : Addr} : ∀ {fs : List (Str × Fv)} {ys : List (Str × V)} {hs : List Addr} {f : Str}, FvsAt K H own a fs ys hs → fs.lookup f = none → ys.lookup f = none
  | [], _, _, _, h, _ => by rw [h.1]; rfl
  | (n, .val x) :: fs, _, _, f, h, e => by
    obtain ⟨v, ys', rfl, r, t⟩ := h
    simp only [List.lookup_cons] at e ⊢
    cases q : f == n with
    | true => rw [q] at e; cases e
    | false => rw [q] at e; exact fvs_none t e
  | (n, .lst x) :: fs, _, _, f, h, e => by
    obtain ⟨l, xs, ys', hs', rfl, _, _, _, _, t⟩ := h
    simp only [List.lookup_cons] at e ⊢
    cases q : f == n with
    | true => rw [q] at e; cases e
    | false => rw [q] at e; exact fvs_none t e
  | (n, .dct x) :: fs, _, _, f, h, e => by
    obtain ⟨l, ys', hs', rfl, _, _, _, t⟩ := h
    simp only [List.lookup_cons] at e ⊢
    cases q : f == n with
    | true => rw [q] at e; cases e
    | false => rw [q] at e; exact fvs_none t e
theorem keep_ins {a C dx : Addr} {ys : List (Str × V)} {o : HO} (h : H a = some (.ins C dx ys)) : Keep K H (upd H a o) := .upd fun u z => by
  rw [h] at z; cases z
  exact ⟨fun _ q => HO.noConfusion q, fun _ _ q => HO.noConfusion q⟩
end

/-! ### attributes -/
section
variable {X : Cx} {H0 : Hp} {e o value : Expr} {f c : Str} {C : Addr} {pos pos' : Pos} {ta tv : DTE}
/-- e.f of an object of the class c -/
@[simp] def dFld (c f : Str) (ta : DTE) : DTE := fun δ S P => ta δ S fun d S1 => match d with
  | .ref a => (match S1 a with
    | some (.ins c' fs) => c' = c ∧ (match fs.lookup f with | some d => P d S1 | none => False)
    | some (.obj c' fs) => c' = c ∧ (match fs.lookup f with | some (.val d) => P d S1 | _ => False)
    | _ => False)
  | _ => False
theorem de_fld (k : KlG X.K X.mg c C) (n : NoAttr X.K C f) (he : DE X H0 e ta) (hb : attributeBase e f X.env (eval e X.env) = eval e X.env := by rfl) : DE X H0 (.Attribute e f pos) (dFld c f ta) := (pe_fld he hb).to fun σ H Q h => by
  obtain ⟨δ, S, P, w, ht, hp⟩ := h
  refine ⟨δ, S, _, w, ht, fun d S1 q v H1 k1 r1 p1 => ?_⟩
  split at q
  · rename_i a
    split at q
    · rename_i c' fs e0
      obtain ⟨rfl, q⟩ := q
      obtain ⟨C', dx, ys, hc, ha, hn⟩ := r1.ins e0
      rw [show X.kw.mg c' = some (.ref C) from k.at_] at hc; cases hc
      split at q
      · rename_i d' hd
        obtain ⟨v', hv, rv⟩ := named_get hn hd
        exact ⟨a, C, dx, ys, v', rep_ref.mp p1, ha, k.cls, n, hv, hp _ _ q _ _ k1 r1 rv⟩
      · exact q.elim
    · rename_i c' fs e0
      obtain ⟨rfl, q⟩ := q
      obtain ⟨own, _, C', dx, ys, hs, hc, ha, _, hn⟩ := r1.get e0
      rw [show X.kw.mg c' = some (.ref C) from k.at_] at hc; cases hc
      split at q
      · rename_i d' hd
        obtain ⟨v', hv, rv⟩ := fvs_get hn hd
        exact ⟨a, C, dx, ys, v', rep_ref.mp p1, ha, k.cls, n, hv, hp _ _ q _ _ k1 r1 rv⟩
      · exact q.elim
    · exact q.elim
  · exact q.elim
/-- o.f = value -/
@[simp] def dSetF (c f : Str) (ta tv : DTE) : DTS := fun D δ S => tv δ S fun v S1 => ta δ S1 fun d S2 => match d with
  | .ref a => (match S2 a with
    | some (.ins c' fs) => c' = c ∧ fs.length < 1000 ∧ D.nx δ (up S2 a (.ins c (fput f v fs)))
    | _ => False)
  | _ => False
theorem ds_setF (k : KlG X.K X.mg c C) (n : NoAttr X.K C f) (ha : DE X H0 o ta) (hv : DE X H0 value tv) (hs : swapsWith value (some (.Attribute o f pos')) pos.line X.env = pure false := by rfl) : DS X H0 (.Assign [.Attribute o f pos'] value pos) (dSetF c f ta tv) := (ps_fld ha hv hs).to fun D σ H h => by
  obtain ⟨δ, S, D', w, ht, hp⟩ := h
  refine ⟨δ, S, _, w, ht, fun vd S1 q v H1 k1 r1 p1 => ⟨δ, S1, _, w.keep k1 r1, q, fun d S2 q2 x H2 k2 r2 p2 => ?_⟩⟩
  split at q2
  · rename_i a
    split at q2
    · rename_i c' fs e0
      obtain ⟨rfl, hl, q2⟩ := q2
      obtain ⟨C', dx, ys, hc, ha, hn⟩ := r2.ins e0
      rw [show X.kw.mg c' = some (.ref C) from k.at_] at hc; cases hc
      refine ⟨a, C, dx, ys, rep_ref.mp p2, ha, k.cls, n, by rw [named_len hn]; exact hl, ?_⟩
      refine hp.nx _ _ q2 _ _ (k1.trans (k2.trans (keep_ins ha))) ((w.keep (k1.trans k2) r2).keep (keep_ins ha) ?_)
      exact r2.write (o' := .ins c' (fput f vd fs)) e0 fun own _ z => ⟨OK1.mine z, C, dx, _, k.at_, upd_same, named_keep (named_put hn (p1.keep k2)) (keep_ins ha)⟩
    · exact q2.elim
  · exact q2.elim
end

/-! ### calls of methods -/
section
variable {X : Cx} {H0 : Hp} {k j : Nat} {f C : Addr} {fd : FuncData} {ps : List Str} {sp : DSp} {c m : Str} {p pos apos : Pos} {e o : Expr} {es : List Expr} {ta : DTE} {t : DTA}
/-- an object of the class c without a field m -/
@[simp] def isObj (c m : Str) (d : Dv) (S : Store) : Prop := match d with
  | .ref a => (match S a with
    | some (.ins c' fs) => c' = c ∧ fs.lookup m = none
    | some (.obj c' fs) => c' = c ∧ fs.lookup m = none
    | _ => False)
  | _ => False
@[simp] def dMeth (c m : Str) (sp : DSp) (Pe : DX) (to : DTE) (t : DTA) : DTE := fun δ S P => to δ S fun d S1 => isObj c m d S1 ∧ t δ S1 fun ds S2 => sp (d :: ds) S2 P Pe
theorem obj_at {d : Dv} {S : Store} {H : Hp} {x : V} (kc : KlG X.K X.mg c C) (h : isObj c m d S) (r : Rel X.kw S H) (p : Rep X.kw H d x) : ∃ a dx ys, x = .ref a ∧ H a = some (.ins C dx ys) ∧ ys.lookup m = none := by
  unfold isObj at h
  split at h
  · rename_i a
    split at h
    · rename_i c' fs e0
      obtain ⟨rfl, h⟩ := h
      obtain ⟨C', dx, ys, hc, ha, hn⟩ := r.ins e0
      rw [show X.kw.mg c' = some (.ref C) from kc.at_] at hc; cases hc
      exact ⟨a, dx, ys, rep_ref.mp p, ha, named_none hn h⟩
    · rename_i c' fs e0
      obtain ⟨rfl, h⟩ := h
      obtain ⟨own, _, C', dx, ys, hs, hc, ha, _, hn⟩ := r.get e0
      rw [show X.kw.mg c' = some (.ref C) from kc.at_] at hc; cases hc
      exact ⟨a, dx, ys, rep_ref.mp p, ha, fvs_none hn h⟩
    · exact h.elim
  · exact h.elim
/-- what a caller needs of a method -/
structure CalM (P : Program) (w : World) (K : PySem.W.Frag) (mg : Str → Option Value) (base : Heap) (k : Nat) (c m : Str) (ps : List Str) (sp : DSp) : Prop where
  ex : ∃ C f fd, KlG K mg c C ∧ Meth K C m f ∧ L2.Binds K fd ps [] ∧ DFn P w K mg base k f fd ps sp
theorem de_meth {pl : Sem Bool} (cm : CalM X.prog X.w X.K X.mg X.base j c m ps sp) (hgd : X.A.guards = some []) (hr : Room k X.A) (he : DE X H0 o ta) (ha : DA X H0 (e :: es) t) (hj : j ≤ k := by decide)
    (hst : starEach (e :: es) X.env = (false, eval e X.env) :: starEach es X.env := by rfl) (hpl : (backTo pos (starEach es X.env)).any (·.1) = false := by rfl)
    (ht : eval (.Call (.Attribute o m apos) (e :: es) [] pos) X.env = (do
      let ov ← eval o X.env
      standAt apos.atName
      let (f, first) ← holding [ov] (getMethod ov m pl)
      callWith pos f first (backTo pos (starEach (e :: es) X.env)) (backToKw pos (keywordEach [] X.env))) := by rfl) : DE X H0 (.Call (.Attribute o m apos) (e :: es) [] pos) (dMeth c m sp X0 ta t) := by
  obtain ⟨C, f, fd, kc, hm, hb, F⟩ := cm.ex
  refine ⟨fun pins s σ H Q I h => ?_⟩
  obtain ⟨δ, S, P, w, hto, hp⟩ := h
  refine PySem.W.methodCall_KW (pl := pl) (thn (he.run pins s σ H (fun x H1 => ∃ d S1, Keep X.kw H H1 ∧ Rel X.kw S1 H1 ∧ Rep X.kw H1 d x ∧ isObj c m d S1 ∧ t δ S1 fun ds S2 => sp (d :: ds) S2 P X0) I ⟨δ, S, _, w, hto, fun d S1 q x H1 k1 r1 p1 => ⟨d, S1, k1, r1, p1, q⟩⟩) fun u s1 ⟨x, H1, I1, rx, d, S1, k1, r1, p1, io, q⟩ => ?_) ht
  obtain ⟨a, dx, ys, rfl, hx, l⟩ := obj_at kc io r1 p1
  obtain rfl : u = Value.ref a := rx
  refine getmeth_ok I1 hx kc.cls hm l ?_
  refine PySem.W.callWith_K (first := [.ref a]) (h₀ := X.base) I.ok.mod.kin hm.kp (thn (ha.run pos pins s1 σ H1 (fun vs H2 => ∃ ds S2, Keep X.kw H1 H2 ∧ Rel X.kw S2 H2 ∧ Reps X.kw H2 ds vs ∧ sp (d :: ds) S2 P X0) I1 ⟨δ, S1, _, w.keep k1 r1, q, fun ds S2 q2 vs H2 k2 r2 p2 => ⟨ds, S2, k2, r2, p2, q2⟩⟩) fun us s2 ⟨vs, H2, I2, rv, ds, S2, k2, r2, p2, q2⟩ => ⟨I2.kIn, ?_⟩) hst hpl
  exact go_fn (us := .ref a :: us) (vs := .ref a :: vs) F hgd (hr.mono hj) hb passN I2 (.cons rfl rv) r2 (.cons (p1.keep k2) p2) q2 (hp.keep (k1.trans k2)) px0
theorem de_meth0 {pl : Sem Bool} (cm : CalM X.prog X.w X.K X.mg X.base j c m ps sp) (hgd : X.A.guards = some []) (hr : Room k X.A) (he : DE X H0 o ta) (hj : j ≤ k := by decide)
    (ht : eval (.Call (.Attribute o m apos) [] [] pos) X.env = (do
      let ov ← eval o X.env
      standAt apos.atName
      let (f, first) ← holding [ov] (getMethod ov m pl)
      callWith pos f first (backTo pos (starEach [] X.env)) (backToKw pos (keywordEach [] X.env))) := by rfl) : DE X H0 (.Call (.Attribute o m apos) [] [] pos) (dMeth c m sp X0 ta dNil) := by
  obtain ⟨C, f, fd, kc, hm, hb, F⟩ := cm.ex
  refine ⟨fun pins s σ H Q I h => ?_⟩
  obtain ⟨δ, S, P, w, hto, hp⟩ := h
  refine PySem.W.methodCall_KW (pl := pl) (thn (he.run pins s σ H (fun x H1 => ∃ d S1, Keep X.kw H H1 ∧ Rel X.kw S1 H1 ∧ Rep X.kw H1 d x ∧ isObj c m d S1 ∧ sp [d] S1 P X0) I ⟨δ, S, _, w, hto, fun d S1 q x H1 k1 r1 p1 => ⟨d, S1, k1, r1, p1, q⟩⟩) fun u s1 ⟨x, H1, I1, rx, d, S1, k1, r1, p1, io, q⟩ => ?_) ht
  obtain ⟨a, dx, ys, rfl, hx, l⟩ := obj_at kc io r1 p1
  obtain rfl : u = Value.ref a := rx
  refine getmeth_ok I1 hx kc.cls hm l ?_
  exact PySem.W.callWith_K0 (first := [.ref a]) I1.kIn hm.kp (go_fn (us := [.ref a]) (vs := [.ref a]) F hgd (hr.mono hj) hb passN I1 (.cons rfl .nil) r1 (.cons p1 .nil) q (hp.keep k1) px0)

/-! ### objects made -/
@[simp] def dMake (c : Str) (sp : DSp) (Pe : DX) (t : DTA) : DTE := fun δ S P => t δ S fun ds S1 => ∀ x, S1 x = none → sp (.ref x :: ds) (up S1 x (.ins c [])) (fun v S2 => v = .non ∧ P (.ref x) S2) Pe
structure CalC (P : Program) (w : World) (K : PySem.W.Frag) (mg : Str → Option Value) (base : Heap) (k : Nat) (c : Str) (ps : List Str) (sp : DSp) : Prop where
  ex : ∃ C f fd, KlG K mg c C ∧ Mk K C f ∧ L2.Binds K fd ps [] ∧ DFn P w K mg base k f fd ps sp
theorem go_make {pins : List (Addr × Obj)} {σ : L2.St} {H : Hp} {s : Shared} {Q : VK} {us : List Value} {vs : List V} {ds : List Dv} {S : Store} {P : DK} (kc : KlG X.K X.mg c C) (M : Mk X.K C f) (F : DFn X.prog X.w X.K X.mg X.base k f fd ps sp) (hgd : X.A.guards = some []) (hr : Room (k + 1) X.A)
    (hb : L2.Binds X.K fd ps []) (I : Inv X pins σ H s) (rv : Vals vs us) (rl : Rel X.kw S H) (rs : Reps X.kw H ds vs) (q : ∀ x, S x = none → sp (.ref x :: ds) (up S x (.ins c [])) (fun v S2 => v = .non ∧ P (.ref x) S2) X0) (pv : PV X.kw H P Q) :
    wpAny (model X.prog X.w) X.A (call (.ref C) us) (EP X pins σ Q) X.xe s := by
  have f1 : H (s.heap.objs.size + 1) = none := I.hok.fresh (Nat.le_succ _)
  have f0 : H s.heap.objs.size = none := I.hok.fresh (Nat.le_refl _)
  have hne : s.heap.objs.size + 1 ≠ s.heap.objs.size := Nat.succ_ne_self _
  have f1' : upd H s.heap.objs.size (.own (s.heap.objs.size + 1)) (s.heap.objs.size + 1) = none := by rw [upd_ne hne]; exact f1
  have hq := q (s.heap.objs.size + 1) (rl.free f1)
  have I2 := Inv.made (C := C) I
  have kp : Keep X.kw H (upd (upd H s.heap.objs.size (.own (s.heap.objs.size + 1))) (s.heap.objs.size + 1) (.ins C s.heap.objs.size [])) := (Keep.new f0).trans (Keep.new f1')
  have r2 : Rel X.kw (up S (s.heap.objs.size + 1) (.ins c [])) (upd (upd H s.heap.objs.size (.own (s.heap.objs.size + 1))) (s.heap.objs.size + 1) (.ins C s.heap.objs.size [])) :=
    (rl.new f0).laid f1' fun own ow => ⟨ow, C, s.heap.objs.size, [], kc.at_, upd_same, rfl, .nil⟩
  have rv2 : Vals (V.ref (s.heap.objs.size + 1) :: vs) (Value.ref (s.heap.objs.size + 1) :: us) := .cons rfl rv
  have hl : (Value.ref (s.heap.objs.size + 1) :: us).length = ps.length := by
    have e := F.len _ _ _ _ hq
    rw [← e, List.length_cons, List.length_cons, ← rv.length, rs.length]
  have bnd := hb _ (Value.ref (s.heap.objs.size + 1) :: us) I2.kIn (by rw [List.append_nil]; exact hl)
  rw [List.append_nil] at bnd
  refine wpAny_call (make_map (f := f) I.kIn M.makes M.init (beq_iff_eq.mp M.fn) (codeAny_mono (F.run (Q := fun v H2 => v = .non ∧ Q (.ref (s.heap.objs.size + 1)) H2) (E := E0) (by first | exact hgd | simpa using hgd) (hr.make C us []) (I2.env0.make C us []) bnd rv2 r2 (.cons (rep_ref.mpr rfl) (rs.keep kp)) hq
    (fun d S' p v H' k' r' rp => ?_) px0) fun r s' hq' => ?_))
  · obtain ⟨rfl, p⟩ := p
    exact ⟨rep_non.mp rp, pv _ _ p _ _ (kp.trans k') r' (rep_ref.mpr rfl)⟩
  · cases r with
    | error e => exact passN pins σ _ _ e s' I2 hq'
    | ok fl =>
      cases fl with
      | ret u =>
        obtain ⟨v, H', I3, rv, ev, q3⟩ := I2.after hq'
        subst ev
        exact ⟨rv, ⟨V.ref (s.heap.objs.size + 1), H', I3, rfl, q3⟩⟩
      | next => exact False.elim hq'
      | brk => exact False.elim hq'
      | cont => exact False.elim hq'
theorem de_make (cc : CalC X.prog X.w X.K X.mg X.base j c ps sp) (hgd : X.A.guards = some []) (hr : Room k X.A) (ha : DA X H0 (e :: es) t) (hj : j + 1 ≤ k := by decide) (hg : Gl X c := by rfl) (hdb : (c == ("__debug__" : Str)) = false := by decide)
    (he : starEach (e :: es) X.env = (false, eval e X.env) :: starEach es X.env := by rfl) (hpl : (backTo pos (starEach es X.env)).any (·.1) = false := by rfl) : DE X H0 (.Call (.Name c p) (e :: es) [] pos) (dMake c sp X0 t) := by
  obtain ⟨C, f, fd, kc, M, hb, F⟩ := cc.ex
  refine ⟨fun pins s σ H Q I h => ?_⟩
  refine wpAny_Call_Name_kw (ld_glob I hg kc.at_ ?_ hdb)
  obtain ⟨δ, S, P, w, ht, hp⟩ := h
  refine PySem.W.callWith_K (h₀ := X.base) I.ok.mod.kin M.kp (thn (ha.run pos pins s σ H (fun vs H1 => ∃ ds S1, Keep X.kw H H1 ∧ Rel X.kw S1 H1 ∧ Reps X.kw H1 ds vs ∧ ∀ x, S1 x = none → sp (.ref x :: ds) (up S1 x (.ins c [])) (fun v S2 => v = .non ∧ P (.ref x) S2) X0) I ⟨δ, S, _, w, ht, fun ds S1 q vs H1 k1 r1 p1 => ⟨ds, S1, k1, r1, p1, q⟩⟩) fun us s1 ⟨vs, H1, I1, rv, ds, S1, k1, r1, p1, q⟩ => ⟨I1.kIn, ?_⟩) he hpl
  exact go_make kc M F hgd (hr.mono hj) hb I1 rv r1 p1 q (hp.keep k1)
end
end Sb

/-! More rules over data: constants of the module, isinstance, tuple.index, list(range), walks. -/
namespace Sb
open PySem PySem.Spec L2
section
variable {X : Cx} {H0 : Hp} {e a o : Expr} {st : Stmt} {ta te : DTE} {p pos apos cpos : Pos}
/-! ### what is never reached -/
@[simp] def dNeverE : DTE := fun _ _ _ => False
theorem de_never : DE X H0 e dNeverE := ⟨fun pins s σ H Q I h => by obtain ⟨_, _, _, _, ht, _⟩ := h; exact ht.elim⟩
/-! ### constants of the module -/
theorem de_gint {x : Str} {n : Int} (hm : ∃ t, X.mg x = some (.int n t)) (hg : Gl X x := by rfl) (hd : (x == ("__debug__" : Str)) = false := by decide) : DE X H0 (.Name x pos) (dC (.int n)) := by
  obtain ⟨t, h⟩ := hm
  exact (pe_glob (v := .int n) hg h ⟨t, rfl⟩ hd).to (lift_C fun _ => by simp only [Rep])
theorem de_gty {x : Str} {T : String} (hm : X.mg x = none) (hv : bootBuiltins x = some (.type T)) (hg : Gl X x := by rfl) (hn : x ≠ "__name__" := by decide) (hd : (x == ("__debug__" : Str)) = false := by decide) : DE X H0 (.Name x pos) (dC (.ty T)) :=
  (pe_bltn (v := .ty T) hg hm hv rfl hn hd).to (lift_C fun _ => by simp only [Rep])
end
/-! ### isinstance -/
inductive Tn where
  | non | bl | int | str | lst | tup | dct
  deriving DecidableEq
def Tn.name : Tn → String
  | .non => "NoneType" | .bl => "bool" | .int => "int" | .str => "str" | .lst => "list" | .tup => "tuple" | .dct => "dict"
@[simp] def tb (T : String) : Option Tn := if T = "int" then some .int else if T = "bool" then some .bl else if T = "str" then some .str else if T = "tuple" then some .tup else if T = "list" then some .lst else if T = "dict" then some .dct else none
theorem tb_name {T : String} {b : Tn} (h : tb T = some b) : T = b.name ∧ b ≠ .non := by
  unfold tb at h
  repeat' split at h
  all_goals first | (cases h; rename_i e; exact ⟨e, by decide⟩) | cases h
@[simp] def isiT : Tn → Tn → Bool
  | .bl, .int => true
  | .bl, .bl => true | .int, .int => true | .str, .str => true | .lst, .lst => true | .tup, .tup => true | .dct, .dct => true
  | _, _ => false
theorem kit_tn : ∀ a b : Tn, b ≠ .non → kitB a.name b.name = some (isiT a b) := by
  intro a b h
  cases a <;> cases b <;> first | exact absurd rfl h | decide +kernel
@[simp] def tn (S : Store) : Dv → Option Tn
  | .non => some .non
  | .bl _ => some .bl
  | .int _ => some .int
  | .str _ => some .str
  | .tup _ => some .tup
  | .scr _ => some .lst
  | .ref a => (match S a with | some (.lst _) => some .lst | some (.dct _) => some .dct | _ => none)
  | .ty _ => none
theorem tn_ty {K : Kw} {S : Store} {H : Hp} {d : Dv} {v : V} {t : Tn} (h : tn S d = some t) (r : Rel K S H) (p : Rep K H d v) : TyX K.k H v (.type t.name) := by
  cases d with
  | non => cases h; rw [rep_non.mp p]; exact .base .non
  | bl b => cases h; rw [rep_bl.mp p]; exact .base (.bl b)
  | int i => cases h; rw [rep_int.mp p]; exact .base (.int i)
  | str x => cases h; rw [rep_str.mp p]; exact .base (.str x)
  | tup ds =>
    cases h
    obtain ⟨a, xs, rfl, q, _⟩ := rep_tup.mp p
    rcases q with ⟨o, q, _⟩ | ⟨o, its, n, h1, h2, _⟩
    · exact .fTuple q
    · exact .kTuple h1 h2
  | scr ns =>
    cases h
    obtain ⟨a, rfl, q⟩ := rep_scr.mp p
    rcases q with ⟨o, q⟩ | ⟨o, its, n, h1, h2, _⟩
    · exact .base (.frz q)
    · exact .kList h1 h2
  | ref a =>
    simp only [tn] at h
    rw [rep_ref.mp p]
    split at h
    · rename_i ds e; cases h; obtain ⟨xs, hx, _⟩ := r.lst e; exact .base (.lst hx)
    · rename_i ds e; cases h; obtain ⟨ys, hy, _⟩ := r.dct e; exact .base (.dK hy)
    · cases h
  | ty n => cases h
section
variable {X : Cx} {H0 : Hp} {e a o : Expr} {st : Stmt} {ta te : DTE} {p pos apos cpos : Pos}
@[simp] def gIsi : GA := fun ds S P => match ds with
  | [x, .ty T] => (match tn S x, tb T with | some a, some b => P (.bl (isiT a b)) S | _, _ => False)
  | _ => False
theorem cg_isi : CallG X (.builtin "isinstance") gIsi := ⟨_, call_isi, fun ds S P q vs H Q r rs hp => by
  unfold gIsi at q
  split at q
  · rename_i x T
    split at q
    · rename_i a b ea eb
      obtain ⟨v, u, rfl, rv, ru⟩ := reps2 rs
      obtain ⟨rfl, hb⟩ := tb_name eb
      have eu : u = .ty b.name := by simpa only [Rep] using ru
      exact ⟨v, u, .type a.name, .type b.name, isiT a b, rfl, by rw [eu]; exact .ty _, tn_ty ea r rv, kit_ty (kit_tn a b hb), hp _ _ q _ _ .refl r (rep_bl.mpr rfl)⟩
    · exact q.elim
  · exact q.elim⟩
/-! ### t.index(x) -/
theorem keyVs_nested_all {pins : List (Addr × Obj)} {σ : L2.St} {H : Hp} {s : Shared} (I : Inv X pins σ H s) {ks : List NestedKey} {xs : List V} {us : List Value} (h : KeyVs X.K H ks xs) (r : Vals xs us) : NestedAll s.heap ks us := KeyVs.nested I ks xs us h r
theorem nested_at {h : Heap} : ∀ {ks : List NestedKey} {vs : List Value}, NestedAll h ks vs → ∀ j (h1 : j < vs.length) (h2 : j < ks.length), NestedIs h ks[j] vs[j]
  | _, _, .nil, j, h1, _ => absurd h1 (Nat.not_lt_zero _)
  | _, _, .cons a b, 0, _, _ => a
  | _, _, .cons a b, j + 1, h1, h2 => nested_at b j (Nat.lt_of_succ_lt_succ h1) (Nat.lt_of_succ_lt_succ h2)
theorem mt_indexN (hu : X.A.units + 64 < cLine) : MtR X "tuple.index" (fun x xs H Q => ∃ a zs ks y k, x = .ref a ∧ xs = [y] ∧ SqT X.K H a zs ∧ KeyVs X.K H ks zs ∧ KeyV X.K H k y ∧ k.depth ≤ 8 ∧ k ∈ ks ∧ Q (.int (ks.idxOf k : Nat)) H) := by
  intro pins s σ H x xs v us Q I rx rxs h
  obtain ⟨a, zs, ks, y, k, rfl, rfl, hT, hks, hk, dk, hm, q⟩ := h
  cases rx
  cases rxs with
  | cons ry rt =>
    cases rt
    obtain ⟨its, rv, pt, _⟩ := I.tuple hT
    have hn := KeyVs.nested I ks zs its hks rv
    have hx := KeyV.nested I k y _ hk ry
    refine PySem.SeqAt.call_tuple_index pt ⟨NestedAll.length ks its hn, fun j h1 h2 => ?_⟩ hm ⟨.int (ks.idxOf k : Nat), H, I.tok _, ⟨_, rfl⟩, q⟩
    have h3 := eqAt_key ks[j] k X.A.in1 s its[j] _ (nested_at hn j h1 h2) hx (by show X.A.units + 1 + _ < cLine; omega)
    exact SeqAt.EqAt.cast h3 (NestedKey.decide_eq _ _).symm
/-- t.index(x), x in t -/
@[simp] def isTu (d : Dv) (_ : Store) : Prop := match d with | .tup _ => True | _ => False
def gIndexT : GM := fun d xs S P => match d, xs with
  | .tup ds, [x] => kOks 7 ds = true ∧ kOk 8 x = true ∧ x ∈ ds ∧ ∀ j, ds[j]? = some x → (∀ m, m < j → ds[m]? ≠ some x) → P (.int (j : Nat)) S
  | _, _ => False
theorem nkDs_at : ∀ {ds : List Dv} {ks : List NestedKey} {j : Nat} {d : Dv}, nkDs ds = some ks → ds[j]? = some d → ∃ k, ks[j]? = some k ∧ nkD d = some k
  | [], _, _, _, _, h => by simp at h
  | d :: ds, ks, j, x, e, h => by
    simp only [nkDs, Option.bind_eq_some_iff, Option.map_eq_some_iff] at e
    obtain ⟨k, a1, ks1, a2, rfl⟩ := e
    cases j with
    | zero => simp only [List.getElem?_cons_zero, Option.some.injEq] at h; subst h; exact ⟨k, rfl, a1⟩
    | succ j => simp only [List.getElem?_cons_succ] at h ⊢; exact nkDs_at a2 h
theorem nkDs_len : ∀ {ds : List Dv} {ks : List NestedKey}, nkDs ds = some ks → ks.length = ds.length
  | [], _, h => by simp only [nkDs, Option.some.injEq] at h; subst h; rfl
  | d :: ds, ks, e => by
    simp only [nkDs, Option.bind_eq_some_iff, Option.map_eq_some_iff] at e
    obtain ⟨k, a1, ks1, a2, rfl⟩ := e
    simp [nkDs_len a2]
theorem tuN_is {pins : List (Addr × Obj)} {σ : L2.St} {H : Hp} {s : Shared} {a : Addr} {xs : List V} (I : Inv X pins σ H s) (h : SqN X.K H a xs) : s.TypeIs (.ref a) "tuple" ∧ ∀ b, Value.ref a = .ref b → ∃ ob, s.heap.get? b = some ob ∧ ob.dict = none := by
  obtain ⟨its, rv, ⟨ob, ho, hc, _⟩, _⟩ := I.tuple h.t
  refine ⟨⟨ob, ho, hc⟩, fun b e => ?_⟩
  cases e
  rcases h with ⟨o, h, hd⟩ | ⟨o, _, _, h1, _, hd, _⟩
  · exact ⟨o, (I.hok a _ h).1, hd⟩
  · exact ⟨o, I.kIn _ _ h1, hd⟩
/-- t.m(e, ..) of a tuple -/
theorem de_tm {name : Str} {id : String} {g : GM} {es : List Expr} {to : DTE} {t : DTA} (m : ∃ r, MtR X id r ∧ ∀ d ds S P, g d ds S P → ∀ x xs H Q, Rel X.kw S H → Rep X.kw H d x → Reps X.kw H ds xs → PV X.kw H P Q → r x xs H Q) (slot : Slot "tuple" name id)
    (hty : typeOf (.builtin id) = pure (.type "method_descriptor")) (ho : DE X H0 o to) (ha : DA X H0 (e :: es) t)
    (hbase : attributeBase o name X.env (eval o X.env) = eval o X.env := by rfl)
    (hfew : ((backTo cpos (starEach (e :: es) X.env)).all (fun x => !x.1) && (backToKw cpos (keywordEach [] X.env)).all (fun x => x.1.isSome)
      && decide ((e :: es).length + ([] : List Keyword).length + (if ([] : List Keyword).isEmpty then 0 else 1) < 30)) = true := by rfl)
    (hline : (apos.endLine == cpos.line) = true := by rfl) (hs : starEach (e :: es) X.env = (false, eval e X.env) :: starEach es X.env := by rfl) (hplain : (backTo cpos (starEach es X.env)).any (·.1) = false := by rfl) :
    DE X H0 (.Call (.Attribute o name apos) (e :: es) [] cpos) (dBM isTu g to t) := by
  obtain ⟨r, hm, hg⟩ := m
  refine ⟨fun pins s σ H Q I h => ?_⟩
  obtain ⟨δ, S, P, w, hto, hp⟩ := h
  refine wpAny_Call_method_late hbase hfew hline rfl (thn (ho.run pins s σ H (fun x H1 => ∃ d S1, Keep X.kw H H1 ∧ Rel X.kw S1 H1 ∧ Rep X.kw H1 d x ∧ isTu d S1 ∧ t δ S1 fun ds S2 => g d ds S2 P) I ⟨δ, S, _, w, hto, fun d S1 q x H1 k1 r1 p1 => ⟨d, S1, k1, r1, p1, q⟩⟩) fun v s1 ⟨x, H1, I1, rx, d, S1, k1, r1, p1, tu, q⟩ => ?_)
  cases d with
  | tup ds =>
    obtain ⟨a, xs, rfl, hq, rs⟩ := rep_tup.mp p1
    obtain rfl : v = Value.ref a := rx
    obtain ⟨h1, h2⟩ := tuN_is I1 hq
    refine ⟨"tuple", id, PySem.F.plainAttrs_tuple, slot, hty, h1, h2, ?_⟩
    have hA := ha.run cpos pins s1 σ H1 (fun vs H2 => ∃ ds' S2, Keep X.kw H1 H2 ∧ Rel X.kw S2 H2 ∧ Reps X.kw H2 ds' vs ∧ g (.tup ds) ds' S2 P) I1 ⟨δ, S1, _, w.keep k1 r1, q, fun ds' S2 q2 vs H2 k2 r2 p2 => ⟨ds', S2, k2, r2, p2, q2⟩⟩
    rw [hs] at hA ⊢
    refine Calls.callWith_builtin (by show (false || (backTo cpos (starEach es X.env)).any (·.1)) = false; rw [hplain] <;> rfl) (Calls.evalArgs_plain ?_)
    exact thn hA fun us s2 ⟨vs, H2, I2, rv, ds', S2, k2, r2, p2, q2⟩ => hm pins s2 σ H2 (.ref a) vs (.ref a) us Q I2 rfl rv (hg _ _ _ _ q2 _ _ _ _ r2 (p1.keep k2) p2 (hp.keep (k1.trans k2)))
  | _ => exact tu.elim
theorem mg_indexT (hu : X.A.units + 64 < cLine) : ∃ r, MtR X "tuple.index" r ∧ ∀ d ds S P, gIndexT d ds S P → ∀ x xs H Q, Rel X.kw S H → Rep X.kw H d x → Reps X.kw H ds xs → PV X.kw H P Q → r x xs H Q :=
  ⟨_, mt_indexN hu, fun d xs S P q x vs H Q r p rs hp => by
    unfold gIndexT at q
    split at q
    · rename_i ds y
      obtain ⟨h1, h2, h3, h4⟩ := q
      obtain ⟨a, zs, rfl, hT, rz⟩ := rep_tup.mp p
      obtain ⟨v, rfl, rv⟩ := reps1 rs
      obtain ⟨ks, ek, _⟩ := kOks_keys 7 ds h1
      obtain ⟨k, ey, dk⟩ := kOk_key 8 y h2
      obtain ⟨i, hi⟩ := List.mem_iff_getElem?.mp h3
      obtain ⟨k', hk', ek'⟩ := nkDs_at ek hi
      have : k' = k := by rw [ey] at ek'; exact (Option.some.inj ek').symm
      subst this
      have hm : k' ∈ ks := List.mem_of_getElem? hk'
      have hlt := List.idxOf_lt_length_iff.mpr hm
      have hat : ds[ks.idxOf k']? = some y := by
        have hl : ks.idxOf k' < ds.length := by rw [← nkDs_len ek]; exact hlt
        obtain ⟨z, hz, ez⟩ := nkDs_at ek (List.getElem?_eq_getElem hl)
        rw [List.getElem?_eq_getElem hlt, List.getElem_idxOf hlt] at hz
        cases hz
        rw [List.getElem?_eq_getElem hl, nkD_inj _ _ _ ez ey]
      refine ⟨a, zs, ks, v, k', rfl, rfl, hT.t, keyVs_of ds ks zs ek rz, keyV_of y k' v ey rv, dk, hm, ?_⟩
      refine hp _ _ (h4 _ hat fun m hmlt e => ?_) _ _ .refl r (rep_int.mpr rfl)
      obtain ⟨z, hz, ez⟩ := nkDs_at ek e
      rw [ey] at ez; cases ez
      obtain ⟨hm2, hz2⟩ := List.getElem?_eq_some_iff.mp hz
      exact PySem.SeqAt.lt_idxOf_ne hmlt hm2 hz2
    · exact q.elim⟩
end
end Sb

/-! Walks over data: locked dicts, enumerate; list(range); objects opened and closed. -/
namespace Sb
open PySem PySem.Spec L2
section
variable {X : Cx} {H0 : Hp} {e a o : Expr} {st : Stmt} {tg : Expr} {ta te td : DTE} {t : DTS} {p q pos qpos apos cpos : Pos}
/-! ### list(range(n)) -/
@[simp] def dLstRg (te : DTE) : DTE := fun δ S P => te δ S fun d S1 => match d with
  | .int n => -1000000 ≤ n ∧ n ≤ 16777216 ∧ ∀ l, S1 l = none → P (.ref l) (up S1 l (.lst ((List.range n.toNat).map fun (i : Nat) => Dv.int i)))
  | _ => False
theorem reps_rg {K : Kw} {H : Hp} (n : Int) : Reps K H ((List.range n.toNat).map fun (i : Nat) => Dv.int i) (rgV 0 n) := by
  unfold rgV
  have e : (n - 0).toNat = n.toNat := by omega
  rw [e]
  induction List.range n.toNat with
  | nil => exact .nil
  | cons i l ih => exact .cons (rep_int.mpr (by simp)) ih
theorem de_listRg (hc : X.calm = true) (hg : Gl X "list") (hm : X.mg "list" = none) (hg2 : Gl X "range") (hm2 : X.mg "range" = none) (h : DE X H0 e te)
    (na : starEach [.Call (.Name "range" q) [e] [] qpos] X.env = (false, eval (.Call (.Name "range" q) [e] [] qpos) X.env) :: starEach [] X.env := by rfl) (na2 : starEach [e] X.env = (false, eval e X.env) :: starEach [] X.env := by rfl) :
    DE X H0 (.Call (.Name "list" p) [.Call (.Name "range" q) [e] [] qpos] [] pos) (dLstRg te) := (pe_listRg hc hg hm (prg_1 hg2 hm2 h na2) na).to fun σ H Q h => by
  obtain ⟨δ, S, P, w, ht, hp⟩ := h
  refine ⟨δ, S, _, w, ht, fun d S1 q v H1 k1 r1 p1 => ?_⟩
  split at q
  · rename_i n
    refine ⟨n, rep_int.mp p1, ⟨by decide, by decide, by omega, by omega, by omega⟩, fun l hl => ?_⟩
    exact (hp.keep k1).lst r1 (reps_rg n) q.2.2 hl
  · exact q.elim
/-! ### a statement while a dict is locked -/
def dLock (t : DTS) : DTS := fun D δ S => ∃ a kvs, S a = some (.ndc kvs) ∧ ∀ (od : Obj) (es : NL V V), t
  { nx := fun δ' S' => S' a = some (.fzn od es kvs) ∧ D.nx δ' (up S' a (.ndc kvs)), rt := fun d S' => S' a = some (.fzn od es kvs) ∧ D.rt d (up S' a (.ndc kvs)),
    bk := fun δ' S' => S' a = some (.fzn od es kvs) ∧ D.bk δ' (up S' a (.ndc kvs)), ct := fun δ' S' => S' a = some (.fzn od es kvs) ∧ D.ct δ' (up S' a (.ndc kvs)) } δ (up S a (.fzn od es kvs))
theorem keep_unlock {K : Kw} {H : Hp} {a : Addr} {od : Obj} {w : World} {es : NL V V} (h : H a = some (.frz od (NdO w a es))) : Keep K H (upd H a (NdO w a es)) := by
  refine ⟨fun b xs q => ?_, fun b xs q => ?_⟩
  · rcases q with ⟨ob, q, qd⟩ | q
    · have : b ≠ a := fun z => by subst z; rw [h] at q; cases q
      exact .inl ⟨ob, by rw [upd_ne this]; exact q, qd⟩
    · exact .inr q
  · rcases q with ⟨ob, q⟩ | q
    · have : b ≠ a := fun z => by subst z; rw [h] at q; cases q
      exact .inl ⟨ob, by rw [upd_ne this]; exact q⟩
    · exact .inr q
theorem Rel.unlock {K : Kw} {S : Store} {H : Hp} {a : Addr} {od : Obj} {es : NL V V} {kvs : List (Dv × Dv)} (r : Rel K S H) (e : S a = some (.fzn od es kvs)) : H a = some (.frz od (NdO K.w a es)) ∧ Rel K (up S a (.ndc kvs)) (upd H a (NdO K.w a es)) := by
  obtain ⟨own, _, h2⟩ := id r.ex
  have h := (h2 a _ e).2.1
  refine ⟨h, r.writeK e (keep_unlock h) fun own _ z => ⟨OK1.mine z, es, upd_same, z.2.2.keep (keep_unlock h)⟩⟩
theorem ds_lock (h : DS X H0 st t) : DS X H0 st (dLock t) := (ps_lock h).to fun D σ H q => by
  obtain ⟨δ, S, D', w, ⟨a, kvs, e, ht⟩, hp⟩ := q
  obtain ⟨es, he, n⟩ := w.rel.ndc e
  refine ⟨a, NdO X.w a es, he, True.intro, fun od => ⟨δ, up S a (.fzn od es kvs), _, w.keep (keep_nd he) (w.rel.write (o' := .fzn od es kvs) e fun own _ z => ⟨OK1.mine z, upd_same, n.keep (keep_nd he)⟩), ht od es, ?_⟩⟩
  have go : ∀ {S1 : Store} {H1 : Hp} {σ1 : L2.St} {δ1 : DSt}, S1 a = some (.fzn od es kvs) → Keep X.kw (upd H a (.frz od (NdO X.w a es))) H1 → Wd X.kw H0 σ1 δ1 S1 H1 → H1 a = some (.frz od (NdO X.w a es)) ∧ Keep X.kw H (upd H1 a (NdO X.w a es)) ∧ Wd X.kw H0 σ1 δ1 (up S1 a (.ndc kvs)) (upd H1 a (NdO X.w a es)) := fun e1 k1 w1 =>
    let ⟨h1, r1⟩ := w1.rel.unlock e1
    ⟨h1, ((keep_nd he).trans k1).trans (keep_unlock h1), w1.keep (keep_unlock h1) r1⟩
  refine ⟨fun δ1 S1 z σ1 H1 k1 w1 => ?_, fun δ1 S1 z σ1 H1 k1 w1 => ?_, fun δ1 S1 z σ1 H1 k1 w1 => ?_, fun d S1 z v H1 k1 r1 p1 => ?_⟩
  · obtain ⟨g1, g2, g3⟩ := go z.1 k1 w1; exact ⟨g1, hp.nx _ _ z.2 _ _ g2 g3⟩
  · obtain ⟨g1, g2, g3⟩ := go z.1 k1 w1; exact ⟨g1, hp.bk _ _ z.2 _ _ g2 g3⟩
  · obtain ⟨g1, g2, g3⟩ := go z.1 k1 w1; exact ⟨g1, hp.ct _ _ z.2 _ _ g2 g3⟩
  · obtain ⟨h1, r2⟩ := r1.unlock z.1
    exact ⟨h1, hp.rt _ _ z.2 _ _ (((keep_nd he).trans k1).trans (keep_unlock h1)) r2 (p1.keep (keep_unlock h1))⟩
/-! ### for k in d -/
@[simp] def dIN (td : DTE) : DTI := fun δ S P => td δ S fun d S1 => match d with
  | .ref a => (match S1 a with | some (.fzn od es kvs) => P (kvs.map (·.1)) (fun S => S a = some (.fzn od es kvs)) S1 | _ => False)
  | _ => False
theorem KVn.key_at {K : Kw} {H : Hp} : ∀ {kvs : List (Dv × Dv)} {es : NL V V} {i : Nat} {d : Dv}, KVn K H kvs es → (kvs.map (·.1))[i]? = some d → ∃ e, es[i]? = some e ∧ Rep K H d e.2.1
  | [], _, _, _, _, h => by simp at h
  | p :: kvs, _, i, d, n, h => by
    obtain ⟨k, x, y, es', rfl, _, _, h3, _, h5⟩ := n
    cases i with
    | zero => simp only [List.map_cons, List.getElem?_cons_zero, Option.some.injEq] at h; subst h; exact ⟨_, rfl, h3⟩
    | succ j => simp only [List.map_cons, List.getElem?_cons_succ] at h ⊢; exact h5.key_at h
theorem di_nkeys (h : DE X H0 e td) : DI X H0 tg e (dIN td) := (pi_nkeys h).to fun σ H R h => by
  obtain ⟨δ, S, P, w, ht, hp⟩ := h
  refine ⟨δ, S, _, w, ht, fun d S1 q v H1 k1 r1 p1 => ?_⟩
  split at q
  · rename_i a
    split at q
    · rename_i od es kvs e0
      obtain ⟨_, _, ha, n⟩ := r1.get e0
      refine ⟨a, od, es, rep_ref.mp p1, ha, hp _ _ _ q _ _ k1 r1 fun i S2 H2 k2 r2 g => ?_⟩
      obtain ⟨_, _, ha2, n2⟩ := r2.get g
      refine ⟨fun z => ⟨ha2, by rw [n2.length, z, List.length_map]; exact Nat.le_refl _⟩, fun d hd => ?_⟩
      obtain ⟨en, he, rk⟩ := n2.key_at hd
      refine ⟨⟨ha2, (List.getElem?_eq_some_iff.mp he).1⟩, fun x H' y => ?_⟩
      obtain ⟨rfl, e', he', rfl⟩ := y
      rw [he] at he'; cases he'
      exact ⟨.refl, r2, rk⟩
    · exact q.elim
  · exact q.elim
/-! ### enumerate(t) -/
@[simp] def dIE (ta : DTA) : DTI := fun δ S P => ta δ S fun ds S1 => match ds with
  | [.tup ds] => P (ds.zipIdx.map fun p => Dv.tup [.int (p.2 : Nat), p.1]) (fun _ => True) S1
  | _ => False
theorem di_enumT {elts : List Expr} {kk : Nat} {tpos : Pos} {ta : DTA} (hg : Gl X "enumerate") (hm : X.mg "enumerate" = none) (ha : DA X H0 [e] ta) (hs : starEach [e] X.env = [(false, eval e X.env)] := by rfl) : DI X H0 (.Tuple elts kk tpos) (.Call (.Name "enumerate" p) [e] [] pos) (dIE ta) := (pi_enumT hg hm ha hs).to fun σ H R h => by
  obtain ⟨δ, S, P, w, ht, hp⟩ := h
  refine ⟨δ, S, _, w, ht, fun ds S1 q vs H1 k1 r1 p1 => ?_⟩
  split at q
  · rename_i ds
    obtain ⟨v, rfl, rv⟩ := reps1 p1
    obtain ⟨a, xs, rfl, hq, rs⟩ := rep_tup.mp rv
    refine ⟨a, xs, rfl, hq.t, hp _ _ _ q _ _ k1 r1 fun i S2 H2 k2 r2 _ => ?_⟩
    have hq2 := (k2.t _ _ hq).t
    have rs2 := Reps.keep k2 _ _ rs
    refine ⟨fun z => ⟨xs, hq2, by rw [rs.length, z]; simp⟩, fun d hd => ?_⟩
    rw [List.getElem?_map] at hd
    obtain ⟨y, hy, rfl⟩ := Option.map_eq_some_iff.mp hd
    obtain ⟨dd, j⟩ := y
    rw [List.getElem?_zipIdx] at hy
    obtain ⟨dd', hdd, hj⟩ := Option.map_eq_some_iff.mp hy
    simp only [Prod.mk.injEq, Nat.zero_add] at hj
    obtain ⟨rfl, rfl⟩ := hj
    obtain ⟨x, ex, rx⟩ := rs2.get hdd
    refine ⟨⟨xs, x, hq2, ex⟩, fun u H' y => ?_⟩
    obtain ⟨T, x', ob, rfl, hT, hob, rfl, hx⟩ := y
    have := hx xs hq2
    rw [ex] at this; cases this
    exact ⟨.new hT, r2.new hT, rep_new_tup hob hT (.cons (rep_int.mpr rfl) (.cons rx .nil))⟩
  · exact q.elim
end
end Sb

/-! An object of three fields (a value, a list, a dict) opened and closed. -/
namespace Sb
open PySem PySem.Spec L2
section
variable {K : Kw} {S S' : Store} {P : Store → Prop} {a l k : Addr} {c n1 n2 n3 : Str} {d1 : Dv} {ds : List Dv} {kvs : List (Dv × Dv)}
theorem VS.openW (ha : S a = some (.obj c [(n1, .val d1), (n2, .lst ds), (n3, .dct kvs)]))
    (h : ∀ l k : Addr, l ≠ a → k ≠ a → l ≠ k → S l = none → S k = none → P (up (up (up S l (.lst ds)) k (.ndc kvs)) a (.ins c [(n1, d1), (n2, .ref l), (n3, .ref k)]))) : VS K S P := fun H r => by
  obtain ⟨own, h1, h2⟩ := r.ex
  have ka := h2 a _ ha
  obtain ⟨oa, C, dx, ys, hs, hc, ex, nd, v1, y1, rfl, r1, l, xs, y2, h2', rfl, rfl, ol, el, rl, k, y3, h3', rfl, rfl, ok, ek, rfl, rfl⟩ := id ka
  have la : l ≠ a := fun z => by rw [z, oa] at ol; cases ol
  have kk : k ≠ a := fun z => by rw [z, oa] at ok; cases ok
  have lk : l ≠ k := fun z => by subst z; simp at nd
  have Sl := (h1 l a ol).1
  have Sk := (h1 k a ok).1
  refine ⟨_, ?_, h l k la kk lk Sl Sk⟩
  refine ⟨fun x => if x = l then none else if x = k then none else own x, fun x b e => ?_, fun b o e => ?_⟩
  · dsimp only at e
    by_cases hl : x = l
    · rw [if_pos hl] at e; cases e
    · rw [if_neg hl] at e
      by_cases hk : x = k
      · rw [if_pos hk] at e; cases e
      · rw [if_neg hk] at e
        obtain ⟨e1, e2⟩ := h1 x b e
        have xa : x ≠ a := fun z => by rw [z, oa] at e; cases e
        exact ⟨by rw [up_ne xa, up_ne hk, up_ne hl]; exact e1, e2⟩
  · by_cases hb : b = a
    · subst hb
      rw [up_same] at e; cases e
      exact ⟨by dsimp only; rw [if_neg (Ne.symm la), if_neg (Ne.symm kk)]; exact oa, C, dx, _, hc, ex, rfl, .cons r1 (.cons (rep_ref.mpr rfl) (.cons (rep_ref.mpr rfl) .nil))⟩
    · rw [up_ne hb] at e
      by_cases hk : b = k
      · subst hk
        rw [up_same] at e; cases e
        exact ⟨by dsimp only; rw [if_neg (Ne.symm lk), if_pos rfl], ek⟩
      · rw [up_ne hk] at e
        by_cases hl : b = l
        · subst hl
          rw [up_same] at e; cases e
          exact ⟨if_pos rfl, xs, el, rl⟩
        · rw [up_ne hl] at e
          refine OK1.frame (h2 b o e) .refl (by rw [if_neg hl, if_neg hk]) (fun x q => ?_) fun _ _ _ => rfl
          have xl : x ≠ l := fun z => by rw [z, ol] at q; cases q; exact hb rfl
          have xk : x ≠ k := fun z => by rw [z, ok] at q; cases q; exact hb rfl

          rw [if_neg xl, if_neg xk]; exact q
theorem VS.mkW (ha : S a = some (.ins c [(n1, d1), (n2, .ref l), (n3, .ref k)])) (hl : S l = some (.lst ds)) (hk : S k = some (.ndc kvs)) (la : l ≠ a) (kk : k ≠ a) (lk : l ≠ k)
    (hs : ∀ b o, b ≠ a → S' b = some o → S b = some o) (nl : S' l = none) (nk : S' k = none) (h : P (up S' a (.obj c [(n1, .val d1), (n2, .lst ds), (n3, .dct kvs)]))) : VS K S P := fun H r => by
  refine ⟨_, ?_, h⟩
  obtain ⟨own, h1, h2⟩ := r.ex
  have qa := h2 a _ ha
  have ql := h2 l _ hl
  have qk := h2 k _ hk
  have oa := OK1.mine qa
  have ol := OK1.mine ql
  have ok := OK1.mine qk
  refine ⟨fun x => if x = l then some a else if x = k then some a else own x, fun x b e => ?_, fun b o e => ?_⟩
  · dsimp only at e
    by_cases hxl : x = l
    · subst hxl
      exact ⟨by rw [up_ne la]; exact nl, OK1.there ql⟩
    · rw [if_neg hxl] at e
      by_cases hxk : x = k
      · subst hxk
        exact ⟨by rw [up_ne kk]; exact nk, OK1.there qk⟩
      · rw [if_neg hxk] at e
        obtain ⟨e1, e2⟩ := h1 x b e
        have xa : x ≠ a := fun z => by rw [z, oa] at e; cases e
        refine ⟨?_, e2⟩
        rw [up_ne xa]
        cases q : S' x with
        | none => rfl
        | some u => rw [hs x u xa q] at e1; cases e1
  · by_cases hb : b = a
    · subst hb
      rw [up_same] at e; cases e
      obtain ⟨_, C, dx, ys, hc, ex, nm⟩ := qa
      obtain ⟨v1, y1, rfl, r1, t1⟩ := named_cons nm
      obtain ⟨v2, y2, rfl, r2, t2⟩ := named_cons t1
      obtain ⟨v3, y3, rfl, r3, t3⟩ := named_cons t2
      rw [named_nil t3] at ex
      have e2 := rep_ref.mp r2
      have e3 := rep_ref.mp r3
      simp only at e2 e3 ex
      subst e2 e3
      obtain ⟨_, xs, ey, ry⟩ := ql
      exact ⟨by dsimp only; rw [if_neg (Ne.symm la), if_neg (Ne.symm kk)]; exact oa, C, dx, _, [l, k], hc, ex, by simp [lk], v1, _, rfl, r1, l, xs, _, [k], rfl, rfl, if_pos rfl, ey, ry, k, [], [], rfl, rfl, by dsimp only; rw [if_neg (Ne.symm lk), if_pos rfl], qk.2, rfl, rfl⟩
    · rw [up_ne hb] at e
      have bl : b ≠ l := fun z => by rw [z, nl] at e; cases e
      have bk : b ≠ k := fun z => by rw [z, nk] at e; cases e
      refine OK1.frame (h2 b o (hs b o hb e)) .refl (by rw [if_neg bl, if_neg bk]) (fun x q => ?_) fun _ _ _ => rfl
      have xl : x ≠ l := fun z => by rw [z, ol] at q; cases q
      have xk : x ≠ k := fun z => by rw [z, ok] at q; cases q

      rw [if_neg xl, if_neg xk]; exact q
end
@[simp] theorem dLock_eq {t : DTS} {D : DEnds} {δ : DSt} {S : Store} : dLock t D δ S ↔ ∃ a kvs, S a = some (.ndc kvs) ∧ ∀ (od : Obj) (es : NL V V), t
  { nx := fun δ' S' => S' a = some (.fzn od es kvs) ∧ D.nx δ' (up S' a (.ndc kvs)), rt := fun d S' => S' a = some (.fzn od es kvs) ∧ D.rt d (up S' a (.ndc kvs)),
    bk := fun δ' S' => S' a = some (.fzn od es kvs) ∧ D.bk δ' (up S' a (.ndc kvs)), ct := fun δ' S' => S' a = some (.fzn od es kvs) ∧ D.ct δ' (up S' a (.ndc kvs)) } δ (up S a (.fzn od es kvs)) := Iff.rfl
end Sb
namespace Sb
open PySem PySem.Spec L2
/-- a method of a class -/
structure DefM (K : PySem.W.Frag) (C : Addr) (m qual : Str) (st : Stmt) : Prop where
  ex : ∃ f fd, Fun K m qual st f fd ∧ Meth K C m f
end Sb

/-! Names as texts; fields by name. -/
namespace Sb
open PySem PySem.Spec L2
theorem toNat_inj : ∀ {a b : List Char}, a.map Char.toNat = b.map Char.toNat → a = b
  | [], [], _ => rfl
  | [], _ :: _, h => by simp at h
  | _ :: _, [], h => by simp at h
  | x :: a, y :: b, h => by
    simp only [List.map_cons, List.cons.injEq] at h
    rw [Char.toNat_inj.mp h.1, toNat_inj h.2]
@[simp] theorem ofStr_inj {a b : String} : (Str.ofString a = Str.ofString b) ↔ a = b := by
  refine ⟨fun h => ?_, fun h => by rw [h]⟩
  rw [PySem.Str.ofString_eq_toList, PySem.Str.ofString_eq_toList] at h
  simp only [Str.mk.injEq] at h
  have := congrArg Array.toList h
  simp only at this
  have := toNat_inj this
  exact String.toList_inj.mp this
@[simp] theorem lookup_str {α : Type} (f n : Str) (x : α) (fs : List (Str × α)) : List.lookup f ((n, x) :: fs) = if f = n then some x else List.lookup f fs := by
  rw [List.lookup_cons]
  by_cases h : f = n
  · rw [if_pos h, show (f == n) = true from by rw [h]; exact beq_self_eq_true _]
  · rw [if_neg h, show (f == n) = false from by simpa using h]
@[simp] theorem fput_nil (f : Str) (d : Dv) : fput f d [] = [(f, d)] := rfl
@[simp] theorem fput_cons (f g : Str) (d x : Dv) (r : List (Str × Dv)) : fput f d ((g, x) :: r) = if g = f then (g, d) :: r else (g, x) :: fput f d r := rfl
@[simp] theorem up_ne3 {S : Store} {a b : Addr} {o : O} (h : a ≠ b) : up S a o b = S b := up_ne (Ne.symm h)
end Sb

/-! tuple * int over data. -/
namespace Sb
open PySem PySem.Spec L2
theorem Reps.repV {K : Kw} {H : Hp} {ds : List Dv} {xs : List V} (r : Reps K H ds xs) (k : Int) : Reps K H (repV ds k) (repV xs k) := by
  unfold Sb.repV
  generalize k.toNat = n
  induction n with
  | zero => exact .nil
  | succ n ih =>
    simp only [List.replicate_succ, List.flatten_cons]
    exact r.append ih
theorem repV_one {α : Type} (xs : List α) : repV xs 1 = xs := by
  show (List.replicate 1 xs).flatten = xs
  rw [List.replicate_one, List.flatten_cons, List.flatten_nil, List.append_nil]
theorem repV_nil {α : Type} (k : Int) : repV ([] : List α) k = [] := by
  unfold repV
  generalize k.toNat = n
  induction n with
  | zero => rfl
  | succ n ih => rw [List.replicate_succ, List.flatten_cons, ih]; rfl
theorem repV_map {α β : Type} (f : α → β) (xs : List α) (k : Int) : repV (xs.map f) k = (repV xs k).map f := by
  unfold repV
  generalize k.toNat = n
  induction n with
  | zero => rfl
  | succ n ih => rw [List.replicate_succ, List.replicate_succ, List.flatten_cons, List.flatten_cons, List.map_append, ih]
theorem repV_length {α : Type} (xs : List α) (k : Int) : (repV xs k).length = k.toNat * xs.length := by
  unfold repV
  generalize k.toNat = n
  induction n with
  | zero => simp
  | succ n ih => simp only [List.replicate_succ, List.flatten_cons, List.length_append, ih]; rw [Nat.succ_mul]; omega
theorem repV_mem {α : Type} {xs : List α} {k : Int} {x : α} (h : x ∈ repV xs k) : x ∈ xs := by
  unfold repV at h
  obtain ⟨l, hl, hx⟩ := List.mem_flatten.mp h
  rw [(List.mem_replicate.mp hl).2] at hx
  exact hx
@[simp] def gMulT : G2 := fun d e S P => match d, e with
  | .tup ds, .int k => (0 ≤ k ∧ k ≤ 1000) ∧ ds.length ≤ 1000 ∧ P (.tup (repV ds k)) S
  | _, _ => False
theorem o_mulT {X : Cx} : OpG X (binaryOp .Mult) gMulT := ⟨_, op_repN, fun d e S P q v u H Q r rv ru hp => by
  unfold gMulT at q
  split at q
  · rename_i ds k
    obtain ⟨⟨k0, k1⟩, hl, q⟩ := q
    obtain ⟨a, xs, rfl, hq, rs⟩ := rep_tup.mp rv
    refine ⟨a, k, xs, rfl, rep_int.mp ru, hq.t, k0, k1, by rw [rs.length]; exact hl, fun h => ?_, fun _ _ => hp.tup r (rs.repV k) q⟩
    refine hp _ _ q _ _ .refl r (rep_tup.mpr ⟨a, xs, rfl, hq, ?_⟩)
    rcases h with h | h
    · subst h
      have : ds = [] := List.eq_nil_of_length_eq_zero rs.length.symm
      subst this
      rw [repV_nil]; exact .nil
    · subst h; rw [repV_one]; exact rs
  · exact q.elim⟩
end Sb

/-! zip over data. -/
namespace Sb
open PySem PySem.Spec L2
@[simp] def isT : Dv → Bool
  | .tup _ => true
  | _ => false
theorem sq_q {K : Kw} {S : Store} {H : Hp} {d : Dv} {v : V} {ds : List Dv} (r : Rel K S H) (e : sq S d = some ds) (p : Rep K H d v) : ∃ a xs, v = .ref a ∧ QX (isT d) K.k H a xs ∧ Reps K H ds xs := by
  cases d with
  | tup ds' => simp only [sq, Option.some.injEq] at e; subst e; obtain ⟨a, xs, rfl, q, rs⟩ := rep_tup.mp p; exact ⟨a, xs, rfl, q.t, rs⟩
  | ref a =>
    simp only [sq] at e
    split at e
    · rename_i ds' e0; simp only [Option.some.injEq] at e; subst e
      obtain ⟨xs, h, rs⟩ := r.lst e0
      exact ⟨a, xs, rep_ref.mp p, .of h, rs⟩
    · cases e
  | scr ns => simp only [sq, Option.some.injEq] at e; subst e; obtain ⟨a, rfl, q⟩ := rep_scr.mp p; exact ⟨a, _, rfl, q.l, Reps.ints ns⟩
  | _ => simp [sq] at e
@[simp] def dIZ (ta : DTA) : DTI := fun δ S P => ta δ S fun ds S1 => match ds with
  | [d, e] => (match sq S1 d, sq S1 e with
    | some xs, some ys => P ((xs.zip ys).map fun p => Dv.tup [p.1, p.2]) (fun S => sq S d = some xs ∧ sq S e = some ys) S1
    | _, _ => False)
  | _ => False
theorem serves_zip {K : Kw} {H1 : Hp} {d e : Dv} {a c : Addr} {xs ys : List Dv} (b : Bool) (hb : b = true → xs.length = ys.length) (p1 : Rep K H1 d (.ref a)) (p2 : Rep K H1 e (.ref c)) :
    Serves K H1 (ItzB b (isT d) (isT e) K.k a c) ((xs.zip ys).map fun p => Dv.tup [p.1, p.2]) (fun S => sq S d = some xs ∧ sq S e = some ys) := fun i S2 H2 k2 r2 g => by
  obtain ⟨a', vs, ea, q1, rs1⟩ := sq_q r2 g.1 (p1.keep k2)
  obtain ⟨c', us, ec, q2, rs2⟩ := sq_q r2 g.2 (p2.keep k2)
  cases ea
  cases ec
  refine ⟨fun z => ⟨vs, us, q1, q2, ?_⟩, fun x hx => ?_⟩
  · simp only [List.length_map, List.length_zip] at z
    rw [rs1.length, rs2.length]
    cases b with
    | false => exact .inl ⟨rfl, by omega⟩
    | true => have := hb rfl; exact .inr ⟨by omega, by omega⟩
  · rw [List.getElem?_map] at hx
    obtain ⟨p, hp, rfl⟩ := Option.map_eq_some_iff.mp hx
    rw [List.getElem?_zip_eq_some] at hp
    obtain ⟨v, ev, rv⟩ := rs1.get hp.1
    obtain ⟨u, eu, ru⟩ := rs2.get hp.2
    refine ⟨⟨vs, us, v, u, q1, q2, ev, eu⟩, fun y H' yl => ?_⟩
    obtain ⟨T, v', u', ob, rfl, hT, hob, rfl, f1, f2⟩ := yl
    have h1 := f1 vs q1
    have h2 := f2 us q2
    rw [ev] at h1; cases h1
    rw [eu] at h2; cases h2
    exact ⟨.new hT, r2.new hT, rep_new_tup hob hT (.cons rv (.cons ru .nil))⟩
section
variable {X : Cx} {H0 : Hp} {e e2 : Expr} {p pos tpos : Pos} {elts : List Expr} {kk : Nat} {ta : DTA}
theorem di_zip (hg : Gl X "zip") (hm : X.mg "zip" = none) (ha : DA X H0 [e, e2] ta) (hs : starEach [e, e2] X.env = (false, eval e X.env) :: starEach [e2] X.env := by rfl) (hpl : (backTo pos (starEach [e2] X.env)).any (·.1) = false := by rfl) :
    DI X H0 (.Tuple elts kk tpos) (.Call (.Name "zip" p) [e, e2] [] pos) (dIZ ta) := (pi_zipB hg hm ha hs hpl).to fun σ H R h => by
  obtain ⟨δ, S, P, w, ht, hp⟩ := h
  refine ⟨δ, S, _, w, ht, fun ds S1 q vs H1 k1 r1 p1 => ?_⟩
  split at q
  · rename_i d e
    obtain ⟨v, u, rfl, rv, ru⟩ := reps2 p1
    split at q
    · rename_i xs ys e1 e2
      obtain ⟨a, vs, rfl, q1, rs1⟩ := sq_q r1 e1 rv
      obtain ⟨c, us, rfl, q2, rs2⟩ := sq_q r1 e2 ru
      exact ⟨a, c, vs, us, isT d, isT e, rfl, q1, q2, hp _ _ _ q _ _ k1 r1 (serves_zip false (fun z => nomatch z) rv ru)⟩
    · exact q.elim
  · exact q.elim
end
end Sb

/-! l.index(x); repr of truth values. -/
namespace Sb
open PySem PySem.Spec L2
theorem toPs_map : ∀ ds : List Dv, toPs ds = ds.map toP
  | [] => rfl
  | d :: ds => by simp only [toPs, List.map_cons, toPs_map ds]
theorem plains_mem : ∀ {ds : List Dv} {d : Dv}, plains ds = true → d ∈ ds → plain d = true
  | e :: es, d, h, hm => by
    simp only [plains, Bool.and_eq_true] at h
    rcases List.mem_cons.mp hm with rfl | q
    · exact h.1
    · exact plains_mem h.2 q
theorem plains_all {ds : List Dv} (h : ∀ d ∈ ds, plain d = true) : plains ds = true := by
  induction ds with
  | nil => rfl
  | cons d ds ih => simp only [plains, h d (by simp), ih fun e he => h e (by simp [he]), Bool.and_self]
theorem deps_le {ds : List Dv} {n : Nat} (h : ∀ d ∈ ds, dep d ≤ n) : deps ds ≤ n := by
  induction ds with
  | nil => exact Nat.zero_le _
  | cons d ds ih => simp only [deps]; have := h d (by simp); have := ih fun e he => h e (by simp [he]); omega
def gIndexL : GM := fun d xs S P => match d, xs with
  | .ref a, [x] => ∃ ds, S a = some (.lst ds) ∧ plains ds = true ∧ deps ds ≤ 63 ∧ plain x = true ∧ dep x ≤ 63 ∧ x ∈ ds ∧ ∀ j : Nat, ds[j]? = some x → (∀ i, i < j → ds[i]? ≠ some x) → P (.int j) S
  | _, _ => False
theorem first_at : ∀ {ds : List Dv} {x : Dv}, x ∈ ds → ∃ j : Nat, ds[j]? = some x ∧ ∀ i, i < j → ds[i]? ≠ some x
  | d :: ds, x, h => by
    by_cases e : d = x
    · exact ⟨0, by simp [e], fun i hi => absurd hi (by omega)⟩
    · have hm : x ∈ ds := by
        rcases List.mem_cons.mp h with q | q
        · exact absurd q.symm e
        · exact q
      obtain ⟨j, h1, h2⟩ := first_at hm
      refine ⟨j + 1, by simpa using h1, fun i hi => ?_⟩
      cases i with
      | zero => simpa using e
      | succ i => simpa using h2 i (by omega)
theorem mg_indexL {X : Cx} (hu : X.A.units + 65 < cLine) : MtG X "list" "list.index" isL gIndexL where
  tyv := fun _ _ _ _ => isL_ty
  ex := ⟨_, mt_indexD hu, fun d xs S P q x vs H Q r p ps hp => by
    unfold gIndexL at q
    split at q
    · rename_i a y
      obtain ⟨ds, e, h1, h2, h3, h4, hm, q⟩ := q
      obtain ⟨v, rfl, rv⟩ := reps1 ps
      obtain ⟨j, hj, hn⟩ := first_at hm
      have hl := dp_dat r (dat_list e h1) p
      have hy := dp_dat r (dat_plain (S := S) h3) rv
      refine ⟨a, v, toP y, toPs ds, j, toP y, rep_ref.mp p, rfl, by rw [← rep_ref.mp p]; exact hl, hy, sh_list h1 h2, shaped_plain h3 (by omega), by rw [toPs_map, List.getElem?_map, hj]; rfl, (eqv_plain y y h3 h3).mpr rfl, fun m z hlt hz => ?_, hp _ _ (q j hj hn) _ _ .refl r (rep_int.mpr rfl)⟩
      rw [toPs_map, List.getElem?_map] at hz
      obtain ⟨w, hw, rfl⟩ := Option.map_eq_some_iff.mp hz
      have hp := plains_mem h1 (List.mem_of_getElem? hw)
      cases hb : PyData.eqv (toP w) (toP y) with
      | false => rfl
      | true =>
        have := (eqv_plain w y hp h3).mp hb
        subst this
        exact absurd hw (hn m hlt)
    · exact q.elim⟩
@[simp] theorem gRepr_bl {b : Bool} {S : Store} {P : DK} : gRepr [.bl b] S P ↔ P (.str (PyData.bool b).shown) S := by
  simp only [gRepr, dat, datE]
  cases b
  · exact ⟨fun q => q.2.2.2, fun q => ⟨by decide, by decide, by simp only [PyData.shown]; decide, q⟩⟩
  · exact ⟨fun q => q.2.2.2, fun q => ⟨by decide, by decide, by simp only [PyData.shown]; decide, q⟩⟩
theorem shown_bl_inj {a b : Bool} : (PyData.bool a).shown = (PyData.bool b).shown ↔ a = b := by
  cases a <;> cases b <;> simp only [PyData.shown] <;> decide
end Sb

/-! Exceptions over data: raise, calls that may raise, try. -/
namespace Sb
open PySem PySem.Spec PyProof.Rows L2
/-- what is wanted of an exception that leaves, by the slots -/
def DTk (X : Cx) (H0 : Hp) (Pe : DSt → DX) : Prop := ∃ W : WX, Takes X W ∧ ∀ c od δ S, Pe δ c od S → ∀ σ H C, X.mg c = some (.ref C) → Wd X.kw H0 σ δ S H → W (.ref C) od σ H
theorem dtk_of {P : Program} {w : World} {K : PySem.W.Frag} {mg : Str → Option Value} {base : Heap} {N : List Str} {qual : Str} {sc : Scope} {f : Addr} {cdv : Value} {A : Around} {outer : List Env} {s : Shared} {H : Hp} {E : XK} {Pe : DX} (px : PX ⟨K, w, mg⟩ H Pe E) :
    DTk (cxOf (L2.CX P w) P w K mg base N qual sc f cdv A outer s H E) H (fun _ => Pe) :=
  ⟨fun cls d _ H => E cls d H, takes_of rfl rfl rfl rfl, fun c od δ S h σ H1 C m w => px c od S h C H1 m w.base w.rel⟩
section
variable {X : Cx} {H0 : Hp} {k j : Nat} {f : Addr} {fd : FuncData} {ps : List Str} {sp : DSp} {Pe : DSt → DX} {x : Str} {p pos apos : Pos} {e o : Expr} {es : List Expr} {ta : DTE} {t : DTA}
@[simp] def dCallS (sp : DSp) (Pe : DSt → DX) (t : DTA) : DTE := fun δ S P => t δ S fun ds S1 => sp ds S1 P (Pe δ)
theorem go_fnS {pins : List (Addr × Obj)} {σ : L2.St} {H : Hp} {s : Shared} {Q : VK} {us : List Value} {vs : List V} {ds : List Dv} {S : Store} {P : DK} {δ : DSt} (F : DFn X.prog X.w X.K X.mg X.base k f fd ps sp) (hgd : X.A.guards = some []) (hr : Room k X.A)
    (hb : L2.Binds X.K fd ps []) (tk : DTk X H0 Pe) (w : Wd X.kw H0 σ δ S H) (I : Inv X pins σ H s) (rv : Vals vs us) (rs : Reps X.kw H ds vs) (q : sp ds S P (Pe δ)) (pv : PV X.kw H P Q) :
    wpAny (model X.prog X.w) X.A (call (.ref f) us) (EP X pins σ Q) X.xe s := by
  obtain ⟨W, tkW, hW⟩ := tk
  have hl : (us ++ []).length = ps.length := by rw [List.append_nil, ← rv.length, rs.length]; exact F.len _ _ _ _ q
  have bnd := hb s us I.kIn hl
  rw [List.append_nil] at bnd
  refine wpAny_call (codeAny_mono (F.run (E := WE W σ) hgd hr I.env0 bnd rv w.rel rs q pv fun c od S1 h C H1 m k1 r1 => hW c od δ S1 h σ H1 C m (w.keep k1 r1)) fun r s1 hq => ?_)
  cases r with
  | error er => exact passAt tkW σ pins H s er s1 I hq
  | ok fl =>
    cases fl with
    | ret u => exact I.after hq
    | _ => exact (show False from hq).elim
/-- f(..), which may raise -/
theorem de_fnS (c : Cal X.prog X.w X.K X.mg X.base j x ps sp) (hgd : X.A.guards = some []) (hr : Room k X.A) (tk : DTk X H0 Pe) (ha : DA X H0 (e :: es) t) (hj : j ≤ k := by decide) (hg : Gl X x := by rfl) (hdb : (x == ("__debug__" : Str)) = false := by decide)
    (he : starEach (e :: es) X.env = (false, eval e X.env) :: starEach es X.env := by rfl) (hpl : (backTo pos (starEach es X.env)).any (·.1) = false := by rfl) : DE X H0 (.Call (.Name x p) (e :: es) [] pos) (dCallS sp Pe t) := by
  obtain ⟨f, fd, hm, hk, hb, F⟩ := c.ex
  refine ⟨fun pins s σ H Q I h => wpAny_Call_Name_kw (ld_glob I hg hm ?_ hdb)⟩
  obtain ⟨δ, S, P, w, ht, hp⟩ := h
  refine PySem.W.callWith_K (h₀ := X.base) I.ok.mod.kin hk (thn (ha.run pos pins s σ H (fun vs H1 => ∃ ds S1, Keep X.kw H H1 ∧ Rel X.kw S1 H1 ∧ Reps X.kw H1 ds vs ∧ sp ds S1 P (Pe δ)) I ⟨δ, S, _, w, ht, fun ds S1 q vs H1 k1 r1 p1 => ⟨ds, S1, k1, r1, p1, q⟩⟩) fun us s1 q => ?_) he hpl
  obtain ⟨vs, H1, I1, rv, ds, S1, k1, r1, p1, q⟩ := q
  exact ⟨I1.kIn, go_fnS F hgd (hr.mono hj) hb tk (w.keep k1 r1) I1 rv p1 q (hp.keep k1)⟩
@[simp] def dMethS (c m : Str) (sp : DSp) (Pe : DSt → DX) (ta : DTE) (t : DTA) : DTE := fun δ S P => ta δ S fun d S1 => isObj c m d S1 ∧ t δ S1 fun ds S2 => sp (d :: ds) S2 P (Pe δ)
theorem de_methS {c m : Str} {pl : Sem Bool} (cm : CalM X.prog X.w X.K X.mg X.base j c m ps sp) (hgd : X.A.guards = some []) (hr : Room k X.A) (tk : DTk X H0 Pe) (he : DE X H0 o ta) (ha : DA X H0 (e :: es) t) (hj : j ≤ k := by decide)
    (hst : starEach (e :: es) X.env = (false, eval e X.env) :: starEach es X.env := by rfl) (hpl : (backTo pos (starEach es X.env)).any (·.1) = false := by rfl)
    (ht : eval (.Call (.Attribute o m apos) (e :: es) [] pos) X.env = (do
      let ov ← eval o X.env
      standAt apos.atName
      let (f, first) ← holding [ov] (getMethod ov m pl)
      callWith pos f first (backTo pos (starEach (e :: es) X.env)) (backToKw pos (keywordEach [] X.env))) := by rfl) : DE X H0 (.Call (.Attribute o m apos) (e :: es) [] pos) (dMethS c m sp Pe ta t) := by
  obtain ⟨C, f, fd, kc, hm, hb, F⟩ := cm.ex
  refine ⟨fun pins s σ H Q I h => ?_⟩
  obtain ⟨δ, S, P, w, hto, hp⟩ := h
  refine PySem.W.methodCall_KW (pl := pl) (thn (he.run pins s σ H (fun x H1 => ∃ d S1, Keep X.kw H H1 ∧ Rel X.kw S1 H1 ∧ Rep X.kw H1 d x ∧ isObj c m d S1 ∧ t δ S1 fun ds S2 => sp (d :: ds) S2 P (Pe δ)) I ⟨δ, S, _, w, hto, fun d S1 q x H1 k1 r1 p1 => ⟨d, S1, k1, r1, p1, q⟩⟩) fun u s1 q => ?_) ht
  obtain ⟨x, H1, I1, rx, d, S1, k1, r1, p1, io, q⟩ := q
  obtain ⟨a, dx, ys, rfl, hx, l⟩ := obj_at kc io r1 p1
  obtain rfl : u = Value.ref a := rx
  refine getmeth_ok I1 hx kc.cls hm l ?_
  have w1 := w.keep k1 r1
  refine PySem.W.callWith_K (first := [.ref a]) (h₀ := X.base) I.ok.mod.kin hm.kp (thn (ha.run pos pins s1 σ H1 (fun vs H2 => ∃ ds S2, Keep X.kw H1 H2 ∧ Rel X.kw S2 H2 ∧ Reps X.kw H2 ds vs ∧ sp (d :: ds) S2 P (Pe δ)) I1 ⟨δ, S1, _, w1, q, fun ds S2 q2 vs H2 k2 r2 p2 => ⟨ds, S2, k2, r2, p2, q2⟩⟩) fun us s2 q => ?_) hst hpl
  obtain ⟨vs, H2, I2, rv, ds, S2, k2, r2, p2, q2⟩ := q
  exact ⟨I2.kIn, go_fnS (us := .ref a :: us) (vs := .ref a :: vs) F hgd (hr.mono hj) hb tk (w1.keep k2 r2) I2 (.cons rfl rv) (.cons (p1.keep k2) p2) q2 (hp.keep (k1.trans k2))⟩
end
/-! ### own exceptions -/
/-- the class x with the field f, made of values that are okv -/
structure ExcK (P : Program) (w : World) (K : PySem.W.Frag) (mg : Str → Option Value) (base : Heap) (x f : Str) (okv : V → Prop) : Prop where
  ex : ∃ (C fI : Addr) (fd : FuncData) (ps : List Str) (B newId initId : String) (bm : List Value), mg x = some (.ref C) ∧ XB B newId initId bm ∧ OxC K newId bm C ∧ PySem.W.findIn K (.ref C) "__init__" = some (some (.ref fI)) ∧
    PySem.W.typeIn K (.ref fI) = some (.type "function") ∧ L2.Binds K fd ps [] ∧ ps.length = 2 ∧ FnOk P w K mg base (L2.CX P w) 1 fI fd ps (spI f C okv) ∧ XfC K C ∧ PySem.W.findIn K (.ref C) f = some none
abbrev Exc (P : Program) (w : World) (K : PySem.W.Frag) (mg : Str → Option Value) (base : Heap) (x f : Str) : Prop := ExcK P w K mg base x f fun _ => True
def okI : V → Prop := fun y => ∃ i : Int, y = .int i ∧ i.natAbs.log2 < 1000
/-- what a handler finds: the classes ks, none a kind of another one -/
def XKn (K : PySem.W.Frag) (mg : Str → Option Value) (ks : List Str) : Prop := ∀ c ∈ ks, ∀ x ∈ ks, ∀ C Cx, mg c = some (.ref C) → mg x = some (.ref Cx) → PySem.W.exmOne K (.ref C) (.ref Cx) = some (decide (c = x))
section
variable {X : Cx} {H0 : Hp} {k : Nat} {Pe : DSt → DX} {x f : Str} {p pos pos2 : Pos} {e : Expr} {es : List Expr} {ta : DTE} {t : DTA}
/-- raise x(v) -/
@[simp] def dRaise (Pe : DSt → DX) (x f : Str) (t : DTA) : DTS := fun _ δ S => t δ S fun ds S1 => ∃ v, ds = [v] ∧ ∀ d, S1 d = none → Pe δ x (some d) (up S1 d (.xd [(f, v)]))
theorem ds_raise (xc : Exc X.prog X.w X.K X.mg X.base x f) (tk : DTk X H0 Pe) (hr : Room k X.A) (ha : DA X H0 (e :: es) t) (hk : 2 ≤ k := by decide) (hc : X.calm = true := by rfl) (hg : Gl X x := by rfl) (hdb : (x == ("__debug__" : Str)) = false := by decide)
    (he : starEach (e :: es) X.env = (false, eval e X.env) :: starEach es X.env := by rfl) (hpl : (backTo pos (starEach es X.env)).any (·.1) = false := by rfl) :
    DS X H0 (.Raise (some (.Call (.Name x p) (e :: es) [] pos)) none pos2) (dRaise Pe x f t) := by
  obtain ⟨C, fI, fd, ps, B, newId, initId, bm, m, Xb, T, iC, tI, hb, hps, F, _, _⟩ := xc.ex
  obtain ⟨W, tkW, hW⟩ := tk
  refine (ps_raise hc tkW (pmk_oxG Xb T iC tI F hps (hr.mono hk) hb hg m ha hdb he hpl)).to fun D σ H h => ?_
  obtain ⟨δ, S, D', w, ht, pd⟩ := h
  refine ⟨δ, S, _, w, ht, fun ds S1 q vs H1 k1 r1 p1 => ?_⟩
  obtain ⟨v, rfl, q⟩ := q
  obtain ⟨y, ys, rfl, ry, rn⟩ := p1.cons_inv
  cases rn.nil_inv
  refine ⟨y, rfl, trivial, fun d hd => ?_⟩
  have kn : Keep X.kw H1 (upd H1 d (.xd [(f, y)])) := .new hd
  have rl : Rel X.kw (up S1 d (.xd [(f, v)])) (upd H1 d (.xd [(f, y)])) := r1.laid hd fun own ow => ⟨ow, _, upd_same, rfl, .cons (ry.keep kn) .nil⟩
  exact hW x (some d) δ _ (q d (r1.free hd)) σ _ C m (w.keep (k1.trans kn) rl)
/-- raise x(i), i a whole number -/
@[simp] def dRaiseI (Pe : DSt → DX) (x f : Str) (t : DTA) : DTS := fun _ δ S => t δ S fun ds S1 => ∃ i : Int, ds = [.int i] ∧ i.natAbs.log2 < 1000 ∧ ∀ d, S1 d = none → Pe δ x (some d) (up S1 d (.xd [(f, .int i)]))
theorem ds_raiseI (xc : ExcK X.prog X.w X.K X.mg X.base x f okI) (tk : DTk X H0 Pe) (hr : Room k X.A) (ha : DA X H0 (e :: es) t) (hk : 2 ≤ k := by decide) (hc : X.calm = true := by rfl) (hg : Gl X x := by rfl) (hdb : (x == ("__debug__" : Str)) = false := by decide)
    (he : starEach (e :: es) X.env = (false, eval e X.env) :: starEach es X.env := by rfl) (hpl : (backTo pos (starEach es X.env)).any (·.1) = false := by rfl) :
    DS X H0 (.Raise (some (.Call (.Name x p) (e :: es) [] pos)) none pos2) (dRaiseI Pe x f t) := by
  obtain ⟨C, fI, fd, ps, B, newId, initId, bm, m, Xb, T, iC, tI, hb, hps, F, _, _⟩ := xc.ex
  obtain ⟨W, tkW, hW⟩ := tk
  refine (ps_raise hc tkW (pmk_oxG Xb T iC tI F hps (hr.mono hk) hb hg m ha hdb he hpl)).to fun D σ H h => ?_
  obtain ⟨δ, S, D', w, ht, pd⟩ := h
  refine ⟨δ, S, _, w, ht, fun ds S1 q vs H1 k1 r1 p1 => ?_⟩
  obtain ⟨i, rfl, hi, q⟩ := q
  obtain ⟨y, ys, rfl, ry, rn⟩ := p1.cons_inv
  cases rn.nil_inv
  refine ⟨y, rfl, ⟨i, rep_int.mp ry, hi⟩, fun d hd => ?_⟩
  have kn : Keep X.kw H1 (upd H1 d (.xd [(f, y)])) := .new hd
  have rl : Rel X.kw (up S1 d (.xd [(f, .int i)])) (upd H1 d (.xd [(f, y)])) := r1.laid hd fun own ow => ⟨ow, _, upd_same, rfl, .cons (ry.keep kn) .nil⟩
  exact hW x (some d) δ _ (q d (r1.free hd)) σ _ C m (w.keep (k1.trans kn) rl)
/-- err.f in the suite of the exception at a -/
@[simp] def dXf (a : Addr) (od : Option Addr) (f : Str) (te : DTE) : DTE := fun δ S P => te δ S fun x S1 => x = .ref a ∧ (match od with
  | some d => (match S1 d with
    | some (.xd fs) => (match fs.lookup f with | some v => P v S1 | none => False)
    | _ => False)
  | none => False)
theorem de_xf {okv : V → Prop} {a : Addr} {oe : Obj} {od : Option Addr} {pn : List (Addr × Obj)} {te : DTE} {C : Addr} (xc : ExcK X.prog X.w X.K X.mg X.base x f okv) (hm : X.mg x = some (.ref C)) (hz : Zc (.ref C) od oe) (hf : ∃ vs, oe.data = .fields vs)
    (he : DE (X.suite a ((a, oe) :: pn)) H0 e te) (hb : attributeBase e f X.env (eval e X.env) = eval e X.env := by rfl) : DE (X.suite a ((a, oe) :: pn)) H0 (.Attribute e f pos) (dXf a od f te) := by
  obtain ⟨C', fI, fd, ps, B, newId, initId, bm, m, _, _, _, _, _, _, _, T, hno⟩ := xc.ex
  rw [hm] at m; cases m
  refine (pe_xf T hno hz hf he hb).to fun σ H Q h => ?_
  obtain ⟨δ, S, P, w, ht, hp⟩ := h
  refine ⟨δ, S, _, w, ht, fun d S1 q v H1 k1 r1 p1 => ?_⟩
  obtain ⟨rfl, q⟩ := q
  refine ⟨rep_ref.mp p1, rfl, ?_⟩
  split at q
  · rename_i dd
    split at q
    · rename_i fs e0
      split at q
      · rename_i v0 hv
        obtain ⟨own, _, ys, e1, hn⟩ := r1.get e0
        obtain ⟨y, hy, ry⟩ := named_get hn hv
        exact ⟨dd, ys, y, rfl, e1, hy, hp _ _ q _ _ k1 r1 ry⟩
      · exact q.elim
    · exact q.elim
  · exact q.elim
end
/-! ### try -/
/-- a handler: the class by name, the slot of the name, the suite -/
structure DH where
  c : Str
  i : Option Nat
  t : Addr → Option Addr → DTS
@[simp] def goneD (D : DEnds) : Option Nat → DEnds
  | none => D
  | some i => { nx := fun δ S => D.nx (δ.set i none) S, rt := D.rt, bk := fun δ S => D.bk (δ.set i none) S, ct := fun δ S => D.ct (δ.set i none) S }
@[simp] def putD (δ : DSt) (a : Addr) : Option Nat → DSt
  | none => δ
  | some i => δ.set i (some (.ref a))
@[simp] def dHs (ks : List Str) (Pe : DSt → DX) (D : DEnds) : List DH → DSt → DX
  | [] => fun δ c od S => Pe δ c od S
  | h :: r => fun δ c od S => c ∈ ks ∧ (c = h.c → ∀ a, S a = none → h.t a od (goneD D h.i) (putD δ a h.i) S) ∧ (c ≠ h.c → dHs ks Pe D r δ c od S)
@[simp] def dTry (ks : List Str) (tb : (DSt → DX) → DTS) (l : List DH) (Pe : DSt → DX) : DTS := fun D δ S => tb (dHs ks Pe D l) D δ S
inductive HdsD (X : Cx) (H0 : Hp) (ks : List Str) : List ExceptHandler → List DH → Prop
  | nil : HdsD X H0 ks [] []
  | bare {x : Str} {C : Addr} {t : Addr → Option Addr → DTS} {b₀ : Stmt} {bs : List Stmt} {np hp : Pos} {hds : List ExceptHandler} {l : List DH} (hm : X.mg x = some (.ref C)) (hx : x ∈ ks) (hg : Gl X x) (hdb : (x == ("__debug__" : Str)) = false)
      (su : ∀ (a : Addr) (oe : Obj) (od : Option Addr) (pn : List (Addr × Obj)), Zc (.ref C) od oe → (∃ vs, oe.data = .fields vs) → DSs (X.suite a ((a, oe) :: pn)) H0 (b₀ :: bs) (t a od)) (r : HdsD X H0 ks hds l) :
      HdsD X H0 ks (.ExceptHandler (some (.Name x np)) none (b₀ :: bs) hp :: hds) (⟨x, none, t⟩ :: l)
  | named {x n : Str} {i : Nat} {C : Addr} {t : Addr → Option Addr → DTS} {b₀ : Stmt} {bs : List Stmt} {np hp : Pos} {hds : List ExceptHandler} {l : List DH} (hm : X.mg x = some (.ref C)) (hx : x ∈ ks) (hg : Gl X x) (hdb : (x == ("__debug__" : Str)) = false)
      (hi : X.N[i]? = some n) (hln : X.env.kindOf n = some .local)
      (su : ∀ (a : Addr) (oe : Obj) (od : Option Addr) (pn : List (Addr × Obj)), Zc (.ref C) od oe → (∃ vs, oe.data = .fields vs) → DSs (X.suite a ((a, oe) :: pn)) H0 (b₀ :: bs) (t a od)) (r : HdsD X H0 ks hds l) :
      HdsD X H0 ks (.ExceptHandler (some (.Name x np)) (some n) (b₀ :: bs) hp :: hds) (⟨x, some i, t⟩ :: l)
theorem Wd.unset {K : Kw} {H0 : Hp} {σ : L2.St} {δ : DSt} {S : Store} {H : Hp} {i : Nat} (w : Wd K H0 σ δ S H) : Wd K H0 (σ.set i none) (δ.set i none) S H := by
  refine ⟨w.base, w.rel, by simp [w.len], fun j d he => ?_⟩
  by_cases hj : j = i
  · subst hj
    rw [List.getElem?_set] at he
    split at he
    · split at he <;> cases he
    · rename_i z; exact absurd rfl z
  · rw [List.getElem?_set_ne (Ne.symm hj)] at he ⊢
    exact w.slot j d he
theorem PD.gone {K : Kw} {H0 H : Hp} {D' : DEnds} {D : Ends} {i : Option Nat} (h : PD K H0 H D' D) : PD K H0 H (goneD D' i) (goneE D i) := by
  cases i with
  | none => exact h
  | some i => exact ⟨fun δ S p σ H1 k w => h.nx _ S p _ H1 k w.unset, fun δ S p σ H1 k w => h.bk _ S p _ H1 k w.unset, fun δ S p σ H1 k w => h.ct _ S p _ H1 k w.unset, h.rt⟩
theorem HdsD.g {X : Cx} {H0 : Hp} {ks : List Str} {Pe : DSt → DX} {W : WX} {hds : List ExceptHandler} {l : List DH} (kn : XKn X.K X.mg ks) (hW : ∀ c od δ S, Pe δ c od S → ∀ σ H C, X.mg c = some (.ref C) → Wd X.kw H0 σ δ S H → W (.ref C) od σ H) (h : HdsD X H0 ks hds l) :
    ∃ l', HdsG X hds l' ∧ ∀ (D : Ends) (D' : DEnds) c od δ S σ H C, dHs ks Pe D' l δ c od S → X.mg c = some (.ref C) → Wd X.kw H0 σ δ S H → PD X.kw H0 H D' D → wG X.K W D l' (.ref C) od σ H := by
  have suite : ∀ {C : Addr} {t : Addr → Option Addr → DTS} {b₀ : Stmt} {bs : List Stmt}, (∀ (a : Addr) (oe : Obj) (od : Option Addr) (pn : List (Addr × Obj)), Zc (.ref C) od oe → (∃ vs, oe.data = .fields vs) → DSs (X.suite a ((a, oe) :: pn)) H0 (b₀ :: bs) (t a od)) →
      ∀ (a : Addr) (oe : Obj) (cls : Value) (d : Option Addr) (pn : List (Addr × Obj)), Zc cls d oe → (∃ vs, oe.data = .fields vs) → PSs (X.suite a ((a, oe) :: pn)) (b₀ :: bs) (fun D σ H => cls = .ref C ∧ liftS X.kw H0 (t a d) D σ H) := fun su a oe cls d pn hz hd => ⟨fun pins s σ H D I h => by
    obtain ⟨rfl, h⟩ := h
    exact (su a oe d pn hz hd).run pins s σ H D I h⟩
  induction h with
  | nil => exact ⟨[], .nil, fun D D' c od δ S σ H C q m w pd => hW c od δ S q σ H C m w⟩
  | @bare x Cx t b₀ bs np hp hds l hm hx hg hdb su r ih =>
    obtain ⟨l', g, go⟩ := ih
    refine ⟨_, .bare ⟨hg, hdb, .inl hm⟩ (suite su) g, fun D D' c od δ S σ H C q m w pd => ⟨_, kn c q.1 x hx C Cx m hm, fun yes a na => ?_, fun no => ?_⟩⟩
    · have e := of_decide_eq_true yes
      subst e
      rw [hm] at m; cases m
      exact ⟨rfl, δ, S, _, w, q.2.1 rfl a (w.rel.free na), pd⟩
    · exact go D D' c od δ S σ H C (q.2.2 (of_decide_eq_false no)) m w pd
  | @named x n i Cx t b₀ bs np hp hds l hm hx hg hdb hi hln su r ih =>
    obtain ⟨l', g, go⟩ := ih
    refine ⟨_, .named ⟨hg, hdb, .inl hm⟩ hi hln (suite su) g, fun D D' c od δ S σ H C q m w pd => ⟨_, kn c q.1 x hx C Cx m hm, fun yes a na => ?_, fun no => ?_⟩⟩
    · have e := of_decide_eq_true yes
      subst e
      rw [hm] at m; cases m
      exact ⟨rfl, _, S, _, w.set (rep_ref.mpr rfl), q.2.1 rfl a (w.rel.free na), pd.gone (i := some i)⟩
    · exact go D D' c od δ S σ H C (q.2.2 (of_decide_eq_false no)) m w pd
theorem ds_try {X : Cx} {H0 : Hp} {ks : List Str} {Pe : DSt → DX} {body : List Stmt} {h₀ : ExceptHandler} {hds : List ExceptHandler} {l : List DH} {tb : (DSt → DX) → DTS} {pos : Pos} (tk : DTk X H0 Pe) (kn : XKn X.K X.mg ks) (hN : X.N.Nodup)
    (hb : ∀ (H1 : Hp) (Pe2 : DSt → DX) (pn : List (Addr × Obj)) (xe : Value → Shared → Prop), DTk (X.tr pn xe) H1 Pe2 → PassesOwn (model X.prog X.w) X.A X.env xe → DSs (X.tr pn xe) H1 body (tb Pe2)) (hh : HdsD X H0 ks (h₀ :: hds) l)
    (hs : X.stack = X.env :: X.outer := by rfl) (hf : X.env.frame = some X.env.locals := by rfl) : DS X H0 (.Try body (h₀ :: hds) [] [] pos) (dTry ks tb l Pe) := by
  obtain ⟨W, tkW, hW⟩ := tk
  obtain ⟨l', hg, go⟩ := hh.g kn hW
  refine (ps_tryG (l := l') (tb := fun V D σ H => ∃ Pe2 D' δ S, tb Pe2 D' δ S ∧ Wd X.kw H σ δ S H ∧ PD X.kw H H D' D ∧ ∀ c od δ S, Pe2 δ c od S → ∀ σ1 H1 C, X.mg c = some (.ref C) → Wd X.kw H σ1 δ S H1 → V (.ref C) od σ1 H1) hs hf hN tkW (fun V pn xe tkV po => ⟨fun pins s σ H D I h => ?_⟩) hg).to fun D σ H h => ?_
  · obtain ⟨Pe2, D', δ, S, ht, wd, pd, cond⟩ := h
    exact (hb H Pe2 pn xe ⟨V, tkV, cond⟩ po).run pins s σ H D I ⟨δ, S, D', wd, ht, pd⟩
  · obtain ⟨δ, S, D', w, ht, pd⟩ := h
    have lift : ∀ {σ1 : L2.St} {δ1 : DSt} {S1 : Store} {H1 : Hp}, Wd X.kw H σ1 δ1 S1 H1 → Wd X.kw H0 σ1 δ1 S1 H1 := fun w1 => ⟨w.base.trans w1.base, w1.rel, w1.len, w1.slot⟩
    exact ⟨_, D', δ, S, ht, ⟨.refl, w.rel, w.len, w.slot⟩, ⟨fun δ1 S1 q σ1 H1 k1 w1 => pd.nx δ1 S1 q σ1 H1 k1 (lift w1), fun δ1 S1 q σ1 H1 k1 w1 => pd.bk δ1 S1 q σ1 H1 k1 (lift w1), fun δ1 S1 q σ1 H1 k1 w1 => pd.ct δ1 S1 q σ1 H1 k1 (lift w1), pd.rt⟩,
      fun c od δ1 S1 q σ1 H1 C m w1 => go D D' c od δ1 S1 σ1 H1 C q m (lift w1) (pd.keep w1.base)⟩
/-- the shape of the class C over these ones -/
def oxS (C : Addr) (cd : ClassData) (sl : Array (Option Value)) (newId : String) (bm : List Value) : Bool :=
  match cd.mro, sl.toList with
    | .ref C' :: bm', [_, _, _, _, some (.builtin n), _] => decide (C' = C) && (decide (n = newId) && (!cd.hasDel && (cd.hasDict && decide (bm' = bm))))
    | _, _ => false
theorem oxS_ok {K : PySem.W.Frag} {C : Addr} {newId : String} {bm : List Value} {od : Option Addr} {cd : ClassData} {slots : Array (Option Value)} (look : K.lookup C = some ⟨.type "type", od, .cls cd, slots⟩) (hc : oxS C cd slots newId bm = true)
    (h1 : PySem.W.findIn K (.ref C) "__setattr__" = some (some (.builtin "object.__setattr__"))) (h2 : PySem.W.subIn K (.ref C) (.type "BaseException") = some true) (h3 : PySem.W.typeIn K (.ref C) = some (.type "type")) (h4 : PySem.W.keepIn K (.ref C) = true) : OxC K newId bm C := by
  refine ⟨?_, h1, h2, h3, h4⟩
  unfold oxS at hc
  split at hc
  · rename_i C' tl a0 a1 a2 a3 nw a5 em es
    simp only [Bool.and_eq_true, decide_eq_true_eq, Bool.not_eq_true'] at hc
    obtain ⟨rfl, rfl, nodel, wd, rfl⟩ := hc
    obtain ⟨cn, cb, cm, cns, cq, cdict, csn, csub, cab, ccol, cdel⟩ := cd
    dsimp only at em nodel wd
    subst em nodel wd
    obtain ⟨sl⟩ := slots
    dsimp only at es
    subst es
    exact ⟨cn, cq, cns, cb, csn, csub, cab, ccol, od, a0, a1, a2, a3, a5, look⟩
  · cases hc
end Sb

/-! Values of any depth, with lists and empty dicts inside: repr; a tuple that is not (). -/
namespace Sb
open PySem PySem.Spec PyProof.Rows L2
mutual
inductive Dpx (K : Kw) (H : Hp) : V → PyData → Prop
  | non : Dpx K H .non .none
  | bl (b : Bool) : Dpx K H (.bl b) (.bool b)
  | int (i : Int) : Dpx K H (.int i) (.int i)
  | str (x : Str) : Dpx K H (.str x) (.str x)
  | lst {a : Addr} {xs : List V} {ds : List PyData} : SqL K H a xs → Dpxs K H xs ds → Dpx K H (.ref a) (.list ds)
  | tup {a : Addr} {xs : List V} {ds : List PyData} : SqT K H a xs → Dpxs K H xs ds → Dpx K H (.ref a) (.tuple ds)
  | dct {a : Addr} : H a = some (.dK []) → Dpx K H (.ref a) (.dict [])
  | ndc {a : Addr} {es : NL V V} {kvs : List (PyData × PyData)} : H a = some (NdO K.w a es) → Dpxs K H (es.map fun e => e.2.1) (kvs.map fun p => p.1) → Dpxs K H (es.map fun e => e.2.2) (kvs.map fun p => p.2) → Dpx K H (.ref a) (.dict kvs)
inductive Dpxs (K : Kw) (H : Hp) : List V → List PyData → Prop
  | nil : Dpxs K H [] []
  | cons {v : V} {vs : List V} {d : PyData} {ds : List PyData} : Dpx K H v d → Dpxs K H vs ds → Dpxs K H (v :: vs) (d :: ds)
end
theorem ent_vals : ∀ {es : NL V V} {xs : NL Value Value}, Paired EntR es xs → Vals (es.map fun e => e.2.1) (xs.map fun e => e.2.1) ∧ Vals (es.map fun e => e.2.2) (xs.map fun e => e.2.2)
  | [], _, p => by cases p; exact ⟨.nil, .nil⟩
  | _ :: _, _, p => by
    cases p with
    | cons a b => obtain ⟨h1, h2⟩ := ent_vals b; exact ⟨.cons a.2.1 h1, .cons a.2.2 h2⟩
section
variable {X : Cx} {pins : List (Addr × Obj)} {σ : L2.St} {H : Hp} {s : Shared}
mutual
theorem Dpx.rx (I : Inv X pins σ H s) : ∀ {v : V} {d : PyData} {u : Value}, Dpx X.kw H v d → RelV v u → ∃ l, RX s.heap u d l
  | _, _, _, .non, r => by cases r; exact ⟨_, .non⟩
  | _, _, _, .bl b, r => by cases r; exact ⟨_, .bl b⟩
  | _, _, _, .int i, r => by obtain ⟨t, rfl⟩ := r; exact ⟨_, .int i t⟩
  | _, _, _, .str x, r => by obtain ⟨t, rfl⟩ := r; exact ⟨_, .str x t⟩
  | _, _, _, .lst q ds, r => by
    cases r
    obtain ⟨its, rv, ⟨o, n, ho, hc, _, hd⟩, _⟩ := I.list q
    obtain ⟨l, rs⟩ := Dpxs.rx I ds rv
    exact ⟨_, .lst ho hc hd rs⟩
  | _, _, _, .tup q ds, r => by
    cases r
    obtain ⟨its, rv, ⟨o, ho, hc, n, hd⟩, _⟩ := I.tuple q
    obtain ⟨l, rs⟩ := Dpxs.rx I ds rv
    exact ⟨_, .tup ho hc hd rs⟩
  | _, _, _, .dct (a := a) q, r => by
    cases r
    obtain ⟨_, ns, vs, rv, o, es, ep, ho, ex, hd, _, prs, _⟩ := (show ObjOk X.prog X.w H s.heap a (.dK []) from I.hok a _ q)
    cases rv
    obtain ⟨es⟩ := es
    cases (show Pairs (mixKind X.prog X.w) es [] from prs)
    exact ⟨_, .dct (kvs := []) ho ex.1 hd ns .nil .nil⟩
  | _, _, _, .ndc (a := a) (es := es) q ks vs, r => by
    cases r
    obtain ⟨xs, ⟨h1, _, ⟨o, arr, ep, ho, ex, hd, he⟩, _⟩, p⟩ := (show ObjOk X.prog X.w H s.heap a (NdO X.w a es) from I.hok a _ q).1
    obtain ⟨v1, v2⟩ := ent_vals p
    obtain ⟨l, r1⟩ := Dpxs.rx I ks v1
    obtain ⟨m, r2⟩ := Dpxs.rx I vs v2
    have e1 : (arr.toList.map fun e => e.key) = xs.map fun e => e.2.1 := by rw [he, List.map_map]; rfl
    have e2 : (arr.toList.map fun e => e.val) = xs.map fun e => e.2.2 := by rw [he, List.map_map]; rfl
    exact ⟨_, .dct ho ex.1 hd h1 (by rw [e1]; exact r1) (by rw [e2]; exact r2)⟩
theorem Dpxs.rx (I : Inv X pins σ H s) : ∀ {vs : List V} {ds : List PyData} {us : List Value}, Dpxs X.kw H vs ds → Vals vs us → ∃ l, RXs s.heap us ds l
  | _, _, _, .nil, r => by cases r; exact ⟨_, .nil⟩
  | _, _, _, .cons q qs, r => by
    cases r with
    | cons r1 r2 =>
      obtain ⟨l, h1⟩ := Dpx.rx I q r1
      obtain ⟨m, h2⟩ := Dpxs.rx I qs r2
      exact ⟨_, .cons h1 h2⟩
end
end
/-! ### over data -/
def resX (S : Store) : Nat → Addr → Option PyData
  | 0, _ => none
  | n + 1, a => match S a with
    | some (.lst ds) => (datEs (resX S n) ds).map .list
    | some (.dct []) => some (.dict [])
    | some (.ndc kvs) => (datEs (resX S n) (kvs.map fun p => p.1)).bind fun ks => (datEs (resX S n) (kvs.map fun p => p.2)).map fun vs => .dict (ks.zip vs)
    | _ => none
def datX (S : Store) (d : Dv) : Option PyData := datE (resX S 6) d
section
variable {K : Kw} {S : Store} {H : Hp}
theorem dpxs_ints : ∀ ns : List Int, Dpxs K H (ns.map V.int) (ns.map PyData.int)
  | [] => .nil
  | n :: ns => .cons (.int n) (dpxs_ints ns)
mutual
theorem dpx_of {f : Addr → Option PyData} (hf : ∀ a x, f a = some x → Dpx K H (.ref a) x) : ∀ (d : Dv) (v : V) (x : PyData), datE f d = some x → Rep K H d v → Dpx K H v x
  | .non, v, x, e, r => by cases (show some PyData.none = some x from e); rw [rep_non.mp r]; exact .non
  | .bl b, v, x, e, r => by cases (show some (PyData.bool b) = some x from e); rw [rep_bl.mp r]; exact .bl b
  | .int b, v, x, e, r => by cases (show some (PyData.int b) = some x from e); rw [rep_int.mp r]; exact .int b
  | .str b, v, x, e, r => by cases (show some (PyData.str b) = some x from e); rw [rep_str.mp r]; exact .str b
  | .ty n, v, x, e, r => by cases (show none = some x from e)
  | .ref a, v, x, e, r => by rw [rep_ref.mp r]; exact hf a x e
  | .scr ns, v, x, e, r => by
    cases (show some (PyData.list (ns.map .int)) = some x from e)
    obtain ⟨a, rfl, q⟩ := rep_scr.mp r
    exact .lst q.l (dpxs_ints ns)
  | .tup ds, v, x, e, r => by
    obtain ⟨xs, q1, rfl⟩ := Option.map_eq_some_iff.mp (show (datEs f ds).map PyData.tuple = some x from e)
    obtain ⟨a, ys, rfl, q, rs⟩ := rep_tup.mp r
    exact .tup q.t (dpxs_of hf ds ys xs q1 rs)
theorem dpxs_of {f : Addr → Option PyData} (hf : ∀ a x, f a = some x → Dpx K H (.ref a) x) : ∀ (ds : List Dv) (vs : List V) (xs : List PyData), datEs f ds = some xs → Reps K H ds vs → Dpxs K H vs xs
  | [], vs, xs, e, r => by cases (show some [] = some xs from e); rw [r.nil_inv]; exact .nil
  | d :: ds, vs, xs, e, r => by
    obtain ⟨x, q1, q2⟩ := Option.bind_eq_some_iff.mp (show ((datE f d).bind fun x => (datEs f ds).map fun xs => x :: xs) = some xs from e)
    obtain ⟨ys, q3, rfl⟩ := Option.map_eq_some_iff.mp q2
    obtain ⟨y, zs, rfl, r1, r2⟩ := r.cons_inv
    exact .cons (dpx_of hf d y x q1 r1) (dpxs_of hf ds zs ys q3 r2)
end
theorem kvn_reps : ∀ {kvs : List (Dv × Dv)} {es : NL V V}, KVn K H kvs es → Reps K H (kvs.map fun p => p.1) (es.map fun e => e.2.1) ∧ Reps K H (kvs.map fun p => p.2) (es.map fun e => e.2.2)
  | [], es, h => by cases (show es = [] from h); exact ⟨.nil, .nil⟩
  | _ :: _, _, h => by
    obtain ⟨a, x, y, es', rfl, _, _, h3, h4, h5⟩ := h
    obtain ⟨q1, q2⟩ := kvn_reps h5
    exact ⟨.cons h3 q1, .cons h4 q2⟩
theorem datEs_len {f : Addr → Option PyData} : ∀ {ds : List Dv} {xs : List PyData}, datEs f ds = some xs → xs.length = ds.length
  | [], _, e => by cases (show some [] = some _ from e); rfl
  | d :: ds, xs, e => by
    obtain ⟨x, q1, q2⟩ := Option.bind_eq_some_iff.mp (show ((datE f d).bind fun x => (datEs f ds).map fun xs => x :: xs) = some xs from e)
    obtain ⟨ys, q3, rfl⟩ := Option.map_eq_some_iff.mp q2
    simp [datEs_len q3]
theorem dpx_res (r : Rel K S H) : ∀ (n : Nat) (a : Addr) (x : PyData), resX S n a = some x → Dpx K H (.ref a) x
  | 0, _, _, e => by cases (show none = some _ from e)
  | n + 1, a, x, e => by
    unfold resX at e
    split at e
    · rename_i ds q
      obtain ⟨xs, q1, rfl⟩ := Option.map_eq_some_iff.mp e
      obtain ⟨ys, h, rs⟩ := r.lst q
      exact .lst (.of h) (dpxs_of (dpx_res r n) ds ys xs q1 rs)
    · rename_i q
      cases e
      obtain ⟨ys, h, k, _⟩ := r.dct q
      obtain rfl : ys = [] := by simpa using k
      exact .dct h
    · rename_i kvs q
      obtain ⟨ks, q1, e⟩ := Option.bind_eq_some_iff.mp e
      obtain ⟨vs, q2, rfl⟩ := Option.map_eq_some_iff.mp e
      obtain ⟨es, h, kn⟩ := r.ndc q
      obtain ⟨r1, r2⟩ := kvn_reps kn
      have l1 := datEs_len q1
      have l2 := datEs_len q2
      have e1 : ((ks.zip vs).map fun p => p.1) = ks := List.map_fst_zip (by simp at l1 l2; omega)
      have e2 : ((ks.zip vs).map fun p => p.2) = vs := List.map_snd_zip (by simp at l1 l2; omega)
      exact .ndc h (by rw [e1]; exact dpxs_of (dpx_res r n) _ _ _ q1 r1) (by rw [e2]; exact dpxs_of (dpx_res r n) _ _ _ q2 r2)
    · cases e
theorem dpx_dat (r : Rel K S H) {d : Dv} {v : V} {x : PyData} (e : datX S d = some x) (p : Rep K H d v) : Dpx K H v x := dpx_of (dpx_res r 6) d v x e p
end
section
variable {X : Cx}
/-- repr of any such value -/
def gReprX : GA := fun ds S P => match ds with
  | [d] => (match datX S d with | some x => x.showable = true ∧ x.depth ≤ 64 ∧ x.shown.length ≤ sizeLine ∧ P (.str x.shown) S | none => False)
  | _ => False
theorem callX_repr (hg : X.A.guards = some []) (hu : X.A.units + 100 < cLine) : CallR X (.builtin "repr") (fun xs H Q => ∃ v x, xs = [v] ∧ Dpx X.kw H v x ∧ x.showable = true ∧ x.depth ≤ 64 ∧ x.shown.length ≤ sizeLine ∧ Q (.str x.shown) H) := by
  intro pins s σ H xs us Q I rr h
  obtain ⟨v, x, rfl, hd, hs, hdp, hz, q⟩ := h
  obtain ⟨u, rfl, ru⟩ := rr.one
  obtain ⟨l, rd⟩ := hd.rx I ru
  have done : ∀ (h' : Heap) (u tk : Tok), (∀ b o, s.heap.get? b = some o → h'.get? b = some o) → EP X pins σ Q (.str x.shown u) { s with heap := h', toks := tk } := fun h' u tk k => ⟨.str x.shown, H, I.kept k, ⟨_, rfl⟩, q⟩
  have deep : ∀ a, u = .ref a → wpAny (model X.prog X.w) X.A (call (.builtin "repr") [.ref a]) (EP X pins σ Q) X.xe s := fun a ea => by
    subst ea
    exact repr_rx rd hs hz hg (by omega) done
  cases rd with
  | non => simp only [PyData.shown] at done; exact PySem.P.repr_of_none (done s.heap _ _ fun _ _ z => z)
  | bl b => simp only [PyData.shown] at done; exact PySem.P.repr_of_bool (done s.heap _ _ fun _ _ z => z)
  | int i t => simp only [PyData.shown] at done; exact PySem.P.repr_of_int (by simpa [PyData.showable] using hs) (done s.heap _ _ fun _ _ z => z)
  | str y t => simp only [PyData.shown] at done; exact PySem.P.repr_of_str (done s.heap _ _ fun _ _ z => z) (by simpa only [PyData.shown] using hz)
  | lst _ _ _ _ => exact deep _ rfl
  | tup _ _ _ _ => exact deep _ rfl
  | dct _ _ _ _ _ _ => exact deep _ rfl
theorem cg_reprX (hg : X.A.guards = some []) (hu : X.A.units + 100 < cLine) : CallG X (.builtin "repr") gReprX := ⟨_, callX_repr hg hu, fun ds S P q vs H Q r rs hp => by
  unfold gReprX at q
  split at q
  · rename_i d
    split at q
    · rename_i x e0
      obtain ⟨v, rfl, rv⟩ := reps1 rs
      exact ⟨v, x, rfl, dpx_dat r e0 rv, q.1, q.2.1, q.2.2.1, hp _ _ q.2.2.2 _ _ .refl r (rep_str.mpr rfl)⟩
    · exact q.elim
  · exact q.elim⟩
/-! ### x != () -/
@[simp] def gNeNil : G2 := fun d e S P => match d, e with
  | .tup ds, .tup [] => P (.bl (!ds.isEmpty)) S
  | _, _ => False
def rNeNil (K : Kw) : R2 := fun x y H Q => ∃ a b xs, x = .ref a ∧ y = .ref b ∧ SqT K H a xs ∧ SqT K H b [] ∧ Q (.bl (!xs.isEmpty)) H
theorem o_neNil (hu : X.A.units < cLine) : OpR X (compareOp .NotEq) (rNeNil X.kw) := by
  intro pins s σ H x y v u Q I rx ry h
  obtain ⟨a, b, xs, rfl, rfl, qa, qb, q⟩ := h
  obtain rfl : v = Value.ref a := rx
  obtain rfl : u = Value.ref b := ry
  obtain ⟨ia, va, ta, _⟩ := I.tuple qa
  obtain ⟨ib, vb, tb, _⟩ := I.tuple qb
  have z0 : ib.length = 0 := by have q0 := vb.length; simpa using q0.symm
  have z1 : ia.length = xs.length := by have q1 := va.length; simpa using q1.symm
  refine PySem.SeqAt.RcNeAt.tuples (e := fun _ => true) ta tb hu (fun j _ h2 => absurd h2 (by simp [z0])) _ _ _ _ ⟨.bl _, H, I, ?_, q⟩
  show Value.bool _ = Value.bool _
  congr 1
  simp only [List.size_toArray, z0, z1]
  cases xs <;> simp
theorem c_neNil (hu : X.A.units < cLine) : OpG X (compareOp .NotEq) gNeNil := ⟨_, o_neNil hu, fun d e S P q v u H Q r rv ru hp => by
  unfold gNeNil at q
  split at q
  · rename_i ds
    obtain ⟨a, xs, rfl, q1, rs⟩ := rep_tup.mp rv
    obtain ⟨b, ys, rfl, q2, rs2⟩ := rep_tup.mp ru
    cases rs2.nil_inv
    refine ⟨a, b, xs, rfl, rfl, q1.t, q2.t, hp _ _ q _ _ .refl r (rep_bl.mpr ?_)⟩
    have := rs.length
    cases xs <;> cases ds <;> simp_all
  · exact q.elim⟩
end
end Sb

/-! Calls of a def by itself; constants of the module that the head reads. -/
namespace Sb
open PySem PySem.Spec PyProof.Rows L2
section
variable {X : Cx} {H0 : Hp} {k L n : Nat} {ps : List Str} {sp : Nat → DSp} {x : Str} {p pos : Pos} {e : Expr} {es : List Expr} {t : DTA}
/-- a def's call of itself, n levels left -/
def dRec (sp : Nat → DSp) (n : Nat) (t : DTA) : DTE := match n with
  | 0 => dNeverE
  | m + 1 => dCall (sp m) X0 t
@[simp] theorem dRec_zero {t : DTA} : dRec sp 0 t = dNeverE := rfl
@[simp] theorem dRec_succ {t : DTA} : dRec sp (n + 1) t = dCall (sp n) X0 t := rfl
theorem de_rec (c : ∀ m, n = m + 1 → Cal X.prog X.w X.K X.mg X.base (L + m) x ps (sp m)) (hgd : X.A.guards = some []) (hr : Room (k + n) X.A) (ha : DA X H0 (e :: es) t) (hL : L = k + 1 := by decide) (hg : Gl X x := by rfl) (hdb : (x == ("__debug__" : Str)) = false := by decide)
    (he : starEach (e :: es) X.env = (false, eval e X.env) :: starEach es X.env := by rfl) (hpl : (backTo pos (starEach es X.env)).any (·.1) = false := by rfl) : DE X H0 (.Call (.Name x p) (e :: es) [] pos) (dRec sp n t) := by
  cases n with
  | zero => exact de_never
  | succ m => exact de_fn (c m rfl) hgd hr ha (by omega) hg hdb he hpl
end
/-! ### constants of the module -/
theorem loose_int {p : Program} {lv : List (Str × PySem.W.WData)} {mg : Str → Option Value} {h : Heap} {x : Str} {n : Int} (q : PySem.W.XL p lv mg h) (hm : (x, PySem.W.WData.int n) ∈ lv) : ∃ t, mg x = some (.int n t) := by
  obtain ⟨v, a, b⟩ := q.2.val _ hm
  cases b with
  | int i t => exact ⟨t, a⟩
/-- the goal that k_head leaves, with what it read of the module -/
theorem law_walkX {l : PySem.W.OpenLaw} {n k : Nat} {q : Program} {loose : List Str} {XP : (Str → Option Value) → Heap → Prop} {YP : World → Heap → Prop} {d : DefRec} {K : Params → PySem.W.Frag} {sp : DSp} {x : Str} {Z : (Str → Option Value) → Prop}
    (hn : l.most = some n) (hn2 : n ≤ sizeLine) (hdf : d.params.defaults = []) (hr : Room k callerA) (hY : ∀ (w : World) (h : Heap), YP w h → (K w.params).In h) (hZ : ∀ (mg : Str → Option Value) (h : Heap), XP mg h → Z mg)
    (F : ∀ (w : World) (mg : Str → Option Value) (fa : Addr) (h : Heap), (K w.params).In h → h.Ns mainGlobals mg → mg d.name = some (.ref fa) → Z mg →
      ∃ fd : FuncData, (∀ (s : Shared) (u : Value), BindsTo s fd ⟨[u], []⟩ [(x, u)]) ∧ ∀ base : Heap, (K w.params).In base → base.Ns mainGlobals mg → DFn l.prog w (K w.params) mg base k fa fd [x] sp)
    (hsp : ∀ ns : List Int, ns.length ≤ n → (∀ z ∈ ns, Builtin.Int.intBits z ≤ 1048576) → sp [.scr ns] (fun _ => none) (fun d _ => d = .bl true) X0) :
    PySem.W.WalkO q loose XP YP l.row.toRowW d [] (fun f vs => PySem.call f vs) := by
  refine Att.attach_callB hn hdf fun w s0 s1 mg mb fa o pm cd doc a vs ns G Y ho hd hcd hmg hobj hints hlen hbits hg => ?_
  obtain ⟨fd, hb, hF⟩ := F w mg fa _ (hY w _ Y) G.T.g hmg (hZ mg _ G.X)
  exact law_run (hY w _ Y) G.T.g G.T.b G.T.builtins G.T.nolimit hg hobj hints (Nat.le_trans hlen hn2) hr hF hb (hsp ns hlen hbits)
end Sb

/-! == and != of tuples of any depth and of any texts, and of unlike kinds. -/
namespace Sb
open PySem PySem.Spec PyProof.Rows L2 PySem.SeqAt
mutual
/-- what is compared: no number with a truth value, no lists -/
def cmp : Dv → Dv → Bool
  | .tup ds, .tup es => cmps ds es
  | .tup _, .non => true
  | .tup _, .int _ => true
  | .tup _, .str _ => true
  | .tup _, .bl _ => true
  | .non, .tup _ => true
  | .int _, .tup _ => true
  | .str _, .tup _ => true
  | .bl _, .tup _ => true
  | d, e => scl d e
def cmps : List Dv → List Dv → Bool
  | d :: ds, e :: es => cmp d e && cmps ds es
  | _, _ => true
end
section
variable {X : Cx} {pins : List (Addr × Obj)} {σ : L2.St} {H : Hp} {s : Shared}
mutual
theorem rep_one (I : Inv X pins σ H s) : ∀ (d e : Dv) (v : V), cmp d e = true → Rep X.kw H d v → Rep X.kw H e v → d = e
  | .tup ds, .tup es, v, h, r1, r2 => by
    obtain ⟨a, xs, rfl, q1, rs1⟩ := rep_tup.mp r1
    obtain ⟨b, ys, e0, q2, rs2⟩ := rep_tup.mp r2
    cases e0
    obtain rfl := I.tuple_inj q1.t q2.t
    rw [reps_one I ds es xs (by simpa only [cmp] using h) rs1 rs2]
  | .tup ds, .non, v, h, r1, r2 => by obtain ⟨a, xs, rfl, _⟩ := rep_tup.mp r1; cases rep_non.mp r2
  | .tup ds, .int _, v, h, r1, r2 => by obtain ⟨a, xs, rfl, _⟩ := rep_tup.mp r1; cases rep_int.mp r2
  | .tup ds, .str _, v, h, r1, r2 => by obtain ⟨a, xs, rfl, _⟩ := rep_tup.mp r1; cases rep_str.mp r2
  | .tup ds, .bl _, v, h, r1, r2 => by obtain ⟨a, xs, rfl, _⟩ := rep_tup.mp r1; cases rep_bl.mp r2
  | .tup ds, .ty _, v, h, r1, r2 => by simp [cmp, scl] at h
  | .tup ds, .ref _, v, h, r1, r2 => by simp [cmp, scl] at h
  | .tup ds, .scr _, v, h, r1, r2 => by simp [cmp, scl] at h
  | .non, e, v, h, r1, r2 => by cases e <;> first | (simp [cmp, scl] at h; done) | skip
                                all_goals first | (obtain ⟨a, xs, rfl, _⟩ := rep_tup.mp r2; cases rep_non.mp r1) | exact ((scl_rep (by simpa only [cmp] using h) r1 r2).2.mp rfl)
  | .int _, e, v, h, r1, r2 => by cases e <;> first | (simp [cmp, scl] at h; done) | skip
                                  all_goals first | (obtain ⟨a, xs, rfl, _⟩ := rep_tup.mp r2; cases rep_int.mp r1) | exact ((scl_rep (by simpa only [cmp] using h) r1 r2).2.mp rfl)
  | .str _, e, v, h, r1, r2 => by cases e <;> first | (simp [cmp, scl] at h; done) | skip
                                  all_goals first | (obtain ⟨a, xs, rfl, _⟩ := rep_tup.mp r2; cases rep_str.mp r1) | exact ((scl_rep (by simpa only [cmp] using h) r1 r2).2.mp rfl)
  | .bl _, e, v, h, r1, r2 => by cases e <;> first | (simp [cmp, scl] at h; done) | skip
                                 all_goals first | (obtain ⟨a, xs, rfl, _⟩ := rep_tup.mp r2; cases rep_bl.mp r1) | exact ((scl_rep (by simpa only [cmp] using h) r1 r2).2.mp rfl)
  | .ty _, e, v, h, r1, r2 => by cases e <;> simp [cmp, scl] at h
  | .ref _, e, v, h, r1, r2 => by cases e <;> simp [cmp, scl] at h
  | .scr _, e, v, h, r1, r2 => by cases e <;> simp [cmp, scl] at h
theorem reps_one (I : Inv X pins σ H s) : ∀ (ds es : List Dv) (vs : List V), cmps ds es = true → Reps X.kw H ds vs → Reps X.kw H es vs → ds = es
  | [], [], _, _, _, _ => rfl
  | [], e :: es, _, _, r1, r2 => by obtain ⟨y, ys, rfl, _⟩ := r2.cons_inv; cases r1.nil_inv
  | d :: ds, [], _, _, r1, r2 => by obtain ⟨y, ys, rfl, _⟩ := r1.cons_inv; cases r2.nil_inv
  | d :: ds, e :: es, _, h, r1, r2 => by
    obtain ⟨y, ys, rfl, p1, q1⟩ := r1.cons_inv
    obtain ⟨z, zs, e0, p2, q2⟩ := r2.cons_inv
    cases e0
    simp only [cmps, Bool.and_eq_true] at h
    rw [rep_one I d e y h.1 p1 p2, reps_one I ds es ys h.2 q1 q2]
end
theorem eq_scl {A : Around} : ∀ (d e : Dv) (v u : V) (v' u' : Value) (b : Bool), scl d e = true → Rep X.kw H d v → Rep X.kw H e u → RelV v v' → RelV u u' → (b = true ↔ d = e) → EqAt A s v' u' b
  | .non, .non, v, u, v', u', b, h, r1, r2, q1, q2, hb => by
    have z := rep_non.mp r1
    subst z
    obtain rfl : v' = Value.none := q1
    have z := rep_non.mp r2
    subst z
    obtain rfl : u' = Value.none := q2
    obtain rfl : b = true := hb.mpr rfl
    exact EqAt.same _
  | .non, .int j, v, u, v', u', b, h, r1, r2, q1, q2, hb => by
    have z := rep_non.mp r1
    subst z
    obtain rfl : v' = Value.none := q1
    have z := rep_int.mp r2
    subst z
    obtain ⟨t2, rfl⟩ := q2
    obtain rfl : b = false := by cases b with | false => rfl | true => cases hb.mp rfl
    exact EqAt.none_int _ _
  | .non, .bl j, v, u, v', u', b, h, r1, r2, q1, q2, hb => by
    have z := rep_non.mp r1
    subst z
    obtain rfl : v' = Value.none := q1
    have z := rep_bl.mp r2
    subst z
    obtain rfl : u' = Value.bool _ := q2
    obtain rfl : b = false := by cases b with | false => rfl | true => cases hb.mp rfl
    exact EqAt.none_bool _
  | .non, .str j, v, u, v', u', b, h, r1, r2, q1, q2, hb => by
    have z := rep_non.mp r1
    subst z
    obtain rfl : v' = Value.none := q1
    have z := rep_str.mp r2
    subst z
    obtain ⟨t2, rfl⟩ := q2
    obtain rfl : b = false := by cases b with | false => rfl | true => cases hb.mp rfl
    exact EqAt.none_str _ _
  | .int i, .non, v, u, v', u', b, h, r1, r2, q1, q2, hb => by
    have z := rep_int.mp r1
    subst z
    obtain ⟨t1, rfl⟩ := q1
    have z := rep_non.mp r2
    subst z
    obtain rfl : u' = Value.none := q2
    obtain rfl : b = false := by cases b with | false => rfl | true => cases hb.mp rfl
    exact EqAt.int_none _ _
  | .bl i, .non, v, u, v', u', b, h, r1, r2, q1, q2, hb => by
    have z := rep_bl.mp r1
    subst z
    obtain rfl : v' = Value.bool _ := q1
    have z := rep_non.mp r2
    subst z
    obtain rfl : u' = Value.none := q2
    obtain rfl : b = false := by cases b with | false => rfl | true => cases hb.mp rfl
    exact EqAt.bool_none _
  | .str i, .non, v, u, v', u', b, h, r1, r2, q1, q2, hb => by
    have z := rep_str.mp r1
    subst z
    obtain ⟨t1, rfl⟩ := q1
    have z := rep_non.mp r2
    subst z
    obtain rfl : u' = Value.none := q2
    obtain rfl : b = false := by cases b with | false => rfl | true => cases hb.mp rfl
    exact EqAt.str_none _ _
  | .int i, .int j, v, u, v', u', b, h, r1, r2, q1, q2, hb => by
    have z := rep_int.mp r1
    subst z
    obtain ⟨t1, rfl⟩ := q1
    have z := rep_int.mp r2
    subst z
    obtain ⟨t2, rfl⟩ := q2
    have z : b = (i == j) := by rw [Bool.eq_iff_iff, hb, beq_iff_eq, Dv.int.injEq]
    rw [z]
    exact EqAt.int_int _ _ _ _
  | .bl i, .bl j, v, u, v', u', b, h, r1, r2, q1, q2, hb => by
    have z := rep_bl.mp r1
    subst z
    obtain rfl : v' = Value.bool _ := q1
    have z := rep_bl.mp r2
    subst z
    obtain rfl : u' = Value.bool _ := q2
    have z : b = (i == j) := by rw [Bool.eq_iff_iff, hb, beq_iff_eq, Dv.bl.injEq]
    rw [z]
    exact EqAt.bool_bool _ _
  | .str i, .str j, v, u, v', u', b, h, r1, r2, q1, q2, hb => by
    have z := rep_str.mp r1
    subst z
    obtain ⟨t1, rfl⟩ := q1
    have z := rep_str.mp r2
    subst z
    obtain ⟨t2, rfl⟩ := q2
    have z : b = (i == j) := by rw [Bool.eq_iff_iff, hb, beq_iff_eq, Dv.str.injEq]
    rw [z]
    exact EqAt.str_str _ _ _ _
  | .int i, .str j, v, u, v', u', b, h, r1, r2, q1, q2, hb => by
    have z := rep_int.mp r1
    subst z
    obtain ⟨t1, rfl⟩ := q1
    have z := rep_str.mp r2
    subst z
    obtain ⟨t2, rfl⟩ := q2
    obtain rfl : b = false := by cases b with | false => rfl | true => cases hb.mp rfl
    exact EqAt.int_str _ _ _ _
  | .str i, .int j, v, u, v', u', b, h, r1, r2, q1, q2, hb => by
    have z := rep_str.mp r1
    subst z
    obtain ⟨t1, rfl⟩ := q1
    have z := rep_int.mp r2
    subst z
    obtain ⟨t2, rfl⟩ := q2
    obtain rfl : b = false := by cases b with | false => rfl | true => cases hb.mp rfl
    exact EqAt.str_int _ _ _ _
  | .bl i, .str j, v, u, v', u', b, h, r1, r2, q1, q2, hb => by
    have z := rep_bl.mp r1
    subst z
    obtain rfl : v' = Value.bool _ := q1
    have z := rep_str.mp r2
    subst z
    obtain ⟨t2, rfl⟩ := q2
    obtain rfl : b = false := by cases b with | false => rfl | true => cases hb.mp rfl
    exact EqAt.bool_str _ _ _
  | .str i, .bl j, v, u, v', u', b, h, r1, r2, q1, q2, hb => by
    have z := rep_str.mp r1
    subst z
    obtain ⟨t1, rfl⟩ := q1
    have z := rep_bl.mp r2
    subst z
    obtain rfl : u' = Value.bool _ := q2
    obtain rfl : b = false := by cases b with | false => rfl | true => cases hb.mp rfl
    exact EqAt.str_bool _ _ _
  | .int i, .bl j, _, _, _, _, _, h, _, _, _, _, _ => absurd (show false = true from h) Bool.false_ne_true
  | .bl i, .int j, _, _, _, _, _, h, _, _, _, _, _ => absurd (show false = true from h) Bool.false_ne_true
  | .non, .tup j, _, _, _, _, _, h, _, _, _, _, _ => absurd (show false = true from h) Bool.false_ne_true
  | .int i, .tup j, _, _, _, _, _, h, _, _, _, _, _ => absurd (show false = true from h) Bool.false_ne_true
  | .str i, .tup j, _, _, _, _, _, h, _, _, _, _, _ => absurd (show false = true from h) Bool.false_ne_true
  | .bl i, .tup j, _, _, _, _, _, h, _, _, _, _, _ => absurd (show false = true from h) Bool.false_ne_true
  | .non, .ty j, _, _, _, _, _, h, _, _, _, _, _ => absurd (show false = true from h) Bool.false_ne_true
  | .int i, .ty j, _, _, _, _, _, h, _, _, _, _, _ => absurd (show false = true from h) Bool.false_ne_true
  | .str i, .ty j, _, _, _, _, _, h, _, _, _, _, _ => absurd (show false = true from h) Bool.false_ne_true
  | .bl i, .ty j, _, _, _, _, _, h, _, _, _, _, _ => absurd (show false = true from h) Bool.false_ne_true
  | .non, .ref j, _, _, _, _, _, h, _, _, _, _, _ => absurd (show false = true from h) Bool.false_ne_true
  | .int i, .ref j, _, _, _, _, _, h, _, _, _, _, _ => absurd (show false = true from h) Bool.false_ne_true
  | .str i, .ref j, _, _, _, _, _, h, _, _, _, _, _ => absurd (show false = true from h) Bool.false_ne_true
  | .bl i, .ref j, _, _, _, _, _, h, _, _, _, _, _ => absurd (show false = true from h) Bool.false_ne_true
  | .non, .scr j, _, _, _, _, _, h, _, _, _, _, _ => absurd (show false = true from h) Bool.false_ne_true
  | .int i, .scr j, _, _, _, _, _, h, _, _, _, _, _ => absurd (show false = true from h) Bool.false_ne_true
  | .str i, .scr j, _, _, _, _, _, h, _, _, _, _, _ => absurd (show false = true from h) Bool.false_ne_true
  | .bl i, .scr j, _, _, _, _, _, h, _, _, _, _, _ => absurd (show false = true from h) Bool.false_ne_true
  | .tup i, e, _, _, _, _, _, h, _, _, _, _, _ => by cases e <;> exact absurd (show false = true from h) Bool.false_ne_true
  | .ty i, e, _, _, _, _, _, h, _, _, _, _, _ => by cases e <;> exact absurd (show false = true from h) Bool.false_ne_true
  | .ref i, e, _, _, _, _, _, h, _, _, _, _, _ => by cases e <;> exact absurd (show false = true from h) Bool.false_ne_true
  | .scr i, e, _, _, _, _, _, h, _, _, _, _, _ => by cases e <;> exact absurd (show false = true from h) Bool.false_ne_true
mutual
theorem eq_dv (I : Inv X pins σ H s) : ∀ (d e : Dv) (v u : V) (v' u' : Value) (A : Around), cmp d e = true → A.units + dep d < cLine → Rep X.kw H d v → Rep X.kw H e u → RelV v v' → RelV u u' → ∀ b : Bool, (b = true ↔ d = e) → EqAt A s v' u' b
  | .tup ds, .tup es, v, u, v', u', A, h, hu, r1, r2, p1, p2, b, hb => by
    have all := rep_one I (.tup ds) (.tup es)
    obtain ⟨a, xs, rfl, q1, rs1⟩ := rep_tup.mp r1
    obtain ⟨c, ys, rfl, q2, rs2⟩ := rep_tup.mp r2
    obtain rfl : v' = Value.ref a := p1
    obtain rfl : u' = Value.ref c := p2
    simp only [dep] at hu
    by_cases hac : a = c
    · subst hac
      obtain rfl : b = true := hb.mpr (all _ h r1 r2)
      exact EqAt.same _
    · refine EqAt.of_refs hac ?_
      obtain ⟨its, va, ta, _⟩ := I.tuple q1.t
      obtain ⟨jts, vb, tb, _⟩ := I.tuple q2.t
      obtain ⟨k, hk, hks⟩ := eqs_dv I ds es xs ys its jts A.in1 (by simpa only [cmp] using h) (by show A.units + 1 + deps ds < cLine; omega) rs1 rs2 va vb
      have fin := RcAt.tuples (A := A) (e := k) ta tb (by omega) fun j h1 h2 => hk j (by simpa using h1) (by simpa using h2)
      have eb : ((List.range (min its.toArray.size jts.toArray.size)).all k && its.toArray.size == jts.toArray.size) = b := by
        rw [Bool.eq_iff_iff, hb, Bool.and_eq_true, List.all_eq_true, beq_iff_eq, Dv.tup.injEq]
        have l1 := rs1.length; have l2 := rs2.length; have l3 := va.length; have l4 := vb.length
        simp only [List.size_toArray, List.mem_range]
        constructor
        · rintro ⟨z1, z2⟩
          exact hks.mp ⟨fun j j1 j2 => z1 j (by omega), by omega⟩
        · intro z
          obtain ⟨z1, z2⟩ := hks.mpr z
          exact ⟨fun j hj => z1 j (by omega) (by omega), by omega⟩
      rw [← eb]
      exact fin
  | .tup ds, .non, v, u, v', u', A, h, hu, r1, r2, p1, p2, b, hb => by
    obtain ⟨a, xs, rfl, q1, rs1⟩ := rep_tup.mp r1
    obtain rfl : v' = Value.ref a := p1
    have z := rep_non.mp r2; subst z
    obtain rfl : u' = Value.none := p2
    obtain ⟨its, va, ta, _⟩ := I.tuple q1.t
    obtain rfl : b = false := by cases b with | false => rfl | true => cases hb.mp rfl
    exact EqAt.tuple_none ta (by omega)
  | .tup ds, .int i, v, u, v', u', A, h, hu, r1, r2, p1, p2, b, hb => by
    obtain ⟨a, xs, rfl, q1, rs1⟩ := rep_tup.mp r1
    obtain rfl : v' = Value.ref a := p1
    have z := rep_int.mp r2; subst z
    obtain ⟨t, rfl⟩ := p2
    obtain ⟨its, va, ta, _⟩ := I.tuple q1.t
    obtain rfl : b = false := by cases b with | false => rfl | true => cases hb.mp rfl
    exact EqAt.tuple_int _ _ ta (by omega)
  | .tup ds, .str i, v, u, v', u', A, h, hu, r1, r2, p1, p2, b, hb => by
    obtain ⟨a, xs, rfl, q1, rs1⟩ := rep_tup.mp r1
    obtain rfl : v' = Value.ref a := p1
    have z := rep_str.mp r2; subst z
    obtain ⟨t, rfl⟩ := p2
    obtain ⟨its, va, ta, _⟩ := I.tuple q1.t
    obtain rfl : b = false := by cases b with | false => rfl | true => cases hb.mp rfl
    exact EqAt.tuple_str _ _ ta (by omega)
  | .tup ds, .bl i, v, u, v', u', A, h, hu, r1, r2, p1, p2, b, hb => by
    obtain ⟨a, xs, rfl, q1, rs1⟩ := rep_tup.mp r1
    obtain rfl : v' = Value.ref a := p1
    have z := rep_bl.mp r2; subst z
    obtain rfl : u' = Value.bool _ := p2
    obtain ⟨its, va, ta, _⟩ := I.tuple q1.t
    obtain rfl : b = false := by cases b with | false => rfl | true => cases hb.mp rfl
    exact EqAt.tuple_bool _ ta (by omega)
  | .tup ds, .ty _, _, _, _, _, _, h, _, _, _, _, _, _, _ => by simp [cmp, scl] at h
  | .tup ds, .ref _, _, _, _, _, _, h, _, _, _, _, _, _, _ => by simp [cmp, scl] at h
  | .tup ds, .scr _, _, _, _, _, _, h, _, _, _, _, _, _, _ => by simp [cmp, scl] at h
  | .non, .tup es, v, u, v', u', A, h, hu, r1, r2, p1, p2, b, hb => by
    obtain ⟨a, xs, rfl, q1, rs1⟩ := rep_tup.mp r2
    obtain rfl : u' = Value.ref a := p2
    have z := rep_non.mp r1; subst z
    obtain rfl : v' = Value.none := p1
    obtain ⟨its, va, ta, _⟩ := I.tuple q1.t
    obtain rfl : b = false := by cases b with | false => rfl | true => cases hb.mp rfl
    exact EqAt.none_tuple ta (by omega)
  | .int i, .tup es, v, u, v', u', A, h, hu, r1, r2, p1, p2, b, hb => by
    obtain ⟨a, xs, rfl, q1, rs1⟩ := rep_tup.mp r2
    obtain rfl : u' = Value.ref a := p2
    have z := rep_int.mp r1; subst z
    obtain ⟨t, rfl⟩ := p1
    obtain ⟨its, va, ta, _⟩ := I.tuple q1.t
    obtain rfl : b = false := by cases b with | false => rfl | true => cases hb.mp rfl
    exact EqAt.int_tuple _ _ ta (by omega)
  | .str i, .tup es, v, u, v', u', A, h, hu, r1, r2, p1, p2, b, hb => by
    obtain ⟨a, xs, rfl, q1, rs1⟩ := rep_tup.mp r2
    obtain rfl : u' = Value.ref a := p2
    have z := rep_str.mp r1; subst z
    obtain ⟨t, rfl⟩ := p1
    obtain ⟨its, va, ta, _⟩ := I.tuple q1.t
    obtain rfl : b = false := by cases b with | false => rfl | true => cases hb.mp rfl
    exact EqAt.str_tuple _ _ ta (by omega)
  | .bl i, .tup es, v, u, v', u', A, h, hu, r1, r2, p1, p2, b, hb => by
    obtain ⟨a, xs, rfl, q1, rs1⟩ := rep_tup.mp r2
    obtain rfl : u' = Value.ref a := p2
    have z := rep_bl.mp r1; subst z
    obtain rfl : v' = Value.bool _ := p1
    obtain ⟨its, va, ta, _⟩ := I.tuple q1.t
    obtain rfl : b = false := by cases b with | false => rfl | true => cases hb.mp rfl
    exact EqAt.bool_tuple _ ta (by omega)
  | .non, .non, v, u, v', u', A, h, hu, r1, r2, p1, p2, b, hb => eq_scl _ _ _ _ _ _ b (by simpa only [cmp] using h) r1 r2 p1 p2 hb
  | .non, .int _, v, u, v', u', A, h, hu, r1, r2, p1, p2, b, hb => eq_scl _ _ _ _ _ _ b (by simpa only [cmp] using h) r1 r2 p1 p2 hb
  | .non, .str _, v, u, v', u', A, h, hu, r1, r2, p1, p2, b, hb => eq_scl _ _ _ _ _ _ b (by simpa only [cmp] using h) r1 r2 p1 p2 hb
  | .non, .bl _, v, u, v', u', A, h, hu, r1, r2, p1, p2, b, hb => eq_scl _ _ _ _ _ _ b (by simpa only [cmp] using h) r1 r2 p1 p2 hb
  | .int _, .non, v, u, v', u', A, h, hu, r1, r2, p1, p2, b, hb => eq_scl _ _ _ _ _ _ b (by simpa only [cmp] using h) r1 r2 p1 p2 hb
  | .int _, .int _, v, u, v', u', A, h, hu, r1, r2, p1, p2, b, hb => eq_scl _ _ _ _ _ _ b (by simpa only [cmp] using h) r1 r2 p1 p2 hb
  | .int _, .str _, v, u, v', u', A, h, hu, r1, r2, p1, p2, b, hb => eq_scl _ _ _ _ _ _ b (by simpa only [cmp] using h) r1 r2 p1 p2 hb
  | .int _, .bl _, v, u, v', u', A, h, hu, r1, r2, p1, p2, b, hb => eq_scl _ _ _ _ _ _ b (by simpa only [cmp] using h) r1 r2 p1 p2 hb
  | .str _, .non, v, u, v', u', A, h, hu, r1, r2, p1, p2, b, hb => eq_scl _ _ _ _ _ _ b (by simpa only [cmp] using h) r1 r2 p1 p2 hb
  | .str _, .int _, v, u, v', u', A, h, hu, r1, r2, p1, p2, b, hb => eq_scl _ _ _ _ _ _ b (by simpa only [cmp] using h) r1 r2 p1 p2 hb
  | .str _, .str _, v, u, v', u', A, h, hu, r1, r2, p1, p2, b, hb => eq_scl _ _ _ _ _ _ b (by simpa only [cmp] using h) r1 r2 p1 p2 hb
  | .str _, .bl _, v, u, v', u', A, h, hu, r1, r2, p1, p2, b, hb => eq_scl _ _ _ _ _ _ b (by simpa only [cmp] using h) r1 r2 p1 p2 hb
  | .bl _, .non, v, u, v', u', A, h, hu, r1, r2, p1, p2, b, hb => eq_scl _ _ _ _ _ _ b (by simpa only [cmp] using h) r1 r2 p1 p2 hb
  | .bl _, .int _, v, u, v', u', A, h, hu, r1, r2, p1, p2, b, hb => eq_scl _ _ _ _ _ _ b (by simpa only [cmp] using h) r1 r2 p1 p2 hb
  | .bl _, .str _, v, u, v', u', A, h, hu, r1, r2, p1, p2, b, hb => eq_scl _ _ _ _ _ _ b (by simpa only [cmp] using h) r1 r2 p1 p2 hb
  | .bl _, .bl _, v, u, v', u', A, h, hu, r1, r2, p1, p2, b, hb => eq_scl _ _ _ _ _ _ b (by simpa only [cmp] using h) r1 r2 p1 p2 hb
  | .non, .ty _, _, _, _, _, _, h, _, _, _, _, _, _, _ => by simp [cmp, scl] at h
  | .non, .ref _, _, _, _, _, _, h, _, _, _, _, _, _, _ => by simp [cmp, scl] at h
  | .non, .scr _, _, _, _, _, _, h, _, _, _, _, _, _, _ => by simp [cmp, scl] at h
  | .int _, .ty _, _, _, _, _, _, h, _, _, _, _, _, _, _ => by simp [cmp, scl] at h
  | .int _, .ref _, _, _, _, _, _, h, _, _, _, _, _, _, _ => by simp [cmp, scl] at h
  | .int _, .scr _, _, _, _, _, _, h, _, _, _, _, _, _, _ => by simp [cmp, scl] at h
  | .str _, .ty _, _, _, _, _, _, h, _, _, _, _, _, _, _ => by simp [cmp, scl] at h
  | .str _, .ref _, _, _, _, _, _, h, _, _, _, _, _, _, _ => by simp [cmp, scl] at h
  | .str _, .scr _, _, _, _, _, _, h, _, _, _, _, _, _, _ => by simp [cmp, scl] at h
  | .bl _, .ty _, _, _, _, _, _, h, _, _, _, _, _, _, _ => by simp [cmp, scl] at h
  | .bl _, .ref _, _, _, _, _, _, h, _, _, _, _, _, _, _ => by simp [cmp, scl] at h
  | .bl _, .scr _, _, _, _, _, _, h, _, _, _, _, _, _, _ => by simp [cmp, scl] at h
  | .ty _, e, _, _, _, _, _, h, _, _, _, _, _, _, _ => by cases e <;> simp [cmp, scl] at h
  | .ref _, e, _, _, _, _, _, h, _, _, _, _, _, _, _ => by cases e <;> simp [cmp, scl] at h
  | .scr _, e, _, _, _, _, _, h, _, _, _, _, _, _, _ => by cases e <;> simp [cmp, scl] at h
theorem eqs_dv (I : Inv X pins σ H s) : ∀ (ds es : List Dv) (xs ys : List V) (its jts : List Value) (A : Around), cmps ds es = true → A.units + deps ds < cLine → Reps X.kw H ds xs → Reps X.kw H es ys → Vals xs its → Vals ys jts →
    ∃ k : Nat → Bool, (∀ j (h1 : j < its.length) (h2 : j < jts.length), EqAt A s its[j] jts[j] (k j)) ∧ ((∀ j, j < ds.length → j < es.length → k j = true) ∧ ds.length = es.length ↔ ds = es)
  | [], es, xs, ys, its, jts, A, h, hu, r1, r2, p1, p2 => by
    cases r1.nil_inv
    cases p1
    refine ⟨fun _ => true, fun j h1 _ => absurd h1 (by simp), ?_⟩
    cases es <;> simp
  | d :: ds, [], xs, ys, its, jts, A, h, hu, r1, r2, p1, p2 => by
    cases r2.nil_inv
    cases p2
    exact ⟨fun _ => true, fun j _ h1 => absurd h1 (by simp), by simp⟩
  | d :: ds, e :: es, xs, ys, its, jts, A, h, hu, r1, r2, p1, p2 => by
    obtain ⟨x, xs, rfl, a1, b1⟩ := r1.cons_inv
    obtain ⟨y, ys, rfl, a2, b2⟩ := r2.cons_inv
    cases p1 with
    | cons g1 t1 =>
      cases p2 with
      | cons g2 t2 =>
        simp only [cmps, Bool.and_eq_true] at h
        simp only [deps] at hu
        obtain ⟨k, hk, hks⟩ := eqs_dv I ds es xs ys _ _ A h.2 (by omega) b1 b2 t1 t2
        have hd := eq_dv I d e x y _ _ A h.1 (by omega) a1 a2 g1 g2
        obtain ⟨b, hb⟩ : ∃ b : Bool, b = true ↔ d = e := by
          by_cases z : d = e
          · exact ⟨true, by simp [z]⟩
          · exact ⟨false, by simp [z]⟩
        refine ⟨fun j => match j with | 0 => b | j + 1 => k j, fun j => ?_, ?_⟩
        · cases j with
          | zero => exact fun _ _ => hd b hb
          | succ j => exact fun h1 h2 => hk j (by simpa using h1) (by simpa using h2)
        · rw [List.cons.injEq, ← hks, ← hb]
          constructor
          · rintro ⟨z1, z2⟩
            exact ⟨z1 0 (by simp) (by simp), fun j h1 h2 => z1 (j + 1) (by simpa using h1) (by simpa using h2), by simpa using z2⟩
          · rintro ⟨z0, z1, z2⟩
            refine ⟨fun j => ?_, by simpa using z2⟩
            cases j with
            | zero => exact fun _ _ => z0
            | succ j => exact fun h1 h2 => z1 j (by simpa using h1) (by simpa using h2)
end
end
section
variable {X : Cx}
def tup? : Dv → Bool | .tup _ => true | _ => false
def rV (b : Bool) (K : Kw) : R2 := fun x y H Q => ∃ d e, Rep K H d x ∧ Rep K H e y ∧ cmp d e = true ∧ dep d ≤ 64 ∧ tup? d = true ∧ tup? e = true ∧ ∀ c : Bool, (c = true ↔ d = e) → Q (.bl (if b then c else !c)) H
theorem two_tups {pins : List (Addr × Obj)} {σ : L2.St} {s : Shared} {H : Hp} {d e : Dv} {x y : V} {v u : Value} (I : Inv X pins σ H s) (hu : X.A.units + 65 < cLine) (r1 : Rep X.kw H d x) (r2 : Rep X.kw H e y) (h : cmp d e = true) (hd : dep d ≤ 64) (t1 : tup? d = true) (t2 : tup? e = true)
    (p1 : RelV x v) (p2 : RelV y u) : ∃ (a c : Addr) (its jts : Array Value) (k : Nat → Bool), v = .ref a ∧ u = .ref c ∧ s.heap.IsTuple a its ∧ s.heap.IsTuple c jts ∧ (∀ j (h1 : j < its.size) (h2 : j < jts.size), EqAt X.A.in1 s its[j] jts[j] (k j)) ∧
      (((List.range (min its.size jts.size)).all k && its.size == jts.size) = true ↔ d = e) := by
  cases d <;> first | exact absurd t1 Bool.false_ne_true | skip
  rename_i ds
  cases e <;> first | exact absurd t2 Bool.false_ne_true | skip
  rename_i es
  obtain ⟨a, xs, rfl, q1, rs1⟩ := rep_tup.mp r1
  obtain ⟨c, ys, rfl, q2, rs2⟩ := rep_tup.mp r2
  obtain rfl : v = Value.ref a := p1
  obtain rfl : u = Value.ref c := p2
  simp only [dep] at hd
  obtain ⟨its, va, ta, _⟩ := I.tuple q1.t
  obtain ⟨jts, vb, tb, _⟩ := I.tuple q2.t
  obtain ⟨k, hk, hks⟩ := eqs_dv I ds es xs ys its jts X.A.in1 (by simpa only [cmp] using h) (by show X.A.units + 1 + deps ds < cLine; omega) rs1 rs2 va vb
  refine ⟨a, c, its.toArray, jts.toArray, k, rfl, rfl, ta, tb, fun j h1 h2 => hk j (by simpa using h1) (by simpa using h2), ?_⟩
  rw [Bool.and_eq_true, List.all_eq_true, beq_iff_eq, Dv.tup.injEq]
  have l1 := rs1.length; have l2 := rs2.length; have l3 := va.length; have l4 := vb.length
  simp only [List.size_toArray, List.mem_range]
  constructor
  · rintro ⟨z1, z2⟩
    exact hks.mp ⟨fun j j1 j2 => z1 j (by omega), by omega⟩
  · intro z
    obtain ⟨z1, z2⟩ := hks.mpr z
    exact ⟨fun j hj => z1 j (by omega) (by omega), by omega⟩
theorem op_eqV (hu : X.A.units + 65 < cLine) : OpR X (compareOp .Eq) (rV true X.kw) := by
  intro pins s σ H x y v u Q I rx ry h
  obtain ⟨d, e, r1, r2, hc, hd, t1, t2, q⟩ := h
  obtain ⟨a, c, its, jts, k, rfl, rfl, ta, tb, hk, hb⟩ := two_tups I hu r1 r2 hc hd t1 t2 rx ry
  exact eq_tupleAt (e := k) ta tb (by omega) hk ⟨.bl _, H, I, rfl, by simpa using q _ hb⟩
theorem op_neV (hu : X.A.units + 65 < cLine) : OpR X (compareOp .NotEq) (rV false X.kw) := by
  intro pins s σ H x y v u Q I rx ry h
  obtain ⟨d, e, r1, r2, hc, hd, t1, t2, q⟩ := h
  obtain ⟨a, c, its, jts, k, rfl, rfl, ta, tb, hk, hb⟩ := two_tups I hu r1 r2 hc hd t1 t2 rx ry
  exact RcNeAt.tuples (e := k) ta tb (by omega) hk _ _ _ _ ⟨.bl _, H, I, rfl, by simpa using q _ hb⟩
/-- a tuple, compared with what is none -/
def rUn (K : Kw) : R2 := fun x y H Q => ∃ d e, Rep K H d x ∧ Rep K H e y ∧ cmp d e = true ∧ tup? d ≠ tup? e ∧ Q (.bl true) H
theorem op_neUn (hu : X.A.units < cLine) : OpR X (compareOp .NotEq) (rUn X.kw) := by
  intro pins s σ H x y v u Q I rx ry h
  obtain ⟨d, e, r1, r2, hc, hd, q⟩ := h
  have fin : EP X pins σ Q (.bool true) s := ⟨.bl true, H, I, rfl, q⟩
  have left : ∀ ds, d = .tup ds → wpAny (model X.prog X.w) X.A (compareOp .NotEq v u) (EP X pins σ Q) X.xe s := fun ds ed => by
    subst ed
    obtain ⟨a, xs, rfl, q1, rs1⟩ := rep_tup.mp r1
    obtain rfl : v = Value.ref a := rx
    obtain ⟨its, va, ta, _⟩ := I.tuple q1.t
    cases e with
    | tup es => exact absurd rfl hd
    | non => have z := rep_non.mp r2; subst z; obtain rfl : u = Value.none := ry; exact RcNeAt.tuple_none ta hu _ _ _ _ fin
    | int i => have z := rep_int.mp r2; subst z; obtain ⟨t, rfl⟩ := ry; exact RcNeAt.tuple_int _ _ ta hu _ _ _ _ fin
    | str i => have z := rep_str.mp r2; subst z; obtain ⟨t, rfl⟩ := ry; exact RcNeAt.tuple_str _ _ ta hu _ _ _ _ fin
    | bl i => have z := rep_bl.mp r2; subst z; obtain rfl : u = Value.bool _ := ry; exact RcNeAt.tuple_bool _ ta hu _ _ _ _ fin
    | _ => simp [cmp, scl] at hc
  have right : ∀ es, e = .tup es → wpAny (model X.prog X.w) X.A (compareOp .NotEq v u) (EP X pins σ Q) X.xe s := fun es ed => by
    subst ed
    obtain ⟨a, xs, rfl, q1, rs1⟩ := rep_tup.mp r2
    obtain rfl : u = Value.ref a := ry
    obtain ⟨its, va, ta, _⟩ := I.tuple q1.t
    cases d with
    | tup es => exact absurd rfl hd
    | non => have z := rep_non.mp r1; subst z; obtain rfl : v = Value.none := rx; exact RcNeAt.none_tuple ta hu _ _ _ _ fin
    | int i => have z := rep_int.mp r1; subst z; obtain ⟨t, rfl⟩ := rx; exact RcNeAt.int_tuple _ _ ta hu _ _ _ _ fin
    | str i => have z := rep_str.mp r1; subst z; obtain ⟨t, rfl⟩ := rx; exact RcNeAt.str_tuple _ _ ta hu _ _ _ _ fin
    | bl i => have z := rep_bl.mp r1; subst z; obtain rfl : v = Value.bool _ := rx; exact RcNeAt.bool_tuple _ ta hu _ _ _ _ fin
    | _ => simp [cmp, scl] at hc
  cases d with
  | tup ds => exact left ds rfl
  | _ =>
    cases e with
    | tup es => exact right es rfl
    | _ => exact absurd rfl hd
open Classical in
def gEqV (f : Bool → Bool) : G2 := fun d e S P => cmp d e = true ∧ dep d ≤ 64 ∧ P (.bl (f (decide (d = e)))) S
theorem not_tup : ∀ {d e : Dv}, cmp d e = true → tup? d = false → tup? e = false → scl d e = true := by
  intro d e h h1 h2
  cases d <;> first | exact absurd h1.symm Bool.false_ne_true | skip
  all_goals cases e <;> first | exact absurd h2.symm Bool.false_ne_true | simpa only [cmp] using h
open Classical in
theorem c_neV (hu : X.A.units + 65 < cLine) : OpG X (compareOp .NotEq) (gEqV not) := ⟨_, (op_ne.or (op_neV hu)).or (op_neUn (by omega)), fun d e S P q v u H Q r rv ru hp => by
  obtain ⟨q1, q2, q3⟩ := q
  by_cases t1 : tup? d = true
  · by_cases t2 : tup? e = true
    · refine .inl (.inr ⟨d, e, rv, ru, q1, q2, t1, t2, fun c hc => hp _ _ q3 _ _ .refl r (rep_bl.mpr ?_)⟩)
      have : c = decide (d = e) := by rw [Bool.eq_iff_iff, hc]; simp
      simp [this]
    · refine .inr ⟨d, e, rv, ru, q1, by simp [t1, t2], hp _ _ q3 _ _ .refl r (rep_bl.mpr ?_)⟩
      have : d ≠ e := fun z => by rw [z] at t1; exact t2 t1
      simp [this]
  · by_cases t2 : tup? e = true
    · refine .inr ⟨d, e, rv, ru, q1, by simp [t1, t2], hp _ _ q3 _ _ .refl r (rep_bl.mpr ?_)⟩
      have : d ≠ e := fun z => by rw [z] at t1; exact t1 t2
      simp [this]
    · have hs := not_tup q1 (by simpa using t1) (by simpa using t2)
      obtain ⟨h1, h2⟩ := scl_rep hs rv ru
      refine .inl (.inl ⟨h1, hp _ _ q3 _ _ .refl r (rep_bl.mpr ?_)⟩)
      simp [h2]⟩
open Classical in
theorem c_eqV (hu : X.A.units + 65 < cLine) : OpG X (compareOp .Eq) (fun d e S P => gEqV id d e S P ∧ tup? d = tup? e) := ⟨_, op_eq.or (op_eqV hu), fun d e S P q v u H Q r rv ru hp => by
  obtain ⟨⟨q1, q2, q3⟩, q4⟩ := q
  by_cases t1 : tup? d = true
  · refine .inr ⟨d, e, rv, ru, q1, q2, t1, q4 ▸ t1, fun c hc => hp _ _ q3 _ _ .refl r (rep_bl.mpr ?_)⟩
    have : c = decide (d = e) := by rw [Bool.eq_iff_iff, hc]; simp
    simp [this]
  · have hs := not_tup q1 (by simpa using t1) (by rw [← q4]; simpa using t1)
    obtain ⟨h1, h2⟩ := scl_rep hs rv ru
    refine .inl ⟨h1, hp _ _ q3 _ _ .refl r (rep_bl.mpr ?_)⟩
    simp [h2]⟩
end
end Sb

/-! Values that repr shows, whatever their form: how much they cost, how deep they are. -/
namespace Sb
open PySem PySem.Spec PyProof.Rows L2
mutual
def pok : PyData → Bool
  | .none => true
  | .bool _ => true
  | .int i => decide (i.natAbs.log2 < 1920)
  | .str x => PyData.strOk x
  | .list xs => poks xs
  | .tuple xs => poks xs
  | .dict kvs => poksKv kvs
def poks : List PyData → Bool
  | [] => true
  | x :: xs => pok x && poks xs
def poksKv : List (PyData × PyData) → Bool
  | [] => true
  | (k, v) :: r => pok k && pok v && poksKv r
end
mutual
def pcost : PyData → Nat
  | .none => 4
  | .bool _ => 5
  | .int _ => 2000
  | .str x => 10 * x.length + 2
  | .list xs => pcosts xs + 2
  | .tuple xs => pcosts xs + 2
  | .dict kvs => pcostsKv kvs + 2
def pcosts : List PyData → Nat
  | [] => 0
  | x :: xs => pcost x + 2 + pcosts xs
def pcostsKv : List (PyData × PyData) → Nat
  | [] => 0
  | (k, v) :: r => pcost k + 2 + (pcost v + 2) + pcostsKv r
end
theorem dictText_le (ts : List Str) : (dictText ts).length ≤ piled ts + 2 := by
  have e : (dictText ts).length = 1 + (Str.join ", " ts).length + 1 := by
    show (("{" : Str) ++ Str.join ", " ts ++ ("}" : Str)).length = _
    rw [strLen_append, strLen_append]; rfl
  cases ts with
  | nil => rw [e]; simp [piled_nil]; decide
  | cons t r =>
    have := join_length_add (t :: r) (by simp)
    omega
theorem listText_le (ts : List Str) : (listText ts).length ≤ piled ts + 2 := by
  show (textFrom 0 "[" ts ++ "]").length ≤ _
  rw [strLen_append]
  cases ts with
  | nil => decide
  | cons t r =>
    show (textFrom (0 + 1) _ r).length + _ ≤ _
    rw [textFrom_length_pos _ _ _ (Nat.succ_pos 0), piled_cons, strLen_append, strLen_append]
    show 1 + 0 + t.length + piled r + 1 ≤ _
    omega
mutual
theorem pshown : ∀ x : PyData, pok x = true → x.showable = true ∧ x.shown.length ≤ pcost x
  | .none, _ => ⟨by simp [PyData.showable], by simp only [PyData.shown, pcost]; decide⟩
  | .bool b, _ => ⟨by simp [PyData.showable], by cases b <;> simp only [PyData.shown, pcost] <;> decide⟩
  | .int i, h => by
    simp only [pok, decide_eq_true_eq] at h
    exact ⟨by simpa [PyData.showable] using h, by simp only [PyData.shown, pcost]; exact int_len h⟩
  | .str x, h => by
    simp only [pok] at h
    refine ⟨by simp [PyData.showable], ?_⟩
    simp only [PyData.shown, pcost]
    refine StrLaws.reprText_len x fun c hc => ?_
    unfold PyData.strOk at h
    rw [← Array.all_toList, List.all_eq_true] at h
    have := h c hc
    simp only [decide_eq_true_eq] at this
    omega
  | .list xs, h => by
    simp only [pok] at h
    obtain ⟨a, b⟩ := pshowns xs h
    refine ⟨by simpa [PyData.showable] using a, ?_⟩
    simp only [PyData.shown, pcost]
    have := listText_le (PyData.shownAll xs)
    omega
  | .tuple xs, h => by
    simp only [pok] at h
    obtain ⟨a, b⟩ := pshowns xs h
    refine ⟨by simpa [PyData.showable] using a, ?_⟩
    simp only [PyData.shown, pcost]
    have := fmt_text (PyData.shownAll xs)
    omega
  | .dict kvs, h => by
    simp only [pok] at h
    obtain ⟨a, b⟩ := pshownKv kvs h
    refine ⟨by simpa [PyData.showable] using a, ?_⟩
    simp only [PyData.shown, pcost]
    have := dictText_le (PyData.shownKv kvs)
    omega
theorem pshownKv : ∀ kvs : List (PyData × PyData), poksKv kvs = true → PyData.showableKv kvs = true ∧ piled (PyData.shownKv kvs) ≤ pcostsKv kvs
  | [], _ => by simp [PyData.showableKv, PyData.shownKv, piled_nil, pcostsKv]
  | (k, v) :: r, h => by
    simp only [poksKv, Bool.and_eq_true] at h
    obtain ⟨a1, a2⟩ := pshown k h.1.1
    obtain ⟨b1, b2⟩ := pshown v h.1.2
    obtain ⟨c1, c2⟩ := pshownKv r h.2
    refine ⟨by simp [PyData.showableKv, a1, b1, c1], ?_⟩
    simp only [PyData.shownKv, piled_cons, pcostsKv]
    have e : (k.shown ++ (": " : Str) ++ v.shown).length = k.shown.length + 2 + v.shown.length := by rw [strLen_append, strLen_append]; rfl
    rw [e]
    omega
theorem pshowns : ∀ xs : List PyData, poks xs = true → PyData.showableAll xs = true ∧ piled (PyData.shownAll xs) ≤ pcosts xs
  | [], _ => by simp [PyData.showableAll, PyData.shownAll, piled_nil, pcosts]
  | x :: xs, h => by
    simp only [poks, Bool.and_eq_true] at h
    obtain ⟨a1, a2⟩ := pshown x h.1
    obtain ⟨b1, b2⟩ := pshowns xs h.2
    refine ⟨by simp [PyData.showableAll, a1, b1], ?_⟩
    simp only [PyData.shownAll, piled_cons, pcosts]
    omega
end
/-! ### stores that grow -/
def Ext (S S' : Store) : Prop := ∀ a o, S a = some o → S' a = some o
theorem Ext.refl {S : Store} : Ext S S := fun _ _ h => h
theorem Ext.trans {S S1 S2 : Store} (h : Ext S S1) (k : Ext S1 S2) : Ext S S2 := fun a o e => k a o (h a o e)
theorem Ext.new {S : Store} {p : Addr} {o : O} (h : S p = none) : Ext S (up S p o) := fun a u e => by rw [up_ne (some_ne e h)]; exact e
mutual
theorem datE_mono {f g : Addr → Option PyData} (hf : ∀ a x, f a = some x → g a = some x) : ∀ (d : Dv) (x : PyData), datE f d = some x → datE g d = some x
  | .non, _, h => h
  | .bl _, _, h => h
  | .int _, _, h => h
  | .str _, _, h => h
  | .ty _, _, h => h
  | .scr _, _, h => h
  | .ref a, x, h => hf a x h
  | .tup ds, x, h => by
    obtain ⟨xs, q1, rfl⟩ := Option.map_eq_some_iff.mp (show (datEs f ds).map PyData.tuple = some x from h)
    show (datEs g ds).map PyData.tuple = _
    rw [datEs_mono hf ds xs q1]; rfl
theorem datEs_mono {f g : Addr → Option PyData} (hf : ∀ a x, f a = some x → g a = some x) : ∀ (ds : List Dv) (xs : List PyData), datEs f ds = some xs → datEs g ds = some xs
  | [], _, h => h
  | d :: ds, xs, h => by
    obtain ⟨x, q1, q2⟩ := Option.bind_eq_some_iff.mp (show ((datE f d).bind fun x => (datEs f ds).map fun xs => x :: xs) = some xs from h)
    obtain ⟨ys, q3, rfl⟩ := Option.map_eq_some_iff.mp q2
    show ((datE g d).bind fun x => (datEs g ds).map fun xs => x :: xs) = _
    rw [datE_mono hf d x q1, datEs_mono hf ds ys q3]; rfl
end
theorem resX_ext {S S' : Store} (h : Ext S S') : ∀ (n : Nat) (a : Addr) (x : PyData), resX S n a = some x → resX S' n a = some x
  | 0, _, _, e => by cases (show none = some _ from e)
  | n + 1, a, x, e => by
    unfold resX at e ⊢
    split at e
    · rename_i ds q
      obtain ⟨xs, q1, rfl⟩ := Option.map_eq_some_iff.mp e
      rw [h a _ q]
      simp only [datEs_mono (resX_ext h n) ds xs q1, Option.map_some]
    · rename_i q
      rw [h a _ q]; exact e
    · rename_i kvs q
      obtain ⟨ks, q1, e⟩ := Option.bind_eq_some_iff.mp e
      obtain ⟨vs, q2, rfl⟩ := Option.map_eq_some_iff.mp e
      rw [h a _ q]
      simp only [datEs_mono (resX_ext h n) _ ks q1, datEs_mono (resX_ext h n) _ vs q2, Option.bind_some, Option.map_some]
    · cases e
theorem resX_succ {S : Store} : ∀ (n : Nat) (a : Addr) (x : PyData), resX S n a = some x → resX S (n + 1) a = some x
  | 0, _, _, e => by cases (show none = some _ from e)
  | n + 1, a, x, e => by
    unfold resX at e
    rw [resX]
    split at e
    · rename_i ds q
      obtain ⟨xs, q1, rfl⟩ := Option.map_eq_some_iff.mp e
      simp only [datEs_mono (resX_succ n) ds xs q1, Option.map_some]
    · exact e
    · rename_i kvs q
      obtain ⟨ks, q1, e⟩ := Option.bind_eq_some_iff.mp e
      obtain ⟨vs, q2, rfl⟩ := Option.map_eq_some_iff.mp e
      simp only [datEs_mono (resX_succ n) _ ks q1, datEs_mono (resX_succ n) _ vs q2, Option.bind_some, Option.map_some]
    · cases e
theorem resX_le {S : Store} {n m : Nat} (h : n ≤ m) : ∀ (a : Addr) (x : PyData), resX S n a = some x → resX S m a = some x := by
  induction h with
  | refl => exact fun _ _ e => e
  | step _ ih => exact fun a x e => resX_succ _ a x (ih a x e)
/-- d is shown: lists n deep, at most c signs, D deep -/
def Good (S : Store) (n c D : Nat) (d : Dv) : Prop := ∃ x, datE (resX S n) d = some x ∧ pok x = true ∧ pcost x ≤ c ∧ x.depth ≤ D
def GoodL (S : Store) (n c D : Nat) (ds : List Dv) : Prop := ∃ xs, datEs (resX S n) ds = some xs ∧ poks xs = true ∧ pcosts xs ≤ c ∧ PyData.depthAll xs ≤ D
section
variable {S S' : Store} {n n' c c' D D' : Nat} {d : Dv} {ds es : List Dv} {p : Addr}
theorem Good.mono (h : Good S n c D d) (hS : Ext S S') (hn : n ≤ n') (hc : c ≤ c') (hD : D ≤ D') : Good S' n' c' D' d := by
  obtain ⟨x, e, a, b, k⟩ := h
  exact ⟨x, datE_mono (fun q y z => resX_ext hS _ q y (resX_le hn q y z)) d x e, a, Nat.le_trans b hc, Nat.le_trans k hD⟩
theorem GoodL.mono (h : GoodL S n c D ds) (hS : Ext S S') (hn : n ≤ n') (hc : c ≤ c') (hD : D ≤ D') : GoodL S' n' c' D' ds := by
  obtain ⟨x, e, a, b, k⟩ := h
  exact ⟨x, datEs_mono (fun q y z => resX_ext hS _ q y (resX_le hn q y z)) ds x e, a, Nat.le_trans b hc, Nat.le_trans k hD⟩
theorem GoodL.nil : GoodL S n c D [] := ⟨[], rfl, rfl, Nat.zero_le _, Nat.zero_le _⟩
theorem GoodL.cons (h : Good S n c D d) (k : GoodL S n c' D ds) : GoodL S n (c + 2 + c') D (d :: ds) := by
  obtain ⟨x, e1, a1, b1, k1⟩ := h
  obtain ⟨xs, e2, a2, b2, k2⟩ := k
  refine ⟨x :: xs, ?_, by simp [poks, a1, a2], by simp only [pcosts]; omega, by simp only [PyData.depthAll]; omega⟩
  show ((datE _ d).bind fun x => (datEs _ ds).map fun xs => x :: xs) = _
  rw [e1, e2]; rfl
theorem GoodL.cons_inv (h : GoodL S n c D (d :: ds)) : ∃ c1 c2, c1 + 2 + c2 ≤ c ∧ Good S n c1 D d ∧ GoodL S n c2 D ds := by
  obtain ⟨zs, e, a, b, k⟩ := h
  obtain ⟨x, q1, q2⟩ := Option.bind_eq_some_iff.mp (show ((datE _ d).bind fun x => (datEs _ ds).map fun xs => x :: xs) = some zs from e)
  obtain ⟨xs, q3, rfl⟩ := Option.map_eq_some_iff.mp q2
  simp only [poks, Bool.and_eq_true] at a
  simp only [pcosts] at b
  simp only [PyData.depthAll] at k
  exact ⟨pcost x, pcosts xs, b, ⟨x, q1, a.1, Nat.le_refl _, by omega⟩, ⟨xs, q3, a.2, Nat.le_refl _, by omega⟩⟩
theorem GoodL.append : ∀ {ds : List Dv} {c : Nat}, GoodL S n c D ds → GoodL S n c' D es → GoodL S n (c + c') D (ds ++ es)
  | [], c, _, k => k.mono .refl (Nat.le_refl _) (by omega) (Nat.le_refl _)
  | d :: ds, c, h, k => by
    obtain ⟨c1, c2, hc, h1, h2⟩ := h.cons_inv
    exact (GoodL.cons h1 (GoodL.append h2 k)).mono .refl (Nat.le_refl _) (by omega) (Nat.le_refl _)
theorem GoodL.split : ∀ {ds : List Dv} {c : Nat}, GoodL S n c D (ds ++ es) → ∃ c1 c2, c1 + c2 ≤ c ∧ GoodL S n c1 D ds ∧ GoodL S n c2 D es
  | [], c, h => ⟨0, c, by omega, .nil, h⟩
  | d :: ds, c, h => by
    obtain ⟨a1, a2, ha, h1, h2⟩ := GoodL.cons_inv (show GoodL S n c D (d :: (ds ++ es)) from h)
    obtain ⟨b1, b2, hb, k1, k2⟩ := GoodL.split h2
    exact ⟨a1 + 2 + b1, b2, by omega, GoodL.cons h1 k1, k2⟩
theorem GoodL.take (h : GoodL S n c D ds) (i : Nat) : GoodL S n c D (ds.take i) := by
  rw [← List.take_append_drop i ds] at h
  obtain ⟨c1, c2, hc, h1, _⟩ := h.split
  exact h1.mono .refl (Nat.le_refl _) (by omega) (Nat.le_refl _)
theorem GoodL.drop (h : GoodL S n c D ds) (i : Nat) : GoodL S n c D (ds.drop i) := by
  rw [← List.take_append_drop i ds] at h
  obtain ⟨c1, c2, hc, _, h1⟩ := h.split
  exact h1.mono .refl (Nat.le_refl _) (by omega) (Nat.le_refl _)
/-- ahead of the i-th one, it, and behind it -/
theorem GoodL.at_ {i : Nat} (h : GoodL S n c D ds) (hd : ds[i]? = some d) : ∃ c1 c2 c3, c1 + c2 + 2 + c3 ≤ c ∧ GoodL S n c1 D (ds.take i) ∧ Good S n c2 D d ∧ GoodL S n c3 D (ds.drop (i + 1)) := by
  obtain ⟨hi, rfl⟩ := List.getElem?_eq_some_iff.mp hd
  have e : ds = ds.take i ++ ds[i] :: ds.drop (i + 1) := by
    rw [List.getElem_cons_drop, List.take_append_drop]
  rw [e] at h
  obtain ⟨c1, c2, hc, h1, h2⟩ := h.split
  obtain ⟨c3, c4, hc2, h3, h4⟩ := h2.cons_inv
  exact ⟨c1, c3, c4, by omega, h1, h3, h4⟩
theorem GoodL.mem : ∀ {ds : List Dv} {c : Nat}, GoodL S n c D ds → ∀ d ∈ ds, Good S n c D d
  | [], _, _, _, hm => by cases hm
  | e :: ds, c, h, d, hm => by
    obtain ⟨c1, c2, hc, h1, h2⟩ := h.cons_inv
    rcases List.mem_cons.mp hm with rfl | hm
    · exact h1.mono .refl (Nat.le_refl _) (by omega) (Nat.le_refl _)
    · exact (GoodL.mem h2 d hm).mono .refl (Nat.le_refl _) (by omega) (Nat.le_refl _)
theorem GoodL.len : ∀ {ds : List Dv} {c : Nat}, GoodL S n c D ds → 2 * ds.length ≤ c
  | [], _, _ => by simp
  | d :: ds, c, h => by
    obtain ⟨c1, c2, hc, h1, h2⟩ := h.cons_inv
    have := GoodL.len h2
    simp only [List.length_cons]
    omega
theorem Good.tup (h : GoodL S n c D ds) : Good S n (c + 2) (D + 1) (.tup ds) := by
  obtain ⟨xs, e, a, b, k⟩ := h
  refine ⟨.tuple xs, ?_, by simpa only [pok] using a, by simp only [pcost]; omega, by simp only [PyData.depth]; omega⟩
  show (datEs _ ds).map PyData.tuple = _
  rw [e]; rfl
theorem Good.tup_inv (h : Good S n c D (.tup ds)) : ∃ c' D', c = c' + 2 ∧ D = D' + 1 ∧ GoodL S n c' D' ds := by
  obtain ⟨x, e, a, b, k⟩ := h
  obtain ⟨xs, q, rfl⟩ := Option.map_eq_some_iff.mp (show (datEs _ ds).map PyData.tuple = some x from e)
  simp only [pok] at a
  simp only [pcost] at b
  simp only [PyData.depth] at k
  exact ⟨c - 2, D - 1, by omega, by omega, xs, q, a, by omega, by omega⟩
theorem Good.lst (h : GoodL S n c D ds) (hp : S p = none) : Good (up S p (.lst ds)) (n + 1) (c + 2) (D + 1) (.ref p) := by
  obtain ⟨xs, e, a, b, k⟩ := h.mono (Ext.new (o := .lst ds) hp) (Nat.le_refl _) (Nat.le_refl _) (Nat.le_refl _)
  refine ⟨.list xs, ?_, by simpa only [pok] using a, by simp only [pcost]; omega, by simp only [PyData.depth]; omega⟩
  show resX _ (n + 1) p = _
  rw [resX, up_same]
  simp only [e, Option.map_some]
theorem Good.dct (h : S p = some (.dct [])) (hc : 2 ≤ c) (hD : 1 ≤ D) : Good S (n + 1) c D (.ref p) := by
  refine ⟨.dict [], ?_, rfl, hc, hD⟩
  show resX _ (n + 1) p = _
  rw [resX, h]
theorem pcostsKv_zip : ∀ {ks vs : List PyData}, ks.length = vs.length → pcostsKv (ks.zip vs) = pcosts ks + pcosts vs ∧ poksKv (ks.zip vs) = (poks ks && poks vs) ∧ PyData.depthKv (ks.zip vs) = max (PyData.depthAll ks) (PyData.depthAll vs)
  | [], [], _ => by simp [pcostsKv, pcosts, poksKv, poks, PyData.depthKv, PyData.depthAll]
  | [], _ :: _, h => by simp at h
  | _ :: _, [], h => by simp at h
  | k :: ks, v :: vs, h => by
    obtain ⟨h1, h2, h3⟩ := pcostsKv_zip (ks := ks) (vs := vs) (by simpa using h)
    refine ⟨by simp only [List.zip_cons_cons, pcostsKv, pcosts, h1]; omega, ?_, by simp only [List.zip_cons_cons, PyData.depthKv, PyData.depthAll, h3]; omega⟩
    simp only [List.zip_cons_cons, poksKv, poks, h2]
    cases pok k <;> cases pok v <;> cases poks ks <;> cases poks vs <;> rfl
theorem Good.ndc {kvs : List (Dv × Dv)} {c1 c2 : Nat} (h : S p = some (.ndc kvs)) (g1 : GoodL S n c1 D (kvs.map fun p => p.1)) (g2 : GoodL S n c2 D (kvs.map fun p => p.2)) (hc : c1 + c2 + 2 ≤ c) : Good S (n + 1) c (D + 1) (.ref p) := by
  obtain ⟨ks, e1, a1, b1, k1⟩ := g1
  obtain ⟨vs, e2, a2, b2, k2⟩ := g2
  have l1 := datEs_len e1
  have l2 := datEs_len e2
  obtain ⟨z1, z2, z3⟩ := pcostsKv_zip (ks := ks) (vs := vs) (by simp at l1 l2; omega)
  refine ⟨.dict (ks.zip vs), ?_, by simp only [pok, z2, a1, a2]; rfl, by simp only [pcost, z1]; omega, by simp only [PyData.depth, z3]; omega⟩
  show resX _ (n + 1) p = _
  rw [resX, h]
  simp only [e1, e2, Option.bind_some, Option.map_some]
theorem Good.int {i : Int} (h : i.natAbs.log2 < 1920) (hc : 2000 ≤ c) : Good S n c D (.int i) := ⟨.int i, rfl, by simpa [pok] using h, hc, Nat.zero_le _⟩
theorem Good.bl {b : Bool} (hc : 5 ≤ c) : Good S n c D (.bl b) := ⟨.bool b, rfl, rfl, hc, Nat.zero_le _⟩
theorem Good.non (hc : 4 ≤ c) : Good S n c D .non := ⟨.none, rfl, rfl, hc, Nat.zero_le _⟩
theorem Good.str {x : Str} (h : PyData.strOk x = true) (hc : 10 * x.length + 2 ≤ c) : Good S n c D (.str x) := ⟨.str x, rfl, h, hc, Nat.zero_le _⟩
theorem Good.kn (h : Good S n c D d) (hn : ∀ a kvs, d = .ref a → S a ≠ some (.ndc kvs)) : ∃ t, tn S d = some t := by
  obtain ⟨x, e, _⟩ := h
  cases d with
  | ty m => cases (show none = some x from e)
  | ref a =>
    have e : resX S n a = some x := e
    cases n with
    | zero => cases e
    | succ n =>
      unfold resX at e
      simp only [tn]
      split at e
      · rename_i q; rw [q]; exact ⟨_, rfl⟩
      · rename_i q; rw [q]; exact ⟨_, rfl⟩
      · rename_i kvs z; exact absurd z (hn a kvs rfl)
      · cases e
  | _ => exact ⟨_, rfl⟩
/-- the text -/
def shwX (S : Store) (d : Dv) : Str := match datX S d with | some x => x.shown | none => ""
theorem gReprX_good {P : DK} (h : Good S n c D d) (hn : n ≤ 6) (hc : c ≤ 16777216) (hD : D ≤ 64) : gReprX [d] S P ↔ P (.str (shwX S d)) S := by
  obtain ⟨x, e, a, b, k⟩ := h
  have e : datX S d = some x := datE_mono (resX_le hn) d x e
  obtain ⟨h1, h2⟩ := pshown x a
  simp only [gReprX, shwX, e, h1, szl, true_and]
  exact ⟨fun q => q.2.2, fun q => ⟨by omega, by omega, q⟩⟩
theorem shwX_ext (h : Good S n c D d) (hn : n ≤ 6) (hS : Ext S S') : shwX S' d = shwX S d := by
  obtain ⟨x, e, _⟩ := h
  have e1 : datX S d = some x := datE_mono (resX_le hn) d x e
  have e2 : datX S' d = some x := datE_mono (resX_ext hS 6) d x e1
  simp only [shwX, e1, e2]
end
end Sb

/-! Dict comprehensions over keys of any depth. -/
namespace Sb
open PySem PySem.Spec PyProof.Rows L2
/-- a dict over keys of any depth, filled -/
def fillN {X : Cx} (hu : X.A.units + 64 < cLine) : Fill X where
  emp := fun D => NdO X.w D []
  put := fun H D y z N => ∃ es k, H D = some (NdO X.w D es) ∧ NdK X.K H es ∧ es.length < sizeLine ∧ KeyV X.K H k y ∧ k.depth ≤ 8 ∧ N (upd H D (NdO X.w D (nput es k y z)))
  new := fun H h hb => ndo_empty h hb
  set := @fun s0 H0 scope env fp pins τ H s D y z u r N Q E I ry rz hp hq => by
    obtain ⟨es, k, e, kk, hl, hk, dk, n⟩ := hp
    exact ndr_set (X := X.blk s0 H0 scope env fp) (A := X.A) (by omega) I e kk hl hk dk ry rz fun s' I' => hq _ s' n I'
def dcRun (p : Pat) (tt : DTT) (tk tv : DTE) (δ : DSt) (G : Grd) (D : Addr) (P : DK) : List Dv → Store → Prop
  | [], S => G S ∧ P (.ref D) S
  | x :: xs, S => G S ∧ match pset p x δ with
    | some δ1 => tt δ1 S fun b S2 => if b = true then tk δ1 S2 fun y S3 => tv δ1 S3 fun z S4 => (match S4 D with
        | some (.ndc kvs) => kOk 8 y = true ∧ kvs.length < sizeLine ∧ dcRun p tt tk tv δ G D P xs (up S4 D (.ndc (dput kvs y z)))
        | _ => False) else dcRun p tt tk tv δ G D P xs S2
    | none => False
def dDc (wi : DTI) (p : Pat) (tt : DTT) (tk tv : DTE) (vs : List Nat) : DTE := fun δ S P => wi δ S fun items G S1 => ∀ D, S1 D = none → dcRun p tt tk tv (wipeD δ vs) G D P items (up S1 D (.ndc []))
section
variable {X : Cx} {H0 : Hp}
theorem dc_lift (hu : X.A.units + 64 < cLine) {wi : DTI} {p : Pat} {tt : DTT} {tk tv : DTE} {vs : List Nat} (hv : ∀ i ∈ pslots p, i ∈ vs) : ∀ σ H Q, liftE X.kw H0 (dDc wi p tt tk tv vs) σ H Q → tDcG (fillN hu) (liftI X.kw H0 wi) (gP X.kw p) (liftT X.kw H0 tt) (liftE X.kw H0 tk) (liftE X.kw H0 tv) vs σ H Q := fun σ H Q h => by
  obtain ⟨δ, S, P, w, ht, hp⟩ := h
  refine ⟨δ, S, _, w, ht, fun items G S1 q J H1 k1 r1 sv => fun D hD => ?_⟩
  have q := q D (r1.free hD)
  have hk0 : Keep X.kw H1 (upd H1 D (NdO X.w D [])) := .new hD
  have rl : Rel X.kw (up S1 D (.ndc [])) (upd H1 D (NdO X.w D [])) := r1.laid hD fun own ow => ⟨ow, [], upd_same, rfl⟩
  refine ⟨fun i m H' => m = items.length - i ∧ i ≤ items.length ∧ ∃ S', Keep X.kw H1 H' ∧ Rel X.kw S' H' ∧ dcRun p tt tk tv (wipeD δ vs) G D P (items.drop i) S', ⟨_, rfl, Nat.zero_le _, _, hk0, rl, q⟩, ?_⟩
  rintro i m H2 ⟨rfl, hi, S2, k2, r2, q2⟩
  by_cases hlt : i < items.length
  · rw [List.drop_eq_getElem_cons hlt] at q2
    simp only [dcRun] at q2
    obtain ⟨g, q2⟩ := q2
    obtain ⟨go, yld⟩ := (sv i S2 H2 k2 r2 g).2 items[i] (List.getElem?_eq_getElem hlt)
    refine .inr ⟨go, fun H' => ∃ S', Keep X.kw H1 H' ∧ Rel X.kw S' H' ∧ dcRun p tt tk tv (wipeD δ vs) G D P (items.drop (i + 1)) S', fun H' z => ⟨_, by omega, rfl, hlt, z⟩, fun x H3 y => ?_⟩
    obtain ⟨k3, r3, rx⟩ := yld x H3 y
    cases e : pset p items[i] (wipeD δ vs) with
    | none => rw [e] at q2; exact q2.elim
    | some δ3 =>
      rw [e] at q2
      have w3 : Wd X.kw H0 (wipe σ vs) (wipeD δ vs) S2 H3 := (wd_wipe w vs).keep (k1.trans (k2.trans k3)) r3
      refine pset_ok p _ x _ _ δ3 e rx w3 _ fun σ4 w4 hw4 => ⟨by rw [hw4 vs hv]; exact wipe_sub vs fun _ z => z, δ3, S2, _, w4, q2, fun b S5 q5 H5 k5 r5 => ?_⟩
      cases b with
      | false => exact ⟨S5, k2.trans (k3.trans k5), r5, q5⟩
      | true =>
        refine ⟨δ3, S5, _, w4.keep k5 r5, q5, fun y S6 q6 yv H6 k6 r6 p6 => ⟨δ3, S6, _, w4.keep (k5.trans k6) r6, q6, fun z S7 q7 zv H7 k7 r7 p7 => ?_⟩⟩
        split at q7
        · rename_i kvs e7
          obtain ⟨es, hes, n⟩ := r7.ndc e7
          obtain ⟨k', hk', dk⟩ := kOk_key 8 y q7.1
          have kk := keep_nd (K := X.kw) (o := NdO X.w D (nput es k' yv zv)) hes
          refine ⟨es, k', hes, n.ndk, by rw [n.length]; exact q7.2.1, keyV_of y k' yv hk' (p6.keep k7), dk, _, (k2.trans (k3.trans (k5.trans (k6.trans k7)))).trans kk, ?_, q7.2.2⟩
          exact r7.ndcw e7 hes (n.put hk' dk (p6.keep k7) p7)
        · exact q7.elim
  · have e : i = items.length := by omega
    subst e
    rw [List.drop_length] at q2
    simp only [dcRun] at q2
    exact .inl ⟨(sv _ S2 H2 k2 r2 q2.1).1 rfl, hp _ _ q2.2 _ _ (k1.trans k2) r2 (rep_ref.mpr rfl)⟩
theorem de_dc {kx vx tg iter : Expr} {ifs : List Expr} {scope : Scope} {own : List (Str × Nat)} {pos : Pos} {wi : DTI} {p : Pat} {tt : DTT} {tk tv : DTE} (hu : X.A.units + 64 < cLine) (hc : X.calm = true) (hN : X.N.Nodup) (hi : DI X H0 tg iter wi) (ok : BlkOk X.N X.env.scope scope own)
    (hg : ∀ (s : Shared) (H : Hp) (C : Addr) (cl : List (Str × Addr)) (fp : List Addr), DP (X.blk s H scope (compEnvC scope cl C X.env) fp) tg p)
    (ht : ∀ (s : Shared) (H : Hp) (C : Addr) (cl : List (Str × Addr)) (fp : List Addr), DTs (X.blk s H scope (compEnvC scope cl C X.env) fp) H0 ifs tt)
    (hk : ∀ (s : Shared) (H : Hp) (C : Addr) (cl : List (Str × Addr)) (fp : List Addr), DE (X.blk s H scope (compEnvC scope cl C X.env) fp) H0 kx tk)
    (he : ∀ (s : Shared) (H : Hp) (C : Addr) (cl : List (Str × Addr)) (fp : List Addr), DE (X.blk s H scope (compEnvC scope cl C X.env) fp) H0 vx tv)
    (hv : ∀ i ∈ pslots p, i ∈ own.map (·.2) := by decide) (hs : ∀ x, foldedSetIterable iter X.env x = pure x := by intro _; rfl) :
    DE X H0 (.DictComp kx vx [⟨tg, iter, ifs, 0⟩] scope pos) (dDc wi p tt tk tv (own.map (·.2))) := (pe_dcG (fillN hu) (g := gP X.kw p) (tt := liftT X.kw H0 tt) (tk := liftE X.kw H0 tk) (tv := liftE X.kw H0 tv) hc hN hi ok hg ht hk he hs).to (dc_lift hu hv)
/-- y = {k: v for ..} -/
theorem ds_setDc {i : Nat} {y : Str} {py : Pos} {kx vx tg iter : Expr} {ifs : List Expr} {scope : Scope} {own : List (Str × Nat)} {pos spos : Pos} {wi : DTI} {p : Pat} {tt : DTT} {tk tv : DTE} (hu : X.A.units + 64 < cLine) (hc : X.calm = true) (hN : X.N.Nodup) (hi : DI X H0 tg iter wi) (ok : BlkOk X.N X.env.scope scope own)
    (hg : ∀ (s : Shared) (H : Hp) (C : Addr) (cl : List (Str × Addr)) (fp : List Addr), DP (X.blk s H scope (compEnvC scope cl C X.env) fp) tg p)
    (ht : ∀ (s : Shared) (H : Hp) (C : Addr) (cl : List (Str × Addr)) (fp : List Addr), DTs (X.blk s H scope (compEnvC scope cl C X.env) fp) H0 ifs tt)
    (hk : ∀ (s : Shared) (H : Hp) (C : Addr) (cl : List (Str × Addr)) (fp : List Addr), DE (X.blk s H scope (compEnvC scope cl C X.env) fp) H0 kx tk)
    (he : ∀ (s : Shared) (H : Hp) (C : Addr) (cl : List (Str × Addr)) (fp : List Addr), DE (X.blk s H scope (compEnvC scope cl C X.env) fp) H0 vx tv)
    (hy : X.N[i]? = some y := by rfl) (hyl : X.env.scope.names.lookup y = some .local := by rfl)
    (hsw : swapsWith (.DictComp kx vx [⟨tg, iter, ifs, 0⟩] scope pos) (some (.Name y py)) spos.line X.env = pure true := by exact sw_dict rfl rfl rfl (by decide +kernel))
    (hv : ∀ i ∈ pslots p, i ∈ own.map (·.2) := by decide) (hs : ∀ x, foldedSetIterable iter X.env x = pure x := by intro _; rfl) :
    DS X H0 (.Assign [.Name y py] (.DictComp kx vx [⟨tg, iter, ifs, 0⟩] scope pos) spos) (dSet i (dDc wi p tt tk tv (own.map (·.2)))) := (ps_setDc (fillN hu) (g := gP X.kw p) (tt := liftT X.kw H0 tt) (tk := liftE X.kw H0 tk) (tv := liftE X.kw H0 tv) hc hN hy hyl hsw hi ok hg ht hk he hs).to fun D σ H h => by
  obtain ⟨δ, S, D', w, ht, hp⟩ := h
  exact dc_lift hu hv σ H _ ⟨δ, S, _, w, ht, fun d S1 q v H1 k1 r1 p1 => hp.nx _ _ q _ _ k1 ((w.keep k1 r1).set p1)⟩
end
end Sb

/-! sorted(xs, key=lambda x: ..), the keys triples of integers. -/
namespace Sb
open PySem PySem.Spec PyProof.Rows L2 LamX
section
variable {K : Kw} {S : Store} {H H1 : Hp} {P c : Addr} {q : Str} {ps : Array Value}
theorem Rel.tab (r : Rel K S H) (e : S P = some (.tab q)) : ∃ ps, Tab H P q ps := by
  obtain ⟨own, _, ps, h1, h2, h3⟩ := r.get e
  exact ⟨ps, h1, h2, fun pos cv hc => let ⟨c, e1, _, e2⟩ := h3 pos cv hc; ⟨c, e1, e2⟩⟩
theorem keep_tbl {o : HO} (h : H P = some (.tbl ps)) : Keep K H (upd H P o) := .upd fun u z => by
  rw [h] at z; cases z
  exact ⟨fun _ q => HO.noConfusion q, fun _ _ q => HO.noConfusion q⟩
theorem LamH.keep (l : LamH H P q ps c H1) (hP : H P = some (.tbl ps)) : Keep K H H1 := by
  cases l with
  | hit => exact .refl
  | new pos hc hcP => exact (keep_tbl hP).trans (.new (by rw [upd_ne hcP]; exact hc))
theorem LamH.rel (l : LamH H P q ps c H1) (r : Rel K S H) (e : S P = some (.tab q)) (hP : H P = some (.tbl ps)) : Rel K S H1 := by
  have kp : Keep K H H1 := l.keep hP
  cases l with
  | hit => exact r
  | new pos hc hcP =>
    have Sc := r.free hc
    obtain ⟨own, o1, o2⟩ := r.ex
    have oc : own c = none := by
      cases z : own c with
      | none => rfl
      | some a => exact absurd hc (o1 c a z).2
    refine ⟨fun b => if b = c then some P else own b, fun b a hb => ?_, fun a o ha => ?_⟩
    · by_cases hbc : b = c
      · subst hbc
        exact ⟨Sc, by rw [upd_same]; simp⟩
      · simp only [hbc, if_false] at hb
        refine ⟨(o1 b a hb).1, ?_⟩
        rw [upd_ne hbc]
        by_cases hbP : b = P
        · rw [hbP, upd_same]; simp
        · rw [upd_ne hbP]; exact (o1 b a hb).2
    · have hac : a ≠ c := fun z => by rw [z, Sc] at ha; cases ha
      by_cases haP : a = P
      · subst haP
        rw [e] at ha; cases ha
        obtain ⟨w, ps', h1, h2, h3⟩ := o2 a _ e
        rw [hP] at h1; cases h1
        refine ⟨by simp only [hac, if_false]; exact w, _, by rw [upd_ne (Ne.symm hcP), upd_same], ?_, fun p' cv hcv => ?_⟩
        · rw [show (ps ++ #[rawInt pos.line, rawInt pos.col, Value.ref c]).toList = ps.toList ++ [rawInt pos.line, rawInt pos.col, .ref c] from by simp]
          exact PySem.TriplesOk_snoc _ _ _ _ h2
        · rw [show (ps ++ #[rawInt pos.line, rawInt pos.col, Value.ref c]).toList = ps.toList ++ [rawInt pos.line, rawInt pos.col, .ref c] from by simp] at hcv
          rcases among_app _ h2 hcv with z | z
          · obtain ⟨c0, e1, e2, e3⟩ := h3 p' cv z
            have n0 : c0 ≠ c := fun z => by rw [z, hc] at e3; cases e3
            have nP : c0 ≠ a := fun z => by rw [z, w] at e2; cases e2
            exact ⟨c0, e1, by simp only [n0, if_false]; exact e2, by rw [upd_ne n0, upd_ne nP]; exact e3⟩
          · exact ⟨c, z, by simp, upd_same⟩
      · have wP : own P = none := (o2 P _ e).mine
        refine (o2 a o ha).frame kp (by simp only [hac, if_false]) (fun b hb => ?_) fun b hb nb => ?_
        · have : b ≠ c := fun z => by rw [z, oc] at hb; cases hb
          simp only [this, if_false]; exact hb
        · have n0 : b ≠ c := fun z => nb (by rw [z]; exact hc)
          have n1 : b ≠ P := fun z => by
            rcases hb with hb | hb
            · exact haP (hb ▸ z)
            · rw [z, wP] at hb; cases hb
          rw [upd_ne n0, upd_ne n1]
end
/-! ### permutations lifted -/
theorem perm_lift {α β : Type} (f : α → β) : ∀ {m n : List β}, m.Perm n → ∀ l : List α, l.map f = n → ∃ l' : List α, l'.Perm l ∧ l'.map f = m := by
  intro m n h
  induction h with
  | nil => exact fun l e => ⟨l, .refl _, e⟩
  | @cons x l1 l2 _ ih =>
    intro l e
    cases l with
    | nil => cases e
    | cons a l =>
      simp only [List.map_cons, List.cons.injEq] at e
      obtain ⟨l', p, e'⟩ := ih l e.2
      exact ⟨a :: l', p.cons a, by simp [e.1, e']⟩
  | swap x y l0 =>
    intro l e
    match l, e with
    | a :: b :: l, e =>
      simp only [List.map_cons, List.cons.injEq] at e
      exact ⟨b :: a :: l, .swap a b l, by simp [e.1, e.2.1, e.2.2]⟩
  | trans _ _ ih1 ih2 =>
    intro l e
    obtain ⟨l2, p2, e2⟩ := ih2 l e
    obtain ⟨l1, p1, e1⟩ := ih1 l2 e2
    exact ⟨l1, p1.trans p2, e1⟩
theorem range_zip {α β : Type} (da : α) (db : β) (as : List α) (bs : List β) (h : as.length = bs.length) : (List.range bs.length).map (fun i => (as.getD i da, bs.getD i db)) = as.zip bs := by
  apply List.ext_getElem
  · simp [h]
  · intro i h1 h2
    simp at h1
    simp [List.getD, h1, h ▸ h1]
theorem range_self {α : Type} (d : α) (as : List α) : (List.range as.length).map (fun i => as.getD i d) = as := by
  apply List.ext_getElem
  · simp
  · intro i h1 h2
    simp at h1
    simp [List.getD, h1]
@[simp] def sortK (P : Addr) (q : Str) (tb : DTE) (Pk : DK) (d : Dv) (S1 : Store) : Prop := match d with
  | .ref a => (match S1 a with
    | some (.lst xs) => S1 P = some (.tab q) ∧ xs.length ≤ 1000000 ∧ ∃ kf : Dv → T3, (∀ x ∈ xs, ∀ N : DK, N (.tup [.int (kf x).1, .int (kf x).2.1, .int (kf x).2.2]) S1 → tb [some x] S1 N) ∧
        ∀ ys : List Dv, ys.Perm xs → ys.Pairwise (fun x y => lex3 (kf y) (kf x) = false) → ∀ p, S1 p = none → Pk (.ref p) (up S1 p (.lst ys))
    | _ => False)
  | _ => False
/-- sorted by the triples kf -/
@[simp] def dSortK (P : Addr) (q : Str) (te tb : DTE) : DTE := fun δ S Pk => te δ S (sortK P q tb Pk)
theorem IsTri.one {h : Heap} {v : Value} {t u : T3} (a : IsTri h v t) (b : IsTri h v u) : t = u := by
  obtain ⟨x, o, t1, t2, t3, n, e, g, _, d⟩ := a
  obtain ⟨y, o', u1, u2, u3, n', e', g', _, d'⟩ := b
  rw [e] at e'; cases e'
  rw [g] at g'; cases g'
  rw [d] at d'
  obtain ⟨a1, a2, a3⟩ := t
  obtain ⟨b1, b2, b3⟩ := u
  simp only [Data.seq.injEq, Array.mk.injEq, List.cons.injEq, Value.int.injEq] at d'
  obtain ⟨⟨⟨p, _⟩, ⟨q, _⟩, ⟨r, _⟩, _⟩, _⟩ := d'
  rw [p, q, r]
theorem rep_tri {X : Cx} {pins : List (Addr × Obj)} {σ : L2.St} {H : Hp} {s : Shared} (I : Inv X pins σ H s) {t : T3} {v : V} {u : Value} (r : Rep X.kw H (.tup [.int t.1, .int t.2.1, .int t.2.2]) v) (rv : RelV v u) : IsTri s.heap u t := by
  obtain ⟨a, xs, rfl, q, rs⟩ := rep_tup.mp r
  obtain rfl : u = Value.ref a := rv
  obtain ⟨its, va, ⟨o, go, oc, n, od⟩, _⟩ := I.tuple q.t
  obtain ⟨y1, z1, rfl, p1, rs⟩ := rs.cons_inv
  obtain ⟨y2, z2, rfl, p2, rs⟩ := rs.cons_inv
  obtain ⟨y3, z3, rfl, p3, rs⟩ := rs.cons_inv
  cases rs.nil_inv
  cases rep_int.mp p1
  cases rep_int.mp p2
  cases rep_int.mp p3
  cases va with
  | cons b1 va =>
    cases va with
    | cons b2 va =>
      cases va with
      | cons b3 va =>
        cases va
        obtain ⟨t1, rfl⟩ := b1
        obtain ⟨t2, rfl⟩ := b2
        obtain ⟨t3, rfl⟩ := b3
        exact ⟨a, o, t1, t2, t3, n, rfl, go, oc, od⟩
open Classical in
/-- a key's triple -/
noncomputable def triV (h : Heap) (v : Value) : T3 := if q : ∃ t, IsTri h v t then q.choose else (0, 0, 0)
theorem triV_is {h : Heap} {v : Value} {t : T3} (q : IsTri h v t) : triV h v = t := by
  have e : ∃ t, IsTri h v t := ⟨t, q⟩
  unfold triV
  rw [dif_pos e]
  exact e.choose_spec.one q
section
variable {X : Cx} {H0 : Hp}
/-- the state while the keys are asked for: n0 the heap's end when sorted began -/
structure Asking (X : Cx) (S : Store) (H2 : Hp) (s2 : Shared) (P c' : Addr) (pos : Pos) (kf : Dv → T3) (xs : List Dv) (ks : List Value) (s : Shared) (H : Hp) : Prop where
  un : Un (frs X.stack) [] H2 H s2.heap s.heap
  hok : HOk X.prog X.w H s.heap
  os : s.os = s2.os
  bare : AllBare s.gens
  keep : Keep X.kw H2 H
  rel : Rel X.kw S H
  own1 : H (s2.heap.objs.size + 1) = none
  own3 : H (s2.heap.objs.size + 3) = none
  there1 : ∃ o, s.heap.get? (s2.heap.objs.size + 1) = some o
  row : ∃ ps1 : Array Value, H P = some (.tbl ps1) ∧ codeAmong pos ps1.toList = some (.ref c')
  keys : ∀ (i : Nat) (k : Value), ks[i]? = some k → ∃ d v, xs[i]? = some d ∧ Rep X.kw H (.tup [.int (kf d).1, .int (kf d).2.1, .int (kf d).2.2]) v ∧ RelV v k
theorem Asking.inv {S : Store} {H2 : Hp} {s2 : Shared} {P c' : Addr} {pos : Pos} {kf : Dv → T3} {xs : List Dv} {ks : List Value} {s : Shared} {H : Hp} {pins : List (Addr × Obj)} {σ : L2.St} (q : Asking X S H2 s2 P c' pos kf xs ks s H) (I : Inv X pins σ H2 s2) : Inv X pins σ H s :=
  I.call' (ch := []) q.os q.un q.hok q.bare fun b hb => absurd hb (by simp)
/-- an object that nothing tracks has changed -/
theorem Asking.touch {S : Store} {H2 : Hp} {s2 : Shared} {P c' : Addr} {pos : Pos} {kf : Dv → T3} {xs : List Dv} {ks : List Value} {s : Shared} {H : Hp} {h' : Heap} {b : Addr} (q : Asking X S H2 s2 P c' pos kf xs ks s H) (hb : H b = none) (new : s2.heap.objs.size ≤ b) (sb : Heap.SameBut b s.heap h')
    (th : ∃ o, h'.get? (s2.heap.objs.size + 1) = some o) : Asking X S H2 s2 P c' pos kf xs ks { s with heap := h' } H := by
  have old : ∀ {a : Addr} {o : Obj}, s2.heap.get? a = some o → a ≠ b := fun e => Nat.ne_of_lt (Nat.lt_of_lt_of_le (Heap.lt_size e) new)
  refine ⟨⟨fun a o e n hf hx => ?_, fun a o e n hf hx => ?_, q.un.free, fun a o e hx => ?_, q.un.tups, q.un.frzs, q.un.tbls⟩, fun a o e => ?_, q.os, q.bare, q.keep, q.rel, q.own1, q.own3, th, q.row, q.keys⟩
  · exact (sb.2 a (old e)).trans (q.un.keep a o e n hf hx)
  · obtain ⟨sl, e1⟩ := q.un.slot a o e n hf hx
    exact ⟨sl, (sb.2 a (old e)).trans e1⟩
  · obtain ⟨o1, e1⟩ := q.un.there a o e hx
    exact ⟨o1, (sb.2 a (old e)).trans e1⟩
  · refine (q.hok a o e).stay (fun c v hc k => (sb.2 c ?_).trans k) (fun _ z => z) fun _ _ z => z
    intro z
    subst z
    rcases hc with hc | hc
    · rw [← hc, hb] at e; cases e
    · rw [hb] at hc; cases hc
theorem de_sortK {e : Expr} {te tb : DTE} {x : Str} {params : Arguments} {body : Expr} {scope : Scope} {lpos p pos kp : Pos} {k : Nat} {P c : Addr} (hgd : X.A.guards = some []) (hr : Room (k + 3) X.A) (TB : TabB X.base X.mg c P) (code : X.env.code = .ref c)
    (Sc : FnScope [x] [x] scope) (defs : defaultsOf params X.env = ([], [])) (bound : ∀ y ∈ scope.names, y.2 ≠ .free) (clo : ∀ cells, cloFrom cells scope.names [] = [])
    (bind : ∀ (q : Str) (cl : List (Str × Addr)) (pm cv ctv u : Value), bindArgs (PySem.W.kla_fn "<lambda>" q params body scope cl pm cv ctv) ⟨[u], []⟩ = pure [(x, u)]) (he : DE X H0 e te)
    (hb : ∀ (A : Around) (outer : List Env) (s : Shared) (H : Hp) (E : XK) (f c' : Addr), A.guards = some [] → Room k (A.deeper (envOfC (X.env.qual ++ "<lambda>") scope s.heap.objs.size f (.ref c'))) →
      DE (cxOf (L2.CX X.prog X.w) X.prog X.w X.K X.mg X.base [x] (X.env.qual ++ "<lambda>") scope f (.ref c') A outer s H E) H body tb)
    (z : X.mg "sorted" = none) (hv : bootBuiltins "sorted" = some (.builtin "sorted") := by decide +kernel) (hg : Gl X "sorted" := by rfl) (h1 : starEach [e] X.env = (false, eval e X.env) :: starEach [] X.env := by rfl)
    (h2 : backTo pos (starEach [e] X.env) = (false, eval e X.env) :: backTo pos (starEach [] X.env) := by rfl) (h3 : (backTo pos (starEach [e] X.env)).any (·.1) = false := by rfl) :
    DE X H0 (.Call (.Name "sorted" p) [e] [⟨some "key", .Lambda params body scope lpos, kp⟩] pos) (dSortK P (X.env.qual ++ "<lambda>") te tb) := by
  refine ⟨fun pins s σ H Q I h => wpAny_Call_Name_kw (ld_blt I hg z hv ?_ (by decide) (by decide))⟩
  obtain ⟨δ, S, Pk, w, ht, hp⟩ := h
  refine PyProof.Rows.callWith_kw (thn ((da_cons he da_nil h1).run pos pins s σ H (fun vs H1 => ∃ d S1 v, vs = [v] ∧ Keep X.kw H H1 ∧ Rel X.kw S1 H1 ∧ Rep X.kw H1 d v ∧ sortK P (X.env.qual ++ "<lambda>") tb Pk d S1) I ⟨δ, S, fun ds S1 => match ds with | [d] => sortK P (X.env.qual ++ "<lambda>") tb Pk d S1 | _ => False, w, ht, ?_⟩) fun us s1 q => ?_) h2 h3
  · intro ds S1 q vs H1 k1 r1 p1
    obtain ⟨d, rfl⟩ : ∃ d, ds = [d] := match ds, q with | [d], _ => ⟨d, rfl⟩
    obtain ⟨v, ws, rfl, pv, pn⟩ := p1.cons_inv
    cases pn.nil_inv
    exact ⟨d, S1, v, rfl, k1, r1, pv, q⟩
  obtain ⟨vs0, H1, I1, rv, d, S1, v0, rfl, k1, r1, p1, q⟩ := q
  unfold sortK at q
  split at q
  · rename_i a
    split at q
    · rename_i xs e0
      obtain ⟨hP, hlen, kf, hkey, hout⟩ := q
      cases rep_ref.mp p1
      obtain ⟨u, rfl, ru⟩ := vals1 rv
      obtain rfl : u = Value.ref a := ru
      obtain ⟨ps, tab⟩ := r1.tab hP
      show wpAny _ _ (evalAll [(do let v ← eval (.Lambda params body scope lpos) X.env; standAt pos; pure v)]) _ _ s1
      refine wpAny_evalAll_cons (wpAny_bind (lam_mk I1 TB code tab defs (fun y hy e => absurd e (bound y hy)) fun f c' pm ctv H2 s2 I2 lam hf nf ff row => wpAny_bind (wpAny_standAt (wpAny_pure (wpAny_evalAll_nil ?_)))))
      show wpAny _ _ (call (.builtin "sorted") [.ref a] [(Str.ofString "key", .ref f)]) _ _ s2
      have k2 : Keep X.kw H1 H2 := lam.keep tab.at_
      have r2 : Rel X.kw S1 H2 := lam.rel r1 hP tab.at_
      obtain ⟨vs, hvs, rs⟩ := r2.lst e0
      obtain ⟨its, va, pl, _⟩ := I2.list (.of hvs)
      have l1 : its.length = xs.length := by rw [← va.length, rs.length]
      rw [clo] at hf
      have nofs : ∀ b, s2.heap.objs.size ≤ b → b ∉ frs X.stack := fun b hb z => (List.mem_cons.mp (I2.stkSub _ z)).elim (fun e => by have l := I2.lt; rw [← e] at l; exact Nat.lt_irrefl _ (Nat.lt_of_lt_of_le l hb)) (I2.nofs hb)
      have old : ∀ b o, s2.heap.get? b = some o → (hAsk (hCopy s2.heap its) (s2.heap.objs.size + 1) its).get? b = some o := fun b o e => hAsk_old (hCopy_old e) (Nat.ne_of_lt (Nat.lt_succ_of_lt (Heap.lt_size e)))
      refine sorted_key pl.isList (by omega) (fun ks s' => ∃ H', Asking X S1 H2 s2 P c' lpos kf xs ks s' H') ⟨H2, Un.kept old, I2.hok.kept old, rfl, I2.bare, .refl, r2, I2.hok.fresh (by omega), I2.hok.fresh (by omega), ⟨_, Heap.get?_push_of_some _ (Heap.get?_push_of_some _ (get?_update_seq (hCopy_at _ _) _))⟩, row, fun i k h => by simp at h⟩ ?_ ?_
      · -- one key
        rintro v ks s' e hv' ⟨H', q⟩ gk
        have I' := q.inv I2
        have hi : ks.length < its.length := (List.getElem?_eq_some_iff.mp hv').1
        obtain ⟨d, hd⟩ : ∃ d, xs[ks.length]? = some d := ⟨_, List.getElem?_eq_getElem (by omega)⟩
        obtain ⟨y, hy, ry⟩ := rs.get hd
        obtain ⟨v', hv2, rv2⟩ := va.get hy
        rw [hv'] at hv2; cases hv2
        have hfun := q.un.keep f _ hf nf ff (by simp)
        obtain ⟨ps1, hP1, row1⟩ := q.row
        obtain ⟨ps2, tab2⟩ := q.rel.tab hP
        have := tab2.at_
        rw [hP1] at this; cases this
        obtain ⟨c2, e2, hc2⟩ := tab2.codes _ _ row1
        cases e2
        have room : Room (k + 1) X.A.in1.in1 := (hr.in1).in1
        have wd : Wd X.kw H' (L2.start [x] [y]) (dstart [x] [d]) S1 H' := wd_start (N := [x]) q.rel (.cons (ry.keep q.keep) .nil)
        refine wpAny_call (codeAny_mono (lam_run1 (E := E0) (t := liftE X.kw H' tb) (Q := fun w H3 => Keep X.kw H' H3 ∧ Rel X.kw S1 H3 ∧ Rep X.kw H3 (.tup [.int (kf d).1, .int (kf d).2.1, .int (kf d).2.2]) w) Sc hfun hc2 (bind _ _ _ _ _ _) room I'.env0.in1.in1 rv2 (fun hr2 => hb X.A.in1.in1 X.stack s' H' E0 f c' hgd hr2)
          ⟨dstart [x] [d], S1, fun e S' => S' = S1 ∧ e = .tup [.int (kf d).1, .int (kf d).2.1, .int (kf d).2.2], wd, hkey d (List.mem_of_getElem? hd) _ ⟨rfl, rfl⟩, fun e S' h v H3 k3 r3 p3 => by obtain ⟨rfl, rfl⟩ := h; exact ⟨k3, r3, p3⟩⟩) fun r s3 hq => ?_)
        cases r with
        | error er => exact let ⟨_, _, _, _, _, _, _, _, _, _, _, _, no⟩ := hq; no.elim
        | ok fl =>
          cases fl with
          | next => exact (show False from hq).elim
          | brk => exact (show False from hq).elim
          | cont => exact (show False from hq).elim
          | ret kv =>
            obtain ⟨yv, H3, os3, bare3, un3, hok3, rkv, kp3, rl3, rp3⟩ := hq
            have stay : ∀ b o, s2.heap.objs.size ≤ b → H' b = none → s'.heap.get? b = some o → s3.heap.get? b = some o := fun b o hb hn e => un3.keep b o e hn (nofs b hb) (by simp)
            obtain ⟨o1, g1⟩ := q.there1
            have g1' := stay _ _ (Nat.le_succ _) q.own1 g1
            have g3' := stay _ _ (by omega) q.own3 gk
            refine ⟨g3'.trans gk.symm, g1'.trans g1.symm, fun h' sb at_ => ⟨H3, ?_⟩⟩
            obtain ⟨more, hP3⟩ := un3.tbls P ps1 hP1
            have q3 : Asking X S1 H2 s2 P c' lpos kf xs (ks ++ [kv]) s3 H3 := {
              un := q.un.trans un3
              hok := hok3
              os := os3.trans q.os
              bare := bare3
              keep := q.keep.trans kp3
              rel := rl3
              own1 := un3.free _ _ g1 q.own1 (by simp)
              own3 := un3.free _ _ gk q.own3 (by simp)
              there1 := ⟨_, g1'⟩
              row := ⟨_, hP3, by rw [Array.toList_append]; exact among_left _ _ row1⟩
              keys := fun i k' hk => by
                by_cases hlt : i < ks.length
                · rw [List.getElem?_append_left hlt] at hk
                  obtain ⟨d', v', h1, h2, h3⟩ := q.keys i k' hk
                  exact ⟨d', v', h1, h2.keep kp3, h3⟩
                · have : i = ks.length := by
                    have := (List.getElem?_eq_some_iff.mp hk).1
                    simp at this
                    omega
                  subst this
                  simp at hk
                  subst hk
                  exact ⟨d, yv, hd, rp3, rkv⟩ }
            exact q3.touch q3.own3 (by omega) sb ⟨o1, (sb.2 _ (fun z => absurd (Nat.add_left_cancel z) (by decide))).trans g1'⟩
      · -- the end
        rintro ks s' ⟨H', q⟩ len
        have I' := q.inv I2
        have tri : ∀ i k', ks[i]? = some k' → ∃ d, xs[i]? = some d ∧ IsTri s'.heap k' (kf d) := fun i k' hk => let ⟨d', v', h1, h2, h3⟩ := q.keys i k' hk; ⟨d', h1, rep_tri I' h2 h3⟩
        refine ⟨fun v u => lex3 (triV s'.heap v) (triV s'.heap u), swo3 _, fun h2 => tri_ready h2 fun v hv => ?_, fun xs' ha hb' srt perm b1 b2 at_ => ?_⟩
        · obtain ⟨i, hi, rfl⟩ := List.getElem_of_mem hv
          obtain ⟨d', h1, t⟩ := tri i _ (List.getElem?_eq_getElem hi)
          rw [triV_is t]; exact t
        · have q1 := q.touch q.own3 (by omega) b1 (let ⟨o, g⟩ := q.there1; ⟨o, (b1.2 _ (fun z => absurd (Nat.add_left_cancel z) (by decide))).trans g⟩)
          obtain ⟨cz, gz⟩ := at_
          have q2 := q1.touch q1.own1 (Nat.le_succ _) b2 ⟨_, gz⟩
          obtain ⟨idx, pidx, eidx⟩ := perm_lift (fun i => (ks.getD i Value.none, its.getD i Value.none)) perm (List.range its.length) (range_zip _ _ _ _ len)
          have inR : ∀ i ∈ idx, i < its.length := fun i hi => List.mem_range.mp (pidx.mem_iff.mp hi)
          have pys : (idx.map fun i => xs.getD i .non).Perm xs := by
            have := pidx.map fun i => xs.getD i .non
            rwa [l1, range_self] at this
          have keyAt : ∀ i ∈ idx, triV s'.heap (ks.getD i .none) = kf (xs.getD i .non) := fun i hi => by
            have h1 : i < ks.length := by rw [len]; exact inR i hi
            obtain ⟨d', e1, t⟩ := tri i _ (List.getElem?_eq_getElem h1)
            rw [List.getD_eq_getElem?_getD, List.getElem?_eq_getElem h1, List.getD_eq_getElem?_getD, e1]
            exact triV_is t
          have sys : (idx.map fun i => xs.getD i .non).Pairwise (fun x y => lex3 (kf y) (kf x) = false) := by
            rw [List.pairwise_map]
            rw [← eidx] at srt
            have srt := List.pairwise_map.mp srt
            exact srt.imp_of_mem fun {i j} hi hj h => by
              simp only [keyAt i hi, keyAt j hj] at h
              exact h
          have repV : ∀ l : List Nat, (∀ i ∈ l, i < its.length) → Reps X.kw H' (l.map fun i => xs.getD i .non) (l.map fun i => vs.getD i .non) ∧ Vals (l.map fun i => vs.getD i .non) (l.map fun i => its.getD i .none) := by
            intro l hl
            induction l with
            | nil => exact ⟨.nil, .nil⟩
            | cons i l ih =>
              obtain ⟨a1, a2⟩ := ih fun j hj => hl j (List.mem_cons_of_mem _ hj)
              have hi := hl i List.mem_cons_self
              obtain ⟨d', hd⟩ : ∃ d, xs[i]? = some d := ⟨_, List.getElem?_eq_getElem (by omega)⟩
              obtain ⟨y, hy, ry⟩ := rs.get hd
              obtain ⟨v', hv2, rv2⟩ := va.get hy
              simp only [List.map_cons, List.getD_eq_getElem?_getD, hd, hy, hv2, Option.getD_some] at a1 a2 ⊢
              exact ⟨.cons (ry.keep q.keep) a1, .cons rv2 a2⟩
          obtain ⟨rep2, val2⟩ := repV idx inR
          have eout : xs'.map (·.2) = idx.map fun i => its.getD i .none := by rw [← eidx, List.map_map]; rfl
          rw [eout] at gz
          generalize hys : (idx.map fun i => xs.getD i .non) = ys at pys sys rep2
          generalize hyv : (idx.map fun i => vs.getD i .non) = yv at rep2 val2
          have ny : ∀ {b : Addr} {o : HO}, H' b = some o → b ≠ s2.heap.objs.size + 1 := fun e z => by rw [z, q.own1] at e; cases e
          have kn : Keep X.kw H' (upd H' (s2.heap.objs.size + 1) (.lst yv)) := .new q.own1
          have un : Un (frs X.stack) [] H2 (upd H' (s2.heap.objs.size + 1) (.lst yv)) s2.heap hb' := ⟨q2.un.keep, q2.un.slot,
            fun b o e n hx => by rw [upd_ne (Nat.ne_of_lt (Nat.lt_succ_of_lt (Heap.lt_size e)))]; exact q2.un.free b o e n hx, q2.un.there,
            fun b zs e => by have e2 := q2.un.tups b zs e; rw [upd_ne (ny e2)]; exact e2, fun b o zs e => by have e2 := q2.un.frzs b o zs e; rw [upd_ne (ny e2)]; exact e2,
            fun b zs e => by obtain ⟨more, e2⟩ := q2.un.tbls b zs e; exact ⟨more, by rw [upd_ne (ny e2)]; exact e2⟩⟩
          have hok : HOk X.prog X.w (upd H' (s2.heap.objs.size + 1) (.lst yv)) hb' := fun b o e => by
            by_cases hbn : b = s2.heap.objs.size + 1
            · subst hbn
              rw [upd_same] at e; cases e
              refine ⟨?_, _, _, val2, gz⟩
              have l2 := rep2.length
              have l3 := pys.length_eq
              have := szl
              show yv.length ≤ sizeLine
              rw [sizeLine_eq]; omega
            · rw [upd_ne hbn] at e
              exact (q2.hok b o e).stay (fun _ _ _ z => z) (fun c hc => by rw [upd_ne (ny hc)]; exact hc) fun c zs hc => by rw [upd_ne (ny hc)]; exact hc
          have J : Inv X pins σ (upd H' (s2.heap.objs.size + 1) (.lst yv)) { s' with heap := hb' } := I2.call' (ch := []) q.os un hok q.bare fun b hb => absurd hb (by simp)
          have rl : Rel X.kw (up S1 (s2.heap.objs.size + 1) (.lst ys)) (upd H' (s2.heap.objs.size + 1) (.lst yv)) := q.rel.laid q.own1 fun own ow => ⟨ow, _, upd_same, rep2.keep kn⟩
          exact ⟨.ref _, _, J, rfl, hp _ _ (hout ys pys sys _ (q.rel.free q.own1)) _ _ (k1.trans (k2.trans (q.keep.trans kn))) rl (rep_ref.mpr rfl)⟩
    · exact q.elim
  · exact q.elim
end
end Sb

/-! The end of a law with one table of code objects; a def whose code object is known. -/
namespace Sb
open PySem PySem.Spec PyProof.Rows L2 LamX
theorem bm_hid {h : Heap} {H : Hp} {mg : Str → Option Value} {P : Addr} (hns : h.Ns mainGlobals mg) (hbm : ∃ (bm : Addr) (ob : Obj), mg "__builtins__" = some (.ref bm) ∧ bm ≠ builtinsNs ∧ h.get? bm = some ob ∧ ob.cls = .type "module" ∧ ob.dict = some builtinsNs ∧ ob.data = .plain)
    (free : ∀ b o, h.get? b = some o → o.data = .plain → H b = none) (hP : ∀ o, h.get? P = some o → o.data ≠ .plain) : (hidT h H).BuiltinsAt mg P := by
  obtain ⟨bm, ob, b1, b2, b3, b4, b5, b6⟩ := hbm
  refine ⟨bm, ob, b1, b2, fun z => ?_, fun z => hP ob (z ▸ b3) b6, hidT_get b3 (free bm ob b3 b6), b4, b5, b6⟩
  obtain ⟨o, es, ep, e, hd, _⟩ := hns
  rw [z, e] at b3
  cases b3
  rw [hd] at b6
  cases b6
theorem law_runT {P : Program} {w : World} {K : PySem.W.Frag} {mg mb : Str → Option Value} {k : Nat} {fa a cT pT : Addr} {fd : FuncData} {x q : Str} {sp : DSp} {s1 : Shared} {vs : List Value} {ns : List Int}
    (KX : K.In s1.heap) (hns : s1.heap.Ns mainGlobals mg) (hbu : s1.heap.Ns builtinsNs mb) (hbb : ∀ x : Str, x ≠ "__name__" → mb x = bootBuiltins x) (hlim : s1.heap.NoLimit) (hg : s1.gens = #[])
    (hT : s1.heap.get? pT = some { cls := .none, data := .fields #[] }) (nT : K.lookup pT = none) (hcd : PySem.W.codeHdIn K cT pT = true)
    (hbm : ∃ (bm : Addr) (ob : Obj), mg "__builtins__" = some (.ref bm) ∧ bm ≠ builtinsNs ∧ s1.heap.get? bm = some ob ∧ ob.cls = .type "module" ∧ ob.dict = some builtinsNs ∧ ob.data = .plain)
    (ha : s1.heap.get? a = some { cls := .type "list", data := .seq vs.toArray }) (hi : IntsAre vs ns) (hl : ns.length ≤ sizeLine) (hr : Room k callerA)
    (F : ∀ base : Heap, K.In base → base.Ns mainGlobals mg → TabB base mg cT pT → DFn P w K mg base k fa fd [x] sp) (hbind : ∀ (s : Shared) (u : Value), BindsTo s fd ⟨[u], []⟩ [(x, u)])
    (hsp : sp [.scr ns] (fun b => if b = pT then some (.tab q) else none) (fun d _ => d = .bl true) X0) :
    codeAny (model P w) callerA (.call (.ref fa) ⟨[.ref a], []⟩) (fun r s' => r = .ok (.ret (.bool true)) ∧ OldK s1.heap s'.heap ∧ s'.os = s1.os ∧ AllBare s'.gens) s1 := by
  have rv := vals_ints hi
  have aP : a ≠ pT := fun z => by
    rw [z, hT] at ha
    cases ha
  obtain ⟨H, hS, hok, hP, hF, hK⟩ : ∃ H : Hp, SqZ ⟨K, w, mg⟩ H a (ns.map V.int) ∧ HOk P w H s1.heap ∧ H pT = some (.tbl #[]) ∧ (∀ b u, H b = some u → (b = pT ∧ u = .tbl #[]) ∨ (b = a ∧ ∃ o xs, u = .frz o (.lst xs))) ∧ (H a ≠ none → K.lookup a = none) := by
    cases hk : K.lookup a with
    | some o =>
      have e := KX a o hk
      rw [ha] at e
      cases e
      refine ⟨fun b => if b = pT then some (.tbl #[]) else none, .inr ⟨_, vs.toArray, _, hk, rfl, rfl, rfl, ?_, by simpa using rv⟩, fun b u z => ?_, if_pos rfl, fun b u z => ?_, fun z => absurd (if_neg aP) z⟩
      · rw [List.size_toArray, hi.length]; exact hl
      · dsimp only at z
        by_cases hb : b = pT
        · subst hb; rw [if_pos rfl] at z; cases z; exact hT
        · rw [if_neg hb] at z; cases z
      · dsimp only at z
        by_cases hb : b = pT
        · rw [if_pos hb] at z; exact .inl ⟨hb, (Option.some.inj z).symm⟩
        · rw [if_neg hb] at z; cases z
    | none =>
      refine ⟨fun b => if b = a then some (.frz { cls := .type "list", data := .seq vs.toArray } (.lst (ns.map V.int))) else if b = pT then some (.tbl #[]) else none, .inl ⟨_, if_pos rfl⟩, fun b u z => ?_, (if_neg (Ne.symm aP)).trans (if_pos rfl), fun b u z => ?_, fun _ => rfl⟩
      · dsimp only at z
        by_cases hb : b = a
        · subst hb; rw [if_pos rfl] at z; cases z
          exact ⟨ha, by rw [List.length_map]; exact hl, vs, _, rv, ha⟩
        · rw [if_neg hb] at z
          by_cases hb2 : b = pT
          · subst hb2; rw [if_pos rfl] at z; cases z; exact hT
          · rw [if_neg hb2] at z; cases z
      · dsimp only at z
        by_cases hb : b = a
        · rw [if_pos hb] at z; exact .inr ⟨hb, _, _, (Option.some.inj z).symm⟩
        · rw [if_neg hb] at z
          by_cases hb2 : b = pT
          · rw [if_pos hb2] at z; exact .inl ⟨hb2, (Option.some.inj z).symm⟩
          · rw [if_neg hb2] at z; cases z
  have free : ∀ b o, s1.heap.get? b = some o → (∀ xs n, o.data ≠ .seq xs n) → o.data ≠ .fields #[] → H b = none := fun b o e n1 n2 => by
    cases z : H b with
    | none => rfl
    | some u =>
      rcases hF b u z with ⟨rfl, _⟩ | ⟨rfl, _⟩
      · rw [hT] at e; cases e; exact absurd rfl n2
      · rw [ha] at e; cases e; exact absurd rfl (n1 _ _)
  have nsB : ∀ {b : Addr} {m : Str → Option Value}, s1.heap.Ns b m → (hidT s1.heap H).Ns b m := fun {b m} ⟨o, es, ep, e, d, r⟩ => ⟨o, es, ep, hidT_get e (free b o e (fun _ _ z => by rw [d] at z; cases z) fun z => by rw [d] at z; cases z), d, r⟩
  have inB : K.In (hidT s1.heap H) := fun b o e => hidT_get (KX b o e) (by
    cases z : H b with
    | none => rfl
    | some u =>
      rcases hF b u z with ⟨rfl, _⟩ | ⟨rfl, _⟩
      · rw [nT] at e; cases e
      · rw [hK (by rw [z]; simp)] at e; cases e)
  have modB : Mod K mg (hidT s1.heap H) := ⟨inB, nsB hns, ⟨mb, nsB hbu, hbb⟩, let ⟨mc, h1, h2⟩ := hlim; ⟨mc, nsB h1, h2⟩⟩
  have gP : mainGlobals ≠ pT := fun z => by
    obtain ⟨o, es, ep, e, hd, _⟩ := hns
    rw [z, hT] at e
    cases e
    cases hd
  have TB : TabB (hidT s1.heap H) mg cT pT := ⟨PySem.W.codeHd_of_K inB hcd, (bm_hid hns hbm (fun b o e d => free b o e (fun _ _ z => by rw [d] at z; cases z) fun z => by rw [d] at z; cases z) fun o e z => by rw [hT] at e; cases e; cases z), gP⟩
  have e0 : Env0 P w K mg (hidT s1.heap H) callerA [] s1 H :=
    ⟨rfl, modB, fun _ _ => of_hidT, Nat.le_of_eq (hidT_size _ _), trivial, fun b hb => absurd (show b ∈ ([] : List Addr) from hb) (by simp), hok, .of_eq hg⟩
  have rel0 : Rel ⟨K, w, mg⟩ (fun b => if b = pT then some (.tab q) else none) H := ⟨fun _ => none, fun _ _ z => absurd z (by simp), fun b o z => by
    by_cases hb : b = pT
    · subst hb
      simp only [if_true, Option.some.injEq] at z
      subst z
      exact ⟨rfl, _, hP, trivial, fun pos cv hc => by simp [codeAmong] at hc⟩
    · simp only [hb, if_false] at z; cases z⟩
  refine codeAny_mono ((F _ inB (nsB hns) TB).run (E := fun _ _ _ => False) (Q := fun v _ => v = .bl true) (us := [.ref a]) (vs := [.ref a]) rfl hr e0 (hbind s1 (.ref a)) (.cons (show RelV (.ref a) (.ref a) from rfl) .nil) rel0 (.cons (rep_scr.mpr ⟨a, rfl, hS⟩) .nil) hsp
    (fun d S' q v H' _ _ rp => by subst q; exact rep_bl.mp rp) px0) fun r s' h => ?_
  cases r with
  | error e => exact let ⟨_, _, _, _, _, _, _, _, _, _, _, _, z⟩ := h; z.elim
  | ok fl =>
    cases fl with
    | ret u =>
      obtain ⟨v, H', os, bare, un, hok', r', q⟩ := h
      obtain rfl : v = .bl true := q
      obtain rfl : u = Value.bool true := r'
      have stay : ∀ b o, b ≠ pT → s1.heap.get? b = some o → s'.heap.get? b = some o := fun b o nb e => by
        cases z : H b with
        | none => exact un.keep b o e z (fun z => absurd (show b ∈ ([] : List Addr) from z) (by simp)) (by simp)
        | some u =>
          rcases hF b u z with ⟨rfl, _⟩ | ⟨rfl, ob, xs, rfl⟩
          · exact absurd rfl nb
          · have e1 := (hok b _ z).1
            have e2 := (hok' b _ (un.frzs b ob _ z)).1
            rw [e] at e1; cases e1
            exact e2
      obtain ⟨more, hP'⟩ := un.tbls pT #[] hP
      have grown : s'.heap.get? pT = some { cls := .none, data := .fields (#[] ++ more) } := hok' pT _ hP'
      refine ⟨rfl, ⟨fun b o e => ?_, fun b o e => ?_⟩, os, bare⟩
      · by_cases hb : b = pT
        · subst hb
          rw [hT] at e; cases e
          exact .inr (.inl ⟨((PySem.W.codeHd_of_K KX hcd).tab hT).isCodeTable, rfl, #[], more, rfl, grown⟩)
        · exact .inl (stay b o hb e)
      · by_cases hb : b = pT
        · subst hb; exact ⟨_, grown⟩
        · exact ⟨o, stay b o hb e⟩
    | _ => exact (show False from h).elim
/-- the goal that k_head leaves, with one table -/
theorem law_walkT {l : PySem.W.OpenLaw} {n k : Nat} {qp : Program} {loose : List Str} {XP : (Str → Option Value) → Heap → Prop} {YP : World → Heap → Prop} {d : DefRec} {K : Params → PySem.W.Frag} {sp : Addr → DSp} {x q : Str} {Z : (Str → Option Value) → Prop}
    (hn : l.most = some n) (hn2 : n ≤ sizeLine) (hdf : d.params.defaults = []) (hr : Room k callerA) (hY : ∀ (w : World) (h : Heap), YP w h → (K w.params).In h) (hZ : ∀ (mg : Str → Option Value) (h : Heap), XP mg h → Z mg)
    (F : ∀ (w : World) (mg : Str → Option Value) (fa : Addr) (h : Heap), YP w h → (K w.params).In h → h.Ns mainGlobals mg → mg d.name = some (.ref fa) → Z mg →
      ∃ (fd : FuncData) (cT pT : Addr), h.get? pT = some { cls := .none, data := .fields #[] } ∧ (K w.params).lookup pT = none ∧ PySem.W.codeHdIn (K w.params) cT pT = true ∧ (∀ (s : Shared) (u : Value), BindsTo s fd ⟨[u], []⟩ [(x, u)]) ∧
        ∀ base : Heap, (K w.params).In base → base.Ns mainGlobals mg → TabB base mg cT pT → DFn l.prog w (K w.params) mg base k fa fd [x] (sp pT))
    (hsp : ∀ (pT : Addr) (ns : List Int), ns.length ≤ n → (∀ z ∈ ns, Builtin.Int.intBits z ≤ 1048576) → sp pT [.scr ns] (fun b => if b = pT then some (.tab q) else none) (fun d _ => d = .bl true) X0) :
    PySem.W.WalkO qp loose XP YP l.row.toRowW d [] (fun f vs => PySem.call f vs) := by
  refine Att.attach_callB hn hdf fun w s0 s1 mg mb fa o pm cd doc a vs ns G Y ho hd hcd hmg hobj hints hlen hbits hg => ?_
  obtain ⟨fd, cT, pT, hT, nT, hc, hb, hF⟩ := F w mg fa _ Y (hY w _ Y) G.T.g hmg (hZ mg _ G.X)
  exact law_runT (hY w _ Y) G.T.g G.T.b G.T.builtins G.T.nolimit hg hT nT hc G.T.bmain hobj hints (Nat.le_trans hlen hn2) hr hF hb (hsp pT ns hlen hbits)
/-- a def whose code object stands at c -/
structure Fun1 (K : PySem.W.Frag) (x qual : Str) (st : Stmt) (f : Addr) (fd : FuncData) (c : Addr) : Prop where
  ex : ∃ (oc : Value) (od : Option Addr) (kV doc pm : Value) (an : Option Addr) (ct : Value) (osl : Array (Option Value)),
    fd = PySem.W.fnOf x qual (defArgs st) (defBody st) (defScope st) .none kV doc pm an (.ref c) ct ∧ K.lookup f = some ⟨oc, od, .func fd, osl⟩ ∧ PySem.W.codeIn K (.ref c) qual = true
  kp : PySem.W.keepIn K (.ref f) = true
theorem Fun1.to {K : PySem.W.Frag} {x qual : Str} {st : Stmt} {f c : Addr} {fd : FuncData} (F : Fun1 K x qual st f fd c) : Fun K x qual st f fd :=
  let ⟨oc, od, kV, doc, pm, an, ct, osl, e, l, k⟩ := F.ex
  ⟨⟨oc, od, kV, doc, pm, an, .ref c, ct, osl, e, l, k⟩, F.kp⟩
theorem fun_mk1 {K : PySem.W.Frag} {x qual : Str} {st : Stmt} {f c : Addr} {oc : Value} {od an : Option Addr} {osl : Array (Option Value)} {kV doc pm ct : Value} (l : K.lookup f = some ⟨oc, od, .func (PySem.W.fnOf x qual (defArgs st) (defBody st) (defScope st) .none kV doc pm an (.ref c) ct), osl⟩)
    (h : PySem.W.codeIn K (.ref c) qual = true) (k : PySem.W.keepIn K (.ref f) = true) : Fun1 K x qual st f (PySem.W.fnOf x qual (defArgs st) (defBody st) (defScope st) .none kV doc pm an (.ref c) ct) c := ⟨⟨oc, od, kV, doc, pm, an, ct, osl, rfl, l, h⟩, k⟩
section
variable {P : Program} {w : World} {K : PySem.W.Frag} {mg : Str → Option Value} {base : Heap}
theorem okD1 {x qual : Str} {c : Addr} {st : Stmt} {f : Addr} {fd : FuncData} {N ps : List Str} {k : Nat} {sp : DSp} {t : DX → DTS} (F : Fun1 K x qual st f fd c) (Sc : FnScope N ps (defScope st)) (len : ∀ ds S Pq Pe, sp ds S Pq Pe → ds.length = ps.length)
    (hbody : ∀ (A : Around) (outer : List Env) (s : Shared) (H : Hp) (Pe : DX) (E : XK), (A.deeper (PyProof.Rows.envOfC qual (defScope st) s.heap.objs.size f (.ref c))).guards = some [] → Room k (A.deeper (PyProof.Rows.envOfC qual (defScope st) s.heap.objs.size f (.ref c))) → PX ⟨K, w, mg⟩ H Pe E →
      DSs (cxOf (CX P w) P w K mg base N qual (defScope st) f (.ref c) A outer s H E) H (defBody st) (t Pe))
    (hsp : ∀ ds S Pq Pe, sp ds S Pq Pe → dsp ⟨K, w, mg⟩ N t ds S Pq Pe) : DFn P w K mg base (k + 1) f fd ps sp := by
  obtain ⟨oc, od, kV, doc, pm, an, ct, osl, rfl, lk, hcd⟩ := F.ex
  refine ⟨len, fun {A outer s H args us vs ds S Pq Pe Q E} hgd hr e0 hb rv rl rs q pv px => ?_⟩
  have hl : vs.length = ps.length := by rw [rs.length]; exact len _ _ _ _ q
  have old : ∀ b o, base.get? b = some o → s.heap.get? b = some o := fun b o e => (e0.bs b o e).1
  have KX := PySem.W.Frag.In.keeps e0.mod.kin old
  have lim := Heap.NoLimit.keeps e0.mod.nolimit old
  generalize hsc : defScope st = scope at *
  have hkind : ∀ y ∈ ps.zip us, scope.names.lookup y.1 = some .local ∨ (scope.names.lookup y.1 = some .cell ∧ ((cellsFrom (s.heap.objs.size + 1) scope.names []).lookup y.1).isSome = true) := by
    intro y hy
    exact (Sc.par y.1 (List.of_mem_zip (b := y.2) hy).1).imp id fun z => ⟨z, PySem.W.cellsFrom_some _ _ _ (.inl z)⟩
  refine codeAny_call_function hr.depth (KX _ _ lk) rfl Sc.co Sc.gen rfl (PySem.W.codeRec_of KX hcd) (hb _ _ _ _ ?_)
  refine wpAny_newFunctionEnv_cells Sc.kind hkind fun env he s1 x1 => ?_
  subst he
  refine ⟨lim.keeps x1.toInCall.keep, codeAny_func ?_⟩
  have body := hbody A outer s H Pe E (guards_deeper hgd) (hr.deeper _) px
  obtain ⟨S0, r0, q0⟩ := hsp ds S Pq Pe q H rl
  have I := inv_start (CX := CX P w) (E := E) Sc hr.hd e0 hl rv x1
  have go := body.run [] s1 (L2.start N vs) H { nx := fun _ H' => Q .non H', rt := Q } I ⟨_, S0, _, wd_start r0 rs, q0, fun δ1 S1 z σ1 H1 k1 w1 => ?_, fun _ _ z => z.elim, fun _ _ z => z.elim, fun d S1 z v H1 k1 r1 p1 => ?_⟩
  · refine wpAny_mono go (fun fl s' hs => ?_) fun e s' hs => hs
    cases fl with
    | ret u => exact let ⟨v, σ', H', J, ru, hq⟩ := hs; (show CE outer P w H s Q u s' from ⟨v, H', J.os, J.bare, J.base, J.hok, ru, hq⟩)
    | next => exact let ⟨σ', H', J, hq⟩ := hs; (show CE outer P w H s Q .none s' from ⟨.non, H', J.os, J.bare, J.base, J.hok, rfl, hq⟩)
    | brk => exact let ⟨_, _, _, z⟩ := hs; (show False from z).elim
    | cont => exact let ⟨_, _, _, z⟩ := hs; (show False from z).elim
  · obtain ⟨S2, r2, z2⟩ := z H1 w1.rel
    exact pv _ S2 z2 _ H1 k1 r2 (rep_non.mpr rfl)
  · obtain ⟨S2, r2, z2⟩ := z H1 r1
    exact pv _ S2 z2 _ H1 k1 r2 p1
end
/-- the table that the laws' lambdas are laid in -/
class TabP where
  p : Addr
structure DefM1 (K : PySem.W.Frag) (C : Addr) (m qual : Str) (st : Stmt) (c : Addr) : Prop where
  ex : ∃ f fd, Fun1 K m qual st f fd c ∧ Meth K C m f
/-! ### list(d) of a dict over keys of any depth -/
theorem paired_back {α β : Type} {R : α → β → Prop} : ∀ {as : List α} {bs : List β} {i : Nat} {b : β}, Paired R as bs → bs[i]? = some b → ∃ a, as[i]? = some a ∧ R a b
  | _, _, _, _, .nil, h => by simp at h
  | _, _, 0, _, .cons r _, h => by simp at h; subst h; exact ⟨_, rfl, r⟩
  | _, _, i + 1, _, .cons _ t, h => by simpa using paired_back (i := i) t (by simpa using h)
section
variable {X : Cx}
theorem call_list_nd (hc : X.calm = true) : CallR X (.type "list") (fun vs H Q => ∃ d es, vs = [V.ref d] ∧ H d = some (NdO X.w d es) ∧ ∀ p, H p = none → Q (.ref p) (upd H p (.lst (es.map fun e => e.2.1)))) := by
  intro pins s σ H vs us Q I r h
  obtain ⟨d, es, rfl, hd, q⟩ := h
  obtain ⟨u, rfl, ru⟩ := vals1 r
  obtain rfl : u = Value.ref d := ru
  obtain ⟨xs, ⟨low, ln, ⟨o, arr, ep, ho, hx, hdt, he⟩, _⟩, pr⟩ := (I.hok d _ hd).1
  have sz : arr.size = xs.length := arr_size he
  refine PySem.W.kdl_call (kdl_raw low hx hdt) (I.ok.hd hc) ho (by rw [sz]; exact ln) fun h' tk acc c kp at_ it => ?_
  refine ⟨.ref s.heap.objs.size, upd H s.heap.objs.size (.lst (es.map fun e => e.2.1)), I.laid kp (Nat.le_refl _) (show ObjOk X.prog X.w _ _ _ (.lst (es.map fun e => e.2.1)) from ⟨?_, acc.toList, c, ?_, ?_⟩), rfl, q _ (I.hok.fresh (Nat.le_refl _))⟩
  · rw [List.length_map, ← pr.nlen]; exact ln
  · have hz : acc.toList.length = acc.size := by simp
    refine vals_of_at (by rw [List.length_map, hz, it.1, sz, pr.nlen]) fun j x w h1 h2 => ?_
    obtain ⟨en, hen, rfl⟩ := it.2 j w (by rw [← Array.getElem?_toList]; exact h2)
    rw [arr_at he] at hen
    obtain ⟨b, hb, rfl⟩ := Option.map_eq_some_iff.mp hen
    obtain ⟨e, hE, r1⟩ := paired_back pr hb
    rw [List.getElem?_map, hE] at h1
    cases h1
    exact r1.2.1
  · rw [Array.toArray_toList]; exact at_
theorem kvn_keys {K : Kw} {H : Hp} : ∀ {kvs : List (Dv × Dv)} {es : NL V V}, KVn K H kvs es → Reps K H (kvs.map (·.1)) (es.map fun e => e.2.1)
  | [], _, h => by cases (show _ = [] from h); exact .nil
  | p :: kvs, _, h => by
    obtain ⟨k, x, y, es', rfl, _, _, r, _, t⟩ := h
    exact .cons r (kvn_keys t)
/-- list(d) -/
@[simp] def gListN : GA := fun ds S P => match ds with
  | [.ref a] => (match S a with | some (.ndc kvs) => ∀ l, S l = none → P (.ref l) (up S l (.lst (kvs.map (·.1)))) | _ => False)
  | _ => False
theorem cg_listN (hc : X.calm = true) : CallG X (.type "list") gListN := ⟨_, call_list_nd hc, fun ds S P q vs H Q r rs hp => by
  unfold gListN at q
  split at q
  · split at q
    · rename_i kvs e
      obtain ⟨v, rfl, rv⟩ := reps1 rs
      obtain ⟨es, hes, n⟩ := r.ndc e
      refine ⟨_, es, by rw [rep_ref.mp rv], hes, fun p hn => ?_⟩
      have kn : Keep X.kw H (upd H p (.lst (es.map fun e => e.2.1))) := .new hn
      exact hp _ _ (q p (r.free hn)) _ _ kn (r.laid hn fun own ow => ⟨ow, _, upd_same, (kvn_keys n).keep kn⟩) (rep_ref.mpr rfl)
    · exact q.elim
  · exact q.elim⟩
end
end Sb

/-! Walks over d.items(), d just made. -/
namespace Sb
open PySem PySem.Spec L2
section
variable {X : Cx} {H0 : Hp} {e : Expr} {td : DTE} {apos cpos tpos : Pos} {elts : List Expr} {kk : Nat}
theorem KVn.pair_at {K : Kw} {H : Hp} : ∀ {kvs : List (Dv × Dv)} {es : NL V V} {i : Nat} {p : Dv × Dv}, KVn K H kvs es → kvs[i]? = some p → ∃ e, es[i]? = some e ∧ Rep K H p.1 e.2.1 ∧ Rep K H p.2 e.2.2
  | [], _, _, _, _, h => by simp at h
  | p :: kvs, _, i, q, n, h => by
    obtain ⟨k, x, y, es', rfl, _, _, h3, h4, h5⟩ := n
    cases i with
    | zero => simp only [List.getElem?_cons_zero, Option.some.injEq] at h; subst h; exact ⟨_, rfl, h3, h4⟩
    | succ j => simp only [List.getElem?_cons_succ] at h ⊢; exact h5.pair_at h
/-- for .. in e.items(): the dict at e stays locked -/
@[simp] def dINi (td : DTE) : DTI := fun δ S P => td δ S fun d S1 => match d with
  | .ref a => (match S1 a with | some (.ndc kvs) => ∀ (od : Obj) (es : NL V V), P (kvs.map fun p => .tup [p.1, p.2]) (fun S => S a = some (.fzn od es kvs)) (up S1 a (.fzn od es kvs)) | _ => False)
  | _ => False
theorem di_itemN (he : DE X H0 e td) (m0 : attributeBase e "items" X.env (eval e X.env) = eval e X.env := by rfl) (m1 : (apos.endLine == cpos.line) = true := by rfl) :
    DI X H0 (.Tuple elts kk tpos) (.Call (.Attribute e "items" apos) [] [] cpos) (dINi td) := (pi_itemN he m0 m1).to fun σ H R h => by
  obtain ⟨δ, S, P, w, ht, hp⟩ := h
  refine ⟨δ, S, _, w, ht, fun d S1 q v H1 k1 r1 p1 => ?_⟩
  split at q
  · rename_i a
    split at q
    · rename_i kvs e0
      obtain ⟨es, ha, n⟩ := r1.ndc e0
      refine ⟨a, es, rep_ref.mp p1, ha, fun o => ?_⟩
      have kn : Keep X.kw H1 (upd H1 a (.frz o (NdO X.w a es))) := keep_nd ha
      refine hp _ _ _ (q o es) _ _ (k1.trans kn) (r1.write (o' := .fzn o es kvs) e0 fun own _ z => ⟨OK1.mine z, upd_same, n.keep kn⟩) fun i S2 H2 k2 r2 g => ?_
      obtain ⟨_, _, ha2, n2⟩ := r2.get g
      refine ⟨fun z => ⟨ha2, by rw [n2.length, z, List.length_map]; exact Nat.le_refl _⟩, fun d hd => ?_⟩
      rw [List.getElem?_map] at hd
      obtain ⟨pr, hpr, rfl⟩ := Option.map_eq_some_iff.mp hd
      obtain ⟨en, hen, rk, rv⟩ := n2.pair_at hpr
      refine ⟨⟨ha2, (List.getElem?_eq_some_iff.mp hen).1⟩, fun x H' y => ?_⟩
      obtain ⟨T, e', ob, rfl, hT, hob, rfl, he'⟩ := y
      rw [hen] at he'; cases he'
      exact ⟨.new hT, r2.new hT, rep_new_tup hob hT (.cons rk (.cons rv .nil))⟩
    · exact q.elim
  · exact q.elim
end
end Sb

/-! sorted(xs, key=f), f a def of the text, the keys triples of integers. -/
namespace Sb
open PySem PySem.Spec PyProof.Rows L2
@[simp] def sortF (sp : DSp) (Pk : DK) (d : Dv) (S1 : Store) : Prop := match d with
  | .ref a => (match S1 a with
    | some (.lst xs) => xs.length ≤ 1000000 ∧ ∃ kf : Dv → T3, (∀ x ∈ xs, ∀ N : DK, N (.tup [.int (kf x).1, .int (kf x).2.1, .int (kf x).2.2]) S1 → sp [x] S1 N X0) ∧
        ∀ ys : List Dv, ys.Perm xs → ys.Pairwise (fun x y => lex3 (kf y) (kf x) = false) → ∀ p, S1 p = none → Pk (.ref p) (up S1 p (.lst ys))
    | _ => False)
  | _ => False
/-- sorted by the triples kf -/
@[simp] def dSortF (sp : DSp) (te : DTE) : DTE := fun δ S Pk => te δ S (sortF sp Pk)
section
variable {X : Cx} {H0 : Hp}
structure AskF (X : Cx) (S : Store) (H2 : Hp) (s2 : Shared) (kf : Dv → T3) (xs : List Dv) (ks : List Value) (s : Shared) (H : Hp) : Prop where
  un : Un (frs X.stack) [] H2 H s2.heap s.heap
  hok : HOk X.prog X.w H s.heap
  os : s.os = s2.os
  bare : AllBare s.gens
  keep : Keep X.kw H2 H
  rel : Rel X.kw S H
  own1 : H (s2.heap.objs.size + 1) = none
  own3 : H (s2.heap.objs.size + 3) = none
  there1 : ∃ o, s.heap.get? (s2.heap.objs.size + 1) = some o
  keys : ∀ (i : Nat) (k : Value), ks[i]? = some k → ∃ d v, xs[i]? = some d ∧ Rep X.kw H (.tup [.int (kf d).1, .int (kf d).2.1, .int (kf d).2.2]) v ∧ RelV v k
theorem AskF.inv {S : Store} {H2 : Hp} {s2 : Shared} {kf : Dv → T3} {xs : List Dv} {ks : List Value} {s : Shared} {H : Hp} {pins : List (Addr × Obj)} {σ : L2.St} (q : AskF X S H2 s2 kf xs ks s H) (I : Inv X pins σ H2 s2) : Inv X pins σ H s :=
  I.call' (ch := []) q.os q.un q.hok q.bare fun b hb => absurd hb (by simp)
/-- an object that nothing tracks has changed -/
theorem AskF.touch {S : Store} {H2 : Hp} {s2 : Shared} {kf : Dv → T3} {xs : List Dv} {ks : List Value} {s : Shared} {H : Hp} {h' : Heap} {b : Addr} (q : AskF X S H2 s2 kf xs ks s H) (hb : H b = none) (new : s2.heap.objs.size ≤ b) (sb : Heap.SameBut b s.heap h')
    (th : ∃ o, h'.get? (s2.heap.objs.size + 1) = some o) : AskF X S H2 s2 kf xs ks { s with heap := h' } H := by
  have old : ∀ {a : Addr} {o : Obj}, s2.heap.get? a = some o → a ≠ b := fun e => Nat.ne_of_lt (Nat.lt_of_lt_of_le (Heap.lt_size e) new)
  refine ⟨⟨fun a o e n hf hx => ?_, fun a o e n hf hx => ?_, q.un.free, fun a o e hx => ?_, q.un.tups, q.un.frzs, q.un.tbls⟩, fun a o e => ?_, q.os, q.bare, q.keep, q.rel, q.own1, q.own3, th, q.keys⟩
  · exact (sb.2 a (old e)).trans (q.un.keep a o e n hf hx)
  · obtain ⟨sl, e1⟩ := q.un.slot a o e n hf hx
    exact ⟨sl, (sb.2 a (old e)).trans e1⟩
  · obtain ⟨o1, e1⟩ := q.un.there a o e hx
    exact ⟨o1, (sb.2 a (old e)).trans e1⟩
  · refine (q.hok a o e).stay (fun c v hc k => (sb.2 c ?_).trans k) (fun _ z => z) fun _ _ z => z
    intro z
    subst z
    rcases hc with hc | hc
    · rw [← hc, hb] at e; cases e
    · rw [hb] at hc; cases hc
theorem de_sortF {e : Expr} {te : DTE} {x : Str} {p pos kp np : Pos} {k j : Nat} {ps : List Str} {sp : DSp} (c : Cal X.prog X.w X.K X.mg X.base j x ps sp) (hgd : X.A.guards = some []) (hr : Room k X.A) (he : DE X H0 e te) (z : X.mg "sorted" = none) (hj : j + 2 ≤ k := by decide) (hg2 : Gl X x := by rfl) (hdb : (x == ("__debug__" : Str)) = false := by decide)
    (hv : bootBuiltins "sorted" = some (.builtin "sorted") := by decide +kernel) (hg : Gl X "sorted" := by rfl) (h1 : starEach [e] X.env = (false, eval e X.env) :: starEach [] X.env := by rfl)
    (h2 : backTo pos (starEach [e] X.env) = (false, eval e X.env) :: backTo pos (starEach [] X.env) := by rfl) (h3 : (backTo pos (starEach [e] X.env)).any (·.1) = false := by rfl) :
    DE X H0 (.Call (.Name "sorted" p) [e] [⟨some "key", .Name x np, kp⟩] pos) (dSortF sp te) := by
  obtain ⟨f, fd, hm, hk, hbi, F⟩ := c.ex
  refine ⟨fun pins s σ H Q I h => wpAny_Call_Name_kw (ld_blt I hg z hv ?_ (by decide) (by decide))⟩
  obtain ⟨δ, S, Pk, w, ht, hp⟩ := h
  refine PyProof.Rows.callWith_kw (thn ((da_cons he da_nil h1).run pos pins s σ H (fun vs H1 => ∃ d S1 v, vs = [v] ∧ Keep X.kw H H1 ∧ Rel X.kw S1 H1 ∧ Rep X.kw H1 d v ∧ sortF sp Pk d S1) I ⟨δ, S, fun ds S1 => match ds with | [d] => sortF sp Pk d S1 | _ => False, w, ht, ?_⟩) fun us s1 q => ?_) h2 h3
  · intro ds S1 q vs H1 k1 r1 p1
    obtain ⟨d, rfl⟩ : ∃ d, ds = [d] := match ds, q with | [d], _ => ⟨d, rfl⟩
    obtain ⟨v, ws, rfl, pv, pn⟩ := p1.cons_inv
    cases pn.nil_inv
    exact ⟨d, S1, v, rfl, k1, r1, pv, q⟩
  obtain ⟨vs0, H1, I1, rv, d, S1, v0, rfl, k1, r1, p1, q⟩ := q
  unfold sortF at q
  split at q
  · rename_i a
    split at q
    · rename_i xs e0
      obtain ⟨hlen, kf, hkey, hout⟩ := q
      cases rep_ref.mp p1
      obtain ⟨u, rfl, ru⟩ := vals1 rv
      obtain rfl : u = Value.ref a := ru
      show wpAny _ _ (evalAll [(do let v ← eval (.Name x np) X.env; standAt pos; pure v)]) _ _ s1
      refine wpAny_evalAll_cons (wpAny_bind (ld_glob I1 hg2 hm (wpAny_bind (wpAny_standAt (wpAny_pure (wpAny_evalAll_nil ?_)))) hdb))
      show wpAny _ _ (call (.builtin "sorted") [.ref a] [(Str.ofString "key", .ref f)]) _ _ s1
      obtain ⟨vs, hvs, rs⟩ := r1.lst e0
      obtain ⟨its, va, pl, _⟩ := I1.list (.of hvs)
      have l1 : its.length = xs.length := by rw [← va.length, rs.length]
      have nofs : ∀ b, s1.heap.objs.size ≤ b → b ∉ frs X.stack := fun b hb z => (List.mem_cons.mp (I1.stkSub _ z)).elim (fun e => by have l := I1.lt; rw [← e] at l; exact Nat.lt_irrefl _ (Nat.lt_of_lt_of_le l hb)) (I1.nofs hb)
      have old : ∀ b o, s1.heap.get? b = some o → (hAsk (hCopy s1.heap its) (s1.heap.objs.size + 1) its).get? b = some o := fun b o e => hAsk_old (hCopy_old e) (Nat.ne_of_lt (Nat.lt_succ_of_lt (Heap.lt_size e)))
      refine sorted_key pl.isList (by omega) (fun ks s' => ∃ H', AskF X S1 H1 s1 kf xs ks s' H') ⟨H1, Un.kept old, I1.hok.kept old, rfl, I1.bare, .refl, r1, I1.hok.fresh (by omega), I1.hok.fresh (by omega), ⟨_, Heap.get?_push_of_some _ (Heap.get?_push_of_some _ (get?_update_seq (hCopy_at _ _) _))⟩, fun i k h => by simp at h⟩ ?_ ?_
      · -- one key
        rintro v ks s' e hv' ⟨H', q⟩ gk
        have I' := q.inv I1
        have hi : ks.length < its.length := (List.getElem?_eq_some_iff.mp hv').1
        obtain ⟨d, hd⟩ : ∃ d, xs[ks.length]? = some d := ⟨_, List.getElem?_eq_getElem (by omega)⟩
        obtain ⟨y, hy, ry⟩ := rs.get hd
        obtain ⟨v', hv2, rv2⟩ := va.get hy
        rw [hv'] at hv2; cases hv2
        have room : Room j X.A.in1.in1 := ((hr.mono hj).in1).in1
        have one := F.len _ _ _ _ (hkey d (List.mem_of_getElem? hd) (fun e S' => S' = S1 ∧ e = .tup [.int (kf d).1, .int (kf d).2.1, .int (kf d).2.2]) ⟨rfl, rfl⟩)
        refine wpAny_call (codeAny_mono (F.run (A := X.A.in1.in1) (outer := X.stack) (s := s') (H := H') (E := E0) (Pe := X0) (us := [v]) (vs := [y]) (Q := fun w H3 => Keep X.kw H' H3 ∧ Rel X.kw S1 H3 ∧ Rep X.kw H3 (.tup [.int (kf d).1, .int (kf d).2.1, .int (kf d).2.2]) w) hgd room I'.env0.in1.in1 (by have bnd := hbi s' [v] I'.kIn (by simpa using one); rwa [List.append_nil] at bnd) (.cons rv2 .nil) q.rel (.cons (ry.keep q.keep) .nil)
          (hkey d (List.mem_of_getElem? hd) (fun e S' => S' = S1 ∧ e = .tup [.int (kf d).1, .int (kf d).2.1, .int (kf d).2.2]) ⟨rfl, rfl⟩) (fun e S' h v H3 k3 r3 p3 => by obtain ⟨rfl, rfl⟩ := h; exact ⟨k3, r3, p3⟩) px0) fun r s3 hq => ?_)
        cases r with
        | error er => exact let ⟨_, _, _, _, _, _, _, _, _, _, _, _, no⟩ := hq; no.elim
        | ok fl =>
          cases fl with
          | next => exact (show False from hq).elim
          | brk => exact (show False from hq).elim
          | cont => exact (show False from hq).elim
          | ret kv =>
            obtain ⟨yv, H3, os3, bare3, un3, hok3, rkv, kp3, rl3, rp3⟩ := hq
            have stay : ∀ b o, s1.heap.objs.size ≤ b → H' b = none → s'.heap.get? b = some o → s3.heap.get? b = some o := fun b o hb hn e => un3.keep b o e hn (nofs b hb) (by simp)
            obtain ⟨o1, g1⟩ := q.there1
            have g1' := stay _ _ (Nat.le_succ _) q.own1 g1
            have g3' := stay _ _ (by omega) q.own3 gk
            refine ⟨g3'.trans gk.symm, g1'.trans g1.symm, fun h' sb at_ => ⟨H3, ?_⟩⟩
            have q3 : AskF X S1 H1 s1 kf xs (ks ++ [kv]) s3 H3 := {
              un := q.un.trans un3
              hok := hok3
              os := os3.trans q.os
              bare := bare3
              keep := q.keep.trans kp3
              rel := rl3
              own1 := un3.free _ _ g1 q.own1 (by simp)
              own3 := un3.free _ _ gk q.own3 (by simp)
              there1 := ⟨_, g1'⟩
              keys := fun i k' hk => by
                by_cases hlt : i < ks.length
                · rw [List.getElem?_append_left hlt] at hk
                  obtain ⟨d', v', h1, h2, h3⟩ := q.keys i k' hk
                  exact ⟨d', v', h1, h2.keep kp3, h3⟩
                · have : i = ks.length := by
                    have := (List.getElem?_eq_some_iff.mp hk).1
                    simp at this
                    omega
                  subst this
                  simp at hk
                  subst hk
                  exact ⟨d, yv, hd, rp3, rkv⟩ }
            exact q3.touch q3.own3 (by omega) sb ⟨o1, (sb.2 _ (fun z => absurd (Nat.add_left_cancel z) (by decide))).trans g1'⟩
      · -- the end
        rintro ks s' ⟨H', q⟩ len
        have I' := q.inv I1
        have tri : ∀ i k', ks[i]? = some k' → ∃ d, xs[i]? = some d ∧ IsTri s'.heap k' (kf d) := fun i k' hk => let ⟨d', v', h1, h2, h3⟩ := q.keys i k' hk; ⟨d', h1, rep_tri I' h2 h3⟩
        refine ⟨fun v u => lex3 (triV s'.heap v) (triV s'.heap u), swo3 _, fun h2 => tri_ready h2 fun v hv => ?_, fun xs' ha hb' srt perm b1 b2 at_ => ?_⟩
        · obtain ⟨i, hi, rfl⟩ := List.getElem_of_mem hv
          obtain ⟨d', h1, t⟩ := tri i _ (List.getElem?_eq_getElem hi)
          rw [triV_is t]; exact t
        · have q1 := q.touch q.own3 (by omega) b1 (let ⟨o, g⟩ := q.there1; ⟨o, (b1.2 _ (fun z => absurd (Nat.add_left_cancel z) (by decide))).trans g⟩)
          obtain ⟨cz, gz⟩ := at_
          have q2 := q1.touch q1.own1 (Nat.le_succ _) b2 ⟨_, gz⟩
          obtain ⟨idx, pidx, eidx⟩ := perm_lift (fun i => (ks.getD i Value.none, its.getD i Value.none)) perm (List.range its.length) (range_zip _ _ _ _ len)
          have inR : ∀ i ∈ idx, i < its.length := fun i hi => List.mem_range.mp (pidx.mem_iff.mp hi)
          have pys : (idx.map fun i => xs.getD i .non).Perm xs := by
            have := pidx.map fun i => xs.getD i .non
            rwa [l1, range_self] at this
          have keyAt : ∀ i ∈ idx, triV s'.heap (ks.getD i .none) = kf (xs.getD i .non) := fun i hi => by
            have h1 : i < ks.length := by rw [len]; exact inR i hi
            obtain ⟨d', e1, t⟩ := tri i _ (List.getElem?_eq_getElem h1)
            rw [List.getD_eq_getElem?_getD, List.getElem?_eq_getElem h1, List.getD_eq_getElem?_getD, e1]
            exact triV_is t
          have sys : (idx.map fun i => xs.getD i .non).Pairwise (fun x y => lex3 (kf y) (kf x) = false) := by
            rw [List.pairwise_map]
            rw [← eidx] at srt
            have srt := List.pairwise_map.mp srt
            exact srt.imp_of_mem fun {i j} hi hj h => by
              simp only [keyAt i hi, keyAt j hj] at h
              exact h
          have repV : ∀ l : List Nat, (∀ i ∈ l, i < its.length) → Reps X.kw H' (l.map fun i => xs.getD i .non) (l.map fun i => vs.getD i .non) ∧ Vals (l.map fun i => vs.getD i .non) (l.map fun i => its.getD i .none) := by
            intro l hl
            induction l with
            | nil => exact ⟨.nil, .nil⟩
            | cons i l ih =>
              obtain ⟨a1, a2⟩ := ih fun j hj => hl j (List.mem_cons_of_mem _ hj)
              have hi := hl i List.mem_cons_self
              obtain ⟨d', hd⟩ : ∃ d, xs[i]? = some d := ⟨_, List.getElem?_eq_getElem (by omega)⟩
              obtain ⟨y, hy, ry⟩ := rs.get hd
              obtain ⟨v', hv2, rv2⟩ := va.get hy
              simp only [List.map_cons, List.getD_eq_getElem?_getD, hd, hy, hv2, Option.getD_some] at a1 a2 ⊢
              exact ⟨.cons (ry.keep q.keep) a1, .cons rv2 a2⟩
          obtain ⟨rep2, val2⟩ := repV idx inR
          have eout : xs'.map (·.2) = idx.map fun i => its.getD i .none := by rw [← eidx, List.map_map]; rfl
          rw [eout] at gz
          generalize hys : (idx.map fun i => xs.getD i .non) = ys at pys sys rep2
          generalize hyv : (idx.map fun i => vs.getD i .non) = yv at rep2 val2
          have ny : ∀ {b : Addr} {o : HO}, H' b = some o → b ≠ s1.heap.objs.size + 1 := fun e z => by rw [z, q.own1] at e; cases e
          have kn : Keep X.kw H' (upd H' (s1.heap.objs.size + 1) (.lst yv)) := .new q.own1
          have un : Un (frs X.stack) [] H1 (upd H' (s1.heap.objs.size + 1) (.lst yv)) s1.heap hb' := ⟨q2.un.keep, q2.un.slot,
            fun b o e n hx => by rw [upd_ne (Nat.ne_of_lt (Nat.lt_succ_of_lt (Heap.lt_size e)))]; exact q2.un.free b o e n hx, q2.un.there,
            fun b zs e => by have e2 := q2.un.tups b zs e; rw [upd_ne (ny e2)]; exact e2, fun b o zs e => by have e2 := q2.un.frzs b o zs e; rw [upd_ne (ny e2)]; exact e2,
            fun b zs e => by obtain ⟨more, e2⟩ := q2.un.tbls b zs e; exact ⟨more, by rw [upd_ne (ny e2)]; exact e2⟩⟩
          have hok : HOk X.prog X.w (upd H' (s1.heap.objs.size + 1) (.lst yv)) hb' := fun b o e => by
            by_cases hbn : b = s1.heap.objs.size + 1
            · subst hbn
              rw [upd_same] at e; cases e
              refine ⟨?_, _, _, val2, gz⟩
              have l2 := rep2.length
              have l3 := pys.length_eq
              have := szl
              show yv.length ≤ sizeLine
              rw [sizeLine_eq]; omega
            · rw [upd_ne hbn] at e
              exact (q2.hok b o e).stay (fun _ _ _ z => z) (fun c hc => by rw [upd_ne (ny hc)]; exact hc) fun c zs hc => by rw [upd_ne (ny hc)]; exact hc
          have J : Inv X pins σ (upd H' (s1.heap.objs.size + 1) (.lst yv)) { s' with heap := hb' } := I1.call' (ch := []) q.os un hok q.bare fun b hb => absurd hb (by simp)
          have rl : Rel X.kw (up S1 (s1.heap.objs.size + 1) (.lst ys)) (upd H' (s1.heap.objs.size + 1) (.lst yv)) := q.rel.laid q.own1 fun own ow => ⟨ow, _, upd_same, rep2.keep kn⟩
          exact ⟨.ref _, _, J, rfl, hp _ _ (hout ys pys sys _ (q.rel.free q.own1)) _ _ (k1.trans (q.keep.trans kn)) rl (rep_ref.mpr rfl)⟩
    · exact q.elim
  · exact q.elim
end
end Sb

/-! sorted(ints), d.clear(), d == {}. -/
namespace Sb
open PySem PySem.Spec PyProof.Rows L2
section
variable {X : Cx}
/-! ### sorted(xs), integers -/
@[simp] def gSortI : GA := fun ds S P => match ds with
  | [.ref a] => (match S a with | some (.lst xs) => ∃ ns : List Int, xs = ns.map Dv.int ∧ ∀ ms : List Int, ms.Perm ns → ms.Pairwise (· ≤ ·) → ∀ l, S l = none → P (.ref l) (up S l (.lst (ms.map Dv.int))) | _ => False)
  | _ => False
theorem reps_ints {K : Kw} {H : Hp} : ∀ {ns : List Int} {vs : List V}, Reps K H (ns.map Dv.int) vs → vs = ns.map V.int
  | [], _, r => r.nil_inv
  | n :: ns, _, r => by
    obtain ⟨y, ys, rfl, p, q⟩ := r.cons_inv
    rw [rep_int.mp p, reps_ints q]; rfl
theorem ints_reps {K : Kw} {H : Hp} : ∀ (ns : List Int), Reps K H (ns.map Dv.int) (ns.map V.int)
  | [] => .nil
  | _ :: ns => .cons (rep_int.mpr rfl) (ints_reps ns)
theorem cg_sortI : CallG X (.builtin "sorted") gSortI := ⟨_, cr_sortedI, fun ds S P q vs H Q r rs hp => by
  unfold gSortI at q
  split at q
  · split at q
    · rename_i xs e
      obtain ⟨ns, rfl, q⟩ := q
      obtain ⟨v, rfl, rv⟩ := reps1 rs
      obtain ⟨ys, hy, ry⟩ := r.lst e
      rw [reps_ints ry] at hy
      exact ⟨_, ns, by rw [rep_ref.mp rv], .of hy, fun ms p h1 h2 hn => hp.lst r (ints_reps ms) (q ms h1 h2) hn⟩
    · exact q.elim
  · exact q.elim⟩
/-! ### d.clear() -/
theorem nil_at {w : World} {h : Heap} {d : Addr} {ep : Nat} (low : (d == sysModules) = false) (x : h.DictRaw d #[] ep) : NAt w h d [] :=
  let ⟨o, ho, hc, hd⟩ := x
  ⟨low, Nat.zero_le _, ⟨o, #[], ep, ho, hc, hd, rfl⟩, fun e z => absurd z (by simp), .nil⟩
theorem pe_nclear {o : Expr} {td : TE} {apos cpos : Pos} (ho : PE X o td) (m0 : attributeBase o "clear" X.env (eval o X.env) = eval o X.env := by rfl) (m1 : (apos.endLine == cpos.line) = true := by rfl) :
    PE X (.Call (.Attribute o "clear" apos) [] [] cpos) (fun σ H Q => td σ H fun x H1 => ∃ a es, x = .ref a ∧ H1 a = some (NdO X.w a es) ∧ Q .non (upd H1 a (NdO X.w a []))) := by
  refine ⟨fun pins s σ H Q I h => ?_⟩
  refine wpAny_Call_method (T := "dict") (id := "dict.clear") m0 rfl m1 F.plainAttrs_dict F.slot_dict_clear F.type_dict_clear (thn (ho.run pins s σ H _ I h) fun u s1 ⟨x, H1, I1, rx, a, es, ex, ha, q⟩ => ?_)
  subst ex
  obtain rfl : u = Value.ref a := rx
  obtain ⟨t1, t2⟩ := look_is I1 (.of ha)
  obtain ⟨o, I2⟩ := I1.lock ha True.intro
  obtain ⟨low, hgd, hx, arr, ep, hdt, hsz, _⟩ := ndo_lock I2 upd_same
  obtain ⟨⟨ys, ⟨_, fit, _⟩, pr⟩, _⟩ := I1.hok a _ ha
  refine ⟨t1, t2, ?_⟩
  show wpAny _ _ (callWith cpos (.builtin "dict.clear") [.ref a] [] []) _ X.xe s1
  exact method_meetsIn F.slot_dict_clear F.entry_dict_clear rfl (PySem.evalArgs_none ⟨rfl, t1, F.args_dict_clear_1 _, _, PySem.meets_dict_clear_raw a, ⟨arr, ep, ⟨o, hgd, hx, hdt⟩, by rw [hsz, ← pr.nlen]; exact fit, fun h' raw sb =>
    ⟨.non, _, ndo_write (t' := s1.toks) I1 ha sb (nil_at low raw) .nil, rfl, q⟩⟩⟩)
/-- d.clear() -/
@[simp] def dNclear (td : DTE) : DTE := fun δ S P => td δ S fun d S1 => match d with
  | .ref a => (match S1 a with | some (.ndc _) => P .non (up S1 a (.ndc [])) | _ => False)
  | _ => False
variable {H0 : Hp} {o : Expr} {td : DTE} {apos cpos : Pos}
theorem de_nclear (ho : DE X H0 o td) (m0 : attributeBase o "clear" X.env (eval o X.env) = eval o X.env := by rfl) (m1 : (apos.endLine == cpos.line) = true := by rfl) : DE X H0 (.Call (.Attribute o "clear" apos) [] [] cpos) (dNclear td) := (pe_nclear ho m0 m1).to fun σ H Q h => by
  obtain ⟨δ, S, P, w, ht, hp⟩ := h
  refine ⟨δ, S, _, w, ht, fun d S1 q x H1 k1 r1 p1 => ?_⟩
  split at q
  · split at q
    · rename_i a _ kvs e
      obtain ⟨es, ha, n⟩ := r1.ndc e
      exact ⟨a, es, rep_ref.mp p1, ha, hp _ _ q _ _ (k1.trans (keep_nd ha)) (r1.ndcw e ha (show KVn _ _ [] [] from rfl)) (rep_non.mpr rfl)⟩
    · exact q.elim
  · exact q.elim
/-! ### d == {}, d != {} -/
theorem same_nil {prog : Program} {w : World} {A : Around} {E : Value → Shared → Prop} {s : Shared} {nm : String} {a b : Addr} {es : Array DictEntry} {e1 e2 : Nat} {Q : Bool → Shared → Prop} (ha : (a == sysModules) = false) (hb : (b == sysModules) = false)
    (da : s.heap.DictRaw a es e1) (db : s.heap.DictRaw b #[] e2) (h : Q (es.size == 0) s) : wpAny (model prog w) A (Builtin.Dict.samePairs nm a b) Q E s := by
  obtain ⟨oa, ga, _, xa⟩ := da
  obtain ⟨ob, gb, _, xb⟩ := db
  unfold Builtin.Dict.samePairs Builtin.Dict.showsAll
  rw [if_neg (by rw [ha]; exact Bool.false_ne_true), if_neg (by rw [hb]; exact Bool.false_ne_true)]
  refine wpAny_bind (wpAny_pure (wpAny_bind (wpAny_pure (wpAny_bind (wpAny_dictEntries ga xa ?_)))))
  dsimp only
  refine wpAny_bind (wpAny_dictEntries gb xb ?_)
  by_cases z : es.size = 0
  · rw [if_neg (by rw [z]; decide)]
    refine wpAny_bind (wpAny_dictEpoch ga xa ?_)
    rw [z] at h ⊢
    refine wpAny_bind ?_
    rw [Std.Legacy.Range.forIn_eq_forIn_range']
    simp only [Std.Legacy.Range.size, Nat.sub_zero, Nat.add_sub_cancel, Nat.div_one, List.range'_zero, List.forIn_nil]
    exact wpAny_pure (wpAny_pure h)
  · rw [if_pos (by simpa using z)]
    have zb : (es.size == 0) = false := by simpa using z
    rw [zb] at h
    exact wpAny_bind (wpAny_rule (wpAny_pure h))
theorem nd_raw {pins : List (Addr × Obj)} {σ : L2.St} {H : Hp} {s : Shared} {a : Addr} {es : NL V V} (I : Inv X pins σ H s) (ha : H a = some (NdO X.w a es)) : (a == sysModules) = false ∧ ∃ arr ep, s.heap.DictRaw a arr ep ∧ arr.size = es.length := by
  obtain ⟨o, I2⟩ := I.lock ha True.intro
  obtain ⟨low, hgd, hx, arr, ep, hdt, hsz, _⟩ := ndo_lock I2 upd_same
  exact ⟨low, arr, ep, ⟨o, hgd, hx, hdt⟩, hsz⟩
@[simp] def gNdE (f : Bool → Bool) : G2 := fun d e S P => match d, e with
  | .ref a, .ref b => (match S a, S b with | some (.ndc kvs), some (.ndc []) => P (.bl (f kvs.isEmpty)) S | _, _ => False)
  | _, _ => False
def rNdE (w : World) (f : Bool → Bool) : R2 := fun x y H Q => ∃ a b es, x = .ref a ∧ y = .ref b ∧ H a = some (NdO w a es) ∧ H b = some (NdO w b []) ∧ Q (.bl (f es.isEmpty)) H
theorem o_ndNe (hu : X.A.units < cLine) : OpR X (compareOp .NotEq) (rNdE X.w not) := by
  intro pins s σ H x y v u Q I rx ry h
  obtain ⟨a, b, es, rfl, rfl, qa, qb, q⟩ := h
  obtain rfl : v = Value.ref a := rx
  obtain rfl : u = Value.ref b := ry
  obtain ⟨la, aa, ea, ra, za⟩ := nd_raw I qa
  obtain ⟨lb, ab, eb, rb, zb⟩ := nd_raw I qb
  have : ab = #[] := Array.size_eq_zero_iff.mp zb
  subst this
  show wpAny _ _ (richCompare .NotEq _ _) _ _ _
  refine wpAny_richCompare_same_room (op := .NotEq) ra.typeIs rb.typeIs PySem.F.slot_dict_ne (wpAny_call_entry PySem.F.slot_dict_ne ra.typeIs PySem.F.entry_dict_ne ?_ (PySem.F.args_dict_ne_2 _ _)) hu
  show wpAny _ _ (Builtin.Dict.dictSlotArgs "__ne__" ⟨[.ref a, .ref b], []⟩ >>= _) _ _ s
  refine wpAny_bind ?_
  unfold Builtin.Dict.dictSlotArgs
  refine wpAny_bind (wpAny_notOrdered_dict ra.typeIs ?_)
  show wpAny _ _ (pure (Value.ref a, Value.ref b)) _ _ s
  refine wpAny_pure (wpAny_bind (wpAny_isInstance (T := "dict") rb.typeIs PySem.F.sub_dict_dict ?_))
  simp only [Bool.not_true, Bool.false_eq_true, if_false]
  refine wpAny_bind (wpAny_pure (wpAny_bind (wpAny_pure (wpAny_bind (same_nil la lb ra rb (wpAny_pure ⟨_, rfl, (fun x => nomatch x), ?_⟩))))))
  refine ⟨.bl (!es.isEmpty), H, I, ?_, q⟩
  show Value.bool _ = Value.bool _
  rw [za]
  cases es <;> rfl
theorem c_ndNe (hu : X.A.units < cLine) : OpG X (compareOp .NotEq) (gNdE not) := ⟨_, o_ndNe hu, fun d e S P q v u H Q r rv ru hp => by
  unfold gNdE at q
  split at q
  · split at q
    · rename_i a b kvs e1 e2
      obtain ⟨xs, ha, n⟩ := r.ndc e1
      obtain ⟨ys, hb, n2⟩ := r.ndc e2
      have : ys = [] := n2
      subst this
      refine ⟨_, _, xs, rep_ref.mp rv, rep_ref.mp ru, ha, hb, hp _ _ q _ _ .refl r (rep_bl.mpr ?_)⟩
      have := n.length
      cases xs <;> cases kvs <;> simp_all
    · exact q.elim
  · exact q.elim⟩
end
end Sb

/-! len(x) of an object whose class has __len__. -/
namespace Sb
open PySem PySem.Spec PyProof.Rows L2
section
variable {X : Cx} {k j : Nat} {c : Str} {ps : List Str} {sp : DSp}
@[simp] def gLenO (c : Str) (sp : DSp) : GA := fun ds S P => match ds with
  | [d] => isObj c "__len__" d S ∧ sp [d] S (fun e S' => ∃ n : Nat, e = .int (n : Nat) ∧ n < 1000000 ∧ P (.int (n : Nat)) S') X0
  | _ => False
theorem cg_lenO (cm : CalM X.prog X.w X.K X.mg X.base j c "__len__" ps sp) (hgd : X.A.guards = some []) (hr : Room k X.A) (hj : j + 2 ≤ k := by decide) : CallG X (.builtin "len") (gLenO c sp) := by
  obtain ⟨C, f, fd, kc, hm, hb, F⟩ := cm.ex
  refine ⟨fun vs H Q => ∃ ds S P, Rel X.kw S H ∧ Reps X.kw H ds vs ∧ PV X.kw H P Q ∧ gLenO c sp ds S P, ?_, fun ds S P q vs H Q r rs hp => ⟨ds, S, P, r, rs, hp, q⟩⟩
  intro pins s σ H vs us Q I rv h
  obtain ⟨ds, S, P, rl, rs, hp, q⟩ := h
  obtain ⟨d, rfl⟩ : ∃ d, ds = [d] := by
    unfold gLenO at q
    split at q
    · exact ⟨_, rfl⟩
    · exact q.elim
  obtain ⟨io, q⟩ := q
  obtain ⟨v, rfl, r1⟩ := reps1 rs
  obtain ⟨a, dx, ys, rfl, hx, l⟩ := obj_at kc io rl r1
  obtain ⟨u, rfl, ru⟩ := vals1 rv
  obtain rfl : u = Value.ref a := ru
  obtain ⟨mA, O, _⟩ := ins_get I.hok hx
  obtain ⟨od, II, _⟩ := O.look
  refine Calls.call_function_entry kind_len plain_len entry_len (args_len1 _) ?_
  unfold Builtin.«len»
  refine wpAny_bind (m := oneArg "len" _) (wpAny_pure (wpAny_bind (m := callSpecial? (.ref a) (Str.ofString "__len__")) ?_))
  unfold callSpecial? specialOf
  refine wpAny_bind (wpAny_bind (II.type.here ((PySem.W.looks_findIn I.kIn hm.at_).here ?_)))
  refine wpAny_holding (wpAny_bind ((PySem.W.bind_fn I.kIn _ (beq_iff_eq.mp hm.fn)).here ?_))
  have hl := F.len _ _ _ _ q
  have room : Room j X.A.in1 := Room.in1 (hr.mono (show j + 1 ≤ k by omega))
  have bnd := hb s [.ref a] I.kIn hl
  rw [List.append_nil] at bnd
  have go : wpAny (model X.prog X.w) X.A.in1 (call (.ref f) [.ref a]) (EP X pins σ (fun w H3 => ∃ n : Nat, w = .int (n : Nat) ∧ n < 1000000 ∧ Q (.int (n : Nat)) H3)) X.xe s := by
    refine wpAny_call (codeAny_mono (F.run (A := X.A.in1) (outer := X.stack) (s := s) (H := H) (E := E0) (Pe := X0) (us := [.ref a]) (vs := [.ref a]) (Q := fun w H3 => ∃ n : Nat, w = .int (n : Nat) ∧ n < 1000000 ∧ Q (.int (n : Nat)) H3) hgd room I.env0.in1 bnd (.cons rfl .nil) rl (.cons r1 .nil) q
      (fun e S' h v H3 k3 r3 p3 => by obtain ⟨n, rfl, hn, h⟩ := h; exact ⟨n, rep_int.mp p3, hn, hp _ _ h _ _ k3 r3 (rep_int.mpr rfl)⟩) px0) fun r s3 hq => ?_)
    cases r with
    | error er => exact let ⟨_, _, _, _, _, _, _, _, _, _, _, _, no⟩ := hq; no.elim
    | ok fl =>
      cases fl with
      | ret u => exact I.after hq
      | _ => exact (show False from hq).elim
  show wpAny _ _ (call (.ref f) [.ref a] >>= fun z => pure (some z)) _ _ s
  refine wpAny_bind (wpAny_mono go (fun u s' hq => ?_) fun _ _ z => z)
  obtain ⟨w, H3, I3, rw3, n, rfl, hn, hq⟩ := hq
  obtain ⟨t, rfl⟩ := rw3
  refine wpAny_pure (wpAny_bind (wpAny_holding (wpAny_pure (wpAny_bind (wpAny_letGo ?_)))))
  show wpAny _ _ (if ((n : Nat) : Int) < 0 then _ else _) _ _ _
  rw [if_neg (by omega)]
  show wpAny _ _ (if ((n : Nat) : Int) ≥ 2 ^ 63 then _ else _) _ _ _
  rw [if_neg (by omega)]
  exact wpAny_bind (wpAny_mkInt (wpAny_pure ⟨_, rfl, V.int n, H3, I3.tok _, ⟨_, rfl⟩, hq⟩))
end
end Sb

/-! list(d.items()), list(d) of a plain dict. -/
namespace Sb
open PySem PySem.Spec PyProof.Rows L2
theorem News.ok {K : Kw} {H H2 : Hp} {L : List (Addr × List V)} (h : News H L H2) : Keep K H H2 ∧ ∀ S, Rel K S H → Rel K S H2 := by
  induction h with
  | nil => exact ⟨.refl, fun _ r => r⟩
  | cons h0 hob _ ih => exact ⟨(Keep.new h0).trans ih.1, fun S r => ih.2 S (r.new h0)⟩
theorem News.reps {K : Kw} : ∀ {kvs : List (Dv × Dv)} {es : NL V V} {L : List (Addr × List V)} {H H2 : Hp}, News H L H2 → L.map (·.2) = es.map (fun e => [e.2.1, e.2.2]) → KVn K H kvs es → Reps K H2 (kvs.map fun p => Dv.tup [p.1, p.2]) (L.map fun t => V.ref t.1)
  | [], es, L, H, H2, ns, e, n => by
    obtain rfl : es = [] := n
    cases ns with
    | nil => exact .nil
    | cons _ _ _ => simp at e
  | p :: kvs, es, L, H, H2, ns, e, n => by
    obtain ⟨k, x, y, es', rfl, _, _, h3, h4, h5⟩ := n
    cases ns with
    | nil => simp at e
    | cons h0 hob rest =>
      simp only [List.map_cons, List.cons.injEq] at e
      obtain ⟨rfl, e⟩ := e
      exact .cons ((rep_new_tup hob h0 (.cons h3 (.cons h4 .nil))).keep rest.ok.1) (News.reps rest e (h5.keep (.new h0)))
section
variable {X : Cx} {H0 : Hp} {e : Expr} {td : DTE} {p pos apos cpos : Pos}
/-- list(e.items()) -/
@[simp] def dLstItems (td : DTE) : DTE := fun δ S P => td δ S fun d S1 => match d with
  | .ref a => (match S1 a with | some (.ndc kvs) => ∀ l, S1 l = none → P (.ref l) (up S1 l (.lst (kvs.map fun p => Dv.tup [p.1, p.2]))) | _ => False)
  | _ => False
theorem de_lstItems (hc : X.calm = true) (hg : Gl X "list") (z : X.mg "list" = none) (he : DE X H0 e td) (m0 : attributeBase e "items" X.env (eval e X.env) = eval e X.env := by rfl) (m1 : (apos.endLine == cpos.line) = true := by rfl)
    (na : starEach [.Call (.Attribute e "items" apos) [] [] cpos] X.env = (false, eval (.Call (.Attribute e "items" apos) [] [] cpos) X.env) :: starEach [] X.env := by rfl)
    (hpl : (backTo pos (starEach [] X.env)).any (·.1) = false := by rfl) : DE X H0 (.Call (.Name "list" p) [.Call (.Attribute e "items" apos) [] [] cpos] [] pos) (dLstItems td) :=
  (pe_callTy (call_listV hc) hg z (by decide +kernel) (pa_cons (pe_viewN he m0 m1) pa_nil na) (by decide) (by decide) na hpl).to fun σ H Q h => by
    obtain ⟨δ, S, P, w, ht, hp⟩ := h
    refine ⟨δ, S, _, w, ht, fun d S1 q x H1 k1 r1 p1 => ?_⟩
    split at q
    · rename_i a
      split at q
      · rename_i kvs e0
        obtain ⟨es, ha, n⟩ := r1.ndc e0
        refine ⟨a, es, rep_ref.mp p1, ha, fun p hn => ⟨p, a, es, rfl, upd_same, by rw [upd_ne (fun z => by rw [z, hn] at ha; cases ha)]; exact ha, fun l L H2 eL ns hl => ?_⟩⟩
        have k2 : Keep X.kw H1 (upd H1 p (DX.itemsO p a)) := .new hn
        have k3 := (k1.trans k2).trans ns.ok.1
        exact (hp.keep k3).lst (ns.ok.2 _ (r1.new hn)) (News.reps ns eL (n.keep k2)) (fun l' hl' => q l' hl') hl
      · exact q.elim
    · exact q.elim
/-- list(d), d a plain dict -/
@[simp] def gListD : GA := fun ds S P => match ds with
  | [.ref a] => (match S a with | some (.dct kvs) => ∀ l, S l = none → P (.ref l) (up S l (.lst (kvs.map (·.1)))) | _ => False)
  | _ => False
theorem rep_kV {K : Kw} {H : Hp} (k : Key) : Rep K H (kD k) (kV k) := by
  cases k with
  | inl i => exact rep_int.mpr rfl
  | inr x => exact rep_str.mpr rfl
theorem reps_kD {K : Kw} {H : Hp} : ∀ (ys : List (Key × V)), Reps K H (ys.map fun y => kD y.1) (ys.map fun y => kV y.1)
  | [] => .nil
  | y :: ys => .cons (rep_kV y.1) (reps_kD ys)
theorem cg_listD (hc : X.calm = true) : CallG X (.type "list") gListD := ⟨_, call_listD hc, fun ds S P q vs H Q r rs hp => by
  unfold gListD at q
  split at q
  · split at q
    · rename_i kvs e
      obtain ⟨v, rfl, rv⟩ := reps1 rs
      obtain ⟨ys, hy, e1, _⟩ := r.dct e
      exact ⟨_, ys, by rw [rep_ref.mp rv], .of hy, fun l hl => hp.lst r (by rw [e1]; exact reps_kD ys) q hl⟩
    · exact q.elim
  · exact q.elim⟩
end
end Sb

/-! a, b, .. = a list. -/
namespace Sb
open PySem PySem.Spec PyProof.Rows L2
section
variable {X : Cx} {H0 : Hp} {e : Expr} {te : DTE} {pos tpos : Pos} {es : List Expr} {k : Nat} {ps : List Pat}
@[simp] def dAsgL (te : DTE) (ps : List Pat) : DTS := fun D δ S => te δ S fun d S1 => match d with
  | .ref a => (match S1 a with | some (.lst ds) => (match psets ps ds δ with | some δ1 => D.nx δ1 S1 | none => False) | _ => False)
  | _ => False
theorem ds_asgL (hc : X.calm = true) (he : DE X H0 e te) (hg : DPs X es ps) (hn : (assignEach es X.env).length = ps.length := by rfl) (hst : (assignEach es X.env).findIdx? (·.1) = none := by rfl) (hs : swapsWithSole [.Tuple es k tpos] e pos.line X.env = pure false := by rfl)
    (hw : swappedStores [.Tuple es k tpos] e X.env = pure none := by rfl) (h1 : (assignEach [.Tuple es k tpos] X.env).map (·.2) = [assign (.Tuple es k tpos) X.env] := by rfl) : DS X H0 (.Assign [.Tuple es k tpos] e pos) (dAsgL te ps) :=
  (ps_asg he (pg_unl hc hg hn hst) hs hw h1).to fun D σ H h => by
    obtain ⟨δ, S, D', w, ht, hp⟩ := h
    refine ⟨δ, S, _, w, ht, fun d S1 q v H1 k1 r1 p1 => ?_⟩
    split at q
    · rename_i a
      split at q
      · rename_i ds e0
        split at q
        · rename_i δ1 e1
          obtain ⟨xs, hx, rs⟩ := r1.lst e0
          exact ⟨a, xs, rep_ref.mp p1, .of hx, by rw [rs.length]; exact psets_length _ _ _ _ e1, psets_ok ps ds xs σ δ δ1 e1 rs (w.keep k1 r1) _ fun σ2 w2 _ => hp.nx _ _ q _ _ k1 w2⟩
        · exact q.elim
      · exact q.elim
    · exact q.elim
end
end Sb

/-! isinstance(err, T) over data. -/
namespace Sb
open PySem PySem.Spec PyProof.Rows L2
theorem kit_sub {K : PySem.W.Frag} {C : Addr} {T : String} {b : Bool} (h : PySem.W.subIn K (.ref C) (.type T) = some b) (m : PySem.W.kitMeta T = true) : PySem.W.kitOne K (.ref C) (.type T) = some b := by
  have e : (Value.ref C == Value.type T) = false := beq_eq_false_iff_ne.mpr fun z => nomatch z
  show (if (Value.ref C == Value.type T) = true then some true else if PySem.W.kitMeta T = true then PySem.W.subIn K (.ref C) (.type T) else none) = some b
  rw [e, if_neg (by decide), if_pos m, h]
/-- errors of the class c are of T, or not -/
structure IsX (K : PySem.W.Frag) (mg : Str → Option Value) (c : Str) (T : String) (b : Bool) : Prop where
  ex : ∃ C, mg c = some (.ref C) ∧ ExcC K C ∧ PySem.W.kitOne K (.ref C) (.type T) = some b
@[simp] def gIsX (a : Addr) (od : Option Addr) (T : String) (b : Bool) : GA := fun ds S P => ds = [.ref a, .ty T] ∧ (match od with | some d => (match S d with | some (.xd _) => P (.bl b) S | _ => False) | none => False)
theorem cg_isX {X : Cx} {a C : Addr} {oe : Obj} {od : Option Addr} {pn : List (Addr × Obj)} {c : Str} {T : String} {b : Bool} (e : IsX X.K X.mg c T b) (hm : X.mg c = some (.ref C)) (hz : Zc (.ref C) od oe) (hf : ∃ vs, oe.data = .fields vs) : CallG (X.suite a ((a, oe) :: pn)) (.builtin "isinstance") (gIsX a od T b) := by
  obtain ⟨C', m, ec, k⟩ := e.ex
  rw [hm] at m; cases m
  refine ⟨_, call_isX ec hz hf, fun ds S P q vs H Q r rs hp => ?_⟩
  obtain ⟨rfl, q⟩ := q
  split at q
  · rename_i dd
    split at q
    · rename_i fs e0
      obtain ⟨x, u, rfl, rx, ru⟩ := reps2 rs
      obtain ⟨_, ys, e1, _⟩ := (r.ex.choose_spec.2 dd _ e0)
      have eu : u = .ty T := by simpa only [Rep] using ru
      refine ⟨u, .type T, b, dd, ys, by rw [rep_ref.mp rx], fun w rw => ?_, k, rfl, e1, hp _ _ q _ _ .refl r (rep_bl.mpr rfl)⟩
      rw [eu] at rw; exact rw
    · exact q.elim
  · exact q.elim
end Sb

/-! len(set(xs)) over data. -/
namespace Sb
open PySem PySem.Spec PyProof.Rows L2
section
variable {X : Cx} {H0 : Hp} {e : Expr} {te : DTE} {p p2 q pos : Pos}
@[simp] def dLenSet (te : DTE) : DTE := fun δ S P => te δ S fun d S1 => match d with
  | .ref a => (match S1 a with | some (.lst ds) => ∃ ns : List Int, ds = ns.map Dv.int ∧ ns.length ≤ 4000 ∧ P (.int ((once [] ns).length : Nat)) S1 | _ => False)
  | _ => False
theorem de_lenSet (hg : Gl X "len") (hm : X.mg "len" = none) (hg2 : Gl X "set") (hm2 : X.mg "set" = none) (he : DE X H0 e te) (hc : X.calm = true := by rfl)
    (na : starEach [e] X.env = (false, eval e X.env) :: starEach [] X.env := by rfl) : DE X H0 (.Call (.Name "len" p) [.Call (.Name "set" p2) [e] [] q] [] pos) (dLenSet te) := (pe_lenSetO hg hm hg2 hm2 he hc na).to fun σ H Q h => by
  obtain ⟨δ, S, P, w, ht, hp⟩ := h
  refine ⟨δ, S, _, w, ht, fun d S1 q v H1 k1 r1 p1 => ?_⟩
  split at q
  · rename_i a
    split at q
    · rename_i ds e0
      obtain ⟨ns, rfl, hl, q⟩ := q
      obtain ⟨xs, e1, rs⟩ := r1.lst e0
      rw [reps_ints_inv rs] at e1
      exact ⟨a, ns, rep_ref.mp p1, .inl (.inl e1), hl, hp _ _ q _ _ k1 r1 (rep_int.mpr rfl)⟩
    · exact q.elim
  · exact q.elim
end
end Sb

/-! C(..) that may raise; an error whose text holds the value. -/
namespace Sb
open PySem PySem.Spec PyProof.Rows L2
section
variable {X : Cx} {H0 : Hp} {k j : Nat} {C f : Addr} {fd : FuncData} {ps : List Str} {sp : DSp} {Pe : DSt → DX} {c : Str} {p pos : Pos} {e : Expr} {es : List Expr} {t : DTA}
@[simp] def dMakeS (c : Str) (sp : DSp) (Pe : DSt → DX) (t : DTA) : DTE := fun δ S P => t δ S fun ds S1 => ∀ x, S1 x = none → sp (.ref x :: ds) (up S1 x (.ins c [])) (fun v S2 => v = .non ∧ P (.ref x) S2) (Pe δ)
theorem go_makeS {pins : List (Addr × Obj)} {σ : L2.St} {H : Hp} {s : Shared} {Q : VK} {us : List Value} {vs : List V} {ds : List Dv} {S : Store} {P : DK} {δ : DSt} (kc : KlG X.K X.mg c C) (M : Mk X.K C f) (F : DFn X.prog X.w X.K X.mg X.base k f fd ps sp) (hgd : X.A.guards = some []) (hr : Room (k + 1) X.A)
    (hb : L2.Binds X.K fd ps []) (tk : DTk X H0 Pe) (w : Wd X.kw H0 σ δ S H) (I : Inv X pins σ H s) (rv : Vals vs us) (rs : Reps X.kw H ds vs) (q : ∀ x, S x = none → sp (.ref x :: ds) (up S x (.ins c [])) (fun v S2 => v = .non ∧ P (.ref x) S2) (Pe δ)) (pv : PV X.kw H P Q) :
    wpAny (model X.prog X.w) X.A (call (.ref C) us) (EP X pins σ Q) X.xe s := by
  obtain ⟨W, tkW, hW⟩ := tk
  have rl := w.rel
  have f1 : H (s.heap.objs.size + 1) = none := I.hok.fresh (Nat.le_succ _)
  have f0 : H s.heap.objs.size = none := I.hok.fresh (Nat.le_refl _)
  have ne : s.heap.objs.size + 1 ≠ s.heap.objs.size := Nat.succ_ne_self _
  have f1' : upd H s.heap.objs.size (.own (s.heap.objs.size + 1)) (s.heap.objs.size + 1) = none := by rw [upd_ne ne]; exact f1
  have hq := q (s.heap.objs.size + 1) (rl.free f1)
  have I2 := Inv.made (C := C) I
  have kp : Keep X.kw H (upd (upd H s.heap.objs.size (.own (s.heap.objs.size + 1))) (s.heap.objs.size + 1) (.ins C s.heap.objs.size [])) := (Keep.new f0).trans (Keep.new f1')
  have r2 : Rel X.kw (up S (s.heap.objs.size + 1) (.ins c [])) (upd (upd H s.heap.objs.size (.own (s.heap.objs.size + 1))) (s.heap.objs.size + 1) (.ins C s.heap.objs.size [])) :=
    (rl.new f0).laid f1' fun own ow => ⟨ow, C, s.heap.objs.size, [], kc.at_, upd_same, rfl, .nil⟩
  have rv2 : Vals (V.ref (s.heap.objs.size + 1) :: vs) (Value.ref (s.heap.objs.size + 1) :: us) := .cons rfl rv
  have hl : (Value.ref (s.heap.objs.size + 1) :: us).length = ps.length := by
    have e := F.len _ _ _ _ hq
    rw [← e, List.length_cons, List.length_cons, ← rv.length, rs.length]
  have bnd := hb _ (Value.ref (s.heap.objs.size + 1) :: us) I2.kIn (by rw [List.append_nil]; exact hl)
  rw [List.append_nil] at bnd
  refine wpAny_call (make_map (f := f) I.kIn M.makes M.init (beq_iff_eq.mp M.fn) (codeAny_mono (F.run (Q := fun v H2 => v = .non ∧ Q (.ref (s.heap.objs.size + 1)) H2) (E := WE W σ) (by first | exact hgd | simpa using hgd) (hr.make C us []) (I2.env0.make C us []) bnd rv2 r2 (.cons (rep_ref.mpr rfl) (rs.keep kp)) hq
    (fun d S' p v H' k' r' rp => ?_) fun c' od S1 h C' H1 m k1 r1 => hW c' od δ S1 h σ H1 C' m (w.keep (kp.trans k1) r1)) fun r s' hq' => ?_))
  · obtain ⟨rfl, p⟩ := p
    exact ⟨rep_non.mp rp, pv _ _ p _ _ (kp.trans k') r' (rep_ref.mpr rfl)⟩
  · cases r with
    | error er => exact passAt tkW σ pins _ _ er s' I2 hq'
    | ok fl =>
      cases fl with
      | ret u =>
        obtain ⟨v, H', I3, rv, ev, q3⟩ := I2.after hq'
        subst ev
        exact ⟨rv, ⟨V.ref (s.heap.objs.size + 1), H', I3, rfl, q3⟩⟩
      | _ => exact (show False from hq').elim
theorem de_makeS (cc : CalC X.prog X.w X.K X.mg X.base j c ps sp) (hgd : X.A.guards = some []) (hr : Room k X.A) (tk : DTk X H0 Pe) (ha : DA X H0 (e :: es) t) (hj : j + 1 ≤ k := by decide) (hg : Gl X c := by rfl) (hdb : (c == ("__debug__" : Str)) = false := by decide)
    (he : starEach (e :: es) X.env = (false, eval e X.env) :: starEach es X.env := by rfl) (hpl : (backTo pos (starEach es X.env)).any (·.1) = false := by rfl) : DE X H0 (.Call (.Name c p) (e :: es) [] pos) (dMakeS c sp Pe t) := by
  obtain ⟨C, f, fd, kc, M, hb, F⟩ := cc.ex
  refine ⟨fun pins s σ H Q I h => ?_⟩
  refine wpAny_Call_Name_kw (ld_glob I hg kc.at_ ?_ hdb)
  obtain ⟨δ, S, P, w, ht, hp⟩ := h
  refine PySem.W.callWith_K (h₀ := X.base) I.ok.mod.kin M.kp (thn (ha.run pos pins s σ H (fun vs H1 => ∃ ds S1, Keep X.kw H H1 ∧ Rel X.kw S1 H1 ∧ Reps X.kw H1 ds vs ∧ ∀ x, S1 x = none → sp (.ref x :: ds) (up S1 x (.ins c [])) (fun v S2 => v = .non ∧ P (.ref x) S2) (Pe δ)) I ⟨δ, S, _, w, ht, fun ds S1 q vs H1 k1 r1 p1 => ⟨ds, S1, k1, r1, p1, q⟩⟩) fun us s1 q => ?_) he hpl
  obtain ⟨vs, H1, I1, rv, ds, S1, k1, r1, p1, q⟩ := q
  exact ⟨I1.kIn, go_makeS kc M F hgd (hr.mono hj) hb tk (w.keep k1 r1) I1 rv p1 q (hp.keep k1)⟩
end
/-- f'..{i}', i whole -/
theorem fstr_ok {t : Str} (ht : t.length ≤ 1000) {σ : L2.St} {H : Hp} {Q : VK} {y : V} (e : σ[1]? = some (some y)) (oy : okI y) (h : ∀ z, Q z H) : (fun σ H Q => tJs [tC (.str t), tFmt (tVar 1)] Str.empty σ H fun out H1 => Q (.str out) H1) σ H Q := by
  obtain ⟨i, rfl, hi⟩ := oy
  have l := int_len (i := i) (by omega)
  have l2 : (toString i : Str).length ≤ 2000 := l
  have z : sizeLine = 16777216 := sizeLine_eq
  refine ⟨t, rfl, ?_, ?_⟩
  · rw [strLen_append]; show 0 + _ ≤ _; omega
  · refine ⟨_, e, .inr ⟨i, rfl, by omega, _, rfl, ?_, h _⟩⟩
    rw [strLen_append, strLen_append]
    show 0 + _ + _ ≤ _
    omega
end Sb

/-! sorted(xs), xs plain data. -/
namespace Sb
open PySem PySem.Spec PyProof.Rows L2
mutual
theorem rx_reads {h : Heap} : ∀ {v : Value} {d : PyData} {l : List Addr}, RX h v d l → Reads h v d l
  | _, _, _, .non => .none
  | _, _, _, .bl b => .bool b
  | _, _, _, .int i t => .int i t
  | _, _, _, .str x t => .str x t
  | _, _, _, .lst h1 h2 h3 r => .list h1 h2 h3 (rxs_reads r)
  | _, _, _, .tup h1 h2 h3 r => .tuple h1 h2 h3 (rxs_reads r)
  | _, _, _, .dct h1 h2 h3 _ r q => .dict h1 h2 h3 (rxs_reads r) (rxs_reads q)
theorem rxs_reads {h : Heap} : ∀ {vs : List Value} {ds : List PyData} {l : List Addr}, RXs h vs ds l → ReadsAll h vs ds l
  | _, _, _, .nil => .nil
  | _, _, _, .cons r q => .cons (rx_reads r) (rxs_reads q)
end
theorem vals_each {bs : List (V × PyData)} : ∀ {us : List Value}, Vals (bs.map fun b => b.1) us → PySem.W.EachIs (fun (u : Value) (b : V × PyData) => RelV b.1 u) us bs := by
  induction bs with
  | nil => intro us h; cases h; exact .nil
  | cons b bs ih =>
    intro us h
    cases h with
    | cons a t => exact .cons a (ih t)
theorem each_vals {bs : List (V × PyData)} {us : List Value} (h : PySem.W.EachIs (fun (u : Value) (b : V × PyData) => RelV b.1 u) us bs) : Vals (bs.map fun b => b.1) us := by
  induction h with
  | nil => exact .nil
  | cons a _ ih => exact .cons a ih
/-- sorted(xs), xs data -/
def rSortD (K : Kw) : List V → Hp → VK → Prop := fun vs H Q => ∃ (a : Addr) (bs : List (V × PyData)), vs = [V.ref a] ∧ SqL K H a (bs.map fun b => b.1) ∧ (∀ b ∈ bs, Dpx K H b.1 b.2 ∧ b.2.depth ≤ 90) ∧ PySem.W.AllAlike (bs.map fun b => b.2) ∧ PySem.W.Sortable (bs.map fun b => b.2) ∧
  ∀ p : Addr, H p = none → Q (.ref p) (upd H p (.lst ((bs.mergeSort (PySem.W.dataLe false fun b => b.2)).map fun b => b.1)))
section
variable {X : Cx}
theorem cr_sortD (hu : X.A.units + 100 < cLine) : CallR X (.builtin "sorted") (rSortD X.kw) := by
  intro pins s σ H vs us Q I r h
  obtain ⟨a, bs, rfl, hs, hd, al, so, q⟩ := h
  obtain ⟨its, rv, hl, hz⟩ := I.list hs
  rw [Vals.ref1 r]
  have e := vals_each rv
  have er : PySem.W.EachIs (fun v (b : V × PyData) => ∃ as, Reads s.heap v b.2 as) its bs :=
    (PySem.W.each_mem e).mono fun u b ⟨rb, hb⟩ => by
      obtain ⟨l, x⟩ := (hd b hb).1.rx I rb
      exact ⟨l, rx_reads x⟩
  have hz' : bs.length ≤ sizeLine := by simpa using hz
  refine PySem.W.sorted_data (enc := fun b : V × PyData => b.2) hl.isList e er al so hz' (fun b hb => by have := (hd b hb).2; omega) fun out ho eo => ?_
  obtain ⟨ep, he'⟩ := PyProof.Rows.sortedAll_at s.heap its out.toArray
  have hlen : ((bs.mergeSort (PySem.W.dataLe false fun b => b.2)).map fun b => b.1).length ≤ sizeLine := by
    rw [List.length_map, List.length_mergeSort]; exact hz'
  exact ⟨.ref _, upd H (s.heap.objs.size + 1) (.lst ((bs.mergeSort (PySem.W.dataLe false fun b => b.2)).map fun b => b.1)), I.laid (t' := s.toks) (fun _ _ => PyProof.Rows.sortedAll_old) (Nat.le_succ _) ⟨hlen, out, ep, each_vals eo, he'⟩, rfl, q _ (I.hok.fresh (Nat.le_succ _))⟩
end
/-- data in order -/
def srtD (xs : List Dv) : List Dv := xs.mergeSort (PySem.W.dataLe false toP)
structure SrtOk (xs : List Dv) : Prop where
  p : ∀ x ∈ xs, plain x = true ∧ dep x ≤ 90
  a : PySem.W.AllAlike (xs.map toP)
  s : PySem.W.Sortable (xs.map toP)
@[simp] def gSortD : GA := fun ds S P => match ds with
  | [.ref a] => (match S a with | some (.lst xs) => SrtOk xs ∧ ∀ l, S l = none → P (.ref l) (up S l (.lst (srtD xs))) | _ => False)
  | _ => False
theorem reps_zip {K : Kw} {H : Hp} : ∀ {ds : List Dv} {vs : List V}, Reps K H ds vs → ∃ bs : List (V × Dv), bs.map (fun b => b.1) = vs ∧ bs.map (fun b => b.2) = ds ∧ ∀ b ∈ bs, Rep K H b.2 b.1
  | [], vs, h => ⟨[], by rw [h.nil_inv]; rfl, rfl, by simp⟩
  | d :: ds, vs, h => by
    obtain ⟨y, ys, rfl, a, b⟩ := h.cons_inv
    obtain ⟨bs, e1, e2, e3⟩ := reps_zip b
    refine ⟨(y, d) :: bs, by simp [e1], by simp [e2], fun c hc => ?_⟩
    rcases List.mem_cons.mp hc with rfl | hc
    · exact a
    · exact e3 c hc
theorem zip_reps {K : Kw} {H : Hp} : ∀ {bs : List (V × Dv)}, (∀ b ∈ bs, Rep K H b.2 b.1) → Reps K H (bs.map fun b => b.2) (bs.map fun b => b.1)
  | [], _ => .nil
  | b :: bs, h => .cons (h b List.mem_cons_self) (zip_reps fun c hc => h c (List.mem_cons_of_mem _ hc))
theorem cg_sortD {X : Cx} (hu : X.A.units + 100 < cLine) : CallG X (.builtin "sorted") gSortD := ⟨_, cr_sortD hu, fun ds S P q vs H Q r rs hp => by
  unfold gSortD at q
  split at q
  · split at q
    · rename_i xs e
      obtain ⟨ok, q⟩ := q
      obtain ⟨v, rfl, rv⟩ := reps1 rs
      obtain ⟨ys, hy, ry⟩ := r.lst e
      obtain ⟨bs, rfl, rfl, hb⟩ := reps_zip ry
      have eq : ∀ f : V × Dv → V × PyData, f = (fun b => (b.1, toP b.2)) → (bs.map f).map (fun b => b.1) = bs.map (fun b => b.1) ∧ (bs.map f).map (fun b => b.2) = (bs.map fun b => b.2).map toP := fun f hf => by subst hf; simp
      refine ⟨_, bs.map fun b => (b.1, toP b.2), by rw [rep_ref.mp rv], ?_, ?_, ?_, ?_, fun p hn => ?_⟩
      · rw [(eq _ rfl).1]; exact .of hy
      · intro b hm
        obtain ⟨c, hc, rfl⟩ := List.mem_map.mp hm
        obtain ⟨p1, p2⟩ := ok.p c.2 (List.mem_map.mpr ⟨c, hc, rfl⟩)
        exact ⟨dpx_dat r (datE_plain _ _ p1) (hb c hc), by show (toP c.2).depth ≤ 90; rw [(lay_plain _ p1).2]; exact p2⟩
      · rw [(eq _ rfl).2]; exact ok.a
      · rw [(eq _ rfl).2]; exact ok.s
      · have m1 := PySem.W.sort_maps (r := PySem.W.dataLe false fun b : V × Dv => toP b.2) (s := PySem.W.dataLe false fun b : V × PyData => b.2) (fun b => (b.1, toP b.2)) (l := bs) fun _ _ _ _ => rfl
        have m2 := PySem.W.sort_maps (r := PySem.W.dataLe false fun b : V × Dv => toP b.2) (s := PySem.W.dataLe false toP) (fun b => b.2) (l := bs) fun _ _ _ _ => rfl
        rw [← m1, (show ((bs.mergeSort (PySem.W.dataLe false fun b : V × Dv => toP b.2)).map fun b => (b.1, toP b.2)).map (fun b => b.1) = (bs.mergeSort (PySem.W.dataLe false fun b : V × Dv => toP b.2)).map fun b => b.1 by simp)]
        refine hp.lst r (ds := srtD (bs.map fun b => b.2)) ?_ q hn
        rw [srtD, ← m2]
        exact zip_reps fun b hm => hb b ((List.mergeSort_perm _ _).mem_iff.mp hm)
    · exact q.elim
  · exact q.elim⟩
end Sb

/-! Texts as data. -/
namespace Sb
open PySem PySem.Spec PyProof.Rows L2
/-- one sign -/
abbrev sgn (c : Nat) : Dv := .str ⟨#[c]⟩
section
variable {X : Cx} {H0 : Hp} {a b e o tg l : Expr} {ta tb te to tl : DTE} {t : DTA} {pos apos cpos p2 : Pos}
/-- z[i] -/
@[simp] def gIxS : G2 := fun d e S P => match d, e with
  | .str z, .int i => z.length ≤ sizeLine ∧ (match atI z.cps.toList i with | some c => P (sgn c) S | none => False)
  | _, _ => False
theorem de_ixS (ha : DE X H0 a ta) (hb : DE X H0 b tb) (hs : PlainIx b := by exact fun _ _ => rfl) : DE X H0 (.Subscript a b pos) (dBin gIxS ta tb) := (pe_ix ix_str ha hb hs).to (bin_lift fun d e S P q v u H Q r rv ru hp => by
  unfold gIxS at q
  split at q
  · obtain ⟨hz, q⟩ := q
    split at q
    · rename_i c e1
      exact ⟨_, _, c, rep_str.mp rv, rep_int.mp ru, hz, e1, hp _ _ q _ _ .refl r (rep_str.mpr rfl)⟩
    · exact q.elim
  · exact q.elim)
/-- z[lo:hi] -/
@[simp] def gSlS (d : Dv) (lo hi : Option Int) (S : Store) (P : DK) : Prop := match d with
  | .str z => z.length ≤ sizeLine ∧ P (.str (cutS z lo hi)) S
  | _ => False
@[simp] def dSlS (te : DTE) (tl th : DTO) : DTE := fun δ S P => te δ S fun d S1 => tl δ S1 fun lo S2 => th δ S2 fun hi S3 => gSlS d lo hi S3 P
theorem de_slS {lo hi : Option Expr} {tl th : DTO} (he : DE X H0 e te) (hl : PO X lo (liftO X.kw H0 tl)) (hh : PO X hi (liftO X.kw H0 th)) : DE X H0 (.Subscript e (.Slice lo hi none p2) pos) (dSlS te tl th) :=
  (pe_slice sl_str he hl hh).to fun σ H Q h => by
  obtain ⟨δ, S, P, w, ht, hp⟩ := h
  refine ⟨δ, S, _, w, ht, fun d S1 q v H1 k1 r1 p1 => ⟨δ, S1, _, w.keep k1 r1, q, fun l S2 q2 H2 k2 r2 => ⟨δ, S2, _, w.keep (k1.trans k2) r2, q2, fun u S3 q3 H3 k3 r3 => ?_⟩⟩⟩
  have hp3 := hp.keep (k1.trans (k2.trans k3))
  unfold gSlS at q3
  split at q3
  · rw [rep_str.mp p1]
    exact ⟨_, rfl, q3.1, hp3 _ _ q3.2 _ _ .refl r3 (rep_str.mpr rfl)⟩
  · exact q3.elim
/-- one sign in a text -/
@[simp] def gInS (f : Bool → Bool) : G2 := fun d e S P => match d, e with
  | .str ⟨⟨[c]⟩⟩, .str z => P (.bl (f (decide (c ∈ z.cps.toList)))) S
  | _, _ => False
theorem c_inS : OpG X (compareOp .In) (gInS id) := ⟨_, op_in_sign, fun d e S P q v u H Q r rv ru hp => by
  unfold gInS at q
  split at q
  · exact ⟨_, _, rep_str.mp rv, rep_str.mp ru, hp _ _ q _ _ .refl r (rep_bl.mpr rfl)⟩
  · exact q.elim⟩
theorem c_notInS : OpG X (compareOp .NotIn) (gInS not) := ⟨_, op_notIn_sign, fun d e S P q v u H Q r rv ru hp => by
  unfold gInS at q
  split at q
  · exact ⟨_, _, rep_str.mp rv, rep_str.mp ru, hp _ _ q _ _ .refl r (rep_bl.mpr rfl)⟩
  · exact q.elim⟩
/-- for x in z -/
@[simp] def dIS (tl : DTE) : DTI := fun δ S P => tl δ S fun d S1 => match d with
  | .str z => P (z.cps.toList.map sgn) (fun _ => True) S1
  | _ => False
theorem di_str (hl : DE X H0 l tl) : DI X H0 tg l (dIS tl) := (pi_str hl).to fun σ H R h => by
  obtain ⟨δ, S, P, w, ht, hp⟩ := h
  refine ⟨δ, S, _, w, ht, fun d S1 q v H1 k1 r1 p1 => ?_⟩
  split at q
  · rename_i z
    refine ⟨z, rep_str.mp p1, hp _ _ _ q _ _ k1 r1 fun i S2 H2 k2 r2 _ => ⟨fun e => ?_, fun d e => ?_⟩⟩
    · have e : i = z.cps.size := by simpa using e
      exact Nat.le_of_eq e.symm
    · rw [List.getElem?_map] at e
      obtain ⟨c, e1, rfl⟩ := Option.map_eq_some_iff.mp e
      have e2 : z.cps[i]? = some c := by simpa using e1
      refine ⟨(Array.getElem?_eq_some_iff.mp e2).1, fun x H' q => ?_⟩
      obtain ⟨rfl, c', e3, rfl⟩ := q
      rw [e2] at e3
      cases e3
      exact ⟨.refl, r2, rep_str.mpr rfl⟩
  · exact q.elim
/-- str(x) -/
@[simp] def gStr : GA := fun ds S P => match ds with
  | [.int i] => i.natAbs.log2 < 1920 ∧ P (.str (toString i)) S
  | [.str z] => P (.str z) S
  | _ => False
theorem cg_str : CallG X (.type "str") gStr := ⟨_, cr_or call_str_int SkE.call_str_str, fun ds S P q vs H Q r rs hp => by
  unfold gStr at q
  split at q
  · obtain ⟨v, rfl, rv⟩ := reps1 rs
    exact .inl ⟨_, by rw [rep_int.mp rv], q.1, hp _ _ q.2 _ _ .refl r (rep_str.mpr rfl)⟩
  · obtain ⟨v, rfl, rv⟩ := reps1 rs
    exact .inr ⟨_, by rw [rep_str.mp rv], hp _ _ q _ _ .refl r (rep_str.mpr rfl)⟩
  · exact q.elim⟩
/-- int(x) -/
@[simp] def gInt : GA := fun ds S P => match ds with
  | [.str z] => z.length ≤ 640 ∧ (match PySem.intText? z with | some n => P (.int n) S | none => False)
  | [.int i] => P (.int i) S
  | _ => False
theorem cg_int : CallG X (.type "int") gInt := ⟨_, cr_or call_int_str call_int1, fun ds S P q vs H Q r rs hp => by
  unfold gInt at q
  split at q
  · obtain ⟨v, rfl, rv⟩ := reps1 rs
    obtain ⟨hl, q⟩ := q
    split at q
    · rename_i n e
      exact .inl ⟨_, n, by rw [rep_str.mp rv], e, hl, hp _ _ q _ _ .refl r (rep_int.mpr rfl)⟩
    · exact q.elim
  · obtain ⟨v, rfl, rv⟩ := reps1 rs
    exact .inr (.inl ⟨_, by rw [rep_int.mp rv], hp _ _ q _ _ .refl r (rep_int.mpr rfl)⟩)
  · exact q.elim⟩
/-- all(l), a list of truth values -/
def gAll : GA := fun ds S P => match ds with
  | [.ref p] => ∃ bs : List Bool, S p = some (.lst (bs.map .bl)) ∧ P (.bl (bs.all id)) S
  | _ => False
theorem reps_bls {K : Kw} {H : Hp} : ∀ {bs : List Bool} {xs : List V}, Reps K H (bs.map Dv.bl) xs → xs = bs.map V.bl
  | [], _, r => r.nil_inv
  | b :: bs, _, r => by
    obtain ⟨y, ys, rfl, h, t⟩ := Reps.cons_inv r
    rw [rep_bl.mp h, reps_bls t]; rfl
theorem cg_all (hc : X.calm = true) : CallG X (.builtin "all") gAll := ⟨_, cr_all hc, fun ds S P q vs H Q r rs hp => by
  unfold gAll at q
  split at q
  · obtain ⟨bs, e, q⟩ := q
    obtain ⟨v, rfl, rv⟩ := reps1 rs
    obtain ⟨xs, h, r2⟩ := r.lst e
    have := reps_bls r2
    subst this
    exact ⟨_, bs, by rw [rep_ref.mp rv], .of h, hp _ _ q _ _ .refl r (rep_bl.mpr rfl)⟩
  · exact q.elim⟩
/-- text * n -/
@[simp] def gMulS : G2 := fun d e S P => match d, e with
  | .str z, .int n => MulOk z n ∧ P (.str (Txt.mul z n)) S
  | _, _ => False
theorem op_mulS : OpR X (binaryOp .Mult) (fun x y H Q => ∃ z n, x = .str z ∧ y = .int n ∧ MulOk z n ∧ Q (.str (Txt.mul z n)) H) := by
  intro pins s σ H x y v u Q I rx ry h
  obtain ⟨z, n, rfl, rfl, hok, q⟩ := h
  obtain ⟨t, rfl⟩ := rx
  obtain ⟨t', rfl⟩ := ry
  exact PySem.SB.mul hok fun t' k => ⟨.str _, H, I.tok k, ⟨_, rfl⟩, q⟩
theorem o_mulS : OpG X (binaryOp .Mult) gMulS := ⟨_, op_mulS, fun d e S P q v u H Q r rv ru hp => by
  unfold gMulS at q
  split at q
  · exact ⟨_, _, rep_str.mp rv, rep_int.mp ru, q.1, hp _ _ q.2 _ _ .refl r (rep_str.mpr rfl)⟩
  · exact q.elim⟩
/-! ### split, join -/
theorem reps_txts {K : Kw} {H : Hp} : ∀ ys : List Str, Reps K H (ys.map Dv.str) (ys.map V.str)
  | [] => .nil
  | y :: ys => .cons (rep_str.mpr rfl) (reps_txts ys)
theorem reps_txts_inv {K : Kw} {H : Hp} : ∀ {ys : List Str} {xs : List V}, Reps K H (ys.map Dv.str) xs → xs = ys.map V.str
  | [], _, r => r.nil_inv
  | b :: bs, _, r => by
    obtain ⟨y, ys, rfl, h, t⟩ := Reps.cons_inv r
    rw [rep_str.mp h, reps_txts_inv t]; rfl
@[simp] def dSplit (to te : DTE) : DTE := fun δ S P => to δ S fun d S1 => match d with
  | .str a => te δ S1 fun e S2 => (match e with
    | .str b => (b.length == 0) = false ∧ a.length + 2 ≤ sizeLine ∧ ∀ l, S2 l = none → P (.ref l) (up S2 l (.lst ((Txt.split a b).map .str)))
    | _ => False)
  | _ => False
theorem de_split (ho : DE X H0 o to) (he : DE X H0 e te) (hs : starEach [e] X.env = [(false, eval e X.env)] := by rfl) (hbase : attributeBase o "split" X.env (eval o X.env) = eval o X.env := by rfl) (hline : (apos.endLine == pos.line) = true := by rfl) :
    DE X H0 (.Call (.Attribute o "split" apos) [e] [] pos) (dSplit to te) := (pe_split ho he hs hbase hline).to fun σ H Q h => by
  obtain ⟨δ, S, P, w, ht, hp⟩ := h
  refine ⟨δ, S, _, w, ht, fun d S1 q v H1 k1 r1 p1 => ?_⟩
  split at q
  · rename_i za
    refine ⟨⟨za, rep_str.mp p1⟩, δ, S1, _, w.keep k1 r1, q, fun d2 S2 q2 v2 H2 k2 r2 p2 => ?_⟩
    split at q2
    · rename_i zb
      obtain ⟨h1, h2, q2⟩ := q2
      exact ⟨za, zb, rep_str.mp p1, by rw [rep_str.mp p2], h1, h2, fun p hpn => (hp.keep (k1.trans k2)).lst r2 (reps_txts _) q2 hpn⟩
    · exact q2.elim
  · exact q.elim
@[simp] def dJoin (to te : DTE) : DTE := fun δ S P => to δ S fun d S1 => match d with
  | .str a => te δ S1 fun e S2 => (match e with
    | .ref p => ∃ ys : List Str, S2 p = some (.lst (ys.map .str)) ∧ (ys.map (·.length)).sum + ys.length * a.length ≤ 16777216 ∧ P (.str (Txt.join a ys)) S2
    | _ => False)
  | _ => False
theorem de_join (ho : DE X H0 o to) (he : DE X H0 e te) (hs : starEach [e] X.env = [(false, eval e X.env)] := by rfl) (hbase : attributeBase o "join" X.env (eval o X.env) = eval o X.env := by rfl) (hline : (apos.endLine == pos.line) = true := by rfl) :
    DE X H0 (.Call (.Attribute o "join" apos) [e] [] pos) (dJoin to te) := (pe_join ho he hs hbase hline).to fun σ H Q h => by
  obtain ⟨δ, S, P, w, ht, hp⟩ := h
  refine ⟨δ, S, _, w, ht, fun d S1 q v H1 k1 r1 p1 => ?_⟩
  split at q
  · rename_i za
    refine ⟨⟨za, rep_str.mp p1⟩, δ, S1, _, w.keep k1 r1, q, fun d2 S2 q2 v2 H2 k2 r2 p2 => ?_⟩
    split at q2
    · obtain ⟨ys, e, hl, q2⟩ := q2
      obtain ⟨xs, h, rs⟩ := r2.lst e
      have := reps_txts_inv rs
      subst this
      exact ⟨za, _, ys, rep_str.mp p1, by rw [rep_ref.mp p2], .inl (.of h), hl, hp _ _ q2 _ _ (k1.trans k2) r2 (rep_str.mpr rfl)⟩
    · exact q2.elim
  · exact q.elim
/-! ### f-strings -/
/-- {x}: a text or an int -/
@[simp] def dFmt (te : DTE) : DTE := fun δ S P => te δ S fun d S1 => match d with
  | .str z => z.length ≤ sizeLine ∧ P (.str z) S1
  | .int i => i.natAbs.log2 < 1920 ∧ P (.str (toString i)) S1
  | _ => False
theorem de_fmt (he : DE X H0 e te) : DE X H0 (.FormattedValue e (-1) none pos) (dFmt te) := (pe_fmt he).to fun σ H Q h => by
  obtain ⟨δ, S, P, w, ht, hp⟩ := h
  refine ⟨δ, S, _, w, ht, fun d S1 q v H1 k1 r1 p1 => ?_⟩
  split at q
  · exact .inl ⟨_, rep_str.mp p1, q.1, hp _ _ q.2 _ _ k1 r1 (rep_str.mpr rfl)⟩
  · exact .inr ⟨_, rep_int.mp p1, q.1, hp _ _ q.2 _ _ k1 r1 (rep_str.mpr rfl)⟩
  · exact q.elim
@[simp] def dJs : List DTE → Str → DSt → Store → (Str → Store → Prop) → Prop
  | [], acc, _, S, Q => Q acc S
  | t :: ts, acc, δ, S, Q => t δ S fun d S1 => match d with
    | .str y => (acc ++ y).length ≤ sizeLine ∧ dJs ts (acc ++ y) δ S1 Q
    | _ => False
inductive DJ (X : Cx) (H0 : Hp) : List Expr → List DTE → Prop where
  | nil : DJ X H0 [] []
  | cons {e : Expr} {t : DTE} {es : List Expr} {ts : List DTE} (h : DE X H0 e t) (r : DJ X H0 es ts) : DJ X H0 (e :: es) (t :: ts)
theorem DJ.pj {es : List Expr} {ts : List DTE} (h : DJ X H0 es ts) : PJ X es (ts.map (liftE X.kw H0)) := by
  induction h with
  | nil => exact .nil
  | cons h r ih => exact .cons h ih
theorem js_lift {K : Kw} : ∀ (ts : List DTE) (acc : Str) (σ : L2.St) (H : Hp) (Q : VK) (δ : DSt) (S : Store) (P : DK), Wd K H0 σ δ S H → dJs ts acc δ S (fun z S1 => P (.str z) S1) → PV K H P Q → tJs (ts.map (liftE K H0)) acc σ H fun out H1 => Q (.str out) H1
  | [], acc, σ, H, Q, δ, S, P, w, h, hp => hp _ _ h _ _ .refl w.rel (rep_str.mpr rfl)
  | t :: ts, acc, σ, H, Q, δ, S, P, w, h, hp => by
    refine ⟨δ, S, _, w, h, fun d S1 q v H1 k1 r1 p1 => ?_⟩
    split at q
    · exact ⟨_, rep_str.mp p1, q.1, js_lift ts _ σ H1 Q δ S1 P (w.keep k1 r1) q.2 (hp.keep k1)⟩
    · exact q.elim
@[simp] def dJoined (ts : List DTE) : DTE := fun δ S P => dJs ts Str.empty δ S fun z S1 => P (.str z) S1
theorem de_joined {v1 v2 : Expr} {rest : List Expr} {ts : List DTE} (h : DJ X H0 (v1 :: v2 :: rest) ts) : DE X H0 (.JoinedStr (v1 :: v2 :: rest) pos) (dJoined ts) := (pe_joined h.pj).to fun σ H Q q => by
  obtain ⟨δ, S, P, w, ht, hp⟩ := q
  exact js_lift ts _ σ H Q δ S P w ht hp
/-! ### a text of the module -/
theorem de_gtx {x z : Str} (hm : ∃ t, X.mg x = some (.str z t)) (hg : Gl X x := by rfl) (hd : (x == ("__debug__" : Str)) = false := by decide) : DE X H0 (.Name x pos) (dC (.str z)) := by
  obtain ⟨t, h⟩ := hm
  exact (pe_glob (v := .str z) hg h ⟨t, rfl⟩ hd).to (lift_C fun _ => by simp only [Rep])
end
/-- f'..{i}..', i whole -/
theorem fstr_ok3 {t u : Str} (ht : t.length ≤ 1000) (hu : u.length ≤ 1000) {σ : L2.St} {H : Hp} {Q : VK} {y : V} (e : σ[1]? = some (some y)) (oy : okI y) (h : ∀ z, Q z H) : (fun σ H Q => tJs [tC (.str t), tFmt (tVar 1), tC (.str u)] Str.empty σ H fun out H1 => Q (.str out) H1) σ H Q := by
  obtain ⟨i, rfl, hi⟩ := oy
  have l := int_len (i := i) (by omega)
  have l2 : (toString i : Str).length ≤ 2000 := l
  have z : sizeLine = 16777216 := sizeLine_eq
  refine ⟨t, rfl, ?_, ?_⟩
  · rw [strLen_append]; show 0 + _ ≤ _; omega
  · refine ⟨_, e, .inr ⟨i, rfl, by omega, _, rfl, ?_, ?_⟩⟩
    · rw [strLen_append, strLen_append]
      show 0 + _ + _ ≤ _
      omega
    · refine ⟨u, rfl, ?_, h _⟩
      rw [strLen_append, strLen_append, strLen_append]
      show 0 + _ + _ + _ ≤ _
      omega
end Sb

/-! Lambdas handed to defs. -/
namespace Sb
open PySem PySem.Spec PyProof.Rows L2 LamX
/-- a function value f: it keeps the promise sp from anywhere behind (s0, H0); fs: the frames below its maker's call -/
structure FnV (P : Program) (w : World) (K : PySem.W.Frag) (mg : Str → Option Value) (base : Heap) (k : Nat) (fs : List Addr) (s0 : Shared) (H0 : Hp) (f : Addr) (sp : DSp) : Prop where
  fn : PySem.W.FnAt f s0.heap
  un : H0 f = none
  fr : f ∉ fs
  run : ∀ {A : Around} {outer : List Env} {s : Shared} {H : Hp} {us : List Value} {vs : List V} {ds : List Dv} {S : Store} {Pq : DK} {Pe : DX} {Q : VK} {E : XK}, A.guards = some [] → Room k A → Env0 P w K mg base A outer s H → Un fs [] H0 H s0.heap s.heap → Keep ⟨K, w, mg⟩ H0 H →
    Vals vs us → Rel ⟨K, w, mg⟩ S H → Reps ⟨K, w, mg⟩ H ds vs → sp ds S Pq Pe → PV ⟨K, w, mg⟩ H Pq Q → PX ⟨K, w, mg⟩ H Pe E → codeAny (model P w) A (.call (.ref f) ⟨us, []⟩) (CR (CX P w) outer P w H s Q E) s
theorem get_none {h : Heap} {a : Addr} (q : h.objs.size ≤ a) : h.get? a = none := by
  cases e : h.get? a with
  | none => rfl
  | some o => exact absurd (Heap.lt_size e) (Nat.not_lt.mpr q)
section
variable {X : Cx} {pins : List (Addr × Obj)} {σ : L2.St} {H H0 : Hp} {s : Shared} {k j : Nat} {f : Addr} {spf : DSp}
theorem FnV.kept (F : FnV X.prog X.w X.K X.mg X.base j X.fs X.s_0 X.H_0 f spf) (hex : X.ex = []) (I : Inv X pins σ H s) : PySem.W.FnAt f s.heap ∧ H f = none := by
  obtain ⟨oc, od, fd, sl, e⟩ := F.fn
  exact ⟨⟨oc, od, fd, sl, I.base.keep f _ e F.un F.fr (by rw [hex]; simp)⟩, I.base.free f _ e F.un (by rw [hex]; simp)⟩
/-- later, in the def that got it -/
theorem FnV.step (F : FnV X.prog X.w X.K X.mg X.base j X.fs X.s_0 X.H_0 f spf) (hex : X.ex = []) (I : Inv X pins σ H s) (kp : Keep X.kw X.H_0 H) : FnV X.prog X.w X.K X.mg X.base j (frs X.stack) s H f spf := by
  obtain ⟨fn, un⟩ := F.kept hex I
  have b0 : Un X.fs [] X.H_0 H X.s_0.heap s.heap := hex ▸ I.base
  obtain ⟨oc, od, fd, sl, e⟩ := F.fn
  refine ⟨fn, un, fun z => ?_, fun g r ez u kk rv rl rs q pv px => F.run g r ez ?_ (kp.trans kk) rv rl rs q pv px⟩
  · rcases I.ok.stk with hs | ⟨hs, hf⟩
    · rw [hs] at z; exact F.fr z
    · have hl := I.ok.above
      rw [hs] at z
      unfold frs at z
      rw [List.filterMap_cons_some hf] at z
      rcases List.mem_cons.mp z with z | z
      · have lt := Heap.lt_size e
        rw [z] at lt
        exact absurd lt (Nat.not_lt.mpr hl)
      · exact F.fr z
  · rcases I.ok.stk with hs | ⟨hs, hf⟩
    · rw [hs] at u; exact b0.trans u
    · rw [hs] at u
      unfold frs at u
      rw [List.filterMap_cons_some hf] at u
      exact Un.thru b0 u (get_none I.ok.above)
end
/-! ### a local function value called -/
section
variable {X : Cx} {k j i : Nat} {f : Addr} {spf : DSp} {Pe : DX} {a : Str} {p1 p2 : Pos} {e : Expr} {es : List Expr} {t : DTA}
@[simp] def dAct (i : Nat) (f : Addr) (sp : DSp) (Pe : DX) (t : DTA) : DTE := fun δ S P => δ[i]? = some (some (.ref f)) ∧ t δ S fun ds S1 => sp ds S1 P Pe
theorem de_act (hF : FnV X.prog X.w X.K X.mg X.base j X.fs X.s_0 X.H_0 f spf) (hgd : X.A.guards = some []) (hr : Room k X.A) (ha : DA X X.H_0 (e :: es) t) (hj : j ≤ k := by decide) (hex : X.ex = [] := by rfl) (hN : X.N[i]? = some a := by rfl)
    (hv : Vis X.env.scope a := by first | exact Or.inl rfl | exact Or.inr (Or.inl rfl) | exact Or.inr (Or.inr rfl)) (hd : (a == ("__debug__" : Str)) = false := by decide) (hcd : (a == ("__classdict__" : Str)) = false := by decide)
    (he : starEach (e :: es) X.env = (false, eval e X.env) :: starEach es X.env := by rfl) (hpl : (backTo p2 (starEach es X.env)).any (·.1) = false := by rfl) : DE X X.H_0 (.Call (.Name a p1) (e :: es) [] p2) (dAct i f spf X0 t) := by
  refine ⟨fun pins s σ H Q I h => ?_⟩
  obtain ⟨δ, S, P, w, ⟨hi, ht⟩, hp⟩ := h
  obtain ⟨v0, e0, r0⟩ := w.slot i _ hi
  cases rep_ref.mp r0
  refine wpAny_Call_Name_kw (thn ((pe_var (pos := p1) (i := i) hN hv hd hcd).run pins s σ H (fun v H1 => v = .ref f ∧ H1 = H) I ⟨.ref f, e0, rfl, rfl⟩) fun u s1 ⟨v, H1, I1, ru, ev, eH⟩ => ?_)
  subst ev
  rw [eH] at I1
  obtain rfl : u = Value.ref f := ru
  refine PySem.W.callWith_F (hF.kept hex I1).1 (thn (ha.run p2 pins s1 σ H (fun vs H1 => ∃ ds S1, Keep X.kw H H1 ∧ Rel X.kw S1 H1 ∧ Reps X.kw H1 ds vs ∧ spf ds S1 P X0) I1 ⟨δ, S, _, w, ht, fun ds S1 q vs H1 k1 r1 p1 => ⟨ds, S1, k1, r1, p1, q⟩⟩) fun us s2 q => ?_) he hpl
  obtain ⟨vs, H2, I2, rv, ds, S2, k2, r2, p2, q⟩ := q
  refine ⟨(hF.kept hex I2).1, ?_⟩
  have F2 := hF.step hex I2 (w.base.trans k2)
  refine wpAny_call (codeAny_mono (F2.run (E := E0) hgd (hr.mono hj) I2.env0 Un.refl .refl rv r2 p2 q (hp.keep k2) px0) fun r s' hq => ?_)
  cases r with
  | error er => exact passN pins σ H2 s2 er s' I2 hq
  | ok fl =>
    cases fl with
    | ret u => exact I2.after hq
    | _ => exact (show False from hq).elim
end
/-! ### lambdas made -/
/-- what a lambda keeps: tb reads its body, δ the slots of its maker -/
def clo (P : Addr) (q : Str) (n : Nat) (K : Kw) (tb : DX → DTE) (δ : DSt) : DSp := fun ds S Pq Pe => ds.length = n ∧ S P = some (.tab q) ∧ VS K S fun S0 => tb Pe (ds.map some ++ δ) S0 fun d S1 => VS K S1 (Pq d)
/-- the lambda of these parts stands at f -/
def CloAt (X : Cx) (P : Addr) (params : Arguments) (body : Expr) (scope : Scope) (f : Addr) (H : Hp) (s : Shared) : Prop :=
  ∃ (c' : Addr) (pm ctv : Value) (pos : Pos), s.heap.get? f = some (PySem.W.kla_obj "<lambda>" (X.env.qual ++ "<lambda>") params body scope (cloFrom X.env.cells scope.names []) pm c' ctv) ∧ H f = none ∧ f ∉ frs X.stack ∧
    ∃ ps1 : Array Value, H P = some (.tbl ps1) ∧ codeAmong pos ps1.toList = some (.ref c')
/-- what is known of a lambda's text -/
structure LamT (X : Cx) (params : Arguments) (body : Expr) (scope : Scope) (xs : List Str) : Prop where
  nm : LamP X.env.scope scope xs
  defs : defaultsOf params X.env = ([], [])
  nd : xs.Nodup
  dj : ∀ x ∈ xs, x ∉ X.N
  bind : ∀ (q : Str) (cl : List (Str × Addr)) (pm cv ctv : Value) (us : List Value), us.length = xs.length → bindArgs (PySem.W.kla_fn "<lambda>" q params body scope cl pm cv ctv) ⟨us, []⟩ = pure (xs.zip us)
section
variable {X : Cx} {H0 : Hp} {k : Nat} {P : Addr} {params : Arguments} {body : Expr} {scope : Scope} {xs : List Str} {tb : DX → DTE}
theorem clo_fnv {pins : List (Addr × Obj)} {σ : L2.St} {H : Hp} {s : Shared} {δ : DSt} {S : Store} {f : Addr} (I : Inv X pins σ H s) (w : Wd X.kw H0 σ δ S H) (hex : X.ex = []) (T : LamT X params body scope xs) (at_ : CloAt X P params body scope f H s)
    (hbody : ∀ (A : Around) (outer : List Env) (s1 : Shared) (HZ : Hp) (f c' : Addr) (Pe : DX) (E : XK), (lamCxP X xs A outer s1 HZ E scope f c').A.guards = some [] → Room k (A.deeper (lamEnv X scope s1.heap.objs.size f c')) → PX X.kw HZ Pe E → DE (lamCxP X xs A outer s1 HZ E scope f c') HZ body (tb Pe)) :
    FnV X.prog X.w X.K X.mg X.base (k + 1) (frs X.stack) s H f (clo P (X.env.qual ++ "<lambda>") xs.length X.kw tb δ) := by
  obtain ⟨c', pm, ctv, pos, hf, hn, hfr, ps1, hP, row⟩ := at_
  refine ⟨⟨_, _, _, _, hf⟩, hn, hfr, fun {A outer s1 HZ us vs ds S1 Pq Pe Q E} hgd hr ez un kp rv rl rs q pv px => ?_⟩
  obtain ⟨hl, hS, hv⟩ := q
  have lv : vs.length = xs.length := by rw [rs.length]; exact hl
  have lu : us.length = xs.length := by rw [← rv.length]; exact lv
  obtain ⟨more, hP2⟩ := un.tbls P ps1 hP
  obtain ⟨ps2, tab⟩ := rl.tab hS
  have e2 := tab.at_
  rw [hP2] at e2
  cases e2
  obtain ⟨c2, ec, hc⟩ := tab.codes pos (.ref c') (by rw [Array.toList_append]; exact among_left _ _ row)
  cases ec
  obtain ⟨S0, r0, q0⟩ := hv HZ rl
  have wd : Wd (Cx.kw (lamCxP X xs A outer s1 HZ E scope f c')) HZ (vs.map some ++ σ) (ds.map some ++ δ) S0 HZ := by
    refine ⟨.refl, r0, by simp [rs.length, w.len], fun i d e => ?_⟩
    by_cases hi : i < ds.length
    · rw [List.getElem?_append_left (by simpa using hi), List.getElem?_map] at e
      obtain ⟨d', e1, e3⟩ := Option.map_eq_some_iff.mp e
      cases e3
      obtain ⟨v, ev, rv'⟩ := rs.get e1
      exact ⟨v, by rw [List.getElem?_append_left (by simpa [rs.length] using hi), List.getElem?_map, ev]; rfl, rv'⟩
    · rw [List.getElem?_append_right (by simpa using hi)] at e
      obtain ⟨v, ev, rv'⟩ := w.slot _ d e
      refine ⟨v, ?_, rv'.keep kp⟩
      rw [List.getElem?_append_right (by simpa [rs.length] using hi)]
      simpa [rs.length] using ev
  refine lam_runP (E := E) (t := liftE X.kw HZ (tb Pe)) I T.nm hf hn hfr (T.bind _ _ _ _ _ us lu) ez un hc hr rv lv T.nd T.dj (fun hr2 => hbody A outer s1 HZ f c' Pe E (guards_deeper hgd) hr2 px) ⟨ds.map some ++ δ, S0, _, wd, q0, fun d S2 z v H2 k2 r2 p2 => ?_⟩
  obtain ⟨S3, r3, z3⟩ := z H2 r2
  exact pv d S3 z3 v H2 k2 r3 p2
/-- arguments of which the last one is a lambda -/
structure DAL (X : Cx) (H0 : Hp) (P : Addr) (params : Arguments) (body : Expr) (scope : Scope) (es : List Expr) (t : DTA) : Prop where
  run : ∀ (pos : Pos) (pins : List (Addr × Obj)) (s : Shared) (σ : L2.St) (H : Hp) (δ : DSt) (S : Store) (Pk : List Dv → Store → Prop) (Q : List Value → Shared → Prop), Inv X pins σ H s → Wd X.kw H0 σ δ S H → t δ S (fun ds S1 => S1 P = some (.tab (X.env.qual ++ "<lambda>")) ∧ Pk ds S1) →
    (∀ us vs ds f S1 H1 s1, Inv X pins σ H1 s1 → Keep X.kw H H1 → Rel X.kw S1 H1 → S1 f = none → Vals vs us → Reps X.kw H1 ds vs → CloAt X P params body scope f H1 s1 → Pk ds S1 → Q (us ++ [.ref f]) s1) →
    wpAny (model X.prog X.w) X.A (spliced (backTo pos (starEach es X.env))) Q X.xe s
theorem dal_lam {c : Addr} {lpos : Pos} (TB : TabB X.base X.mg c P) (code : X.env.code = .ref c) (T : LamT X params body scope xs) : DAL X H0 P params body scope [.Lambda params body scope lpos] dNil := by
  refine ⟨fun pos pins s σ H δ S Pk Q I w ht k => ?_⟩
  obtain ⟨hP, ht⟩ := ht
  obtain ⟨ps, tab⟩ := w.rel.tab hP
  show wpAny _ _ (spliced ((false, eval (.Lambda params body scope lpos) X.env) :: backTo pos (starEach [] X.env))) _ _ s
  refine Calls.spliced_cons (lam_mk I TB code tab T.defs (T.nm.has I.ok) fun f c' pm ctv H2 s2 I2 lam hf nf ff row => Calls.spliced_nil ?_)
  have r2 := lam.rel w.rel hP tab.at_
  exact k [] [] [] f S H2 s2 I2 (lam.keep tab.at_) r2 (r2.free nf) .nil .nil ⟨c', pm, ctv, lpos, hf, nf, ff, row⟩ ht
theorem dal_cons {e : Expr} {es : List Expr} {te : DTE} {t : DTA} (he : DE X H0 e te) (h : DAL X H0 P params body scope es t) (hs : starEach (e :: es) X.env = (false, eval e X.env) :: starEach es X.env := by rfl) : DAL X H0 P params body scope (e :: es) (dCons te t) := by
  refine ⟨fun pos pins s σ H δ S Pk Q I w ht k => ?_⟩
  rw [hs]
  show wpAny _ _ (spliced ((false, eval e X.env) :: backTo pos (starEach es X.env))) _ _ s
  refine Calls.spliced_cons (thn (he.run pins s σ H (fun v H1 => ∃ d S1, Keep X.kw H H1 ∧ Rel X.kw S1 H1 ∧ Rep X.kw H1 d v ∧ t δ S1 fun ds S2 => S2 P = some (.tab (X.env.qual ++ "<lambda>")) ∧ Pk (d :: ds) S2) I ⟨δ, S, _, w, ht, fun d S1 q v H1 k1 r1 p1 => ⟨d, S1, k1, r1, p1, q⟩⟩) fun u s1 q => ?_)
  obtain ⟨v, H1, I1, ru, d, S1, k1, r1, p1, q⟩ := q
  refine h.run pos pins s1 σ H1 δ S1 (fun ds S2 => Pk (d :: ds) S2) _ I1 (w.keep k1 r1) q fun us vs ds f S2 H2 s2 I2 k2 r2 nf rv rs at_ pk => ?_
  exact k (u :: us) (v :: vs) (d :: ds) f S2 H2 s2 I2 (k1.trans k2) r2 nf (.cons ru rv) (.cons (p1.keep k2) rs) at_ pk
end
/-! ### defs that are handed a function value, as the last argument -/
structure DFnF (P : Program) (w : World) (K : PySem.W.Frag) (mg : Str → Option Value) (base : Heap) (j k : Nat) (g : Addr) (gd : FuncData) (ps : List Str) (sp : DSp → DSp) : Prop where
  len : ∀ spf ds S Pq Pe, sp spf ds S Pq Pe → ds.length = ps.length
  run : ∀ {spf : DSp} {f : Addr} {A : Around} {outer : List Env} {s : Shared} {H : Hp} {args : Args} {us : List Value} {vs : List V} {ds : List Dv} {S : Store} {Pq : DK} {Pe : DX} {Q : VK} {E : XK}, A.guards = some [] → Room k A →
    Env0 P w K mg base A outer s H → FnV P w K mg base j (frs outer) s H f spf → BindsTo s gd args (ps.zip us) → Vals vs us → Rel ⟨K, w, mg⟩ S H → Reps ⟨K, w, mg⟩ H ds vs → ds.getLast? = some (.ref f) → sp spf ds S Pq Pe → PV ⟨K, w, mg⟩ H Pq Q → PX ⟨K, w, mg⟩ H Pe E →
    codeAny (model P w) A (.call (.ref g) args) (CR (CX P w) outer P w H s Q E) s
structure CalF (P : Program) (w : World) (K : PySem.W.Frag) (mg : Str → Option Value) (base : Heap) (j k : Nat) (x : Str) (ps : List Str) (sp : DSp → DSp) : Prop where
  ex : ∃ g gd, mg x = some (.ref g) ∧ PySem.W.keepIn K (.ref g) = true ∧ L2.Binds K gd ps [] ∧ DFnF P w K mg base j k g gd ps sp
section
variable {P : Program} {w : World} {K : PySem.W.Frag} {mg : Str → Option Value} {base : Heap}
theorem _root_.L2.Fun.okDF {x qual : Str} {st : Stmt} {g : Addr} {gd : FuncData} {N ps : List Str} {j k : Nat} {sp : DSp → DSp} {t : DSp → Addr → DX → DTS} (F : Fun K x qual st g gd) (Sc : FnScope N ps (defScope st)) (len : ∀ spf ds S Pq Pe, sp spf ds S Pq Pe → ds.length = ps.length)
    (hbody : ∀ (spf : DSp) (f : Addr) (cdv : Value) (A : Around) (outer : List Env) (s : Shared) (H : Hp) (Pe : DX) (E : XK), FnV P w K mg base j (frs outer) s H f spf → (A.deeper (PyProof.Rows.envOfC qual (defScope st) s.heap.objs.size g cdv)).guards = some [] → Room k (A.deeper (PyProof.Rows.envOfC qual (defScope st) s.heap.objs.size g cdv)) → PX ⟨K, w, mg⟩ H Pe E →
      DSs (cxOf (CX P w) P w K mg base N qual (defScope st) g cdv A outer s H E) H (defBody st) (t spf f Pe))
    (hsp : ∀ spf f ds S Pq Pe, ds.getLast? = some (.ref f) → sp spf ds S Pq Pe → dsp ⟨K, w, mg⟩ N (t spf f) ds S Pq Pe) : DFnF P w K mg base j (k + 1) g gd ps sp := by
  obtain ⟨oc, od, kV, doc, pm, an, cdv, ct, osl, rfl, lk, hcd⟩ := F.ex
  refine ⟨len, fun {spf f A outer s H args us vs ds S Pq Pe Q E} hgd hr e0 hF hb rv rl rs hlast q pv px => ?_⟩
  have hl : vs.length = ps.length := by rw [rs.length]; exact len _ _ _ _ _ q
  have old : ∀ b o, base.get? b = some o → s.heap.get? b = some o := fun b o e => (e0.bs b o e).1
  have KX := PySem.W.Frag.In.keeps e0.mod.kin old
  have lim := Heap.NoLimit.keeps e0.mod.nolimit old
  generalize hsc : defScope st = scope at *
  have hkind : ∀ y ∈ ps.zip us, scope.names.lookup y.1 = some .local ∨ (scope.names.lookup y.1 = some .cell ∧ ((cellsFrom (s.heap.objs.size + 1) scope.names []).lookup y.1).isSome = true) := fun y hy =>
    (Sc.par y.1 (List.of_mem_zip (b := y.2) hy).1).imp id fun z => ⟨z, PySem.W.cellsFrom_some _ _ _ (.inl z)⟩
  refine codeAny_call_function hr.depth (KX _ _ lk) rfl Sc.co Sc.gen rfl (PySem.W.codeRec_of KX hcd) (hb _ _ _ _ ?_)
  refine wpAny_newFunctionEnv_cells Sc.kind hkind fun env he s1 x1 => ?_
  subst he
  refine ⟨lim.keeps x1.toInCall.keep, codeAny_func ?_⟩
  have body := hbody spf f cdv A outer s H Pe E hF (guards_deeper hgd) (hr.deeper _) px
  obtain ⟨S0, r0, q0⟩ := hsp spf f ds S Pq Pe hlast q H rl
  have I := inv_start (CX := CX P w) (E := E) Sc hr.hd e0 hl rv x1
  have go := body.run [] s1 (L2.start N vs) H { nx := fun _ H' => Q .non H', rt := Q } I ⟨_, S0, _, wd_start r0 rs, q0, fun δ1 S1 z σ1 H1 k1 w1 => ?_, fun _ _ z => z.elim, fun _ _ z => z.elim, fun d S1 z v H1 k1 r1 p1 => ?_⟩
  · refine wpAny_mono go (fun fl s' hs => ?_) fun e s' hs => hs
    cases fl with
    | ret u => exact let ⟨v, σ', H', J, ru, hq⟩ := hs; (show CE outer P w H s Q u s' from ⟨v, H', J.os, J.bare, J.base, J.hok, ru, hq⟩)
    | next => exact let ⟨σ', H', J, hq⟩ := hs; (show CE outer P w H s Q .none s' from ⟨.non, H', J.os, J.bare, J.base, J.hok, rfl, hq⟩)
    | brk => exact let ⟨_, _, _, z⟩ := hs; (show False from z).elim
    | cont => exact let ⟨_, _, _, z⟩ := hs; (show False from z).elim
  · obtain ⟨S2, r2, z2⟩ := z H1 w1.rel
    exact pv _ S2 z2 _ H1 k1 r2 (rep_non.mpr rfl)
  · obtain ⟨S2, r2, z2⟩ := z H1 r1
    exact pv _ S2 z2 _ H1 k1 r2 p1
end
section
variable {X : Cx} {H0 : Hp} {j k m n : Nat} {P : Addr} {params : Arguments} {body : Expr} {scope : Scope} {xs ps : List Str} {tb : DX → DTE} {x : Str} {p pos : Pos} {e : Expr} {es : List Expr} {t : DTA} {sp : DSp → DSp}
theorem go_fnF {pins : List (Addr × Obj)} {σ : L2.St} {H : Hp} {s : Shared} {Q : VK} {us : List Value} {vs : List V} {ds : List Dv} {S : Store} {Pk : DK} {g f : Addr} {gd : FuncData} {spf : DSp} (F : DFnF X.prog X.w X.K X.mg X.base j k g gd ps sp) (hF : FnV X.prog X.w X.K X.mg X.base j (frs X.stack) s H f spf) (hgd : X.A.guards = some []) (hr : Room k X.A)
    (hb : L2.Binds X.K gd ps []) (I : Inv X pins σ H s) (rv : Vals vs us) (rl : Rel X.kw S H) (rs : Reps X.kw H ds vs) (hlast : ds.getLast? = some (.ref f)) (q : sp spf ds S Pk X0) (pv : PV X.kw H Pk Q) :
    wpAny (model X.prog X.w) X.A (call (.ref g) us) (EP X pins σ Q) X.xe s := by
  have hl : (us ++ []).length = ps.length := by rw [List.append_nil, ← rv.length, rs.length]; exact F.len _ _ _ _ _ q
  have bnd := hb s us I.kIn hl
  rw [List.append_nil] at bnd
  refine wpAny_call (codeAny_mono (F.run (E := E0) hgd hr I.env0 hF bnd rv rl rs hlast q pv px0) fun r s' hq => ?_)
  cases r with
  | error er => exact passN pins σ H s er s' I hq
  | ok fl =>
    cases fl with
    | ret u => exact I.after hq
    | _ => exact (show False from hq).elim
/-- x(.., lambda ..: ..) -/
@[simp] def dCallF (P : Addr) (q : Str) (n : Nat) (K : Kw) (sp : DSp → DSp) (tb : DX → DTE) (t : DTA) : DTE := fun δ S Pk => t δ S fun ds S1 => S1 P = some (.tab q) ∧ ∀ f, S1 f = none → sp (clo P q n K tb δ) (ds ++ [.ref f]) S1 Pk X0
theorem de_callF (c : CalF X.prog X.w X.K X.mg X.base (m + 1) j x ps sp) (hgd : X.A.guards = some []) (hr : Room k X.A) (T : LamT X params body scope xs) (ha : DAL X H0 P params body scope (e :: es) t)
    (hbody : ∀ (A : Around) (outer : List Env) (s1 : Shared) (HZ : Hp) (f c' : Addr) (Pe : DX) (E : XK), (lamCxP X xs A outer s1 HZ E scope f c').A.guards = some [] → Room m (A.deeper (lamEnv X scope s1.heap.objs.size f c')) → PX X.kw HZ Pe E → DE (lamCxP X xs A outer s1 HZ E scope f c') HZ body (tb Pe))
    (hj : j ≤ k := by decide) (hex : X.ex = [] := by rfl) (hg : Gl X x := by rfl) (hdb : (x == ("__debug__" : Str)) = false := by decide)
    (he : starEach (e :: es) X.env = (false, eval e X.env) :: starEach es X.env := by rfl) (hpl : (backTo pos (starEach es X.env)).any (·.1) = false := by rfl) : DE X H0 (.Call (.Name x p) (e :: es) [] pos) (dCallF P (X.env.qual ++ "<lambda>") xs.length X.kw sp tb t) := by
  obtain ⟨g, gd, hm, hk, hb, F⟩ := c.ex
  refine ⟨fun pins s σ H Q I h => wpAny_Call_Name_kw (ld_glob I hg hm ?_ hdb)⟩
  obtain ⟨δ, S, Pk, w, ht, hp⟩ := h
  refine PySem.W.callWith_K (h₀ := X.base) I.ok.mod.kin hk ?_ he hpl
  refine ha.run pos pins s σ H δ S (fun (ds : List Dv) (S1 : Store) => ∀ f : Addr, S1 f = none → sp (clo P (X.env.qual ++ "<lambda>") xs.length X.kw tb δ) (ds ++ [Dv.ref f]) S1 Pk X0) _ I w (by exact ht) fun us vs ds f S1 H1 s1 I1 k1 r1 nf rv rs at_ q => ?_
  have hF := clo_fnv I1 (w.keep k1 r1) hex T at_ hbody
  have rv2 : Vals (vs ++ [V.ref f]) (us ++ [Value.ref f]) := rv.append (.cons (show RelV (V.ref f) (Value.ref f) from rfl) .nil)
  exact ⟨I1.kIn, go_fnF (us := us ++ [Value.ref f]) (vs := vs ++ [V.ref f]) (ds := ds ++ [Dv.ref f]) F hF hgd (hr.mono hj) hb I1 rv2 r1 (rs.append (.cons (rep_ref.mpr rfl) .nil)) (by simp) (q f nf) (hp.keep k1)⟩
/-- x(.., is_goal): a function value handed on -/
@[simp] def dCallG (f : Addr) (spf : DSp) (sp : DSp → DSp) (t : DTA) : DTE := fun δ S Pk => t δ S fun ds S1 => ds.getLast? = some (.ref f) ∧ sp spf ds S1 Pk X0
theorem de_callG {f : Addr} {spf : DSp} (hF : FnV X.prog X.w X.K X.mg X.base m X.fs X.s_0 X.H_0 f spf) (c : CalF X.prog X.w X.K X.mg X.base m j x ps sp) (hgd : X.A.guards = some []) (hr : Room k X.A) (ha : DA X X.H_0 (e :: es) t)
    (hj : j ≤ k := by decide) (hex : X.ex = [] := by rfl) (hg : Gl X x := by rfl) (hdb : (x == ("__debug__" : Str)) = false := by decide)
    (he : starEach (e :: es) X.env = (false, eval e X.env) :: starEach es X.env := by rfl) (hpl : (backTo pos (starEach es X.env)).any (·.1) = false := by rfl) : DE X X.H_0 (.Call (.Name x p) (e :: es) [] pos) (dCallG f spf sp t) := by
  obtain ⟨g, gd, hm, hk, hb, F⟩ := c.ex
  refine ⟨fun pins s σ H Q I h => wpAny_Call_Name_kw (ld_glob I hg hm ?_ hdb)⟩
  obtain ⟨δ, S, Pk, w, ht, hp⟩ := h
  refine PySem.W.callWith_K (h₀ := X.base) I.ok.mod.kin hk (thn (ha.run pos pins s σ H (fun vs H1 => ∃ ds S1, Keep X.kw H H1 ∧ Rel X.kw S1 H1 ∧ Reps X.kw H1 ds vs ∧ ds.getLast? = some (.ref f) ∧ sp spf ds S1 Pk X0) I ⟨δ, S, _, w, ht, fun ds S1 q vs H1 k1 r1 p1 => ⟨ds, S1, k1, r1, p1, q⟩⟩) fun us s1 q => ?_) he hpl
  obtain ⟨vs, H1, I1, rv, ds, S1, k1, r1, p1, hlast, q⟩ := q
  exact ⟨I1.kIn, go_fnF F (hF.step hex I1 (w.base.trans k1)) hgd (hr.mono hj) hb I1 rv r1 p1 hlast q (hp.keep k1)⟩
end
/-- a def of the module whose code object is known -/
structure DefT (K : PySem.W.Frag) (mg : Str → Option Value) (x qual : Str) (st : Stmt) (c : Addr) : Prop where
  ex : ∃ f fd, Fun1 K x qual st f fd c ∧ mg x = some (.ref f)
end Sb

/-! {k: v}, the key of any kind. -/
namespace Sb
open PySem PySem.Spec PyProof.Rows L2
section
variable {X : Cx} {H0 : Hp} {k v : Expr} {tk tv : DTE} {pos : Pos}
@[simp] def dNdisp (tk tv : DTE) : DTE := fun δ S P => ∀ p, S p = none → tk δ (up S p (.ndc [])) fun d S1 => tv δ S1 fun e S2 => S2 p = some (.ndc []) ∧ kOk 8 d = true ∧ P (.ref p) (up S2 p (.ndc [(d, e)]))
theorem de_ndisp (hu : X.A.units + 64 < cLine) (hk : DE X H0 k tk) (hv : DE X H0 v tv) : DE X H0 (.Dict [some k] [v] pos) (dNdisp tk tv) := (pe_ndisp (by omega) hk hv).to fun σ H Q h => by
  obtain ⟨δ, S, P, w, ht, hp⟩ := h
  intro p hn
  have r0 : Rel X.kw (up S p (.ndc [])) (upd H p (NdO X.w p [])) := w.rel.laid hn fun own ow => ⟨ow, [], upd_same, rfl⟩
  have w0 := w.keep (.new hn) r0
  refine ⟨δ, _, _, w0, ht p (w.rel.free hn), fun d S1 q x H1 k1 r1 p1 => ⟨δ, S1, _, w0.keep k1 r1, q, fun e S2 q2 y H2 k2 r2 p2 => ?_⟩⟩
  obtain ⟨e0, hk', q2⟩ := q2
  obtain ⟨es, hes, n⟩ := r2.ndc e0
  simp only [KVn] at n
  subst n
  obtain ⟨n, hn', dk⟩ := kOk_key 8 d hk'
  exact ⟨n, hes, keyV_of d n x hn' (p1.keep k2), dk, hp _ _ q2 _ _ ((Keep.new hn).trans (k1.trans (k2.trans (keep_nd hes)))) (r2.ndcw e0 hes (KVn.put (kvs := []) rfl hn' dk (p1.keep k2) p2)) (rep_ref.mpr rfl)⟩
end
theorem dj_by {xs N : List Str} (h : (xs.all fun x => !N.contains x) = true) : ∀ x ∈ xs, x ∉ N := fun x hx => by
  have := List.all_eq_true.mp h x hx
  simpa using this
end Sb

namespace Sb
open PySem PySem.Spec L2
def top (i : Nat) : Stmt := PySem.Challenge.pw_seenbefore_k96_many_situations_by_hand.main.body.getD i (.Pass ⟨0, 0, 0, 0⟩)

/-! ### streams -/
def mD (x : Int × Int) : Dv := .tup [.int x.1, .int x.2]
def strD (s : List (Int × Int)) : Dv := .tup (s.map mD)
theorem plains_str (s : List (Int × Int)) : plains (s.map mD) = true ∧ deps (s.map mD) ≤ 1 := by
  induction s with
  | nil => simp [plains, deps]
  | cons n ns ih => simp [plains, plain, deps, dep, mD, ih]
theorem plain_str (s : List (Int × Int)) : plain (strD s) = true ∧ dep (strD s) ≤ 2 := by
  have := plains_str s
  simp [strD, plain, dep, this]
theorem mD_inj {x y : Int × Int} : mD x = mD y ↔ x = y := by
  obtain ⟨a, b⟩ := x; obtain ⟨c, d⟩ := y; simp [mD]
theorem map_mD_inj : ∀ {s t : List (Int × Int)}, s.map mD = t.map mD ↔ s = t
  | [], [] => by simp
  | [], _ :: _ => by simp
  | _ :: _, [] => by simp
  | x :: s, y :: t => by simp [mD_inj, map_mD_inj (s := s) (t := t)]
theorem strD_inj {s t : List (Int × Int)} : strD s = strD t ↔ s = t := by simp [strD, map_mD_inj]
/-- numbers of a size that repr takes -/
def Fit (s : List (Int × Int)) : Prop := ∀ x ∈ s, x.1.natAbs.log2 < 1920 ∧ x.2.natAbs.log2 < 1920
theorem shw_str : ∀ {s : List (Int × Int)}, Fit s → shws (s.map mD) = true ∧ costs (s.map mD) = 4008 * s.length
  | [], _ => by simp [shws, costs]
  | x :: s, h => by
    have ih := shw_str (s := s) fun y hy => h y (by simp [hy])
    have h1 := h x (by simp)
    simp [shws, shw, costs, cost, mD, ih, h1]
    omega
theorem gRepr_str {s : List (Int × Int)} {S : Store} {P : DK} (h : Fit s) (hl : s.length ≤ 4000) : gRepr [strD s] S P ↔ P (.str (toP (strD s)).shown) S := by
  obtain ⟨a, b⟩ := shw_str h
  refine gRepr_plain (plain_str s).1 (by simpa [strD, shw] using a) (by have := (plain_str s).2; omega) ?_
  simp [strD, cost, b]; omega
open Classical in
theorem gEqF_str {f : Bool → Bool} {s t : List (Int × Int)} {S : Store} {P : DK} : gEqF f (strD s) (strD t) S P ↔ P (.bl (f (decide (s = t)))) S := by
  rw [gEqF_plain (plain_str s).1 (plain_str t).1 (by have := (plain_str s).2; omega) (by have := (plain_str t).2; omega)]
  simp only [strD_inj]
@[simp] theorem gEqS {f : Bool → Bool} {s t : List (Int × Int)} {S : Store} {P : DK} : gEqF f (.tup (s.map mD)) (.tup (t.map mD)) S P ↔ P (.bl (f (s == t))) S := by
  have e := gEqF_str (f := f) (s := s) (t := t) (S := S) (P := P)
  rw [show strD s = .tup (s.map mD) from rfl, show strD t = .tup (t.map mD) from rfl] at e
  rw [e]
  have : decide (s = t) = (s == t) := by rw [Bool.eq_iff_iff]; simp
  rw [this]
@[simp] theorem strD_eq (s : List (Int × Int)) : strD s = .tup (s.map mD) := rfl
/-- a stream as the laws draw it -/
structure Drawn (s : List (Int × Int)) (w : Int) (m : Nat) : Prop where
  len : s.length ≤ m
  word : ∀ x ∈ s, 0 ≤ x.1 ∧ x.1 < w
  val : ∀ x ∈ s, x.2.natAbs < 10 ^ 60
theorem takeD (s : List (Int × Int)) (n : Nat) : (s.map mD).take n = (s.take n).map mD := List.map_take.symm
theorem dropD (s : List (Int × Int)) (n : Nat) : (s.map mD).drop n = (s.drop n).map mD := List.map_drop.symm
theorem appD (s t : List (Int × Int)) : s.map mD ++ t.map mD = (s ++ t).map mD := List.map_append.symm

--@cut
abbrev s_is_integer : Stmt := top 10
abbrev n_is_integer : List Str := ["value", "low", "high"]
abbrev p_is_integer : List Str := ["value", "low", "high"]
theorem sc_is_integer : FnScope n_is_integer p_is_integer (defScope s_is_integer) := ⟨rfl, rfl, rfl, by decide +kernel, rfl, by decide +kernel, by decide +kernel⟩
-- return isinstance(value, int) and (not isinstance(value, bool)) and (low <= value <= high)
@[simp] def u_is_integer_1 (K : Kw) (Pe : DX) : DTS :=
  (dRet (dAndV (dCB gIsi (dCons (dVar 0) (dCons (dC (.ty "int")) dNil))) (dAndV (dNotV (dCB gIsi (dCons (dVar 0) (dCons (dC (.ty "bool")) dNil)))) (dChain (gCmp fun i j => decide (i ≤ j)) (gCmp fun i j => decide (i ≤ j)) (dVar 1) (dVar 0) (dVar 2)))))
abbrev t_is_integer (K : Kw) (Pe : DX) : DTS := (u_is_integer_1 K Pe)
def sp_is_integer : DSp := fun ds S Pq _ => ∃ v lo hi : Int, ds = [.int v, .int lo, .int hi] ∧ Pq (.bl (decide (lo ≤ v) && decide (v ≤ hi))) S
theorem len_is_integer : ∀ ds S Pq Pe, sp_is_integer ds S Pq Pe → ds.length = p_is_integer.length := fun _ _ _ _ ⟨_, _, _, h, _⟩ => by subst h; rfl
@[simp] theorem is_integer_iff {v lo hi : Int} {S : Store} {P : DK} {e : DX} : sp_is_integer [.int v, .int lo, .int hi] S P e ↔ P (.bl (decide (lo ≤ v) && decide (v ≤ hi))) S := ⟨fun ⟨_, _, _, h, q⟩ => by simp at h; obtain ⟨rfl, rfl, rfl⟩ := h; exact q, fun q => ⟨v, lo, hi, rfl, q⟩⟩
theorem hsp_is_integer (K : Kw) : ∀ ds S Pq Pe, sp_is_integer ds S Pq Pe → dsp K n_is_integer (t_is_integer K) ds S Pq Pe := by
  rintro ds S Pq Pe ⟨v, lo, hi, rfl, h⟩
  refine VS.pure ?_
  by_cases h1 : lo ≤ v
  · simp [h1]
    simp [h1] at h
    exact VS.pure h
  · simp [h1]
    simp [h1] at h
    exact VS.pure h
theorem dfn_is_integer {P : Program} {w : World} {K : PySem.W.Frag} {mg : Str → Option Value} {base : Heap} {f : Addr} {fd : FuncData} (F : Fun K "is_integer" "is_integer" s_is_integer f fd) (z_int : mg "int" = none) (z_isinstance : mg "isinstance" = none) (z_bool : mg "bool" = none) : DFn P w K mg base 1 f fd p_is_integer sp_is_integer :=
  Fun.okD (k := 0) (t := t_is_integer ⟨K, w, mg⟩) F sc_is_integer len_is_integer (fun cdv A outer s H Pe E hgd hr px =>
  (dss_one (ds_ret (de_and (de_callB cg_isi (by rfl) z_isinstance (by decide +kernel) (da_cons (dv 0) (da_cons (de_gty z_int (by decide +kernel)) da_nil))) (de_and (de_not (de_callB cg_isi (by rfl) z_isinstance (by decide +kernel) (da_cons (dv 0) (da_cons (de_gty z_bool (by decide +kernel)) da_nil)))) (de_one (de_chain c_le c_le (dv 1) (dv 0) (dv 2)))))))) (hsp_is_integer ⟨K, w, mg⟩)
theorem ok_is_integer {P : Program} {w : World} {K : PySem.W.Frag} {mg : Str → Option Value} {base : Heap} (D : Def K mg "is_integer" "is_integer" s_is_integer) (z_int : mg "int" = none) (z_isinstance : mg "isinstance" = none) (z_bool : mg "bool" = none) : Cal P w K mg base 1 "is_integer" p_is_integer sp_is_integer :=
  let ⟨f, fd, F, hm⟩ := D.ex
  ⟨f, fd, hm, F.kp, F.binds (ps := p_is_integer) fun _ _ _ _ _ _ us hl => match us, hl with | [_, _, _], _ => rfl, dfn_is_integer F z_int z_isinstance z_bool⟩

/-! ### watchers -/
abbrev Ru := Int × Int × Option Int
abbrev Tg := Int × List (Option Int)
def tsD : Option Int → Dv | none => .str "new" | some i => .int i
def srD : Option Int → Dv | none => .str "value" | some i => .int i
def ruD (r : Ru) : Dv := .tup [.int r.1, .int r.2.1, tsD r.2.2]
def tgD (t : Tg) : Dv := .tup [.int t.1, .tup (t.2.map srD)]
def keD (p : Ru × Tg) : Dv × Dv := (ruD p.1, tgD p.2)
abbrev watO (n : Int) (kinds : List (Int × Int)) (kept : List (Ru × Tg)) : O := .obj "Watcher" [("words", .val (.int n)), ("kinds", .lst (kinds.map mD)), ("kept", .dct (kept.map keD))]

abbrev s_Watcher___init__ : Stmt := inClass (top 23) 0
abbrev n_Watcher___init__ : List Str := ["self", "words"]
abbrev p_Watcher___init__ : List Str := ["self", "words"]
theorem sc_Watcher___init__ : FnScope n_Watcher___init__ p_Watcher___init__ (defScope s_Watcher___init__) := ⟨rfl, rfl, rfl, by decide +kernel, rfl, by decide +kernel, by decide +kernel⟩
-- raise LimitExceeded(MAX_WORDS)
@[simp] def u_Watcher___init___2 (K : Kw) (Pe : DX) : DTS :=
  dNever
-- self.kept = {}
@[simp] def u_Watcher___init___5 (K : Kw) (Pe : DX) : DTS :=
  (dSetF "Watcher" "kept" (dVar 0) dNnew)
-- self.kinds = [(0, 0)]
def u_Watcher___init___4 (K : Kw) (Pe : DX) : DTS :=
  (dSeq (dSetF "Watcher" "kinds" (dVar 0) (dLst (dCons (dTup (dCons (dC (.int 0)) (dCons (dC (.int 0)) dNil))) dNil)))
  (u_Watcher___init___5 K Pe))
-- self.words = words
def u_Watcher___init___3 (K : Kw) (Pe : DX) : DTS :=
  (dSeq (dSetF "Watcher" "words" (dVar 0) (dVar 1))
  (u_Watcher___init___4 K Pe))
-- if not is_integer(words, 1, MAX_WORDS):
def u_Watcher___init___1 (K : Kw) (Pe : DX) : DTS :=
  (dSeq (dIfS (dNot (dB (dCall sp_is_integer X0 (dCons (dVar 1) (dCons (dC (.int 1)) (dCons (dC (.int 3)) dNil))))))
  (u_Watcher___init___2 K Pe)
  dNext)
  (u_Watcher___init___3 K Pe))
abbrev t_Watcher___init__ (K : Kw) (Pe : DX) : DTS := (u_Watcher___init___1 K Pe)
def sp_Watcher___init__ : DSp := fun ds S Pq _ => ∃ (x : Addr) (n : Int), ds = [.ref x, .int n] ∧ S x = some (.ins "Watcher" []) ∧ 1 ≤ n ∧ n ≤ 3 ∧ Pq .non (up S x (watO n [(0, 0)] []))
theorem len_Watcher___init__ : ∀ ds S Pq Pe, sp_Watcher___init__ ds S Pq Pe → ds.length = p_Watcher___init__.length := fun _ _ _ _ ⟨_, _, h, _⟩ => by subst h; rfl
theorem hsp_Watcher___init__ (K : Kw) : ∀ ds S Pq Pe, sp_Watcher___init__ ds S Pq Pe → dsp K n_Watcher___init__ (t_Watcher___init__ K) ds S Pq Pe := by
  rintro ds S Pq Pe ⟨x, n, rfl, hx, h1, h2, h⟩
  refine VS.pure ?_
  unfold t_Watcher___init__
  simp +contextual [u_Watcher___init___1, u_Watcher___init___3, u_Watcher___init___4, h1, h2, hx]
  intro l h3 h4 p h5 h6 h7
  exact VS.mkW (S' := S) (ds := [Dv.tup [.int 0, .int 0]]) (kvs := []) up_same (by simp [h3, h6, Ne.symm h6]) (by simp [h5]) h3 h5 (Ne.symm h6) (fun b o hb e => by have := some_ne e h4; have := some_ne e h7; simp [*]) h4 h7 h
@[simp] theorem watcher_init_iff {x : Addr} {n : Int} {S : Store} {P : DK} {e : DX} : sp_Watcher___init__ [.ref x, .int n] S P e ↔ (S x = some (.ins "Watcher" []) ∧ 1 ≤ n ∧ n ≤ 3 ∧ P .non (up S x (watO n [(0, 0)] []))) := ⟨fun ⟨_, _, h, q⟩ => by simp at h; obtain ⟨rfl, rfl⟩ := h; exact q, fun q => ⟨x, n, rfl, q⟩⟩
theorem dfn_Watcher___init__ {P : Program} {w : World} {K : PySem.W.Frag} {mg : Str → Option Value} {base : Heap} {f : Addr} {fd : FuncData} (F : Fun K "__init__" "Watcher.__init__" s_Watcher___init__ f fd) {C_Watcher : Addr} (kl_Watcher : KlG K mg "Watcher" C_Watcher) (g_MAX_WORDS : ∃ t, mg "MAX_WORDS" = some (.int 3 t)) (C_is_integer : Cal P w K mg base 1 "is_integer" p_is_integer sp_is_integer) (na_Watcher_words : NoAttr K C_Watcher "words") (na_Watcher_kinds : NoAttr K C_Watcher "kinds") (na_Watcher_kept : NoAttr K C_Watcher "kept") : DFn P w K mg base 2 f fd p_Watcher___init__ sp_Watcher___init__ :=
  Fun.okD (k := 1) (t := t_Watcher___init__ ⟨K, w, mg⟩) F sc_Watcher___init__ len_Watcher___init__ (fun cdv A outer s H Pe E hgd hr px =>
  (dss_cons (ds_if (dt_not (dt_val (de_fn C_is_integer hgd hr (da_cons (dv 1) (da_cons de_int (da_cons (de_gint g_MAX_WORDS) da_nil))))))
  (dss_one ds_never)
  dss_nil)
  (dss_cons (ds_setF kl_Watcher na_Watcher_words (dv 0) (dv 1))
  (dss_cons (ds_setF kl_Watcher na_Watcher_kinds (dv 0) (de_lst (da_cons (de_tup (da_cons de_int (da_cons de_int da_nil))) da_nil)))
  (dss_one (ds_setF kl_Watcher na_Watcher_kept (dv 0) de_nnew)))))) (hsp_Watcher___init__ ⟨K, w, mg⟩)
theorem ok_Watcher___init__ {P : Program} {w : World} {K : PySem.W.Frag} {mg : Str → Option Value} {base : Heap} {C_Watcher : Addr} (kl_Watcher : KlG K mg "Watcher" C_Watcher) (g_MAX_WORDS : ∃ t, mg "MAX_WORDS" = some (.int 3 t)) (C_is_integer : Cal P w K mg base 1 "is_integer" p_is_integer sp_is_integer) (na_Watcher_words : NoAttr K C_Watcher "words") (na_Watcher_kinds : NoAttr K C_Watcher "kinds") (na_Watcher_kept : NoAttr K C_Watcher "kept") (D : DefM K C_Watcher "__init__" "Watcher.__init__" s_Watcher___init__) (mk : PySem.W.makesIn K C_Watcher = true) (kc : PySem.W.keepIn K (.ref C_Watcher) = true) : CalC P w K mg base 2 "Watcher" p_Watcher___init__ sp_Watcher___init__ :=
  let ⟨f, fd, F, hm⟩ := D.ex
  ⟨C_Watcher, f, fd, kl_Watcher, ⟨mk, hm.at_, hm.fn, kc⟩, F.binds (ps := p_Watcher___init__) fun _ _ _ _ _ _ us hl => match us, hl with | [_, _], _ => rfl, dfn_Watcher___init__ F kl_Watcher g_MAX_WORDS C_is_integer na_Watcher_words na_Watcher_kinds na_Watcher_kept⟩

theorem kind_at {kinds : List (Int × Int)} {s v h : Int} (h0 : 0 ≤ s) (hk : kinds[s.toNat]? = some (v, h)) : atI (kinds.map mD) s = some (.tup [.int v, .int h]) := by rw [atI_of h0, map_getElem? hk]; rfl
theorem kind_lt {kinds : List (Int × Int)} {s v h : Int} (h0 : 0 ≤ s) (hk : kinds[s.toNat]? = some (v, h)) : s < kinds.length := by have := get_lt hk; omega
/-- T is S with the watcher at x open -/
structure OpW (S T : Store) (x l k : Addr) (n : Int) (kinds : List (Int × Int)) (kept : List (Ru × Tg)) : Prop where
  hx : T x = some (.ins "Watcher" [("words", .int n), ("kinds", .ref l), ("kept", .ref k)])
  hl : T l = some (.lst (kinds.map mD))
  hk : T k = some (.ndc (kept.map keD))
  lx : l ≠ x
  kx : k ≠ x
  lk : l ≠ k
  sl : S l = none
  sk : S k = none
  old : ∀ b o, b ≠ x → S b = some o → T b = some o
section
variable {K : Kw} {S T : Store} {x l k : Addr} {n : Int} {kinds kinds' : List (Int × Int)} {kept kept' : List (Ru × Tg)} {P : Store → Prop}
theorem VS.opW (hx : S x = some (watO n kinds kept)) (h : ∀ l k T, OpW S T x l k n kinds kept → P T) : VS K S P :=
  VS.openW hx fun l k la ka lk Sl Sk => h l k _ ⟨up_same, by simp [la, lk], by simp [ka], la, ka, lk, Sl, Sk, fun b o hb e => by have := some_ne e Sl; have := some_ne e Sk; simp [*]⟩
theorem OpW.close (w : OpW S T x l k n kinds kept) (h : P (up S x (watO n kinds kept))) : VS K T P := VS.mkW (S' := S) w.hx w.hl w.hk w.lx w.kx w.lk w.old w.sl w.sk h
theorem OpW.shut (w : OpW S T x l k n kinds kept) (hx : S x = some (watO n kinds kept)) (h : P S) : VS K T P := w.close (by rw [up_self hx]; exact h)
theorem OpW.setL (w : OpW S T x l k n kinds kept) : OpW S (up T l (.lst (kinds'.map mD))) x l k n kinds' kept :=
  ⟨by rw [up_ne (Ne.symm w.lx)]; exact w.hx, up_same, by rw [up_ne (Ne.symm w.lk)]; exact w.hk, w.lx, w.kx, w.lk, w.sl, w.sk, fun b o hb e => by rw [up_ne (some_ne e w.sl)]; exact w.old b o hb e⟩
theorem OpW.setK (w : OpW S T x l k n kinds kept) : OpW S (up T k (.ndc (kept'.map keD))) x l k n kinds kept' :=
  ⟨by rw [up_ne (Ne.symm w.kx)]; exact w.hx, by rw [up_ne w.lk]; exact w.hl, up_same, w.lx, w.kx, w.lk, w.sl, w.sk, fun b o hb e => by rw [up_ne (some_ne e w.sk)]; exact w.old b o hb e⟩
theorem OpW.new {q : Addr} {o : O} (w : OpW S T x l k n kinds kept) (hq : T q = none) : OpW S (up T q o) x l k n kinds kept :=
  ⟨by rw [up_ne (some_ne w.hx hq)]; exact w.hx, by rw [up_ne (some_ne w.hl hq)]; exact w.hl, by rw [up_ne (some_ne w.hk hq)]; exact w.hk, w.lx, w.kx, w.lk, w.sl, w.sk, fun b o hb e => by have := w.old b o hb e; rw [up_ne (some_ne this hq)]; exact this⟩
end


theorem OpW.both {S T : Store} {x l k D : Addr} {n : Int} {kinds : List (Int × Int)} {kept : List (Ru × Tg)} {o : O} (w : OpW S T x l k n kinds kept) (hD : T D = none) : OpW (up S D o) (up T D o) x l k n kinds kept := by
  have v := w.new (o := o) hD
  refine ⟨v.hx, v.hl, v.hk, v.lx, v.kx, v.lk, ?_, ?_, fun b u hb e => ?_⟩
  · rw [up_ne (some_ne w.hl hD)]; exact w.sl
  · rw [up_ne (some_ne w.hk hD)]; exact w.sk
  · by_cases hbd : b = D
    · subst hbd; rw [up_same] at e ⊢; exact e
    · rw [up_ne hbd] at e ⊢; exact w.old b u hb e
theorem OpW.free {S T : Store} {x l k D : Addr} {n : Int} {kinds : List (Int × Int)} {kept : List (Ru × Tg)} (w : OpW S T x l k n kinds kept) (hD : T D = none) : S D = none := by
  cases q : S D with
  | none => rfl
  | some o =>
    have hx : D ≠ x := fun z => by rw [z, w.hx] at hD; cases hD
    rw [w.old D o hx q] at hD; cases hD

abbrev s_Watcher_require_state : Stmt := inClass (top 23) 2
abbrev n_Watcher_require_state : List Str := ["self", "value"]
abbrev p_Watcher_require_state : List Str := ["self", "value"]
theorem sc_Watcher_require_state : FnScope n_Watcher_require_state p_Watcher_require_state (defScope s_Watcher_require_state) := ⟨rfl, rfl, rfl, by decide +kernel, rfl, by decide +kernel, by decide +kernel⟩
-- raise UnknownState(value)
@[simp] def u_Watcher_require_state_2 (K : Kw) (Pe : DX) : DTS :=
  dNever
-- if not is_integer(value, 0, len(self.kinds) - 1):
@[simp] def u_Watcher_require_state_1 (K : Kw) (Pe : DX) : DTS :=
  (dIfS (dNot (dB (dCall sp_is_integer X0 (dCons (dVar 1) (dCons (dC (.int 0)) (dCons (dBin gSub (dCB gLenA (dCons (dFld "Watcher" "kinds" (dVar 0)) dNil)) (dC (.int 1))) dNil))))))
  (u_Watcher_require_state_2 K Pe)
  dNext)
abbrev t_Watcher_require_state (K : Kw) (Pe : DX) : DTS := (u_Watcher_require_state_1 K Pe)
def sp_Watcher_require_state : DSp := fun ds S Pq _ => ∃ (x : Addr) (v n : Int) (kinds : List (Int × Int)) (kept : List (Ru × Tg)), ds = [.ref x, .int v] ∧ S x = some (watO n kinds kept) ∧ 0 ≤ v ∧ v < kinds.length ∧ Pq .non S
theorem len_Watcher_require_state : ∀ ds S Pq Pe, sp_Watcher_require_state ds S Pq Pe → ds.length = p_Watcher_require_state.length := fun _ _ _ _ ⟨_, _, _, _, _, h, _⟩ => by subst h; rfl
theorem hsp_Watcher_require_state (K : Kw) : ∀ ds S Pq Pe, sp_Watcher_require_state ds S Pq Pe → dsp K n_Watcher_require_state (t_Watcher_require_state K) ds S Pq Pe := by
  rintro ds S Pq Pe ⟨x, v, n, kinds, kept, rfl, hx, h0, h1, h⟩
  refine VS.opW hx fun l k T w => ?_
  have h2 : v ≤ (kinds.length : Int) - 1 := by omega
  unfold t_Watcher_require_state
  simp [w.hx, w.hl, h0, h2]
  exact w.shut hx h
theorem dfn_Watcher_require_state {P : Program} {w : World} {K : PySem.W.Frag} {mg : Str → Option Value} {base : Heap} {f : Addr} {fd : FuncData} (F : Fun K "require_state" "Watcher.require_state" s_Watcher_require_state f fd) {C_Watcher : Addr} (kl_Watcher : KlG K mg "Watcher" C_Watcher) (na_Watcher_kinds : NoAttr K C_Watcher "kinds") (z_len : mg "len" = none) (C_is_integer : Cal P w K mg base 1 "is_integer" p_is_integer sp_is_integer) : DFn P w K mg base 2 f fd p_Watcher_require_state sp_Watcher_require_state :=
  Fun.okD (k := 1) (t := t_Watcher_require_state ⟨K, w, mg⟩) F sc_Watcher_require_state len_Watcher_require_state (fun cdv A outer s H Pe E hgd hr px =>
  (dss_one (ds_if (dt_not (dt_val (de_fn C_is_integer hgd hr (da_cons (dv 1) (da_cons de_int (da_cons (de_op o_sub (de_callB cg_lenA (by rfl) z_len (by decide +kernel) (da_cons (de_fld kl_Watcher na_Watcher_kinds (dv 0)) da_nil)) de_int) da_nil))))))
  (dss_one ds_never)
  dss_nil))) (hsp_Watcher_require_state ⟨K, w, mg⟩)
theorem ok_Watcher_require_state {P : Program} {w : World} {K : PySem.W.Frag} {mg : Str → Option Value} {base : Heap} {C_Watcher : Addr} (kl_Watcher : KlG K mg "Watcher" C_Watcher) (na_Watcher_kinds : NoAttr K C_Watcher "kinds") (z_len : mg "len" = none) (C_is_integer : Cal P w K mg base 1 "is_integer" p_is_integer sp_is_integer) (D : DefM K C_Watcher "require_state" "Watcher.require_state" s_Watcher_require_state) : CalM P w K mg base 2 "Watcher" "require_state" p_Watcher_require_state sp_Watcher_require_state :=
  let ⟨f, fd, F, hm⟩ := D.ex
  ⟨C_Watcher, f, fd, kl_Watcher, hm, F.binds (ps := p_Watcher_require_state) fun _ _ _ _ _ _ us hl => match us, hl with | [_, _], _ => rfl, dfn_Watcher_require_state F kl_Watcher na_Watcher_kinds z_len C_is_integer⟩
theorem rs_mk {x : Addr} {v n : Int} {kinds : List (Int × Int)} {kept : List (Ru × Tg)} {S : Store} {P : DK} {e : DX} (hx : S x = some (watO n kinds kept)) (h0 : 0 ≤ v) (h1 : v < kinds.length) (h : P .non S) : sp_Watcher_require_state [.ref x, .int v] S P e := ⟨x, v, n, kinds, kept, rfl, hx, h0, h1, h⟩

abbrev s_Watcher_add_state : Stmt := inClass (top 23) 3
abbrev n_Watcher_add_state : List Str := ["self", "verdict", "held"]
abbrev p_Watcher_add_state : List Str := ["self", "verdict", "held"]
theorem sc_Watcher_add_state : FnScope n_Watcher_add_state p_Watcher_add_state (defScope s_Watcher_add_state) := ⟨rfl, rfl, rfl, by decide +kernel, rfl, by decide +kernel, by decide +kernel⟩
-- raise NotAVerdict(verdict)
@[simp] def u_Watcher_add_state_2 (K : Kw) (Pe : DX) : DTS :=
  dNever
-- raise LimitExceeded(MAX_HELD)
@[simp] def u_Watcher_add_state_4 (K : Kw) (Pe : DX) : DTS :=
  dNever
-- raise LimitExceeded(MAX_STATES)
@[simp] def u_Watcher_add_state_6 (K : Kw) (Pe : DX) : DTS :=
  dNever
-- return len(self.kinds) - 1
@[simp] def u_Watcher_add_state_8 (K : Kw) (Pe : DX) : DTS :=
  (dRet (dBin gSub (dCB gLenA (dCons (dFld "Watcher" "kinds" (dVar 0)) dNil)) (dC (.int 1))))
-- self.kinds.append((verdict, held))
def u_Watcher_add_state_7 (K : Kw) (Pe : DX) : DTS :=
  (dSeq (dDrop (dBM isL gAppend (dFld "Watcher" "kinds" (dVar 0)) (dCons (dTup (dCons (dVar 1) (dCons (dVar 2) dNil))) dNil)))
  (u_Watcher_add_state_8 K Pe))
-- if len(self.kinds) == MAX_STATES:
def u_Watcher_add_state_5 (K : Kw) (Pe : DX) : DTS :=
  (dSeq (dIfS (dB (dBin (gEqF id) (dCB gLenA (dCons (dFld "Watcher" "kinds" (dVar 0)) dNil)) (dC (.int 6))))
  (u_Watcher_add_state_6 K Pe)
  dNext)
  (u_Watcher_add_state_7 K Pe))
-- if not is_integer(held, 0, MAX_HELD):
def u_Watcher_add_state_3 (K : Kw) (Pe : DX) : DTS :=
  (dSeq (dIfS (dNot (dB (dCall sp_is_integer X0 (dCons (dVar 2) (dCons (dC (.int 0)) (dCons (dC (.int 3)) dNil))))))
  (u_Watcher_add_state_4 K Pe)
  dNext)
  (u_Watcher_add_state_5 K Pe))
-- if not is_integer(verdict, 0, MAX_VERDICT):
def u_Watcher_add_state_1 (K : Kw) (Pe : DX) : DTS :=
  (dSeq (dIfS (dNot (dB (dCall sp_is_integer X0 (dCons (dVar 1) (dCons (dC (.int 0)) (dCons (dC (.int 3)) dNil))))))
  (u_Watcher_add_state_2 K Pe)
  dNext)
  (u_Watcher_add_state_3 K Pe))
abbrev t_Watcher_add_state (K : Kw) (Pe : DX) : DTS := (u_Watcher_add_state_1 K Pe)
def sp_Watcher_add_state : DSp := fun ds S Pq _ => ∃ (x : Addr) (v h n : Int) (kinds : List (Int × Int)) (kept : List (Ru × Tg)), ds = [.ref x, .int v, .int h] ∧ S x = some (watO n kinds kept) ∧ (0 ≤ v ∧ v ≤ 3) ∧ (0 ≤ h ∧ h ≤ 3) ∧ kinds.length < 6 ∧ Pq (.int kinds.length) (up S x (watO n (kinds ++ [(v, h)]) kept))
theorem len_Watcher_add_state : ∀ ds S Pq Pe, sp_Watcher_add_state ds S Pq Pe → ds.length = p_Watcher_add_state.length := fun _ _ _ _ ⟨_, _, _, _, _, _, h, _⟩ => by subst h; rfl
theorem hsp_Watcher_add_state (K : Kw) : ∀ ds S Pq Pe, sp_Watcher_add_state ds S Pq Pe → dsp K n_Watcher_add_state (t_Watcher_add_state K) ds S Pq Pe := by
  rintro ds S Pq Pe ⟨x, v, hh, n, kinds, kept, rfl, hx, ⟨v0, v1⟩, ⟨h0, h1⟩, hl, h⟩
  refine VS.opW hx fun l k T w => ?_
  have h2 : ¬ (kinds.length : Int) = 6 := by omega
  unfold t_Watcher_add_state
  simp [u_Watcher_add_state_1, u_Watcher_add_state_3, u_Watcher_add_state_5, u_Watcher_add_state_7, w.hx, w.hl, h0, h1, v0, v1, h2]
  have w2 := w.setL (kinds' := kinds ++ [(v, hh)])
  simp [mD] at w2
  refine ⟨by omega, w2.close h⟩
theorem dfn_Watcher_add_state {P : Program} {w : World} {K : PySem.W.Frag} {mg : Str → Option Value} {base : Heap} {f : Addr} {fd : FuncData} (F : Fun K "add_state" "Watcher.add_state" s_Watcher_add_state f fd) {C_Watcher : Addr} (kl_Watcher : KlG K mg "Watcher" C_Watcher) (g_MAX_VERDICT : ∃ t, mg "MAX_VERDICT" = some (.int 3 t)) (C_is_integer : Cal P w K mg base 1 "is_integer" p_is_integer sp_is_integer) (g_MAX_HELD : ∃ t, mg "MAX_HELD" = some (.int 3 t)) (na_Watcher_kinds : NoAttr K C_Watcher "kinds") (z_len : mg "len" = none) (g_MAX_STATES : ∃ t, mg "MAX_STATES" = some (.int 6 t)) : DFn P w K mg base 2 f fd p_Watcher_add_state sp_Watcher_add_state :=
  Fun.okD (k := 1) (t := t_Watcher_add_state ⟨K, w, mg⟩) F sc_Watcher_add_state len_Watcher_add_state (fun cdv A outer s H Pe E hgd hr px =>
  (dss_cons (ds_if (dt_not (dt_val (de_fn C_is_integer hgd hr (da_cons (dv 1) (da_cons de_int (da_cons (de_gint g_MAX_VERDICT) da_nil))))))
  (dss_one ds_never)
  dss_nil)
  (dss_cons (ds_if (dt_not (dt_val (de_fn C_is_integer hgd hr (da_cons (dv 2) (da_cons de_int (da_cons (de_gint g_MAX_HELD) da_nil))))))
  (dss_one ds_never)
  dss_nil)
  (dss_cons (ds_if (dt_cmp (c_eq (units_64 hr)) (de_callB cg_lenA (by rfl) z_len (by decide +kernel) (da_cons (de_fld kl_Watcher na_Watcher_kinds (dv 0)) da_nil)) (de_gint g_MAX_STATES))
  (dss_one ds_never)
  dss_nil)
  (dss_cons (ds_expr (de_bm mg_append PySem.F.plainAttrs_list PySem.F.slot_list_append PySem.F.type_list_append (de_fld kl_Watcher na_Watcher_kinds (dv 0)) (da_cons (de_tup (da_cons (dv 1) (da_cons (dv 2) da_nil))) da_nil)))
  (dss_one (ds_ret (de_op o_sub (de_callB cg_lenA (by rfl) z_len (by decide +kernel) (da_cons (de_fld kl_Watcher na_Watcher_kinds (dv 0)) da_nil)) de_int)))))))) (hsp_Watcher_add_state ⟨K, w, mg⟩)
theorem ok_Watcher_add_state {P : Program} {w : World} {K : PySem.W.Frag} {mg : Str → Option Value} {base : Heap} {C_Watcher : Addr} (kl_Watcher : KlG K mg "Watcher" C_Watcher) (g_MAX_VERDICT : ∃ t, mg "MAX_VERDICT" = some (.int 3 t)) (C_is_integer : Cal P w K mg base 1 "is_integer" p_is_integer sp_is_integer) (g_MAX_HELD : ∃ t, mg "MAX_HELD" = some (.int 3 t)) (na_Watcher_kinds : NoAttr K C_Watcher "kinds") (z_len : mg "len" = none) (g_MAX_STATES : ∃ t, mg "MAX_STATES" = some (.int 6 t)) (D : DefM K C_Watcher "add_state" "Watcher.add_state" s_Watcher_add_state) : CalM P w K mg base 2 "Watcher" "add_state" p_Watcher_add_state sp_Watcher_add_state :=
  let ⟨f, fd, F, hm⟩ := D.ex
  ⟨C_Watcher, f, fd, kl_Watcher, hm, F.binds (ps := p_Watcher_add_state) fun _ _ _ _ _ _ us hl => match us, hl with | [_, _, _], _ => rfl, dfn_Watcher_add_state F kl_Watcher g_MAX_VERDICT C_is_integer g_MAX_HELD na_Watcher_kinds z_len g_MAX_STATES⟩
theorem ixN_in {n : Nat} {s : Int} (h0 : 0 ≤ s) (h1 : s < n) : ixN n s = some s.toNat := by
  unfold ixN; simp [h0, h1]; try omega

abbrev s_Watcher_is_test : Stmt := inClass (top 23) 5
abbrev n_Watcher_is_test : List Str := ["self", "state", "value"]
abbrev p_Watcher_is_test : List Str := ["self", "state", "value"]
theorem sc_Watcher_is_test : FnScope n_Watcher_is_test p_Watcher_is_test (defScope s_Watcher_is_test) := ⟨rfl, rfl, rfl, by decide +kernel, rfl, by decide +kernel, by decide +kernel⟩
-- return value == 'new'
@[simp] def u_Watcher_is_test_2 (K : Kw) (Pe : DX) : DTS :=
  (dRet (dBin (gEqF id) (dVar 2) (dC (.str "new"))))
-- return is_integer(value, 0, self.kinds[state][1] - 1)
@[simp] def u_Watcher_is_test_3 (K : Kw) (Pe : DX) : DTS :=
  (dRet (dCall sp_is_integer X0 (dCons (dVar 2) (dCons (dC (.int 0)) (dCons (dBin gSub (dBin gIx (dBin gIx (dFld "Watcher" "kinds" (dVar 0)) (dVar 1)) (dC (.int 1))) (dC (.int 1))) dNil)))))
-- if isinstance(value, str):
def u_Watcher_is_test_1 (K : Kw) (Pe : DX) : DTS :=
  (dSeq (dIfS (dB (dCB gIsi (dCons (dVar 2) (dCons (dC (.ty "str")) dNil))))
  (u_Watcher_is_test_2 K Pe)
  dNext)
  (u_Watcher_is_test_3 K Pe))
abbrev t_Watcher_is_test (K : Kw) (Pe : DX) : DTS := (u_Watcher_is_test_1 K Pe)
/-- the test of a rule: a place of the state, or new -/
def tsOk (h : Int) : Option Int → Prop | none => True | some i => 0 ≤ i ∧ i < h
def sp_Watcher_is_test : DSp := fun ds S Pq _ => ∃ (x : Addr) (s n v0 h0 : Int) (t : Option Int) (kinds : List (Int × Int)) (kept : List (Ru × Tg)), ds = [.ref x, .int s, tsD t] ∧ (S x = some (watO n kinds kept) ∨ ∃ l k, S x = some (.ins "Watcher" [("words", .int n), ("kinds", .ref l), ("kept", .ref k)]) ∧ S l = some (.lst (kinds.map mD))) ∧ 0 ≤ s ∧ kinds[s.toNat]? = some (v0, h0) ∧ tsOk h0 t ∧ Pq (.bl true) S
theorem len_Watcher_is_test : ∀ ds S Pq Pe, sp_Watcher_is_test ds S Pq Pe → ds.length = p_Watcher_is_test.length := fun _ _ _ _ ⟨_, _, _, _, _, _, _, _, h, _⟩ => by subst h; rfl
theorem hsp_Watcher_is_test (K : Kw) : ∀ ds S Pq Pe, sp_Watcher_is_test ds S Pq Pe → dsp K n_Watcher_is_test (t_Watcher_is_test K) ds S Pq Pe := by
  rintro ds S Pq Pe ⟨x, s, n, v0, h0, t, kinds, kept, rfl, hx, s0, hk, ht, h⟩
  have hi := kind_at s0 hk
  cases t with
  | none =>
    refine VS.pure ?_
    unfold t_Watcher_is_test
    simp [u_Watcher_is_test_1, tsD]
    exact VS.pure h
  | some i =>
    have h2 : i ≤ h0 - 1 := by have := ht.2; omega
    rcases hx with hx | ⟨l, k, hx, hl⟩
    · refine VS.opW hx fun l k T w => ?_
      unfold t_Watcher_is_test
      simp [u_Watcher_is_test_1, tsD, w.hx, w.hl, hi, ht.1, h2]
      exact w.shut hx h
    · refine VS.pure ?_
      unfold t_Watcher_is_test
      simp [u_Watcher_is_test_1, tsD, hx, hl, hi, ht.1, h2]
      exact VS.pure h
theorem dfn_Watcher_is_test {P : Program} {w : World} {K : PySem.W.Frag} {mg : Str → Option Value} {base : Heap} {f : Addr} {fd : FuncData} (F : Fun K "is_test" "Watcher.is_test" s_Watcher_is_test f fd) {C_Watcher : Addr} (kl_Watcher : KlG K mg "Watcher" C_Watcher) (z_str : mg "str" = none) (z_isinstance : mg "isinstance" = none) (na_Watcher_kinds : NoAttr K C_Watcher "kinds") (C_is_integer : Cal P w K mg base 1 "is_integer" p_is_integer sp_is_integer) : DFn P w K mg base 2 f fd p_Watcher_is_test sp_Watcher_is_test :=
  Fun.okD (k := 1) (t := t_Watcher_is_test ⟨K, w, mg⟩) F sc_Watcher_is_test len_Watcher_is_test (fun cdv A outer s H Pe E hgd hr px =>
  (dss_cons (ds_if (dt_val (de_callB cg_isi (by rfl) z_isinstance (by decide +kernel) (da_cons (dv 2) (da_cons (de_gty z_str (by decide +kernel)) da_nil))))
  (dss_one (ds_ret (de_cmp (c_eq (units_64 hr)) (dv 2) de_str)))
  dss_nil)
  (dss_one (ds_ret (de_fn C_is_integer hgd hr (da_cons (dv 2) (da_cons de_int (da_cons (de_op o_sub (de_ix (de_ix (de_fld kl_Watcher na_Watcher_kinds (dv 0)) (dv 1)) de_int) de_int) da_nil)))))))) (hsp_Watcher_is_test ⟨K, w, mg⟩)
theorem ok_Watcher_is_test {P : Program} {w : World} {K : PySem.W.Frag} {mg : Str → Option Value} {base : Heap} {C_Watcher : Addr} (kl_Watcher : KlG K mg "Watcher" C_Watcher) (z_str : mg "str" = none) (z_isinstance : mg "isinstance" = none) (na_Watcher_kinds : NoAttr K C_Watcher "kinds") (C_is_integer : Cal P w K mg base 1 "is_integer" p_is_integer sp_is_integer) (D : DefM K C_Watcher "is_test" "Watcher.is_test" s_Watcher_is_test) : CalM P w K mg base 2 "Watcher" "is_test" p_Watcher_is_test sp_Watcher_is_test :=
  let ⟨f, fd, F, hm⟩ := D.ex
  ⟨C_Watcher, f, fd, kl_Watcher, hm, F.binds (ps := p_Watcher_is_test) fun _ _ _ _ _ _ us hl => match us, hl with | [_, _, _], _ => rfl, dfn_Watcher_is_test F kl_Watcher z_str z_isinstance na_Watcher_kinds C_is_integer⟩
theorem enum_map {α : Type} (f : α → Dv) (s : List α) : ((s.map f).zipIdx.map fun p => Dv.tup [.int (p.2 : Nat), p.1]) = s.zipIdx.map fun p => Dv.tup [.int (p.2 : Nat), f p.1] := by
  simp [List.zipIdx_map]
theorem zipIdx_at {α : Type} {s : List α} {i : Nat} {x : α × Nat} (h : s.zipIdx[i]? = some x) : x.2 = i ∧ s[i]? = some x.1 := by
  rw [List.getElem?_zipIdx] at h
  obtain ⟨y, hy, rfl⟩ := Option.map_eq_some_iff.mp h
  exact ⟨by simp, hy⟩
theorem srD_inj {a b : Option Int} (h : srD a = srD b) : a = b := by
  cases a <;> cases b <;> simp_all [srD]
theorem ok_value : PyData.strOk (Str.ofString "value") = true := strOk_lit _
theorem plains_sr (vs : List (Option Int)) : plains (vs.map srD) = true ∧ deps (vs.map srD) = 0 := by
  induction vs with
  | nil => simp [plains, deps]
  | cons n ns ih => cases n <;> simp [plains, plain, deps, dep, srD, ih, ok_value]
theorem srD_mem {q : Option Int} {vs : List (Option Int)} : srD q ∈ vs.map srD ↔ q ∈ vs := by
  rw [List.mem_map]
  exact ⟨fun ⟨a, ha, e⟩ => srD_inj e ▸ ha, fun h => ⟨q, h, rfl⟩⟩
theorem gIn_sr {f : Bool → Bool} {q : Option Int} {vs : List (Option Int)} {S : Store} {P : DK} : gInF f (srD q) (.tup (vs.map srD)) S P ↔ P (.bl (f (decide (q ∈ vs)))) S := by
  rw [gInF_tup (by cases q <;> simp [srD, plain, ok_value]) (plains_sr vs).1 (by cases q <;> simp [srD, dep]) (by rw [(plains_sr vs).2]; simp)]
  simp only [srD_mem]
theorem nodup_take {α : Type} {s : List α} (h : s.Nodup) {i : Nat} {x : α} (hx : s[i]? = some x) : x ∉ s.take i := by
  intro hm
  obtain ⟨j, hj, e⟩ := List.mem_take_iff_getElem.mp hm
  obtain ⟨h1, h2⟩ := List.getElem?_eq_some_iff.mp hx
  have hne := List.pairwise_iff_getElem.mp h j i (by omega) h1 (by omega)
  exact hne (e.trans h2.symm)
abbrev s_Watcher_are_sources : Stmt := inClass (top 23) 6
abbrev n_Watcher_are_sources : List Str := ["self", "state", "test", "target", "value", "index", "source"]
abbrev p_Watcher_are_sources : List Str := ["self", "state", "test", "target", "value"]
theorem sc_Watcher_are_sources : FnScope n_Watcher_are_sources p_Watcher_are_sources (defScope s_Watcher_are_sources) := ⟨rfl, rfl, rfl, by decide +kernel, rfl, by decide +kernel, by decide +kernel⟩
-- return False
@[simp] def u_Watcher_are_sources_2 (K : Kw) (Pe : DX) : DTS :=
  (dRet (dC (.bl false)))
-- return False
@[simp] def u_Watcher_are_sources_6 (K : Kw) (Pe : DX) : DTS :=
  (dRet (dC (.bl false)))
-- if source != 'value' or test != 'new':
@[simp] def u_Watcher_are_sources_5 (K : Kw) (Pe : DX) : DTS :=
  (dIfS (dOr (dB (dBin (gEqF not) (dVar 6) (dC (.str "value")))) (dB (dBin (gEqF not) (dVar 2) (dC (.str "new")))))
  (u_Watcher_are_sources_6 K Pe)
  dNext)
-- return False
@[simp] def u_Watcher_are_sources_8 (K : Kw) (Pe : DX) : DTS :=
  (dRet (dC (.bl false)))
-- if not is_integer(source, 0, self.kinds[state][1] - 1):
@[simp] def u_Watcher_are_sources_7 (K : Kw) (Pe : DX) : DTS :=
  (dIfS (dNot (dB (dCall sp_is_integer X0 (dCons (dVar 6) (dCons (dC (.int 0)) (dCons (dBin gSub (dBin gIx (dBin gIx (dFld "Watcher" "kinds" (dVar 0)) (dVar 1)) (dC (.int 1))) (dC (.int 1))) dNil))))))
  (u_Watcher_are_sources_8 K Pe)
  dNext)
-- return False
@[simp] def u_Watcher_are_sources_10 (K : Kw) (Pe : DX) : DTS :=
  (dRet (dC (.bl false)))
-- if source in value[:index]:
@[simp] def u_Watcher_are_sources_9 (K : Kw) (Pe : DX) : DTS :=
  (dIfS (dB (dBin (gInF id) (dVar 6) (dSl (dVar 4) dNoPart (dPart (dVar 5)))))
  (u_Watcher_are_sources_10 K Pe)
  dNext)
-- if isinstance(source, str):
def u_Watcher_are_sources_4 (K : Kw) (Pe : DX) : DTS :=
  (dSeq (dIfS (dB (dCB gIsi (dCons (dVar 6) (dCons (dC (.ty "str")) dNil))))
  (u_Watcher_are_sources_5 K Pe)
  (u_Watcher_are_sources_7 K Pe))
  (u_Watcher_are_sources_9 K Pe))
-- return True
@[simp] def u_Watcher_are_sources_11 (K : Kw) (Pe : DX) : DTS :=
  (dRet (dC (.bl true)))
-- for index, source in enumerate(value):
def u_Watcher_are_sources_3 (K : Kw) (Pe : DX) : DTS :=
  (dSeq (dFor (dIE (dCons (dVar 4) dNil)) (.tp [(.nm 5), (.nm 6)])
  (u_Watcher_are_sources_4 K Pe))
  (u_Watcher_are_sources_11 K Pe))
-- if not isinstance(value, tuple) or len(value) != self.kinds[target][1]:
def u_Watcher_are_sources_1 (K : Kw) (Pe : DX) : DTS :=
  (dSeq (dIfS (dOr (dNot (dB (dCB gIsi (dCons (dVar 4) (dCons (dC (.ty "tuple")) dNil))))) (dB (dBin (gEqF not) (dCB gLenA (dCons (dVar 4) dNil)) (dBin gIx (dBin gIx (dFld "Watcher" "kinds" (dVar 0)) (dVar 3)) (dC (.int 1))))))
  (u_Watcher_are_sources_2 K Pe)
  dNext)
  (u_Watcher_are_sources_3 K Pe))
abbrev t_Watcher_are_sources (K : Kw) (Pe : DX) : DTS := (u_Watcher_are_sources_1 K Pe)
def srOk (h : Int) (t : Option Int) : Option Int → Prop | none => t = none | some i => 0 ≤ i ∧ i < h
def sp_Watcher_are_sources : DSp := fun ds S Pq _ => ∃ (x : Addr) (s g n v0 h0 v1 : Int) (t : Option Int) (vs : List (Option Int)) (kinds : List (Int × Int)) (kept : List (Ru × Tg)), ds = [.ref x, .int s, tsD t, .int g, .tup (vs.map srD)] ∧ S x = some (watO n kinds kept) ∧ 0 ≤ s ∧ kinds[s.toNat]? = some (v0, h0) ∧ 0 ≤ g ∧ kinds[g.toNat]? = some (v1, (vs.length : Int)) ∧ (∀ q ∈ vs, srOk h0 t q) ∧ vs.Nodup ∧ Pq (.bl true) S
theorem len_Watcher_are_sources : ∀ ds S Pq Pe, sp_Watcher_are_sources ds S Pq Pe → ds.length = p_Watcher_are_sources.length := fun _ _ _ _ ⟨_, _, _, _, _, _, _, _, _, _, _, h, _⟩ => by subst h; rfl
theorem hsp_Watcher_are_sources (K : Kw) : ∀ ds S Pq Pe, sp_Watcher_are_sources ds S Pq Pe → dsp K n_Watcher_are_sources (t_Watcher_are_sources K) ds S Pq Pe := by
  rintro ds S Pq Pe ⟨x, s, g, n, v0, h0, v1, t, vs, kinds, kept, rfl, hx, s0, hk, g0, hg, hs, hd, h⟩
  have hi := kind_at s0 hk
  have hj := kind_at g0 hg
  refine VS.opW hx fun l k T w => ?_
  unfold t_Watcher_are_sources
  simp [u_Watcher_are_sources_1, u_Watcher_are_sources_3, w.hx, w.hl, hi, hj, -List.map_map]
  rw [enum_map]
  refine forL_enc (fun p : Option Int × Nat => Dv.tup [.int (p.2 : Nat), srD p.1]) (fun _ δ S1 => S1 = T ∧ ∃ a b, δ = [some (Dv.ref x), some (Dv.int s), some (tsD t), some (Dv.int g), some (Dv.tup (List.map srD vs)), a, b]) ⟨rfl, none, none, rfl⟩ ?_ ?_
  · rintro i ⟨q, j⟩ δ S1 hq ⟨rfl, a, b, rfl⟩ N hN
    obtain ⟨e1, e2⟩ := zipIdx_at hq
    simp at e1 e2
    subst e1
    have e3 := nodup_take hd e2
    have e4 := hs q (List.mem_of_getElem? e2)
    have e5 : (vs.map srD).take j = (vs.take j).map srD := List.map_take.symm
    have hN2 := hN _ _ ⟨rfl, some (.int (j : Nat)), some (srD q), rfl⟩
    cases q with
    | none =>
      have e6 : t = none := e4
      subst e6
      have g1 := @gIn_sr (q := none)
      have e7 : srD none = .str "value" := rfl
      rw [e7] at g1
      simp [u_Watcher_are_sources_4, u_Watcher_are_sources_5, e7, tsD, cut_toI, -List.map_take, e5, g1, e3]
      exact hN2
    | some k =>
      have g1 := @gIn_sr (q := some k)
      have e7 : srD (some k) = .int k := rfl
      rw [e7] at g1
      have h2 : k ≤ h0 - 1 := by have := e4.2; omega
      simp [u_Watcher_are_sources_4, u_Watcher_are_sources_7, e7, w.hx, w.hl, hi, e4.1, h2, cut_toI, -List.map_take, e5, g1, e3]
      exact hN2
  · rintro δ S1 ⟨rfl, a, b, rfl⟩
    simp
    exact w.shut hx h
theorem dfn_Watcher_are_sources {P : Program} {w : World} {K : PySem.W.Frag} {mg : Str → Option Value} {base : Heap} {f : Addr} {fd : FuncData} (F : Fun K "are_sources" "Watcher.are_sources" s_Watcher_are_sources f fd) {C_Watcher : Addr} (kl_Watcher : KlG K mg "Watcher" C_Watcher) (z_tuple : mg "tuple" = none) (z_isinstance : mg "isinstance" = none) (z_len : mg "len" = none) (na_Watcher_kinds : NoAttr K C_Watcher "kinds") (z_enumerate : mg "enumerate" = none) (z_str : mg "str" = none) (C_is_integer : Cal P w K mg base 1 "is_integer" p_is_integer sp_is_integer) : DFn P w K mg base 2 f fd p_Watcher_are_sources sp_Watcher_are_sources :=
  Fun.okD (k := 1) (t := t_Watcher_are_sources ⟨K, w, mg⟩) F sc_Watcher_are_sources len_Watcher_are_sources (fun cdv A outer s H Pe E hgd hr px =>
  (dss_cons (ds_if (L2.PW.pt (dw_or (dt_not (dt_val (de_callB cg_isi (by rfl) z_isinstance (by decide +kernel) (da_cons (dv 4) (da_cons (de_gty z_tuple (by decide +kernel)) da_nil))))) (dw_or1 (dt_cmp (c_ne (units_64 hr)) (de_callB cg_lenA (by rfl) z_len (by decide +kernel) (da_cons (dv 4) da_nil)) (de_ix (de_ix (de_fld kl_Watcher na_Watcher_kinds (dv 0)) (dv 3)) de_int)))))
  (dss_one (ds_ret de_bl))
  dss_nil)
  (dss_cons (ds_for (passes_of rfl) rfl (di_enumT (by rfl) z_enumerate (da_cons (dv 4) da_nil)) (dp_tp rfl (dps_cons (dp_nm sc_Watcher_are_sources.nd) (dps_cons (dp_nm sc_Watcher_are_sources.nd) dps_nil)))
  (dss_cons (ds_if (dt_val (de_callB cg_isi (by rfl) z_isinstance (by decide +kernel) (da_cons (dv 6) (da_cons (de_gty z_str (by decide +kernel)) da_nil))))
  (dss_one (ds_if (L2.PW.pt (dw_or (dt_cmp (c_ne (units_64 hr)) (dv 6) de_str) (dw_or1 (dt_cmp (c_ne (units_64 hr)) (dv 2) de_str))))
  (dss_one (ds_ret de_bl))
  dss_nil))
  (dss_one (ds_if (dt_not (dt_val (de_fn C_is_integer hgd hr (da_cons (dv 6) (da_cons de_int (da_cons (de_op o_sub (de_ix (de_ix (de_fld kl_Watcher na_Watcher_kinds (dv 0)) (dv 1)) de_int) de_int) da_nil))))))
  (dss_one (ds_ret de_bl))
  dss_nil)))
  (dss_one (ds_if (dt_cmp (c_in (units_65 hr)) (dv 6) (de_sl (dv 4) do_none (do_some (dv 5))))
  (dss_one (ds_ret de_bl))
  dss_nil))))
  (dss_one (ds_ret de_bl))))) (hsp_Watcher_are_sources ⟨K, w, mg⟩)
theorem ok_Watcher_are_sources {P : Program} {w : World} {K : PySem.W.Frag} {mg : Str → Option Value} {base : Heap} {C_Watcher : Addr} (kl_Watcher : KlG K mg "Watcher" C_Watcher) (z_tuple : mg "tuple" = none) (z_isinstance : mg "isinstance" = none) (z_len : mg "len" = none) (na_Watcher_kinds : NoAttr K C_Watcher "kinds") (z_enumerate : mg "enumerate" = none) (z_str : mg "str" = none) (C_is_integer : Cal P w K mg base 1 "is_integer" p_is_integer sp_is_integer) (D : DefM K C_Watcher "are_sources" "Watcher.are_sources" s_Watcher_are_sources) : CalM P w K mg base 2 "Watcher" "are_sources" p_Watcher_are_sources sp_Watcher_are_sources :=
  let ⟨f, fd, F, hm⟩ := D.ex
  ⟨C_Watcher, f, fd, kl_Watcher, hm, F.binds (ps := p_Watcher_are_sources) fun _ _ _ _ _ _ us hl => match us, hl with | [_, _, _, _, _], _ => rfl, dfn_Watcher_are_sources F kl_Watcher z_tuple z_isinstance z_len na_Watcher_kinds z_enumerate z_str C_is_integer⟩

--@cut
/-- a rule that may be added -/
structure RuOk (n : Int) (kinds : List (Int × Int)) (s wd : Int) (t : Option Int) (g : Int) (vs : List (Option Int)) : Prop where
  s0 : 0 ≤ s
  w0 : 0 ≤ wd
  w1 : wd ≤ n - 1
  g0 : 0 ≤ g
  ex : ∃ v0 h0 v1, kinds[s.toNat]? = some (v0, h0) ∧ tsOk h0 t ∧ kinds[g.toNat]? = some (v1, (vs.length : Int)) ∧ ∀ q ∈ vs, srOk h0 t q
  nd : vs.Nodup
theorem tsD_inj {a b : Option Int} (h : tsD a = tsD b) : a = b := by
  cases a <;> cases b <;> simp_all [tsD]
theorem ruD_inj {a b : Ru} (h : ruD a = ruD b) : a = b := by
  obtain ⟨a1, a2, a3⟩ := a
  obtain ⟨b1, b2, b3⟩ := b
  simp [ruD] at h
  obtain ⟨rfl, rfl, h3⟩ := h
  rw [tsD_inj h3]
theorem dval_kept (kept : List (Ru × Tg)) (r : Ru) : dval (kept.map keD) (ruD r) = (kept.lookup r).map tgD := by
  induction kept with
  | nil => rfl
  | cons p ps ih =>
    obtain ⟨q, g⟩ := p
    simp only [List.map_cons, keD, dval, List.lookup_cons]
    by_cases h : q = r
    · subst h; simp
    · have h2 : ¬ ruD q = ruD r := fun e => h (ruD_inj e)
      have h3 : (r == q) = false := by simp [Ne.symm h]
      simp only [h2, h3, if_false]
      exact ih
theorem lookup_none {kept : List (Ru × Tg)} {r : Ru} (h : r ∉ kept.map (·.1)) : kept.lookup r = none := by
  induction kept with
  | nil => rfl
  | cons p ps ih =>
    simp only [List.map_cons, List.mem_cons, not_or] at h
    obtain ⟨q, g⟩ := p
    have h3 : (r == q) = false := by simp [h.1]
    simp only [List.lookup_cons, h3]
    exact ih h.2
theorem dput_kept {kept : List (Ru × Tg)} {r : Ru} (h : r ∉ kept.map (·.1)) (g : Tg) : dput (kept.map keD) (ruD r) (tgD g) = (kept ++ [(r, g)]).map keD := by
  unfold dput
  rw [dval_kept, lookup_none h]
  simp [keD]
theorem kOk_ts (n : Nat) (t : Option Int) : kOk n (tsD t) = true := by cases t <;> simp [tsD]
theorem kOk_sr (n : Nat) (vs : List (Option Int)) : kOks n (vs.map srD) = true := kOks_map fun q _ => by cases q <;> simp [srD]
structure Wf (n : Int) (kinds : List (Int × Int)) (kept : List (Ru × Tg)) : Prop where
  k0 : ∃ v, kinds[0]? = some (v, 0)
  kk : ∀ k ∈ kinds, 0 ≤ k.2 ∧ k.2 ≤ 3
  kl : kinds.length ≤ 6
  rk : ∀ p ∈ kept, RuOk n kinds p.1.1 p.1.2.1 p.1.2.2 p.2.1 p.2.2
theorem gEq_is {f : Bool → Bool} {i : Int} {t : String} {S : Store} {P : DK} : gEqF f (.int i) (.str t) S P ↔ P (.bl (f false)) S := by
  rw [gEqF_plain rfl (by simp [plain, strOk_lit]) (by simp [dep]) (by simp [dep])]
  simp
def ruleFor (kept : List (Ru × Tg)) (s wd : Int) (t : Option Int) (h : Int) : Tg := (kept.lookup (s, wd, t)).getD (s, (List.range h.toNat).map fun (i : Nat) => some (i : Int))

abbrev s_Watcher_add_rule : Stmt := inClass (top 23) 7
abbrev n_Watcher_add_rule : List Str := ["self", "state", "word", "test", "target", "sources", "rule"]
abbrev p_Watcher_add_rule : List Str := ["self", "state", "word", "test", "target", "sources"]
theorem sc_Watcher_add_rule : FnScope n_Watcher_add_rule p_Watcher_add_rule (defScope s_Watcher_add_rule) := ⟨rfl, rfl, rfl, by decide +kernel, rfl, by decide +kernel, by decide +kernel⟩
-- raise NotAWord(word)
@[simp] def u_Watcher_add_rule_4 (K : Kw) (Pe : DX) : DTS :=
  dNever
-- raise InvalidTest(test)
@[simp] def u_Watcher_add_rule_6 (K : Kw) (Pe : DX) : DTS :=
  dNever
-- raise InvalidSources(sources)
@[simp] def u_Watcher_add_rule_8 (K : Kw) (Pe : DX) : DTS :=
  dNever
-- raise RuleExists(rule)
@[simp] def u_Watcher_add_rule_11 (K : Kw) (Pe : DX) : DTS :=
  dNever
-- self.kept[rule] = (target, sources)
@[simp] def u_Watcher_add_rule_12 (K : Kw) (Pe : DX) : DTS :=
  (dNput (dFld "Watcher" "kept" (dVar 0)) (dVar 6) (dTup (dCons (dVar 4) (dCons (dVar 5) dNil))))
-- if rule in self.kept:
def u_Watcher_add_rule_10 (K : Kw) (Pe : DX) : DTS :=
  (dSeq (dIfS (dB (dNin id (dVar 6) (dFld "Watcher" "kept" (dVar 0))))
  (u_Watcher_add_rule_11 K Pe)
  dNext)
  (u_Watcher_add_rule_12 K Pe))
-- rule = (state, word, test)
def u_Watcher_add_rule_9 (K : Kw) (Pe : DX) : DTS :=
  (dSeq (dSet 6 (dTup (dCons (dVar 1) (dCons (dVar 2) (dCons (dVar 3) dNil)))))
  (u_Watcher_add_rule_10 K Pe))
-- if not self.are_sources(state, test, target, sources):
def u_Watcher_add_rule_7 (K : Kw) (Pe : DX) : DTS :=
  (dSeqV K (dIfS (dNot (dB (dMeth "Watcher" "are_sources" sp_Watcher_are_sources X0 (dVar 0) (dCons (dVar 1) (dCons (dVar 3) (dCons (dVar 4) (dCons (dVar 5) dNil)))))))
  (u_Watcher_add_rule_8 K Pe)
  dNext)
  (u_Watcher_add_rule_9 K Pe))
-- if not self.is_test(state, test):
def u_Watcher_add_rule_5 (K : Kw) (Pe : DX) : DTS :=
  (dSeq (dIfS (dNot (dB (dMeth "Watcher" "is_test" sp_Watcher_is_test X0 (dVar 0) (dCons (dVar 1) (dCons (dVar 3) dNil)))))
  (u_Watcher_add_rule_6 K Pe)
  dNext)
  (u_Watcher_add_rule_7 K Pe))
-- if not is_integer(word, 0, self.words - 1):
def u_Watcher_add_rule_3 (K : Kw) (Pe : DX) : DTS :=
  (dSeqV K (dIfS (dNot (dB (dCall sp_is_integer X0 (dCons (dVar 2) (dCons (dC (.int 0)) (dCons (dBin gSub (dFld "Watcher" "words" (dVar 0)) (dC (.int 1))) dNil))))))
  (u_Watcher_add_rule_4 K Pe)
  dNext)
  (u_Watcher_add_rule_5 K Pe))
-- self.require_state(target)
def u_Watcher_add_rule_2 (K : Kw) (Pe : DX) : DTS :=
  (dSeqV K (dDrop (dMeth "Watcher" "require_state" sp_Watcher_require_state X0 (dVar 0) (dCons (dVar 4) dNil)))
  (u_Watcher_add_rule_3 K Pe))
-- self.require_state(state)
def u_Watcher_add_rule_1 (K : Kw) (Pe : DX) : DTS :=
  (dSeq (dDrop (dMeth "Watcher" "require_state" sp_Watcher_require_state X0 (dVar 0) (dCons (dVar 1) dNil)))
  (u_Watcher_add_rule_2 K Pe))
abbrev t_Watcher_add_rule (K : Kw) (Pe : DX) : DTS := (u_Watcher_add_rule_1 K Pe)
def sp_Watcher_add_rule : DSp := fun ds S Pq _ => ∃ (x : Addr) (s wd : Int) (t : Option Int) (g : Int) (vs : List (Option Int)) (n : Int) (kinds : List (Int × Int)) (kept : List (Ru × Tg)), ds = [.ref x, .int s, .int wd, tsD t, .int g, .tup (vs.map srD)] ∧ S x = some (watO n kinds kept) ∧ RuOk n kinds s wd t g vs ∧ (s, wd, t) ∉ kept.map (·.1) ∧ kept.length < 1000 ∧ Pq .non (up S x (watO n kinds (kept ++ [((s, wd, t), (g, vs))])))
theorem len_Watcher_add_rule : ∀ ds S Pq Pe, sp_Watcher_add_rule ds S Pq Pe → ds.length = p_Watcher_add_rule.length := fun _ _ _ _ ⟨_, _, _, _, _, _, _, _, _, h, _⟩ => by subst h; rfl
theorem hsp_Watcher_add_rule (K : Kw) : ∀ ds S Pq Pe, sp_Watcher_add_rule ds S Pq Pe → dsp K n_Watcher_add_rule (t_Watcher_add_rule K) ds S Pq Pe := by
  rintro ds S Pq Pe ⟨x, s, wd, t, g, vs, n, kinds, kept, rfl, hx, ho, hn, hlen, h⟩
  obtain ⟨v0, h0, v1, hk, ht, hg, hs⟩ := ho.ex
  refine VS.pure ?_
  unfold t_Watcher_add_rule
  simp [u_Watcher_add_rule_1, hx]
  refine rs_mk hx ho.s0 (kind_lt ho.s0 hk) ?_
  simp [u_Watcher_add_rule_2, hx]
  refine rs_mk hx ho.g0 (kind_lt ho.g0 hg) ?_
  refine VS.opW hx fun l k T w => ?_
  simp [u_Watcher_add_rule_3, w.hx, ho.w0, ho.w1]
  refine w.shut hx ?_
  simp [u_Watcher_add_rule_5, hx]
  refine ⟨x, s, n, v0, h0, t, kinds, kept, rfl, .inl hx, ho.s0, hk, ht, ?_⟩
  simp [u_Watcher_add_rule_7, hx]
  refine ⟨x, s, g, n, v0, h0, v1, t, vs, kinds, kept, rfl, hx, ho.s0, hk, ho.g0, hg, hs, ho.nd, rfl, ?_⟩
  refine VS.opW hx fun l k T w => ?_
  have e1 : Dv.tup [Dv.int s, Dv.int wd, tsD t] = ruD (s, wd, t) := rfl
  have e2 : Dv.tup [Dv.int g, Dv.tup (vs.map srD)] = tgD (g, vs) := rfl
  have e3 : dval (kept.map keD) (ruD (s, wd, t)) = none := by rw [dval_kept, lookup_none hn]; rfl
  simp [u_Watcher_add_rule_9, u_Watcher_add_rule_10, w.hx, w.hk, kOk_ts, e1, e2, e3, dput_kept hn]
  have w2 := w.setK (kept' := kept ++ [((s, wd, t), (g, vs))])
  simp only [List.map_append, List.map_cons, List.map_nil] at w2
  exact ⟨by simp [ruD, kOk_ts], by omega, w2.close h⟩
theorem dfn_Watcher_add_rule {P : Program} {w : World} {K : PySem.W.Frag} {mg : Str → Option Value} {base : Heap} {f : Addr} {fd : FuncData} (F : Fun K "add_rule" "Watcher.add_rule" s_Watcher_add_rule f fd) {C_Watcher : Addr} (kl_Watcher : KlG K mg "Watcher" C_Watcher) (C_Watcher_require_state : CalM P w K mg base 2 "Watcher" "require_state" p_Watcher_require_state sp_Watcher_require_state) (na_Watcher_words : NoAttr K C_Watcher "words") (C_is_integer : Cal P w K mg base 1 "is_integer" p_is_integer sp_is_integer) (C_Watcher_is_test : CalM P w K mg base 2 "Watcher" "is_test" p_Watcher_is_test sp_Watcher_is_test) (C_Watcher_are_sources : CalM P w K mg base 2 "Watcher" "are_sources" p_Watcher_are_sources sp_Watcher_are_sources) (na_Watcher_kept : NoAttr K C_Watcher "kept") : DFn P w K mg base 4 f fd p_Watcher_add_rule sp_Watcher_add_rule :=
  Fun.okD (k := 3) (t := t_Watcher_add_rule ⟨K, w, mg⟩) F sc_Watcher_add_rule len_Watcher_add_rule (fun cdv A outer s H Pe E hgd hr px =>
  (dss_cons (ds_expr (de_meth C_Watcher_require_state hgd hr (dv 0) (da_cons (dv 1) da_nil)))
  (dss_consV (ds_expr (de_meth C_Watcher_require_state hgd hr (dv 0) (da_cons (dv 4) da_nil)))
  (dss_consV (ds_if (dt_not (dt_val (de_fn C_is_integer hgd hr (da_cons (dv 2) (da_cons de_int (da_cons (de_op o_sub (de_fld kl_Watcher na_Watcher_words (dv 0)) de_int) da_nil))))))
  (dss_one ds_never)
  dss_nil)
  (dss_cons (ds_if (dt_not (dt_val (de_meth C_Watcher_is_test hgd hr (dv 0) (da_cons (dv 1) (da_cons (dv 3) da_nil)))))
  (dss_one ds_never)
  dss_nil)
  (dss_consV (ds_if (dt_not (dt_val (de_meth C_Watcher_are_sources hgd hr (dv 0) (da_cons (dv 1) (da_cons (dv 3) (da_cons (dv 4) (da_cons (dv 5) da_nil)))))))
  (dss_one ds_never)
  dss_nil)
  (dss_cons (ds_set sc_Watcher_add_rule.nd (de_tup (da_cons (dv 1) (da_cons (dv 2) (da_cons (dv 3) da_nil)))))
  (dss_cons (ds_if (dt_nin (units_64 hr) (dv 6) (de_fld kl_Watcher na_Watcher_kept (dv 0)))
  (dss_one ds_never)
  dss_nil)
  (dss_one (ds_nput (units_64 hr) (de_fld kl_Watcher na_Watcher_kept (dv 0)) (dv 6) (de_tup (da_cons (dv 4) (da_cons (dv 5) da_nil))))))))))))) (hsp_Watcher_add_rule ⟨K, w, mg⟩)
theorem ok_Watcher_add_rule {P : Program} {w : World} {K : PySem.W.Frag} {mg : Str → Option Value} {base : Heap} {C_Watcher : Addr} (kl_Watcher : KlG K mg "Watcher" C_Watcher) (C_Watcher_require_state : CalM P w K mg base 2 "Watcher" "require_state" p_Watcher_require_state sp_Watcher_require_state) (na_Watcher_words : NoAttr K C_Watcher "words") (C_is_integer : Cal P w K mg base 1 "is_integer" p_is_integer sp_is_integer) (C_Watcher_is_test : CalM P w K mg base 2 "Watcher" "is_test" p_Watcher_is_test sp_Watcher_is_test) (C_Watcher_are_sources : CalM P w K mg base 2 "Watcher" "are_sources" p_Watcher_are_sources sp_Watcher_are_sources) (na_Watcher_kept : NoAttr K C_Watcher "kept") (D : DefM K C_Watcher "add_rule" "Watcher.add_rule" s_Watcher_add_rule) : CalM P w K mg base 4 "Watcher" "add_rule" p_Watcher_add_rule sp_Watcher_add_rule :=
  let ⟨f, fd, F, hm⟩ := D.ex
  ⟨C_Watcher, f, fd, kl_Watcher, hm, F.binds (ps := p_Watcher_add_rule) fun _ _ _ _ _ _ us hl => match us, hl with | [_, _, _, _, _, _], _ => rfl, dfn_Watcher_add_rule F kl_Watcher C_Watcher_require_state na_Watcher_words C_is_integer C_Watcher_is_test C_Watcher_are_sources na_Watcher_kept⟩
abbrev s_Watcher_verdicts : Stmt := inClass (top 23) 10
abbrev n_Watcher_verdicts : List Str := ["self", "verdict", "held"]
abbrev p_Watcher_verdicts : List Str := ["self"]
theorem sc_Watcher_verdicts : FnScope n_Watcher_verdicts p_Watcher_verdicts (defScope s_Watcher_verdicts) := ⟨rfl, rfl, rfl, by decide +kernel, rfl, by decide +kernel, by decide +kernel⟩
-- return tuple([verdict for verdict, held in self.kinds])
@[simp] def u_Watcher_verdicts_1 (K : Kw) (Pe : DX) : DTS :=
  (dRet (dCB gTuple (dCons (dLc (dIL (dFld "Watcher" "kinds" (dVar 0))) (.tp [(.nm 1), (.nm 2)]) dYes (dVar 1) [1, 2]) dNil)))
abbrev t_Watcher_verdicts (K : Kw) (Pe : DX) : DTS := (u_Watcher_verdicts_1 K Pe)
def sp_Watcher_verdicts : DSp := fun ds S Pq _ => ∃ (x : Addr) (n : Int) (kinds : List (Int × Int)) (kept : List (Ru × Tg)), ds = [.ref x] ∧ S x = some (watO n kinds kept) ∧ kinds.length ≤ 6 ∧ Pq (.tup (kinds.map fun k => .int k.1)) S
theorem len_Watcher_verdicts : ∀ ds S Pq Pe, sp_Watcher_verdicts ds S Pq Pe → ds.length = p_Watcher_verdicts.length := fun _ _ _ _ ⟨_, _, _, _, h, _⟩ => by subst h; rfl
theorem hsp_Watcher_verdicts (K : Kw) : ∀ ds S Pq Pe, sp_Watcher_verdicts ds S Pq Pe → dsp K n_Watcher_verdicts (t_Watcher_verdicts K) ds S Pq Pe := by
  rintro ds S Pq Pe ⟨x, n, kinds, kept, rfl, hx, hl, h⟩
  refine VS.opW hx fun l k T w => ?_
  unfold t_Watcher_verdicts
  simp [u_Watcher_verdicts_1]
  refine lc_mk ?_
  simp [w.hx, w.hl]
  intro D hD
  refine lcRun_all mD (fun y => Dv.int y.1) kinds (by omega) (fun acc => ?_) (fun x hx => ⟨_, rfl, fun acc N hN => ?_⟩) ?_
  · rw [up_ne (some_ne w.hl hD)]; exact w.hl
  · simp
    exact hN
  · simp
    exact (w.new hD).shut hx h
theorem dfn_Watcher_verdicts {P : Program} {w : World} {K : PySem.W.Frag} {mg : Str → Option Value} {base : Heap} {f : Addr} {fd : FuncData} (F : Fun K "verdicts" "Watcher.verdicts" s_Watcher_verdicts f fd) {C_Watcher : Addr} (kl_Watcher : KlG K mg "Watcher" C_Watcher) (na_Watcher_kinds : NoAttr K C_Watcher "kinds") (z_tuple : mg "tuple" = none) : DFn P w K mg base 2 f fd p_Watcher_verdicts sp_Watcher_verdicts :=
  Fun.okD (k := 1) (t := t_Watcher_verdicts ⟨K, w, mg⟩) F sc_Watcher_verdicts len_Watcher_verdicts (fun cdv A outer s H Pe E hgd hr px =>
  (dss_one (ds_ret (de_callTy cg_tuple (by rfl) z_tuple (by decide +kernel) (da_cons (de_lc (own := [("verdict", 1), ("held", 2)]) rfl sc_Watcher_verdicts.nd (di_list (de_fld kl_Watcher na_Watcher_kinds (dv 0))) (blkOk_by (own := [("verdict", 1), ("held", 2)]) (N := n_Watcher_verdicts) (sc := defScope s_Watcher_verdicts) (by decide +kernel)) (fun _ _ _ _ _ => (dp_tp rfl (dps_cons (dp_nm sc_Watcher_verdicts.nd) (dps_cons (dp_nm sc_Watcher_verdicts.nd) dps_nil)))) (fun _ _ _ _ _ => dts_nil) (fun _ _ _ _ _ => (dv 1))) da_nil))))) (hsp_Watcher_verdicts ⟨K, w, mg⟩)
theorem ok_Watcher_verdicts {P : Program} {w : World} {K : PySem.W.Frag} {mg : Str → Option Value} {base : Heap} {C_Watcher : Addr} (kl_Watcher : KlG K mg "Watcher" C_Watcher) (na_Watcher_kinds : NoAttr K C_Watcher "kinds") (z_tuple : mg "tuple" = none) (D : DefM K C_Watcher "verdicts" "Watcher.verdicts" s_Watcher_verdicts) : CalM P w K mg base 2 "Watcher" "verdicts" p_Watcher_verdicts sp_Watcher_verdicts :=
  let ⟨f, fd, F, hm⟩ := D.ex
  ⟨C_Watcher, f, fd, kl_Watcher, hm, F.binds (ps := p_Watcher_verdicts) fun _ _ _ _ _ _ us hl => match us, hl with | [_], _ => rfl, dfn_Watcher_verdicts F kl_Watcher na_Watcher_kinds z_tuple⟩


--@cut
abbrev s_Watcher_held_counts : Stmt := inClass (top 23) 11
abbrev n_Watcher_held_counts : List Str := ["self", "verdict", "held"]
abbrev p_Watcher_held_counts : List Str := ["self"]
theorem sc_Watcher_held_counts : FnScope n_Watcher_held_counts p_Watcher_held_counts (defScope s_Watcher_held_counts) := ⟨rfl, rfl, rfl, by decide +kernel, rfl, by decide +kernel, by decide +kernel⟩
-- return tuple([held for verdict, held in self.kinds])
@[simp] def u_Watcher_held_counts_1 (K : Kw) (Pe : DX) : DTS :=
  (dRet (dCB gTuple (dCons (dLc (dIL (dFld "Watcher" "kinds" (dVar 0))) (.tp [(.nm 1), (.nm 2)]) dYes (dVar 2) [1, 2]) dNil)))
abbrev t_Watcher_held_counts (K : Kw) (Pe : DX) : DTS := (u_Watcher_held_counts_1 K Pe)
def sp_Watcher_held_counts : DSp := fun ds S Pq _ => ∃ (x : Addr) (n : Int) (kinds : List (Int × Int)) (kept : List (Ru × Tg)), ds = [.ref x] ∧ S x = some (watO n kinds kept) ∧ kinds.length ≤ 6 ∧ Pq (.tup (kinds.map fun k => .int k.2)) S
theorem len_Watcher_held_counts : ∀ ds S Pq Pe, sp_Watcher_held_counts ds S Pq Pe → ds.length = p_Watcher_held_counts.length := fun _ _ _ _ ⟨_, _, _, _, h, _⟩ => by subst h; rfl
theorem hsp_Watcher_held_counts (K : Kw) : ∀ ds S Pq Pe, sp_Watcher_held_counts ds S Pq Pe → dsp K n_Watcher_held_counts (t_Watcher_held_counts K) ds S Pq Pe := by
  rintro ds S Pq Pe ⟨x, n, kinds, kept, rfl, hx, hl, h⟩
  refine VS.opW hx fun l k T w => ?_
  unfold t_Watcher_held_counts
  simp [u_Watcher_held_counts_1]
  refine lc_mk ?_
  simp [w.hx, w.hl]
  intro D hD
  refine lcRun_all mD (fun y => Dv.int y.2) kinds (by omega) (fun acc => ?_) (fun x hx => ⟨_, rfl, fun acc N hN => ?_⟩) ?_
  · rw [up_ne (some_ne w.hl hD)]; exact w.hl
  · simp
    exact hN
  · simp
    exact (w.new hD).shut hx h
theorem dfn_Watcher_held_counts {P : Program} {w : World} {K : PySem.W.Frag} {mg : Str → Option Value} {base : Heap} {f : Addr} {fd : FuncData} (F : Fun K "held_counts" "Watcher.held_counts" s_Watcher_held_counts f fd) {C_Watcher : Addr} (kl_Watcher : KlG K mg "Watcher" C_Watcher) (na_Watcher_kinds : NoAttr K C_Watcher "kinds") (z_tuple : mg "tuple" = none) : DFn P w K mg base 2 f fd p_Watcher_held_counts sp_Watcher_held_counts :=
  Fun.okD (k := 1) (t := t_Watcher_held_counts ⟨K, w, mg⟩) F sc_Watcher_held_counts len_Watcher_held_counts (fun cdv A outer s H Pe E hgd hr px =>
  (dss_one (ds_ret (de_callTy cg_tuple (by rfl) z_tuple (by decide +kernel) (da_cons (de_lc (own := [("verdict", 1), ("held", 2)]) rfl sc_Watcher_held_counts.nd (di_list (de_fld kl_Watcher na_Watcher_kinds (dv 0))) (blkOk_by (own := [("verdict", 1), ("held", 2)]) (N := n_Watcher_held_counts) (sc := defScope s_Watcher_held_counts) (by decide +kernel)) (fun _ _ _ _ _ => (dp_tp rfl (dps_cons (dp_nm sc_Watcher_held_counts.nd) (dps_cons (dp_nm sc_Watcher_held_counts.nd) dps_nil)))) (fun _ _ _ _ _ => dts_nil) (fun _ _ _ _ _ => (dv 2))) da_nil))))) (hsp_Watcher_held_counts ⟨K, w, mg⟩)
theorem ok_Watcher_held_counts {P : Program} {w : World} {K : PySem.W.Frag} {mg : Str → Option Value} {base : Heap} {C_Watcher : Addr} (kl_Watcher : KlG K mg "Watcher" C_Watcher) (na_Watcher_kinds : NoAttr K C_Watcher "kinds") (z_tuple : mg "tuple" = none) (D : DefM K C_Watcher "held_counts" "Watcher.held_counts" s_Watcher_held_counts) : CalM P w K mg base 2 "Watcher" "held_counts" p_Watcher_held_counts sp_Watcher_held_counts :=
  let ⟨f, fd, F, hm⟩ := D.ex
  ⟨C_Watcher, f, fd, kl_Watcher, hm, F.binds (ps := p_Watcher_held_counts) fun _ _ _ _ _ _ us hl => match us, hl with | [_], _ => rfl, dfn_Watcher_held_counts F kl_Watcher na_Watcher_kinds z_tuple⟩

abbrev s_Watcher_rule_for : Stmt := inClass (top 23) 13
abbrev n_Watcher_rule_for : List Str := ["self", "state", "word", "test"]
abbrev p_Watcher_rule_for : List Str := ["self", "state", "word", "test"]
theorem sc_Watcher_rule_for : FnScope n_Watcher_rule_for p_Watcher_rule_for (defScope s_Watcher_rule_for) := ⟨rfl, rfl, rfl, by decide +kernel, rfl, by decide +kernel, by decide +kernel⟩
-- return self.kept.get((state, word, test), (state, tuple(list(range(self.kinds[state][1])))))
@[simp] def u_Watcher_rule_for_1 (K : Kw) (Pe : DX) : DTS :=
  (dRet (dNget2 (dFld "Watcher" "kept" (dVar 0)) (dTup (dCons (dVar 1) (dCons (dVar 2) (dCons (dVar 3) dNil)))) (dTup (dCons (dVar 1) (dCons (dCB gTuple (dCons (dLstRg (dBin gIx (dBin gIx (dFld "Watcher" "kinds" (dVar 0)) (dVar 1)) (dC (.int 1)))) dNil)) dNil)))))
abbrev t_Watcher_rule_for (K : Kw) (Pe : DX) : DTS := (u_Watcher_rule_for_1 K Pe)
def sp_Watcher_rule_for : DSp := fun ds S Pq _ => ∃ (x : Addr) (s wd : Int) (t : Option Int) (n v0 h0 : Int) (kinds : List (Int × Int)) (kept : List (Ru × Tg)), ds = [.ref x, .int s, .int wd, tsD t] ∧ S x = some (watO n kinds kept) ∧ 0 ≤ s ∧ kinds[s.toNat]? = some (v0, h0) ∧ (0 ≤ h0 ∧ h0 ≤ 3) ∧ Pq (tgD (ruleFor kept s wd t h0)) S
theorem len_Watcher_rule_for : ∀ ds S Pq Pe, sp_Watcher_rule_for ds S Pq Pe → ds.length = p_Watcher_rule_for.length := fun _ _ _ _ ⟨_, _, _, _, _, _, _, _, _, h, _⟩ => by subst h; rfl
theorem hsp_Watcher_rule_for (K : Kw) : ∀ ds S Pq Pe, sp_Watcher_rule_for ds S Pq Pe → dsp K n_Watcher_rule_for (t_Watcher_rule_for K) ds S Pq Pe := by
  rintro ds S Pq Pe ⟨x, s, wd, t, n, v0, h0, kinds, kept, rfl, hx, s0, hk, ⟨hh, hh3⟩, h⟩
  have hi := kind_at s0 hk
  refine VS.opW hx fun l k T w => ?_
  unfold t_Watcher_rule_for
  simp +contextual [u_Watcher_rule_for_1, w.hx, w.hl, w.hk, hi, kOk_ts]
  refine ⟨by omega, by omega, fun q hq => ?_⟩
  have e1 : Dv.tup [Dv.int s, Dv.int wd, tsD t] = ruD (s, wd, t) := rfl
  rw [e1, dval_kept]
  refine (w.new hq).shut hx ?_
  have e2 : (Option.map tgD (kept.lookup (s, wd, t))).getD (Dv.tup [Dv.int s, Dv.tup ((List.range h0.toNat).map fun (i : Nat) => Dv.int i)]) = tgD (ruleFor kept s wd t h0) := by
    unfold ruleFor
    cases kept.lookup (s, wd, t) with
    | some g => rfl
    | none => simp [tgD, srD, Function.comp_def]
  rw [e2]
  exact h
theorem dfn_Watcher_rule_for {P : Program} {w : World} {K : PySem.W.Frag} {mg : Str → Option Value} {base : Heap} {f : Addr} {fd : FuncData} (F : Fun K "rule_for" "Watcher.rule_for" s_Watcher_rule_for f fd) {C_Watcher : Addr} (kl_Watcher : KlG K mg "Watcher" C_Watcher) (na_Watcher_kept : NoAttr K C_Watcher "kept") (z_list : mg "list" = none) (z_range : mg "range" = none) (na_Watcher_kinds : NoAttr K C_Watcher "kinds") (z_tuple : mg "tuple" = none) : DFn P w K mg base 2 f fd p_Watcher_rule_for sp_Watcher_rule_for :=
  Fun.okD (k := 1) (t := t_Watcher_rule_for ⟨K, w, mg⟩) F sc_Watcher_rule_for len_Watcher_rule_for (fun cdv A outer s H Pe E hgd hr px =>
  (dss_one (ds_ret (de_nget2 (units_64 hr) (de_fld kl_Watcher na_Watcher_kept (dv 0)) (de_tup (da_cons (dv 1) (da_cons (dv 2) (da_cons (dv 3) da_nil)))) (de_tup (da_cons (dv 1) (da_cons (de_callTy cg_tuple (by rfl) z_tuple (by decide +kernel) (da_cons (de_listRg (by rfl) (by rfl) z_list (by rfl) z_range (de_ix (de_ix (de_fld kl_Watcher na_Watcher_kinds (dv 0)) (dv 1)) de_int)) da_nil)) da_nil))) ⟨rfl, rfl, rfl, rfl⟩)))) (hsp_Watcher_rule_for ⟨K, w, mg⟩)
theorem ok_Watcher_rule_for {P : Program} {w : World} {K : PySem.W.Frag} {mg : Str → Option Value} {base : Heap} {C_Watcher : Addr} (kl_Watcher : KlG K mg "Watcher" C_Watcher) (na_Watcher_kept : NoAttr K C_Watcher "kept") (z_list : mg "list" = none) (z_range : mg "range" = none) (na_Watcher_kinds : NoAttr K C_Watcher "kinds") (z_tuple : mg "tuple" = none) (D : DefM K C_Watcher "rule_for" "Watcher.rule_for" s_Watcher_rule_for) : CalM P w K mg base 2 "Watcher" "rule_for" p_Watcher_rule_for sp_Watcher_rule_for :=
  let ⟨f, fd, F, hm⟩ := D.ex
  ⟨C_Watcher, f, fd, kl_Watcher, hm, F.binds (ps := p_Watcher_rule_for) fun _ _ _ _ _ _ us hl => match us, hl with | [_, _, _, _], _ => rfl, dfn_Watcher_rule_for F kl_Watcher na_Watcher_kept z_list z_range na_Watcher_kinds z_tuple⟩

--@cut
abbrev prD (p : Int × Int) : Dv := .tup [.int p.1, .int p.2]
theorem Ext.up_new {S S' : Store} {a : Addr} {o : O} (h : Ext S S') (hn : S a = none) : Ext S (up S' a o) := fun b u e => by
  rw [up_ne (fun z => by subst z; rw [hn] at e; cases e)]
  exact h b u e

/-! ### sorted data, reckoned -/
def lexI : List Int → List Int → Bool
  | [], [] => false
  | [], _ :: _ => true
  | _ :: _, [] => false
  | x :: r, y :: t => decide (x < y) || (!decide (y < x) && lexI r t)
theorem lexI_lex : ∀ a b : List Int, PyProof.Rows.lexLt PyProof.Rows.itemOrd (a.map Sum.inl) (b.map Sum.inl) = lexI a b
  | [], [] => rfl
  | [], _ :: _ => rfl
  | _ :: _, [] => rfl
  | x :: r, y :: t => by
    rw [List.map_cons, List.map_cons, PyProof.Rows.lex_cons, lexI_lex r t]
    rfl
structure Coded {α : Type} (enc : α → Dv) (code : α → List Int) : Prop where
  toks : ∀ a, PySem.W.keyToks (toP (enc a)) = (code a).map Sum.inl
  inj : ∀ a b, code a = code b → a = b
section
variable {α : Type} (enc : α → Dv) (code : α → List Int)
def leC (a b : α) : Bool := !lexI (code b) (code a)
def ins (x : α) : List α → List α
  | [] => [x]
  | y :: ys => if lexI (code y) (code x) then y :: ins x ys else x :: y :: ys
def isort (xs : List α) : List α := xs.foldr (ins code) []
variable {enc code}
theorem leC_total : PySem.W.TotalLe (leC code) := by
  have e : leC code = PySem.W.sortLe (PyProof.Rows.listOrd PyProof.Rows.itemOrd) false (fun a => (code a).map Sum.inl) := by
    funext a b
    show (!lexI (code b) (code a)) = !(PyProof.Rows.lexLt PyProof.Rows.itemOrd ((code b).map Sum.inl) ((code a).map Sum.inl))
    rw [lexI_lex]
  rw [e]
  exact PySem.W.sortLe_total _ _ _
theorem ins_perm (x : α) : ∀ ys : List α, (ins code x ys).Perm (x :: ys)
  | [] => .refl _
  | y :: ys => by
    simp only [ins]
    split
    · exact ((ins_perm x ys).cons y).trans (.swap x y ys)
    · exact .refl _
theorem isort_perm : ∀ xs : List α, (isort code xs).Perm xs
  | [] => .refl _
  | x :: xs => (ins_perm x _).trans ((isort_perm xs).cons x)
theorem ins_sorted (x : α) : ∀ ys : List α, ys.Pairwise (fun a b => leC code a b = true) → (ins code x ys).Pairwise (fun a b => leC code a b = true)
  | [], _ => by simp [ins]
  | y :: ys, h => by
    obtain ⟨h1, h2⟩ := List.pairwise_cons.mp h
    simp only [ins]
    split
    · rename_i hlt
      refine List.pairwise_cons.mpr ⟨fun b hb => ?_, ins_sorted x ys h2⟩
      rcases List.mem_cons.mp ((ins_perm x ys).mem_iff.mp hb) with rfl | hb
      · rcases leC_total.total y b with z | z
        · exact z
        · simp [leC, hlt] at z
      · exact h1 b hb
    · rename_i hlt
      have xy : leC code x y = true := by simpa [leC] using hlt
      refine List.pairwise_cons.mpr ⟨fun b hb => ?_, h⟩
      rcases List.mem_cons.mp hb with rfl | hb
      · exact xy
      · exact leC_total.trans _ _ _ xy (h1 b hb)
theorem isort_sorted : ∀ xs : List α, (isort code xs).Pairwise (fun a b => leC code a b = true)
  | [] => .nil
  | x :: xs => ins_sorted x _ (isort_sorted xs)
theorem leC_anti (C : Coded enc code) {a b : α} (h1 : leC code a b = true) (h2 : leC code b a = true) : a = b := by
  simp only [leC, Bool.not_eq_true'] at h1 h2
  rw [← lexI_lex] at h1 h2
  have e := PyProof.Rows.lex_total _ _ h2 h1
  exact C.inj _ _ (List.map_inj_right (fun _ _ z => Sum.inl.inj z) |>.mp e)
theorem isort_only (C : Coded enc code) {xs ys : List α} (p : ys.Perm xs) (s : ys.Pairwise fun a b => leC code a b = true) : ys = isort code xs :=
  List.Perm.eq_of_pairwise (fun a b _ _ h1 h2 => leC_anti C h1 h2) s (isort_sorted xs) (p.trans (isort_perm xs).symm)
theorem srtD_code (C : Coded enc code) (xs : List α) : srtD (xs.map enc) = (isort code xs).map enc := by
  have m := PySem.W.sort_maps (r := leC code) (s := PySem.W.dataLe false toP) enc (l := xs) fun a _ b _ => by
    show (!lexI (code b) (code a)) = !PySem.W.dataLt (toP (enc b)) (toP (enc a))
    unfold PySem.W.dataLt
    rw [C.toks, C.toks, lexI_lex]
  rw [srtD, ← m, ← isort_only C (List.mergeSort_perm xs _) (PySem.W.sort_pairwise leC_total xs)]
end
/-! ### pairs -/
def code2 (p : Int × Int) : List Int := [1, p.1, 1, p.2, 0]
theorem toks_int (i : Int) : PySem.W.keyToks (.int i) = [.inl i] := by simp [PySem.W.keyToks]
theorem coded2 : Coded prD code2 := ⟨fun a => by simp [prD, toP, toPs, PySem.W.keyToks, PySem.W.keyToksAll, code2], fun a b h => by
  simp [code2] at h
  exact Prod.ext h.1 h.2⟩
/-! ### situations -/
abbrev Sit := Int × Int × List (Int × Int)
abbrev siD (s : Sit) : Dv := .tup [.int s.1, .int s.2.1, .tup (s.2.2.map prD)]
def codeP : List (Int × Int) → List Int
  | [] => [0]
  | p :: ps => 1 :: (code2 p ++ codeP ps)
def code3 (s : Sit) : List Int := [1, s.1, 1, s.2.1, 1] ++ codeP s.2.2 ++ [0]
theorem toks_pairs : ∀ ps : List (Int × Int), PySem.W.keyToksAll (ps.map fun p => toP (prD p)) = (codeP ps).map Sum.inl
  | [] => by simp [PySem.W.keyToksAll, codeP]
  | p :: ps => by
    rw [List.map_cons, PySem.W.keyToksAll, coded2.toks, toks_pairs ps]
    simp [codeP]
theorem codeP_inj : ∀ ps qs : List (Int × Int), ∀ r t : List Int, codeP ps ++ r = codeP qs ++ t → ps = qs
  | [], [], _, _, _ => rfl
  | [], _ :: _, _, _, h => by simp [codeP] at h
  | _ :: _, [], _, _, h => by simp [codeP] at h
  | p :: ps, q :: qs, r, t, h => by
    simp [codeP, code2] at h
    rw [codeP_inj ps qs r t h.2.2, Prod.ext h.1 h.2.1]
theorem coded3 : Coded siD code3 := ⟨fun a => by
  have := toks_pairs a.2.2
  simp [siD, toP, toPs, toPs_map, PySem.W.keyToks, PySem.W.keyToksAll, code3, Function.comp_def]
  exact this, fun a b h => by
  simp only [code3, List.cons_append, List.nil_append, List.cons.injEq, true_and] at h
  obtain ⟨h1, h2, h3⟩ := h
  exact Prod.ext h1 (Prod.ext h2 (codeP_inj _ _ _ _ h3))⟩
theorem plain_prs : ∀ ps : List (Int × Int), plains (ps.map prD) = true ∧ deps (ps.map prD) ≤ 1
  | [] => ⟨rfl, by simp [deps]⟩
  | p :: ps => by
    obtain ⟨a, b⟩ := plain_prs ps
    refine ⟨by simpa [plains, plain] using a, ?_⟩
    simp only [List.map_cons, deps, prD, dep]
    omega
theorem alike_prs : ∀ ps qs : List (Int × Int), PySem.W.alikeAll (ps.map fun p => toP (prD p)) (qs.map fun p => toP (prD p)) = true
  | [], _ => by simp [PySem.W.alikeAll]
  | _ :: _, [] => by simp [PySem.W.alikeAll]
  | p :: ps, q :: qs => by
    rw [List.map_cons, List.map_cons, PySem.W.alikeAll, alike_prs ps qs]
    simp [toP, toPs, PySem.W.alike, PySem.W.alikeAll]
theorem srtOk2 (xs : List (Int × Int)) : SrtOk (xs.map prD) := by
  refine ⟨fun x hx => ?_, ?_, ?_⟩
  · obtain ⟨p, _, rfl⟩ := List.mem_map.mp hx
    exact ⟨by simp [plain, plains], by simp [dep, deps]⟩
  · rw [List.map_map]
    exact PySem.W.AllAlike.of (enc := toP ∘ prD) fun a b => by simp [toP, toPs, PySem.W.alike, PySem.W.alikeAll]
  · rw [List.map_map]
    exact PySem.W.Sortable.tuples (enc := toP ∘ prD) fun b => ⟨.int b.1, [.int b.2], by simp only [Function.comp, prD, toP, toPs]⟩
theorem srtOk3 (xs : List Sit) : SrtOk (xs.map siD) := by
  refine ⟨fun x hx => ?_, ?_, ?_⟩
  · obtain ⟨p, _, rfl⟩ := List.mem_map.mp hx
    obtain ⟨a, b⟩ := plain_prs p.2.2
    exact ⟨by simpa [plain, plains] using a, by simp only [siD, dep, deps]; omega⟩
  · rw [List.map_map]
    refine PySem.W.AllAlike.of (enc := toP ∘ siD) fun a b => ?_
    have := alike_prs a.2.2 b.2.2
    simp [toP, toPs, toPs_map, PySem.W.alike, PySem.W.alikeAll, Function.comp_def]
    exact this
  · rw [List.map_map]
    exact PySem.W.Sortable.tuples (enc := toP ∘ siD) fun b => ⟨.int b.1, [.int b.2.1, .tuple (toPs (b.2.2.map prD))], by simp only [Function.comp, siD, toP, toPs]⟩

/-! ### situations as data -/
def restOf (h : Nat) (used : List Int) : List Int := ((List.range h).filter fun n : Nat => decide ((n : Int) ∉ used)).map fun n : Nat => (n : Int)
def heldN (kinds : List (Int × Int)) (s : Int) : Nat := match kinds[s.toNat]? with | some p => p.2.toNat | none => 0
theorem none_back {S S' : Store} {a : Addr} (h : Ext S S') (hn : S' a = none) : S a = none := by
  cases q : S a with
  | none => rfl
  | some o => rw [h _ _ q] at hn; cases hn
theorem prD_inj {p q : Int × Int} (h : prD p = prD q) : p = q := by
  simp [prD] at h; exact Prod.ext h.1 h.2
theorem siD_inj {s t : Sit} (h : siD s = siD t) : s = t := by
  simp only [siD, Dv.tup.injEq, List.cons.injEq, Dv.int.injEq, and_true] at h
  obtain ⟨h1, h2, h3⟩ := h
  exact Prod.ext h1 (Prod.ext h2 ((List.map_inj_right fun _ _ z => prD_inj z).mp h3))
theorem kOk_siD (s : Sit) : kOk 8 (siD s) = true := by
  have : kOks 6 (s.2.2.map prD) = true := kOks_map fun p _ => by simp [kOk, kOks]
  simp [kOk, kOks, this]

--@cut
/-! ### cases of a situation -/
inductive Cs where
  | both (i j : Int) | first (i : Int) | second (j : Int) | new
deriving DecidableEq
def csD : Cs → Dv
  | .both i j => .tup [.str "both", .int i, .int j]
  | .first i => .tup [.str "first", .int i]
  | .second j => .tup [.str "second", .int j]
  | .new => .tup [.str "new"]
def casesS (h1 h2 : Nat) (ps : List (Int × Int)) : List Cs :=
  ps.map (fun p => .both p.1 p.2) ++ (restOf h1 (ps.map (·.1))).map .first ++ (restOf h2 (ps.map (·.2))).map .second ++ [.new]
/-- the tests of both watchers in a case -/
def tst1 : Cs → Option Int
  | .both i _ => some i
  | .first i => some i
  | .second _ => none
  | .new => none
def tst2 : Cs → Option Int
  | .both _ j => some j
  | .first _ => none
  | .second j => some j
  | .new => none
theorem restOf_len (h : Nat) (u : List Int) : (restOf h u).length ≤ h := by
  rw [restOf, List.length_map]
  exact Nat.le_trans (List.length_filter_le _ _) (by simp)
theorem mem_restOf {h : Nat} {u : List Int} {i : Int} : i ∈ restOf h u ↔ 0 ≤ i ∧ i < h ∧ i ∉ u := by
  unfold restOf
  simp only [List.mem_map, List.mem_filter, List.mem_range, decide_eq_true_eq]
  constructor
  · rintro ⟨n, ⟨h1, h2⟩, rfl⟩
    exact ⟨by omega, by omega, h2⟩
  · rintro ⟨h1, h2, h3⟩
    exact ⟨i.toNat, ⟨by omega, by rwa [Int.toNat_of_nonneg h1]⟩, Int.toNat_of_nonneg h1⟩
/-- watchers that are there, and a situation of them -/
structure PairW (S : Store) (x y : Addr) (n1 n2 : Int) (k1 k2 : List (Int × Int)) (r1 r2 : List (Ru × Tg)) : Prop where
  hx : S x = some (watO n1 k1 r1)
  hy : S y = some (watO n2 k2 r2)
  w1 : Wf n1 k1 r1
  w2 : Wf n2 k2 r2
theorem PairW.ext {S S' : Store} {x y : Addr} {n1 n2 : Int} {k1 k2 : List (Int × Int)} {r1 r2 : List (Ru × Tg)} (p : PairW S x y n1 n2 k1 k2 r1 r2) (e : Ext S S') : PairW S' x y n1 n2 k1 k2 r1 r2 := ⟨e _ _ p.hx, e _ _ p.hy, p.w1, p.w2⟩
structure SitOk (k1 k2 : List (Int × Int)) (s : Sit) : Prop where
  p0 : 0 ≤ s.1 ∧ s.1 < k1.length
  q0 : 0 ≤ s.2.1 ∧ s.2.1 < k2.length
  asc : s.2.2.Pairwise fun a b => a.1 < b.1
  inj : (s.2.2.map (·.2)).Nodup
  rng : ∀ p ∈ s.2.2, (0 ≤ p.1 ∧ p.1 < heldN k1 s.1) ∧ (0 ≤ p.2 ∧ p.2 < heldN k2 s.2.1)
theorem held_at {k : List (Int × Int)} {s : Int} {v h : Int} (e : k[s.toNat]? = some (v, h)) : heldN k s = h.toNat := by unfold heldN; rw [e]
theorem kind_ex {n : Int} {k : List (Int × Int)} {r : List (Ru × Tg)} (w : Wf n k r) {s : Int} (h0 : 0 ≤ s) (h1 : s < k.length) : ∃ v h, k[s.toNat]? = some (v, h) ∧ 0 ≤ h ∧ h ≤ 3 ∧ (heldN k s : Int) = h := by
  obtain ⟨⟨v, h⟩, e⟩ : ∃ p, k[s.toNat]? = some p := ⟨_, List.getElem?_eq_getElem (by omega)⟩
  have := w.kk _ (List.mem_of_getElem? e)
  exact ⟨v, h, e, this.1, this.2, by rw [held_at e]; simp only at this; omega⟩
theorem asc_len : ∀ {ps : List (Int × Int)} {h : Nat}, ps.Pairwise (fun a b => a.1 < b.1) → (∀ p ∈ ps, 0 ≤ p.1 ∧ p.1 < h) → ps.length ≤ h := by
  intro ps h asc rng
  have nd : (ps.map fun p => p.1.toNat).Nodup := by
    rw [List.nodup_iff_pairwise_ne, List.pairwise_map]
    exact asc.imp_of_mem fun {a b} ha hb hlt e => by
      have := rng a ha
      have := rng b hb
      omega
  have sub : ∀ n ∈ (ps.map fun p => p.1.toNat), n ∈ List.range h := fun n hn => by
    obtain ⟨p, hp, rfl⟩ := List.mem_map.mp hn
    have := rng p hp
    rw [List.mem_range]
    omega
  have := nd.length_le_of_subset sub
  simpa using this
theorem SitOk.len {n1 : Int} {k1 k2 : List (Int × Int)} {r1 : List (Ru × Tg)} {s : Sit} (w : Wf n1 k1 r1) (o : SitOk k1 k2 s) : s.2.2.length ≤ 3 := by
  obtain ⟨v, h, _, h0, h3, e⟩ := kind_ex w o.p0.1 o.p0.2
  have := asc_len o.asc fun p hp => (o.rng p hp).1
  omega
theorem plains_li (ns : List Int) : plains (ns.map Dv.int) = true ∧ deps (ns.map Dv.int) = 0 := by
  induction ns with
  | nil => simp [plains, deps]
  | cons n ns ih => simp [plains, plain, deps, dep, ih]
theorem gIn_li {f : Bool → Bool} {v : Int} {a : Addr} {l : List Int} {S : Store} {P : DK} (e : S a = some (.lst (l.map Dv.int))) : gInF f (.int v) (.ref a) S P ↔ P (.bl (f (decide (v ∈ l)))) S := by
  rw [gInF_list e rfl (plains_li l).1 (by simp [dep]) (by rw [(plains_li l).2]; simp)]
  have : Dv.int v ∈ l.map Dv.int ↔ v ∈ l := by simp
  simp only [this]
theorem atI_held {k : List (Int × Int)} {s v h : Int} (h0 : 0 ≤ s) (e : k[s.toNat]? = some (v, h)) : atI (k.map fun k => Dv.int k.2) s = some (.int h) := by rw [atI_of h0, List.getElem?_map, e]; rfl
theorem isW {S : Store} {x : Addr} {n : Int} {k : List (Int × Int)} {r : List (Ru × Tg)} {m : Str} (h : S x = some (watO n k r)) (hm : m ≠ "words" ∧ m ≠ "kinds" ∧ m ≠ "kept") : isObj "Watcher" m (.ref x) S := by
  obtain ⟨a, b, c⟩ := hm
  have a' : (m == Str.ofString "words") = false := beq_eq_false_iff_ne.mpr a
  have b' : (m == Str.ofString "kinds") = false := beq_eq_false_iff_ne.mpr b
  have c' : (m == Str.ofString "kept") = false := beq_eq_false_iff_ne.mpr c
  unfold isObj
  simp only [h]
  exact ⟨trivial, by simp only [List.lookup_cons, a', b', c', List.lookup_nil]⟩
theorem held_mk {S : Store} {x : Addr} {n : Int} {k : List (Int × Int)} {r : List (Ru × Tg)} {P : DK} {e : DX} (h : S x = some (watO n k r)) (w : Wf n k r) (q : P (.tup (k.map fun k => .int k.2)) S) : sp_Watcher_held_counts [.ref x] S P e := ⟨x, n, k, r, rfl, h, w.kl, q⟩
theorem fm_rest (u : List Int) (f : Int → Dv) : ∀ l : List Nat, l.filterMap (fun i : Nat => if ((i : Int) ∉ u) then some (f i) else none) = ((l.filter fun n : Nat => decide ((n : Int) ∉ u)).map fun n : Nat => (n : Int)).map f
  | [] => rfl
  | i :: l => by
    by_cases h : (i : Int) ∉ u
    · rw [List.filterMap_cons_some (b := f i) (by rw [if_pos h]), List.filter_cons_of_pos (by simpa using h), fm_rest u f l]; rfl
    · rw [List.filterMap_cons_none (by rw [if_neg h]), List.filter_cons_of_neg (by simpa using h), fm_rest u f l]
abbrev s_cases : Stmt := top 12
abbrev n_cases : List Str := ["pair", "situation", "p", "q", "pairs", "first", "second", "found", "i", "j"]
abbrev p_cases : List Str := ["pair", "situation"]
theorem sc_cases : FnScope n_cases p_cases (defScope s_cases) := ⟨rfl, rfl, rfl, by decide +kernel, rfl, by decide +kernel, by decide +kernel⟩
-- return tuple(found)
@[simp] def u_cases_7 (K : Kw) (Pe : DX) : DTS :=
  (dRet (dCB gTuple (dCons (dVar 7) dNil)))
-- found.append(('new',))
def u_cases_6 (K : Kw) (Pe : DX) : DTS :=
  (dSeq (dDrop (dBM isL gAppend (dVar 7) (dCons (dTup (dCons (dC (.str "new")) dNil)) dNil)))
  (u_cases_7 K Pe))
-- found.extend([('second', j) for j in range(pair[1].held_counts()[q]) if j not in second])
def u_cases_5 (K : Kw) (Pe : DX) : DTS :=
  (dSeq (dDrop (dBM isL gExtend (dVar 7) (dCons (dLc (dIR1 (dCons (dBin gIx (dMeth "Watcher" "held_counts" sp_Watcher_held_counts X0 (dBin gIx (dVar 0) (dC (.int 1))) dNil) (dVar 3)) dNil)) (.nm 9) (dB (dBin (gInF not) (dVar 9) (dVar 6))) (dTup (dCons (dC (.str "second")) (dCons (dVar 9) dNil))) [9]) dNil)))
  (u_cases_6 K Pe))
-- found.extend([('first', i) for i in range(pair[0].held_counts()[p]) if i not in first])
def u_cases_4 (K : Kw) (Pe : DX) : DTS :=
  (dSeq (dDrop (dBM isL gExtend (dVar 7) (dCons (dLc (dIR1 (dCons (dBin gIx (dMeth "Watcher" "held_counts" sp_Watcher_held_counts X0 (dBin gIx (dVar 0) (dC (.int 0))) dNil) (dVar 2)) dNil)) (.nm 8) (dB (dBin (gInF not) (dVar 8) (dVar 5))) (dTup (dCons (dC (.str "first")) (dCons (dVar 8) dNil))) [8]) dNil)))
  (u_cases_5 K Pe))
-- found = [('both', i, j) for i, j in pairs]
def u_cases_3 (K : Kw) (Pe : DX) : DTS :=
  (dSeq (dSet 7 (dLc (dIT (dVar 4)) (.tp [(.nm 8), (.nm 9)]) dYes (dTup (dCons (dC (.str "both")) (dCons (dVar 8) (dCons (dVar 9) dNil)))) [8, 9]))
  (u_cases_4 K Pe))
-- first, second = ([i for i, j in pairs], [j for i, j in pairs])
def u_cases_2 (K : Kw) (Pe : DX) : DTS :=
  (dSeq (dAsg (dTup (dCons (dLc (dIT (dVar 4)) (.tp [(.nm 8), (.nm 9)]) dYes (dVar 8) [8, 9]) (dCons (dLc (dIT (dVar 4)) (.tp [(.nm 8), (.nm 9)]) dYes (dVar 9) [8, 9]) dNil))) (.tp [(.nm 5), (.nm 6)]))
  (u_cases_3 K Pe))
-- p, q, pairs = situation
def u_cases_1 (K : Kw) (Pe : DX) : DTS :=
  (dSeq (dAsg (dVar 1) (.tp [(.nm 2), (.nm 3), (.nm 4)]))
  (u_cases_2 K Pe))
abbrev t_cases (K : Kw) (Pe : DX) : DTS := (u_cases_1 K Pe)
def sp_cases : DSp := fun ds S Pq _ => ∃ (x y : Addr) (n1 n2 : Int) (k1 k2 : List (Int × Int)) (r1 r2 : List (Ru × Tg)) (s : Sit), ds = [.tup [.ref x, .ref y], siD s] ∧ PairW S x y n1 n2 k1 k2 r1 r2 ∧ SitOk k1 k2 s ∧ Pq (.tup ((casesS (heldN k1 s.1) (heldN k2 s.2.1) s.2.2).map csD)) S
theorem len_cases : ∀ ds S Pq Pe, sp_cases ds S Pq Pe → ds.length = p_cases.length := fun _ _ _ _ ⟨_, _, _, _, _, _, _, _, _, h, _⟩ => by subst h; rfl
theorem hsp_cases (K : Kw) : ∀ ds S Pq Pe, sp_cases ds S Pq Pe → dsp K n_cases (t_cases K) ds S Pq Pe := by
  rintro ds S Pq Pe ⟨x, y, n1, n2, k1, k2, r1, r2, ⟨p, q, ps⟩, rfl, W, o, h⟩
  refine VS.pure ?_
  have ol := o.len W.w1
  simp only at ol
  unfold t_cases
  simp [u_cases_1]
  simp [u_cases_2]
  refine lc_mk ?_
  simp
  intro A hA
  refine lcRun_all prD (fun p => Dv.int p.1) ps (by omega) (fun _ => trivial) (fun p hp => ⟨_, rfl, fun acc N hN => by simp; exact hN⟩) ?_
  refine lc_mk ?_
  simp
  intro B BA hB
  refine lcRun_all prD (fun p => Dv.int p.2) ps (by omega) (fun _ => trivial) (fun p hp => ⟨_, rfl, fun acc N hN => by simp; exact hN⟩) ?_
  simp [u_cases_3]
  refine lc_mk ?_
  simp
  intro C CB CA hC
  refine lcRun_all prD (fun p => csD (.both p.1 p.2)) ps (by omega) (fun _ => trivial) (fun p hp => ⟨_, rfl, fun acc N hN => by simp; exact hN⟩) ?_
  have fi : (ps.map fun p : Int × Int => Dv.int p.1) = (ps.map (·.1)).map Dv.int := by simp
  have se : (ps.map fun p : Int × Int => Dv.int p.2) = (ps.map (·.2)).map Dv.int := by simp
  have bo : (ps.map fun p : Int × Int => csD (.both p.1 p.2)) = (ps.map fun p => Cs.both p.1 p.2).map csD := by simp
  rw [fi, se, bo]
  have T0 : Ext S (up (up (up S A (O.lst ((ps.map (·.1)).map Dv.int))) B (O.lst ((ps.map (·.2)).map Dv.int))) C (O.lst ((ps.map fun p => Cs.both p.1 p.2).map csD))) := ((Ext.refl.up_new hA).up_new hB).up_new hC
  have TA : (up (up (up S A (O.lst ((ps.map (·.1)).map Dv.int))) B (O.lst ((ps.map (·.2)).map Dv.int))) C (O.lst ((ps.map fun p => Cs.both p.1 p.2).map csD))) A = some (.lst ((ps.map (·.1)).map Dv.int)) := by rw [up_ne (Ne.symm CA), up_ne (Ne.symm BA), up_same]
  have TB : (up (up (up S A (O.lst ((ps.map (·.1)).map Dv.int))) B (O.lst ((ps.map (·.2)).map Dv.int))) C (O.lst ((ps.map fun p => Cs.both p.1 p.2).map csD))) B = some (.lst ((ps.map (·.2)).map Dv.int)) := by rw [up_ne (Ne.symm CB), up_same]
  have TC : (up (up (up S A (O.lst ((ps.map (·.1)).map Dv.int))) B (O.lst ((ps.map (·.2)).map Dv.int))) C (O.lst ((ps.map fun p => Cs.both p.1 p.2).map csD))) C = some (.lst ((ps.map fun p => Cs.both p.1 p.2).map csD)) := up_same
  generalize (up (up (up S A (O.lst ((ps.map (·.1)).map Dv.int))) B (O.lst ((ps.map (·.2)).map Dv.int))) C (O.lst ((ps.map fun p => Cs.both p.1 p.2).map csD))) = T at *
  obtain ⟨v1, h1, e1, h10, h13, hd1⟩ := kind_ex W.w1 o.p0.1 o.p0.2
  obtain ⟨v2, h2, e2, h20, h23, hd2⟩ := kind_ex W.w2 o.q0.1 o.q0.2
  simp only at e1 e2 hd1 hd2
  have WT := W.ext T0
  refine dSeq_mk ?_
  simp [-isObj, TC]
  refine lc_mk ?_
  simp [-isObj]
  refine ⟨isW WT.hx (by decide), held_mk WT.hx W.w1 ?_⟩
  simp [atI_held o.p0.1 e1]
  refine ⟨by omega, by omega, fun D hD => ?_⟩
  refine lcRun_enc (fun i : Nat => Dv.int i) (fun i : Nat => if ((i : Int) ∉ ps.map (·.1)) then some (csD (.first i)) else none) (List.range h1.toNat) [] (by simp; omega) (fun _ => trivial) (fun i hi => ⟨_, rfl, fun acc N1 N2 g1 g2 => ?_⟩) ?_
  · simp
    refine (gIn_li (f := not) (l := ps.map (·.1)) (by rw [up_ne (some_ne TA hD)]; exact TA)).mpr ?_
    by_cases hm : (i : Int) ∈ ps.map (·.1)
    · simp [hm] at g2 ⊢
      exact g2
    · simp [hm] at g1 ⊢
      exact g1
  have r1 := fm_rest (ps.map (·.1)) (fun i => csD (.first i)) (List.range h1.toNat)
  simp only [List.nil_append]
  rw [r1]
  have l1 := restOf_len h1.toNat (ps.map (·.1))
  have nCD : C ≠ D := some_ne TC hD
  have e3 : ((List.range h1.toNat).filter fun n : Nat => decide ((n : Int) ∉ ps.map (·.1))).map (fun n : Nat => (n : Int)) = restOf h1.toNat (ps.map (·.1)) := rfl
  rw [e3]
  simp only [up_ne nCD, TC, up_same]
  refine ⟨by simp; omega, ?_⟩
  have hD0 : S D = none := none_back T0 hD
  have C0 : S C = none := hC
  have T1 : Ext S (up (up T D (O.lst ((restOf h1.toNat (ps.map (·.1))).map fun i => csD (.first i)))) C (O.lst ((ps.map fun p => Cs.both p.1 p.2).map csD ++ (restOf h1.toNat (ps.map (·.1))).map fun i => csD (.first i)))) := (T0.up_new hD0).up_new C0
  have T1B : (up (up T D (O.lst ((restOf h1.toNat (ps.map (·.1))).map fun i => csD (.first i)))) C (O.lst ((ps.map fun p => Cs.both p.1 p.2).map csD ++ (restOf h1.toNat (ps.map (·.1))).map fun i => csD (.first i)))) B = some (.lst ((ps.map (·.2)).map Dv.int)) := by rw [up_ne (Ne.symm CB), up_ne (some_ne TB hD)]; exact TB
  have T1C : (up (up T D (O.lst ((restOf h1.toNat (ps.map (·.1))).map fun i => csD (.first i)))) C (O.lst ((ps.map fun p => Cs.both p.1 p.2).map csD ++ (restOf h1.toNat (ps.map (·.1))).map fun i => csD (.first i)))) C = some (.lst ((ps.map fun p => Cs.both p.1 p.2).map csD ++ (restOf h1.toNat (ps.map (·.1))).map fun i => csD (.first i))) := up_same
  generalize (up (up T D (O.lst ((restOf h1.toNat (ps.map (·.1))).map fun i => csD (.first i)))) C (O.lst ((ps.map fun p => Cs.both p.1 p.2).map csD ++ (restOf h1.toNat (ps.map (·.1))).map fun i => csD (.first i)))) = T' at *
  have WT' := W.ext T1
  refine dSeq_mk ?_
  simp [-isObj, T1C, -List.map_map]
  refine lc_mk ?_
  simp [-isObj]
  refine ⟨isW WT'.hy (by decide), held_mk WT'.hy W.w2 ?_⟩
  simp [atI_held o.q0.1 e2]
  refine ⟨by omega, by omega, fun F hF => ?_⟩
  refine lcRun_enc (fun i : Nat => Dv.int i) (fun i : Nat => if ((i : Int) ∉ ps.map (·.2)) then some (csD (.second i)) else none) (List.range h2.toNat) [] (by simp; omega) (fun _ => trivial) (fun i hi => ⟨_, rfl, fun acc N1 N2 g1 g2 => ?_⟩) ?_
  · simp
    refine (gIn_li (f := not) (l := ps.map (·.2)) (by rw [up_ne (some_ne T1B hF)]; exact T1B)).mpr ?_
    by_cases hm : (i : Int) ∈ ps.map (·.2)
    · simp [hm] at g2 ⊢
      exact g2
    · simp [hm] at g1 ⊢
      exact g1
  have r2 := fm_rest (ps.map (·.2)) (fun i => csD (.second i)) (List.range h2.toNat)
  simp only [List.nil_append]
  rw [r2]
  have l2 := restOf_len h2.toNat (ps.map (·.2))
  have nCF : C ≠ F := some_ne T1C hF
  have e4 : ((List.range h2.toNat).filter fun n : Nat => decide ((n : Int) ∉ ps.map (·.2))).map (fun n : Nat => (n : Int)) = restOf h2.toNat (ps.map (·.2)) := rfl
  rw [e4]
  simp only [up_ne nCF, T1C, up_same]
  refine ⟨by simp; omega, ?_⟩
  refine dSeq_mk ?_
  simp [-List.map_map]
  have hF0 : S F = none := none_back T1 hF
  refine ⟨by omega, VS.sub ((T1.up_new hF0).up_new C0) ?_⟩
  have a1 : h1.toNat = heldN k1 p := by omega
  have a2 : h2.toNat = heldN k2 q := by omega
  rw [a1, a2]
  unfold casesS at h
  simpa [Function.comp_def, csD] using h
theorem dfn_cases {P : Program} {w : World} {K : PySem.W.Frag} {mg : Str → Option Value} {base : Heap} {f : Addr} {fd : FuncData} (F : Fun K "cases" "cases" s_cases f fd) (z_range : mg "range" = none) (C_Watcher_held_counts : CalM P w K mg base 2 "Watcher" "held_counts" p_Watcher_held_counts sp_Watcher_held_counts) (z_tuple : mg "tuple" = none) : DFn P w K mg base 3 f fd p_cases sp_cases :=
  Fun.okD (k := 2) (t := t_cases ⟨K, w, mg⟩) F sc_cases len_cases (fun cdv A outer s H Pe E hgd hr px =>
  (dss_cons (ds_asg (dv 1) (dp_tp rfl (dps_cons (dp_nm sc_cases.nd) (dps_cons (dp_nm sc_cases.nd) (dps_cons (dp_nm sc_cases.nd) dps_nil)))))
  (dss_cons (ds_asg (de_tup (da_cons (de_lc (own := [("i", 8), ("j", 9)]) rfl sc_cases.nd (di_tup (dv 4)) (blkOk_by (own := [("i", 8), ("j", 9)]) (N := n_cases) (sc := defScope s_cases) (by decide +kernel)) (fun _ _ _ _ _ => (dp_tp rfl (dps_cons (dp_nm sc_cases.nd) (dps_cons (dp_nm sc_cases.nd) dps_nil)))) (fun _ _ _ _ _ => dts_nil) (fun _ _ _ _ _ => (dv 8))) (da_cons (de_lc (own := [("i", 8), ("j", 9)]) rfl sc_cases.nd (di_tup (dv 4)) (blkOk_by (own := [("i", 8), ("j", 9)]) (N := n_cases) (sc := defScope s_cases) (by decide +kernel)) (fun _ _ _ _ _ => (dp_tp rfl (dps_cons (dp_nm sc_cases.nd) (dps_cons (dp_nm sc_cases.nd) dps_nil)))) (fun _ _ _ _ _ => dts_nil) (fun _ _ _ _ _ => (dv 9))) da_nil))) (dp_tp rfl (dps_cons (dp_nm sc_cases.nd) (dps_cons (dp_nm sc_cases.nd) dps_nil))))
  (dss_cons (ds_setLc (own := [("i", 8), ("j", 9)]) rfl sc_cases.nd (di_tup (dv 4)) (blkOk_by (own := [("i", 8), ("j", 9)]) (N := n_cases) (sc := defScope s_cases) (by decide +kernel)) (fun _ _ _ _ _ => (dp_tp rfl (dps_cons (dp_nm sc_cases.nd) (dps_cons (dp_nm sc_cases.nd) dps_nil)))) (fun _ _ _ _ _ => dts_nil) (fun _ _ _ _ _ => (de_tup (da_cons de_str (da_cons (dv 8) (da_cons (dv 9) da_nil))))))
  (dss_cons (ds_expr (de_bm mg_extend PySem.F.plainAttrs_list PySem.F.slot_list_extend PySem.F.type_list_extend (dv 7) (da_cons (de_lc (own := [("i", 8)]) rfl sc_cases.nd (di_range1 (by rfl) z_range (da_cons (de_ix (de_meth0 C_Watcher_held_counts hgd hr (de_ix (dv 0) de_int)) (dv 2)) da_nil)) (blkOk_by (own := [("i", 8)]) (N := n_cases) (sc := defScope s_cases) (by decide +kernel)) (fun _ _ _ _ _ => (dp_nm sc_cases.nd)) (fun _ _ _ _ _ => (dts_one (dt_cmp (c_notIn (units_65 hr)) (dv 8) (dv 5)))) (fun _ _ _ _ _ => (de_tup (da_cons de_str (da_cons (dv 8) da_nil))))) da_nil)))
  (dss_cons (ds_expr (de_bm mg_extend PySem.F.plainAttrs_list PySem.F.slot_list_extend PySem.F.type_list_extend (dv 7) (da_cons (de_lc (own := [("j", 9)]) rfl sc_cases.nd (di_range1 (by rfl) z_range (da_cons (de_ix (de_meth0 C_Watcher_held_counts hgd hr (de_ix (dv 0) de_int)) (dv 3)) da_nil)) (blkOk_by (own := [("j", 9)]) (N := n_cases) (sc := defScope s_cases) (by decide +kernel)) (fun _ _ _ _ _ => (dp_nm sc_cases.nd)) (fun _ _ _ _ _ => (dts_one (dt_cmp (c_notIn (units_65 hr)) (dv 9) (dv 6)))) (fun _ _ _ _ _ => (de_tup (da_cons de_str (da_cons (dv 9) da_nil))))) da_nil)))
  (dss_cons (ds_expr (de_bm mg_append PySem.F.plainAttrs_list PySem.F.slot_list_append PySem.F.type_list_append (dv 7) (da_cons (de_tup (da_cons de_str da_nil)) da_nil)))
  (dss_one (ds_ret (de_callTy cg_tuple (by rfl) z_tuple (by decide +kernel) (da_cons (dv 7) da_nil))))))))))) (hsp_cases ⟨K, w, mg⟩)
theorem ok_cases {P : Program} {w : World} {K : PySem.W.Frag} {mg : Str → Option Value} {base : Heap} (D : Def K mg "cases" "cases" s_cases) (z_range : mg "range" = none) (C_Watcher_held_counts : CalM P w K mg base 2 "Watcher" "held_counts" p_Watcher_held_counts sp_Watcher_held_counts) (z_tuple : mg "tuple" = none) : Cal P w K mg base 3 "cases" p_cases sp_cases :=
  let ⟨f, fd, F, hm⟩ := D.ex
  ⟨f, fd, hm, F.kp, F.binds (ps := p_cases) fun _ _ _ _ _ _ us hl => match us, hl with | [_, _], _ => rfl, dfn_cases F z_range C_Watcher_held_counts z_tuple⟩
theorem cases_mk {S : Store} {x y : Addr} {n1 n2 : Int} {k1 k2 : List (Int × Int)} {r1 r2 : List (Ru × Tg)} {s : Sit} {P : DK} {e : DX} (W : PairW S x y n1 n2 k1 k2 r1 r2) (o : SitOk k1 k2 s) (q : P (.tup ((casesS (heldN k1 s.1) (heldN k2 s.2.1) s.2.2).map csD)) S) : sp_cases [.tup [.ref x, .ref y], siD s] S P e := ⟨x, y, n1, n2, k1, k2, r1, r2, s, rfl, W, o, q⟩
abbrev s_tests_of : Stmt := top 13
abbrev n_tests_of : List Str := ["case"]
abbrev p_tests_of : List Str := ["case"]
theorem sc_tests_of : FnScope n_tests_of p_tests_of (defScope s_tests_of) := ⟨rfl, rfl, rfl, by decide +kernel, rfl, by decide +kernel, by decide +kernel⟩
-- return (case[1], case[2])
@[simp] def u_tests_of_2 (K : Kw) (Pe : DX) : DTS :=
  (dRet (dTup (dCons (dBin gIx (dVar 0) (dC (.int 1))) (dCons (dBin gIx (dVar 0) (dC (.int 2))) dNil))))
-- return (case[1], 'new')
@[simp] def u_tests_of_4 (K : Kw) (Pe : DX) : DTS :=
  (dRet (dTup (dCons (dBin gIx (dVar 0) (dC (.int 1))) (dCons (dC (.str "new")) dNil))))
-- return ('new', case[1] if case[0] == 'second' else 'new')
@[simp] def u_tests_of_5 (K : Kw) (Pe : DX) : DTS :=
  (dRet (dTup (dCons (dC (.str "new")) (dCons (dIf (dB (dBin (gEqF id) (dBin gIx (dVar 0) (dC (.int 0))) (dC (.str "second")))) (dBin gIx (dVar 0) (dC (.int 1))) (dC (.str "new"))) dNil))))
-- if case[0] == 'first':
def u_tests_of_3 (K : Kw) (Pe : DX) : DTS :=
  (dSeq (dIfS (dB (dBin (gEqF id) (dBin gIx (dVar 0) (dC (.int 0))) (dC (.str "first"))))
  (u_tests_of_4 K Pe)
  dNext)
  (u_tests_of_5 K Pe))
-- if case[0] == 'both':
def u_tests_of_1 (K : Kw) (Pe : DX) : DTS :=
  (dSeq (dIfS (dB (dBin (gEqF id) (dBin gIx (dVar 0) (dC (.int 0))) (dC (.str "both"))))
  (u_tests_of_2 K Pe)
  dNext)
  (u_tests_of_3 K Pe))
abbrev t_tests_of (K : Kw) (Pe : DX) : DTS := (u_tests_of_1 K Pe)
def sp_tests_of : DSp := fun ds S Pq _ => ∃ c : Cs, ds = [csD c] ∧ Pq (.tup [tsD (tst1 c), tsD (tst2 c)]) S
theorem len_tests_of : ∀ ds S Pq Pe, sp_tests_of ds S Pq Pe → ds.length = p_tests_of.length := fun _ _ _ _ ⟨_, h, _⟩ => by subst h; rfl
theorem hsp_tests_of (K : Kw) : ∀ ds S Pq Pe, sp_tests_of ds S Pq Pe → dsp K n_tests_of (t_tests_of K) ds S Pq Pe := by
  rintro ds S Pq Pe ⟨c, rfl, h⟩
  refine VS.pure ?_
  unfold t_tests_of
  cases c with
  | both i j => simp [u_tests_of_1, csD]; exact VS.pure h
  | first i => simp [u_tests_of_1, u_tests_of_3, csD]; exact VS.pure h
  | second j => simp [u_tests_of_1, u_tests_of_3, csD]; exact VS.pure h
  | new => simp [u_tests_of_1, u_tests_of_3, csD]; exact VS.pure h
theorem dfn_tests_of {P : Program} {w : World} {K : PySem.W.Frag} {mg : Str → Option Value} {base : Heap} {f : Addr} {fd : FuncData} (F : Fun K "tests_of" "tests_of" s_tests_of f fd) : DFn P w K mg base 1 f fd p_tests_of sp_tests_of :=
  Fun.okD (k := 0) (t := t_tests_of ⟨K, w, mg⟩) F sc_tests_of len_tests_of (fun cdv A outer s H Pe E hgd hr px =>
  (dss_cons (ds_if (dt_cmp (c_eq (units_64 hr)) (de_ix (dv 0) de_int) de_str)
  (dss_one (ds_ret (de_tup (da_cons (de_ix (dv 0) de_int) (da_cons (de_ix (dv 0) de_int) da_nil)))))
  dss_nil)
  (dss_cons (ds_if (dt_cmp (c_eq (units_64 hr)) (de_ix (dv 0) de_int) de_str)
  (dss_one (ds_ret (de_tup (da_cons (de_ix (dv 0) de_int) (da_cons de_str da_nil)))))
  dss_nil)
  (dss_one (ds_ret (de_tup (da_cons de_str (da_cons (de_if (dt_cmp (c_eq (units_64 hr)) (de_ix (dv 0) de_int) de_str) (de_ix (dv 0) de_int) de_str) da_nil)))))))) (hsp_tests_of ⟨K, w, mg⟩)
theorem ok_tests_of {P : Program} {w : World} {K : PySem.W.Frag} {mg : Str → Option Value} {base : Heap} (D : Def K mg "tests_of" "tests_of" s_tests_of) : Cal P w K mg base 1 "tests_of" p_tests_of sp_tests_of :=
  let ⟨f, fd, F, hm⟩ := D.ex
  ⟨f, fd, hm, F.kp, F.binds (ps := p_tests_of) fun _ _ _ _ _ _ us hl => match us, hl with | [_], _ => rfl, dfn_tests_of F ⟩
/-! ### names of values -/
inductive Nm where
  | msg | fst (i : Int) | snd (j : Int)
deriving DecidableEq
def nmD : Nm → Dv
  | .msg => .str "message"
  | .fst i => .tup [.str "first", .int i]
  | .snd j => .tup [.str "second", .int j]
theorem fs_ne : (Str.ofString "first") ≠ Str.ofString "second" := by decide +kernel
theorem nmD_inj : ∀ {a b : Nm}, nmD a = nmD b → a = b
  | .msg, .msg, _ => rfl
  | .fst _, .fst _, h => by simp [nmD] at h; rw [h]
  | .snd _, .snd _, h => by simp [nmD] at h; rw [h]
  | .msg, .fst _, h => by simp [nmD] at h
  | .msg, .snd _, h => by simp [nmD] at h
  | .fst _, .msg, h => by simp [nmD] at h
  | .snd _, .msg, h => by simp [nmD] at h
  | .fst _, .snd _, h => by simp [nmD, fs_ne] at h
  | .snd _, .fst _, h => by simp [nmD, Ne.symm fs_ne] at h
def carr (q t : Option Int) (ns : List Nm) : Nm := match q with
  | none => .msg
  | some i => if t = some i then .msg else ns.getD i.toNat .msg
abbrev s_carried : Stmt := top 14
abbrev n_carried : List Str := ["source", "test", "names"]
abbrev p_carried : List Str := ["source", "test", "names"]
theorem sc_carried : FnScope n_carried p_carried (defScope s_carried) := ⟨rfl, rfl, rfl, by decide +kernel, rfl, by decide +kernel, by decide +kernel⟩
-- return 'message'
@[simp] def u_carried_2 (K : Kw) (Pe : DX) : DTS :=
  (dRet (dC (.str "message")))
-- return names[source]
@[simp] def u_carried_3 (K : Kw) (Pe : DX) : DTS :=
  (dRet (dBin gIx (dVar 2) (dVar 0)))
-- if source == 'value' or source == test:
def u_carried_1 (K : Kw) (Pe : DX) : DTS :=
  (dSeq (dIfS (dOr (dB (dBin (gEqF id) (dVar 0) (dC (.str "value")))) (dB (dBin (gEqF id) (dVar 0) (dVar 1))))
  (u_carried_2 K Pe)
  dNext)
  (u_carried_3 K Pe))
abbrev t_carried (K : Kw) (Pe : DX) : DTS := (u_carried_1 K Pe)
def sp_carried : DSp := fun ds S Pq _ => ∃ (q t : Option Int) (a : Addr) (ns : List Nm), ds = [srD q, tsD t, .ref a] ∧ S a = some (.lst (ns.map nmD)) ∧ (∀ i, q = some i → 0 ≤ i ∧ i < ns.length) ∧ Pq (nmD (carr q t ns)) S
theorem len_carried : ∀ ds S Pq Pe, sp_carried ds S Pq Pe → ds.length = p_carried.length := fun _ _ _ _ ⟨_, _, _, _, h, _⟩ => by subst h; rfl
theorem hsp_carried (K : Kw) : ∀ ds S Pq Pe, sp_carried ds S Pq Pe → dsp K n_carried (t_carried K) ds S Pq Pe := by
  rintro ds S Pq Pe ⟨q, t, a, ns, rfl, ha, hq, h⟩
  refine VS.pure ?_
  unfold t_carried
  cases q with
  | none => simp [u_carried_1, srD]; exact VS.pure h
  | some i =>
    obtain ⟨i0, i1⟩ := hq i rfl
    have e : ns[i.toNat]? = some (ns[i.toNat]'(by omega)) := List.getElem?_eq_getElem (by omega)
    have ea : atI (ns.map nmD) i = some (nmD (ns[i.toNat]'(by omega))) := by rw [atI_of i0, List.getElem?_map, e]; rfl
    unfold carr at h
    cases t with
    | none =>
      simp [List.getD, e] at h
      simp [u_carried_1, u_carried_3, srD, tsD, ha, ea, gEq_is]
      exact VS.pure h
    | some j =>
      by_cases hj : i = j
      · subst hj
        simp at h
        simp [u_carried_1, srD, tsD]
        exact VS.pure h
      · simp [List.getD, e, Ne.symm hj] at h
        simp [u_carried_1, u_carried_3, srD, tsD, ha, ea, hj, gEq_is]
        exact VS.pure h
theorem dfn_carried {P : Program} {w : World} {K : PySem.W.Frag} {mg : Str → Option Value} {base : Heap} {f : Addr} {fd : FuncData} (F : Fun K "carried" "carried" s_carried f fd) : DFn P w K mg base 1 f fd p_carried sp_carried :=
  Fun.okD (k := 0) (t := t_carried ⟨K, w, mg⟩) F sc_carried len_carried (fun cdv A outer s H Pe E hgd hr px =>
  (dss_cons (ds_if (L2.PW.pt (dw_or (dt_cmp (c_eq (units_64 hr)) (dv 0) de_str) (dw_or1 (dt_cmp (c_eq (units_64 hr)) (dv 0) (dv 1)))))
  (dss_one (ds_ret de_str))
  dss_nil)
  (dss_one (ds_ret (de_ix (dv 2) (dv 0)))))) (hsp_carried ⟨K, w, mg⟩)
theorem ok_carried {P : Program} {w : World} {K : PySem.W.Frag} {mg : Str → Option Value} {base : Heap} (D : Def K mg "carried" "carried" s_carried) : Cal P w K mg base 1 "carried" p_carried sp_carried :=
  let ⟨f, fd, F, hm⟩ := D.ex
  ⟨f, fd, hm, F.kp, F.binds (ps := p_carried) fun _ _ _ _ _ _ us hl => match us, hl with | [_, _, _], _ => rfl, dfn_carried F ⟩

--@cut
/-! ### steps -/
def ns1 (h : Nat) : List Nm := (List.range h).map fun i : Nat => .fst i
def nsSet (ns : List Nm) : List (Int × Int) → List Nm
  | [] => ns
  | p :: ps => nsSet (ns.set p.2.toNat (.fst p.1)) ps
def ns2 (h : Nat) (ps : List (Int × Int)) : List Nm := nsSet ((List.range h).map fun j : Nat => .snd j) ps
def plc (t : Option Int) (ns : List Nm) (vs : List (Option Int)) : List (Nm × Nat) := vs.zipIdx.map fun p => (carr p.1 t ns, p.2)
def fnd (t : Option Int) (ns : List Nm) (pl : List (Nm × Nat)) (vs : List (Option Int)) : List (Int × Int) := vs.zipIdx.filterMap fun p => (pl.lookup (carr p.1 t ns)).map fun j : Nat => ((p.2 : Int), (j : Int))
def stepS (k1 : List (Int × Int)) (r1 : List (Ru × Tg)) (k2 : List (Int × Int)) (r2 : List (Ru × Tg)) (s : Sit) (w : Int) (c : Cs) : Sit :=
  let g1 := ruleFor r1 s.1 w (tst1 c) (heldN k1 s.1)
  let g2 := ruleFor r2 s.2.1 w (tst2 c) (heldN k2 s.2.1)
  (g1.1, g2.1, fnd (tst1 c) (ns1 (heldN k1 s.1)) (plc (tst2 c) (ns2 (heldN k2 s.2.1) s.2.2) g2.2) g1.2)
theorem nsSet_len : ∀ (ps : List (Int × Int)) (ns : List Nm), (nsSet ns ps).length = ns.length
  | [], _ => rfl
  | p :: ps, ns => by rw [nsSet, nsSet_len ps]; simp
theorem nsSet_app : ∀ (ps qs : List (Int × Int)) (ns : List Nm), nsSet ns (ps ++ qs) = nsSet (nsSet ns ps) qs
  | [], _, _ => rfl
  | p :: ps, qs, ns => by simp only [List.cons_append, nsSet]; exact nsSet_app ps qs _
theorem ns2_len (h : Nat) (ps : List (Int × Int)) : (ns2 h ps).length = h := by rw [ns2, nsSet_len]; simp
/-- what stands at a place of the second watcher -/
theorem nsSet_at : ∀ {ps : List (Int × Int)} {ns : List Nm} {j : Nat}, (ps.map (·.2)).Nodup → (∀ p ∈ ps, 0 ≤ p.2) → j < ns.length → (nsSet ns ps)[j]? = match ps.find? (fun p => decide (p.2 = (j : Int))) with | some p => some (.fst p.1) | none => ns[j]?
  | [], ns, j, _, _, _ => rfl
  | p :: ps, ns, j, nd, h0, hj => by
    simp only [List.map_cons, List.nodup_cons] at nd
    have p0 := h0 p (by simp)
    rw [nsSet, nsSet_at nd.2 (fun q hq => h0 q (by simp [hq])) (by simpa using hj), List.find?_cons]
    by_cases e : p.2 = (j : Int)
    · have none : ps.find? (fun p => decide (p.2 = (j : Int))) = Option.none := by
        rw [List.find?_eq_none]
        intro q hq
        simp only [decide_eq_true_eq]
        exact fun z => nd.1 (by rw [e, ← z]; exact List.mem_map_of_mem hq)
      rw [none]
      have e2 : p.2.toNat = j := by omega
      simp [e, e2, hj]
    · simp only [e, decide_false]
      cases ps.find? (fun p => decide (p.2 = (j : Int))) with
      | some q => rfl
      | none =>
        have e2 : p.2.toNat ≠ j := by omega
        simp [List.getElem?_set_ne e2]
/-- facts on the rule that is taken -/
structure RfOk (k : List (Int × Int)) (h : Nat) (t : Option Int) (g : Tg) : Prop where
  g0 : 0 ≤ g.1 ∧ g.1 < k.length
  len : g.2.length = heldN k g.1
  nd : g.2.Nodup
  ok : ∀ q ∈ g.2, srOk h t q
theorem lookup_in : ∀ {kept : List (Ru × Tg)} {r : Ru} {g : Tg}, kept.lookup r = some g → (r, g) ∈ kept
  | (r', g') :: ps, r, g, h => by
    rw [List.lookup_cons] at h
    cases e : r == r' with
    | true =>
      rw [e] at h
      cases h
      rw [eq_of_beq e]
      simp
    | false =>
      rw [e] at h
      exact List.mem_cons_of_mem _ (lookup_in h)
theorem rf_ok {n : Int} {k : List (Int × Int)} {r : List (Ru × Tg)} (w : Wf n k r) {s : Int} (h0 : 0 ≤ s) (h1 : s < k.length) (wd : Int) (t : Option Int) : RfOk k (heldN k s) t (ruleFor r s wd t (heldN k s)) := by
  obtain ⟨v, h, e, hh0, hh3, eh⟩ := kind_ex w h0 h1
  unfold ruleFor
  cases q : r.lookup (s, wd, t) with
  | none =>
    simp only [Option.getD_none]
    refine ⟨⟨h0, h1⟩, by simp, ?_, fun q hq => ?_⟩
    · rw [List.nodup_iff_pairwise_ne, List.pairwise_map]
      exact List.nodup_range.imp fun h e => h (by simp at e; omega)
    · obtain ⟨i, hi, rfl⟩ := List.mem_map.mp hq
      have := List.mem_range.mp hi
      exact ⟨by omega, by omega⟩
  | some g =>
    have m := lookup_in q
    have ro := w.rk _ m
    obtain ⟨v0, h0', v1, e0, ht, e1, hs⟩ := ro.ex
    simp only at e0 e1 hs ht
    rw [e] at e0
    cases e0
    simp only [Option.getD_some]
    refine ⟨⟨ro.g0, ?_⟩, ?_, ro.nd, fun q hq => ?_⟩
    · have := (List.getElem?_eq_some_iff.mp e1).1
      have := ro.g0
      omega
    · rw [held_at e1]
      simp
    · rw [eh]; exact hs q hq
theorem carr_none (t : Option Int) (ns : List Nm) : carr none t ns = .msg := rfl
/-- names of unlike sources are unlike -/
theorem carr_inj {h : Nat} {t : Option Int} {ns : List Nm} (hn : ns.length = h) (nd : ns.Nodup) (nm : Nm.msg ∉ ns) {a b : Option Int} (ha : srOk h t a) (hb : srOk h t b) (e : carr a t ns = carr b t ns) : a = b := by
  have at_ : ∀ i : Int, 0 ≤ i → i < h → ∃ x, ns[i.toNat]? = some x ∧ ns.getD i.toNat .msg = x ∧ x ∈ ns := fun i h0 h1 => by
    have : i.toNat < ns.length := by omega
    exact ⟨ns[i.toNat], List.getElem?_eq_getElem this, by simp [List.getD, this], List.getElem_mem this⟩
  cases a with
  | none =>
    cases b with
    | none => rfl
    | some j =>
      have ht : t = none := ha
      subst ht
      obtain ⟨x, _, h2, h3⟩ := at_ j hb.1 hb.2
      simp only [carr] at e
      rw [if_neg (by simp), h2] at e
      exact absurd (e ▸ h3) nm
  | some i =>
    obtain ⟨x, h1, h2, h3⟩ := at_ i ha.1 ha.2
    cases b with
    | none =>
      have ht : t = none := hb
      subst ht
      simp only [carr] at e
      rw [if_neg (by simp), h2] at e
      exact absurd (e ▸ h3) nm
    | some j =>
      obtain ⟨y, g1, g2, g3⟩ := at_ j hb.1 hb.2
      simp only [carr] at e
      rw [h2, g2] at e
      by_cases ci : t = some i
      · rw [if_pos ci] at e
        by_cases cj : t = some j
        · rw [← ci, ← cj]
        · rw [if_neg cj] at e
          exact absurd (e ▸ g3) nm
      · rw [if_neg ci] at e
        by_cases cj : t = some j
        · rw [if_pos cj] at e
          exact absurd (e ▸ h3) nm
        · rw [if_neg cj] at e
          subst e
          obtain ⟨p1, q1⟩ := List.getElem?_eq_some_iff.mp h1
          obtain ⟨p2, q2⟩ := List.getElem?_eq_some_iff.mp g1
          have : i.toNat = j.toNat := (List.getElem_inj nd).mp (q1.trans q2.symm)
          have := ha.1
          have := hb.1
          congr 1
          omega
theorem ns1_ok (h : Nat) : (ns1 h).length = h ∧ (ns1 h).Nodup ∧ Nm.msg ∉ ns1 h := by
  refine ⟨by simp [ns1], ?_, by simp [ns1]⟩
  unfold ns1
  rw [List.nodup_iff_pairwise_ne, List.pairwise_map]
  exact List.nodup_range.imp fun h e => h (by simp at e; omega)
theorem find_snd {ps : List (Int × Int)} {j : Nat} {p : Int × Int} (h : ps.find? (fun p => decide (p.2 = (j : Int))) = some p) : p ∈ ps ∧ p.2 = j := ⟨List.mem_of_find?_eq_some h, by simpa using List.find?_some h⟩
theorem ns2_at {h : Nat} {ps : List (Int × Int)} (nd : (ps.map (·.2)).Nodup) (h0 : ∀ p ∈ ps, 0 ≤ p.2) {j : Nat} (hj : j < h) : (ns2 h ps)[j]? = some (match ps.find? (fun p => decide (p.2 = (j : Int))) with | some p => .fst p.1 | none => .snd j) := by
  unfold ns2
  rw [nsSet_at nd h0 (by simpa using hj)]
  cases ps.find? (fun p => decide (p.2 = (j : Int))) with
  | some p => rfl
  | none => simp [hj]
theorem ns2_ok {h : Nat} {ps : List (Int × Int)} (asc : ps.Pairwise fun a b => a.1 < b.1) (nd : (ps.map (·.2)).Nodup) (h0 : ∀ p ∈ ps, 0 ≤ p.2) : (ns2 h ps).length = h ∧ (ns2 h ps).Nodup ∧ Nm.msg ∉ ns2 h ps := by
  have nd1 : (ps.map (·.1)).Nodup := by
    rw [List.nodup_iff_pairwise_ne, List.pairwise_map]
    exact asc.imp fun hlt => Int.ne_of_lt hlt
  refine ⟨ns2_len h ps, ?_, fun hm => ?_⟩
  · rw [List.nodup_iff_pairwise_ne, List.pairwise_iff_getElem]
    intro i j hi hj hij e
    rw [ns2_len] at hi hj
    have a := ns2_at (h := h) nd h0 hi
    have b := ns2_at (h := h) nd h0 hj
    rw [List.getElem?_eq_getElem (by rw [ns2_len]; exact hi)] at a
    rw [List.getElem?_eq_getElem (by rw [ns2_len]; exact hj)] at b
    simp only [Option.some.injEq] at a b
    rw [a, b] at e
    cases q1 : ps.find? (fun p => decide (p.2 = (i : Int))) with
    | none =>
      cases q2 : ps.find? (fun p => decide (p.2 = (j : Int))) with
      | none => rw [q1, q2] at e; simp at e; omega
      | some p => rw [q1, q2] at e; cases e
    | some p =>
      cases q2 : ps.find? (fun p => decide (p.2 = (j : Int))) with
      | none => rw [q1, q2] at e; cases e
      | some p' =>
        rw [q1, q2] at e
        simp only [Nm.fst.injEq] at e
        obtain ⟨m1, e1⟩ := find_snd q1
        obtain ⟨m2, e2⟩ := find_snd q2
        obtain ⟨x, hx, rfl⟩ := List.getElem_of_mem m1
        obtain ⟨y, hy, rfl⟩ := List.getElem_of_mem m2
        have := (List.getElem_inj (i := x) (j := y) nd1 (h₀ := by simpa using hx) (h₁ := by simpa using hy)).mp (by simpa using e)
        subst this
        omega
  · obtain ⟨i, hi, e⟩ := List.getElem_of_mem hm
    rw [ns2_len] at hi
    have a := ns2_at (h := h) nd h0 hi
    rw [List.getElem?_eq_getElem (by rw [ns2_len]; exact hi), e] at a
    simp only [Option.some.injEq] at a
    cases q1 : ps.find? (fun p => decide (p.2 = (i : Int))) with
    | none => rw [q1] at a; cases a
    | some p => rw [q1] at a; cases a
theorem nsSet_snoc (ps : List (Int × Int)) (p : Int × Int) (ns : List Nm) : nsSet ns (ps ++ [p]) = (nsSet ns ps).set p.2.toNat (.fst p.1) := by rw [nsSet_app]; rfl
theorem kOk_nm (x : Nm) : kOk 8 (nmD x) = true := by cases x <;> simp [nmD, kOk, kOks]
theorem dval_nm (x : Nm) : ∀ pl : List (Nm × Nat), dval (pl.map fun p => (nmD p.1, Dv.int (p.2 : Int))) (nmD x) = (pl.lookup x).map fun j : Nat => Dv.int j
  | [] => rfl
  | (y, j) :: pl => by
    rw [List.map_cons, dval, List.lookup_cons, dval_nm x pl]
    by_cases e : y = x
    · subst e; simp
    · have e2 : (x == y) = false := by rw [beq_eq_false_iff_ne]; exact Ne.symm e
      rw [if_neg (fun z => e (nmD_inj z)), e2]
theorem dput_nm {x : Nm} {j : Nat} {pl : List (Nm × Nat)} (h : x ∉ pl.map (·.1)) : dput (pl.map fun p => (nmD p.1, Dv.int (p.2 : Int))) (nmD x) (.int j) = (pl ++ [(x, j)]).map fun p => (nmD p.1, Dv.int (p.2 : Int)) := by
  have : pl.lookup x = none := by
    rw [List.lookup_eq_none_iff]
    intro p hp
    rw [bne_iff_ne]
    exact fun e => h (by rw [e]; exact List.mem_map_of_mem hp)
  unfold dput
  rw [dval_nm, this]
  simp
theorem fnd_snoc (t : Option Int) (ns : List Nm) (pl : List (Nm × Nat)) (vs : List (Option Int)) (v : Option Int) : fnd t ns pl (vs ++ [v]) = fnd t ns pl vs ++ match pl.lookup (carr v t ns) with | some j => [((vs.length : Int), (j : Int))] | none => [] := by
  unfold fnd
  rw [List.zipIdx_append, List.filterMap_append]
  congr 1
  simp only [List.zipIdx_cons, List.zipIdx_nil, Nat.zero_add]
  cases e : pl.lookup (carr v t ns) with
  | some j => rw [List.filterMap_cons_some (b := ((vs.length : Int), (j : Int))) (by simp [e])]; rfl
  | none => rw [List.filterMap_cons_none (by simp [e])]; rfl
theorem fnd_len (t : Option Int) (ns : List Nm) (pl : List (Nm × Nat)) (vs : List (Option Int)) : (fnd t ns pl vs).length ≤ vs.length := by
  unfold fnd
  exact Nat.le_trans (List.length_filterMap_le _ _) (by simp)
theorem dcRun_nm {p : Pat} {tk tv : DTE} {δ : DSt} {G : Grd} {D : Addr} {P : DK} {S0 : Store} {α : Type} (enc : α → Dv) (kf : α → Nm × Nat) : ∀ (s : List α) (pl : List (Nm × Nat)), ((pl ++ s.map kf).map (·.1)).Nodup → pl.length + s.length ≤ 1000 → (∀ o, G (up S0 D o)) →
    (∀ x ∈ s, ∃ δ1, pset p (enc x) δ = some δ1 ∧ (∀ (o : O) (N : DK), N (nmD (kf x).1) (up S0 D o) → tk δ1 (up S0 D o) N) ∧ ∀ (o : O) (N : DK), N (.int ((kf x).2 : Int)) (up S0 D o) → tv δ1 (up S0 D o) N) →
    P (.ref D) (up S0 D (.ndc ((pl ++ s.map kf).map fun p => (nmD p.1, Dv.int (p.2 : Int))))) → dcRun p dYes tk tv δ G D P (s.map enc) (up S0 D (.ndc (pl.map fun p => (nmD p.1, Dv.int (p.2 : Int)))))
  | [], pl, _, _, hG, _, h => by
    simp only [dcRun, List.map_nil]
    exact ⟨hG _, by simpa using h⟩
  | x :: s, pl, hn, hl, hG, hs, h => by
    simp only [dcRun, List.map_cons]
    obtain ⟨δ1, e, k1, k2⟩ := hs x (by simp)
    refine ⟨hG _, ?_⟩
    rw [e]
    simp only [dYes, if_true]
    refine k1 _ _ (k2 _ _ ?_)
    simp only [up_same, up_up]
    have hx : (kf x).1 ∉ pl.map (·.1) := by
      rw [List.map_append, List.nodup_append] at hn
      exact fun m => hn.2.2 _ m _ (by simp) rfl
    refine ⟨kOk_nm _, by simp at hl ⊢; omega, ?_⟩
    rw [dput_nm hx]
    exact dcRun_nm enc kf s (pl ++ [((kf x).1, (kf x).2)]) (by simpa using hn) (by simp at hl ⊢; omega) hG (fun y hy => hs y (by simp [hy])) (by simpa using h)
abbrev s_step : Stmt := top 15
abbrev n_step : List Str := ["pair", "situation", "word", "case", "p", "q", "pairs", "tests", "names", "i", "j", "one", "sources", "other", "origins", "places", "found", "source", "name"]
abbrev p_step : List Str := ["pair", "situation", "word", "case"]
theorem sc_step : FnScope n_step p_step (defScope s_step) := ⟨rfl, rfl, rfl, by decide +kernel, rfl, by decide +kernel, by decide +kernel⟩
-- names[1][j] = ('first', i)
@[simp] def u_step_6 (K : Kw) (Pe : DX) : DTS :=
  (dSetIx (dTup (dCons (dC (.str "first")) (dCons (dVar 9) dNil))) (dBin gIx (dVar 8) (dC (.int 1))) (dVar 10))
-- found.append((i, places[name]))
@[simp] def u_step_14 (K : Kw) (Pe : DX) : DTS :=
  (dDrop (dBM isL gAppend (dVar 16) (dCons (dTup (dCons (dVar 9) (dCons (dNget (dVar 15) (dVar 18)) dNil))) dNil)))
-- if name in places:
@[simp] def u_step_13 (K : Kw) (Pe : DX) : DTS :=
  (dIfS (dB (dNin id (dVar 18) (dVar 15)))
  (u_step_14 K Pe)
  dNext)
-- name = carried(source, tests[0], names[0])
def u_step_12 (K : Kw) (Pe : DX) : DTS :=
  (dSeq (dSet 18 (dCall sp_carried X0 (dCons (dVar 17) (dCons (dBin gIx (dVar 7) (dC (.int 0))) (dCons (dBin gIx (dVar 8) (dC (.int 0))) dNil)))))
  (u_step_13 K Pe))
-- return (one, other, tuple(found))
@[simp] def u_step_15 (K : Kw) (Pe : DX) : DTS :=
  (dRet (dTup (dCons (dVar 11) (dCons (dVar 13) (dCons (dCB gTuple (dCons (dVar 16) dNil)) dNil)))))
-- for i, source in enumerate(sources):
def u_step_11 (K : Kw) (Pe : DX) : DTS :=
  (dSeq (dFor (dIE (dCons (dVar 12) dNil)) (.tp [(.nm 9), (.nm 17)])
  (u_step_12 K Pe))
  (u_step_15 K Pe))
-- found = []
def u_step_10 (K : Kw) (Pe : DX) : DTS :=
  (dSeq (dSet 16 (dLst dNil))
  (u_step_11 K Pe))
-- places = {carried(source, tests[1], names[1]): j for j, source in enumerate(origins)}
def u_step_9 (K : Kw) (Pe : DX) : DTS :=
  (dSeq (dSet 15 (dDc (dIE (dCons (dVar 14) dNil)) (.tp [(.nm 10), (.nm 17)]) dYes (dCall sp_carried X0 (dCons (dVar 17) (dCons (dBin gIx (dVar 7) (dC (.int 1))) (dCons (dBin gIx (dVar 8) (dC (.int 1))) dNil)))) (dVar 10) [10, 17]))
  (u_step_10 K Pe))
-- other, origins = pair[1].rule_for(q, word, tests[1])
def u_step_8 (K : Kw) (Pe : DX) : DTS :=
  (dSeq (dAsg (dMeth "Watcher" "rule_for" sp_Watcher_rule_for X0 (dBin gIx (dVar 0) (dC (.int 1))) (dCons (dVar 5) (dCons (dVar 2) (dCons (dBin gIx (dVar 7) (dC (.int 1))) dNil)))) (.tp [(.nm 13), (.nm 14)]))
  (u_step_9 K Pe))
-- one, sources = pair[0].rule_for(p, word, tests[0])
def u_step_7 (K : Kw) (Pe : DX) : DTS :=
  (dSeq (dAsg (dMeth "Watcher" "rule_for" sp_Watcher_rule_for X0 (dBin gIx (dVar 0) (dC (.int 0))) (dCons (dVar 4) (dCons (dVar 2) (dCons (dBin gIx (dVar 7) (dC (.int 0))) dNil)))) (.tp [(.nm 11), (.nm 12)]))
  (u_step_8 K Pe))
-- for i, j in pairs:
def u_step_5 (K : Kw) (Pe : DX) : DTS :=
  (dSeq (dFor (dIT (dVar 6)) (.tp [(.nm 9), (.nm 10)])
  (u_step_6 K Pe))
  (u_step_7 K Pe))
-- names.append([('second', j) for j in range(pair[1].held_counts()[q])])
def u_step_4 (K : Kw) (Pe : DX) : DTS :=
  (dSeq (dDrop (dBM isL gAppend (dVar 8) (dCons (dLc (dIR1 (dCons (dBin gIx (dMeth "Watcher" "held_counts" sp_Watcher_held_counts X0 (dBin gIx (dVar 0) (dC (.int 1))) dNil) (dVar 5)) dNil)) (.nm 10) dYes (dTup (dCons (dC (.str "second")) (dCons (dVar 10) dNil))) [10]) dNil)))
  (u_step_5 K Pe))
-- names = [[('first', i) for i in range(pair[0].held_counts()[p])]]
def u_step_3 (K : Kw) (Pe : DX) : DTS :=
  (dSeq (dSet 8 (dLst (dCons (dLc (dIR1 (dCons (dBin gIx (dMeth "Watcher" "held_counts" sp_Watcher_held_counts X0 (dBin gIx (dVar 0) (dC (.int 0))) dNil) (dVar 4)) dNil)) (.nm 9) dYes (dTup (dCons (dC (.str "first")) (dCons (dVar 9) dNil))) [9]) dNil)))
  (u_step_4 K Pe))
-- tests = tests_of(case)
def u_step_2 (K : Kw) (Pe : DX) : DTS :=
  (dSeq (dSet 7 (dCall sp_tests_of X0 (dCons (dVar 3) dNil)))
  (u_step_3 K Pe))
-- p, q, pairs = situation
def u_step_1 (K : Kw) (Pe : DX) : DTS :=
  (dSeq (dAsg (dVar 1) (.tp [(.nm 4), (.nm 5), (.nm 6)]))
  (u_step_2 K Pe))
abbrev t_step (K : Kw) (Pe : DX) : DTS := (u_step_1 K Pe)
def sp_step : DSp := fun ds S Pq _ => ∃ (x y : Addr) (n1 n2 : Int) (k1 k2 : List (Int × Int)) (r1 r2 : List (Ru × Tg)) (s : Sit) (w : Int) (c : Cs), ds = [.tup [.ref x, .ref y], siD s, .int w, csD c] ∧ PairW S x y n1 n2 k1 k2 r1 r2 ∧ SitOk k1 k2 s ∧ Pq (siD (stepS k1 r1 k2 r2 s w c)) S
theorem len_step : ∀ ds S Pq Pe, sp_step ds S Pq Pe → ds.length = p_step.length := fun _ _ _ _ ⟨_, _, _, _, _, _, _, _, _, _, _, h, _⟩ => by subst h; rfl
theorem step_mk {S : Store} {x y : Addr} {n1 n2 : Int} {k1 k2 : List (Int × Int)} {r1 r2 : List (Ru × Tg)} {s : Sit} {w : Int} {c : Cs} {P : DK} {e : DX} (W : PairW S x y n1 n2 k1 k2 r1 r2) (o : SitOk k1 k2 s) (q : P (siD (stepS k1 r1 k2 r2 s w c)) S) : sp_step [.tup [.ref x, .ref y], siD s, .int w, csD c] S P e := ⟨x, y, n1, n2, k1, k2, r1, r2, s, w, c, rfl, W, o, q⟩
theorem hsp_step (K : Kw) : ∀ ds S Pq Pe, sp_step ds S Pq Pe → dsp K n_step (t_step K) ds S Pq Pe := by
  rintro ds S Pq Pe ⟨x, y, n1, n2, k1, k2, r1, r2, ⟨p, q, ps⟩, w, c, rfl, W, o, h⟩
  refine VS.pure ?_
  have ol := o.len W.w1
  simp only at ol
  obtain ⟨v1, h1, e1, h10, h13, hd1⟩ := kind_ex W.w1 o.p0.1 o.p0.2
  obtain ⟨v2, h2, e2, h20, h23, hd2⟩ := kind_ex W.w2 o.q0.1 o.q0.2
  simp only at e1 e2 hd1 hd2
  have a1 : h1.toNat = heldN k1 p := by omega
  have a2 : h2.toNat = heldN k2 q := by omega
  unfold t_step
  simp [u_step_1]
  refine dSeq_mk ?_
  simp
  refine ⟨c, rfl, ?_⟩
  refine dSeq_mk ?_
  simp [-isObj]
  refine lc_mk ?_
  simp [-isObj]
  refine ⟨isW W.hx (by decide), held_mk W.hx W.w1 ?_⟩
  simp [atI_held o.p0.1 e1]
  refine ⟨by omega, by omega, fun A hA => ?_⟩
  refine lcRun_all (fun i : Nat => Dv.int i) (fun i : Nat => nmD (.fst i)) (List.range h1.toNat) (by simp; omega) (fun _ => trivial) (fun i hi => ⟨_, rfl, fun acc N hN => by simp; exact hN⟩) ?_
  simp
  intro L LA hL
  have TA : (up (up S A (.lst ((List.range h1.toNat).map fun i : Nat => nmD (.fst i)))) L (.lst [.ref A])) A = some (.lst ((ns1 h1.toNat).map nmD)) := by rw [up_ne (Ne.symm LA), up_same, ns1, List.map_map]; rfl
  have TL : (up (up S A (.lst ((List.range h1.toNat).map fun i : Nat => nmD (.fst i)))) L (.lst [.ref A])) L = some (.lst [.ref A]) := up_same
  have T0 : Ext S (up (up S A (.lst ((List.range h1.toNat).map fun i : Nat => nmD (.fst i)))) L (.lst [.ref A])) := (Ext.refl.up_new hA).up_new hL
  generalize (up (up S A (.lst ((List.range h1.toNat).map fun i : Nat => nmD (.fst i)))) L (.lst [.ref A])) = T at *
  have WT := W.ext T0
  unfold u_step_4
  refine dSeq_mk ?_
  simp [-isObj, TL]
  refine lc_mk ?_
  simp [-isObj]
  refine ⟨isW WT.hy (by decide), held_mk WT.hy W.w2 ?_⟩
  simp [atI_held o.q0.1 e2]
  refine ⟨by omega, by omega, fun B hB => ?_⟩
  refine lcRun_all (fun i : Nat => Dv.int i) (fun i : Nat => nmD (.snd i)) (List.range h2.toNat) (by simp; omega) (fun _ => trivial) (fun i hi => ⟨_, rfl, fun acc N hN => by simp; exact hN⟩) ?_
  have LB : L ≠ B := some_ne TL hB
  have AB : A ≠ B := some_ne TA hB
  simp only [up_ne LB, TL]
  refine ⟨by simp, ?_⟩
  have e0 : ((List.range h2.toNat).map fun i : Nat => nmD (.snd i)) = (nsSet ((List.range h2.toNat).map fun j : Nat => Nm.snd j) []).map nmD := by rw [nsSet, List.map_map]; rfl
  rw [e0, up_comm LB.symm]
  have UA : (up T L (.lst ([.ref A] ++ [.ref B]))) A = some (.lst ((ns1 h1.toNat).map nmD)) := by rw [up_ne (Ne.symm LA)]; exact TA
  have UL : (up T L (.lst ([.ref A] ++ [.ref B]))) L = some (.lst [.ref A, .ref B]) := up_same
  have UB : (up T L (.lst ([.ref A] ++ [.ref B]))) B = none := by rw [up_ne LB.symm]; exact hB
  have U0 : Ext S (up T L (.lst ([.ref A] ++ [.ref B]))) := T0.up_new hL
  generalize (up T L (.lst ([.ref A] ++ [.ref B]))) = U at *
  have rng := o.rng
  simp only at rng
  unfold u_step_5
  refine dSeq_mk ?_
  simp [-isObj]
  refine forL_enc prD (fun i δ' S' => ∃ u v, δ' = [some (.tup [.ref x, .ref y]), some (siD (p, q, ps)), some (.int w), some (csD c), some (.int p), some (.int q), some (.tup (ps.map prD)), some (.tup [tsD (tst1 c), tsD (tst2 c)]), some (.ref L), u, v, none, none, none, none, none, none, none, none] ∧ S' = up U B (.lst ((nsSet ((List.range h2.toNat).map fun j : Nat => Nm.snd j) (ps.take i)).map nmD))) ⟨none, none, rfl, by simp⟩ (fun i pr δ' S' hi hI N hN => ?_) fun δ' S' hI => ?_
  · obtain ⟨u, v, rfl, rfl⟩ := hI
    have hm := List.mem_of_getElem? hi
    obtain ⟨⟨_, _⟩, j0, j1⟩ := rng pr hm
    refine ⟨trivial, _, rfl, ?_⟩
    have ix : ixN (nsSet ((List.range h2.toNat).map fun j : Nat => Nm.snd j) (ps.take i)).length pr.2 = some pr.2.toNat := by
      obtain ⟨n, hn⟩ := Int.eq_ofNat_of_zero_le j0
      rw [hn, nsSet_len]
      rw [ixN_nat]
      simp
      omega
    have BL : B ≠ L := LB.symm
    simp [up_ne LB, UL, ix]
    refine hN _ _ ⟨_, _, rfl, ?_⟩
    rw [List.take_add_one, hi]
    simp only [Option.toList_some, nsSet_snoc, List.map_set]
    rfl
  · obtain ⟨u, v, rfl, rfl⟩ := hI
    refine ⟨trivial, ?_⟩
    rw [List.take_length]
    have e3 : nsSet ((List.range h2.toNat).map fun j : Nat => Nm.snd j) ps = ns2 h2.toNat ps := rfl
    rw [e3]
    have VA : (up U B (.lst ((ns2 h2.toNat ps).map nmD))) A = some (.lst ((ns1 h1.toNat).map nmD)) := by rw [up_ne AB]; exact UA
    have VL : (up U B (.lst ((ns2 h2.toNat ps).map nmD))) L = some (.lst [.ref A, .ref B]) := by rw [up_ne LB]; exact UL
    have VB : (up U B (.lst ((ns2 h2.toNat ps).map nmD))) B = some (.lst ((ns2 h2.toNat ps).map nmD)) := up_same
    have V0 : Ext S (up U B (.lst ((ns2 h2.toNat ps).map nmD))) := U0.up_new (none_back U0 UB)
    generalize (up U B (.lst ((ns2 h2.toNat ps).map nmD))) = V at *
    have WV := W.ext V0
    have nd1 := ns1_ok h1.toNat
    have asc := o.asc
    have inj := o.inj
    simp only at asc inj
    have nd2 := ns2_ok (h := h2.toNat) asc inj fun p hp => (rng p hp).2.1
    have ro1 := rf_ok W.w1 (s := p) o.p0.1 o.p0.2 w (tst1 c)
    have ro2 := rf_ok W.w2 (s := q) o.q0.1 o.q0.2 w (tst2 c)
    unfold stepS at h
    simp only at h
    rw [← a1, ← a2] at h
    rw [← a1] at ro1
    rw [← a2] at ro2
    generalize g1e : ruleFor r1 p w (tst1 c) (h1.toNat : Int) = g1 at *
    generalize g2e : ruleFor r2 q w (tst2 c) (h2.toNat : Int) = g2 at *
    have z1 : ((h1.toNat : Nat) : Int) = h1 := by omega
    have z2 : ((h2.toNat : Nat) : Int) = h2 := by omega
    rw [z1] at g1e
    rw [z2] at g2e
    unfold u_step_7
    refine dSeq_mk ?_
    simp [-isObj]
    refine ⟨isW WV.hx (by decide), x, p, w, tst1 c, n1, v1, h1, k1, r1, rfl, WV.hx, o.p0.1, e1, ⟨h10, h13⟩, ?_⟩
    rw [g1e]
    simp
    unfold u_step_8
    refine dSeq_mk ?_
    simp [-isObj]
    refine ⟨isW WV.hy (by decide), y, q, w, tst2 c, n2, v2, h2, k2, r2, rfl, WV.hy, o.q0.1, e2, ⟨h20, h23⟩, ?_⟩
    rw [g2e]
    simp [tgD]
    have in1 : ∀ s ∈ g1.2, ∀ i, s = some i → 0 ≤ i ∧ i < (ns1 h1.toNat).length := fun s hs i e => by
      have := ro1.ok s hs
      subst e
      rw [nd1.1]
      exact this
    have in2 : ∀ s ∈ g2.2, ∀ i, s = some i → 0 ≤ i ∧ i < (ns2 h2.toNat ps).length := fun s hs i e => by
      have := ro2.ok s hs
      subst e
      rw [nd2.1]
      exact this
    have l2 : g2.2.length ≤ 3 := by
      rw [ro2.len]
      obtain ⟨_, h', _, _, h3, e⟩ := kind_ex W.w2 ro2.g0.1 ro2.g0.2
      omega
    have l1 : g1.2.length ≤ 3 := by
      rw [ro1.len]
      obtain ⟨_, h', _, _, h3, e⟩ := kind_ex W.w1 ro1.g0.1 ro1.g0.2
      omega
    unfold u_step_9
    refine dSeq_mk ?_
    simp [-isObj]
    rw [show dDc = dDc from rfl]
    unfold dDc
    simp [-isObj]
    intro D hD
    have AD : A ≠ D := some_ne VA hD
    have LD : L ≠ D := some_ne VL hD
    have BD : B ≠ D := some_ne VB hD
    rw [List.zipIdx_map, List.map_map]
    refine dcRun_nm (fun z : Option Int × Nat => Dv.tup [.int (z.2 : Int), srD z.1]) (fun z => (carr z.1 (tst2 c) (ns2 h2.toNat ps), z.2)) g2.2.zipIdx [] ?_ (by simp; omega) (fun _ => trivial) (fun z hz => ⟨_, rfl, ?_, ?_⟩) ?_
    · simp only [List.nil_append, List.map_map]
      have e : (g2.2.zipIdx.map ((fun x : Nm × Nat => x.1) ∘ fun z : Option Int × Nat => (carr z.1 (tst2 c) (ns2 h2.toNat ps), z.2))) = g2.2.map fun s => carr s (tst2 c) (ns2 h2.toNat ps) := by
        rw [← List.zipIdx_map_fst 0 g2.2, List.map_map]
        simp [Function.comp_def]
      rw [e, List.nodup_iff_pairwise_ne, List.pairwise_map]
      exact (List.nodup_iff_pairwise_ne.mp ro2.nd).imp_of_mem fun {a b} ha hb hne he => hne (carr_inj nd2.1 nd2.2.1 nd2.2.2 (ro2.ok a ha) (ro2.ok b hb) he)
    · intro o' N hN
      simp [up_ne LD, VL]
      refine ⟨z.1, tst2 c, B, ns2 h2.toNat ps, rfl, ?_, in2 z.1 (List.fst_mem_of_mem_zipIdx hz), hN⟩
      rw [up_ne BD]
      exact VB
    · intro o' N hN
      simp
      exact hN
    · have e4 : [] ++ g2.2.zipIdx.map (fun z => (carr z.1 (tst2 c) (ns2 h2.toNat ps), z.2)) = plc (tst2 c) (ns2 h2.toNat ps) g2.2 := rfl
      rw [e4]
      generalize plc (tst2 c) (ns2 h2.toNat ps) g2.2 = pl at *
      unfold u_step_10
      refine dSeq_mk ?_
      simp [-isObj]
      intro M MD hM
      have MA : M ≠ A := (some_ne VA hM).symm
      have ML : M ≠ L := (some_ne VL hM).symm
      have X0' : Ext S (up V D (.ndc (pl.map fun p => (nmD p.1, Dv.int (p.2 : Int))))) := V0.up_new (none_back V0 hD)
      have XD : (up V D (.ndc (pl.map fun p => (nmD p.1, Dv.int (p.2 : Int))))) D = some (.ndc (pl.map fun p => (nmD p.1, Dv.int (p.2 : Int)))) := up_same
      have XA : (up V D (.ndc (pl.map fun p => (nmD p.1, Dv.int (p.2 : Int))))) A = some (.lst ((ns1 h1.toNat).map nmD)) := by rw [up_ne AD]; exact VA
      have XL : (up V D (.ndc (pl.map fun p => (nmD p.1, Dv.int (p.2 : Int))))) L = some (.lst [.ref A, .ref B]) := by rw [up_ne LD]; exact VL
      have XM : (up V D (.ndc (pl.map fun p => (nmD p.1, Dv.int (p.2 : Int))))) M = none := by rw [up_ne MD]; exact hM
      generalize (up V D (.ndc (pl.map fun p => (nmD p.1, Dv.int (p.2 : Int))))) = Y at *
      have e5 : O.lst [] = .lst ((fnd (tst1 c) (ns1 h1.toNat) pl (g1.2.take 0)).map prD) := rfl
      rw [e5]
      unfold u_step_11
      refine dSeq_mk ?_
      simp [-isObj]
      rw [List.zipIdx_map, List.map_map]
      refine forL_enc (fun z : Option Int × Nat => Dv.tup [.int (z.2 : Int), srD z.1]) (fun i δ' S' => ∃ u1 u2 u3, δ' = [some (.tup [.ref x, .ref y]), some (siD (p, q, ps)), some (.int w), some (csD c), some (.int p), some (.int q), some (.tup (ps.map prD)), some (.tup [tsD (tst1 c), tsD (tst2 c)]), some (.ref L), u1, v, some (.int g1.1), some (.tup (g1.2.map srD)), some (.int g2.1), some (.tup (g2.2.map srD)), some (.ref D), some (.ref M), u2, u3] ∧ S' = up Y M (.lst ((fnd (tst1 c) (ns1 h1.toNat) pl (g1.2.take i)).map prD))) ⟨_, _, _, rfl, rfl⟩ (fun i z δ' S' hi hI N hN => ?_) fun δ' S' hI => ?_
      · obtain ⟨u1, u2, u3, rfl, rfl⟩ := hI
        obtain ⟨hz, ez⟩ : g1.2[i]? = some z.1 ∧ z.2 = i := by
          rw [List.getElem?_zipIdx] at hi
          obtain ⟨y', h1', h2'⟩ := Option.map_eq_some_iff.mp hi
          subst h2'
          exact ⟨h1', by simp⟩
        have hm := List.mem_of_getElem? hz
        have il : i < g1.2.length := (List.getElem?_eq_some_iff.mp hz).1
        refine ⟨trivial, _, rfl, ?_⟩
        unfold u_step_12
        refine dSeq_mk ?_
        simp [-isObj, up_ne (Ne.symm ML), XL]
        refine ⟨z.1, tst1 c, A, ns1 h1.toNat, rfl, ?_, in1 z.1 hm, ?_⟩
        · rw [up_ne (Ne.symm MA)]
          exact XA
        have sn := fnd_snoc (tst1 c) (ns1 h1.toNat) pl (g1.2.take i) z.1
        have tk : g1.2.take i ++ [z.1] = g1.2.take (i + 1) := by rw [List.take_add_one, hz]; rfl
        rw [tk, List.length_take, Nat.min_eq_left (Nat.le_of_lt il)] at sn
        have fl : (fnd (tst1 c) (ns1 h1.toNat) pl (g1.2.take i)).length ≤ 3 := Nat.le_trans (fnd_len _ _ _ _) (Nat.le_trans (by simp; omega) l1)
        have MD' : D ≠ M := Ne.symm MD
        simp [-isObj, up_ne MD', XD, kOk_nm, dval_nm]
        rw [dval_nm]
        cases lk : pl.lookup (carr z.1 (tst1 c) (ns1 h1.toNat)) with
        | none =>
          rw [lk] at sn
          simp only [List.append_nil] at sn
          simp
          exact hN _ _ ⟨_, _, _, rfl, by rw [sn]⟩
        | some j =>
          rw [lk] at sn
          simp
          refine ⟨by omega, hN _ _ ⟨_, _, _, rfl, ?_⟩⟩
          rw [sn, ez]
          simp [prD]
      · obtain ⟨u1, u2, u3, rfl, rfl⟩ := hI
        refine ⟨trivial, ?_⟩
        simp
        exact VS.sub (X0'.up_new (none_back X0' XM)) h
theorem dfn_step {P : Program} {w : World} {K : PySem.W.Frag} {mg : Str → Option Value} {base : Heap} {f : Addr} {fd : FuncData} (F : Fun K "step" "step" s_step f fd) (C_tests_of : Cal P w K mg base 1 "tests_of" p_tests_of sp_tests_of) (z_range : mg "range" = none) (C_Watcher_held_counts : CalM P w K mg base 2 "Watcher" "held_counts" p_Watcher_held_counts sp_Watcher_held_counts) (C_Watcher_rule_for : CalM P w K mg base 2 "Watcher" "rule_for" p_Watcher_rule_for sp_Watcher_rule_for) (z_enumerate : mg "enumerate" = none) (C_carried : Cal P w K mg base 1 "carried" p_carried sp_carried) (z_tuple : mg "tuple" = none) : DFn P w K mg base 4 f fd p_step sp_step :=
  Fun.okD (k := 3) (t := t_step ⟨K, w, mg⟩) F sc_step len_step (fun cdv A outer s H Pe E hgd hr px =>
  (dss_cons (ds_asg (dv 1) (dp_tp rfl (dps_cons (dp_nm sc_step.nd) (dps_cons (dp_nm sc_step.nd) (dps_cons (dp_nm sc_step.nd) dps_nil)))))
  (dss_cons (ds_set sc_step.nd (de_fn C_tests_of hgd hr (da_cons (dv 3) da_nil)))
  (dss_cons (ds_set sc_step.nd (de_lst (da_cons (de_lc (own := [("i", 9)]) rfl sc_step.nd (di_range1 (by rfl) z_range (da_cons (de_ix (de_meth0 C_Watcher_held_counts hgd hr (de_ix (dv 0) de_int)) (dv 4)) da_nil)) (blkOk_by (own := [("i", 9)]) (N := n_step) (sc := defScope s_step) (by decide +kernel)) (fun _ _ _ _ _ => (dp_nm sc_step.nd)) (fun _ _ _ _ _ => dts_nil) (fun _ _ _ _ _ => (de_tup (da_cons de_str (da_cons (dv 9) da_nil))))) da_nil)))
  (dss_cons (ds_expr (de_bm mg_append PySem.F.plainAttrs_list PySem.F.slot_list_append PySem.F.type_list_append (dv 8) (da_cons (de_lc (own := [("j", 10)]) rfl sc_step.nd (di_range1 (by rfl) z_range (da_cons (de_ix (de_meth0 C_Watcher_held_counts hgd hr (de_ix (dv 0) de_int)) (dv 5)) da_nil)) (blkOk_by (own := [("j", 10)]) (N := n_step) (sc := defScope s_step) (by decide +kernel)) (fun _ _ _ _ _ => (dp_nm sc_step.nd)) (fun _ _ _ _ _ => dts_nil) (fun _ _ _ _ _ => (de_tup (da_cons de_str (da_cons (dv 10) da_nil))))) da_nil)))
  (dss_cons (ds_for (passes_of rfl) rfl (di_tup (dv 6)) (dp_tp rfl (dps_cons (dp_nm sc_step.nd) (dps_cons (dp_nm sc_step.nd) dps_nil)))
  (dss_one (ds_setIx (de_tup (da_cons de_str (da_cons (dv 9) da_nil))) (de_ix (dv 8) de_int) (dv 10))))
  (dss_cons (ds_asg (de_meth C_Watcher_rule_for hgd hr (de_ix (dv 0) de_int) (da_cons (dv 4) (da_cons (dv 2) (da_cons (de_ix (dv 7) de_int) da_nil)))) (dp_tp rfl (dps_cons (dp_nm sc_step.nd) (dps_cons (dp_nm sc_step.nd) dps_nil))))
  (dss_cons (ds_asg (de_meth C_Watcher_rule_for hgd hr (de_ix (dv 0) de_int) (da_cons (dv 5) (da_cons (dv 2) (da_cons (de_ix (dv 7) de_int) da_nil)))) (dp_tp rfl (dps_cons (dp_nm sc_step.nd) (dps_cons (dp_nm sc_step.nd) dps_nil))))
  (dss_cons (ds_setDc (own := [("j", 10), ("source", 17)]) (units_64 hr) rfl sc_step.nd (di_enumT (by rfl) z_enumerate (da_cons (dv 14) da_nil)) (blkOk_by (own := [("j", 10), ("source", 17)]) (N := n_step) (sc := defScope s_step) (by decide +kernel)) (fun _ _ _ _ _ => (dp_tp rfl (dps_cons (dp_nm sc_step.nd) (dps_cons (dp_nm sc_step.nd) dps_nil)))) (fun _ _ _ _ _ => dts_nil) (fun _ _ _ _ _ => (de_fn C_carried hgd hr (da_cons (dv 17) (da_cons (de_ix (dv 7) de_int) (da_cons (de_ix (dv 8) de_int) da_nil))))) (fun _ _ _ _ _ => (dv 10)))
  (dss_cons (ds_set sc_step.nd (de_lst da_nil))
  (dss_cons (ds_for (passes_of rfl) rfl (di_enumT (by rfl) z_enumerate (da_cons (dv 12) da_nil)) (dp_tp rfl (dps_cons (dp_nm sc_step.nd) (dps_cons (dp_nm sc_step.nd) dps_nil)))
  (dss_cons (ds_set sc_step.nd (de_fn C_carried hgd hr (da_cons (dv 17) (da_cons (de_ix (dv 7) de_int) (da_cons (de_ix (dv 8) de_int) da_nil)))))
  (dss_one (ds_if (dt_nin (units_64 hr) (dv 18) (dv 15))
  (dss_one (ds_expr (de_bm mg_append PySem.F.plainAttrs_list PySem.F.slot_list_append PySem.F.type_list_append (dv 16) (da_cons (de_tup (da_cons (dv 9) (da_cons (de_nget (units_64 hr) (dv 15) (dv 18)) da_nil))) da_nil))))
  dss_nil))))
  (dss_one (ds_ret (de_tup (da_cons (dv 11) (da_cons (dv 13) (da_cons (de_callTy cg_tuple (by rfl) z_tuple (by decide +kernel) (da_cons (dv 16) da_nil)) da_nil))))))))))))))))) (hsp_step ⟨K, w, mg⟩)
theorem ok_step {P : Program} {w : World} {K : PySem.W.Frag} {mg : Str → Option Value} {base : Heap} (D : Def K mg "step" "step" s_step) (C_tests_of : Cal P w K mg base 1 "tests_of" p_tests_of sp_tests_of) (z_range : mg "range" = none) (C_Watcher_held_counts : CalM P w K mg base 2 "Watcher" "held_counts" p_Watcher_held_counts sp_Watcher_held_counts) (C_Watcher_rule_for : CalM P w K mg base 2 "Watcher" "rule_for" p_Watcher_rule_for sp_Watcher_rule_for) (z_enumerate : mg "enumerate" = none) (C_carried : Cal P w K mg base 1 "carried" p_carried sp_carried) (z_tuple : mg "tuple" = none) : Cal P w K mg base 4 "step" p_step sp_step :=
  let ⟨f, fd, F, hm⟩ := D.ex
  ⟨f, fd, hm, F.kp, F.binds (ps := p_step) fun _ _ _ _ _ _ us hl => match us, hl with | [_, _, _, _], _ => rfl, dfn_step F C_tests_of z_range C_Watcher_held_counts C_Watcher_rule_for z_enumerate C_carried z_tuple⟩

--@cut
/-! ### a step of a situation is a situation -/
theorem mem_lk {α β : Type} [BEq α] [LawfulBEq α] : ∀ {l : List (α × β)} {a : α} {b : β}, l.lookup a = some b → (a, b) ∈ l
  | (x, y) :: ps, a, b, h => by
    rw [List.lookup_cons] at h
    cases e : a == x with
    | true =>
      rw [e] at h
      cases h
      rw [eq_of_beq e]
      simp
    | false =>
      rw [e] at h
      exact List.mem_cons_of_mem _ (mem_lk h)
theorem plc_at {t : Option Int} {ns : List Nm} {vs : List (Option Int)} {x : Nm} {j : Nat} (h : (plc t ns vs).lookup x = some j) : ∃ v, vs[j]? = some v ∧ carr v t ns = x := by
  have m := mem_lk h
  unfold plc at m
  obtain ⟨⟨v, k⟩, hp, e⟩ := List.mem_map.mp m
  simp only [Prod.mk.injEq] at e
  obtain ⟨e1, rfl⟩ := e
  exact ⟨v, by simpa [List.mk_mem_zipIdx_iff_getElem?] using hp, e1⟩
theorem zipIdx_lt {α : Type} (l : List α) : l.zipIdx.Pairwise fun a b => a.2 < b.2 := by
  rw [List.pairwise_iff_getElem]
  intro i j hi hj hij
  simp
  exact hij
theorem step_ok {n1 n2 : Int} {k1 k2 : List (Int × Int)} {r1 r2 : List (Ru × Tg)} (w1 : Wf n1 k1 r1) (w2 : Wf n2 k2 r2) {s : Sit} (o : SitOk k1 k2 s) (w : Int) (c : Cs) : SitOk k1 k2 (stepS k1 r1 k2 r2 s w c) := by
  have ro1 := rf_ok w1 o.p0.1 o.p0.2 w (tst1 c)
  have ro2 := rf_ok w2 o.q0.1 o.q0.2 w (tst2 c)
  have nd1 := ns1_ok (heldN k1 s.1)
  have nd2 := ns2_ok (h := heldN k2 s.2.1) o.asc o.inj fun p hp => (o.rng p hp).2.1
  unfold stepS
  dsimp only
  generalize ruleFor r1 s.1 w (tst1 c) (heldN k1 s.1) = g1 at *
  generalize ruleFor r2 s.2.1 w (tst2 c) (heldN k2 s.2.1) = g2 at *
  generalize ns1 (heldN k1 s.1) = m1 at *
  generalize ns2 (heldN k2 s.2.1) s.2.2 = m2 at *
  have look : ∀ {p : Option Int × Nat} {j : Nat}, p ∈ g1.2.zipIdx → (plc (tst2 c) m2 g2.2).lookup (carr p.1 (tst1 c) m1) = some j → p.2 < g1.2.length ∧ j < g2.2.length := fun hp h => by
    obtain ⟨v, hv, _⟩ := plc_at h
    have := (List.getElem?_eq_some_iff.mp hv).1
    have h2 := List.mem_zipIdx_iff_getElem?.mp hp
    exact ⟨(List.getElem?_eq_some_iff.mp h2).1, this⟩
  refine ⟨ro1.g0, ro2.g0, ?_, ?_, ?_⟩
  · simp only
    unfold fnd
    rw [List.pairwise_filterMap]
    refine (zipIdx_lt g1.2).imp fun {a b} hab p hp q hq => ?_
    obtain ⟨x, _, rfl⟩ := Option.map_eq_some_iff.mp hp
    obtain ⟨y, _, rfl⟩ := Option.map_eq_some_iff.mp hq
    simp only
    omega
  · simp only
    unfold fnd
    rw [List.nodup_iff_pairwise_ne, List.pairwise_map, List.pairwise_filterMap]
    refine (zipIdx_lt g1.2).imp_of_mem fun {a b} ha hb hab p hp q hq => ?_
    obtain ⟨x, hx, rfl⟩ := Option.map_eq_some_iff.mp hp
    obtain ⟨y, hy, rfl⟩ := Option.map_eq_some_iff.mp hq
    simp only
    intro e
    have e : x = y := by omega
    subst e
    obtain ⟨v, hv, e1⟩ := plc_at hx
    obtain ⟨v', hv', e2⟩ := plc_at hy
    rw [hv] at hv'
    cases hv'
    have ga := List.mem_zipIdx_iff_getElem?.mp ha
    have gb := List.mem_zipIdx_iff_getElem?.mp hb
    have := carr_inj nd1.1 nd1.2.1 nd1.2.2 (ro1.ok _ (List.mem_of_getElem? ga)) (ro1.ok _ (List.mem_of_getElem? gb)) (e1.symm.trans e2)
    obtain ⟨la, ea⟩ := List.getElem?_eq_some_iff.mp ga
    obtain ⟨lb, eb⟩ := List.getElem?_eq_some_iff.mp gb
    have := (List.getElem_inj (i := a.2) (j := b.2) ro1.nd (h₀ := la) (h₁ := lb)).mp (by rw [ea, eb, this])
    omega
  · intro p hp
    simp only at hp ⊢
    unfold fnd at hp
    obtain ⟨a, ha, e⟩ := List.mem_filterMap.mp hp
    obtain ⟨x, hx, rfl⟩ := Option.map_eq_some_iff.mp e
    have := look ha hx
    rw [ro1.len, ro2.len] at this
    simp only
    omega

--@cut
/-! ### situations that are reached -/
/-- moves from a situation -/
def mvOk (n : Int) (k1 k2 : List (Int × Int)) (s : Sit) (m : Int × Cs) : Prop := 0 ≤ m.1 ∧ m.1 < n ∧ m.2 ∈ casesS (heldN k1 s.1) (heldN k2 s.2.1) s.2.2
inductive SRch (n : Int) (k1 : List (Int × Int)) (r1 : List (Ru × Tg)) (k2 : List (Int × Int)) (r2 : List (Ru × Tg)) (s0 : Sit) : Sit → Prop
  | zero : SRch n k1 r1 k2 r2 s0 s0
  | step {s : Sit} {m : Int × Cs} : SRch n k1 r1 k2 r2 s0 s → mvOk n k1 k2 s m → SRch n k1 r1 k2 r2 s0 (stepS k1 r1 k2 r2 s m.1 m.2)
abbrev Fd := Sit × Option (Sit × Int × Cs)
def fdD (e : Fd) : Dv × Dv := (siD e.1, match e.2 with | none => .non | some m => .tup [siD m.1, .int m.2.1, csD m.2.2])
theorem fd_none {s : Sit} : ∀ {fs : List Fd}, s ∉ fs.map (·.1) → dval (fs.map fdD) (siD s) = none
  | [], _ => rfl
  | y :: ys, h => by
    simp only [List.map_cons, List.mem_cons, not_or] at h
    have ne : ¬ siD y.1 = siD s := fun z => h.1 (siD_inj z).symm
    simp only [List.map_cons, fdD, dval, ne, if_false]
    exact fd_none h.2
theorem fd_some {s : Sit} : ∀ {fs : List Fd}, s ∈ fs.map (·.1) → (dval (fs.map fdD) (siD s)).isSome = true
  | y :: ys, h => by
    by_cases ne : siD y.1 = siD s
    · simp only [List.map_cons, fdD, dval, ne, if_true, Option.isSome_some]
    · simp only [List.map_cons, fdD, dval, ne, if_false]
      simp only [List.map_cons, List.mem_cons] at h
      exact fd_some (h.resolve_left fun z => ne (by rw [z]))
theorem fd_put {fs : List Fd} {s : Sit} {m : Sit × Int × Cs} (h : s ∉ fs.map (·.1)) : dput (fs.map fdD) (siD s) (.tup [siD m.1, .int m.2.1, csD m.2.2]) = (fs ++ [(s, some m)]).map fdD := by
  unfold dput
  rw [fd_none h]
  simp [fdD]
/-- the search: W still waits, no: what is not looked at whole -/
structure Srch (n : Int) (k1 : List (Int × Int)) (r1 : List (Ru × Tg)) (k2 : List (Int × Int)) (r2 : List (Ru × Tg)) (s0 : Sit) (goal : Sit → Bool) (fs : List Fd) (W : List Sit) (no : Sit → Prop) : Prop where
  nd : (fs.map (·.1)).Nodup
  ok : ∀ s ∈ fs.map (·.1), SitOk k1 k2 s
  hd : fs.head? = some (s0, none)
  rch : ∀ s ∈ fs.map (·.1), SRch n k1 r1 k2 r2 s0 s
  how : ∀ i e, fs[i]? = some e → (i = 0 ∧ e.2 = none) ∨ ∃ m : Sit × Int × Cs, e.2 = some m ∧ m.1 ∈ (fs.take i).map (·.1) ∧ mvOk n k1 k2 m.1 m.2 ∧ e.1 = stepS k1 r1 k2 r2 m.1 m.2.1 m.2.2
  sub : ∀ s ∈ W, s ∈ fs.map (·.1)
  clo : ∀ s ∈ fs.map (·.1), s ∉ W → ¬ no s → goal s = false ∧ ∀ m, mvOk n k1 k2 s m → stepS k1 r1 k2 r2 s m.1 m.2 ∈ fs.map (·.1)
section
variable {n : Int} {k1 : List (Int × Int)} {r1 : List (Ru × Tg)} {k2 : List (Int × Int)} {r2 : List (Ru × Tg)} {s0 : Sit} {goal : Sit → Bool} {fs : List Fd} {W : List Sit} {no : Sit → Prop}
theorem Srch.start (o : SitOk k1 k2 s0) : Srch n k1 r1 k2 r2 s0 goal [(s0, none)] [s0] fun _ => False :=
  ⟨by simp, by simpa using o, rfl, by simp; exact .zero, fun i e h => by
    cases i with
    | zero => cases h; exact .inl ⟨rfl, rfl⟩
    | succ i => simp at h, by simp, by simp⟩
theorem Srch.add (w : Srch n k1 r1 k2 r2 s0 goal fs W no) {h : Sit} {m : Int × Cs} {a : Sit} (ea : a = stepS k1 r1 k2 r2 h m.1 m.2) (oa : SitOk k1 k2 a) (hh : h ∈ fs.map (·.1)) (hm : mvOk n k1 k2 h m) (hn : a ∉ fs.map (·.1)) : Srch n k1 r1 k2 r2 s0 goal (fs ++ [(a, some (h, m))]) (W ++ [a]) no := by
  refine ⟨?_, ?_, ?_, ?_, ?_, ?_, ?_⟩
  · rw [List.map_append, List.nodup_append]
    exact ⟨w.nd, by simp, fun x hx y hy e => by simp at hy; subst hy; subst e; exact hn hx⟩
  · intro s hs
    rw [List.map_append] at hs
    rcases List.mem_append.mp hs with q | q
    · exact w.ok s q
    · simp at q; subst q; exact oa
  · have := w.hd
    cases fs with
    | nil => cases this
    | cons y ys => exact this
  · intro s hs
    rw [List.map_append] at hs
    rcases List.mem_append.mp hs with q | q
    · exact w.rch s q
    · simp at q; subst q; rw [ea]; exact .step (w.rch h hh) hm
  · intro i e he
    by_cases hi : i < fs.length
    · rw [List.getElem?_append_left hi] at he
      rcases w.how i e he with q | ⟨m', h1, h2, h3, h4⟩
      · exact .inl q
      · exact .inr ⟨m', h1, by rw [List.take_append_of_le_length (Nat.le_of_lt hi)]; exact h2, h3, h4⟩
    · have hi2 : i = fs.length := by
        have := (List.getElem?_eq_some_iff.mp he).1
        simp at this
        omega
      subst hi2
      simp at he
      subst he
      exact .inr ⟨(h, m), rfl, by rw [List.take_left']; exact hh; rfl, hm, ea⟩
  · intro s hs
    rw [List.map_append]
    rcases List.mem_append.mp hs with q | q
    · exact List.mem_append_left _ (w.sub s q)
    · simp at q; subst q; simp
  · intro s hs hw hno
    rw [List.map_append] at hs
    rcases List.mem_append.mp hs with q | q
    · obtain ⟨h1, h2⟩ := w.clo s q (fun z => hw (List.mem_append_left _ z)) hno
      exact ⟨h1, fun m hm => by rw [List.map_append]; exact List.mem_append_left _ (h2 m hm)⟩
    · simp at q; subst q; exact absurd (List.mem_append_right _ (by simp)) hw
end
/-- what explored gives -/
structure Expl (n : Int) (k1 : List (Int × Int)) (r1 : List (Ru × Tg)) (k2 : List (Int × Int)) (r2 : List (Ru × Tg)) (s0 : Sit) (goal : Sit → Bool) (fs : List Fd) (g : Option Sit) : Prop where
  nd : (fs.map (·.1)).Nodup
  ok : ∀ s ∈ fs.map (·.1), SitOk k1 k2 s
  hd : fs.head? = some (s0, none)
  rch : ∀ s ∈ fs.map (·.1), SRch n k1 r1 k2 r2 s0 s
  how : ∀ i e, fs[i]? = some e → (i = 0 ∧ e.2 = none) ∨ ∃ m : Sit × Int × Cs, e.2 = some m ∧ m.1 ∈ (fs.take i).map (·.1) ∧ mvOk n k1 k2 m.1 m.2 ∧ e.1 = stepS k1 r1 k2 r2 m.1 m.2.1 m.2.2
  no : g = none → ∀ s, SRch n k1 r1 k2 r2 s0 s → s ∈ fs.map (·.1) ∧ goal s = false
  hit : ∀ s, g = some s → s ∈ fs.map (·.1) ∧ goal s = true
theorem Srch.hit {n : Int} {k1 : List (Int × Int)} {r1 : List (Ru × Tg)} {k2 : List (Int × Int)} {r2 : List (Ru × Tg)} {s0 : Sit} {goal : Sit → Bool} {fs : List Fd} {W : List Sit} {no : Sit → Prop} (w : Srch n k1 r1 k2 r2 s0 goal fs W no) {s : Sit} (h : s ∈ fs.map (·.1)) (hg : goal s = true) : Expl n k1 r1 k2 r2 s0 goal fs (some s) :=
  ⟨w.nd, w.ok, w.hd, w.rch, w.how, (fun e => by cases e), (fun t e => by cases e; exact ⟨h, hg⟩)⟩
theorem Srch.none {n : Int} {k1 : List (Int × Int)} {r1 : List (Ru × Tg)} {k2 : List (Int × Int)} {r2 : List (Ru × Tg)} {s0 : Sit} {goal : Sit → Bool} {fs : List Fd} (w : Srch n k1 r1 k2 r2 s0 goal fs [] fun _ => False) : Expl n k1 r1 k2 r2 s0 goal fs none := by
  have all : ∀ s, SRch n k1 r1 k2 r2 s0 s → s ∈ fs.map (·.1) := fun s h => by
    induction h with
    | zero => exact List.mem_map.mpr ⟨_, List.mem_of_head? w.hd, rfl⟩
    | step _ hm ih => exact (w.clo _ ih (by simp) fun z => z).2 _ hm
  exact ⟨w.nd, w.ok, w.hd, w.rch, w.how, fun _ s hs => ⟨all s hs, (w.clo s (all s hs) (by simp) fun z => z).1⟩, (fun s e => by cases e)⟩
/-! a bound on what is found -/
def nine : List (Int × Int) := [(0, 0), (0, 1), (0, 2), (1, 0), (1, 1), (1, 2), (2, 0), (2, 1), (2, 2)]
def some_of : Nat → List (List (Int × Int))
  | 0 => [[]]
  | n + 1 => [] :: nine.flatMap fun x => (some_of n).map fun l => x :: l
theorem mem_some_of : ∀ (n : Nat) (ps : List (Int × Int)), ps.length ≤ n → (∀ p ∈ ps, p ∈ nine) → ps ∈ some_of n
  | 0, ps, h, _ => by
    have : ps = [] := List.length_eq_zero_iff.mp (by omega)
    subst this
    simp [some_of]
  | n + 1, [], _, _ => by simp [some_of]
  | n + 1, x :: ps, h, hm => by
    refine List.mem_cons_of_mem _ (List.mem_flatMap.mpr ⟨x, hm x (by simp), List.mem_map.mpr ⟨ps, mem_some_of n ps (by simpa using h) fun p hp => hm p (by simp [hp]), rfl⟩⟩)
def sits : List Sit := (List.range 6).flatMap fun p : Nat => (List.range 6).flatMap fun q : Nat => (some_of 3).map fun l => ((p : Int), (q : Int), l)
theorem sits_len : sits.length = 29520 := by decide +kernel
theorem in_sits {n1 n2 : Int} {k1 k2 : List (Int × Int)} {r1 r2 : List (Ru × Tg)} (w1 : Wf n1 k1 r1) (w2 : Wf n2 k2 r2) {s : Sit} (o : SitOk k1 k2 s) : s ∈ sits := by
  have l1 := w1.kl
  have l2 := w2.kl
  have lp := o.len w1
  obtain ⟨p, q, ps⟩ := s
  have p0 := o.p0
  have q0 := o.q0
  simp only at p0 q0 lp
  obtain ⟨_, a, _, a0, a3, ea⟩ := kind_ex w1 o.p0.1 o.p0.2
  obtain ⟨_, b, _, b0, b3, eb⟩ := kind_ex w2 o.q0.1 o.q0.2
  simp only at ea eb
  refine List.mem_flatMap.mpr ⟨p.toNat, List.mem_range.mpr (by omega), List.mem_flatMap.mpr ⟨q.toNat, List.mem_range.mpr (by omega), List.mem_map.mpr ⟨ps, mem_some_of 3 ps lp fun x hx => ?_, ?_⟩⟩⟩
  · have := o.rng x hx
    simp only at this
    obtain ⟨i, j⟩ := x
    simp only at this
    have i3 : i = 0 ∨ i = 1 ∨ i = 2 := by omega
    have j3 : j = 0 ∨ j = 1 ∨ j = 2 := by omega
    rcases i3 with rfl | rfl | rfl <;> rcases j3 with rfl | rfl | rfl <;> decide
  · rw [Int.toNat_of_nonneg p0.1, Int.toNat_of_nonneg q0.1]
theorem Srch.few {n1 n2 n : Int} {k1 k2 : List (Int × Int)} {r1 r2 : List (Ru × Tg)} {s0 : Sit} {goal : Sit → Bool} {fs : List Fd} {W : List Sit} {no : Sit → Prop} (w : Srch n k1 r1 k2 r2 s0 goal fs W no) (w1 : Wf n1 k1 r1) (w2 : Wf n2 k2 r2) : fs.length ≤ 29520 := by
  have := w.nd.length_le_of_subset fun s hs => in_sits w1 w2 (w.ok s hs)
  rw [sits_len] at this
  simpa using this
theorem casesS_len {n1 n2 : Int} {k1 k2 : List (Int × Int)} {r1 r2 : List (Ru × Tg)} (w1 : Wf n1 k1 r1) (w2 : Wf n2 k2 r2) {s : Sit} (o : SitOk k1 k2 s) : (casesS (heldN k1 s.1) (heldN k2 s.2.1) s.2.2).length ≤ 10 := by
  have lp := o.len w1
  obtain ⟨_, a, _, a0, a3, ea⟩ := kind_ex w1 o.p0.1 o.p0.2
  obtain ⟨_, b, _, b0, b3, eb⟩ := kind_ex w2 o.q0.1 o.q0.2
  have h1 := restOf_len (heldN k1 s.1) (s.2.2.map (·.1))
  have h2 := restOf_len (heldN k2 s.2.1) (s.2.2.map (·.2))
  unfold casesS
  simp
  omega
theorem plains_sits (l : List Sit) : plains (l.map siD) = true ∧ deps (l.map siD) ≤ 3 := by
  induction l with
  | nil => simp [plains, deps]
  | cons s l ih =>
    have h : ∀ ps : List (Int × Int), plains (ps.map prD) = true ∧ deps (ps.map prD) ≤ 1 := fun ps => by
      induction ps with
      | nil => simp [plains, deps]
      | cons p ps ih => simp [plains, plain, deps, dep, ih]
    obtain ⟨a, b⟩ := h s.2.2
    obtain ⟨c, d⟩ := ih
    refine ⟨by simp [plains, plain, a, c], ?_⟩
    simp [deps, dep]
    omega
def xpB : Nat := 29520
/-- between two levels -/
def XplI (S : Store) (x y f D : Addr) (n1 : Int) (k1 : List (Int × Int)) (r1 : List (Ru × Tg)) (k2 : List (Int × Int)) (r2 : List (Ru × Tg)) (s0 : Sit) (goal : Sit → Bool) (m : Nat) (δ : DSt) (S1 : Store) : Prop :=
  ∃ (fs : List Fd) (lv : List Sit) (l : Addr) (z5 z6 z7 z8 z9 : Option Dv), Srch n1 k1 r1 k2 r2 s0 goal fs lv (fun _ => False) ∧ Ext S S1 ∧ S1 D = some (.ndc (fs.map fdD)) ∧ S1 l = some (.lst (lv.map siD)) ∧ m = (xpB - fs.length) + (if lv = [] then 0 else 1) ∧ lv.length ≤ fs.length ∧
    δ = [some (.tup [.ref x, .ref y]), some (siD s0), some (.ref f), some (.ref D), some (.ref l), z5, z6, z7, z8, z9]
theorem Srch.shut {n : Int} {k1 : List (Int × Int)} {r1 : List (Ru × Tg)} {k2 : List (Int × Int)} {r2 : List (Ru × Tg)} {s0 : Sit} {goal : Sit → Bool} {fs : List Fd} {W : List Sit} {h : Sit} (w : Srch n k1 r1 k2 r2 s0 goal fs (h :: W) fun _ => False) : Srch n k1 r1 k2 r2 s0 goal fs W fun s => s = h :=
  ⟨w.nd, w.ok, w.hd, w.rch, w.how, fun s hs => w.sub s (by simp [hs]), fun s hs hw hno => w.clo s hs (fun z => (List.mem_cons.mp z).elim hno hw) fun z => z⟩
theorem Srch.done {n : Int} {k1 : List (Int × Int)} {r1 : List (Ru × Tg)} {k2 : List (Int × Int)} {r2 : List (Ru × Tg)} {s0 : Sit} {goal : Sit → Bool} {fs : List Fd} {W : List Sit} {h : Sit} (w : Srch n k1 r1 k2 r2 s0 goal fs W fun s => s = h) (hg : goal h = false) (hm : ∀ m, mvOk n k1 k2 h m → stepS k1 r1 k2 r2 h m.1 m.2 ∈ fs.map (·.1)) : Srch n k1 r1 k2 r2 s0 goal fs W fun _ => False :=
  ⟨w.nd, w.ok, w.hd, w.rch, w.how, w.sub, fun s hs hw _ => by
    by_cases e : s = h
    · subst e; exact ⟨hg, hm⟩
    · exact w.clo s hs hw e⟩
abbrev s_explored : Stmt := top 16
abbrev n_explored : List Str := ["pair", "situation", "is_goal", "found", "level", "following", "here", "word", "case", "after"]
abbrev p_explored : List Str := ["pair", "situation", "is_goal"]
theorem sc_explored : FnScope n_explored p_explored (defScope s_explored) := ⟨rfl, rfl, rfl, by decide +kernel, rfl, by decide +kernel, by decide +kernel⟩
-- return (found, here)
@[simp] def u_explored_7 (K : Kw) (Pe : DX) (spf : DSp) (f_ : Addr) : DTS :=
  (dRet (dTup (dCons (dVar 3) (dCons (dVar 6) dNil))))
-- following.append(after)
@[simp] def u_explored_13 (K : Kw) (Pe : DX) (spf : DSp) (f_ : Addr) : DTS :=
  (dDrop (dBM isL gAppend (dVar 5) (dCons (dVar 9) dNil)))
-- found[after] = (here, word, case)
def u_explored_12 (K : Kw) (Pe : DX) (spf : DSp) (f_ : Addr) : DTS :=
  (dSeq (dNput (dVar 3) (dVar 9) (dTup (dCons (dVar 6) (dCons (dVar 7) (dCons (dVar 8) dNil)))))
  (u_explored_13 K Pe spf f_))
-- if after not in found:
@[simp] def u_explored_11 (K : Kw) (Pe : DX) (spf : DSp) (f_ : Addr) : DTS :=
  (dIfS (dB (dNin not (dVar 9) (dVar 3)))
  (u_explored_12 K Pe spf f_)
  dNext)
-- after = step(pair, here, word, case)
def u_explored_10 (K : Kw) (Pe : DX) (spf : DSp) (f_ : Addr) : DTS :=
  (dSeq (dSet 9 (dCall sp_step X0 (dCons (dVar 0) (dCons (dVar 6) (dCons (dVar 7) (dCons (dVar 8) dNil))))))
  (u_explored_11 K Pe spf f_))
-- for case in cases(pair, here):
def u_explored_9 (K : Kw) (Pe : DX) (spf : DSp) (f_ : Addr) : DTS :=
  (dFor (dIT (dCall sp_cases X0 (dCons (dVar 0) (dCons (dVar 6) dNil)))) (.nm 8)
  (u_explored_10 K Pe spf f_))
-- for word in range(pair[0].words):
def u_explored_8 (K : Kw) (Pe : DX) (spf : DSp) (f_ : Addr) : DTS :=
  (dFor (dIR1 (dCons (dFld "Watcher" "words" (dBin gIx (dVar 0) (dC (.int 0)))) dNil)) (.nm 7)
  (u_explored_9 K Pe spf f_))
-- if is_goal(here):
def u_explored_6 (K : Kw) (Pe : DX) (spf : DSp) (f_ : Addr) : DTS :=
  (dSeq (dIfS (dB (dAct 2 f_ spf X0 (dCons (dVar 6) dNil)))
  (u_explored_7 K Pe spf f_)
  dNext)
  (u_explored_8 K Pe spf f_))
-- level = following
@[simp] def u_explored_14 (K : Kw) (Pe : DX) (spf : DSp) (f_ : Addr) : DTS :=
  (dSet 4 (dVar 5))
-- for here in level:
def u_explored_5 (K : Kw) (Pe : DX) (spf : DSp) (f_ : Addr) : DTS :=
  (dSeq (dFor (dIL (dVar 4)) (.nm 6)
  (u_explored_6 K Pe spf f_))
  (u_explored_14 K Pe spf f_))
-- following = []
def u_explored_4 (K : Kw) (Pe : DX) (spf : DSp) (f_ : Addr) : DTS :=
  (dSeq (dSet 5 (dLst dNil))
  (u_explored_5 K Pe spf f_))
-- return (found, None)
@[simp] def u_explored_15 (K : Kw) (Pe : DX) (spf : DSp) (f_ : Addr) : DTS :=
  (dRet (dTup (dCons (dVar 3) (dCons (dC .non) dNil))))
-- while level != []:
def u_explored_3 (K : Kw) (Pe : DX) (spf : DSp) (f_ : Addr) : DTS :=
  (dSeq (dWhile (dB (dBin (gEqF not) (dVar 4) (dLst dNil)))
  (u_explored_4 K Pe spf f_))
  (u_explored_15 K Pe spf f_))
-- level = [situation]
def u_explored_2 (K : Kw) (Pe : DX) (spf : DSp) (f_ : Addr) : DTS :=
  (dSeq (dSet 4 (dLst (dCons (dVar 1) dNil)))
  (u_explored_3 K Pe spf f_))
-- found = {situation: None}
def u_explored_1 (K : Kw) (Pe : DX) (spf : DSp) (f_ : Addr) : DTS :=
  (dSeq (dSet 3 (dNdisp (dVar 1) (dC .non)))
  (u_explored_2 K Pe spf f_))
abbrev t_explored (K : Kw) (spf : DSp) (f_ : Addr) (Pe : DX) : DTS := (u_explored_1 K Pe spf f_)
def gD : Option Sit → Dv
  | none => .non
  | some s => siD s
def sp_explored (spf : DSp) : DSp := fun ds S Pq _ => ∃ (x y f : Addr) (n1 n2 : Int) (k1 k2 : List (Int × Int)) (r1 r2 : List (Ru × Tg)) (s0 : Sit) (goal : Sit → Bool), ds = [.tup [.ref x, .ref y], siD s0, .ref f] ∧ PairW S x y n1 n2 k1 k2 r1 r2 ∧ SitOk k1 k2 s0 ∧ (0 ≤ n1 ∧ n1 ≤ 3) ∧
  (∀ here S' P, Ext S S' → SitOk k1 k2 here → P (.bl (goal here)) S' → spf [siD here] S' P X0) ∧ ∀ fs g D S', Ext S S' → S D = none → S' D = some (.ndc (fs.map fdD)) → Expl n1 k1 r1 k2 r2 s0 goal fs g → Pq (.tup [.ref D, gD g]) S'
theorem len_explored : ∀ spf ds S Pq Pe, sp_explored spf ds S Pq Pe → ds.length = p_explored.length := fun _ _ _ _ _ ⟨_, _, _, _, _, _, _, _, _, _, _, h, _⟩ => by subst h; rfl
theorem hsp_explored (K : Kw) : ∀ spf f_ ds S Pq Pe, ds.getLast? = some (.ref f_) → sp_explored spf ds S Pq Pe → dsp K n_explored (t_explored K spf f_) ds S Pq Pe := by
  rintro spf f_ ds S Pq Pe hl ⟨x, y, f, n1, n2, k1, k2, r1, r2, s0, goal, rfl, W, o, hn, hg, h⟩
  simp at hl
  subst hl
  refine VS.pure ?_
  unfold t_explored
  simp [u_explored_1]
  intro D hD
  refine ⟨(kOks_map fun p _ => by simp [kOk, kOks]), ?_⟩
  unfold u_explored_2
  refine dSeq_mk ?_
  simp
  intro l0 lD0 hl0
  have e0 : O.ndc [(siD s0, Dv.non)] = .ndc ([((s0, none) : Fd)].map fdD) := rfl
  have e1 : O.lst [siD s0] = .lst ([s0].map siD) := rfl
  rw [e0, e1]
  unfold u_explored_3
  refine dSeq_mk ?_
  unfold dWhile
  refine ⟨XplI S x y f D n1 k1 r1 k2 r2 s0 goal, ⟨_, [(s0, none)], [s0], l0, none, none, none, none, none, .start o, (Ext.refl.up_new hD).up_new hl0, by rw [up_ne (Ne.symm lD0), up_same], up_same, rfl, by simp, rfl⟩, ?_⟩
  rintro m δ S1 ⟨fs, lv, l, z5, z6, z7, z8, z9, w, ext, f1, f2, hm, hle, rfl⟩
  simp
  intro Y hY
  have lY := some_ne f2 hY
  have DY := some_ne f1 hY
  rw [gEqF_lists (ds := lv.map siD) (es := []) (by rw [up_ne lY]; exact f2) up_same (plains_sits lv).1 rfl (by have := (plains_sits lv).2; omega) (by decide)]
  have ext1 : Ext S (up S1 Y (.lst [])) := ext.up_new (none_back ext hY)
  have f1' : (up S1 Y (.lst [])) D = some (.ndc (fs.map fdD)) := by rw [up_ne DY]; exact f1
  have f2' : (up S1 Y (.lst [])) l = some (.lst (lv.map siD)) := by rw [up_ne lY]; exact f2
  generalize (up S1 Y (.lst [])) = S2 at *
  cases lv with
  | nil =>
    simp
    exact VS.pure (h fs none D S2 ext1 hD f1' w.none)
  | cons s1 lv' =>
    simp only [List.map_cons, reduceCtorEq, decide_false, Bool.not_false, if_true]
    have hm0 : m = (xpB - fs.length) + 1 := by rw [hm, if_neg (by simp)]
    clear hm
    generalize s1 :: lv' = lv at *
    unfold u_explored_4
    refine dSeq_mk ?_
    simp
    intro F hF
    have lF := some_ne f2' hF
    have DF := some_ne f1' hF
    have ext2 : Ext S (up S2 F (.lst [])) := ext1.up_new (none_back ext1 hF)
    have g1 : (up S2 F (.lst [])) D = some (.ndc (fs.map fdD)) := by rw [up_ne DF]; exact f1'
    have g2 : (up S2 F (.lst [])) l = some (.lst (lv.map siD)) := by rw [up_ne lF]; exact f2'
    have g3 : (up S2 F (.lst [])) F = some (.lst (([] : List Sit).map siD)) := up_same
    have hF0 : S F = none := none_back ext1 hF
    generalize (up S2 F (.lst [])) = S3 at *
    unfold u_explored_5
    refine dSeq_mk ?_
    simp
    rw [g2]
    simp
    refine forL_enc siD (fun i δ S4 => ∃ (fs2 : List Fd) (fw : List Sit) (z6 z7 z8 z9 : Option Dv), Srch n1 k1 r1 k2 r2 s0 goal fs2 (lv.drop i ++ fw) (fun _ => False) ∧ Ext S S4 ∧ S4 D = some (.ndc (fs2.map fdD)) ∧ S4 l = some (.lst (lv.map siD)) ∧ S4 F = some (.lst (fw.map siD)) ∧ fs2.length = fs.length + fw.length ∧
      δ = [some (.tup [.ref x, .ref y]), some (siD s0), some (.ref f), some (.ref D), some (.ref l), some (.ref F), z6, z7, z8, z9])
      ⟨fs, [], z6, z7, z8, z9, by simpa using w, ext2, g1, g2, g3, by simp, rfl⟩ (fun i here δ4 S4 hi hI N hN => ?_) fun δ4 S4 hI => ?_
    · obtain ⟨fs2, fw, z6, z7, z8, z9, w2, e4, h1, h2, h3, hlen, rfl⟩ := hI
      have il : i < lv.length := (List.getElem?_eq_some_iff.mp hi).1
      have hd : lv.drop i = here :: lv.drop (i + 1) := by rw [List.drop_eq_getElem_cons il]; congr 1; exact (List.getElem?_eq_some_iff.mp hi).2
      rw [hd, List.cons_append] at w2
      have hin : here ∈ fs2.map (·.1) := w2.sub here (by simp)
      have oh := w2.ok here hin
      refine ⟨h2, _, rfl, ?_⟩
      unfold u_explored_6
      refine dSeq_mk ?_
      simp
      refine hg here S4 _ e4 oh ?_
      cases gh : goal here with
      | true =>
        simp
        exact VS.pure (h fs2 (some here) D S4 e4 hD h1 (w2.hit hin gh))
      | false =>
        simp
        have W4 := W.ext e4
        have w3 := w2.shut
        unfold u_explored_8
        simp [W4.hx]
        refine ⟨by omega, by omega, ?_⟩
        refine forL_range (fun a δ S5 => ∃ (fs3 : List Fd) (fw : List Sit) (z7 z8 z9 : Option Dv), Srch n1 k1 r1 k2 r2 s0 goal fs3 (lv.drop (i + 1) ++ fw) (fun s => s = here) ∧ here ∈ fs3.map (·.1) ∧ (∀ w' : Int, 0 ≤ w' → w' < a → ∀ c ∈ casesS (heldN k1 here.1) (heldN k2 here.2.1) here.2.2, stepS k1 r1 k2 r2 here w' c ∈ fs3.map (·.1)) ∧
          Ext S S5 ∧ S5 D = some (.ndc (fs3.map fdD)) ∧ S5 l = some (.lst (lv.map siD)) ∧ S5 F = some (.lst (fw.map siD)) ∧ fs3.length = fs.length + fw.length ∧
          δ = [some (.tup [.ref x, .ref y]), some (siD s0), some (.ref f), some (.ref D), some (.ref l), some (.ref F), some (siD here), z7, z8, z9])
          ⟨fs2, fw, z7, z8, z9, w3, hin, fun w' a b => absurd b (by simp; omega), e4, h1, h2, h3, hlen, rfl⟩ (fun a δ5 S5 ha hI5 N5 hN5 => ?_) fun δ5 S5 hI5 => ?_
        · obtain ⟨fs3, fw3, z7, z8, z9, w5, hin5, dn, e5, h51, h52, h53, hl5, rfl⟩ := hI5
          refine ⟨trivial, _, rfl, ?_⟩
          have W5 := W.ext e5
          have an : ((a : Nat) : Int) < n1 := by omega
          unfold u_explored_9
          simp
          refine cases_mk W5 oh ?_
          simp only
          refine forL_enc csD (fun b δ S6 => ∃ (fs4 : List Fd) (fw : List Sit) (z8 z9 : Option Dv), Srch n1 k1 r1 k2 r2 s0 goal fs4 (lv.drop (i + 1) ++ fw) (fun s => s = here) ∧ here ∈ fs4.map (·.1) ∧ (∀ w' : Int, 0 ≤ w' → w' < a → ∀ c ∈ casesS (heldN k1 here.1) (heldN k2 here.2.1) here.2.2, stepS k1 r1 k2 r2 here w' c ∈ fs4.map (·.1)) ∧
            (∀ (j : Nat) (c : Cs), j < b → (casesS (heldN k1 here.1) (heldN k2 here.2.1) here.2.2)[j]? = some c → stepS k1 r1 k2 r2 here a c ∈ fs4.map (·.1)) ∧
            Ext S S6 ∧ S6 D = some (.ndc (fs4.map fdD)) ∧ S6 l = some (.lst (lv.map siD)) ∧ S6 F = some (.lst (fw.map siD)) ∧ fs4.length = fs.length + fw.length ∧
            δ = [some (.tup [.ref x, .ref y]), some (siD s0), some (.ref f), some (.ref D), some (.ref l), some (.ref F), some (siD here), some (.int a), z8, z9])
            ⟨fs3, fw3, z8, z9, w5, hin5, dn, fun j c hj => absurd hj (by omega), e5, h51, h52, h53, hl5, rfl⟩ (fun b c δ6 S6 hc hI6 N6 hN6 => ?_) fun δ6 S6 hI6 => ?_
          · obtain ⟨fs4, fw4, z8, z9, w6, hin6, dn6, dc6, e6, h61, h62, h63, hl6, rfl⟩ := hI6
            refine ⟨trivial, _, rfl, ?_⟩
            have W6 := W.ext e6
            have hcm := List.mem_of_getElem? hc
            unfold u_explored_10
            refine dSeq_mk ?_
            simp
            refine step_mk W6 oh ?_
            have oa := step_ok W.w1 W.w2 oh a c
            generalize ea : stepS k1 r1 k2 r2 here a c = sa at *
            have kk := kOk_siD sa
            by_cases hs : sa ∈ fs4.map (·.1)
            · have q := fd_some hs
              have q2 : ¬ dval (fs4.map fdD) (siD sa) = none := fun z => by rw [z] at q; cases q
              simp [h61, q2, -List.mem_map]
              refine ⟨(kOks_map fun p _ => by simp [kOk, kOks]), hN6 _ _ ⟨fs4, fw4, _, _, w6, hin6, dn6, fun j c' hj hc' => ?_, e6, h61, h62, h63, hl6, rfl⟩⟩
              by_cases hjb : j = b
              · subst hjb; rw [hc] at hc'; cases hc'; rw [ea]; exact hs
              · exact dc6 j c' (by omega) hc'
            · have q := fd_none hs
              unfold u_explored_12
              have fb := w6.few W.w1 W.w2
              have e7 : dput (fs4.map fdD) (siD sa) (.tup [siD here, .int (a : Int), csD c]) = (fs4 ++ [(sa, some (here, (a : Int), c))]).map fdD := fd_put (m := (here, (a : Int), c)) hs
              have FD : F ≠ D := Ne.symm DF
              simp [h61, q, -List.mem_map, up_ne FD, h63]
              refine ⟨(kOks_map fun p _ => by simp [kOk, kOks]), by omega, by omega, ?_⟩
              rw [e7]
              have w7 := w6.add (m := ((a : Int), c)) ea.symm oa hin6 ⟨by simp, an, hcm⟩ hs
              rw [List.append_assoc] at w7
              have lD : l ≠ D := fun e => by rw [e, h61] at h62; cases h62
              have e8 : fw4.map siD ++ [siD sa] = (fw4 ++ [sa]).map siD := by simp
              rw [e8]
              refine hN6 _ _ ⟨_, fw4 ++ [sa], _, _, w7, ?_, fun w' a0 a1 c' hc' => ?_, fun j c' hj hc' => ?_, (e6.up_new hD).up_new hF0, ?_, ?_, up_same, by simp; omega, rfl⟩
              · rw [List.map_append]; exact List.mem_append_left _ hin6
              · rw [List.map_append]; exact List.mem_append_left _ (dn6 w' a0 a1 c' hc')
              · rw [List.map_append]
                by_cases hjb : j = b
                · subst hjb; rw [hc] at hc'; cases hc'; rw [ea]; exact List.mem_append_right _ (by simp)
                · exact List.mem_append_left _ (dc6 j c' (by omega) hc')
              · rw [up_ne DF, up_same]
              · rw [up_ne lF, up_ne lD]; exact h62
          · obtain ⟨fs4, fw4, z8, z9, w6, hin6, dn6, dc6, e6, h61, h62, h63, hl6, rfl⟩ := hI6
            refine ⟨trivial, hN5 _ _ ⟨fs4, fw4, _, _, _, w6, hin6, fun w' a0 a1 c hc => ?_, e6, h61, h62, h63, hl6, rfl⟩⟩
            by_cases hw : w' < a
            · exact dn6 w' a0 hw c hc
            · have : w' = a := by omega
              subst this
              obtain ⟨j, hj⟩ := List.mem_iff_getElem?.mp hc
              exact dc6 j c (List.getElem?_eq_some_iff.mp hj).1 hj
        · obtain ⟨fs3, fw3, z7, z8, z9, w5, hin5, dn, e5, h51, h52, h53, hl5, rfl⟩ := hI5
          refine ⟨trivial, hN _ _ ⟨fs3, fw3, _, _, _, _, w5.done gh fun m hm => dn m.1 hm.1 (by have := hm.2.1; omega) m.2 hm.2.2, e5, h51, h52, h53, hl5, rfl⟩⟩
    · obtain ⟨fs2, fw, z6, z7, z8, z9, w2, e4, h1, h2, h3, hlen, rfl⟩ := hI
      rw [List.drop_length, List.nil_append] at w2
      refine ⟨h2, ?_⟩
      simp
      have fb := w2.few W.w1 W.w2
      refine ⟨(xpB - fs2.length) + (if fw = [] then 0 else 1), ?_, fs2, fw, F, _, _, _, _, _, w2, e4, h1, h3, rfl, by omega, rfl⟩
      rw [hm0]
      unfold xpB
      by_cases e : fw = []
      · subst e
        simp at hlen ⊢
        omega
      · have : 0 < fw.length := List.length_pos_iff.mpr e
        rw [if_neg e]
        omega
theorem dfn_explored {P : Program} {w : World} {K : PySem.W.Frag} {mg : Str → Option Value} {base : Heap} {f : Addr} {fd : FuncData} (F : Fun K "explored" "explored" s_explored f fd) (z_range : mg "range" = none) {C_Watcher : Addr} (kl_Watcher : KlG K mg "Watcher" C_Watcher) (na_Watcher_words : NoAttr K C_Watcher "words") (C_cases : Cal P w K mg base 3 "cases" p_cases sp_cases) (C_step : Cal P w K mg base 4 "step" p_step sp_step) : DFnF P w K mg base 5 6 f fd p_explored sp_explored :=
  Fun.okDF (j := 5) (k := 5) (t := t_explored ⟨K, w, mg⟩) F sc_explored len_explored (fun spf f_ cdv A outer s H Pe E hF_ hgd hr px =>
  (dss_cons (ds_set sc_explored.nd (de_ndisp (units_64 hr) (dv 1) de_non))
  (dss_cons (ds_set sc_explored.nd (de_lst (da_cons (dv 1) da_nil)))
  (dss_cons (ds_while (passes_of rfl) (dt_cmp (c_ne (units_64 hr)) (dv 4) (de_lst da_nil))
  (dss_cons (ds_set sc_explored.nd (de_lst da_nil))
  (dss_cons (ds_for (passes_of rfl) rfl (di_list (dv 4)) (dp_nm sc_explored.nd)
  (dss_cons (ds_if (dt_val (de_act hF_ hgd hr (da_cons (dv 6) da_nil)))
  (dss_one (ds_ret (de_tup (da_cons (dv 3) (da_cons (dv 6) da_nil)))))
  dss_nil)
  (dss_one (ds_for (passes_of rfl) rfl (di_range1 (by rfl) z_range (da_cons (de_fld kl_Watcher na_Watcher_words (de_ix (dv 0) de_int)) da_nil)) (dp_nm sc_explored.nd)
  (dss_one (ds_for (passes_of rfl) rfl (di_tup (de_fn C_cases hgd hr (da_cons (dv 0) (da_cons (dv 6) da_nil)))) (dp_nm sc_explored.nd)
  (dss_cons (ds_set sc_explored.nd (de_fn C_step hgd hr (da_cons (dv 0) (da_cons (dv 6) (da_cons (dv 7) (da_cons (dv 8) da_nil))))))
  (dss_one (ds_if (dt_nnotin (units_64 hr) (dv 9) (dv 3))
  (dss_cons (ds_nput (units_64 hr) (dv 3) (dv 9) (de_tup (da_cons (dv 6) (da_cons (dv 7) (da_cons (dv 8) da_nil)))))
  (dss_one (ds_expr (de_bm mg_append PySem.F.plainAttrs_list PySem.F.slot_list_append PySem.F.type_list_append (dv 5) (da_cons (dv 9) da_nil)))))
  dss_nil)))))))))
  (dss_one (ds_set sc_explored.nd (dv 5))))))
  (dss_one (ds_ret (de_tup (da_cons (dv 3) (da_cons de_non da_nil))))))))) (hsp_explored ⟨K, w, mg⟩)
theorem ok_explored {P : Program} {w : World} {K : PySem.W.Frag} {mg : Str → Option Value} {base : Heap} (D : Def K mg "explored" "explored" s_explored) (z_range : mg "range" = none) {C_Watcher : Addr} (kl_Watcher : KlG K mg "Watcher" C_Watcher) (na_Watcher_words : NoAttr K C_Watcher "words") (C_cases : Cal P w K mg base 3 "cases" p_cases sp_cases) (C_step : Cal P w K mg base 4 "step" p_step sp_step) : CalF P w K mg base 5 6 "explored" p_explored sp_explored :=
  let ⟨f, fd, F, hm⟩ := D.ex
  ⟨f, fd, hm, F.kp, F.binds (ps := p_explored) fun _ _ _ _ _ _ us hl => match us, hl with | [_, _, _], _ => rfl, dfn_explored F z_range kl_Watcher na_Watcher_words C_cases C_step⟩

--@cut
abbrev qSits : Str := (Str.ofString "reached_situations" ++ ".<locals>.") ++ "<lambda>"
abbrev s_reached_situations : Stmt := top 17
abbrev n_reached_situations : List Str := ["pair", "situation", "found", "goal"]
abbrev p_reached_situations : List Str := ["pair", "situation"]
theorem sc_reached_situations : FnScope n_reached_situations p_reached_situations (defScope s_reached_situations) := ⟨rfl, rfl, rfl, by decide +kernel, rfl, by decide +kernel, by decide +kernel⟩
-- return tuple(sorted(list(found)))
@[simp] def u_reached_situations_2 [TabP] (K : Kw) (Pe : DX) : DTS :=
  (dRet (dCB gTuple (dCons (dCB gSortD (dCons (dCB gListN (dCons (dVar 2) dNil)) dNil)) dNil)))
-- found, goal = explored(pair, situation, lambda here: False)
def u_reached_situations_1 [TabP] (K : Kw) (Pe : DX) : DTS :=
  (dSeq (dAsg (dCallF TabP.p ((Str.ofString "reached_situations" ++ ".<locals>.") ++ "<lambda>") 1 K sp_explored (fun _ => (dC (.bl false))) (dCons (dVar 0) (dCons (dVar 1) dNil))) (.tp [(.nm 2), (.nm 3)]))
  (u_reached_situations_2 K Pe))
abbrev t_reached_situations [TabP] (K : Kw) (Pe : DX) : DTS := (u_reached_situations_1 K Pe)
def sp_reached_situations [TabP] : DSp := fun ds S Pq _ => ∃ (x y : Addr) (n1 n2 : Int) (k1 k2 : List (Int × Int)) (r1 r2 : List (Ru × Tg)) (s0 : Sit), ds = [.tup [.ref x, .ref y], siD s0] ∧ PairW S x y n1 n2 k1 k2 r1 r2 ∧ SitOk k1 k2 s0 ∧ (0 ≤ n1 ∧ n1 ≤ 3) ∧ S TabP.p = some (.tab qSits) ∧
  ∀ ms : List Sit, ms.Nodup → (∀ s, s ∈ ms ↔ SRch n1 k1 r1 k2 r2 s0 s) → Pq (.tup ((isort code3 ms).map siD)) S
theorem len_reached_situations [TabP] : ∀ ds S Pq Pe, sp_reached_situations ds S Pq Pe → ds.length = p_reached_situations.length := fun _ _ _ _ ⟨_, _, _, _, _, _, _, _, _, h, _⟩ => by subst h; rfl
theorem hsp_reached_situations [TabP] (K : Kw) : ∀ ds S Pq Pe, sp_reached_situations ds S Pq Pe → dsp K n_reached_situations (t_reached_situations K) ds S Pq Pe := by
  rintro ds S Pq Pe ⟨x, y, n1, n2, k1, k2, r1, r2, s0, rfl, W, o, hn, ht, h⟩
  refine VS.pure ?_
  unfold t_reached_situations
  unfold u_reached_situations_1
  refine dSeq_mk ?_
  simp only [dAsg, dCallF, dCons, dNil, dVar]
  refine ⟨ht, fun f hf => ⟨x, y, f, n1, n2, k1, k2, r1, r2, s0, fun _ => false, rfl, W, o, hn, fun here S' P e' oh hP => ⟨rfl, e' _ _ ht, VS.pure (VS.pure hP)⟩, fun fs g D S' e' hD fD X => ?_⟩⟩
  have gn : g = none := by
    cases g with
    | none => rfl
    | some t => exact absurd (X.hit t rfl).2 (by simp)
  subst gn
  simp [gD, fD]
  intro l hl
  have ek : fs.map ((fun x : Dv × Dv => x.1) ∘ fdD) = (fs.map (·.1)).map siD := by rw [List.map_map]; rfl
  rw [ek, srtD_code coded3]
  refine ⟨srtOk3 _, fun q ql hq => VS.sub ((e'.up_new (none_back e' hl)).up_new (none_back e' hq)) (h _ X.nd fun s => ⟨X.rch s, fun hs => (X.no rfl s hs).1⟩)⟩
theorem dfn_reached_situations {P : Program} {w : World} {K : PySem.W.Frag} {mg : Str → Option Value} {base : Heap} [TabP] {f c : Addr} {fd : FuncData} (TB : LamX.TabB base mg c TabP.p) (F : Fun1 K "reached_situations" "reached_situations" s_reached_situations f fd c) (C_explored : CalF P w K mg base 5 6 "explored" p_explored sp_explored) (z_list : mg "list" = none) (z_sorted : mg "sorted" = none) (z_tuple : mg "tuple" = none) : DFn P w K mg base 8 f fd p_reached_situations sp_reached_situations :=
  okD1 (k := 7) (t := t_reached_situations ⟨K, w, mg⟩) F sc_reached_situations len_reached_situations (fun A outer s H Pe E hgd hr px =>
  (dss_cons (ds_asg (have T_ : LamT _ _ _ _ ["here"] := ⟨lamP_by (by kernel_rfl), rfl, by decide +kernel, dj_by (by kernel_rfl), fun _ _ _ _ _ us hl => match us, hl with | [_], _ => rfl⟩; de_callF (m := 4) C_explored hgd hr T_ (dal_cons (dv 0) (dal_cons (dv 1) (dal_lam TB rfl T_))) (fun A_ outer_ s_ H_ f0_ c_ Pe_ E_ hg_ hr px_ => de_bl)) (dp_tp rfl (dps_cons (dp_nm sc_reached_situations.nd) (dps_cons (dp_nm sc_reached_situations.nd) dps_nil))))
  (dss_one (ds_ret (de_callTy cg_tuple (by rfl) z_tuple (by decide +kernel) (da_cons (de_callB (cg_sortD (units_100 hr)) (by rfl) z_sorted (by decide +kernel) (da_cons (de_callTy (cg_listN rfl) (by rfl) z_list (by decide +kernel) (da_cons (dv 2) da_nil)) da_nil)) da_nil)))))) (hsp_reached_situations ⟨K, w, mg⟩)
theorem ok_reached_situations {P : Program} {w : World} {K : PySem.W.Frag} {mg : Str → Option Value} {base : Heap} [TabP] (C_explored : CalF P w K mg base 5 6 "explored" p_explored sp_explored) (z_list : mg "list" = none) (z_sorted : mg "sorted" = none) (z_tuple : mg "tuple" = none) {c : Addr} (TB : LamX.TabB base mg c TabP.p) (D : DefT K mg "reached_situations" "reached_situations" s_reached_situations c) : Cal P w K mg base 8 "reached_situations" p_reached_situations sp_reached_situations :=
  let ⟨f, fd, F, hm⟩ := D.ex
  ⟨f, fd, hm, F.kp, F.to.binds (ps := p_reached_situations) fun _ _ _ _ _ _ us hl => match us, hl with | [_, _], _ => rfl, dfn_reached_situations TB F C_explored z_list z_sorted z_tuple⟩

--@cut
/-! ### the law's watchers -/
def wkK (m h : Nat) : List (Int × Int) := (0, 0) :: (List.range m).map fun _ => (0, (h : Int))
def wkSame (h : Nat) : List (Option Int) := (List.range h).map fun i : Nat => some (i : Int)
def wkVal (h : Nat) : List (Option Int) := none :: (List.range (h - 1)).map fun i : Nat => some (i : Int)
def wkOne (m h : Nat) (w : Int) (f : Bool) (i : Nat) : List (Ru × Tg) :=
  (((i : Int) + 1, w, none), ((((i : Int) + 1) % m) + 1, wkSame h)) :: if f = true then [(((i : Int) + 1, 2, none), ((i : Int) + 1, wkVal h))] else []
def wkR (m h : Nat) (w : Int) (f : Bool) (j : Nat) : List (Ru × Tg) := (List.range j).flatMap fun i => wkOne m h w f i
theorem wkR_succ (m h : Nat) (w : Int) (f : Bool) (j : Nat) : wkR m h w f (j + 1) = wkR m h w f j ++ wkOne m h w f j := by
  simp [wkR, List.range_succ]
theorem wkK_len (m h : Nat) : (wkK m h).length = m + 1 := by simp [wkK]
theorem wkK_succ (m h : Nat) : wkK (m + 1) h = wkK m h ++ [(0, (h : Int))] := by simp [wkK, List.range_succ]
theorem wkK_at {m h : Nat} {i : Int} (h0 : 1 ≤ i) (h1 : i ≤ m) : (wkK m h)[i.toNat]? = some (0, (h : Int)) := by
  obtain ⟨n, rfl⟩ : ∃ n : Nat, i = n + 1 := ⟨(i - 1).toNat, by omega⟩
  rw [show ((n : Int) + 1).toNat = n + 1 by omega]
  have : n < m := by omega
  simp [wkK, this]
theorem wkSame_nd (h : Nat) : (wkSame h).Nodup := by
  rw [wkSame, List.nodup_iff_pairwise_ne, List.pairwise_map]
  exact List.nodup_range.imp fun hh z => hh (Int.ofNat.inj (Option.some.inj z))
theorem wkVal_nd (h : Nat) : (wkVal h).Nodup := by
  rw [wkVal, List.nodup_cons]
  refine ⟨by simp, ?_⟩
  rw [List.nodup_iff_pairwise_ne, List.pairwise_map]
  exact List.nodup_range.imp fun hh z => hh (Int.ofNat.inj (Option.some.inj z))
theorem wk_mod {m i : Nat} (h : i < m) : 1 ≤ (((i : Int) + 1) % m) + 1 ∧ (((i : Int) + 1) % m) + 1 ≤ m := by
  have h1 := Int.emod_nonneg ((i : Int) + 1) (b := m) (by omega)
  have h2 := Int.emod_lt_of_pos ((i : Int) + 1) (b := m) (by omega)
  omega
theorem wk_ru1 {m h i : Nat} {w : Int} (hi : i < m) (w0 : 0 ≤ w) (w2 : w ≤ 2) : RuOk 3 (wkK m h) ((i : Int) + 1) w none ((((i : Int) + 1) % m) + 1) (wkSame h) := by
  have hm := wk_mod hi
  refine ⟨by omega, by omega, by omega, by omega, ⟨0, h, 0, wkK_at (by omega) (by omega), trivial, ?_, fun q hq => ?_⟩, wkSame_nd h⟩
  · rw [wkK_at hm.1 hm.2]; simp [wkSame]
  · obtain ⟨j, hj, rfl⟩ := List.mem_map.mp hq
    simp at hj
    exact ⟨by omega, by omega⟩
theorem wk_ru2 {m h i : Nat} (hi : i < m) (hh : 1 ≤ h) : RuOk 3 (wkK m h) ((i : Int) + 1) 2 none ((i : Int) + 1) (wkVal h) := by
  refine ⟨by omega, by omega, by omega, by omega, ⟨0, h, 0, wkK_at (by omega) (by omega), trivial, ?_, fun q hq => ?_⟩, wkVal_nd h⟩
  · rw [wkK_at (by omega) (by omega)]; simp [wkVal]; omega
  · rcases List.mem_cons.mp hq with rfl | hq
    · rfl
    · obtain ⟨j, hj, rfl⟩ := List.mem_map.mp hq
      simp at hj
      exact ⟨by omega, by omega⟩
theorem wk_mem {m h j : Nat} {w : Int} {f : Bool} {r : Ru} (hr : r ∈ (wkR m h w f j).map (·.1)) : ∃ i : Nat, i < j ∧ (r = ((i : Int) + 1, w, none) ∨ (f = true ∧ r = ((i : Int) + 1, 2, none))) := by
  obtain ⟨p, hp, rfl⟩ := List.mem_map.mp hr
  obtain ⟨i, hi, hp⟩ := List.mem_flatMap.mp hp
  refine ⟨i, List.mem_range.mp hi, ?_⟩
  unfold wkOne at hp
  rcases List.mem_cons.mp hp with rfl | hp
  · exact .inl rfl
  · cases f with
    | true => simp at hp; subst hp; exact .inr ⟨rfl, rfl⟩
    | false => simp at hp
theorem wkR_len (m h : Nat) (w : Int) (f : Bool) : ∀ j : Nat, (wkR m h w f j).length ≤ 2 * j
  | 0 => by simp [wkR]
  | j + 1 => by
    have := wkR_len m h w f j
    rw [wkR_succ, List.length_append]
    have : (wkOne m h w f j).length ≤ 2 := by cases f <;> simp [wkOne]
    omega
theorem wk_wf {m h : Nat} {w : Int} {f : Bool} (w0 : 0 ≤ w) (w2 : w ≤ 2) (hh : 1 ≤ h) (h3 : h ≤ 3) (hm : m ≤ 5) : Wf 3 (wkK m h) (wkR m h w f m) := by
  refine ⟨⟨0, rfl⟩, fun k hk => ?_, by rw [wkK_len]; omega, fun p hp => ?_⟩
  · rcases List.mem_cons.mp hk with rfl | hk
    · simp
    · obtain ⟨_, _, rfl⟩ := List.mem_map.mp hk
      simp only
      omega
  · obtain ⟨i, hi, hp⟩ := List.mem_flatMap.mp hp
    have hi := List.mem_range.mp hi
    unfold wkOne at hp
    rcases List.mem_cons.mp hp with rfl | hp
    · exact wk_ru1 hi w0 w2
    · cases f with
      | true => simp at hp; subst hp; exact wk_ru2 hi hh
      | false => simp at hp
theorem wk_cut {h : Nat} (h1 : 1 ≤ h) (h3 : h ≤ 3) : cutD ((wkSame h).map srD) none (some (-1)) = ((List.range (h - 1)).map fun i : Nat => srD (some (i : Int))) := by
  have : h = 1 ∨ h = 2 ∨ h = 3 := by omega
  rcases this with rfl | rfl | rfl <;> rfl
theorem wk_new1 {m h : Nat} {w : Int} {f : Bool} {i : Nat} (w1 : w ≤ 1) : ((i : Int) + 1, w, (none : Option Int)) ∉ (wkR m h w f i).map (·.1) := fun hm => by
  obtain ⟨j, hj, e | ⟨_, e⟩⟩ := wk_mem hm
  · simp at e; omega
  · simp at e; omega
theorem wk_new2 {m h : Nat} {w : Int} {f : Bool} {i : Nat} (w1 : w ≤ 1) : ((i : Int) + 1, (2 : Int), (none : Option Int)) ∉ (wkR m h w f i ++ [((((i : Int) + 1, w, none), ((((i : Int) + 1) % m) + 1, wkSame h)) : Ru × Tg)]).map (·.1) := fun hm => by
  rw [List.map_append] at hm
  rcases List.mem_append.mp hm with hm | hm
  · obtain ⟨j, hj, e | ⟨_, e⟩⟩ := wk_mem hm
    · simp at e; omega
    · simp at e; omega
  · simp at hm; omega
abbrev s__law_walker : Stmt := top 25
abbrev n__law_walker : List Str := ["many", "held", "word", "is_first", "found", "same", "state"]
abbrev p__law_walker : List Str := ["many", "held", "word", "is_first"]
theorem sc__law_walker : FnScope n__law_walker p__law_walker (defScope s__law_walker) := ⟨rfl, rfl, rfl, by decide +kernel, rfl, by decide +kernel, by decide +kernel⟩
-- found.add_state(0, held)
@[simp] def u__law_walker_3 (K : Kw) (Pe : DX) : DTS :=
  (dDrop (dMeth "Watcher" "add_state" sp_Watcher_add_state X0 (dVar 4) (dCons (dC (.int 0)) (dCons (dVar 1) dNil))))
-- found.add_rule(state, 2, 'new', state, ('value',) + same[:-1])
@[simp] def u__law_walker_7 (K : Kw) (Pe : DX) : DTS :=
  (dDrop (dMeth "Watcher" "add_rule" sp_Watcher_add_rule X0 (dVar 4) (dCons (dVar 6) (dCons (dC (.int 2)) (dCons (dC (.str "new")) (dCons (dVar 6) (dCons (dBin gAdd (dTup (dCons (dC (.str "value")) dNil)) (dSl (dVar 5) dNoPart (dPart (dUn gNeg (dC (.int 1)))))) dNil)))))))
-- if is_first:
@[simp] def u__law_walker_6 (K : Kw) (Pe : DX) : DTS :=
  (dIfS (dB (dVar 3))
  (u__law_walker_7 K Pe)
  dNext)
-- found.add_rule(state, word, 'new', state % many + 1, same)
def u__law_walker_5 (K : Kw) (Pe : DX) : DTS :=
  (dSeq (dDrop (dMeth "Watcher" "add_rule" sp_Watcher_add_rule X0 (dVar 4) (dCons (dVar 6) (dCons (dVar 2) (dCons (dC (.str "new")) (dCons (dBin gAdd (dBin gMod (dVar 6) (dVar 0)) (dC (.int 1))) (dCons (dVar 5) dNil)))))))
  (u__law_walker_6 K Pe))
-- return found
@[simp] def u__law_walker_8 (K : Kw) (Pe : DX) : DTS :=
  (dRet (dVar 4))
-- for state in range(1, many + 1):
def u__law_walker_4 (K : Kw) (Pe : DX) : DTS :=
  (dSeq (dFor (dIR2 (dCons (dC (.int 1)) (dCons (dBin gAdd (dVar 0) (dC (.int 1))) dNil))) (.nm 6)
  (u__law_walker_5 K Pe))
  (u__law_walker_8 K Pe))
-- for state in range(many):
def u__law_walker_2 (K : Kw) (Pe : DX) : DTS :=
  (dSeq (dFor (dIR1 (dCons (dVar 0) dNil)) (.nm 6)
  (u__law_walker_3 K Pe))
  (u__law_walker_4 K Pe))
-- found, same = (Watcher(3), tuple(list(range(held))))
def u__law_walker_1 (K : Kw) (Pe : DX) : DTS :=
  (dSeq (dPar 4 5 (dCons (dMake "Watcher" sp_Watcher___init__ X0 (dCons (dC (.int 3)) dNil)) (dCons (dCB gTuple (dCons (dLstRg (dVar 1)) dNil)) dNil)))
  (u__law_walker_2 K Pe))
abbrev t__law_walker (K : Kw) (Pe : DX) : DTS := (u__law_walker_1 K Pe)
def sp__law_walker : DSp := fun ds S Pq _ => ∃ (m h : Nat) (w : Int) (f : Bool), ds = [.int m, .int h, .int w, .bl f] ∧ (1 ≤ m ∧ m ≤ 5) ∧ (1 ≤ h ∧ h ≤ 3) ∧ (0 ≤ w ∧ w ≤ 1) ∧ ∀ S' x, Ext S S' → S x = none → S' x = some (watO 3 (wkK m h) (wkR m h w f m)) → Pq (.ref x) S'
theorem len__law_walker : ∀ ds S Pq Pe, sp__law_walker ds S Pq Pe → ds.length = p__law_walker.length := fun _ _ _ _ ⟨_, _, _, _, h, _⟩ => by subst h; rfl
theorem hsp__law_walker (K : Kw) : ∀ ds S Pq Pe, sp__law_walker ds S Pq Pe → dsp K n__law_walker (t__law_walker K) ds S Pq Pe := by
  rintro ds S Pq Pe ⟨m, hh, w, f, rfl, ⟨m1, m5⟩, ⟨h1, h3⟩, ⟨w0, w1⟩, h⟩
  refine VS.pure ?_
  unfold t__law_walker
  simp [u__law_walker_1]
  intro x hx
  refine ⟨by omega, fun l lx hl => ?_⟩
  have es : ((List.range hh).map fun i : Nat => Dv.int i) = (wkSame hh).map srD := by simp [wkSame, srD]
  rw [es]
  have T0 : Ext S (up (up S x (watO 3 (wkK 0 hh) [])) l (.lst ((wkSame hh).map srD))) := (Ext.refl.up_new hx).up_new hl
  have Tx : (up (up S x (watO 3 (wkK 0 hh) [])) l (.lst ((wkSame hh).map srD))) x = some (watO 3 (wkK 0 hh) []) := by rw [up_ne (Ne.symm lx), up_same]
  have ek : ([(0, 0)] : List (Int × Int)) = wkK 0 hh := rfl
  have ek2 : watO 3 [(0, 0)] [] = watO 3 (wkK 0 hh) [] := rfl
  rw [ek2]
  generalize (up (up S x (watO 3 (wkK 0 hh) [])) l (.lst ((wkSame hh).map srD))) = T at *
  unfold u__law_walker_2
  refine dSeq_mk ?_
  simp
  refine ⟨by omega, ?_⟩
  refine forL_range (fun i δ S1 => ∃ z : Option Dv, Ext S S1 ∧ S1 x = some (watO 3 (wkK i hh) []) ∧ δ = [some (.int m), some (.int hh), some (.int w), some (.bl f), some (.ref x), some (.tup ((wkSame hh).map srD)), z]) ⟨none, T0, Tx, rfl⟩ ?_ ?_
  · rintro i δ S1 hi ⟨z, e1, hx1, rfl⟩ N hN
    refine ⟨trivial, _, rfl, ?_⟩
    simp [hx1]
    refine ⟨x, 0, hh, 3, wkK i hh, [], rfl, hx1, ⟨by omega, by omega⟩, ⟨by omega, by omega⟩, by rw [wkK_len]; omega, ?_⟩
    rw [← wkK_succ]
    refine hN _ _ ⟨_, e1.up_new hx, up_same, rfl⟩
  · rintro δ S1 ⟨z, e1, hx1, rfl⟩
    refine ⟨trivial, ?_⟩
    unfold u__law_walker_4
    refine dSeq_mk ?_
    simp
    refine ⟨by omega, ?_⟩
    have er : (((m : Int) + 1 - 1).toNat) = m := by omega
    refine forL_enc (fun i : Nat => Dv.int (1 + i)) (fun i δ S2 => ∃ z : Option Dv, Ext S S2 ∧ S2 x = some (watO 3 (wkK m hh) (wkR m hh w f i)) ∧ δ = [some (.int m), some (.int hh), some (.int w), some (.bl f), some (.ref x), some (.tup ((wkSame hh).map srD)), z]) ⟨z, e1, hx1, rfl⟩ ?_ ?_
    · rintro i y δ S2 hi ⟨z, e2, hx2, rfl⟩ N hN
      obtain ⟨hi1, rfl⟩ := List.getElem?_eq_some_iff.mp hi
      simp at hi1
      refine ⟨trivial, _, rfl, ?_⟩
      unfold u__law_walker_5
      refine dSeq_mk ?_
      simp [hx2]
      have rl := wkR_len m hh w f i
      have ec : (1 : Int) + (i : Int) = (i : Int) + 1 := by omega
      rw [ec]
      refine ⟨by omega, x, (i : Int) + 1, w, none, ((i : Int) + 1) % m + 1, wkSame hh, 3, wkK m hh, wkR m hh w f i, rfl, hx2, wk_ru1 hi1 w0 (by omega), wk_new1 w1, by omega, ?_⟩
      have rs := wkR_succ m hh w f i
      cases f with
      | false =>
        simp only [wkOne, Bool.false_eq_true, if_false] at rs
        simp
        rw [← rs]
        exact hN _ _ ⟨_, e2.up_new hx, up_same, rfl⟩
      | true =>
        simp only [wkOne, if_true] at rs
        simp
        rw [wk_cut h1 h3]
        refine ⟨fun a b hab => by rcases hab with ⟨rfl, _⟩ | ⟨rfl, _⟩ | ⟨rfl, _⟩ <;> decide, by simp; omega, ?_⟩
        have ev : Dv.str (Str.ofString "value") :: ((List.range (hh - 1)).map fun i : Nat => srD (some (i : Int))) = (wkVal hh).map srD := by simp [wkVal, srD]
        rw [ev]
        refine ⟨x, (i : Int) + 1, 2, none, (i : Int) + 1, wkVal hh, 3, wkK m hh, wkR m hh w true i ++ [(((i : Int) + 1, w, none), (((i : Int) + 1) % m + 1, wkSame hh))], rfl, up_same, wk_ru2 hi1 h1, wk_new2 w1, by simp; omega, ?_⟩
        simp only [up_up]
        refine hN _ _ ⟨_, e2.up_new hx, ?_, rfl⟩
        rw [up_same, rs]
        simp
    · rintro δ S2 ⟨z, e2, hx2, rfl⟩
      refine ⟨trivial, ?_⟩
      simp at hx2
      simp
      exact VS.pure (h S2 x e2 hx hx2)
theorem dfn__law_walker {P : Program} {w : World} {K : PySem.W.Frag} {mg : Str → Option Value} {base : Heap} {f : Addr} {fd : FuncData} (F : Fun K "_law_walker" "_law_walker" s__law_walker f fd) (N_Watcher : CalC P w K mg base 2 "Watcher" p_Watcher___init__ sp_Watcher___init__) (z_list : mg "list" = none) (z_range : mg "range" = none) (z_tuple : mg "tuple" = none) (C_Watcher_add_state : CalM P w K mg base 2 "Watcher" "add_state" p_Watcher_add_state sp_Watcher_add_state) (C_Watcher_add_rule : CalM P w K mg base 4 "Watcher" "add_rule" p_Watcher_add_rule sp_Watcher_add_rule) : DFn P w K mg base 6 f fd p__law_walker sp__law_walker :=
  Fun.okD (k := 5) (t := t__law_walker ⟨K, w, mg⟩) F sc__law_walker len__law_walker (fun cdv A outer s H Pe E hgd hr px =>
  (dss_cons (ds_par rfl sc__law_walker.nd (da_cons (de_make N_Watcher hgd hr (da_cons de_int da_nil)) (da_cons (de_callTy cg_tuple (by rfl) z_tuple (by decide +kernel) (da_cons (de_listRg (by rfl) (by rfl) z_list (by rfl) z_range (dv 1)) da_nil)) da_nil)))
  (dss_cons (ds_for (passes_of rfl) rfl (di_range1 (by rfl) z_range (da_cons (dv 0) da_nil)) (dp_nm sc__law_walker.nd)
  (dss_one (ds_expr (de_meth C_Watcher_add_state hgd hr (dv 4) (da_cons de_int (da_cons (dv 1) da_nil))))))
  (dss_cons (ds_for (passes_of rfl) rfl (di_range2 (by rfl) z_range (da_cons de_int (da_cons (de_op o_add (dv 0) de_int) da_nil))) (dp_nm sc__law_walker.nd)
  (dss_cons (ds_expr (de_meth C_Watcher_add_rule hgd hr (dv 4) (da_cons (dv 6) (da_cons (dv 2) (da_cons de_str (da_cons (de_op o_add (de_op o_mod (dv 6) (dv 0)) de_int) (da_cons (dv 5) da_nil)))))))
  (dss_one (ds_if (dt_val (dv 3))
  (dss_one (ds_expr (de_meth C_Watcher_add_rule hgd hr (dv 4) (da_cons (dv 6) (da_cons de_int (da_cons de_str (da_cons (dv 6) (da_cons (de_op o_add (de_tup (da_cons de_str da_nil)) (de_sl (dv 5) do_none (do_some (de_neg de_int)))) da_nil))))))))
  dss_nil))))
  (dss_one (ds_ret (dv 4))))))) (hsp__law_walker ⟨K, w, mg⟩)
theorem ok__law_walker {P : Program} {w : World} {K : PySem.W.Frag} {mg : Str → Option Value} {base : Heap} (D : Def K mg "_law_walker" "_law_walker" s__law_walker) (N_Watcher : CalC P w K mg base 2 "Watcher" p_Watcher___init__ sp_Watcher___init__) (z_list : mg "list" = none) (z_range : mg "range" = none) (z_tuple : mg "tuple" = none) (C_Watcher_add_state : CalM P w K mg base 2 "Watcher" "add_state" p_Watcher_add_state sp_Watcher_add_state) (C_Watcher_add_rule : CalM P w K mg base 4 "Watcher" "add_rule" p_Watcher_add_rule sp_Watcher_add_rule) : Cal P w K mg base 6 "_law_walker" p__law_walker sp__law_walker :=
  let ⟨f, fd, F, hm⟩ := D.ex
  ⟨f, fd, hm, F.kp, F.binds (ps := p__law_walker) fun _ _ _ _ _ _ us hl => match us, hl with | [_, _, _, _], _ => rfl, dfn__law_walker F N_Watcher z_list z_range z_tuple C_Watcher_add_state C_Watcher_add_rule⟩

--@cut
/-! ### the law's ways -/
def wys : List Int → List Int → List (List (Int × Int))
  | [], _ => [[]]
  | l :: ls, rs => wys ls rs ++ rs.flatMap fun r => (wys ls (rs.filter fun o => !decide (o = r))).map fun ps => (l, r) :: ps
theorem wys_len : ∀ (ls rs : List Int), rs.length ≤ 3 → (wys ls rs).length ≤ 4 ^ ls.length ∧ ∀ (l : Int) (qs : List Int), (qs.flatMap fun r => (wys ls (rs.filter fun o => !decide (o = r))).map fun ps => (l, r) :: ps).length ≤ qs.length * 4 ^ ls.length
  | [], rs, _ => by
    refine ⟨by simp [wys], fun l qs => ?_⟩
    induction qs with
    | nil => simp
    | cons q qs ih =>
      rw [List.flatMap_cons, List.length_append, List.length_map, List.length_cons, Nat.succ_mul]
      have : (wys [] (rs.filter fun o => !decide (o = q))).length = 1 := by simp [wys]
      simp at ih ⊢
      omega
  | l0 :: ls, rs, h => by
    have key : ∀ rs : List Int, rs.length ≤ 3 → (wys (l0 :: ls) rs).length ≤ 4 ^ (l0 :: ls).length := fun rs h => by
      rw [wys, List.length_append]
      obtain ⟨h1, h2⟩ := wys_len ls rs h
      have h2 := h2 l0 rs
      have h3 : rs.length * 4 ^ ls.length ≤ 3 * 4 ^ ls.length := Nat.mul_le_mul_right _ h
      rw [List.length_cons, Nat.pow_succ]
      omega
    refine ⟨key rs h, fun l qs => ?_⟩
    induction qs with
    | nil => simp
    | cons q qs ih =>
      rw [List.flatMap_cons, List.length_append, List.length_map, List.length_cons (as := qs), Nat.succ_mul]
      have h2 := key (rs.filter fun o => !decide (o = q)) (Nat.le_trans (List.length_filter_le _ _) h)
      omega
theorem wys_mem_len : ∀ (ls rs : List Int) (ps : List (Int × Int)), ps ∈ wys ls rs → ps.length ≤ ls.length
  | [], rs, ps, h => by simp [wys] at h; subst h; simp
  | l :: ls, rs, ps, h => by
    rw [wys] at h
    rcases List.mem_append.mp h with h | h
    · have := wys_mem_len ls rs ps h
      simp; omega
    · obtain ⟨r, _, h⟩ := List.mem_flatMap.mp h
      obtain ⟨qs, hq, rfl⟩ := List.mem_map.mp h
      have := wys_mem_len ls _ qs hq
      simp; omega
abbrev psD (ps : List (Int × Int)) : Dv := .tup (ps.map prD)
def sp__law_ways_r (n : Nat) : DSp := fun ds S Pq _ => ∃ (a b : Addr) (ls rs : List Int), ds = [.ref a, .ref b] ∧ S a = some (.lst (ls.map Dv.int)) ∧ S b = some (.lst (rs.map Dv.int)) ∧ ls.length ≤ n ∧ ls.length ≤ 3 ∧ rs.length ≤ 3 ∧
  ∀ S' c, Ext S S' → S c = none → S' c = some (.lst ((wys ls rs).map psD)) → Pq (.ref c) S'
abbrev s__law_ways : Stmt := top 26
abbrev n__law_ways : List Str := ["lefts", "rights", "found", "right", "rest", "other", "pairs"]
abbrev p__law_ways : List Str := ["lefts", "rights"]
theorem sc__law_ways : FnScope n__law_ways p__law_ways (defScope s__law_ways) := ⟨rfl, rfl, rfl, by decide +kernel, rfl, by decide +kernel, by decide +kernel⟩
-- return [()]
@[simp] def u__law_ways_2 (K : Kw) (Pe : DX) (n_ : Nat) : DTS :=
  (dRet (dLst (dCons (dTup dNil) dNil)))
-- found = found + [((lefts[0], right),) + pairs for pairs in _law_ways(lefts[1:], rest)]
@[simp] def u__law_ways_6 (K : Kw) (Pe : DX) (n_ : Nat) : DTS :=
  (dSet 2 (dBin gAdd (dVar 2) (dLc (dIL (dRec sp__law_ways_r n_ (dCons (dSl (dVar 0) (dPart (dC (.int 1))) dNoPart) (dCons (dVar 4) dNil)))) (.nm 6) dYes (dBin gAdd (dTup (dCons (dTup (dCons (dBin gIx (dVar 0) (dC (.int 0))) (dCons (dVar 3) dNil))) dNil)) (dVar 6)) [6])))
-- rest = [other for other in rights if other != right]
def u__law_ways_5 (K : Kw) (Pe : DX) (n_ : Nat) : DTS :=
  (dSeq (dSet 4 (dLc (dIL (dVar 1)) (.nm 5) (dB (dBin (gEqF not) (dVar 5) (dVar 3))) (dVar 5) [5]))
  (u__law_ways_6 K Pe n_))
-- return found
@[simp] def u__law_ways_7 (K : Kw) (Pe : DX) (n_ : Nat) : DTS :=
  (dRet (dVar 2))
-- for right in rights:
def u__law_ways_4 (K : Kw) (Pe : DX) (n_ : Nat) : DTS :=
  (dSeq (dFor (dIL (dVar 1)) (.nm 3)
  (u__law_ways_5 K Pe n_))
  (u__law_ways_7 K Pe n_))
-- found = _law_ways(lefts[1:], rights)
def u__law_ways_3 (K : Kw) (Pe : DX) (n_ : Nat) : DTS :=
  (dSeq (dSet 2 (dRec sp__law_ways_r n_ (dCons (dSl (dVar 0) (dPart (dC (.int 1))) dNoPart) (dCons (dVar 1) dNil))))
  (u__law_ways_4 K Pe n_))
-- if lefts == []:
def u__law_ways_1 (K : Kw) (Pe : DX) (n_ : Nat) : DTS :=
  (dSeq (dIfS (dB (dBin (gEqF id) (dVar 0) (dLst dNil)))
  (u__law_ways_2 K Pe n_)
  dNext)
  (u__law_ways_3 K Pe n_))
abbrev t__law_ways (K : Kw) (n_ : Nat) (Pe : DX) : DTS := (u__law_ways_1 K Pe n_)
theorem len__law_ways {n : Nat} : ∀ ds S Pq Pe, sp__law_ways_r n ds S Pq Pe → ds.length = p__law_ways.length := fun _ _ _ _ ⟨_, _, _, _, h, _⟩ => by subst h; rfl
theorem hsp__law_ways {n : Nat} (K : Kw) : ∀ ds S Pq Pe, sp__law_ways_r n ds S Pq Pe → dsp K n__law_ways (t__law_ways K n) ds S Pq Pe := by
  rintro ds S Pq Pe ⟨a, b, ls, rs, rfl, ha, hb, hl, l3, r3, h⟩
  refine VS.pure ?_
  unfold t__law_ways
  unfold u__law_ways_1
  refine dSeq_mk ?_
  simp
  intro q hq
  have aq := some_ne ha hq
  have bq := some_ne hb hq
  rw [gEqF_lists (ds := ls.map Dv.int) (es := []) (by rw [up_ne aq]; exact ha) up_same (plains_li ls).1 rfl (by rw [(plains_li ls).2]; decide) (by decide)]
  have T0 : Ext S (up S q (.lst [])) := Ext.refl.up_new hq
  have Ta : (up S q (.lst [])) a = some (.lst (ls.map Dv.int)) := by rw [up_ne aq]; exact ha
  have Tb : (up S q (.lst [])) b = some (.lst (rs.map Dv.int)) := by rw [up_ne bq]; exact hb
  generalize (up S q (.lst [])) = T at *
  cases ls with
  | nil =>
    simp
    intro l hl'
    refine VS.pure (h _ l (T0.up_new (none_back T0 hl')) (none_back T0 hl') ?_)
    rw [up_same]
    simp [wys]
  | cons l1 ls =>
    cases n with
    | zero => simp at hl
    | succ n =>
      simp
      unfold u__law_ways_3
      refine dSeq_mk ?_
      simp [Ta]
      intro q1 hq1
      have e1 : cutD (Dv.int l1 :: ls.map Dv.int) (some 1) none = ls.map Dv.int := by rw [cut_fromI (by omega)]; rfl
      rw [e1]
      have bq1 := some_ne Tb hq1
      simp at l3 hl
      refine ⟨q1, b, ls, rs, rfl, up_same, by rw [up_ne bq1]; exact Tb, by omega, by omega, r3, fun S1 c0 eS hc0 hcS => ?_⟩
      have F0 : Ext S S1 := (T0.up_new (none_back T0 hq1)).trans eS
      have c0S : S c0 = none := none_back (T0.up_new (none_back T0 hq1)) hc0
      clear eS hc0
      unfold u__law_ways_4
      refine dSeq_mk ?_
      simp
      rw [F0 _ _ hb]
      simp
      refine forL_enc Dv.int (fun i δ S2 => ∃ (c : Addr) (z3 z4 z5 z6 : Option Dv), Ext S S2 ∧ S c = none ∧ S2 c = some (.lst ((wys ls rs ++ (rs.take i).flatMap fun r => (wys ls (rs.filter fun o => !decide (o = r))).map fun ps => (l1, r) :: ps).map psD)) ∧ δ = [some (.ref a), some (.ref b), some (.ref c), z3, z4, z5, z6]) ⟨c0, _, _, _, _, F0, ?_, by simpa using hcS, rfl⟩ ?_ ?_
      · exact c0S
      · rintro i r δ S2 hi ⟨c, z3, z4, z5, z6, e2, hc, hcS, rfl⟩ N hN
        refine ⟨e2 _ _ hb, _, rfl, ?_⟩
        unfold u__law_ways_5
        refine dSeq_mk ?_
        refine lc_mk ?_
        simp [e2 _ _ hb]
        intro R hR
        refine lcRun_enc Dv.int (fun o => if !decide (o = r) then some (Dv.int o) else none) rs [] (by simp; omega) (fun _ => by rw [up_ne (some_ne (e2 _ _ hb) hR)]; exact e2 _ _ hb) (fun o ho => ⟨_, rfl, fun acc N1 N2 g1 g2 => ?_⟩) ?_
        · simp
          by_cases q : o = r
          · simp [q] at g2 ⊢; exact g2
          · simp [q] at g1 ⊢; exact g1
        simp only [List.nil_append]
        have ef : rs.filterMap (fun o => if !decide (o = r) then some (Dv.int o) else none) = (rs.filter fun o => !decide (o = r)).map Dv.int := by
          rw [← List.filterMap_eq_map, List.filterMap_filter]
          rfl
        rw [ef]
        have e3 : Ext S (up S2 R (.lst ((rs.filter fun o => !decide (o = r)).map Dv.int))) := e2.up_new (none_back e2 hR)
        have hR3 : (up S2 R (.lst ((rs.filter fun o => !decide (o = r)).map Dv.int))) R = some (.lst ((rs.filter fun o => !decide (o = r)).map Dv.int)) := up_same
        have hc3 : (up S2 R (.lst ((rs.filter fun o => !decide (o = r)).map Dv.int))) c = S2 c := up_ne (some_ne hcS hR)
        rw [hcS] at hc3
        have fl : (rs.filter fun o => !decide (o = r)).length ≤ 3 := Nat.le_trans (List.length_filter_le _ _) r3
        generalize (up S2 R (.lst ((rs.filter fun o => !decide (o = r)).map Dv.int))) = S3 at *
        refine lc_mk ?_
        simp [e3 _ _ ha]
        intro q2 hq2
        rw [e1]
        have Rq2 := some_ne hR3 hq2
        refine ⟨q2, R, ls, rs.filter fun o => !decide (o = r), rfl, up_same, by rw [up_ne Rq2]; exact hR3, hl, by omega, fl, fun S4 d0 e4 hd0 hd4 => ?_⟩
        have e5 : Ext S S4 := (e3.up_new (none_back e3 hq2)).trans e4
        have hc4 : S4 c = some _ := e4 _ _ (by rw [up_ne (some_ne hc3 hq2)]; exact hc3)
        simp [hd4]
        intro M hM
        have wl := (wys_len ls (rs.filter fun o => !decide (o = r)) fl).1
        obtain ⟨wf1, wf2⟩ := wys_len ls rs r3
        have wf3 := wf2 l1 (rs.take i)
        have w2 : 4 ^ ls.length ≤ 16 := by
          have : ls.length = 0 ∨ ls.length = 1 ∨ ls.length = 2 := by omega
          rcases this with e | e | e <;> rw [e] <;> decide
        have d0M := some_ne hd4 hM
        refine lcRun_all psD (fun ps => psD ((l1, r) :: ps)) (wys ls (rs.filter fun o => !decide (o = r))) (by omega) ?_ ?_ ?_
        · intro acc
          rw [up_ne d0M]
          exact hd4
        · intro ps hps
          refine ⟨_, rfl, fun acc N' hN' => ?_⟩
          have pl := wys_mem_len _ _ _ hps
          have ha4 : (up S4 M (.lst acc)) a = some (.lst ((l1 :: ls).map Dv.int)) := by rw [up_ne (some_ne (e5 _ _ ha) hM)]; exact e5 _ _ ha
          simp [ha4]
          exact ⟨by omega, hN'⟩
        · have cM := some_ne hc4 hM
          simp only [up_ne cM, hc4, up_same]
          have tl : (rs.take i).length ≤ 3 := Nat.le_trans (by simp; omega) r3
          have tm : (rs.take i).length * 4 ^ ls.length ≤ 3 * 16 := Nat.mul_le_mul tl w2
          refine ⟨by simp only [List.length_map, List.length_append]; omega, fun l hl' => ?_⟩
          have e6 : Ext S (up S4 M (.lst ((wys ls (rs.filter fun o => !decide (o = r))).map fun ps => psD ((l1, r) :: ps)))) := e5.up_new (none_back e5 hM)
          refine hN _ _ ⟨l, _, _, _, _, e6.up_new (none_back e6 hl'), none_back e6 hl', ?_, rfl⟩
          rw [up_same]
          have tk : rs.take (i + 1) = rs.take i ++ [r] := by rw [List.take_add_one, hi]; rfl
          rw [tk]
          simp
      · rintro δ S2 ⟨c, z3, z4, z5, z6, e2, hc, hcS, rfl⟩
        refine ⟨e2 _ _ hb, ?_⟩
        simp
        rw [List.take_length] at hcS
        exact VS.pure (h S2 c e2 hc hcS)
abbrev sp__law_ways : DSp := sp__law_ways_r 3
theorem dfn__law_ways {P : Program} {w : World} {K : PySem.W.Frag} {mg : Str → Option Value} {base : Heap} {f : Addr} {fd : FuncData} {n_ : Nat} (F : Fun K "_law_ways" "_law_ways" s__law_ways f fd) (C__law_ways : ∀ m, n_ = m + 1 → Cal P w K mg base (3 + m) "_law_ways" p__law_ways (sp__law_ways_r m)) : DFn P w K mg base (3 + n_) f fd p__law_ways (sp__law_ways_r n_) :=
  cast (by rw [show 3 + n_ = 2 + n_ + 1 from by omega]) (Fun.okD (k := 2 + n_) (t := t__law_ways ⟨K, w, mg⟩ n_) F sc__law_ways len__law_ways (fun cdv A outer s H Pe E hgd hrn px =>
  have hr := hrn.mono (Nat.le_add_right 2 n_)
  (dss_cons (ds_if (dt_cmp (c_eq (units_64 hr)) (dv 0) (de_lst da_nil))
  (dss_one (ds_ret (de_lst (da_cons (de_tup da_nil) da_nil))))
  dss_nil)
  (dss_cons (ds_set sc__law_ways.nd (de_rec C__law_ways hgd hrn (da_cons (de_sl (dv 0) (do_some de_int) do_none) (da_cons (dv 1) da_nil))))
  (dss_cons (ds_for (passes_of rfl) rfl (di_list (dv 1)) (dp_nm sc__law_ways.nd)
  (dss_cons (ds_setLc (own := [("other", 5)]) rfl sc__law_ways.nd (di_list (dv 1)) (blkOk_by (own := [("other", 5)]) (N := n__law_ways) (sc := defScope s__law_ways) (by decide +kernel)) (fun _ _ _ _ _ => (dp_nm sc__law_ways.nd)) (fun _ _ _ _ _ => (dts_one (dt_cmp (c_ne (units_64 hr)) (dv 5) (dv 3)))) (fun _ _ _ _ _ => (dv 5)))
  (dss_one (ds_set sc__law_ways.nd (de_op o_add (dv 2) (de_lc (own := [("pairs", 6)]) rfl sc__law_ways.nd (di_list (de_rec C__law_ways hgd hrn (da_cons (de_sl (dv 0) (do_some de_int) do_none) (da_cons (dv 4) da_nil)))) (blkOk_by (own := [("pairs", 6)]) (N := n__law_ways) (sc := defScope s__law_ways) (by decide +kernel)) (fun _ _ _ _ _ => (dp_nm sc__law_ways.nd)) (fun _ _ _ _ _ => dts_nil) (fun _ _ _ _ _ => (de_op o_add (de_tup (da_cons (de_tup (da_cons (de_ix (dv 0) de_int) (da_cons (dv 3) da_nil))) da_nil)) (dv 6)))))))))
  (dss_one (ds_ret (dv 2))))))) (hsp__law_ways ⟨K, w, mg⟩))
theorem ok__law_ways {P : Program} {w : World} {K : PySem.W.Frag} {mg : Str → Option Value} {base : Heap} (D : Def K mg "_law_ways" "_law_ways" s__law_ways) : Cal P w K mg base 6 "_law_ways" p__law_ways sp__law_ways :=
  let ⟨f, fd, F, hm⟩ := D.ex
  have go : ∀ n_, Cal P w K mg base (3 + n_) "_law_ways" p__law_ways (sp__law_ways_r n_) := fun n_ => Nat.rec (motive := fun n_ => Cal P w K mg base (3 + n_) "_law_ways" p__law_ways (sp__law_ways_r n_)) ⟨f, fd, hm, F.kp, F.binds (ps := p__law_ways) fun _ _ _ _ _ _ us hl => match us, hl with | [_, _], _ => rfl, dfn__law_ways F  (fun _ e => nomatch e)⟩ (fun n_ ih => ⟨f, fd, hm, F.kp, F.binds (ps := p__law_ways) fun _ _ _ _ _ _ us hl => match us, hl with | [_, _], _ => rfl, dfn__law_ways F  (fun m e => Nat.succ.inj e ▸ ih)⟩) n_
  go 3

--@cut
/-! ### which situations are reached -/
def rng (h : Nat) : List Int := (List.range h).map fun n : Nat => (n : Int)
def dueS (m h : Nat) : List Sit := (List.range m).flatMap fun p : Nat => (List.range m).flatMap fun q : Nat => (wys (rng h) (rng h)).map fun ps => ((p : Int) + 1, (q : Int) + 1, ps)
theorem sub_of_sorted : ∀ {ys xs : List Int}, xs.Pairwise (· < ·) → ys.Pairwise (· < ·) → (∀ x ∈ xs, x ∈ ys) → xs.Sublist ys
  | [], xs, _, _, h => by
    cases xs with
    | nil => exact .slnil
    | cons x xs => exact absurd (h x (by simp)) (by simp)
  | y :: ys, [], _, _, _ => List.nil_sublist _
  | y :: ys, x :: xs, hx, hy, h => by
    rw [List.pairwise_cons] at hx hy
    by_cases e : x = y
    · subst e
      refine .cons₂ _ (sub_of_sorted hx.2 hy.2 fun z hz => ?_)
      have h1 := hx.1 z hz
      rcases List.mem_cons.mp (h z (by simp [hz])) with q | q
      · omega
      · exact q
    · have hxy : x ∈ ys := (List.mem_cons.mp (h x (by simp))).resolve_left e
      have := hy.1 x hxy
      refine .cons _ (sub_of_sorted (List.pairwise_cons.mpr hx) hy.2 fun z hz => ?_)
      rcases List.mem_cons.mp (h z hz) with q | q
      · rcases List.mem_cons.mp hz with r | r
        · exact absurd (r.symm.trans q) e
        · have := hx.1 z r
          omega
      · exact q
theorem in_wys : ∀ {ls rs : List Int} {ps : List (Int × Int)}, (ps.map (·.1)).Sublist ls → (ps.map (·.2)).Nodup → (∀ p ∈ ps, p.2 ∈ rs) → ps ∈ wys ls rs
  | [], rs, ps, h, _, _ => by
    have : ps = [] := by simpa using h
    subst this
    simp [wys]
  | l :: ls, rs, ps, h, nd, hr => by
    rw [wys]
    cases ps with
    | nil => exact List.mem_append_left _ (in_wys (List.nil_sublist _) (by simp) (by simp))
    | cons p qs =>
      simp only [List.map_cons] at h nd
      rw [List.nodup_cons] at nd
      by_cases e : p.1 = l
      · subst e
        refine List.mem_append_right _ (List.mem_flatMap.mpr ⟨p.2, hr p (by simp), List.mem_map.mpr ⟨qs, in_wys (List.cons_sublist_cons.mp h) nd.2 fun q hq => ?_, rfl⟩⟩)
        rw [List.mem_filter]
        refine ⟨hr q (by simp [hq]), ?_⟩
        simp only [Bool.not_eq_true', decide_eq_false_iff_not]
        exact fun z => nd.1 (by rw [← z]; exact List.mem_map_of_mem hq)
      · refine List.mem_append_left _ (in_wys (ps := p :: qs) ?_ (by simpa using nd) hr)
        cases h with
        | cons _ h => exact h
        | cons_cons _ h => exact absurd rfl e
theorem rng_sorted (h : Nat) : (rng h).Pairwise (· < ·) := by
  unfold rng
  rw [List.pairwise_map]
  exact List.pairwise_lt_range.imp fun h => by omega
theorem mem_rng {h : Nat} {i : Int} : i ∈ rng h ↔ 0 ≤ i ∧ i < h := by
  unfold rng
  simp only [List.mem_map, List.mem_range]
  exact ⟨fun ⟨n, h1, h2⟩ => by omega, fun h => ⟨i.toNat, by omega, by omega⟩⟩
theorem wk_held {m h : Nat} {i : Int} (h0 : 1 ≤ i) (h1 : i ≤ m) : heldN (wkK m h) i = h := by
  unfold heldN
  rw [wkK_at h0 h1]
  simp
theorem in_due {m h : Nat} {s : Sit} (o : SitOk (wkK m h) (wkK m h) s) (p1 : 1 ≤ s.1) (q1 : 1 ≤ s.2.1) : s ∈ dueS m h := by
  obtain ⟨p, q, ps⟩ := s
  have p0 := o.p0
  have q0 := o.q0
  rw [wkK_len] at p0 q0
  simp only at p0 q0 p1 q1
  have rg := o.rng
  simp only at rg
  rw [wk_held p1 (by omega), wk_held q1 (by omega)] at rg
  unfold dueS
  refine List.mem_flatMap.mpr ⟨(p - 1).toNat, List.mem_range.mpr (by omega), List.mem_flatMap.mpr ⟨(q - 1).toNat, List.mem_range.mpr (by omega), List.mem_map.mpr ⟨ps, in_wys (sub_of_sorted ?_ (rng_sorted h) fun x hx => ?_) o.inj fun x hx => mem_rng.mpr (rg x hx).2, ?_⟩⟩⟩
  · rw [List.pairwise_map]; exact o.asc
  · obtain ⟨y, hy, rfl⟩ := List.mem_map.mp hx
    exact mem_rng.mpr (rg y hy).1
  · simp only [Prod.mk.injEq, and_true]
    omega
theorem wk_rule {m h : Nat} {w : Int} {f : Bool} {s wd : Int} {t : Option Int} {x : Int} (hs : 1 ≤ s) : 1 ≤ (ruleFor (wkR m h w f m) s wd t x).1 := by
  unfold ruleFor
  cases q : (wkR m h w f m).lookup (s, wd, t) with
  | none => exact hs
  | some g =>
    have hm := lookup_in q
    obtain ⟨i, hi, hp⟩ := List.mem_flatMap.mp hm
    have hi := List.mem_range.mp hi
    unfold wkOne at hp
    rcases List.mem_cons.mp hp with e | hp
    · cases e
      exact (wk_mod hi).1
    · cases f with
      | true => simp at hp; obtain ⟨_, rfl⟩ := hp; simp; omega
      | false => simp at hp
theorem rch_due {m h : Nat} (h1 : 1 ≤ h) (h3 : h ≤ 3) (m1 : 1 ≤ m) (m5 : m ≤ 5) {s : Sit} (r : SRch 3 (wkK m h) (wkR m h 0 true m) (wkK m h) (wkR m h 1 false m) (1, 1, []) s) : s ∈ dueS m h := by
  have w1 : Wf 3 (wkK m h) (wkR m h 0 true m) := wk_wf (by decide) (by decide) h1 h3 m5
  have w2 : Wf 3 (wkK m h) (wkR m h 1 false m) := wk_wf (by decide) (by decide) h1 h3 m5
  have key : SitOk (wkK m h) (wkK m h) s ∧ 1 ≤ s.1 ∧ 1 ≤ s.2.1 := by
    induction r with
    | zero => exact ⟨⟨by simp only [wkK_len]; omega, by simp only [wkK_len]; omega, by simp, by simp, by simp⟩, by simp, by simp⟩
    | step _ hm ih => exact ⟨step_ok w1 w2 ih.1 _ _, wk_rule ih.2.1, wk_rule ih.2.2⟩
  exact in_due key.1 key.2.1 key.2.2
/-! and all of them are -/
def runC (n : Int) (k1 : List (Int × Int)) (r1 : List (Ru × Tg)) (k2 : List (Int × Int)) (r2 : List (Ru × Tg)) : Sit → List (Int × Cs) → Option Sit
  | s, [] => some s
  | s, m :: ms => if 0 ≤ m.1 ∧ m.1 < n ∧ m.2 ∈ casesS (heldN k1 s.1) (heldN k2 s.2.1) s.2.2 then runC n k1 r1 k2 r2 (stepS k1 r1 k2 r2 s m.1 m.2) ms else none
theorem runC_rch {n : Int} {k1 : List (Int × Int)} {r1 : List (Ru × Tg)} {k2 : List (Int × Int)} {r2 : List (Ru × Tg)} {s0 : Sit} : ∀ (ms : List (Int × Cs)) (s t : Sit), SRch n k1 r1 k2 r2 s0 s → runC n k1 r1 k2 r2 s ms = some t → SRch n k1 r1 k2 r2 s0 t
  | [], s, t, h, e => by cases e; exact h
  | m :: ms, s, t, h, e => by
    rw [runC] at e
    split at e
    · rename_i c
      exact runC_rch ms _ t (.step h c) e
    · cases e
def pushOf (h : Nat) (ps : List (Int × Int)) : List (Int × Cs) := (List.range h).reverse.map fun i : Nat => (2, match ps.find? (fun p => decide (p.1 = (i : Int))) with | some p => .second p.2 | none => .new)
def chk1 (m h : Nat) : Bool := (wys (rng h) (rng h)).all fun ps => decide (runC 3 (wkK m h) (wkR m h 0 true m) (wkK m h) (wkR m h 1 false m) (1, 1, []) (pushOf h ps) = some (1, 1, ps))
def chk2 (m h : Nat) : Bool := (dueS m h).all fun s => decide (stepS (wkK m h) (wkR m h 0 true m) (wkK m h) (wkR m h 1 false m) s 0 .new = (s.1 % m + 1, s.2.1, s.2.2)) && decide (stepS (wkK m h) (wkR m h 0 true m) (wkK m h) (wkR m h 1 false m) s 1 .new = (s.1, s.2.1 % m + 1, s.2.2))
theorem chk1_all : ∀ m h : Nat, 1 ≤ m → 1 ≤ h → h ≤ 3 → m + h ≤ 6 → chk1 m h = true := by
  have a : (chk1 1 1 && chk1 2 1 && chk1 3 1 && chk1 4 1 && chk1 5 1) = true := by decide +kernel
  have b : (chk1 1 2 && chk1 2 2 && chk1 3 2 && chk1 4 2) = true := by decide +kernel
  have c : (chk1 1 3 && chk1 2 3 && chk1 3 3) = true := by decide +kernel
  simp only [Bool.and_eq_true] at a b c
  intro m h m1 h1 h3 hs
  have : h = 1 ∨ h = 2 ∨ h = 3 := by omega
  rcases this with rfl | rfl | rfl
  · have : m = 1 ∨ m = 2 ∨ m = 3 ∨ m = 4 ∨ m = 5 := by omega
    rcases this with rfl | rfl | rfl | rfl | rfl <;> simp [a]
  · have : m = 1 ∨ m = 2 ∨ m = 3 ∨ m = 4 := by omega
    rcases this with rfl | rfl | rfl | rfl <;> simp [b]
  · have : m = 1 ∨ m = 2 ∨ m = 3 := by omega
    rcases this with rfl | rfl | rfl <;> simp [c]
theorem chk2_all : ∀ m h : Nat, 1 ≤ m → 1 ≤ h → h ≤ 3 → m + h ≤ 6 → chk2 m h = true := by
  have a : (chk2 1 1 && chk2 2 1 && chk2 3 1 && chk2 4 1 && chk2 5 1) = true := by decide +kernel
  have b : (chk2 1 2 && chk2 2 2 && chk2 3 2 && chk2 4 2) = true := by decide +kernel
  have c : (chk2 1 3 && chk2 2 3 && chk2 3 3) = true := by decide +kernel
  simp only [Bool.and_eq_true] at a b c
  intro m h m1 h1 h3 hs
  have : h = 1 ∨ h = 2 ∨ h = 3 := by omega
  rcases this with rfl | rfl | rfl
  · have : m = 1 ∨ m = 2 ∨ m = 3 ∨ m = 4 ∨ m = 5 := by omega
    rcases this with rfl | rfl | rfl | rfl | rfl <;> simp [a]
  · have : m = 1 ∨ m = 2 ∨ m = 3 ∨ m = 4 := by omega
    rcases this with rfl | rfl | rfl | rfl <;> simp [b]
  · have : m = 1 ∨ m = 2 ∨ m = 3 := by omega
    rcases this with rfl | rfl | rfl <;> simp [c]
theorem new_in (h1 h2 : Nat) (ps : List (Int × Int)) : Cs.new ∈ casesS h1 h2 ps := by simp [casesS]
theorem due_rch {m h : Nat} (h1 : 1 ≤ h) (h3 : h ≤ 3) (m1 : 1 ≤ m) (hs : m + h ≤ 6) {s : Sit} (hd : s ∈ dueS m h) : SRch 3 (wkK m h) (wkR m h 0 true m) (wkK m h) (wkR m h 1 false m) (1, 1, []) s := by
  have c1 := chk1_all m h m1 h1 h3 hs
  have c2 := chk2_all m h m1 h1 h3 hs
  unfold chk1 at c1
  unfold chk2 at c2
  rw [List.all_eq_true] at c1 c2
  obtain ⟨p, hp, hd⟩ := List.mem_flatMap.mp hd
  obtain ⟨q, hq, hd⟩ := List.mem_flatMap.mp hd
  obtain ⟨ps, hps, rfl⟩ := List.mem_map.mp hd
  rw [List.mem_range] at hp hq
  have mem : ∀ a b : Nat, a < m → b < m → ((a : Int) + 1, (b : Int) + 1, ps) ∈ dueS m h := fun a b ha hb => List.mem_flatMap.mpr ⟨a, List.mem_range.mpr ha, List.mem_flatMap.mpr ⟨b, List.mem_range.mpr hb, List.mem_map.mpr ⟨ps, hps, rfl⟩⟩⟩
  have st : ∀ a b : Nat, a < m → b < m → stepS (wkK m h) (wkR m h 0 true m) (wkK m h) (wkR m h 1 false m) ((a : Int) + 1, (b : Int) + 1, ps) 0 .new = (((a : Int) + 1) % m + 1, (b : Int) + 1, ps) ∧ stepS (wkK m h) (wkR m h 0 true m) (wkK m h) (wkR m h 1 false m) ((a : Int) + 1, (b : Int) + 1, ps) 1 .new = ((a : Int) + 1, ((b : Int) + 1) % m + 1, ps) := fun a b ha hb => by
    have := c2 _ (mem a b ha hb)
    rw [Bool.and_eq_true, decide_eq_true_eq, decide_eq_true_eq] at this
    exact this
  have z := runC_rch (s0 := (1, 1, [])) (pushOf h ps) (1, 1, []) _ .zero (of_decide_eq_true (c1 ps hps))
  have g1 : ∀ a : Nat, a < m → SRch 3 (wkK m h) (wkR m h 0 true m) (wkK m h) (wkR m h 1 false m) (1, 1, []) ((a : Int) + 1, 1, ps) := fun a => by
    induction a with
    | zero => exact fun _ => z
    | succ a ih =>
      intro ha
      have r := (st a 0 (by omega) (by omega)).1
      have e : ((a : Int) + 1) % m = (a : Int) + 1 := Int.emod_eq_of_lt (by omega) (by omega)
      rw [e] at r
      have := SRch.step (m := (0, .new)) (ih (by omega)) ⟨by decide, by decide, new_in _ _ _⟩
      simp only at this
      have r' : stepS (wkK m h) (wkR m h 0 true m) (wkK m h) (wkR m h 1 false m) ((a : Int) + 1, 1, ps) 0 .new = ((a : Int) + 1 + 1, 1, ps) := r
      rw [r'] at this
      exact this
  have g2 : ∀ b : Nat, b < m → SRch 3 (wkK m h) (wkR m h 0 true m) (wkK m h) (wkR m h 1 false m) (1, 1, []) ((p : Int) + 1, (b : Int) + 1, ps) := fun b => by
    induction b with
    | zero => exact fun _ => g1 p hp
    | succ b ih =>
      intro hb
      have r := (st p b hp (by omega)).2
      have e : ((b : Int) + 1) % m = (b : Int) + 1 := Int.emod_eq_of_lt (by omega) (by omega)
      rw [e] at r
      have := SRch.step (m := (1, .new)) (ih (by omega)) ⟨by decide, by decide, new_in _ _ _⟩
      simp only at this
      rw [r] at this
      exact this
  exact g2 q hq
theorem due_nd : ∀ m h : Nat, 1 ≤ m → 1 ≤ h → h ≤ 3 → m + h ≤ 6 → (dueS m h).Nodup := by
  have a : (decide (dueS 1 1).Nodup && decide (dueS 2 1).Nodup && decide (dueS 3 1).Nodup && decide (dueS 4 1).Nodup && decide (dueS 5 1).Nodup) = true := by decide +kernel
  have b : (decide (dueS 1 2).Nodup && decide (dueS 2 2).Nodup && decide (dueS 3 2).Nodup && decide (dueS 4 2).Nodup) = true := by decide +kernel
  have c : (decide (dueS 1 3).Nodup && decide (dueS 2 3).Nodup && decide (dueS 3 3).Nodup) = true := by decide +kernel
  simp only [Bool.and_eq_true, decide_eq_true_eq] at a b c
  intro m h m1 h1 h3 hs
  have : h = 1 ∨ h = 2 ∨ h = 3 := by omega
  rcases this with rfl | rfl | rfl
  · have : m = 1 ∨ m = 2 ∨ m = 3 ∨ m = 4 ∨ m = 5 := by omega
    rcases this with rfl | rfl | rfl | rfl | rfl <;> simp [a]
  · have : m = 1 ∨ m = 2 ∨ m = 3 ∨ m = 4 := by omega
    rcases this with rfl | rfl | rfl | rfl <;> simp [b]
  · have : m = 1 ∨ m = 2 ∨ m = 3 := by omega
    rcases this with rfl | rfl | rfl <;> simp [c]

--@cut
def dueT (h : Nat) (p : Nat) (j : Nat) : List Sit := (List.range j).flatMap fun q : Nat => (wys (rng h) (rng h)).map fun ps => ((p : Int) + 1, (q : Int) + 1, ps)
def dueP (m h : Nat) (i : Nat) : List Sit := (List.range i).flatMap fun p : Nat => dueT h p m
theorem dueT_succ (h p j : Nat) : dueT h p (j + 1) = dueT h p j ++ (wys (rng h) (rng h)).map fun ps => ((p : Int) + 1, (j : Int) + 1, ps) := by simp [dueT, List.range_succ]
theorem dueP_succ (m h i : Nat) : dueP m h (i + 1) = dueP m h i ++ dueT h i m := by simp [dueP, List.range_succ]
theorem dueT_len {h : Nat} (h3 : h ≤ 3) (p : Nat) : ∀ j, (dueT h p j).length ≤ j * 64
  | 0 => by simp [dueT]
  | j + 1 => by
    rw [dueT_succ, List.length_append, List.length_map]
    have h1 := dueT_len h3 p j
    have h2 := (wys_len (rng h) (rng h) (by simpa [rng] using h3)).1
    have h4 : 4 ^ (rng h).length ≤ 64 := by
      have : (rng h).length = 0 ∨ (rng h).length = 1 ∨ (rng h).length = 2 ∨ (rng h).length = 3 := by simp [rng]; omega
      rcases this with e | e | e | e <;> rw [e] <;> decide
    omega
theorem dueP_len {m h : Nat} (h3 : h ≤ 3) (m5 : m ≤ 5) : ∀ i, (dueP m h i).length ≤ i * 320
  | 0 => by simp [dueP]
  | i + 1 => by
    rw [dueP_succ, List.length_append]
    have h1 := dueP_len h3 m5 i
    have h2 := dueT_len h3 i m
    omega
abbrev s_law : Stmt := top 27
abbrev n_law : List Str := ["script", "cells", "held", "many", "pair", "due", "p", "q", "cell", "pairs"]
abbrev p_law : List Str := ["script"]
theorem sc_law : FnScope n_law p_law (defScope s_law) := ⟨rfl, rfl, rfl, by decide +kernel, rfl, by decide +kernel, by decide +kernel⟩
-- due.extend([(p, q, pairs) for pairs in _law_ways(list(range(held)), list(range(held)))])
@[simp] def u_law_7 [TabP] (K : Kw) (Pe : DX) : DTS :=
  (dDrop (dBM isL gExtend (dVar 5) (dCons (dLc (dIL (dCall sp__law_ways X0 (dCons (dLstRg (dVar 2)) (dCons (dLstRg (dVar 2)) dNil)))) (.nm 9) dYes (dTup (dCons (dVar 6) (dCons (dVar 7) (dCons (dVar 9) dNil)))) [9]) dNil)))
-- for q in range(1, many + 1):
def u_law_6 [TabP] (K : Kw) (Pe : DX) : DTS :=
  (dFor (dIR2 (dCons (dC (.int 1)) (dCons (dBin gAdd (dVar 3) (dC (.int 1))) dNil))) (.nm 7)
  (u_law_7 K Pe))
-- return reached_situations(pair, (1, 1, ())) == tuple(sorted(due))
@[simp] def u_law_8 [TabP] (K : Kw) (Pe : DX) : DTS :=
  (dRet (dBin (gEqF id) (dCall sp_reached_situations X0 (dCons (dVar 4) (dCons (dTup (dCons (dC (.int 1)) (dCons (dC (.int 1)) (dCons (dTup dNil) dNil)))) dNil))) (dCB gTuple (dCons (dCB gSortD (dCons (dVar 5) dNil)) dNil))))
-- for p in range(1, many + 1):
def u_law_5 [TabP] (K : Kw) (Pe : DX) : DTS :=
  (dSeq (dFor (dIR2 (dCons (dC (.int 1)) (dCons (dBin gAdd (dVar 3) (dC (.int 1))) dNil))) (.nm 6)
  (u_law_6 K Pe))
  (u_law_8 K Pe))
-- pair, due = ((_law_walker(many, held, 0, True), _law_walker(many, held, 1, False)), [])
def u_law_4 [TabP] (K : Kw) (Pe : DX) : DTS :=
  (dSeq (dPar 4 5 (dCons (dTup (dCons (dCall sp__law_walker X0 (dCons (dVar 3) (dCons (dVar 2) (dCons (dC (.int 0)) (dCons (dC (.bl true)) dNil))))) (dCons (dCall sp__law_walker X0 (dCons (dVar 3) (dCons (dVar 2) (dCons (dC (.int 1)) (dCons (dC (.bl false)) dNil))))) dNil))) (dCons (dLst dNil) dNil)))
  (u_law_5 K Pe))
-- many = 1 + cells[0] % (6 - held)
def u_law_3 [TabP] (K : Kw) (Pe : DX) : DTS :=
  (dSeq (dSet 3 (dBin gAdd (dC (.int 1)) (dBin gMod (dBin gIx (dVar 1) (dC (.int 0))) (dBin gSub (dC (.int 6)) (dVar 2)))))
  (u_law_4 K Pe))
-- held = 1 + cells[1] % 3
def u_law_2 [TabP] (K : Kw) (Pe : DX) : DTS :=
  (dSeq (dSet 2 (dBin gAdd (dC (.int 1)) (dBin gMod (dBin gIx (dVar 1) (dC (.int 1))) (dC (.int 3)))))
  (u_law_3 K Pe))
-- cells = [abs(int(cell)) for cell in script[:2]] + [1, 1]
def u_law_1 [TabP] (K : Kw) (Pe : DX) : DTS :=
  (dSeq (dSet 1 (dBin gAdd (dLc (dIL (dSl (dVar 0) dNoPart (dPart (dC (.int 2))))) (.nm 8) dYes (dCB gAbs (dCons (dCB gInt (dCons (dVar 8) dNil)) dNil)) [8]) (dLst (dCons (dC (.int 1)) (dCons (dC (.int 1)) dNil)))))
  (u_law_2 K Pe))
abbrev t_law [TabP] (K : Kw) (Pe : DX) : DTS := (u_law_1 K Pe)
def sp_law [TabP] : DSp := fun ds S Pq _ => ∃ ns : List Int, ds = [.scr ns] ∧ ns.length ≤ 63 ∧ (∀ z ∈ ns, Builtin.Int.intBits z ≤ 1048576) ∧ S TabP.p = some (.tab qSits) ∧ (∀ S', S' TabP.p = some (.tab qSits) → Pq (.bl true) S')
theorem len_law [TabP] : ∀ ds S Pq Pe, sp_law ds S Pq Pe → ds.length = p_law.length := fun _ _ _ _ ⟨_, h, _⟩ => by subst h; rfl
theorem hsp_law [TabP] (K : Kw) : ∀ ds S Pq Pe, sp_law ds S Pq Pe → dsp K n_law (t_law K) ds S Pq Pe := by
  rintro ds S Pq Pe ⟨ns, rfl, hl, hb, ht, h⟩
  refine VS.pure ?_
  unfold t_law
  unfold u_law_1
  refine dSeq_mk ?_
  simp
  refine lc_mk ?_
  simp
  intro A hA B BA hB
  have e1 : cutD (ns.map Dv.int) none (some 2) = (ns.take 2).map Dv.int := by rw [cut_toI (by omega)]; simp
  rw [e1]
  have lt2 : (ns.take 2).length ≤ 2 := by simp; omega
  clear e1
  generalize ns.take 2 = t2 at *
  refine lcRun_all Dv.int (fun z => Dv.int (if z < 0 then -z else z)) t2 (by omega) ?_ ?_ ?_
  · intro acc
    rw [up_ne (Ne.symm BA), up_same]
  · intro z hz
    refine ⟨_, rfl, fun acc N hN => ?_⟩
    simp
    exact hN
  have eab : (t2.map fun z => Dv.int (if z < 0 then -z else z)) = (t2.map fun z : Int => if z < 0 then -z else z).map Dv.int := by rw [List.map_map]; rfl
  rw [eab]
  have T0 : Ext S (up (up S A (.lst (t2.map Dv.int))) B (.lst ((t2.map fun z : Int => if z < 0 then -z else z).map Dv.int))) := (Ext.refl.up_new hA).up_new hB
  have TB : (up (up S A (.lst (t2.map Dv.int))) B (.lst ((t2.map fun z : Int => if z < 0 then -z else z).map Dv.int))) B = some (.lst ((t2.map fun z : Int => if z < 0 then -z else z).map Dv.int)) := up_same
  generalize (up (up S A (.lst (t2.map Dv.int))) B (.lst ((t2.map fun z : Int => if z < 0 then -z else z).map Dv.int))) = T at *
  intro C hC
  have BC := some_ne TB hC
  simp only [up_ne BC, TB, up_same]
  refine ⟨by simp; omega, fun D DC hD => ?_⟩
  obtain ⟨cs, hcs⟩ : ∃ cs : List Int, cs = (t2.map fun z : Int => if z < 0 then -z else z) ++ [1, 1] := ⟨_, rfl⟩
  have ecs : (t2.map fun z : Int => if z < 0 then -z else z).map Dv.int ++ [.int 1, .int 1] = cs.map Dv.int := by rw [hcs, List.map_append]; rfl
  rw [ecs]
  have c0 : ∀ z ∈ cs, 0 ≤ z := fun z hz => by
    rw [hcs] at hz
    rcases List.mem_append.mp hz with q | q
    · obtain ⟨y, _, rfl⟩ := List.mem_map.mp q
      split <;> omega
    · simp at q; omega
  have cl : 2 ≤ cs.length := by rw [hcs]; simp
  have U0 : Ext S (up (up T C (.lst [.int 1, .int 1])) D (.lst (cs.map Dv.int))) := (T0.up_new (none_back T0 hC)).up_new (none_back T0 hD)
  have UD : (up (up T C (.lst [.int 1, .int 1])) D (.lst (cs.map Dv.int))) D = some (.lst (cs.map Dv.int)) := up_same
  generalize (up (up T C (.lst [.int 1, .int 1])) D (.lst (cs.map Dv.int))) = U at *
  clear hcs ecs eab
  obtain ⟨x0, x1, cr, rfl⟩ : ∃ a b r, cs = a :: b :: r := by
    match cs, cl with
    | a :: b :: r, _ => exact ⟨a, b, r, rfl⟩
  have p0 := c0 x0 (by simp)
  have p1 := c0 x1 (by simp)
  unfold u_law_2
  refine dSeq_mk ?_
  simp [UD]
  obtain ⟨hh, eh, hh1, hh3⟩ : ∃ h : Nat, 1 + x1 % 3 = h ∧ 1 ≤ h ∧ h ≤ 3 := ⟨(1 + x1 % 3).toNat, by omega, by omega, by omega⟩
  rw [eh]
  unfold u_law_3
  refine dSeq_mk ?_
  simp [UD]
  refine ⟨by omega, ?_⟩
  obtain ⟨m, em, m1, m2⟩ : ∃ m : Nat, 1 + x0 % (6 - (hh : Int)) = m ∧ 1 ≤ m ∧ m + hh ≤ 6 := by
    have h1 := Int.emod_nonneg x0 (b := 6 - (hh : Int)) (by omega)
    have h2 := Int.emod_lt_of_pos x0 (b := 6 - (hh : Int)) (by omega)
    exact ⟨(1 + x0 % (6 - (hh : Int))).toNat, by omega, by omega, by omega⟩
  rw [em]
  clear em eh
  unfold u_law_4
  refine dSeq_mk ?_
  simp
  refine ⟨m, hh, 0, true, rfl, ⟨m1, by omega⟩, ⟨hh1, hh3⟩, ⟨by omega, by omega⟩, fun S1 x X0' xU hx => ?_⟩
  simp
  refine ⟨m, hh, 1, false, rfl, ⟨m1, by omega⟩, ⟨hh1, hh3⟩, ⟨by omega, by omega⟩, fun S2 y Y0' yU hy => ?_⟩
  simp
  intro du hdu
  have xY := Y0' _ _ hx
  have V0 : Ext U (up S2 du (.lst [])) := (X0'.trans Y0').up_new (none_back (X0'.trans Y0') hdu)
  have Vx : (up S2 du (.lst [])) x = some (watO 3 (wkK m hh) (wkR m hh 0 true m)) := by rw [up_ne (some_ne xY hdu)]; exact xY
  have Vy : (up S2 du (.lst [])) y = some (watO 3 (wkK m hh) (wkR m hh 1 false m)) := by rw [up_ne (some_ne hy hdu)]; exact hy
  have Vd : (up S2 du (.lst [])) du = some (.lst (([] : List Sit).map siD)) := up_same
  have duU : U du = none := none_back (X0'.trans Y0') hdu
  generalize (up S2 du (.lst [])) = V at *
  clear X0' Y0' hx hy xY hdu
  unfold u_law_5
  refine dSeq_mk ?_
  simp
  refine ⟨by omega, ?_⟩
  have er : rng hh = (List.range hh).map fun n : Nat => (n : Int) := rfl
  have el : ((List.range hh).map fun n : Nat => Dv.int n) = (rng hh).map Dv.int := by rw [er, List.map_map]; rfl
  have rl : (rng hh).length = hh := by simp [rng]
  refine forL_enc (fun i : Nat => Dv.int (1 + i)) (fun i δ S3 => ∃ z6 z7 : Option Dv, Ext U S3 ∧ S3 x = some (watO 3 (wkK m hh) (wkR m hh 0 true m)) ∧ S3 y = some (watO 3 (wkK m hh) (wkR m hh 1 false m)) ∧ S3 du = some (.lst ((dueP m hh i).map siD)) ∧ δ = [some (.scr ns), some (.ref D), some (.int hh), some (.int m), some (.tup [.ref x, .ref y]), some (.ref du), z6, z7, none, none]) ⟨none, none, V0, Vx, Vy, Vd, rfl⟩ ?_ ?_
  · rintro i w δ S3 hi ⟨z6, z7, e3, h3x, h3y, h3d, rfl⟩ N hN
    obtain ⟨hi1, rfl⟩ := List.getElem?_eq_some_iff.mp hi
    simp at hi1
    refine ⟨trivial, _, rfl, ?_⟩
    unfold u_law_6
    simp
    refine ⟨by omega, ?_⟩
    have pl := dueP_len (m := m) hh3 (by omega) i
    refine forL_enc (fun j : Nat => Dv.int (1 + j)) (fun j δ S4 => ∃ z7 : Option Dv, Ext U S4 ∧ S4 x = some (watO 3 (wkK m hh) (wkR m hh 0 true m)) ∧ S4 y = some (watO 3 (wkK m hh) (wkR m hh 1 false m)) ∧ S4 du = some (.lst ((dueP m hh i ++ dueT hh i j).map siD)) ∧ δ = [some (.scr ns), some (.ref D), some (.int hh), some (.int m), some (.tup [.ref x, .ref y]), some (.ref du), some (.int (1 + (i : Int))), z7, none, none]) ⟨z7, e3, h3x, h3y, by simpa [dueT] using h3d, by simp⟩ ?_ ?_
    · rintro j w δ S4 hj ⟨z7, e4, h4x, h4y, h4d, rfl⟩ N' hN'
      obtain ⟨hj1, rfl⟩ := List.getElem?_eq_some_iff.mp hj
      simp at hj1
      refine ⟨trivial, _, rfl, ?_⟩
      simp
      refine ⟨by rw [h4d]; trivial, ?_⟩
      refine lc_mk ?_
      simp
      refine ⟨by omega, fun a ha => ⟨by omega, fun b ba hb => ?_⟩⟩
      rw [el]
      have e5 : Ext U (up (up S4 a (.lst ((rng hh).map Dv.int))) b (.lst ((rng hh).map Dv.int))) := (e4.up_new (none_back e4 ha)).up_new (none_back e4 hb)
      have dua := some_ne h4d ha
      have dub := some_ne h4d hb
      have h5d : (up (up S4 a (.lst ((rng hh).map Dv.int))) b (.lst ((rng hh).map Dv.int))) du = some (.lst ((dueP m hh i ++ dueT hh i j).map siD)) := by rw [up_ne dub, up_ne dua]; exact h4d
      have h5x : (up (up S4 a (.lst ((rng hh).map Dv.int))) b (.lst ((rng hh).map Dv.int))) x = some (watO 3 (wkK m hh) (wkR m hh 0 true m)) := by rw [up_ne (some_ne h4x hb), up_ne (some_ne h4x ha)]; exact h4x
      have h5y : (up (up S4 a (.lst ((rng hh).map Dv.int))) b (.lst ((rng hh).map Dv.int))) y = some (watO 3 (wkK m hh) (wkR m hh 1 false m)) := by rw [up_ne (some_ne h4y hb), up_ne (some_ne h4y ha)]; exact h4y
      have h5a : (up (up S4 a (.lst ((rng hh).map Dv.int))) b (.lst ((rng hh).map Dv.int))) a = some (.lst ((rng hh).map Dv.int)) := by rw [up_ne (Ne.symm ba), up_same]
      have h5b : (up (up S4 a (.lst ((rng hh).map Dv.int))) b (.lst ((rng hh).map Dv.int))) b = some (.lst ((rng hh).map Dv.int)) := up_same
      generalize (up (up S4 a (.lst ((rng hh).map Dv.int))) b (.lst ((rng hh).map Dv.int))) = S5 at *
      refine ⟨a, b, rng hh, rng hh, rfl, h5a, h5b, by omega, by omega, by omega, fun S6 c e6 hc6 h6c => ?_⟩
      simp [h6c]
      intro M hM
      have h6d := e6 _ _ h5d
      have h6x := e6 _ _ h5x
      have h6y := e6 _ _ h5y
      have e7 : Ext U S6 := e5.trans e6
      have cM := some_ne h6c hM
      have wl := (wys_len (rng hh) (rng hh) (by omega)).1
      have w4 : 4 ^ (rng hh).length ≤ 64 := by
        have : (rng hh).length = 1 ∨ (rng hh).length = 2 ∨ (rng hh).length = 3 := by omega
        rcases this with e | e | e <;> rw [e] <;> decide
      refine lcRun_all psD (fun ps => siD ((i : Int) + 1, (j : Int) + 1, ps)) (wys (rng hh) (rng hh)) (by omega) ?_ ?_ ?_
      · intro acc
        rw [up_ne cM]
        exact h6c
      · intro ps hps
        refine ⟨_, rfl, fun acc N2 hN2 => ?_⟩
        have i1 : 1 + (i : Int) = (i : Int) + 1 := by omega
        have j1 : 1 + (j : Int) = (j : Int) + 1 := by omega
        simp [i1, j1]
        exact hN2
      · have dM := some_ne h6d hM
        simp only [up_ne dM, h6d, up_same]
        have tl := dueT_len hh3 i j
        refine ⟨by simp; omega, ?_⟩
        refine hN' _ _ ⟨_, (e7.up_new (none_back e7 hM)).up_new duU, ?_, ?_, ?_, rfl⟩
        · rw [up_ne (fun z => by subst z; rw [h6x] at h6d; cases h6d), up_ne (some_ne h6x hM)]; exact h6x
        · rw [up_ne (fun z => by subst z; rw [h6y] at h6d; cases h6d), up_ne (some_ne h6y hM)]; exact h6y
        · rw [up_same, dueT_succ]
          simp
    · rintro δ S4 ⟨z7, e4, h4x, h4y, h4d, rfl⟩
      refine ⟨trivial, ?_⟩
      simp at h4d
      refine hN _ _ ⟨_, _, e4, h4x, h4y, ?_, rfl⟩
      rw [dueP_succ, h4d]
      simp
  · rintro δ S3 ⟨z6, z7, e3, h3x, h3y, h3d, rfl⟩
    refine ⟨trivial, ?_⟩
    simp at h3d
    simp
    have w1 : Wf 3 (wkK m hh) (wkR m hh 0 true m) := wk_wf (by decide) (by decide) hh1 hh3 (by omega)
    have w2 : Wf 3 (wkK m hh) (wkR m hh 1 false m) := wk_wf (by decide) (by decide) hh1 hh3 (by omega)
    have ht3 := (U0.trans e3) _ _ ht
    refine ⟨x, y, 3, 3, wkK m hh, wkK m hh, wkR m hh 0 true m, wkR m hh 1 false m, (1, 1, []), rfl, ⟨h3x, h3y, w1, w2⟩, ⟨by simp only [wkK_len]; omega, by simp only [wkK_len]; omega, by simp, by simp, by simp⟩, ⟨by decide, by decide⟩, ht3, fun ms nd hms => ?_⟩
    simp [h3d]
    have edue : dueP m hh m = dueS m hh := rfl
    rw [edue, srtD_code coded3]
    refine ⟨srtOk3 _, fun q hq => ?_⟩
    have pm : ms.Perm (dueS m hh) := (List.perm_ext_iff_of_nodup nd (due_nd m hh m1 hh1 hh3 m2)).mpr fun s => by
      rw [hms]
      exact ⟨rch_due hh1 hh3 m1 (by omega), due_rch hh1 hh3 m1 m2⟩
    have es : isort code3 ms = isort code3 (dueS m hh) := by
      refine isort_only coded3 ?_ (isort_sorted _)
      exact (isort_perm ms).trans pm
    rw [es, gEqF_plain (by simp only [plain]; exact (plains_sits _).1) (by simp only [plain]; exact (plains_sits _).1) (by simp only [dep]; have := (plains_sits (isort code3 (dueS m hh))).2; omega) (by simp only [dep]; have := (plains_sits (isort code3 (dueS m hh))).2; omega)]
    simp
    refine VS.pure (h _ ?_)
    rw [up_ne (some_ne ht3 hq)]
    exact ht3
theorem dfn_law {P : Program} {w : World} {K : PySem.W.Frag} {mg : Str → Option Value} {base : Heap} [TabP] {f : Addr} {fd : FuncData} (F : Fun K "law" "law" s_law f fd) (z_int : mg "int" = none) (z_abs : mg "abs" = none) (C__law_walker : Cal P w K mg base 6 "_law_walker" p__law_walker sp__law_walker) (z_range : mg "range" = none) (z_list : mg "list" = none) (C__law_ways : Cal P w K mg base 6 "_law_ways" p__law_ways sp__law_ways) (C_reached_situations : Cal P w K mg base 8 "reached_situations" p_reached_situations sp_reached_situations) (z_sorted : mg "sorted" = none) (z_tuple : mg "tuple" = none) : DFn P w K mg base 9 f fd p_law sp_law :=
  Fun.okD (k := 8) (t := t_law ⟨K, w, mg⟩) F sc_law len_law (fun cdv A outer s H Pe E hgd hr px =>
  (dss_cons (ds_set sc_law.nd (de_op o_add (de_lc (own := [("cell", 8)]) rfl sc_law.nd (di_list (de_sl (dv 0) do_none (do_some de_int))) (blkOk_by (own := [("cell", 8)]) (N := n_law) (sc := defScope s_law) (by decide +kernel)) (fun _ _ _ _ _ => (dp_nm sc_law.nd)) (fun _ _ _ _ _ => dts_nil) (fun _ _ _ _ _ => (de_callB cg_abs (by rfl) z_abs (by decide +kernel) (da_cons (de_callTy cg_int (by rfl) z_int (by decide +kernel) (da_cons (dv 8) da_nil)) da_nil)))) (de_lst (da_cons de_int (da_cons de_int da_nil)))))
  (dss_cons (ds_set sc_law.nd (de_op o_add de_int (de_op o_mod (de_ix (dv 1) de_int) de_int)))
  (dss_cons (ds_set sc_law.nd (de_op o_add de_int (de_op o_mod (de_ix (dv 1) de_int) (de_op o_sub de_int (dv 2)))))
  (dss_cons (ds_par rfl sc_law.nd (da_cons (de_tup (da_cons (de_fn C__law_walker hgd hr (da_cons (dv 3) (da_cons (dv 2) (da_cons de_int (da_cons de_bl da_nil))))) (da_cons (de_fn C__law_walker hgd hr (da_cons (dv 3) (da_cons (dv 2) (da_cons de_int (da_cons de_bl da_nil))))) da_nil))) (da_cons (de_lst da_nil) da_nil)))
  (dss_cons (ds_for (passes_of rfl) rfl (di_range2 (by rfl) z_range (da_cons de_int (da_cons (de_op o_add (dv 3) de_int) da_nil))) (dp_nm sc_law.nd)
  (dss_one (ds_for (passes_of rfl) rfl (di_range2 (by rfl) z_range (da_cons de_int (da_cons (de_op o_add (dv 3) de_int) da_nil))) (dp_nm sc_law.nd)
  (dss_one (ds_expr (de_bm mg_extend PySem.F.plainAttrs_list PySem.F.slot_list_extend PySem.F.type_list_extend (dv 5) (da_cons (de_lc (own := [("pairs", 9)]) rfl sc_law.nd (di_list (de_fn C__law_ways hgd hr (da_cons (de_listRg (by rfl) (by rfl) z_list (by rfl) z_range (dv 2)) (da_cons (de_listRg (by rfl) (by rfl) z_list (by rfl) z_range (dv 2)) da_nil)))) (blkOk_by (own := [("pairs", 9)]) (N := n_law) (sc := defScope s_law) (by decide +kernel)) (fun _ _ _ _ _ => (dp_nm sc_law.nd)) (fun _ _ _ _ _ => dts_nil) (fun _ _ _ _ _ => (de_tup (da_cons (dv 6) (da_cons (dv 7) (da_cons (dv 9) da_nil)))))) da_nil)))))))
  (dss_one (ds_ret (de_cmp (c_eq (units_64 hr)) (de_fn C_reached_situations hgd hr (da_cons (dv 4) (da_cons (de_tup (da_cons de_int (da_cons de_int (da_cons (de_tup da_nil) da_nil)))) da_nil))) (de_callTy cg_tuple (by rfl) z_tuple (by decide +kernel) (da_cons (de_callB (cg_sortD (units_100 hr)) (by rfl) z_sorted (by decide +kernel) (da_cons (dv 5) da_nil)) da_nil))))))))))) (hsp_law ⟨K, w, mg⟩)
theorem ok_law {P : Program} {w : World} {K : PySem.W.Frag} {mg : Str → Option Value} {base : Heap} [TabP] (D : Def K mg "law" "law" s_law) (z_int : mg "int" = none) (z_abs : mg "abs" = none) (C__law_walker : Cal P w K mg base 6 "_law_walker" p__law_walker sp__law_walker) (z_range : mg "range" = none) (z_list : mg "list" = none) (C__law_ways : Cal P w K mg base 6 "_law_ways" p__law_ways sp__law_ways) (C_reached_situations : Cal P w K mg base 8 "reached_situations" p_reached_situations sp_reached_situations) (z_sorted : mg "sorted" = none) (z_tuple : mg "tuple" = none) : Cal P w K mg base 9 "law" p_law sp_law :=
  let ⟨f, fd, F, hm⟩ := D.ex
  ⟨f, fd, hm, F.kp, F.binds (ps := p_law) fun _ _ _ _ _ _ us hl => match us, hl with | [_], _ => rfl, dfn_law F z_int z_abs C__law_walker z_range z_list C__law_ways C_reached_situations z_sorted z_tuple⟩
theorem law_true [TabP] (ns : List Int) (h1 : ns.length ≤ 63) (h2 : ∀ z ∈ ns, Builtin.Int.intBits z ≤ 1048576) : sp_law [.scr ns] (fun b => if b = TabP.p then some (.tab qSits) else none) (fun d _ => d = .bl true) X0 :=
  ⟨ns, rfl, h1, h2, if_pos rfl, fun _ _ => rfl⟩
end Sb
namespace Sb
open PySem PySem.Spec PyProof.Rows L2
theorem all_mk {l : PySem.W.OpenLaw} {w : World} {K : PySem.W.Frag} {h : Heap} {mg : Str → Option Value} {fa : Addr} (X : K.In h) (G : h.Ns mainGlobals mg) (hfa : mg "law" = some (.ref fa)) {cT pT : Addr} (hTT : h.get? pT = some { cls := .none, data := .fields #[] }) (nTT : K.lookup pT = none) (cdTT : PySem.W.codeHdIn K cT pT = true)
    {C_Watcher : Addr}
    {tk_MAX_WORDS : Tok}
    {tk_MAX_VERDICT : Tok}
    {tk_MAX_HELD : Tok}
    {tk_MAX_STATES : Tok}
    {f0 : Addr} {od0 an0 : Option Addr} {sl0 : Array (Option Value)} {oc0 kV0 dc0 pm0 cd0 ct0 : Value}
    {f1 : Addr} {od1 an1 : Option Addr} {sl1 : Array (Option Value)} {oc1 kV1 dc1 pm1 cd1 ct1 : Value}
    {f2 : Addr} {od2 an2 : Option Addr} {sl2 : Array (Option Value)} {oc2 kV2 dc2 pm2 cd2 ct2 : Value}
    {f3 : Addr} {od3 an3 : Option Addr} {sl3 : Array (Option Value)} {oc3 kV3 dc3 pm3 cd3 ct3 : Value}
    {f4 : Addr} {od4 an4 : Option Addr} {sl4 : Array (Option Value)} {oc4 kV4 dc4 pm4 cd4 ct4 : Value}
    {f5 : Addr} {od5 an5 : Option Addr} {sl5 : Array (Option Value)} {oc5 kV5 dc5 pm5 cd5 ct5 : Value}
    {f6 : Addr} {od6 an6 : Option Addr} {sl6 : Array (Option Value)} {oc6 kV6 dc6 pm6 cd6 ct6 : Value}
    {f7 : Addr} {od7 an7 : Option Addr} {sl7 : Array (Option Value)} {oc7 kV7 dc7 pm7 cd7 ct7 : Value}
    {f8 : Addr} {od8 an8 : Option Addr} {sl8 : Array (Option Value)} {oc8 kV8 dc8 pm8 cd8 ct8 : Value}
    {f9 : Addr} {od9 an9 : Option Addr} {sl9 : Array (Option Value)} {oc9 kV9 dc9 pm9 cd9 ct9 : Value}
    {f10 : Addr} {od10 an10 : Option Addr} {sl10 : Array (Option Value)} {oc10 kV10 dc10 pm10 cd10 ct10 : Value}
    {f11 : Addr} {od11 an11 : Option Addr} {sl11 : Array (Option Value)} {oc11 kV11 dc11 pm11 cd11 ct11 : Value}
    {f12 : Addr} {od12 an12 : Option Addr} {sl12 : Array (Option Value)} {oc12 kV12 dc12 pm12 cd12 ct12 : Value}
    {f13 : Addr} {od13 an13 : Option Addr} {sl13 : Array (Option Value)} {oc13 kV13 dc13 pm13 cd13 ct13 : Value}
    {f14 : Addr} {od14 an14 : Option Addr} {sl14 : Array (Option Value)} {oc14 kV14 dc14 pm14 cd14 ct14 : Value}
    {f15 : Addr} {od15 an15 : Option Addr} {sl15 : Array (Option Value)} {oc15 kV15 dc15 pm15 ct15 : Value}
    {f16 : Addr} {od16 an16 : Option Addr} {sl16 : Array (Option Value)} {oc16 kV16 dc16 pm16 cd16 ct16 : Value}
    {f17 : Addr} {od17 an17 : Option Addr} {sl17 : Array (Option Value)} {oc17 kV17 dc17 pm17 cd17 ct17 : Value}
    {f18 : Addr} {od18 an18 : Option Addr} {sl18 : Array (Option Value)} {oc18 kV18 dc18 pm18 cd18 ct18 : Value}
    (aC_Watcher : PySem.W.nsIn K mainGlobals "Watcher" = some (some (.ref C_Watcher)))
    (pg_Watcher : PySem.W.plainGet K C_Watcher Str.empty = true)
    (hd_Watcher : PySem.W.hasDictIn K C_Watcher = true)
    (po_Watcher : PySem.W.plainOver K C_Watcher = true)
    (sa_Watcher : PySem.W.findIn K (.ref C_Watcher) "__setattr__" = some (some (.builtin "object.__setattr__")))
    (mk_Watcher : PySem.W.makesIn K C_Watcher = true)
    (kc_Watcher : PySem.W.keepIn K (.ref C_Watcher) = true)
    (gc_MAX_WORDS : PySem.W.nsIn K mainGlobals "MAX_WORDS" = some (some (.int 3 tk_MAX_WORDS)))
    (na_Watcher_words : PySem.W.findIn K (.ref C_Watcher) "words" = some none)
    (na_Watcher_kinds : PySem.W.findIn K (.ref C_Watcher) "kinds" = some none)
    (na_Watcher_kept : PySem.W.findIn K (.ref C_Watcher) "kept" = some none)
    (gc_MAX_VERDICT : PySem.W.nsIn K mainGlobals "MAX_VERDICT" = some (some (.int 3 tk_MAX_VERDICT)))
    (gc_MAX_HELD : PySem.W.nsIn K mainGlobals "MAX_HELD" = some (some (.int 3 tk_MAX_HELD)))
    (gc_MAX_STATES : PySem.W.nsIn K mainGlobals "MAX_STATES" = some (some (.int 6 tk_MAX_STATES)))
    (a0 : PySem.W.nsIn K mainGlobals "is_integer" = some (some (.ref f0)))
    (l0 : K.lookup f0 = some ⟨oc0, od0, .func (PySem.W.fnOf "is_integer" "is_integer" (defArgs s_is_integer) (defBody s_is_integer) (defScope s_is_integer) .none kV0 dc0 pm0 an0 cd0 ct0), sl0⟩)
    (c0 : PySem.W.codeIn K cd0 "is_integer" = true)
    (k0 : PySem.W.keepIn K (.ref f0) = true)
    (a1 : PySem.W.findIn K (.ref C_Watcher) "__init__" = some (some (.ref f1)))
    (i1 : PySem.W.isFn K (.ref f1) = true)
    (l1 : K.lookup f1 = some ⟨oc1, od1, .func (PySem.W.fnOf "__init__" "Watcher.__init__" (defArgs s_Watcher___init__) (defBody s_Watcher___init__) (defScope s_Watcher___init__) .none kV1 dc1 pm1 an1 cd1 ct1), sl1⟩)
    (c1 : PySem.W.codeIn K cd1 "Watcher.__init__" = true)
    (k1 : PySem.W.keepIn K (.ref f1) = true)
    (a2 : PySem.W.findIn K (.ref C_Watcher) "require_state" = some (some (.ref f2)))
    (i2 : PySem.W.isFn K (.ref f2) = true)
    (l2 : K.lookup f2 = some ⟨oc2, od2, .func (PySem.W.fnOf "require_state" "Watcher.require_state" (defArgs s_Watcher_require_state) (defBody s_Watcher_require_state) (defScope s_Watcher_require_state) .none kV2 dc2 pm2 an2 cd2 ct2), sl2⟩)
    (c2 : PySem.W.codeIn K cd2 "Watcher.require_state" = true)
    (k2 : PySem.W.keepIn K (.ref f2) = true)
    (a3 : PySem.W.findIn K (.ref C_Watcher) "add_state" = some (some (.ref f3)))
    (i3 : PySem.W.isFn K (.ref f3) = true)
    (l3 : K.lookup f3 = some ⟨oc3, od3, .func (PySem.W.fnOf "add_state" "Watcher.add_state" (defArgs s_Watcher_add_state) (defBody s_Watcher_add_state) (defScope s_Watcher_add_state) .none kV3 dc3 pm3 an3 cd3 ct3), sl3⟩)
    (c3 : PySem.W.codeIn K cd3 "Watcher.add_state" = true)
    (k3 : PySem.W.keepIn K (.ref f3) = true)
    (a4 : PySem.W.findIn K (.ref C_Watcher) "is_test" = some (some (.ref f4)))
    (i4 : PySem.W.isFn K (.ref f4) = true)
    (l4 : K.lookup f4 = some ⟨oc4, od4, .func (PySem.W.fnOf "is_test" "Watcher.is_test" (defArgs s_Watcher_is_test) (defBody s_Watcher_is_test) (defScope s_Watcher_is_test) .none kV4 dc4 pm4 an4 cd4 ct4), sl4⟩)
    (c4 : PySem.W.codeIn K cd4 "Watcher.is_test" = true)
    (k4 : PySem.W.keepIn K (.ref f4) = true)
    (a5 : PySem.W.findIn K (.ref C_Watcher) "are_sources" = some (some (.ref f5)))
    (i5 : PySem.W.isFn K (.ref f5) = true)
    (l5 : K.lookup f5 = some ⟨oc5, od5, .func (PySem.W.fnOf "are_sources" "Watcher.are_sources" (defArgs s_Watcher_are_sources) (defBody s_Watcher_are_sources) (defScope s_Watcher_are_sources) .none kV5 dc5 pm5 an5 cd5 ct5), sl5⟩)
    (c5 : PySem.W.codeIn K cd5 "Watcher.are_sources" = true)
    (k5 : PySem.W.keepIn K (.ref f5) = true)
    (a6 : PySem.W.findIn K (.ref C_Watcher) "add_rule" = some (some (.ref f6)))
    (i6 : PySem.W.isFn K (.ref f6) = true)
    (l6 : K.lookup f6 = some ⟨oc6, od6, .func (PySem.W.fnOf "add_rule" "Watcher.add_rule" (defArgs s_Watcher_add_rule) (defBody s_Watcher_add_rule) (defScope s_Watcher_add_rule) .none kV6 dc6 pm6 an6 cd6 ct6), sl6⟩)
    (c6 : PySem.W.codeIn K cd6 "Watcher.add_rule" = true)
    (k6 : PySem.W.keepIn K (.ref f6) = true)
    (a7 : PySem.W.findIn K (.ref C_Watcher) "verdicts" = some (some (.ref f7)))
    (i7 : PySem.W.isFn K (.ref f7) = true)
    (l7 : K.lookup f7 = some ⟨oc7, od7, .func (PySem.W.fnOf "verdicts" "Watcher.verdicts" (defArgs s_Watcher_verdicts) (defBody s_Watcher_verdicts) (defScope s_Watcher_verdicts) .none kV7 dc7 pm7 an7 cd7 ct7), sl7⟩)
    (c7 : PySem.W.codeIn K cd7 "Watcher.verdicts" = true)
    (k7 : PySem.W.keepIn K (.ref f7) = true)
    (a8 : PySem.W.findIn K (.ref C_Watcher) "held_counts" = some (some (.ref f8)))
    (i8 : PySem.W.isFn K (.ref f8) = true)
    (l8 : K.lookup f8 = some ⟨oc8, od8, .func (PySem.W.fnOf "held_counts" "Watcher.held_counts" (defArgs s_Watcher_held_counts) (defBody s_Watcher_held_counts) (defScope s_Watcher_held_counts) .none kV8 dc8 pm8 an8 cd8 ct8), sl8⟩)
    (c8 : PySem.W.codeIn K cd8 "Watcher.held_counts" = true)
    (k8 : PySem.W.keepIn K (.ref f8) = true)
    (a9 : PySem.W.findIn K (.ref C_Watcher) "rule_for" = some (some (.ref f9)))
    (i9 : PySem.W.isFn K (.ref f9) = true)
    (l9 : K.lookup f9 = some ⟨oc9, od9, .func (PySem.W.fnOf "rule_for" "Watcher.rule_for" (defArgs s_Watcher_rule_for) (defBody s_Watcher_rule_for) (defScope s_Watcher_rule_for) .none kV9 dc9 pm9 an9 cd9 ct9), sl9⟩)
    (c9 : PySem.W.codeIn K cd9 "Watcher.rule_for" = true)
    (k9 : PySem.W.keepIn K (.ref f9) = true)
    (a10 : PySem.W.nsIn K mainGlobals "cases" = some (some (.ref f10)))
    (l10 : K.lookup f10 = some ⟨oc10, od10, .func (PySem.W.fnOf "cases" "cases" (defArgs s_cases) (defBody s_cases) (defScope s_cases) .none kV10 dc10 pm10 an10 cd10 ct10), sl10⟩)
    (c10 : PySem.W.codeIn K cd10 "cases" = true)
    (k10 : PySem.W.keepIn K (.ref f10) = true)
    (a11 : PySem.W.nsIn K mainGlobals "tests_of" = some (some (.ref f11)))
    (l11 : K.lookup f11 = some ⟨oc11, od11, .func (PySem.W.fnOf "tests_of" "tests_of" (defArgs s_tests_of) (defBody s_tests_of) (defScope s_tests_of) .none kV11 dc11 pm11 an11 cd11 ct11), sl11⟩)
    (c11 : PySem.W.codeIn K cd11 "tests_of" = true)
    (k11 : PySem.W.keepIn K (.ref f11) = true)
    (a12 : PySem.W.nsIn K mainGlobals "carried" = some (some (.ref f12)))
    (l12 : K.lookup f12 = some ⟨oc12, od12, .func (PySem.W.fnOf "carried" "carried" (defArgs s_carried) (defBody s_carried) (defScope s_carried) .none kV12 dc12 pm12 an12 cd12 ct12), sl12⟩)
    (c12 : PySem.W.codeIn K cd12 "carried" = true)
    (k12 : PySem.W.keepIn K (.ref f12) = true)
    (a13 : PySem.W.nsIn K mainGlobals "step" = some (some (.ref f13)))
    (l13 : K.lookup f13 = some ⟨oc13, od13, .func (PySem.W.fnOf "step" "step" (defArgs s_step) (defBody s_step) (defScope s_step) .none kV13 dc13 pm13 an13 cd13 ct13), sl13⟩)
    (c13 : PySem.W.codeIn K cd13 "step" = true)
    (k13 : PySem.W.keepIn K (.ref f13) = true)
    (a14 : PySem.W.nsIn K mainGlobals "explored" = some (some (.ref f14)))
    (l14 : K.lookup f14 = some ⟨oc14, od14, .func (PySem.W.fnOf "explored" "explored" (defArgs s_explored) (defBody s_explored) (defScope s_explored) .none kV14 dc14 pm14 an14 cd14 ct14), sl14⟩)
    (c14 : PySem.W.codeIn K cd14 "explored" = true)
    (k14 : PySem.W.keepIn K (.ref f14) = true)
    (a15 : PySem.W.nsIn K mainGlobals "reached_situations" = some (some (.ref f15)))
    (l15 : K.lookup f15 = some ⟨oc15, od15, .func (PySem.W.fnOf "reached_situations" "reached_situations" (defArgs s_reached_situations) (defBody s_reached_situations) (defScope s_reached_situations) .none kV15 dc15 pm15 an15 (.ref cT) ct15), sl15⟩)
    (c15 : PySem.W.codeIn K (.ref cT) "reached_situations" = true)
    (k15 : PySem.W.keepIn K (.ref f15) = true)
    (a16 : PySem.W.nsIn K mainGlobals "_law_walker" = some (some (.ref f16)))
    (l16 : K.lookup f16 = some ⟨oc16, od16, .func (PySem.W.fnOf "_law_walker" "_law_walker" (defArgs s__law_walker) (defBody s__law_walker) (defScope s__law_walker) .none kV16 dc16 pm16 an16 cd16 ct16), sl16⟩)
    (c16 : PySem.W.codeIn K cd16 "_law_walker" = true)
    (k16 : PySem.W.keepIn K (.ref f16) = true)
    (a17 : PySem.W.nsIn K mainGlobals "_law_ways" = some (some (.ref f17)))
    (l17 : K.lookup f17 = some ⟨oc17, od17, .func (PySem.W.fnOf "_law_ways" "_law_ways" (defArgs s__law_ways) (defBody s__law_ways) (defScope s__law_ways) .none kV17 dc17 pm17 an17 cd17 ct17), sl17⟩)
    (c17 : PySem.W.codeIn K cd17 "_law_ways" = true)
    (k17 : PySem.W.keepIn K (.ref f17) = true)
    (a18 : PySem.W.nsIn K mainGlobals "law" = some (some (.ref f18)))
    (l18 : K.lookup f18 = some ⟨oc18, od18, .func (PySem.W.fnOf "law" "law" (defArgs s_law) (defBody s_law) (defScope s_law) .none kV18 dc18 pm18 an18 cd18 ct18), sl18⟩)
    (c18 : PySem.W.codeIn K cd18 "law" = true)
    (k18 : PySem.W.keepIn K (.ref f18) = true)
    (zz_int : PySem.W.nsIn K mainGlobals "int" = some none)
    (zz_isinstance : PySem.W.nsIn K mainGlobals "isinstance" = some none)
    (zz_bool : PySem.W.nsIn K mainGlobals "bool" = some none)
    (zz_len : PySem.W.nsIn K mainGlobals "len" = some none)
    (zz_str : PySem.W.nsIn K mainGlobals "str" = some none)
    (zz_tuple : PySem.W.nsIn K mainGlobals "tuple" = some none)
    (zz_enumerate : PySem.W.nsIn K mainGlobals "enumerate" = some none)
    (zz_list : PySem.W.nsIn K mainGlobals "list" = some none)
    (zz_range : PySem.W.nsIn K mainGlobals "range" = some none)
    (zz_sorted : PySem.W.nsIn K mainGlobals "sorted" = some none)
    (zz_abs : PySem.W.nsIn K mainGlobals "abs" = some none) :
    ∃ (fd : FuncData) (cT pT : Addr), h.get? pT = some { cls := .none, data := .fields #[] } ∧ K.lookup pT = none ∧ PySem.W.codeHdIn K cT pT = true ∧ (∀ (s : Shared) (v : Value), BindsTo s fd ⟨[v], []⟩ [("script", v)]) ∧ ∀ base : Heap, K.In base → base.Ns mainGlobals mg → LamX.TabB base mg cT pT → DFn l.prog w K mg base 9 fa fd ["script"] (@sp_law ⟨pT⟩) := by
  have e := hfa.symm.trans (PySem.W.mg_of X G a18)
  cases e
  letI TP_ : TabP := ⟨pT⟩
  have z_int := PySem.W.mg_none_of X G zz_int
  have z_isinstance := PySem.W.mg_none_of X G zz_isinstance
  have z_bool := PySem.W.mg_none_of X G zz_bool
  have z_len := PySem.W.mg_none_of X G zz_len
  have z_str := PySem.W.mg_none_of X G zz_str
  have z_tuple := PySem.W.mg_none_of X G zz_tuple
  have z_enumerate := PySem.W.mg_none_of X G zz_enumerate
  have z_list := PySem.W.mg_none_of X G zz_list
  have z_range := PySem.W.mg_none_of X G zz_range
  have z_sorted := PySem.W.mg_none_of X G zz_sorted
  have z_abs := PySem.W.mg_none_of X G zz_abs
  have kl_Watcher : KlG K mg "Watcher" C_Watcher := ⟨PySem.W.mg_of X G aC_Watcher, pg_Watcher, hd_Watcher, po_Watcher, sa_Watcher⟩
  have g_MAX_WORDS : ∃ t, mg "MAX_WORDS" = some (.int 3 t) := ⟨_, PySem.W.mg_of X G gc_MAX_WORDS⟩
  have g_MAX_VERDICT : ∃ t, mg "MAX_VERDICT" = some (.int 3 t) := ⟨_, PySem.W.mg_of X G gc_MAX_VERDICT⟩
  have g_MAX_HELD : ∃ t, mg "MAX_HELD" = some (.int 3 t) := ⟨_, PySem.W.mg_of X G gc_MAX_HELD⟩
  have g_MAX_STATES : ∃ t, mg "MAX_STATES" = some (.int 6 t) := ⟨_, PySem.W.mg_of X G gc_MAX_STATES⟩
  refine ⟨PySem.W.fnOf "law" "law" (defArgs s_law) (defBody s_law) (defScope s_law) .none kV18 dc18 pm18 an18 cd18 ct18, cT, pT, hTT, nTT, cdTT, fun s v => .of_eq rfl, fun base _ _ TB => ?_⟩
  have C_is_integer := ok_is_integer (P := l.prog) (w := w) (base := base) (def_mk X G a0 l0 c0 k0) z_int z_isinstance z_bool
  have N_Watcher := ok_Watcher___init__ (P := l.prog) (w := w) (base := base) kl_Watcher g_MAX_WORDS C_is_integer na_Watcher_words na_Watcher_kinds na_Watcher_kept ⟨⟨_, _, fun_mk l1 c1 k1, ⟨a1, i1, k1⟩⟩⟩ mk_Watcher kc_Watcher
  have C_Watcher_require_state := ok_Watcher_require_state (P := l.prog) (w := w) (base := base) kl_Watcher na_Watcher_kinds z_len C_is_integer ⟨⟨_, _, fun_mk l2 c2 k2, ⟨a2, i2, k2⟩⟩⟩
  have C_Watcher_add_state := ok_Watcher_add_state (P := l.prog) (w := w) (base := base) kl_Watcher g_MAX_VERDICT C_is_integer g_MAX_HELD na_Watcher_kinds z_len g_MAX_STATES ⟨⟨_, _, fun_mk l3 c3 k3, ⟨a3, i3, k3⟩⟩⟩
  have C_Watcher_is_test := ok_Watcher_is_test (P := l.prog) (w := w) (base := base) kl_Watcher z_str z_isinstance na_Watcher_kinds C_is_integer ⟨⟨_, _, fun_mk l4 c4 k4, ⟨a4, i4, k4⟩⟩⟩
  have C_Watcher_are_sources := ok_Watcher_are_sources (P := l.prog) (w := w) (base := base) kl_Watcher z_tuple z_isinstance z_len na_Watcher_kinds z_enumerate z_str C_is_integer ⟨⟨_, _, fun_mk l5 c5 k5, ⟨a5, i5, k5⟩⟩⟩
  have C_Watcher_add_rule := ok_Watcher_add_rule (P := l.prog) (w := w) (base := base) kl_Watcher C_Watcher_require_state na_Watcher_words C_is_integer C_Watcher_is_test C_Watcher_are_sources na_Watcher_kept ⟨⟨_, _, fun_mk l6 c6 k6, ⟨a6, i6, k6⟩⟩⟩
  have C_Watcher_verdicts := ok_Watcher_verdicts (P := l.prog) (w := w) (base := base) kl_Watcher na_Watcher_kinds z_tuple ⟨⟨_, _, fun_mk l7 c7 k7, ⟨a7, i7, k7⟩⟩⟩
  have C_Watcher_held_counts := ok_Watcher_held_counts (P := l.prog) (w := w) (base := base) kl_Watcher na_Watcher_kinds z_tuple ⟨⟨_, _, fun_mk l8 c8 k8, ⟨a8, i8, k8⟩⟩⟩
  have C_Watcher_rule_for := ok_Watcher_rule_for (P := l.prog) (w := w) (base := base) kl_Watcher na_Watcher_kept z_list z_range na_Watcher_kinds z_tuple ⟨⟨_, _, fun_mk l9 c9 k9, ⟨a9, i9, k9⟩⟩⟩
  have C_cases := ok_cases (P := l.prog) (w := w) (base := base) (def_mk X G a10 l10 c10 k10) z_range C_Watcher_held_counts z_tuple
  have C_tests_of := ok_tests_of (P := l.prog) (w := w) (base := base) (def_mk X G a11 l11 c11 k11) 
  have C_carried := ok_carried (P := l.prog) (w := w) (base := base) (def_mk X G a12 l12 c12 k12) 
  have C_step := ok_step (P := l.prog) (w := w) (base := base) (def_mk X G a13 l13 c13 k13) C_tests_of z_range C_Watcher_held_counts C_Watcher_rule_for z_enumerate C_carried z_tuple
  have C_explored := ok_explored (P := l.prog) (w := w) (base := base) (def_mk X G a14 l14 c14 k14) z_range kl_Watcher na_Watcher_words C_cases C_step
  have C_reached_situations := ok_reached_situations (P := l.prog) (w := w) (base := base) C_explored z_list z_sorted z_tuple TB ⟨_, _, fun_mk1 l15 c15 k15, PySem.W.mg_of X G a15⟩
  have C__law_walker := ok__law_walker (P := l.prog) (w := w) (base := base) (def_mk X G a16 l16 c16 k16) N_Watcher z_list z_range z_tuple C_Watcher_add_state C_Watcher_add_rule
  have C__law_ways := ok__law_ways (P := l.prog) (w := w) (base := base) (def_mk X G a17 l17 c17 k17) 
  exact dfn_law (fun_mk l18 c18 k18) z_int z_abs C__law_walker z_range z_list C__law_ways C_reached_situations z_sorted z_tuple
theorem walk_ {l : PySem.W.OpenLaw} {q : Program} {loose : List Str} {XP : (Str → Option Value) → Heap → Prop} {YP : World → Heap → Prop} {d : DefRec} {K : Params → PySem.W.Frag} {Z : (Str → Option Value) → Prop} (hn : l.most = some 63) (hdf : d.params.defaults = [])
    (hY : ∀ (w : World) (h : Heap), YP w h → (K w.params).In h)
    (hZ : ∀ (mg : Str → Option Value) (h : Heap), XP mg h → Z mg)
    (F : ∀ (w : World) (mg : Str → Option Value) (fa : Addr) (h : Heap), YP w h → (K w.params).In h → h.Ns mainGlobals mg → mg d.name = some (.ref fa) → Z mg →
      ∃ (fd : FuncData) (cT pT : Addr), h.get? pT = some { cls := .none, data := .fields #[] } ∧ (K w.params).lookup pT = none ∧ PySem.W.codeHdIn (K w.params) cT pT = true ∧ (∀ (s : Shared) (u : Value), BindsTo s fd ⟨[u], []⟩ [("script", u)]) ∧ ∀ base : Heap, (K w.params).In base → base.Ns mainGlobals mg → LamX.TabB base mg cT pT → DFn l.prog w (K w.params) mg base 9 fa fd ["script"] (@sp_law ⟨pT⟩)) :
    PySem.W.WalkO q loose XP YP l.row.toRowW d [] (fun f vs => PySem.call f vs) :=
  law_walkT (n := 63) (k := 9) (x := "script") (q := (Str.ofString "reached_situations" ++ ".<locals>.") ++ "<lambda>") (sp := fun p => @sp_law ⟨p⟩) hn (by decide) hdf ⟨rfl, by decide, by decide⟩ hY hZ F fun pT ns h1 h2 => @law_true ⟨pT⟩ ns h1 h2
end Sb
open PySem PySem.W PyProof.Rows in
set_option maxRecDepth 100000 in
set_option maxHeartbeats 0 in
theorem PySem.Challenge.cw_seenbefore_k96_many_situations_by_hand_holds : PySem.Challenge.rw_seenbefore_k96_many_situations_by_hand.Holds := by
  w_on; o_law; k_head; (case hw => w_witness2)
  k_fill
  refine Sb.walk_ (l := PySem.Challenge.rw_seenbefore_k96_many_situations_by_hand) (Z := fun _ => True) rfl rfl (fun w h Y => by first | exact PySem.W.kIn_of Y | exact PySem.W.km_in_of Y) (fun mg h x => trivial) ?F
  case F =>
    intro w mg fa h Y KX G hmg hz
    have hTT := PySem.W.km_tabs_of Y _ List.mem_cons_self
    refine' Sb.all_mk KX G hmg hTT ?nTT ?cdTT ?aC_Watcher ?pg_Watcher ?hd_Watcher ?po_Watcher ?sa_Watcher ?mk_Watcher ?kc_Watcher ?gc_MAX_WORDS ?na_Watcher_words ?na_Watcher_kinds ?na_Watcher_kept ?gc_MAX_VERDICT ?gc_MAX_HELD ?gc_MAX_STATES ?a0 ?l0 ?c0 ?k0 ?a1 ?i1 ?l1 ?c1 ?k1 ?a2 ?i2 ?l2 ?c2 ?k2 ?a3 ?i3 ?l3 ?c3 ?k3 ?a4 ?i4 ?l4 ?c4 ?k4 ?a5 ?i5 ?l5 ?c5 ?k5 ?a6 ?i6 ?l6 ?c6 ?k6 ?a7 ?i7 ?l7 ?c7 ?k7 ?a8 ?i8 ?l8 ?c8 ?k8 ?a9 ?i9 ?l9 ?c9 ?k9 ?a10 ?l10 ?c10 ?k10 ?a11 ?l11 ?c11 ?k11 ?a12 ?l12 ?c12 ?k12 ?a13 ?l13 ?c13 ?k13 ?a14 ?l14 ?c14 ?k14 ?a15 ?l15 ?c15 ?k15 ?a16 ?l16 ?c16 ?k16 ?a17 ?l17 ?c17 ?k17 ?a18 ?l18 ?c18 ?k18 ?zz_int ?zz_isinstance ?zz_bool ?zz_len ?zz_str ?zz_tuple ?zz_enumerate ?zz_list ?zz_range ?zz_sorted ?zz_abs
    (case nTT => kernel_rfl)
    (case aC_Watcher => k_is)
    (case pg_Watcher => k_is)
    (case hd_Watcher => k_is)
    (case po_Watcher => k_is)
    (case sa_Watcher => k_is)
    (case mk_Watcher => k_is)
    (case kc_Watcher => k_is)
    (case gc_MAX_WORDS => k_is)
    (case na_Watcher_words => k_is)
    (case na_Watcher_kinds => k_is)
    (case na_Watcher_kept => k_is)
    (case gc_MAX_VERDICT => k_is)
    (case gc_MAX_HELD => k_is)
    (case gc_MAX_STATES => k_is)
    (case a0 => k_is)
    (case l0 => k_is)
    (case c0 => k_is)
    (case k0 => k_is)
    (case a1 => k_is)
    (case i1 => k_is)
    (case l1 => k_is)
    (case c1 => k_is)
    (case k1 => k_is)
    (case a2 => k_is)
    (case i2 => k_is)
    (case l2 => k_is)
    (case c2 => k_is)
    (case k2 => k_is)
    (case a3 => k_is)
    (case i3 => k_is)
    (case l3 => k_is)
    (case c3 => k_is)
    (case k3 => k_is)
    (case a4 => k_is)
    (case i4 => k_is)
    (case l4 => k_is)
    (case c4 => k_is)
    (case k4 => k_is)
    (case a5 => k_is)
    (case i5 => k_is)
    (case l5 => k_is)
    (case c5 => k_is)
    (case k5 => k_is)
    (case a6 => k_is)
    (case i6 => k_is)
    (case l6 => k_is)
    (case c6 => k_is)
    (case k6 => k_is)
    (case a7 => k_is)
    (case i7 => k_is)
    (case l7 => k_is)
    (case c7 => k_is)
    (case k7 => k_is)
    (case a8 => k_is)
    (case i8 => k_is)
    (case l8 => k_is)
    (case c8 => k_is)
    (case k8 => k_is)
    (case a9 => k_is)
    (case i9 => k_is)
    (case l9 => k_is)
    (case c9 => k_is)
    (case k9 => k_is)
    (case a10 => k_is)
    (case l10 => k_is)
    (case c10 => k_is)
    (case k10 => k_is)
    (case a11 => k_is)
    (case l11 => k_is)
    (case c11 => k_is)
    (case k11 => k_is)
    (case a12 => k_is)
    (case l12 => k_is)
    (case c12 => k_is)
    (case k12 => k_is)
    (case a13 => k_is)
    (case l13 => k_is)
    (case c13 => k_is)
    (case k13 => k_is)
    (case a14 => k_is)
    (case l14 => k_is)
    (case c14 => k_is)
    (case k14 => k_is)
    (case a15 => k_is)
    (case l15 => k_is)
    (case c15 => k_is)
    (case k15 => k_is)
    (case a16 => k_is)
    (case l16 => k_is)
    (case c16 => k_is)
    (case k16 => k_is)
    (case a17 => k_is)
    (case l17 => k_is)
    (case c17 => k_is)
    (case k17 => k_is)
    (case a18 => k_is)
    (case l18 => k_is)
    (case c18 => k_is)
    (case k18 => k_is)
    (case zz_int => k_is)
    (case zz_isinstance => k_is)
    (case zz_bool => k_is)
    (case zz_len => k_is)
    (case zz_str => k_is)
    (case zz_tuple => k_is)
    (case zz_enumerate => k_is)
    (case zz_list => k_is)
    (case zz_range => k_is)
    (case zz_sorted => k_is)
    (case zz_abs => k_is)
    (case cdTT => kernel_rfl)


