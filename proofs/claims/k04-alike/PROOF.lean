import PyProof.Rows.All
import Wide.All
import OpenK.AllK
import Wide.FinOn
import HandS.ForMost
import HandS.ForExc
import HandS.EndBits
import HandS.TupAny
import HandS.TupMul
import HandS.Deep
import HandS.Style
import HandS.Wide
import HandS.Flow
import HandS.FStrTup
import HandS.IsInst
import HandS.WordsDict
import HandS.TupLe
import PySem.Challenge.RW_seenbefore_k04_whole_streams_alike
set_option Elab.async false
set_option linter.all false
set_option maxRecDepth 100000
/-! The layer of data: tuples by value, mutable things by address. -/
namespace Sb
open PySem PySem.Spec L2

/-- data -/
inductive Dv where
  | non | bl (b : Bool) | int (i : Int) | str (x : Str) | ty (n : String) | ref (a : Addr) | tup (l : List Dv)
  /-- the script, which never changes -/
  | scr (ns : List Int)

/-- a list that never changes -/
def SqZ (K : PySem.W.Frag) (H : Hp) (a : Addr) (xs : List V) : Prop :=
  (∃ o, H a = some (.frz o (.lst xs))) ∨
    ∃ (o : Obj) (its : Array Value) (n : Nat), K.lookup a = some o ∧ o.cls = .type "list" ∧ o.dict = none ∧ o.data = .seq its n ∧ its.size ≤ sizeLine ∧ Vals xs its.toList
theorem SqZ.l {K : PySem.W.Frag} {H : Hp} {a : Addr} {xs : List V} (h : SqZ K H a xs) : SqL K H a xs := h.elim (fun q => .inl (.inr q)) .inr

mutual
def Rep (K : PySem.W.Frag) (H : Hp) : Dv → V → Prop
  | .non, v => v = .non
  | .bl b, v => v = .bl b
  | .int i, v => v = .int i
  | .str x, v => v = .str x
  | .ty n, v => v = .ty n
  | .ref a, v => v = .ref a
  | .tup ds, v => ∃ a xs, v = .ref a ∧ SqT K H a xs ∧ Reps K H ds xs
  | .scr ns, v => ∃ a, v = .ref a ∧ SqZ K H a (ns.map V.int)
def Reps (K : PySem.W.Frag) (H : Hp) : List Dv → List V → Prop
  | [], xs => xs = []
  | d :: ds, xs => ∃ y ys, xs = y :: ys ∧ Rep K H d y ∧ Reps K H ds ys
end

section
variable {K : PySem.W.Frag} {H H' : Hp}
/-- tuples stay, and the script -/
structure Keep (K : PySem.W.Frag) (H H' : Hp) : Prop where
  t : ∀ a xs, SqT K H a xs → SqT K H' a xs
  z : ∀ a xs, SqZ K H a xs → SqZ K H' a xs
theorem Keep.refl : Keep K H H := ⟨fun _ _ h => h, fun _ _ h => h⟩
theorem Keep.trans {H1 H2 : Hp} (a : Keep K H H1) (b : Keep K H1 H2) : Keep K H H2 := ⟨fun c xs h => b.t c xs (a.t c xs h), fun c xs h => b.z c xs (a.z c xs h)⟩
theorem Keep.upd {a : Addr} {o : HO} (h : ∀ u, H a = some u → (∀ xs, u ≠ .tup xs) ∧ ∀ ob w, u ≠ .frz ob w) : Keep K H (upd H a o) := by
  have ne : ∀ {b : Addr} {u : HO}, H b = some u → ((∃ xs, u = .tup xs) ∨ ∃ ob w, u = .frz ob w) → b ≠ a := fun {b u} e q z => by
    subst z
    obtain ⟨h1, h2⟩ := h u e
    rcases q with ⟨xs, q⟩ | ⟨ob, w, q⟩
    · exact h1 xs q
    · exact h2 ob w q
  refine ⟨fun b xs q => ?_, fun b xs q => ?_⟩
  · rcases q with (q | ⟨ob, q⟩) | q
    · exact .inl (.inl (by rw [upd_ne (ne q (.inl ⟨_, rfl⟩))]; exact q))
    · exact .inl (.inr ⟨ob, by rw [upd_ne (ne q (.inr ⟨_, _, rfl⟩))]; exact q⟩)
    · exact .inr q
  · rcases q with ⟨ob, q⟩ | q
    · exact .inl ⟨ob, by rw [upd_ne (ne q (.inr ⟨_, _, rfl⟩))]; exact q⟩
    · exact .inr q
theorem Keep.new {a : Addr} {o : HO} (h : H a = none) : Keep K H (L2.upd H a o) := Keep.upd fun u e => by rw [h] at e; cases e
mutual
theorem Rep.keep (k : Keep K H H') : ∀ (d : Dv) (v : V), Rep K H d v → Rep K H' d v
  | .non, _, h => by simpa only [Rep] using h
  | .bl _, _, h => by simpa only [Rep] using h
  | .int _, _, h => by simpa only [Rep] using h
  | .str _, _, h => by simpa only [Rep] using h
  | .ty _, _, h => by simpa only [Rep] using h
  | .ref _, _, h => by simpa only [Rep] using h
  | .tup ds, v, h => by
    simp only [Rep] at h ⊢
    obtain ⟨a, xs, e, q, r⟩ := h
    exact ⟨a, xs, e, k.t _ _ q, Reps.keep k ds xs r⟩
  | .scr ns, v, h => by
    simp only [Rep] at h ⊢
    obtain ⟨a, e, q⟩ := h
    exact ⟨a, e, k.z _ _ q⟩
theorem Reps.keep (k : Keep K H H') : ∀ (ds : List Dv) (xs : List V), Reps K H ds xs → Reps K H' ds xs
  | [], _, h => by simpa only [Reps] using h
  | d :: ds, xs, h => by
    simp only [Reps] at h ⊢
    obtain ⟨y, ys, e, q, r⟩ := h
    exact ⟨y, ys, e, Rep.keep k d y q, Reps.keep k ds ys r⟩
end
theorem Reps.length : ∀ {ds : List Dv} {xs : List V}, Reps K H ds xs → xs.length = ds.length
  | [], _, h => by simp only [Reps] at h; rw [h]; rfl
  | d :: ds, _, h => by
    simp only [Reps] at h
    obtain ⟨y, ys, rfl, _, r⟩ := h
    simp [Reps.length r]
theorem Reps.nil : Reps K H [] [] := by simp only [Reps]
theorem Reps.cons {d : Dv} {ds : List Dv} {x : V} {xs : List V} (a : Rep K H d x) (b : Reps K H ds xs) : Reps K H (d :: ds) (x :: xs) := by
  simp only [Reps]; exact ⟨x, xs, rfl, a, b⟩
theorem Reps.nil_inv {xs : List V} (h : Reps K H [] xs) : xs = [] := by simpa only [Reps] using h
theorem Reps.cons_inv {d : Dv} {ds : List Dv} {xs : List V} (h : Reps K H (d :: ds) xs) : ∃ y ys, xs = y :: ys ∧ Rep K H d y ∧ Reps K H ds ys := by simpa only [Reps] using h
theorem Reps.append : ∀ {ds es : List Dv} {xs ys : List V}, Reps K H ds xs → Reps K H es ys → Reps K H (ds ++ es) (xs ++ ys)
  | [], _, _, _, h, q => by rw [h.nil_inv]; exact q
  | d :: ds, _, _, _, h, q => by
    obtain ⟨y, ys, rfl, a, b⟩ := h.cons_inv
    exact .cons a (Reps.append b q)
theorem Reps.get : ∀ {ds : List Dv} {xs : List V} {i : Nat} {d : Dv}, Reps K H ds xs → ds[i]? = some d → ∃ x, xs[i]? = some x ∧ Rep K H d x
  | [], _, _, _, _, e => by simp at e
  | d :: ds, _, 0, _, h, e => by
    obtain ⟨y, ys, rfl, a, b⟩ := h.cons_inv
    simp at e; subst e
    exact ⟨y, rfl, a⟩
  | d :: ds, _, i + 1, _, h, e => by
    obtain ⟨y, ys, rfl, a, b⟩ := h.cons_inv
    simpa using Reps.get (i := i) b (by simpa using e)
theorem Reps.set : ∀ {ds : List Dv} {xs : List V} (i : Nat) {d : Dv} {x : V}, Reps K H ds xs → Rep K H d x → Reps K H (ds.set i d) (xs.set i x)
  | [], _, _, _, _, h, _ => by rw [h.nil_inv]; exact .nil
  | d :: ds, _, 0, _, _, h, q => by
    obtain ⟨y, ys, rfl, a, b⟩ := h.cons_inv
    exact .cons q b
  | d :: ds, _, i + 1, _, _, h, q => by
    obtain ⟨y, ys, rfl, a, b⟩ := h.cons_inv
    exact .cons a (Reps.set i b q)
theorem Reps.take : ∀ {ds : List Dv} {xs : List V} (n : Nat), Reps K H ds xs → Reps K H (ds.take n) (xs.take n)
  | _, _, 0, _ => by simp only [List.take_zero]; exact .nil
  | [], _, _ + 1, h => by rw [h.nil_inv]; exact .nil
  | d :: ds, _, n + 1, h => by
    obtain ⟨y, ys, rfl, a, b⟩ := h.cons_inv
    exact .cons a (Reps.take n b)
theorem Reps.drop : ∀ {ds : List Dv} {xs : List V} (n : Nat), Reps K H ds xs → Reps K H (ds.drop n) (xs.drop n)
  | _, _, 0, h => h
  | [], _, _ + 1, h => by rw [h.nil_inv]; exact .nil
  | d :: ds, _, n + 1, h => by
    obtain ⟨y, ys, rfl, a, b⟩ := h.cons_inv
    exact Reps.drop n b
theorem Reps.eraseIdx : ∀ {ds : List Dv} {xs : List V} (i : Nat), Reps K H ds xs → Reps K H (ds.eraseIdx i) (xs.eraseIdx i)
  | [], _, _, h => by rw [h.nil_inv]; simp; exact .nil
  | d :: ds, _, 0, h => by
    obtain ⟨y, ys, rfl, a, b⟩ := h.cons_inv
    exact b
  | d :: ds, _, i + 1, h => by
    obtain ⟨y, ys, rfl, a, b⟩ := h.cons_inv
    exact .cons a (Reps.eraseIdx i b)
theorem Reps.ints (ns : List Int) : Reps K H (ns.map Dv.int) (ns.map V.int) := by
  induction ns with
  | nil => exact .nil
  | cons n ns ih => exact .cons (by simp only [Rep]) ih
end

/-- what stands at an address -/
inductive O where
  | lst (ds : List Dv)
  /-- a dict -/
  | dct (kvs : List (Dv × Dv))
  | ins (C : Addr) (fs : List (Str × Dv))
  /-- a law's pen: [cells, at, digits] -/
  | pen
abbrev Store := Addr → Option O
def up (S : Store) (a : Addr) (o : O) : Store := fun b => if b = a then some o else S b
theorem up_same {S : Store} {a : Addr} {o : O} : up S a o a = some o := by unfold up; rw [if_pos rfl]
theorem up_ne {S : Store} {a b : Addr} {o : O} (h : b ≠ a) : up S a o b = S b := by unfold up; rw [if_neg h]
theorem up_up {S : Store} {a : Addr} {o u : O} : up (up S a o) a u = up S a u := by
  funext b; unfold up; split <;> rfl
theorem up_none {S : Store} {a b : Addr} {o : O} : (up S a o b = none) ↔ (b ≠ a ∧ S b = none) := by
  unfold up
  by_cases h : b = a
  · rw [if_pos h]; simp [h]
  · rw [if_neg h]; simp [h]
theorem up_comm {S : Store} {a b : Addr} {o u : O} (h : a ≠ b) : up (up S a o) b u = up (up S b u) a o := by
  funext c; unfold up
  by_cases h1 : c = b
  · subst h1; simp [Ne.symm h]
  · by_cases h2 : c = a
    · subst h2; simp [h1]
    · simp [h1, h2]
theorem up_self {S : Store} {a : Addr} {o : O} (h : S a = some o) : up S a o = S := by
  funext b; unfold up
  by_cases e : b = a
  · subst e; rw [if_pos rfl, h]
  · rw [if_neg e]
theorem some_ne {S : Store} {a b : Addr} {o : O} (h : S a = some o) (h' : S b = none) : a ≠ b := by
  intro e; subst e; rw [h] at h'; cases h'

/-- two lists of pairs with the same names, their values alike -/
def Named {κ : Type} (K : PySem.W.Frag) (H : Hp) (fs : List (κ × Dv)) (ys : List (κ × V)) : Prop := ys.map (·.1) = fs.map (·.1) ∧ Reps K H (fs.map (·.2)) (ys.map (·.2))

/-- a key -/
def kD : Key → Dv
  | .inl i => .int i
  | .inr x => .str x
theorem kD_inj : ∀ {k l : Key}, kD k = kD l → k = l
  | .inl _, .inl _, h => by simp only [kD, Dv.int.injEq] at h; rw [h]
  | .inr _, .inr _, h => by simp only [kD, Dv.str.injEq] at h; rw [h]
  | .inl _, .inr _, h => by simp [kD] at h
  | .inr _, .inl _, h => by simp [kD] at h
/-- a dict: its keys and values, in order -/
def DctAt (K : PySem.W.Frag) (H : Hp) (a : Addr) (kvs : List (Dv × Dv)) : Prop :=
  ∃ ys : List (Key × V), H a = some (.dK ys) ∧ kvs.map (·.1) = ys.map (fun y => kD y.1) ∧ Reps K H (kvs.map (·.2)) (ys.map (·.2))
theorem DctAt.there {K : PySem.W.Frag} {H : Hp} {a : Addr} {kvs : List (Dv × Dv)} (h : DctAt K H a kvs) : H a ≠ none := by
  obtain ⟨ys, e, _⟩ := h; rw [e]; simp
theorem DctAt.plain {K : PySem.W.Frag} {H : Hp} {a : Addr} {kvs : List (Dv × Dv)} (h : DctAt K H a kvs) : ∀ u, H a = some u → (∀ xs, u ≠ .tup xs) ∧ ∀ ob w, u ≠ .frz ob w := fun u e => by
  obtain ⟨ys, q, _⟩ := h; rw [q] at e; cases e; exact ⟨fun _ q => HO.noConfusion q, fun _ _ q => HO.noConfusion q⟩
theorem DctAt.frame {K : PySem.W.Frag} {H H' : Hp} {a : Addr} {kvs : List (Dv × Dv)} (h : DctAt K H a kvs) (k : Keep K H H') (e : H' a = H a) : DctAt K H' a kvs := by
  obtain ⟨ys, q, n, r⟩ := h; exact ⟨ys, e.trans q, n, r.keep k⟩

/-- own: the hidden objects, by what they belong to -/
abbrev Own := Addr → Option Addr
def OK1 (K : PySem.W.Frag) (H : Hp) (own : Own) (a : Addr) : O → Prop
  | .lst ds => own a = none ∧ ∃ xs, H a = some (.lst xs) ∧ Reps K H ds xs
  | .dct kvs => own a = none ∧ DctAt K H a kvs
  | .ins C fs => own a = none ∧ ∃ dx ys, H a = some (.ins C dx ys) ∧ Named K H fs ys
  | .pen => own a = none ∧ ∃ (l : Addr) (at_ dg : Int) (ns : List Int), H a = some (.lst [.ref l, .int at_, .int dg]) ∧ own l = some a ∧ H l = some (.lst (ns.map V.int)) ∧ 0 ≤ at_ ∧ ns.length ≤ 63
structure Rel (K : PySem.W.Frag) (S : Store) (H : Hp) : Prop where
  ex : ∃ own : Own, (∀ c a, own c = some a → S c = none ∧ H c ≠ none) ∧ ∀ a o, S a = some o → OK1 K H own a o

section
variable {K : PySem.W.Frag} {H H' : Hp} {S S' : Store} {own own' : Own} {a b p : Addr} {o o' : O} {u : HO}
theorem OK1.there (h : OK1 K H own a o) : H a ≠ none := by
  cases o with
  | lst ds => obtain ⟨_, xs, e, _⟩ := h; rw [e]; simp
  | dct ds => exact h.2.there
  | ins C ds => obtain ⟨_, dx, xs, e, _⟩ := h; rw [e]; simp
  | pen => obtain ⟨_, _, _, _, _, e, _⟩ := h; rw [e]; simp
theorem OK1.mine (h : OK1 K H own a o) : own a = none := by
  cases o <;> exact h.1
theorem OK1.plain (h : OK1 K H own a o) : ∀ u, H a = some u → (∀ xs, u ≠ .tup xs) ∧ ∀ ob w, u ≠ .frz ob w := fun u e => by
  cases o with
  | lst ds => obtain ⟨_, xs, q, _⟩ := h; rw [q] at e; cases e; exact ⟨fun _ q => HO.noConfusion q, fun _ _ q => HO.noConfusion q⟩
  | dct ds => exact h.2.plain u e
  | ins C ds => obtain ⟨_, dx, xs, q, _⟩ := h; rw [q] at e; cases e; exact ⟨fun _ q => HO.noConfusion q, fun _ _ q => HO.noConfusion q⟩
  | pen => obtain ⟨_, _, _, _, _, q, _⟩ := h; rw [q] at e; cases e; exact ⟨fun _ q => HO.noConfusion q, fun _ _ q => HO.noConfusion q⟩
theorem OK1.frame (h : OK1 K H own b o) (k : Keep K H H') (hown : own' b = own b) (ho2 : ∀ c, own c = some b → own' c = some b)
    (he : ∀ c, (c = b ∨ own c = some b) → H c ≠ none → H' c = H c) : OK1 K H' own' b o := by
  cases o with
  | lst ds => obtain ⟨w, xs, e, r⟩ := h; exact ⟨hown.trans w, xs, (he b (.inl rfl) (by rw [e]; simp)).trans e, r.keep k⟩
  | dct ds => exact ⟨hown.trans h.1, h.2.frame k (he b (.inl rfl) h.2.there)⟩
  | ins C ds => obtain ⟨w, dx, xs, e, n, r⟩ := h; exact ⟨hown.trans w, dx, xs, (he b (.inl rfl) (by rw [e]; simp)).trans e, n, r.keep k⟩
  | pen =>
    obtain ⟨w, l, i, j, ns, e, wl, el, z⟩ := h
    exact ⟨hown.trans w, l, i, j, ns, (he b (.inl rfl) (by rw [e]; simp)).trans e, ho2 l wl, (he l (.inr wl) (by rw [el]; simp)).trans el, z⟩
theorem Rel.free (h : Rel K S H) (hp : H p = none) : S p = none := by
  obtain ⟨own, _, h2⟩ := h.ex
  cases e : S p with
  | none => rfl
  | some o => exact absurd hp (h2 p o e).there
theorem Rel.plain (h : Rel K S H) (e : S a = some o) : ∀ u, H a = some u → (∀ xs, u ≠ .tup xs) ∧ ∀ ob w, u ≠ .frz ob w := by
  obtain ⟨own, _, h2⟩ := h.ex
  exact OK1.plain (h2 a o e)
/-- forgetting -/
theorem Rel.sub (h : Rel K S H) (hs : ∀ a o, S' a = some o → S a = some o) : Rel K S' H := by
  obtain ⟨own, h1, h2⟩ := h.ex
  refine ⟨own, fun c a e => ⟨?_, (h1 c a e).2⟩, fun a o e => h2 a o (hs a o e)⟩
  cases q : S' c with
  | none => rfl
  | some o =>
    have := hs c o q
    rw [(h1 c a e).1] at this; cases this
/-- an untracked new object -/
theorem Rel.new (h : Rel K S H) (hp : H p = none) : Rel K S (upd H p u) := by
  obtain ⟨own, h1, h2⟩ := h.ex
  have ne : ∀ c, H c ≠ none → c ≠ p := fun c q z => q (by rw [z]; exact hp)
  refine ⟨own, fun c a e => ⟨(h1 c a e).1, by rw [upd_ne (ne c (h1 c a e).2)]; exact (h1 c a e).2⟩, fun a o e => (h2 a o e).frame (.new hp) rfl (fun _ q => q) fun c _ q => upd_ne (ne c q)⟩
/-- a tracked new object -/
theorem Rel.laid (h : Rel K S H) (hp : H p = none) (hn : ∀ own : Own, own p = none → OK1 K (upd H p u) own p o) : Rel K (up S p o) (upd H p u) := by
  obtain ⟨own, h1, h2⟩ := h.ex
  have ne : ∀ c, H c ≠ none → c ≠ p := fun c q z => q (by rw [z]; exact hp)
  have op : own p = none := by
    cases q : own p with
    | none => rfl
    | some a => exact absurd hp (h1 p a q).2
  refine ⟨own, fun c a e => ⟨?_, by rw [upd_ne (ne c (h1 c a e).2)]; exact (h1 c a e).2⟩, fun a o e => ?_⟩
  · rw [up_ne (ne c (h1 c a e).2)]; exact (h1 c a e).1
  · by_cases ha : a = p
    · subst ha; rw [up_same] at e; cases e; exact hn own op
    · rw [up_ne ha] at e
      exact (h2 a _ e).frame (.new hp) rfl (fun _ q => q) fun c _ q => upd_ne (ne c q)
/-- an object changed -/
theorem Rel.write (h : Rel K S H) (e : S a = some o) (hn : ∀ own : Own, (∀ c b, own c = some b → S c = none) → OK1 K H own a o → OK1 K (upd H a u) own a o') : Rel K (up S a o') (upd H a u) := by
  obtain ⟨own, h1, h2⟩ := h.ex
  have kp : Keep K H (upd H a u) := .upd (OK1.plain (h2 a o e))
  have oa : own a = none := (h2 a o e).mine
  have nc : ∀ c b, own c = some b → c ≠ a := fun c b q z => by rw [z, oa] at q; cases q
  refine ⟨own, fun c b q => ⟨?_, ?_⟩, fun b ob q => ?_⟩
  · rw [up_ne (nc c b q)]; exact (h1 c b q).1
  · rw [upd_ne (nc c b q)]; exact (h1 c b q).2
  · by_cases hb : b = a
    · subst hb; rw [up_same] at q; cases q
      exact hn own (fun c b q => (h1 c b q).1) (h2 b o e)
    · rw [up_ne hb] at q
      refine (h2 b ob q).frame kp rfl (fun _ q => q) fun c hc _ => ?_
      rcases hc with hc | hc
      · rw [hc]; exact upd_ne hb
      · exact upd_ne (nc c b hc)
end

/-! ### slots -/
abbrev DSt := List (Option Dv)
structure Wd (K : PySem.W.Frag) (H0 : Hp) (σ : St) (δ : DSt) (S : Store) (H : Hp) : Prop where
  base : Keep K H0 H
  rel : Rel K S H
  len : σ.length = δ.length
  slot : ∀ (i : Nat) (d : Dv), δ[i]? = some (some d) → ∃ v, σ[i]? = some (some v) ∧ Rep K H d v
theorem Wd.keep {K : PySem.W.Frag} {H0 : Hp} {σ : St} {δ : DSt} {S S' : Store} {H H' : Hp} (w : Wd K H0 σ δ S H) (k : Keep K H H') (r : Rel K S' H') : Wd K H0 σ δ S' H' :=
  ⟨w.base.trans k, r, w.len, fun i d e => let ⟨v, e1, q⟩ := w.slot i d e; ⟨v, e1, q.keep k⟩⟩
theorem Wd.set {K : PySem.W.Frag} {H0 : Hp} {σ : St} {δ : DSt} {S : Store} {H : Hp} {i : Nat} {d : Dv} {v : V} (w : Wd K H0 σ δ S H) (r : Rep K H d v) : Wd K H0 (σ.set i (some v)) (δ.set i (some d)) S H := by
  refine ⟨w.base, w.rel, by simp [w.len], fun j e he => ?_⟩
  by_cases hj : j = i
  · subst hj
    have hl : j < δ.length := by
      have := (List.getElem?_eq_some_iff.mp he).1
      simpa using this
    rw [List.getElem?_set_self hl] at he
    cases he
    exact ⟨v, List.getElem?_set_self (by rw [w.len]; exact hl), r⟩
  · rw [List.getElem?_set_ne (Ne.symm hj)] at he ⊢
    exact w.slot j e he

/-! ### readings over data -/
abbrev DK := Dv → Store → Prop
abbrev DTE := DSt → Store → DK → Prop
abbrev DTT := DSt → Store → (Bool → Store → Prop) → Prop
abbrev DTA := DSt → Store → (List Dv → Store → Prop) → Prop
structure DEnds where
  nx : DSt → Store → Prop
  rt : DK
  bk : DSt → Store → Prop := fun _ _ => False
  ct : DSt → Store → Prop := fun _ _ => False
abbrev DTS := DEnds → DSt → Store → Prop

/-- what is wanted of a value -/
def PV (K : PySem.W.Frag) (H : Hp) (P : DK) (Q : VK) : Prop := ∀ d S', P d S' → ∀ v H', Keep K H H' → Rel K S' H' → Rep K H' d v → Q v H'
def liftE (K : PySem.W.Frag) (H0 : Hp) (t : DTE) : TE := fun σ H Q => ∃ δ S P, Wd K H0 σ δ S H ∧ t δ S P ∧ PV K H P Q
def liftT (K : PySem.W.Frag) (H0 : Hp) (t : DTT) : TT := fun σ H Q => ∃ δ S P, Wd K H0 σ δ S H ∧ t δ S P ∧ ∀ b S', P b S' → ∀ H', Keep K H H' → Rel K S' H' → Q b H'
def liftA (K : PySem.W.Frag) (H0 : Hp) (t : DTA) : TA := fun σ H Q => ∃ δ S P, Wd K H0 σ δ S H ∧ t δ S P ∧ ∀ ds S', P ds S' → ∀ vs H', Keep K H H' → Rel K S' H' → Reps K H' ds vs → Q vs H'
structure PD (K : PySem.W.Frag) (H0 H : Hp) (D' : DEnds) (D : Ends) : Prop where
  nx : ∀ δ1 S1, D'.nx δ1 S1 → ∀ σ1 H1, Keep K H H1 → Wd K H0 σ1 δ1 S1 H1 → D.nx σ1 H1
  bk : ∀ δ1 S1, D'.bk δ1 S1 → ∀ σ1 H1, Keep K H H1 → Wd K H0 σ1 δ1 S1 H1 → D.bk σ1 H1
  ct : ∀ δ1 S1, D'.ct δ1 S1 → ∀ σ1 H1, Keep K H H1 → Wd K H0 σ1 δ1 S1 H1 → D.ct σ1 H1
  rt : PV K H D'.rt D.rt
def liftS (K : PySem.W.Frag) (H0 : Hp) (t : DTS) : TS := fun D σ H => ∃ δ S D', Wd K H0 σ δ S H ∧ t D' δ S ∧ PD K H0 H D' D
theorem PV.keep {K : PySem.W.Frag} {H H1 : Hp} {P : DK} {Q : VK} (h : PV K H P Q) (k : Keep K H H1) : PV K H1 P Q := fun d S' p v H' k' r q => h d S' p v H' (k.trans k') r q
theorem PD.keep {K : PySem.W.Frag} {H0 H H1 : Hp} {D' : DEnds} {D : Ends} (h : PD K H0 H D' D) (k : Keep K H H1) : PD K H0 H1 D' D :=
  ⟨fun δ S p σ H' k' w => h.nx δ S p σ H' (k.trans k') w, fun δ S p σ H' k' w => h.bk δ S p σ H' (k.trans k') w, fun δ S p σ H' k' w => h.ct δ S p σ H' (k.trans k') w, h.rt.keep k⟩

theorem _root_.L2.PE.to {X : Cx} {e : Expr} {t t' : TE} (h : PE X e t) (i : ∀ σ H Q, t' σ H Q → t σ H Q) : PE X e t' := ⟨fun pins s σ H Q I q => h.run pins s σ H Q I (i σ H Q q)⟩
theorem _root_.L2.PT.to {X : Cx} {e : Expr} {t t' : TT} (h : PT X e t) (i : ∀ σ H Q, t' σ H Q → t σ H Q) : PT X e t' := ⟨fun pins s σ H Q I q => h.run pins s σ H Q I (i σ H Q q)⟩
theorem _root_.L2.PW.to {X : Cx} {e : Expr} {t t' : TT} (h : PW X e t) (i : ∀ σ H Q, t' σ H Q → t σ H Q) : PW X e t' := ⟨fun wh pins s σ H Q I q => h.run wh pins s σ H Q I (i σ H Q q)⟩
theorem _root_.L2.PA.to {X : Cx} {e : List Expr} {t t' : TA} (h : PA X e t) (i : ∀ σ H Q, t' σ H Q → t σ H Q) : PA X e t' := ⟨fun pos pins s σ H Q I q => h.run pos pins s σ H Q I (i σ H Q q)⟩
theorem _root_.L2.PS.to {X : Cx} {e : Stmt} {t t' : TS} (h : PS X e t) (i : ∀ D σ H, t' D σ H → t D σ H) : PS X e t' := ⟨fun pins s σ H D I q => h.run pins s σ H D I (i D σ H q)⟩
theorem _root_.L2.PSs.to {X : Cx} {e : List Stmt} {t t' : TS} (h : PSs X e t) (i : ∀ D σ H, t' D σ H → t D σ H) : PSs X e t' := ⟨fun pins s σ H D I q => h.run pins s σ H D I (i D σ H q)⟩
theorem _root_.L2.PG.to {X : Cx} {e : Expr} {t t' : TG} (h : PG X e t) (i : ∀ v σ H Q, t' v σ H Q → t v σ H Q) : PG X e t' := ⟨fun pins s σ H v u Q I r q => h.run pins s σ H v u Q I r (i v σ H Q q)⟩
theorem _root_.L2.PGs.to {X : Cx} {e : List Expr} {t t' : TGs} (h : PGs X e t) (i : ∀ v σ H Q, t' v σ H Q → t v σ H Q) : PGs X e t' := ⟨fun pins s σ H v u Q I r q => h.run pins s σ H v u Q I r (i v σ H Q q)⟩
theorem _root_.L2.PI.to {X : Cx} {tg e : Expr} {t t' : TI} (h : PI X tg e t) (i : ∀ σ H Q, t' σ H Q → t σ H Q) : PI X tg e t' := ⟨fun pins s σ H Q I q => h.run pins s σ H Q I (i σ H Q q)⟩

abbrev DE (X : Cx) (H0 : Hp) (e : Expr) (t : DTE) : Prop := PE X e (liftE X.K H0 t)
abbrev DT (X : Cx) (H0 : Hp) (e : Expr) (t : DTT) : Prop := PT X e (liftT X.K H0 t)
abbrev DW (X : Cx) (H0 : Hp) (e : Expr) (t : DTT) : Prop := PW X e (liftT X.K H0 t)
abbrev DA (X : Cx) (H0 : Hp) (e : List Expr) (t : DTA) : Prop := PA X e (liftA X.K H0 t)
abbrev DS (X : Cx) (H0 : Hp) (e : Stmt) (t : DTS) : Prop := PS X e (liftS X.K H0 t)
abbrev DSs (X : Cx) (H0 : Hp) (e : List Stmt) (t : DTS) : Prop := PSs X e (liftS X.K H0 t)
end Sb

/-! Rules over data: expressions. -/
namespace Sb
open PySem PySem.Spec L2

section
variable {X : Cx} {H0 : Hp} {a b c : Expr} {ta tb tc : DTE} {pos : Pos}

/-! ### names, constants -/
@[simp] def dVar (i : Nat) : DTE := fun δ S P => match δ[i]? with | some (some d) => P d S | _ => False
@[simp] def dC (d : Dv) : DTE := fun _ S P => P d S
theorem dVar_some {i : Nat} {δ : DSt} {S : Store} {P : DK} (h : dVar i δ S P) : ∃ d, δ[i]? = some (some d) ∧ P d S := by
  unfold dVar at h
  split at h
  · exact ⟨_, by assumption, h⟩
  · exact h.elim
theorem dv (i : Nat) {x : Str} {pos : Pos} (hN : X.N[i]? = some x := by rfl) (hv : Vis X.env.scope x := by first | exact Or.inl rfl | exact Or.inr (Or.inl rfl) | exact Or.inr (Or.inr rfl)) (hd : (x == ("__debug__" : Str)) = false := by decide)
    (hcd : (x == ("__classdict__" : Str)) = false := by decide) : DE X H0 (.Name x pos) (dVar i) := (pe_var hN hv hd hcd).to fun σ H Q h => by
  obtain ⟨δ, S, P, w, ht, hp⟩ := h
  obtain ⟨d, e, q⟩ := dVar_some ht
  obtain ⟨v, ev, r⟩ := w.slot i d e
  exact ⟨v, ev, hp d S q v H .refl w.rel r⟩
theorem lift_C {K : PySem.W.Frag} {d : Dv} {v : V} (hr : ∀ H, Rep K H d v) : ∀ σ H Q, liftE K H0 (dC d) σ H Q → tC v σ H Q := fun σ H Q h => by
  obtain ⟨δ, S, P, w, ht, hp⟩ := h
  exact hp d S ht v H .refl w.rel (hr H)
theorem de_int {i : Int} {j pos} : DE X H0 (.Constant (.int i) j pos) (dC (.int i)) := pe_int.to (lift_C fun _ => by simp only [Rep])
theorem de_bl {i : Bool} {j pos} : DE X H0 (.Constant (.bool i) j pos) (dC (.bl i)) := pe_bl.to (lift_C fun _ => by simp only [Rep])
theorem de_non {j pos} : DE X H0 (.Constant .none j pos) (dC .non) := pe_non.to (lift_C fun _ => by simp only [Rep])
theorem de_str {x : Str} {j pos} : DE X H0 (.Constant (.str x) j pos) (dC (.str x)) := pe_str.to (lift_C fun _ => by simp only [Rep])

/-! ### two places -/
abbrev G2 := Dv → Dv → Store → DK → Prop
def Bin (K : PySem.W.Frag) (g : G2) (r : R2) : Prop := ∀ d e S P, g d e S P → ∀ v u H Q, Rel K S H → Rep K H d v → Rep K H e u → PV K H P Q → r v u H Q
@[simp] def dBin (g : G2) (ta tb : DTE) : DTE := fun δ S P => ta δ S fun d S1 => tb δ S1 fun e S2 => g d e S2 P
theorem bin_lift {K : PySem.W.Frag} {g : G2} {r : R2} (h : Bin K g r) : ∀ σ H Q, liftE K H0 (dBin g ta tb) σ H Q → tOp r (liftE K H0 ta) (liftE K H0 tb) σ H Q := fun σ H Q q => by
  obtain ⟨δ, S, P, w, ht, hp⟩ := q
  refine ⟨δ, S, _, w, ht, fun d S1 q1 v H1 k1 r1 p1 => ⟨δ, S1, _, w.keep k1 r1, q1, fun e S2 q2 u H2 k2 r2 p2 => ?_⟩⟩
  exact h d e S2 P q2 v u H2 Q r2 (p1.keep k2) p2 (hp.keep (k1.trans k2))
/-- an operation told by data -/
def OpG (X : Cx) (f : Value → Value → Sem Value) (g : G2) : Prop := ∃ r, OpR X f r ∧ Bin X.K g r
theorem de_op {op : Operator} {g : G2} (o : OpG X (binaryOp op) g) (ha : DE X H0 a ta) (hb : DE X H0 b tb) : DE X H0 (.BinOp a op b pos) (dBin g ta tb) := let ⟨_, h1, h2⟩ := o; (pe_op h1 ha hb).to (bin_lift h2)
theorem de_cmp {op : CmpOp} {g : G2} (o : OpG X (compareOp op) g) (ha : DE X H0 a ta) (hb : DE X H0 b tb) (h1 : behindInMarks op b = false := by first | exact nobehind _ (by decide) (by decide) | rfl) : DE X H0 (.Compare a [op] [b] pos) (dBin g ta tb) := let ⟨_, h1', h2⟩ := o; (pe_cmpR h1' ha hb h1).to (bin_lift h2)
theorem OpR.or {f : Value → Value → Sem Value} {r r' : R2} (h : OpR X f r) (h' : OpR X f r') : OpR X f (fun x y H Q => r x y H Q ∨ r' x y H Q) := fun pins s σ H x y v u Q I rx ry q =>
  q.elim (h pins s σ H x y v u Q I rx ry) (h' pins s σ H x y v u Q I rx ry)
theorem Bin.or1 {K : PySem.W.Frag} {g : G2} {r r' : R2} (h : Bin K g r) : Bin K g (fun x y H Q => r x y H Q ∨ r' x y H Q) := fun d e S P q v u H Q a b c z => .inl (h d e S P q v u H Q a b c z)
theorem Bin.or2 {K : PySem.W.Frag} {g : G2} {r r' : R2} (h : Bin K g r') : Bin K g (fun x y H Q => r x y H Q ∨ r' x y H Q) := fun d e S P q v u H Q a b c z => .inr (h d e S P q v u H Q a b c z)
/-- two ints under a condition -/
@[simp] def gI (C : Int → Int → Prop) (f : Int → Int → Dv) : G2 := fun d e S P => match d, e with | .int i, .int j => C i j ∧ P (f i j) S | _, _ => False
@[simp] def gI0 (f : Int → Int → Dv) : G2 := fun d e S P => match d, e with | .int i, .int j => P (f i j) S | _, _ => False
theorem gI_inv {C : Int → Int → Prop} {f : Int → Int → Dv} {d e : Dv} {S : Store} {P : DK} (h : gI C f d e S P) : ∃ i j, d = .int i ∧ e = .int j ∧ C i j ∧ P (f i j) S := by
  unfold gI at h
  split at h
  · exact ⟨_, _, rfl, rfl, h⟩
  · exact h.elim
theorem gI0_inv {f : Int → Int → Dv} {d e : Dv} {S : Store} {P : DK} (h : gI0 f d e S P) : ∃ i j, d = .int i ∧ e = .int j ∧ P (f i j) S := by
  unfold gI0 at h
  split at h
  · exact ⟨_, _, rfl, rfl, h⟩
  · exact h.elim
theorem rep_int {K : PySem.W.Frag} {H : Hp} {i : Int} {v : V} : Rep K H (.int i) v ↔ v = .int i := by simp only [Rep]
theorem rep_bl {K : PySem.W.Frag} {H : Hp} {i : Bool} {v : V} : Rep K H (.bl i) v ↔ v = .bl i := by simp only [Rep]
theorem rep_str {K : PySem.W.Frag} {H : Hp} {i : Str} {v : V} : Rep K H (.str i) v ↔ v = .str i := by simp only [Rep]
theorem rep_ref {K : PySem.W.Frag} {H : Hp} {i : Addr} {v : V} : Rep K H (.ref i) v ↔ v = .ref i := by simp only [Rep]
theorem rep_non {K : PySem.W.Frag} {H : Hp} {v : V} : Rep K H .non v ↔ v = .non := by simp only [Rep]
theorem rep_tup {K : PySem.W.Frag} {H : Hp} {ds : List Dv} {v : V} : Rep K H (.tup ds) v ↔ ∃ a xs, v = .ref a ∧ SqT K H a xs ∧ Reps K H ds xs := by simp only [Rep]
theorem rep_scr {K : PySem.W.Frag} {H : Hp} {ns : List Int} {v : V} : Rep K H (.scr ns) v ↔ ∃ a, v = .ref a ∧ SqZ K H a (ns.map V.int) := by simp only [Rep]
theorem bin_I {K : PySem.W.Frag} {C : Int → Int → Prop} {g : Int → Int → V} {f : Int → Int → Dv} (hg : ∀ H i j, Rep K H (f i j) (g i j)) : Bin K (gI C f) (rI C g) := fun d e S P q v u H Q r1 rv ru hp => by
  obtain ⟨i, j, rfl, rfl, hc, q⟩ := gI_inv q
  exact ⟨i, j, rep_int.mp rv, rep_int.mp ru, hc, hp _ _ q _ _ .refl r1 (hg H i j)⟩
theorem bin_I0 {K : PySem.W.Frag} {g : Int → Int → V} {f : Int → Int → Dv} (hg : ∀ H i j, Rep K H (f i j) (g i j)) : Bin K (gI0 f) (rI0 g) := fun d e S P q v u H Q r1 rv ru hp => by
  obtain ⟨i, j, rfl, rfl, q⟩ := gI0_inv q
  exact ⟨i, j, rep_int.mp rv, rep_int.mp ru, hp _ _ q _ _ .refl r1 (hg H i j)⟩
abbrev gSub : G2 := gI0 fun i j => .int (i - j)
abbrev gMod : G2 := gI (fun _ j => 0 < j) fun i j => .int (i % j)
abbrev gDiv : G2 := gI CDiv fun i j => .int (i / j)
abbrev gDivW : G2 := gI CDivW fun i j => .int (i / j)
abbrev gPow : G2 := gI CPow fun i j => .int (i ^ j.toNat)
abbrev gMul : G2 := gI CMul fun i j => .int (i * j)
abbrev gMulW : G2 := gI CMulW fun i j => .int (i * j)
theorem o_sub : OpG X (binaryOp .Sub) (gSub) := ⟨_, op_sub, bin_I0 fun _ _ _ => rep_int.mpr rfl⟩
theorem o_mod : OpG X (binaryOp .Mod) (gMod) := ⟨_, op_mod, bin_I fun _ _ _ => rep_int.mpr rfl⟩
theorem o_fdiv : OpG X (binaryOp .FloorDiv) (gDiv) := ⟨_, op_fdiv, bin_I fun _ _ _ => rep_int.mpr rfl⟩
theorem o_fdivW : OpG X (binaryOp .FloorDiv) (gDivW) := ⟨_, op_fdivW, bin_I fun _ _ _ => rep_int.mpr rfl⟩
theorem o_pow : OpG X (binaryOp .Pow) (gPow) := ⟨_, op_pow, bin_I fun _ _ _ => rep_int.mpr rfl⟩
theorem o_mul : OpG X (binaryOp .Mult) (gMul) := ⟨_, op_mul, bin_I fun _ _ _ => rep_int.mpr rfl⟩
theorem o_mulW : OpG X (binaryOp .Mult) (gMulW) := ⟨_, op_mulW, bin_I fun _ _ _ => rep_int.mpr rfl⟩
/-- + of ints, tuples, lists, texts -/
@[simp] def gAdd : G2 := fun d e S P => match d, e with
  | .int i, .int j => P (.int (i + j)) S
  | .tup xs, .tup ys => xs.length + ys.length ≤ sizeLine ∧ P (.tup (xs ++ ys)) S
  | .str x, .str y => x.length + y.length ≤ sizeLine ∧ P (.str (x ++ y)) S
  | .ref p, .ref q => match S p, S q with
    | some (.lst xs), some (.lst ys) => xs.length + ys.length ≤ sizeLine ∧ ∀ l, S l = none → P (.ref l) (up S l (.lst (xs ++ ys)))
    | _, _ => False
  | _, _ => False
theorem Rel.get {K : PySem.W.Frag} {S : Store} {H : Hp} {a : Addr} {o : O} (h : Rel K S H) (e : S a = some o) : ∃ own, OK1 K H own a o := let ⟨own, _, h2⟩ := h.ex; ⟨own, h2 a o e⟩
theorem Rel.lst {K : PySem.W.Frag} {S : Store} {H : Hp} {a : Addr} {ds : List Dv} (h : Rel K S H) (e : S a = some (.lst ds)) : ∃ xs, H a = some (.lst xs) ∧ Reps K H ds xs := let ⟨_, _, q⟩ := h.get e; q
theorem Rel.dct {K : PySem.W.Frag} {S : Store} {H : Hp} {a : Addr} {ds : List (Dv × Dv)} (h : Rel K S H) (e : S a = some (.dct ds)) : DctAt K H a ds := let ⟨_, _, q⟩ := h.get e; q
theorem Rel.ins {K : PySem.W.Frag} {S : Store} {H : Hp} {a C : Addr} {fs : List (Str × Dv)} (h : Rel K S H) (e : S a = some (.ins C fs)) : ∃ dx ys, H a = some (.ins C dx ys) ∧ Named K H fs ys := let ⟨_, _, q⟩ := h.get e; q
theorem rep_new_tup {K : PySem.W.Frag} {H : Hp} {p : Addr} {ds : List Dv} {xs : List V} (hp : H p = none) (r : Reps K H ds xs) : Rep K (upd H p (.tup xs)) (.tup ds) (.ref p) :=
  rep_tup.mpr ⟨p, xs, rfl, .of upd_same, Reps.keep (Keep.new hp) _ _ r⟩
/-- wanted of a new tuple -/
theorem PV.tup {K : PySem.W.Frag} {S : Store} {H : Hp} {P : DK} {Q : VK} {p : Addr} {ds : List Dv} {xs : List V} (h : PV K H P Q) (r : Rel K S H) (rs : Reps K H ds xs) (q : P (.tup ds) S) (hp : H p = none) : Q (.ref p) (upd H p (.tup xs)) :=
  h _ _ q _ _ (.new hp) (r.new hp) (rep_new_tup hp rs)
theorem PV.lst {K : PySem.W.Frag} {S : Store} {H : Hp} {P : DK} {Q : VK} {p : Addr} {ds : List Dv} {xs : List V} (h : PV K H P Q) (r : Rel K S H) (rs : Reps K H ds xs) (q : ∀ l, S l = none → P (.ref l) (up S l (.lst ds))) (hp : H p = none) : Q (.ref p) (upd H p (.lst xs)) :=
  h _ _ (q p (r.free hp)) _ _ (.new hp) (r.laid hp fun own ow => ⟨ow, xs, upd_same, Reps.keep (Keep.new hp) _ _ rs⟩) (rep_ref.mpr rfl)
theorem o_add : OpG X (binaryOp .Add) gAdd := by
  refine ⟨_, ((op_add.or op_catA).or (op_cat.or op_add_str)), fun d e S P q v u H Q r rv ru hp => ?_⟩
  unfold gAdd at q
  split at q
  · exact .inl (.inl ⟨_, _, rep_int.mp rv, rep_int.mp ru, hp _ _ q _ _ .refl r (rep_int.mpr rfl)⟩)
  · obtain ⟨hl, q⟩ := q
    obtain ⟨p1, xs, rfl, t1, s1⟩ := rep_tup.mp rv
    obtain ⟨p2, ys, rfl, t2, s2⟩ := rep_tup.mp ru
    refine .inl (.inr ⟨p1, p2, xs, ys, rfl, rfl, t1, t2, by rw [s1.length, s2.length]; exact hl, fun e => ?_, fun _ e => ?_, fun _ _ p hpn => ?_⟩)
    · subst e
      have := s1.append s2
      exact hp _ _ q _ _ .refl r (rep_tup.mpr ⟨p2, ys, rfl, t2, by simpa using this⟩)
    · subst e
      have := s1.append s2
      exact hp _ _ q _ _ .refl r (rep_tup.mpr ⟨p1, xs, rfl, t1, by simpa using this⟩)
    · exact hp.tup r (s1.append s2) q hpn
  · exact .inr (.inr ⟨_, _, rep_str.mp rv, rep_str.mp ru, q.1, hp _ _ q.2 _ _ .refl r (rep_str.mpr rfl)⟩)
  · rename_i p1 p2
    split at q
    · rename_i e1 e2
      obtain ⟨xs, h1, s1⟩ := r.lst e1
      obtain ⟨ys, h2, s2⟩ := r.lst e2
      exact .inr (.inl ⟨p1, p2, xs, ys, rep_ref.mp rv, rep_ref.mp ru, h1, h2, by rw [s1.length, s2.length]; exact q.1, fun p hpn => hp.lst r (s1.append s2) q.2 hpn⟩)
    · exact q.elim
  · exact q.elim
/-- -a -/
@[simp] def gNeg : Dv → Store → DK → Prop := fun d S P => match d with | .int i => P (.int (-i)) S | _ => False
@[simp] def dUn (g : Dv → Store → DK → Prop) (ta : DTE) : DTE := fun δ S P => ta δ S fun d S1 => g d S1 P
theorem de_neg (ha : DE X H0 a ta) : DE X H0 (.UnaryOp .USub a pos) (dUn gNeg ta) := (pe_un un_neg ha).to fun σ H Q h => by
  obtain ⟨δ, S, P, w, ht, hp⟩ := h
  refine ⟨δ, S, _, w, ht, fun d S1 q v H1 k1 r1 p1 => ?_⟩
  unfold gNeg at q
  split at q
  · exact ⟨_, rep_int.mp p1, hp _ _ q _ _ k1 r1 (rep_int.mpr rfl)⟩
  · exact q.elim

/-! ### comparisons -/
@[simp] def gCmp (f : Int → Int → Bool) : G2 := gI0 fun i j => .bl (f i j)
theorem bin_cmp {K : PySem.W.Frag} {f : Int → Int → Bool} : Bin K (gCmp f) (rI0 fun i j => .bl (f i j)) := bin_I0 fun _ _ _ => rep_bl.mpr rfl
theorem c_lt : OpG X (compareOp .Lt) ((gCmp fun i j => decide (i < j))) := ⟨_, op_lt, bin_cmp⟩
theorem c_le : OpG X (compareOp .LtE) ((gCmp fun i j => decide (i ≤ j))) := ⟨_, op_le, bin_cmp⟩
theorem c_gt : OpG X (compareOp .Gt) ((gCmp fun i j => decide (j < i))) := ⟨_, op_gt, bin_cmp⟩
theorem c_ge : OpG X (compareOp .GtE) ((gCmp fun i j => decide (j ≤ i))) := ⟨_, op_ge, bin_cmp⟩
end
end Sb

/-! Rules over data: tests, equality, displays, subscripts, calls. -/
namespace Sb
open PySem PySem.Spec L2

/-! ### what a value is as data -/
mutual
@[simp] def datE (f : Addr → Option PyData) : Dv → Option PyData
  | .non => some .none
  | .bl b => some (.bool b)
  | .int i => some (.int i)
  | .str x => some (.str x)
  | .ty _ => none
  | .ref a => f a
  | .tup ds => (datEs f ds).map .tuple
  | .scr ns => some (.list (ns.map .int))
@[simp] def datEs (f : Addr → Option PyData) : List Dv → Option (List PyData)
  | [] => some []
  | d :: ds => (datE f d).bind fun x => (datEs f ds).map fun xs => x :: xs
end
def res (S : Store) : Nat → Addr → Option PyData
  | 0, _ => none
  | n + 1, a => match S a with
    | some (.lst ds) => (datEs (res S n) ds).map .list
    | _ => none
/-- the data of a value, lists in lists at most four deep -/
def dat (S : Store) (d : Dv) : Option PyData := datE (res S 4) d
section
variable {K : PySem.W.Frag} {H0 : Hp} {S : Store} {H : Hp}
theorem dp_ints : ∀ ns : List Int, DpAll K H (ns.map V.int) (ns.map PyData.int)
  | [] => .nil
  | n :: ns => .cons (.int n) (dp_ints ns)
mutual
theorem dp_of {f : Addr → Option PyData} (hf : ∀ a x, f a = some x → Dp K H (.ref a) x) : ∀ (d : Dv) (v : V) (x : PyData), datE f d = some x → Rep K H d v → Dp K H v x
  | .non, v, x, e, r => by simp only [datE, Option.some.injEq] at e; rw [rep_non.mp r, ← e]; exact .non
  | .bl b, v, x, e, r => by simp only [datE, Option.some.injEq] at e; rw [rep_bl.mp r, ← e]; exact .bl b
  | .int b, v, x, e, r => by simp only [datE, Option.some.injEq] at e; rw [rep_int.mp r, ← e]; exact .int b
  | .str b, v, x, e, r => by simp only [datE, Option.some.injEq] at e; rw [rep_str.mp r, ← e]; exact .str b
  | .ty n, v, x, e, r => by simp [datE] at e
  | .ref a, v, x, e, r => by simp only [datE] at e; rw [rep_ref.mp r]; exact hf a x e
  | .scr ns, v, x, e, r => by
    simp only [datE, Option.some.injEq] at e
    obtain ⟨a, rfl, q⟩ := rep_scr.mp r
    rw [← e]; exact .lst q.l (dp_ints ns)
  | .tup ds, v, x, e, r => by
    simp only [datE] at e
    obtain ⟨xs, e1, rfl⟩ := Option.map_eq_some_iff.mp e
    obtain ⟨a, ys, rfl, q, rs⟩ := rep_tup.mp r
    exact .tup q (dps_of hf ds ys xs e1 rs)
theorem dps_of {f : Addr → Option PyData} (hf : ∀ a x, f a = some x → Dp K H (.ref a) x) : ∀ (ds : List Dv) (vs : List V) (xs : List PyData), datEs f ds = some xs → Reps K H ds vs → DpAll K H vs xs
  | [], vs, xs, e, r => by simp only [datEs, Option.some.injEq] at e; rw [r.nil_inv, ← e]; exact .nil
  | d :: ds, vs, xs, e, r => by
    simp only [datEs] at e
    obtain ⟨x, e1, e2⟩ := Option.bind_eq_some_iff.mp e
    obtain ⟨xs', e3, rfl⟩ := Option.map_eq_some_iff.mp e2
    obtain ⟨y, ys, rfl, r1, r2⟩ := r.cons_inv
    exact .cons (dp_of hf d y x e1 r1) (dps_of hf ds ys xs' e3 r2)
end
theorem dp_res (r : Rel K S H) : ∀ (n : Nat) (a : Addr) (x : PyData), res S n a = some x → Dp K H (.ref a) x
  | 0, _, _, e => by simp [res] at e
  | n + 1, a, x, e => by
    simp only [res] at e
    split at e
    · rename_i ds e0
      obtain ⟨xs, e1, rfl⟩ := Option.map_eq_some_iff.mp e
      obtain ⟨ys, h, rs⟩ := r.lst e0
      exact .lst (.of h) (dps_of (dp_res r n) ds ys xs e1 rs)
    · cases e
theorem dp_dat (r : Rel K S H) {d : Dv} {v : V} {x : PyData} (e : dat S d = some x) (p : Rep K H d v) : Dp K H v x := dp_of (dp_res r 4) d v x e p
end

section
variable {X : Cx} {H0 : Hp} {a b c : Expr} {ta tb tc : DTE} {pos : Pos}
/-! ### ==, in -/
/-- values that the rule of scalars compares -/
def scl : Dv → Dv → Bool
  | .non, .non => true | .non, .int _ => true | .int _, .non => true | .non, .bl _ => true | .bl _, .non => true | .non, .str _ => true | .str _, .non => true
  | .int _, .int _ => true | .bl _, .bl _ => true | .str _, .str _ => true | .int _, .str _ => true | .str _, .int _ => true | .bl _, .str _ => true | .str _, .bl _ => true
  | _, _ => false
theorem scl_rep {K : PySem.W.Frag} {H : Hp} {d e : Dv} {v u : V} (h : scl d e = true) (r1 : Rep K H d v) (r2 : Rep K H e u) : scal v u = true ∧ (v = u ↔ d = e) := by
  cases d <;> cases e <;> first | exact absurd (show false = true from h) Bool.false_ne_true | skip
  all_goals first
    | (have r1 := rep_non.mp r1) | (have r1 := rep_bl.mp r1) | (have r1 := rep_int.mp r1) | (have r1 := rep_str.mp r1)
  all_goals first
    | (have r2 := rep_non.mp r2) | (have r2 := rep_bl.mp r2) | (have r2 := rep_int.mp r2) | (have r2 := rep_str.mp r2)
  all_goals subst r1 r2; simp [scal]
open Classical in
def gEqF (f : Bool → Bool) : G2 := fun d e S P => if scl d e = true then P (.bl (f (decide (d = e)))) S else match dat S d, dat S e with
  | some x, some y => SeqAt.shaped x = true ∧ SeqAt.shaped y = true ∧ P (.bl (f (PyData.eqv x y))) S
  | _, _ => False
abbrev gEq : G2 := gEqF id
abbrev gNe : G2 := gEqF not
open Classical in
theorem c_eq (hu : X.A.units + 64 < cLine) : OpG X (compareOp .Eq) gEq := ⟨_, op_eq.or (op_eqD hu), fun d e S P q v u H Q r rv ru hp => by
  unfold gEq gEqF at q
  split at q
  · rename_i h
    obtain ⟨h1, h2⟩ := scl_rep h rv ru
    refine .inl ⟨h1, hp _ _ q _ _ .refl r (rep_bl.mpr ?_)⟩
    simp [h2]
  split at q
  · rename_i x y e1 e2
    exact .inr ⟨x, y, dp_dat r e1 rv, dp_dat r e2 ru, q.1, q.2.1, hp _ _ q.2.2 _ _ .refl r (rep_bl.mpr rfl)⟩
  · exact q.elim⟩
open Classical in
theorem c_ne (hu : X.A.units + 64 < cLine) : OpG X (compareOp .NotEq) gNe := ⟨_, op_ne.or (op_neD hu), fun d e S P q v u H Q r rv ru hp => by
  unfold gNe gEqF at q
  split at q
  · rename_i h
    obtain ⟨h1, h2⟩ := scl_rep h rv ru
    refine .inl ⟨h1, hp _ _ q _ _ .refl r (rep_bl.mpr ?_)⟩
    simp [h2]
  split at q
  · rename_i x y e1 e2
    exact .inr ⟨x, y, dp_dat r e1 rv, dp_dat r e2 ru, q.1, q.2.1, hp _ _ q.2.2 _ _ .refl r (rep_bl.mpr rfl)⟩
  · exact q.elim⟩
/-- in a list or a tuple -/
def gInF (f : Bool → Bool) : G2 := fun d e S P => match dat S d, dat S e with
  | some x, some (.list ys) => SeqAt.shaped x = true ∧ SeqAt.shaped (.list ys) = true ∧ P (.bl (f (ys.any fun z => PyData.eqv z x))) S
  | some x, some (.tuple ys) => SeqAt.shaped x = true ∧ SeqAt.shaped (.tuple ys) = true ∧ P (.bl (f (ys.any fun z => PyData.eqv z x))) S
  | _, _ => False
def rInT (f : Bool → Bool) (K : PySem.W.Frag) : R2 := fun x y H Q => ∃ d ds, Dp K H x d ∧ Dp K H y (.tuple ds) ∧ SeqAt.shaped d = true ∧ SeqAt.shaped (.tuple ds) = true ∧ Q (.bl (f (ds.any fun z => PyData.eqv z d))) H
theorem o_inT (hu : X.A.units + 65 < cLine) : OpR X (compareOp .In) (rInT id X.K) := by
  intro pins s σ H x y v u Q I rx ry h
  obtain ⟨d, ds, hd, he, sd, se, q⟩ := h
  obtain ⟨_, r1⟩ := Dp.reads I d x v hd rx
  obtain ⟨_, r2⟩ := Dp.reads I (.tuple ds) y u he ry
  refine SeqAt.in_tuple_reads r2 r1 (SeqAt.canLay_of_shaped se) (SeqAt.canLay_of_shaped sd) ?_ ⟨.bl _, H, I, rfl, q⟩
  exact PyProof.Rows.room_in_shaped sd hu
theorem o_notInT (hu : X.A.units + 65 < cLine) : OpR X (compareOp .NotIn) (rInT not X.K) := by
  intro pins s σ H x y v u Q I rx ry h
  obtain ⟨d, ds, hd, he, sd, se, q⟩ := h
  obtain ⟨_, r1⟩ := Dp.reads I d x v hd rx
  obtain ⟨_, r2⟩ := Dp.reads I (.tuple ds) y u he ry
  refine SeqAt.notIn_tuple_reads r2 r1 (SeqAt.canLay_of_shaped se) (SeqAt.canLay_of_shaped sd) ?_ ⟨.bl _, H, I, rfl, q⟩
  exact PyProof.Rows.room_in_shaped sd hu
theorem c_in (hu : X.A.units + 65 < cLine) : OpG X (compareOp .In) (gInF id) := ⟨_, (op_inD hu).or (o_inT hu), fun d e S P q v u H Q r rv ru hp => by
  unfold gInF at q
  split at q
  · rename_i x y e1 e2
    exact .inl ⟨x, y, dp_dat r e1 rv, dp_dat r e2 ru, q.1, q.2.1, hp _ _ q.2.2 _ _ .refl r (rep_bl.mpr rfl)⟩
  · rename_i x y e1 e2
    exact .inr ⟨x, y, dp_dat r e1 rv, dp_dat r e2 ru, q.1, q.2.1, hp _ _ q.2.2 _ _ .refl r (rep_bl.mpr rfl)⟩
  · exact q.elim⟩
theorem c_notIn (hu : X.A.units + 65 < cLine) : OpG X (compareOp .NotIn) (gInF not) := ⟨_, (op_notInD hu).or (o_notInT hu), fun d e S P q v u H Q r rv ru hp => by
  unfold gInF at q
  split at q
  · rename_i x y e1 e2
    exact .inl ⟨x, y, dp_dat r e1 rv, dp_dat r e2 ru, q.1, q.2.1, hp _ _ q.2.2 _ _ .refl r (rep_bl.mpr rfl)⟩
  · rename_i x y e1 e2
    exact .inr ⟨x, y, dp_dat r e1 rv, dp_dat r e2 ru, q.1, q.2.1, hp _ _ q.2.2 _ _ .refl r (rep_bl.mpr rfl)⟩
  · exact q.elim⟩

/-! ### tests -/
/-- a truth value as a test -/
@[simp] def dB (t : DTE) : DTT := fun δ S P => t δ S fun d S1 => match d with | .bl c => P c S1 | _ => False
theorem b_lift {K : PySem.W.Frag} {t : DTE} : ∀ σ H Q, liftT K H0 (dB t) σ H Q → tB (liftE K H0 t) σ H Q := fun σ H Q h => by
  obtain ⟨δ, S, P, w, ht, hp⟩ := h
  refine ⟨δ, S, _, w, ht, fun d S1 q v H1 k1 r1 p1 => ?_⟩
  split at q
  · exact ⟨_, rep_bl.mp p1, hp _ _ q _ k1 r1⟩
  · exact q.elim
theorem dt_val {e : Expr} {t : DTE} (h : DE X H0 e t) (he : ∀ whole, isTrue e X.env whole = (do let v ← whole; standAt e.pos; holding [v] (truthy v)) := by intro _; rfl) : DT X H0 e (dB t) := (pt_val h he).to b_lift
theorem dt_cmp {op : CmpOp} {g : G2} (o : OpG X (compareOp op) g) (ha : DE X H0 a ta) (hb : DE X H0 b tb) (h1 : behindInMarks op b = false := by first | exact nobehind _ (by decide) (by decide) | rfl) : DT X H0 (.Compare a [op] [b] pos) (dB (dBin g ta tb)) :=
  let ⟨_, h1', h2⟩ := o
  (pt_cmpR h1' ha hb h1).to fun σ H Q h => by
    obtain ⟨δ, S, P, w, ht, hp⟩ := h
    refine bin_lift h2 σ H _ ⟨δ, S, _, w, ht, fun d S1 q v H1 k1 r1 p1 => ?_⟩
    split at q
    · exact ⟨_, rep_bl.mp p1, hp _ _ q _ k1 r1⟩
    · exact q.elim
@[simp] def dChain (g g' : G2) (ta tb tc : DTE) : DTE := fun δ S P => ta δ S fun x S1 => tb δ S1 fun y S2 => g x y S2 fun z S3 => match z with
  | .bl true => tc δ S3 fun w S4 => g' y w S4 P
  | .bl false => P (.bl false) S3
  | _ => False
theorem chain_lift {K : PySem.W.Frag} {g g' : G2} {r r' : R2} (h : Bin K g r) (h' : Bin K g' r') : ∀ σ H Q, liftE K H0 (dChain g g' ta tb tc) σ H Q → tChain r r' (liftE K H0 ta) (liftE K H0 tb) (liftE K H0 tc) σ H Q := fun σ H Q q => by
  obtain ⟨δ, S, P, w, ht, hp⟩ := q
  refine ⟨δ, S, _, w, ht, fun d S1 q1 v H1 k1 r1 p1 => ⟨δ, S1, _, w.keep k1 r1, q1, fun e S2 q2 u H2 k2 r2 p2 => ?_⟩⟩
  refine h d e S2 _ q2 v u H2 _ r2 (p1.keep k2) p2 fun z S3 q3 zv H3 k3 r3 p3 => ?_
  dsimp only at q3
  split at q3
  · exact ⟨true, rep_bl.mp p3, δ, S3, _, (w.keep (k1.trans (k2.trans k3)) r3), q3, fun e4 S4 q4 v4 H4 k4 r4 p4 =>
      h' e e4 S4 P q4 u v4 H4 Q r4 (p2.keep (k3.trans k4)) p4 (hp.keep (k1.trans (k2.trans (k3.trans k4))))⟩
  · exact ⟨false, rep_bl.mp p3, hp _ _ q3 _ _ (k1.trans (k2.trans k3)) r3 (rep_bl.mpr rfl)⟩
  · exact q3.elim
theorem de_chain {op op' : CmpOp} {g g' : G2} (o : OpG X (compareOp op) g) (o' : OpG X (compareOp op') g') (ha : DE X H0 a ta) (hb : DE X H0 b tb) (hc : DE X H0 c tc) (hm : lastMarks [op, op'] [b, c] = false := by with_unfolding_all rfl) :
    DE X H0 (.Compare a [op, op'] [b, c] pos) (dChain g g' ta tb tc) := let ⟨_, h1, h2⟩ := o; let ⟨_, h1', h2'⟩ := o'; (pe_chain h1 h1' ha hb hc hm).to (chain_lift h2 h2')
theorem dt_chain {op op' : CmpOp} {g g' : G2} (o : OpG X (compareOp op) g) (o' : OpG X (compareOp op') g') (ha : DE X H0 a ta) (hb : DE X H0 b tb) (hc : DE X H0 c tc) (hm : lastMarks [op, op'] [b, c] = false := by with_unfolding_all rfl) :
    DT X H0 (.Compare a [op, op'] [b, c] pos) (dB (dChain g g' ta tb tc)) := let ⟨_, h1, h2⟩ := o; let ⟨_, h1', h2'⟩ := o'; (pt_chain h1 h1' ha hb hc hm).to fun σ H Q h => by
    obtain ⟨δ, S, P, w, ht, hp⟩ := h
    refine chain_lift h2 h2' σ H _ ⟨δ, S, _, w, ht, fun d S1 q v H1 k1 r1 p1 => ?_⟩
    split at q
    · exact ⟨_, rep_bl.mp p1, hp _ _ q _ k1 r1⟩
    · exact q.elim
variable {tA tB' : DTT} {rest : List Expr}
@[simp] def dAnd (t u : DTT) : DTT := fun δ S P => t δ S fun c S1 => if c = true then u δ S1 P else P false S1
@[simp] def dOr (t u : DTT) : DTT := fun δ S P => t δ S fun c S1 => if c = true then P true S1 else u δ S1 P
@[simp] def dNot (t : DTT) : DTT := fun δ S P => t δ S fun c S1 => P (!c) S1
theorem dw_and1 (ha : DT X H0 a tA) : DW X H0 (.BoolOp .And [a] pos) tA := pw_and1 ha
theorem dw_or1 (ha : DT X H0 a tA) : DW X H0 (.BoolOp .Or [a] pos) tA := pw_or1 ha
theorem dw_and (ha : DT X H0 a tA) (hb : DW X H0 (.BoolOp .And (b :: rest) pos) tB') : DW X H0 (.BoolOp .And (a :: b :: rest) pos) (dAnd tA tB') := (pw_and ha hb).to fun σ H Q h => by
  obtain ⟨δ, S, P, w, ht, hp⟩ := h
  refine ⟨δ, S, _, w, ht, fun c S1 q H1 k1 r1 => ?_⟩
  cases c with
  | true => exact ⟨δ, S1, P, w.keep k1 r1, q, fun b S2 p H2 k2 r2 => hp b S2 p H2 (k1.trans k2) r2⟩
  | false => exact hp _ _ q _ k1 r1
theorem dw_or (ha : DT X H0 a tA) (hb : DW X H0 (.BoolOp .Or (b :: rest) pos) tB') : DW X H0 (.BoolOp .Or (a :: b :: rest) pos) (dOr tA tB') := (pw_or ha hb).to fun σ H Q h => by
  obtain ⟨δ, S, P, w, ht, hp⟩ := h
  refine ⟨δ, S, _, w, ht, fun c S1 q H1 k1 r1 => ?_⟩
  cases c with
  | false => exact ⟨δ, S1, P, w.keep k1 r1, q, fun b S2 p H2 k2 r2 => hp b S2 p H2 (k1.trans k2) r2⟩
  | true => exact hp _ _ q _ k1 r1
theorem dt_not (ha : DT X H0 a tA) : DT X H0 (.UnaryOp .Not a pos) (dNot tA) := (pt_not ha).to fun σ H Q h => by
  obtain ⟨δ, S, P, w, ht, hp⟩ := h
  exact ⟨δ, S, _, w, ht, fun c S1 q H1 k1 r1 => hp _ _ q _ k1 r1⟩
/-- and, or, not as values: all parts truth values -/
@[simp] def dAndV (t u : DTE) : DTE := fun δ S P => t δ S fun d S1 => match d with | .bl true => u δ S1 P | .bl false => P (.bl false) S1 | _ => False
@[simp] def dOrV (t u : DTE) : DTE := fun δ S P => t δ S fun d S1 => match d with | .bl false => u δ S1 P | .bl true => P (.bl true) S1 | _ => False
@[simp] def dNotV (t : DTE) : DTE := fun δ S P => t δ S fun d S1 => match d with | .bl c => P (.bl (!c)) S1 | _ => False
theorem de_one {op} (h : DE X H0 a ta) : DE X H0 (.BoolOp op [a] pos) ta := pe_one h
theorem de_and (ha : DE X H0 a ta) (hb : DE X H0 (.BoolOp .And (b :: rest) pos) tb) : DE X H0 (.BoolOp .And (a :: b :: rest) pos) (dAndV ta tb) := (pe_and ha hb).to fun σ H Q h => by
  obtain ⟨δ, S, P, w, ht, hp⟩ := h
  refine ⟨δ, S, _, w, ht, fun d S1 q v H1 k1 r1 p1 => ?_⟩
  split at q
  · exact ⟨true, rep_bl.mp p1, δ, S1, P, w.keep k1 r1, q, hp.keep k1⟩
  · exact ⟨false, rep_bl.mp p1, hp _ _ q _ _ k1 r1 (rep_bl.mpr rfl)⟩
  · exact q.elim
theorem de_or (ha : DE X H0 a ta) (hb : DE X H0 (.BoolOp .Or (b :: rest) pos) tb) : DE X H0 (.BoolOp .Or (a :: b :: rest) pos) (dOrV ta tb) := (pe_or ha hb).to fun σ H Q h => by
  obtain ⟨δ, S, P, w, ht, hp⟩ := h
  refine ⟨δ, S, _, w, ht, fun d S1 q v H1 k1 r1 p1 => ?_⟩
  split at q
  · exact ⟨false, rep_bl.mp p1, δ, S1, P, w.keep k1 r1, q, hp.keep k1⟩
  · exact ⟨true, rep_bl.mp p1, hp _ _ q _ _ k1 r1 (rep_bl.mpr rfl)⟩
  · exact q.elim
theorem de_not (ha : DE X H0 a ta) : DE X H0 (.UnaryOp .Not a pos) (dNotV ta) := (pe_not ha).to fun σ H Q h => by
  obtain ⟨δ, S, P, w, ht, hp⟩ := h
  refine ⟨δ, S, _, w, ht, fun d S1 q v H1 k1 r1 p1 => ?_⟩
  split at q
  · exact ⟨_, rep_bl.mp p1, hp _ _ q _ _ k1 r1 (rep_bl.mpr rfl)⟩
  · exact q.elim
@[simp] def dIf (t : DTT) (u v : DTE) : DTE := fun δ S P => t δ S fun c S1 => if c = true then u δ S1 P else v δ S1 P
theorem de_if (hc : DT X H0 c tA) (ha : DE X H0 a ta) (hb : DE X H0 b tb) : DE X H0 (.IfExp c a b pos) (dIf tA ta tb) := (pe_ifExp hc ha hb).to fun σ H Q h => by
  obtain ⟨δ, S, P, w, ht, hp⟩ := h
  refine ⟨δ, S, _, w, ht, fun c S1 q H1 k1 r1 => ?_⟩
  cases c with
  | true => exact ⟨δ, S1, P, w.keep k1 r1, q, hp.keep k1⟩
  | false => exact ⟨δ, S1, P, w.keep k1 r1, q, hp.keep k1⟩
/-- is None, is not None -/
def gIsN (f : Bool → Bool) : G2 := fun d e S P => match d, e with
  | .non, .non => P (.bl (f true)) S
  | _, .non => P (.bl (f false)) S
  | _, _ => False

/-! ### argument lists, displays -/
@[simp] def dNil : DTA := fun _ S P => P [] S
@[simp] def dCons (t : DTE) (u : DTA) : DTA := fun δ S P => t δ S fun d S1 => u δ S1 fun ds S2 => P (d :: ds) S2
variable {e : Expr} {es : List Expr} {te : DTE} {t : DTA}
theorem da_nil : DA X H0 [] dNil := pa_nil.to fun σ H Q h => by
  obtain ⟨δ, S, P, w, ht, hp⟩ := h
  exact hp _ _ ht _ _ .refl w.rel .nil
theorem da_cons (ha : DE X H0 e te) (hr : DA X H0 es t) (hs : starEach (e :: es) X.env = (false, eval e X.env) :: starEach es X.env := by rfl) : DA X H0 (e :: es) (dCons te t) := (pa_cons ha hr hs).to fun σ H Q h => by
  obtain ⟨δ, S, P, w, ht, hp⟩ := h
  exact ⟨δ, S, _, w, ht, fun d S1 q v H1 k1 r1 p1 => ⟨δ, S1, _, w.keep k1 r1, q, fun ds S2 q2 vs H2 k2 r2 p2 => hp _ _ q2 _ _ (k1.trans k2) r2 (.cons (p1.keep k2) p2)⟩⟩
@[simp] def dTup (t : DTA) : DTE := fun δ S P => t δ S fun ds S1 => ds.length ≤ sizeLine ∧ P (.tup ds) S1
@[simp] def dLst (t : DTA) : DTE := fun δ S P => t δ S fun ds S1 => ds.length ≤ sizeLine ∧ ∀ l, S1 l = none → P (.ref l) (up S1 l (.lst ds))
theorem de_tup {x1} (h : DA X H0 es t) : DE X H0 (.Tuple es x1 pos) (dTup t) := (pe_tup h).to fun σ H Q q => by
  obtain ⟨δ, S, P, w, ht, hp⟩ := q
  exact ⟨δ, S, _, w, ht, fun ds S1 q vs H1 k1 r1 p1 => ⟨by rw [p1.length]; exact q.1, fun p hpn => (hp.keep k1).tup r1 p1 q.2 hpn⟩⟩
theorem de_lst (h : DA X H0 es t) : DE X H0 (.List es pos) (dLst t) := (pe_lst h).to fun σ H Q q => by
  obtain ⟨δ, S, P, w, ht, hp⟩ := q
  exact ⟨δ, S, _, w, ht, fun ds S1 q vs H1 k1 r1 p1 => ⟨by rw [p1.length]; exact q.1, fun p hpn => (hp.keep k1).lst r1 p1 q.2 hpn⟩⟩

/-! ### subscripts -/
/-- the items of a sequence -/
@[simp] def sq (S : Store) : Dv → Option (List Dv)
  | .tup ds => some ds
  | .ref a => match S a with | some (.lst ds) => some ds | _ => none
  | .scr ns => some (ns.map .int)
  | _ => none
@[simp] def gIx : G2 := fun d e S P => match sq S d, e with
  | some ds, .int i => (match atI ds i with | some x => P x S | none => False)
  | _, _ => False
theorem sq_seq {K : PySem.W.Frag} {S : Store} {H : Hp} {d : Dv} {v : V} {ds : List Dv} (r : Rel K S H) (e : sq S d = some ds) (p : Rep K H d v) : ∃ a xs, v = .ref a ∧ (SqL K H a xs ∨ SqT K H a xs) ∧ Reps K H ds xs := by
  cases d with
  | tup ds' => simp only [sq, Option.some.injEq] at e; subst e; obtain ⟨a, xs, rfl, q, rs⟩ := rep_tup.mp p; exact ⟨a, xs, rfl, .inr q, rs⟩
  | ref a =>
    simp only [sq] at e
    split at e
    · rename_i ds' e0; simp only [Option.some.injEq] at e; subst e
      obtain ⟨xs, h, rs⟩ := r.lst e0
      exact ⟨a, xs, rep_ref.mp p, .inl (.of h), rs⟩
    · cases e
  | scr ns => simp only [sq, Option.some.injEq] at e; subst e; obtain ⟨a, rfl, q⟩ := rep_scr.mp p; exact ⟨a, _, rfl, .inl q.l, Reps.ints ns⟩
  | _ => simp [sq] at e
theorem reps_at {K : PySem.W.Frag} {H : Hp} {ds : List Dv} {xs : List V} {i : Int} {x : Dv} (rs : Reps K H ds xs) (e : atI ds i = some x) : ∃ y, atI xs i = some y ∧ Rep K H x y := by
  unfold atI at e ⊢
  rw [rs.length]
  obtain ⟨j, e1, e2⟩ := Option.bind_eq_some_iff.mp e
  obtain ⟨y, e3, r⟩ := rs.get e2
  exact ⟨y, by rw [e1]; exact e3, r⟩
theorem ix_lift {K : PySem.W.Frag} : Bin K gIx (fun x y H Q => rIxL K x y H Q ∨ rIxT K x y H Q) := fun d e S P q v u H Q r rv ru hp => by
  unfold gIx at q
  split at q
  · rename_i ds i e0
    split at q
    · rename_i x e1
      obtain ⟨a, xs, rfl, hq, rs⟩ := sq_seq r e0 rv
      obtain ⟨y, e2, ry⟩ := reps_at rs e1
      have fin := hp _ _ q _ _ .refl r ry
      rcases hq with hq | hq
      · exact .inl ⟨a, xs, i, y, rfl, rep_int.mp ru, hq, e2, fin⟩
      · exact .inr ⟨a, xs, i, y, rfl, rep_int.mp ru, hq, e2, fin⟩
    · exact q.elim
  · exact q.elim
theorem de_ix (ha : DE X H0 a ta) (hb : DE X H0 b tb) (hs : PlainIx b := by exact fun _ _ => rfl) : DE X H0 (.Subscript a b pos) (dBin gIx ta tb) := (pe_ix (ix_list.or ix_tup) ha hb hs).to (bin_lift ix_lift)
/-! slices -/
abbrev DTO := DSt → Store → (Option Int → Store → Prop) → Prop
def liftO (K : PySem.W.Frag) (H0 : Hp) (t : DTO) : TO := fun σ H Q => ∃ δ S P, Wd K H0 σ δ S H ∧ t δ S P ∧ ∀ b S', P b S' → ∀ H', Keep K H H' → Rel K S' H' → Q b H'
@[simp] def dNoPart : DTO := fun _ S P => P none S
@[simp] def dPart (t : DTE) : DTO := fun δ S P => t δ S fun d S1 => match d with | .int i => P (some i) S1 | _ => False
theorem _root_.L2.PO.to {X : Cx} {e : Option Expr} {t t' : TO} (h : PO X e t) (i : ∀ σ H Q, t' σ H Q → t σ H Q) : PO X e t' := ⟨fun pins s σ H Q I q => h.run pins s σ H Q I (i σ H Q q)⟩
theorem do_none : PO X none (liftO X.K H0 dNoPart) := po_none.to fun σ H Q h => by
  obtain ⟨δ, S, P, w, ht, hp⟩ := h
  exact hp _ _ ht _ .refl w.rel
theorem do_some (h : DE X H0 e te) : PO X (some e) (liftO X.K H0 (dPart te)) := (po_some h).to fun σ H Q h => by
  obtain ⟨δ, S, P, w, ht, hp⟩ := h
  refine ⟨δ, S, _, w, ht, fun d S1 q v H1 k1 r1 p1 => ?_⟩
  split at q
  · exact ⟨_, rep_int.mp p1, hp _ _ q _ k1 r1⟩
  · exact q.elim
/-- the items of a slice -/
def cutD (xs : List Dv) (lo hi : Option Int) : List Dv := (xs.drop (HT.sIx xs.length 0 lo)).take (HT.sIx xs.length xs.length hi - HT.sIx xs.length 0 lo)
theorem cutD_length (xs : List Dv) (lo hi : Option Int) : (cutD xs lo hi).length ≤ xs.length := by unfold cutD; rw [List.length_take, List.length_drop]; omega
theorem reps_cut {K : PySem.W.Frag} {H : Hp} {ds : List Dv} {xs : List V} (r : Reps K H ds xs) (lo hi : Option Int) : Reps K H (cutD ds lo hi) (cutV xs lo hi) := by
  unfold cutD cutV
  rw [r.length]
  exact (r.drop _).take _
@[simp] def gSl (d : Dv) (lo hi : Option Int) (S : Store) (P : DK) : Prop := match d with
  | .tup ds => P (.tup (cutD ds lo hi)) S
  | .ref a => match S a with | some (.lst ds) => ∀ l, S l = none → P (.ref l) (up S l (.lst (cutD ds lo hi))) | _ => False
  | .scr ns => ∀ l, S l = none → P (.ref l) (up S l (.lst (cutD (ns.map .int) lo hi)))
  | _ => False
@[simp] def dSl (te : DTE) (tl th : DTO) : DTE := fun δ S P => te δ S fun d S1 => tl δ S1 fun lo S2 => th δ S2 fun hi S3 => gSl d lo hi S3 P
theorem de_sl {lo hi : Option Expr} {tl th : DTO} {p2 : Pos} (he : DE X H0 e te) (hl : PO X lo (liftO X.K H0 tl)) (hh : PO X hi (liftO X.K H0 th)) : DE X H0 (.Subscript e (.Slice lo hi none p2) pos) (dSl te tl th) :=
  (pe_slice (sl_list.or sl_tupA) he hl hh).to fun σ H Q h => by
  obtain ⟨δ, S, P, w, ht, hp⟩ := h
  refine ⟨δ, S, _, w, ht, fun d S1 q v H1 k1 r1 p1 => ⟨δ, S1, _, w.keep k1 r1, q, fun l S2 q2 H2 k2 r2 => ⟨δ, S2, _, w.keep (k1.trans k2) r2, q2, fun u S3 q3 H3 k3 r3 => ?_⟩⟩⟩
  have p3 := p1.keep (k2.trans k3)
  have hp3 := hp.keep (k1.trans (k2.trans k3))
  unfold gSl at q3
  split at q3
  · obtain ⟨a, xs, rfl, hq, rs⟩ := rep_tup.mp p3
    refine .inr ⟨a, xs, rfl, hq, fun z => ?_, fun _ p hpn => hp3.tup r3 (reps_cut rs _ _) q3 hpn⟩
    refine hp3 _ _ q3 _ _ .refl r3 (rep_tup.mpr ⟨a, xs, rfl, hq, ?_⟩)
    have e : cutV xs l u = xs := by
      unfold cutV
      rw [z.1, z.2]
      simp
    have := reps_cut rs l u
    rw [e] at this
    exact this
  · split at q3
    · rename_i ds e0
      obtain ⟨xs, h, rs⟩ := r3.lst e0
      exact .inl ⟨_, xs, rep_ref.mp p3, .of h, fun p hpn => hp3.lst r3 (reps_cut rs _ _) q3 hpn⟩
    · exact q3.elim
  · obtain ⟨a, rfl, hq⟩ := rep_scr.mp p3
    exact .inl ⟨a, _, rfl, hq.l, fun p hpn => hp3.lst r3 (reps_cut (Reps.ints _) _ _) q3 hpn⟩
  · exact q3.elim

/-! ### calls of built-ins -/
abbrev GA := List Dv → Store → DK → Prop
def CallG (X : Cx) (f : Value) (g : GA) : Prop := ∃ r, CallR X f r ∧ ∀ ds S P, g ds S P → ∀ vs H Q, Rel X.K S H → Reps X.K H ds vs → PV X.K H P Q → r vs H Q
@[simp] def dCB (g : GA) (t : DTA) : DTE := fun δ S P => t δ S fun ds S1 => g ds S1 P
theorem cb_lift {r : List V → Hp → VK → Prop} {g : GA} (h : ∀ ds S P, g ds S P → ∀ vs H Q, Rel X.K S H → Reps X.K H ds vs → PV X.K H P Q → r vs H Q) : ∀ σ H Q, liftE X.K H0 (dCB g t) σ H Q → tCB r (liftA X.K H0 t) σ H Q := fun σ H Q q => by
  obtain ⟨δ, S, P, w, ht, hp⟩ := q
  exact ⟨δ, S, _, w, ht, fun ds S1 q vs H1 k1 r1 p1 => h _ _ _ q _ _ _ r1 p1 (hp.keep k1)⟩
theorem de_callB {id : String} {g : GA} {x : Str} {p : Pos} (hc : CallG X (.builtin id) g) (hg : Gl X x) (hm : X.mg x = none) (hv : bootBuiltins x = some (.builtin id)) (ha : DA X H0 (e :: es) t) (hn : x ≠ "__name__" := by decide) (hdb : (x == ("__debug__" : Str)) = false := by decide)
    (he : starEach (e :: es) X.env = (false, eval e X.env) :: starEach es X.env := by rfl) (hpl : (backTo pos (starEach es X.env)).any (·.1) = false := by rfl) : DE X H0 (.Call (.Name x p) (e :: es) [] pos) (dCB g t) :=
  let ⟨_, h1, h2⟩ := hc; (pe_callB h1 hg hm hv ha hn hdb he hpl).to (cb_lift h2)
theorem de_callTy {T : String} {g : GA} {x : Str} {p : Pos} (hc : CallG X (.type T) g) (hg : Gl X x) (hm : X.mg x = none) (hv : bootBuiltins x = some (.type T)) (ha : DA X H0 (e :: es) t) (hn : x ≠ "__name__" := by decide) (hdb : (x == ("__debug__" : Str)) = false := by decide)
    (he : starEach (e :: es) X.env = (false, eval e X.env) :: starEach es X.env := by rfl) (hpl : (backTo pos (starEach es X.env)).any (·.1) = false := by rfl) : DE X H0 (.Call (.Name x p) (e :: es) [] pos) (dCB g t) :=
  let ⟨_, h1, h2⟩ := hc; (pe_callTy h1 hg hm hv ha hn hdb he hpl).to (cb_lift h2)
/-- len of a sequence -/
@[simp] def gLen : GA := fun ds S P => match ds with
  | [d] => (match sq S d with | some xs => P (.int xs.length) S | none => False)
  | _ => False
theorem reps1 {K : PySem.W.Frag} {H : Hp} {d : Dv} {vs : List V} (r : Reps K H [d] vs) : ∃ v, vs = [v] ∧ Rep K H d v := by
  obtain ⟨y, ys, rfl, a, b⟩ := r.cons_inv
  rw [b.nil_inv]; exact ⟨y, rfl, a⟩
theorem reps2 {K : PySem.W.Frag} {H : Hp} {d e : Dv} {vs : List V} (r : Reps K H [d, e] vs) : ∃ v u, vs = [v, u] ∧ Rep K H d v ∧ Rep K H e u := by
  obtain ⟨y, ys, rfl, a, b⟩ := r.cons_inv
  obtain ⟨u, rfl, c⟩ := reps1 b
  exact ⟨y, u, rfl, a, c⟩
theorem cg_len : CallG X (.builtin "len") gLen := ⟨_, call_len_seq, fun ds S P q vs H Q r rs hp => by
  unfold gLen at q
  split at q
  · rename_i d
    split at q
    · rename_i xs e0
      obtain ⟨v, rfl, rv⟩ := reps1 rs
      obtain ⟨a, ys, rfl, hq, rs'⟩ := sq_seq r e0 rv
      exact ⟨a, ys, rfl, hq, hp _ _ q _ _ .refl r (rep_int.mpr (by rw [rs'.length]))⟩
    · exact q.elim
  · exact q.elim⟩
@[simp] def gList : GA := fun ds S P => match ds with
  | [d] => (match sq S d with | some xs => ∀ l, S l = none → P (.ref l) (up S l (.lst xs)) | none => False)
  | _ => False
theorem cg_list : CallG X (.type "list") gList := ⟨_, call_list_of, fun ds S P q vs H Q r rs hp => by
  unfold gList at q
  split at q
  · rename_i d
    split at q
    · rename_i xs e0
      obtain ⟨v, rfl, rv⟩ := reps1 rs
      obtain ⟨a, ys, rfl, hq, rs'⟩ := sq_seq r e0 rv
      exact ⟨a, ys, rfl, hq, fun l hl => hp.lst r rs' q hl⟩
    · exact q.elim
  · exact q.elim⟩
@[simp] def gTuple : GA := fun ds S P => match ds with
  | [d] => (match sq S d with | some xs => P (.tup xs) S | none => False)
  | _ => False
theorem cg_tuple : CallG X (.type "tuple") gTuple := ⟨_, call_tuple_of, fun ds S P q vs H Q r rs hp => by
  unfold gTuple at q
  split at q
  · rename_i d
    split at q
    · rename_i xs e0
      obtain ⟨v, rfl, rv⟩ := reps1 rs
      obtain ⟨a, ys, rfl, hq, rs'⟩ := sq_seq r e0 rv
      rcases hq with hq | hq
      · exact ⟨a, ys, rfl, .inl ⟨hq, fun l hl => hp.tup r rs' q hl⟩⟩
      · exact ⟨a, ys, rfl, .inr ⟨hq, hp _ _ q _ _ .refl r (rep_tup.mpr ⟨a, ys, rfl, hq, rs'⟩)⟩⟩
    · exact q.elim
  · exact q.elim⟩
/-- repr -/
def gRepr : GA := fun ds S P => match ds with
  | [d] => (match dat S d with | some x => SeqAt.shaped x = true ∧ x.showable = true ∧ x.shown.length ≤ sizeLine ∧ P (.str x.shown) S | none => False)
  | _ => False
theorem callR_repr (hg : X.A.guards = some []) (hu : X.A.units + 100 < cLine) : CallR X (.builtin "repr") (fun xs H Q => ∃ v x, xs = [v] ∧ Dp X.K H v x ∧ SeqAt.shaped x = true ∧ x.showable = true ∧ x.shown.length ≤ sizeLine ∧ Q (.str x.shown) H) := by
  intro pins s σ H xs us Q I rr h
  obtain ⟨v, x, rfl, hd, hsh, hs, hz, q⟩ := h
  obtain ⟨u, rfl, ru⟩ := rr.one
  obtain ⟨as, rd⟩ := Dp.reads I x v u hd ru
  have hnd := PyData.hasDict_of_canLay x (SeqAt.canLay_of_shaped hsh)
  have h64 := SeqAt.depth_of_shaped hsh
  have fin : ∀ (h' : Heap) (u tk : Tok), (∀ b o, s.heap.get? b = some o → h'.get? b = some o) → EP X pins σ Q (.str x.shown u) { s with heap := h', toks := tk } := fun h' u tk k => ⟨.str x.shown, H, I.kept k, ⟨_, rfl⟩, q⟩
  have go : ∀ a, u = .ref a → wpAny (model X.prog X.w) X.A (call (.builtin "repr") [.ref a]) (EP X pins σ Q) X.xe s := fun a ea => by
    subst ea
    exact repr_of_reads' (h₀ := s.heap) rd hs (PyData.noDict_hsm hnd) hg (by omega) (fun _ _ z => z) fin hz
  cases rd with
  | none => simp only [PyData.shown] at fin; exact PySem.P.repr_of_none (fin s.heap _ _ fun _ _ z => z)
  | bool b => simp only [PyData.shown] at fin; exact PySem.P.repr_of_bool (fin s.heap _ _ fun _ _ z => z)
  | int i t => simp only [PyData.shown] at fin; exact PySem.P.repr_of_int (by simpa [PyData.showable] using hs) (fin s.heap _ _ fun _ _ z => z)
  | str y t => simp only [PyData.shown] at fin; exact PySem.P.repr_of_str (fin s.heap _ _ fun _ _ z => z) (by simpa only [PyData.shown] using hz)
  | list h1 h2 h3 h4 => exact go _ rfl
  | tuple h1 h2 h3 h4 => exact go _ rfl
  | dict h1 h2 h3 h4 h5 => exact go _ rfl
theorem cg_repr (hg : X.A.guards = some []) (hu : X.A.units + 100 < cLine) : CallG X (.builtin "repr") gRepr := ⟨_, callR_repr hg hu, fun ds S P q vs H Q r rs hp => by
  unfold gRepr at q
  split at q
  · rename_i d
    split at q
    · rename_i x e0
      obtain ⟨v, rfl, rv⟩ := reps1 rs
      exact ⟨v, x, rfl, dp_dat r e0 rv, q.1, q.2.1, q.2.2.1, hp _ _ q.2.2.2 _ _ .refl r (rep_str.mpr rfl)⟩
    · exact q.elim
  · exact q.elim⟩
end
end Sb

/-! Rules over data: targets, what is walked, comprehensions, methods, dicts. -/
namespace Sb
open PySem PySem.Spec L2

/-! ### targets -/
inductive Pat where
  | nm (i : Nat)
  | tp (ps : List Pat)
mutual
/-- what a value unpacked gives -/
@[simp] def pset : Pat → Dv → DSt → Option DSt
  | .nm i, d, δ => some (δ.set i (some d))
  | .tp ps, .tup ds, δ => psets ps ds δ
  | .tp _, _, _ => none
@[simp] def psets : List Pat → List Dv → DSt → Option DSt
  | [], [], δ => some δ
  | p :: ps, d :: ds, δ => (pset p d δ).bind fun δ1 => psets ps ds δ1
  | [], _ :: _, _ => none
  | _ :: _, [], _ => none
end
mutual
def gP (K : PySem.W.Frag) : Pat → TG
  | .nm i => gName i
  | .tp ps => gTup K ps.length (gPs K ps)
def gPs (K : PySem.W.Frag) : List Pat → TGs
  | [] => gNil
  | p :: ps => gCons (gP K p) (gPs K ps)
end
mutual
/-- the slots of a target -/
def pslots : Pat → List Nat
  | .nm i => [i]
  | .tp ps => pslotss ps
def pslotss : List Pat → List Nat
  | [] => []
  | p :: ps => pslots p ++ pslotss ps
end
theorem psets_length : ∀ (ps : List Pat) (ds : List Dv) (δ δ' : DSt), psets ps ds δ = some δ' → ds.length = ps.length
  | [], [], _, _, _ => rfl
  | p :: ps, d :: ds, δ, δ', h => by
    simp only [psets] at h
    obtain ⟨δ1, _, h2⟩ := Option.bind_eq_some_iff.mp h
    simp [psets_length ps ds δ1 δ' h2]
  | [], _ :: _, _, _, h => by simp [psets] at h
  | _ :: _, [], _, _, h => by simp [psets] at h
theorem wipe_set2 {σ : St} {i : Nat} {x : Option V} : ∀ vs : List Nat, wipe (σ.set i x) vs = if i ∈ vs then wipe σ vs else (wipe σ vs).set i x
  | [] => by simp [wipe]
  | v :: vs => by
    have ih := wipe_set2 (σ := σ) (i := i) (x := x) vs
    simp only [wipe, ih, List.mem_cons]
    by_cases h : i ∈ vs
    · simp [h]
    · by_cases e : i = v
      · subst e; simp [h, List.set_set]
      · simp only [h, e, or_self, if_false]
        rw [List.set_comm _ _ e]
theorem wipe_set {σ : St} {i : Nat} {x : Option V} {vs : List Nat} (h : i ∈ vs) : wipe (σ.set i x) vs = wipe σ vs := by rw [wipe_set2, if_pos h]
section
variable {K : PySem.W.Frag} {H0 : Hp} {S : Store} {H : Hp}
mutual
theorem pset_ok : ∀ (p : Pat) (d : Dv) (x : V) (σ : St) (δ δ' : DSt), pset p d δ = some δ' → Rep K H d x → Wd K H0 σ δ S H → ∀ Q : St → Hp → Prop, (∀ σ', Wd K H0 σ' δ' S H → (∀ vs, (∀ i ∈ pslots p, i ∈ vs) → wipe σ' vs = wipe σ vs) → Q σ' H) → gP K p x σ H Q
  | .nm i, d, x, σ, δ, δ', h, r, w, Q, hq => by
    simp only [pset, Option.some.injEq] at h
    subst h
    simp only [gP, gName]
    refine hq _ (w.set r) fun vs hv => wipe_set (hv i (by simp [pslots]))
  | .tp ps, .tup ds, x, σ, δ, δ', h, r, w, Q, hq => by
    simp only [pset] at h
    obtain ⟨a, xs, rfl, q, rs⟩ := rep_tup.mp r
    simp only [gP, gTup]
    exact ⟨a, xs, rfl, q, by rw [rs.length]; exact psets_length _ _ _ _ h, psets_ok ps ds xs σ δ δ' h rs w Q fun σ' w' hs => hq σ' w' fun vs hv => hs vs fun i hi => hv i (by simpa [pslots] using hi)⟩
  | .tp _, .non, _, _, _, _, h, _, _, _, _ => by simp [pset] at h
  | .tp _, .bl _, _, _, _, _, h, _, _, _, _ => by simp [pset] at h
  | .tp _, .int _, _, _, _, _, h, _, _, _, _ => by simp [pset] at h
  | .tp _, .str _, _, _, _, _, h, _, _, _, _ => by simp [pset] at h
  | .tp _, .ty _, _, _, _, _, h, _, _, _, _ => by simp [pset] at h
  | .tp _, .ref _, _, _, _, _, h, _, _, _, _ => by simp [pset] at h
  | .tp _, .scr _, _, _, _, _, h, _, _, _, _ => by simp [pset] at h
theorem psets_ok : ∀ (ps : List Pat) (ds : List Dv) (xs : List V) (σ : St) (δ δ' : DSt), psets ps ds δ = some δ' → Reps K H ds xs → Wd K H0 σ δ S H → ∀ Q : St → Hp → Prop, (∀ σ', Wd K H0 σ' δ' S H → (∀ vs, (∀ i ∈ pslotss ps, i ∈ vs) → wipe σ' vs = wipe σ vs) → Q σ' H) → gPs K ps xs σ H Q
  | [], [], xs, σ, δ, δ', h, r, w, Q, hq => by
    simp only [psets, Option.some.injEq] at h
    subst h
    simp only [gPs, gNil]
    exact ⟨r.nil_inv, hq σ w fun _ _ => rfl⟩
  | p :: ps, d :: ds, xs, σ, δ, δ', h, r, w, Q, hq => by
    simp only [psets] at h
    obtain ⟨δ1, h1, h2⟩ := Option.bind_eq_some_iff.mp h
    obtain ⟨y, ys, rfl, r1, r2⟩ := r.cons_inv
    simp only [gPs, gCons]
    refine ⟨y, ys, rfl, pset_ok p d y σ δ δ1 h1 r1 w _ fun σ1 w1 s1 => psets_ok ps ds ys σ1 δ1 δ' h2 r2 w1 Q fun σ2 w2 s2 => hq σ2 w2 fun vs hv => ?_⟩
    rw [s2 vs fun i hi => hv i (by simp [pslotss, hi]), s1 vs fun i hi => hv i (by simp [pslotss, hi])]
  | [], _ :: _, _, _, _, _, h, _, _, _, _ => by simp [psets] at h
  | _ :: _, [], _, _, _, _, h, _, _, _, _ => by simp [psets] at h
end
end
/-- a target's text is a pattern -/
def DP (X : Cx) (tg : Expr) (p : Pat) : Prop := PG X tg (gP X.K p)
def DPs (X : Cx) (tgs : List Expr) (ps : List Pat) : Prop := PGs X tgs (gPs X.K ps)
section
variable {X : Cx} {H0 : Hp} {pos : Pos}
theorem dp_nm {i : Nat} {x : Str} (hN : X.N.Nodup) (hi : X.N[i]? = some x := by rfl) (hx : Loc X.env.scope x := by first | exact Or.inl rfl | exact Or.inr rfl) (hf : X.fn x = true ∨ X.env.scope.names.lookup x = some .local := by first | exact .inl rfl | exact .inr rfl | assumption) : DP X (.Name x pos) (.nm i) := pg_name hN hi hx hf
theorem dps_nil : DPs X [] [] := pgs_nil
theorem dps_cons {e : Expr} {es : List Expr} {p : Pat} {ps : List Pat} (h1 : DP X e p) (h2 : DPs X es ps) (hs : (assignEach (e :: es) X.env).map (·.2) = assign e X.env :: (assignEach es X.env).map (·.2) := by rfl) : DPs X (e :: es) (p :: ps) := pgs_cons h1 h2 hs
theorem dp_tp {es : List Expr} {k : Nat} {ps : List Pat} (hc : X.calm = true) (h : DPs X es ps) (hn : (assignEach es X.env).length = ps.length := by rfl) (hst : (assignEach es X.env).findIdx? (·.1) = none := by rfl) : DP X (.Tuple es k pos) (.tp ps) := pg_tup hc h hn hst
end

/-! ### what is walked -/
abbrev Grd := Store → Prop
abbrev DTI := DSt → Store → (List Dv → Grd → Store → Prop) → Prop
/-- the walk gives the items while the guard stands -/
def Serves (K : PySem.W.Frag) (H0 : Hp) (J : It) (items : List Dv) (G : Grd) : Prop := ∀ (i : Nat) (S : Store) (H : Hp), Keep K H0 H → Rel K S H → G S →
  (i = items.length → J.stop i H) ∧ ∀ d, items[i]? = some d → J.go i H ∧ ∀ x H', J.yld i H x H' → Keep K H H' ∧ Rel K S H' ∧ Rep K H' d x
def liftI (K : PySem.W.Frag) (H0 : Hp) (t : DTI) : TI := fun σ H R => ∃ δ S P, Wd K H0 σ δ S H ∧ t δ S P ∧ ∀ items G S1, P items G S1 → ∀ J H1, Keep K H H1 → Rel K S1 H1 → Serves K H1 J items G → R J H1
abbrev DI (X : Cx) (H0 : Hp) (tg iter : Expr) (t : DTI) : Prop := PI X tg iter (liftI X.K H0 t)
/-- over a list -/
@[simp] def dIL (tl : DTE) : DTI := fun δ S P => tl δ S fun d S1 => match d with
  | .ref a => (match S1 a with | some (.lst ds) => P ds (fun S => S a = some (.lst ds)) S1 | _ => False)
  | _ => False
/-- over a tuple -/
@[simp] def dIT (tl : DTE) : DTI := fun δ S P => tl δ S fun d S1 => match d with
  | .tup ds => P ds (fun _ => True) S1
  | _ => False
@[simp] def dIR1 (ta : DTA) : DTI := fun δ S P => ta δ S fun ds S1 => match ds with
  | [.int j] => -(2 ^ 62) ≤ j ∧ j < 2 ^ 62 ∧ P ((List.range j.toNat).map fun (i : Nat) => .int i) (fun _ => True) S1
  | _ => False
@[simp] def dIR2 (ta : DTA) : DTI := fun δ S P => ta δ S fun ds S1 => match ds with
  | [.int i, .int j] => (-(2 ^ 62) ≤ i ∧ i < 2 ^ 62 ∧ -(2 ^ 62) ≤ j ∧ j < 2 ^ 62) ∧ P ((List.range (j - i).toNat).map fun (k : Nat) => .int (i + k)) (fun _ => True) S1
  | _ => False
section
variable {X : Cx} {H0 : Hp} {tg l a b : Expr} {tl : DTE} {ta : DTA} {pos p : Pos}
theorem di_tup (hl : DE X H0 l tl) : DI X H0 tg l (dIT tl) := (pi_tup hl).to fun σ H R h => by
  obtain ⟨δ, S, P, w, ht, hp⟩ := h
  refine ⟨δ, S, _, w, ht, fun d S1 q v H1 k1 r1 p1 => ?_⟩
  split at q
  · rename_i ds
    obtain ⟨a, xs, rfl, hq, rs⟩ := rep_tup.mp p1
    refine ⟨a, rfl, ⟨xs, hq⟩, hp _ _ _ q _ _ k1 r1 fun i S2 H2 k2 r2 _ => ?_⟩
    have hq2 := k2.t _ _ hq
    have rs2 := Reps.keep k2 _ _ rs
    refine ⟨fun e => ⟨xs, hq2, by rw [rs.length]; omega⟩, fun d e => ?_⟩
    obtain ⟨x, ex, rx⟩ := rs2.get e
    refine ⟨⟨xs, x, hq2, ex⟩, fun y H' q => ?_⟩
    obtain ⟨rfl, q2⟩ := q
    have e2 := q2 xs hq2
    rw [ex] at e2
    cases e2
    exact ⟨.refl, r2, rx⟩
  · exact q.elim
theorem di_list (hl : DE X H0 l tl) : DI X H0 tg l (dIL tl) := (pi_list hl).to fun σ H R h => by
  obtain ⟨δ, S, P, w, ht, hp⟩ := h
  refine ⟨δ, S, _, w, ht, fun d S1 q v H1 k1 r1 p1 => ?_⟩
  split at q
  · rename_i a
    split at q
    · rename_i ds e0
      obtain ⟨xs, h, rs⟩ := r1.lst e0
      refine ⟨a, rep_ref.mp p1, ⟨xs, .of h⟩, hp _ _ _ q _ _ k1 r1 fun i S2 H2 k2 r2 g => ?_⟩
      obtain ⟨ys, h2, rs2⟩ := r2.lst g
      refine ⟨fun e => ⟨ys, .of h2, by rw [rs2.length]; omega⟩, fun d e => ?_⟩
      obtain ⟨x, ex, rx⟩ := rs2.get e
      refine ⟨⟨ys, x, .of h2, ex⟩, fun y H' q => ?_⟩
      obtain ⟨rfl, q2⟩ := q
      have e2 := q2 ys (.of h2)
      rw [ex] at e2
      cases e2
      exact ⟨.refl, r2, rx⟩
    · exact q.elim
  · exact q.elim
theorem serves_range {K : PySem.W.Frag} {H0 : Hp} {lo : Int} {n : Nat} : Serves K H0 (Itr lo n) ((List.range n).map fun (k : Nat) => .int (lo + k)) (fun _ => True) := fun i S H k r _ => by
  refine ⟨fun e => ?_, fun d e => ?_⟩
  · have e : i = n := by simpa using e
    exact Nat.le_of_eq e.symm
  · rw [List.getElem?_map] at e
    obtain ⟨j, e1, rfl⟩ := Option.map_eq_some_iff.mp e
    obtain ⟨h1, h2⟩ := List.getElem?_eq_some_iff.mp e1
    have hj : i = j := by simpa using h2
    subst hj
    have h1 : i < n := by simpa using h1
    refine ⟨h1, fun x H' q => ?_⟩
    obtain ⟨rfl, rfl⟩ := q
    exact ⟨.refl, r, rep_int.mpr rfl⟩
theorem di_range1 (hg : Gl X "range") (hm : X.mg "range" = none) (ha : DA X H0 [a] ta) (hs : starEach [a] X.env = [(false, eval a X.env)] := by rfl) : DI X H0 tg (.Call (.Name "range" p) [a] [] pos) (dIR1 ta) := (pi_range1 hg hm ha hs).to fun σ H R h => by
  obtain ⟨δ, S, P, w, ht, hp⟩ := h
  refine ⟨δ, S, _, w, ht, fun ds S1 q vs H1 k1 r1 p1 => ?_⟩
  split at q
  · rename_i j
    obtain ⟨v, rfl, rv⟩ := reps1 p1
    refine ⟨j, by rw [rep_int.mp rv], q.1, q.2.1, hp _ _ _ q.2.2 _ _ k1 r1 ?_⟩
    have := serves_range (K := X.K) (H0 := H1) (lo := 0) (n := j.toNat)
    simpa using this
  · exact q.elim
theorem di_range2 (hg : Gl X "range") (hm : X.mg "range" = none) (ha : DA X H0 [a, b] ta) (hs : starEach [a, b] X.env = [(false, eval a X.env), (false, eval b X.env)] := by rfl) (hs2 : starEach [b] X.env = [(false, eval b X.env)] := by rfl) :
    DI X H0 tg (.Call (.Name "range" p) [a, b] [] pos) (dIR2 ta) := (pi_range2 hg hm ha hs hs2).to fun σ H R h => by
  obtain ⟨δ, S, P, w, ht, hp⟩ := h
  refine ⟨δ, S, _, w, ht, fun ds S1 q vs H1 k1 r1 p1 => ?_⟩
  split at q
  · rename_i i j
    obtain ⟨v, u, rfl, rv, ru⟩ := reps2 p1
    exact ⟨i, j, by rw [rep_int.mp rv, rep_int.mp ru], q.1, hp _ _ _ q.2 _ _ k1 r1 serves_range⟩
  · exact q.elim
end
end Sb

/-! Rules over data: statements, loops, comprehensions. -/
namespace Sb
open PySem PySem.Spec L2

section
variable {X : Cx} {H0 : Hp} {st : Stmt} {rest : List Stmt} {t u : DTS} {e : Expr} {te : DTE} {pos : Pos}
@[simp] def dNext : DTS := fun D δ S => D.nx δ S
def dSeq (t u : DTS) : DTS := fun D δ S => t { D with nx := u D } δ S
/-- the store told anew between two statements -/
def VS (K : PySem.W.Frag) (S : Store) (P : Store → Prop) : Prop := ∀ H, Rel K S H → ∃ S2, Rel K S2 H ∧ P S2
theorem VS.pure {K : PySem.W.Frag} {S : Store} {P : Store → Prop} (h : P S) : VS K S P := fun H r => ⟨S, r, h⟩
theorem VS.drop {K : PySem.W.Frag} {S S' : Store} {P : Store → Prop} (hs : ∀ a o, S' a = some o → S a = some o) (h : P S') : VS K S P := fun H r => ⟨S', r.sub hs, h⟩
theorem VS.mono {K : PySem.W.Frag} {S : Store} {P P' : Store → Prop} (h : VS K S P) (hp : ∀ S', P S' → P' S') : VS K S P' := fun H r => let ⟨S2, r2, q⟩ := h H r; ⟨S2, r2, hp _ q⟩
theorem VS.bind {K : PySem.W.Frag} {S : Store} {P P' : Store → Prop} (h : VS K S P) (hp : ∀ S', P S' → VS K S' P') : VS K S P' := fun H r => let ⟨S2, r2, q⟩ := h H r; hp S2 q H r2
def dSeqV (K : PySem.W.Frag) (t u : DTS) : DTS := fun D δ S => t { D with nx := fun δ1 S1 => VS K S1 fun S2 => u D δ1 S2 } δ S
theorem dss_nil : DSs X H0 [] dNext := pss_nil.to fun D σ H h => by
  obtain ⟨δ, S, D', w, ht, hp⟩ := h
  exact hp.nx _ _ ht _ _ .refl w
theorem dss_cons (h1 : DS X H0 st t) (h2 : DSs X H0 rest u) : DSs X H0 (st :: rest) (dSeq t u) := (pss_cons h1 h2).to fun D σ H h => by
  obtain ⟨δ, S, D', w, ht, hp⟩ := h
  exact ⟨δ, S, _, w, ht, fun δ1 S1 q σ1 H1 k w1 => ⟨δ1, S1, D', w1, q, hp.keep k⟩, hp.bk, hp.ct, hp.rt⟩
theorem dss_consV (h1 : DS X H0 st t) (h2 : DSs X H0 rest u) : DSs X H0 (st :: rest) (dSeqV X.K t u) := (pss_cons h1 h2).to fun D σ H h => by
  obtain ⟨δ, S, D', w, ht, hp⟩ := h
  refine ⟨δ, S, _, w, ht, fun δ1 S1 q σ1 H1 k w1 => ?_, hp.bk, hp.ct, hp.rt⟩
  obtain ⟨S2, r2, q2⟩ := q H1 w1.rel
  exact ⟨δ1, S2, D', ⟨w1.base, r2, w1.len, w1.slot⟩, q2, hp.keep k⟩
theorem dss_one (h1 : DS X H0 st t) : DSs X H0 [st] t := pss_one h1
@[simp] def dBreak : DTS := fun D δ S => D.bk δ S
@[simp] def dCont : DTS := fun D δ S => D.ct δ S
theorem ds_pass : DS X H0 (.Pass pos) dNext := ps_pass.to fun D σ H h => by
  obtain ⟨δ, S, D', w, ht, hp⟩ := h
  exact hp.nx _ _ ht _ _ .refl w
theorem ds_break : DS X H0 (.Break pos) dBreak := ps_break.to fun D σ H h => by
  obtain ⟨δ, S, D', w, ht, hp⟩ := h
  exact hp.bk _ _ ht _ _ .refl w
theorem ds_continue : DS X H0 (.Continue pos) dCont := ps_continue.to fun D σ H h => by
  obtain ⟨δ, S, D', w, ht, hp⟩ := h
  exact hp.ct _ _ ht _ _ .refl w
@[simp] def dDrop (te : DTE) : DTS := fun D δ S => te δ S fun _ S1 => D.nx δ S1
theorem ds_expr (he : DE X H0 e te) (hs : swapsWith e none pos.line X.env = pure false := by rfl) : DS X H0 (.Expr e pos) (dDrop te) := (ps_expr he hs).to fun D σ H h => by
  obtain ⟨δ, S, D', w, ht, hp⟩ := h
  exact ⟨δ, S, _, w, ht, fun d S1 q v H1 k1 r1 p1 => hp.nx _ _ q _ _ k1 (w.keep k1 r1)⟩
@[simp] def dRet (te : DTE) : DTS := fun D δ S => te δ S D.rt
theorem ds_ret (he : DE X H0 e te) : DS X H0 (.Return (some e) pos) (dRet te) := (ps_ret he).to fun D σ H h => by
  obtain ⟨δ, S, D', w, ht, hp⟩ := h
  exact ⟨δ, S, _, w, ht, hp.rt⟩
@[simp] def dRetN : DTS := fun D _ S => D.rt .non S
theorem ds_retN : DS X H0 (.Return none pos) dRetN := ps_retN.to fun D σ H h => by
  obtain ⟨δ, S, D', w, ht, hp⟩ := h
  exact hp.rt _ _ ht _ _ .refl w.rel (rep_non.mpr rfl)
@[simp] def dIfS (c : DTT) (t u : DTS) : DTS := fun D δ S => c δ S fun b S1 => if b = true then t D δ S1 else u D δ S1
theorem ds_if {c : Expr} {a b : List Stmt} {tc : DTT} (hc : DT X H0 c tc) (ha : DSs X H0 a t) (hb : DSs X H0 b u) : DS X H0 (.If c a b pos) (dIfS tc t u) := (ps_if hc ha hb).to fun D σ H h => by
  obtain ⟨δ, S, D', w, ht, hp⟩ := h
  refine ⟨δ, S, _, w, ht, fun c S1 q H1 k1 r1 => ?_⟩
  cases c with
  | true => exact ⟨δ, S1, D', w.keep k1 r1, q, hp.keep k1⟩
  | false => exact ⟨δ, S1, D', w.keep k1 r1, q, hp.keep k1⟩
@[simp] def dNever : DTS := fun _ _ _ => False
theorem ds_never : DS X H0 st dNever := ps_never.to fun D σ H h => by
  obtain ⟨δ, S, D', w, ht, hp⟩ := h
  exact ht
/-- target = e -/
@[simp] def dAsg (te : DTE) (p : Pat) : DTS := fun D δ S => te δ S fun d S1 => match pset p d δ with | some δ1 => D.nx δ1 S1 | none => False
theorem ds_asg {tg : Expr} {p : Pat} (he : DE X H0 e te) (hg : DP X tg p) (hs : swapsWithSole [tg] e pos.line X.env = pure false := by rfl) (hw : swappedStores [tg] e X.env = pure none := by rfl)
    (h1 : (assignEach [tg] X.env).map (·.2) = [assign tg X.env] := by rfl) : DS X H0 (.Assign [tg] e pos) (dAsg te p) := (ps_asg he hg hs hw h1).to fun D σ H h => by
  obtain ⟨δ, S, D', w, ht, hp⟩ := h
  refine ⟨δ, S, _, w, ht, fun d S1 q v H1 k1 r1 p1 => ?_⟩
  split at q
  · rename_i δ1 e1
    exact pset_ok p d v σ δ δ1 e1 p1 (w.keep k1 r1) _ fun σ2 w2 _ => hp.nx _ _ q _ _ k1 w2
  · exact q.elim
/-- x = e -/
@[simp] def dSet (i : Nat) (te : DTE) : DTS := fun D δ S => te δ S fun d S1 => D.nx (δ.set i (some d)) S1
theorem ds_set {i : Nat} {x : Str} {pos' : Pos} (hN : X.N.Nodup) (he : DE X H0 e te) (hi : X.N[i]? = some x := by rfl) (hx : Loc X.env.scope x := by first | exact Or.inl rfl | exact Or.inr rfl) (hs : swapsWith e (some (.Name x pos')) pos.line X.env = pure false := by rfl)
    (hf : X.fn x = true ∨ X.env.scope.names.lookup x = some .local := by first | exact .inl rfl | exact .inr rfl | assumption) : DS X H0 (.Assign [.Name x pos'] e pos) (dSet i te) := (ps_set hN hi hx he hs hf).to fun D σ H h => by
  obtain ⟨δ, S, D', w, ht, hp⟩ := h
  exact ⟨δ, S, _, w, ht, fun d S1 q v H1 k1 r1 p1 => hp.nx _ _ q _ _ k1 ((w.keep k1 r1).set p1)⟩
/-- a, b = e1, e2 with two local names -/
@[simp] def dPar (i j : Nat) (ta : DTA) : DTS := fun D δ S => ta δ S fun ds S1 => match ds with | [d, e] => D.nx ((δ.set i (some d)).set j (some e)) S1 | _ => False
theorem ds_par {i j : Nat} {x y : Str} {a b : Expr} {ta : DTA} {px py pt : Pos} {kt k2 pt2} (hc : X.calm = true) (hN : X.N.Nodup) (ha : DA X H0 [a, b] ta) (hi : X.N[i]? = some x := by rfl) (hj : X.N[j]? = some y := by rfl) (hij : i ≠ j := by decide)
    (hx : X.env.scope.names.lookup x = some .local := by rfl) (hy : X.env.scope.names.lookup y = some .local := by rfl)
    (hw : swappedStores [.Tuple [.Name x px, .Name y py] kt pt] (.Tuple [a, b] k2 pt2) X.env = pure (some [x, y]) := by rfl)
    (hs : swapsWithSole [.Tuple [.Name x px, .Name y py] kt pt] (.Tuple [a, b] k2 pt2) pos.line X.env = pure false := by rfl) :
    DS X H0 (.Assign [.Tuple [.Name x px, .Name y py] kt pt] (.Tuple [a, b] k2 pt2) pos) (dPar i j ta) := (ps_par hc hN hi hj hij hx hy ha hw hs).to fun D σ H h => by
  obtain ⟨δ, S, D', w, ht, hp⟩ := h
  refine ⟨δ, S, _, w, ht, fun ds S1 q vs H1 k1 r1 p1 => ?_⟩
  split at q
  · obtain ⟨v, u, rfl, rv, ru⟩ := reps2 p1
    exact ⟨v, u, rfl, hp.nx _ _ q _ _ k1 (((w.keep k1 r1).set rv).set ru)⟩
  · exact q.elim
theorem reps3 {K : PySem.W.Frag} {H : Hp} {d e f : Dv} {vs : List V} (r : Reps K H [d, e, f] vs) : ∃ v u x, vs = [v, u, x] ∧ Rep K H d v ∧ Rep K H e u ∧ Rep K H f x := by
  obtain ⟨y, ys, rfl, a, b⟩ := r.cons_inv
  obtain ⟨u, x, rfl, c⟩ := reps2 b
  exact ⟨y, u, x, rfl, a, c⟩
@[simp] def dPar3 (i j l : Nat) (ta : DTA) : DTS := fun D δ S => ta δ S fun ds S1 => match ds with | [d, e, f] => D.nx (((δ.set i (some d)).set j (some e)).set l (some f)) S1 | _ => False
theorem ds_par3 {i j l : Nat} {x y z : Str} {a b c : Expr} {ta : DTA} {px py pz pt : Pos} {kt k2 pt2} (hc : X.calm = true) (hN : X.N.Nodup) (ha : DA X H0 [a, b, c] ta) (hi : X.N[i]? = some x := by rfl) (hj : X.N[j]? = some y := by rfl) (hl : X.N[l]? = some z := by rfl)
    (hij : i ≠ j := by decide) (hil : i ≠ l := by decide) (hjl : j ≠ l := by decide)
    (hx : X.env.scope.names.lookup x = some .local := by rfl) (hy : X.env.scope.names.lookup y = some .local := by rfl) (hz : X.env.scope.names.lookup z = some .local := by rfl)
    (hw : swappedStores [.Tuple [.Name x px, .Name y py, .Name z pz] kt pt] (.Tuple [a, b, c] k2 pt2) X.env = pure (some [x, y, z]) := by rfl)
    (hs : swapsWithSole [.Tuple [.Name x px, .Name y py, .Name z pz] kt pt] (.Tuple [a, b, c] k2 pt2) pos.line X.env = pure false := by rfl) :
    DS X H0 (.Assign [.Tuple [.Name x px, .Name y py, .Name z pz] kt pt] (.Tuple [a, b, c] k2 pt2) pos) (dPar3 i j l ta) := (ps_par3 hc hN hi hj hl hij hil hjl hx hy hz ha hw hs).to fun D σ H h => by
  obtain ⟨δ, S, D', w, ht, hp⟩ := h
  refine ⟨δ, S, _, w, ht, fun ds S1 q vs H1 k1 r1 p1 => ?_⟩
  split at q
  · obtain ⟨v, u, x, rfl, rv, ru, rx⟩ := reps3 p1
    exact ⟨v, u, x, rfl, hp.nx _ _ q _ _ k1 ((((w.keep k1 r1).set rv).set ru).set rx)⟩
  · exact q.elim
/-- x += e, whole numbers -/
@[simp] def dAug (i : Nat) (te : DTE) (f : Int → Int → Int) : DTS := fun D δ S => match δ[i]? with
  | some (some (.int m)) => te δ S fun d S1 => (match d with | .int n => D.nx (δ.set i (some (.int (f m n)))) S1 | _ => False)
  | _ => False
theorem ds_aug {i : Nat} {x : Str} {op : Operator} {f : Int → Int → Int} {pos' : Pos} (hN : X.N.Nodup) (he : DE X H0 e te) (ho : PIp X op (ipI f)) (hi : X.N[i]? = some x := by rfl) (hx : Loc X.env.scope x := by first | exact Or.inl rfl | exact Or.inr rfl)
    (hf : X.fn x = true ∨ X.env.scope.names.lookup x = some .local := by first | exact .inl rfl | exact .inr rfl | assumption) : DS X H0 (.AugAssign (.Name x pos') op e pos) (dAug i te f) := (ps_aug hN hi hx he ho hf).to fun D σ H h => by
  obtain ⟨δ, S, D', w, ht, hp⟩ := h
  unfold dAug at ht
  split at ht
  · rename_i m e0
    obtain ⟨v, ev, rv⟩ := w.slot i _ e0
    refine ⟨v, ev, δ, S, _, w, ht, fun d S1 q u H1 k1 r1 p1 => ?_⟩
    split at q
    · rename_i n
      exact ⟨m, n, rep_int.mp rv, rep_int.mp p1, hp.nx _ _ q _ _ k1 ((w.keep k1 r1).set (rep_int.mpr rfl))⟩
    · exact q.elim
  · exact ht.elim

/-! ### for -/
def forL (p : Pat) (tb : DTS) (D : DEnds) (G : Grd) : List Dv → DSt → Store → Prop
  | [], δ, S => G S ∧ D.nx δ S
  | x :: xs, δ, S => G S ∧ match pset p x δ with
    | some δ1 => tb { D with nx := forL p tb D G xs, ct := forL p tb D G xs, bk := D.nx } δ1 S
    | none => False
def dFor (wi : DTI) (p : Pat) (tb : DTS) : DTS := fun D δ S => wi δ S fun items G S1 => forL p tb D G items δ S1
theorem ds_for {tg iter : Expr} {body : List Stmt} {wi : DTI} {p : Pat} {tb : DTS} (hp : PassesOwn (model X.prog X.w) X.A X.env X.xe) (hc : X.calm = true) (hi : DI X H0 tg iter wi) (hg : DP X tg p) (hb : DSs X H0 body tb)
    (hs : ∀ x, foldedSetIterable iter X.env x = pure x := by intro _; rfl) : DS X H0 (.For tg iter body [] pos) (dFor wi p tb) := (ps_for hp hc hi hg hb hs).to fun D σ H h => by
  obtain ⟨δ, S, D', w, ht, hp⟩ := h
  refine ⟨δ, S, _, w, ht, fun items G S1 q J H1 k1 r1 sv => ?_⟩
  refine ⟨fun i m σ' H' => m = items.length - i ∧ i ≤ items.length ∧ ∃ δ' S', Keep X.K H1 H' ∧ Wd X.K H0 σ' δ' S' H' ∧ forL p tb D' G (items.drop i) δ' S', ⟨_, rfl, Nat.zero_le _, δ, S1, .refl, w.keep k1 r1, q⟩, ?_⟩
  rintro i m σ2 H2 ⟨rfl, hi, δ2, S2, k2, w2, q2⟩
  by_cases hlt : i < items.length
  · rw [List.drop_eq_getElem_cons hlt] at q2
    simp only [forL] at q2
    obtain ⟨g, q2⟩ := q2
    obtain ⟨go, yld⟩ := (sv i S2 H2 k2 w2.rel g).2 items[i] (List.getElem?_eq_getElem hlt)
    refine .inr ⟨go, fun σ' H' => ∃ δ' S', Keep X.K H1 H' ∧ Wd X.K H0 σ' δ' S' H' ∧ forL p tb D' G (items.drop (i + 1)) δ' S', fun σ' H' z => ⟨_, by omega, rfl, hlt, z⟩, fun x H3 y => ?_⟩
    obtain ⟨k3, r3, rx⟩ := yld x H3 y
    cases e : pset p items[i] δ2 with
    | none => rw [e] at q2; exact q2.elim
    | some δ3 =>
      rw [e] at q2
      refine pset_ok p _ x σ2 δ2 δ3 e rx (w2.keep k3 r3) _ fun σ4 w4 _ => ⟨δ3, S2, _, w4, q2, fun δ5 S5 q5 σ5 H5 k5 w5 => ?_, fun δ5 S5 q5 σ5 H5 k5 w5 => ?_, fun δ5 S5 q5 σ5 H5 k5 w5 => ?_, ?_⟩
      · exact ⟨δ5, S5, k2.trans (k3.trans k5), w5, q5⟩
      · exact hp.nx _ _ q5 _ _ (k1.trans (k2.trans (k3.trans k5))) w5
      · exact ⟨δ5, S5, k2.trans (k3.trans k5), w5, q5⟩
      · exact hp.rt.keep (k1.trans (k2.trans k3))
  · have e : i = items.length := by omega
    subst e
    rw [List.drop_length] at q2
    simp only [forL] at q2
    exact .inl ⟨(sv _ S2 H2 k2 w2.rel q2.1).1 rfl, hp.nx _ _ q2.2 _ _ (k1.trans k2) w2⟩
/-! ### while -/
def dWhile (c : DTT) (tb : DTS) : DTS := fun D δ S => ∃ I : Nat → DSt → Store → Prop, (∃ m, I m δ S) ∧ ∀ m δ S, I m δ S →
  c δ S fun b S1 => if b = true then tb { D with nx := fun δ' S' => ∃ m', m' < m ∧ I m' δ' S', ct := fun δ' S' => ∃ m', m' < m ∧ I m' δ' S', bk := D.nx } δ S1 else D.nx δ S1
theorem ds_while {c : Expr} {body : List Stmt} {tc : DTT} {tb : DTS} (hp : PassesOwn (model X.prog X.w) X.A X.env X.xe) (hc : DT X H0 c tc) (hb : DSs X H0 body tb) : DS X H0 (.While c body [] pos) (dWhile tc tb) := (ps_while hp hc hb).to fun D σ H h => by
  obtain ⟨δ, S, D', w, ⟨I, ⟨m0, i0⟩, turn⟩, hp⟩ := h
  refine ⟨fun m σ' H' => ∃ δ' S', Keep X.K H H' ∧ Wd X.K H0 σ' δ' S' H' ∧ I m δ' S', ⟨m0, δ, S, .refl, w, i0⟩, ?_⟩
  rintro m σ2 H2 ⟨δ2, S2, k2, w2, i2⟩
  refine ⟨δ2, S2, _, w2, turn m δ2 S2 i2, fun b S3 q H3 k3 r3 => ?_⟩
  cases b with
  | true =>
    refine ⟨fun σ' H' => ∃ m', m' < m ∧ ∃ δ' S', Keep X.K H H' ∧ Wd X.K H0 σ' δ' S' H' ∧ I m' δ' S', fun σ' H' z => z, δ2, S3, _, w2.keep k3 r3, q, ?_⟩
    exact ⟨fun δ5 S5 ⟨m', hm, q5⟩ σ5 H5 k5 w5 => ⟨m', hm, δ5, S5, k2.trans (k3.trans k5), w5, q5⟩, fun δ5 S5 q5 σ5 H5 k5 w5 => hp.nx _ _ q5 _ _ (k2.trans (k3.trans k5)) w5,
      fun δ5 S5 ⟨m', hm, q5⟩ σ5 H5 k5 w5 => ⟨m', hm, δ5, S5, k2.trans (k3.trans k5), w5, q5⟩, hp.rt.keep (k2.trans k3)⟩
  | false => exact hp.nx _ _ q _ _ (k2.trans k3) (w2.keep k3 r3)
end

/-! ### list comprehensions -/
@[simp] def wipeD (δ : DSt) : List Nat → DSt
  | [] => δ
  | v :: vs => (wipeD δ vs).set v none
theorem wipeD_length (δ : DSt) : ∀ vs, (wipeD δ vs).length = δ.length
  | [] => rfl
  | v :: vs => by simp [wipeD, wipeD_length δ vs]
theorem wd_wipe {K : PySem.W.Frag} {H0 : Hp} {σ : St} {δ : DSt} {S : Store} {H : Hp} (w : Wd K H0 σ δ S H) : ∀ vs, Wd K H0 (wipe σ vs) (wipeD δ vs) S H
  | [] => w
  | v :: vs => by
    have ih := wd_wipe w vs
    refine ⟨ih.base, ih.rel, by simp [wipe, wipeD, ih.len], fun j d e => ?_⟩
    simp only [wipeD] at e
    simp only [wipe]
    by_cases h : v = j
    · subst h
      rw [List.getElem?_set_self (by have := (List.getElem?_eq_some_iff.mp e).1; simpa using this)] at e
      cases e
    · rw [List.getElem?_set_ne h] at e ⊢
      exact ih.slot j d e
theorem wipe_sub {σ : St} {vs : List Nat} : ∀ us : List Nat, (∀ i ∈ us, i ∈ vs) → wipe (wipe σ us) vs = wipe σ vs
  | [], _ => rfl
  | v :: us, h => by
    rw [show wipe σ (v :: us) = (wipe σ us).set v none from rfl, wipe_set (h v (by simp))]
    exact wipe_sub us fun i hi => h i (by simp [hi])
def lcRun (p : Pat) (tt : DTT) (te : DTE) (δ : DSt) (G : Grd) (D : Addr) (P : DK) : List Dv → Store → Prop
  | [], S => G S ∧ P (.ref D) S
  | x :: xs, S => G S ∧ match pset p x δ with
    | some δ1 => tt δ1 S fun b S2 => if b = true then te δ1 S2 fun y S3 => (match S3 D with
        | some (.lst acc) => acc.length < sizeLine ∧ lcRun p tt te δ G D P xs (up S3 D (.lst (acc ++ [y])))
        | _ => False) else lcRun p tt te δ G D P xs S2
    | none => False
def dLc (wi : DTI) (p : Pat) (tt : DTT) (te : DTE) (vs : List Nat) : DTE := fun δ S P => wi δ S fun items G S1 => ∀ D, S1 D = none → lcRun p tt te (wipeD δ vs) G D P items (up S1 D (.lst []))
@[simp] def dYes : DTT := fun _ S P => P true S
abbrev DTs (X : Cx) (H0 : Hp) (ifs : List Expr) (t : DTT) : Prop := PTs X ifs (liftT X.K H0 t)
theorem _root_.L2.PTs.to {X : Cx} {e : List Expr} {t t' : TT} (h : PTs X e t) (i : ∀ σ H Q, t' σ H Q → t σ H Q) : PTs X e t' := ⟨fun pins s σ H Q I q => h.run pins s σ H Q I (i σ H Q q)⟩
section
variable {X : Cx} {H0 : Hp}
theorem dts_nil : DTs X H0 [] dYes := pts_nil.to fun σ H Q h => by
  obtain ⟨δ, S, P, w, ht, hp⟩ := h
  exact hp _ _ ht _ .refl w.rel
theorem dts_one {c : Expr} {t : DTT} (h : DT X H0 c t) : DTs X H0 [c] t := pts_one h
theorem lc_lift {K : PySem.W.Frag} {wi : DTI} {p : Pat} {tt : DTT} {te : DTE} {vs : List Nat} (hv : ∀ i ∈ pslots p, i ∈ vs) : ∀ σ H Q, liftE K H0 (dLc wi p tt te vs) σ H Q → tLc (liftI K H0 wi) (gP K p) (liftT K H0 tt) (liftE K H0 te) vs σ H Q := fun σ H Q h => by
  obtain ⟨δ, S, P, w, ht, hp⟩ := h
  refine ⟨δ, S, _, w, ht, fun items G S1 q J H1 k1 r1 sv => fun D hD => ?_⟩
  have q := q D (r1.free hD)
  have hk0 : Keep K H1 (upd H1 D (.lst [])) := .new hD
  have rl : Rel K (up S1 D (.lst [])) (upd H1 D (.lst [])) := r1.laid hD fun own ow => ⟨ow, [], upd_same, .nil⟩
  refine ⟨fun i m H' => m = items.length - i ∧ i ≤ items.length ∧ ∃ S', Keep K H1 H' ∧ Rel K S' H' ∧ lcRun p tt te (wipeD δ vs) G D P (items.drop i) S', ⟨_, rfl, Nat.zero_le _, _, hk0, rl, q⟩, ?_⟩
  rintro i m H2 ⟨rfl, hi, S2, k2, r2, q2⟩
  by_cases hlt : i < items.length
  · rw [List.drop_eq_getElem_cons hlt] at q2
    simp only [lcRun] at q2
    obtain ⟨g, q2⟩ := q2
    obtain ⟨go, yld⟩ := (sv i S2 H2 k2 r2 g).2 items[i] (List.getElem?_eq_getElem hlt)
    refine .inr ⟨go, fun H' => ∃ S', Keep K H1 H' ∧ Rel K S' H' ∧ lcRun p tt te (wipeD δ vs) G D P (items.drop (i + 1)) S', fun H' z => ⟨_, by omega, rfl, hlt, z⟩, fun x H3 y => ?_⟩
    obtain ⟨k3, r3, rx⟩ := yld x H3 y
    cases e : pset p items[i] (wipeD δ vs) with
    | none => rw [e] at q2; exact q2.elim
    | some δ3 =>
      rw [e] at q2
      have w3 : Wd K H0 (wipe σ vs) (wipeD δ vs) S2 H3 := (wd_wipe w vs).keep (k1.trans (k2.trans k3)) r3
      refine pset_ok p _ x _ _ δ3 e rx w3 _ fun σ4 w4 hw4 => ⟨by rw [hw4 vs hv]; exact wipe_sub vs fun _ z => z, δ3, S2, _, w4, q2, fun b S5 q5 H5 k5 r5 => ?_⟩
      cases b with
      | false => exact ⟨S5, k2.trans (k3.trans k5), r5, q5⟩
      | true =>
        refine ⟨δ3, S5, _, w4.keep k5 r5, q5, fun y S6 q6 yv H6 k6 r6 p6 => ?_⟩
        split at q6
        · rename_i acc e6
          obtain ⟨xs, h6, rs6⟩ := r6.lst e6
          have kk : Keep K H6 (upd H6 D (.lst (xs ++ [yv]))) := .upd fun u z => by
            rw [h6] at z; cases z
            exact ⟨fun _ q => HO.noConfusion q, fun _ _ q => HO.noConfusion q⟩
          refine ⟨xs, h6, by rw [rs6.length]; exact q6.1, _, (k2.trans (k3.trans (k5.trans k6))).trans kk, r6.write (o' := .lst (acc ++ [y])) e6 fun own _ z => ⟨OK1.mine z, _, upd_same, Reps.keep kk _ _ (rs6.append (.cons p6 .nil))⟩, q6.2⟩
        · exact q6.elim
  · have e : i = items.length := by omega
    subst e
    rw [List.drop_length] at q2
    simp only [lcRun] at q2
    exact .inl ⟨(sv _ S2 H2 k2 r2 q2.1).1 rfl, hp _ _ q2.2 _ _ (k1.trans k2) r2 (rep_ref.mpr rfl)⟩
theorem de_lc {elt tg iter : Expr} {ifs : List Expr} {scope : Scope} {own : List (Str × Nat)} {pos : Pos} {wi : DTI} {p : Pat} {tt : DTT} {te : DTE} (hc : X.calm = true) (hN : X.N.Nodup) (hi : DI X H0 tg iter wi) (ok : BlkOk X.N X.env.scope scope own)
    (hg : ∀ (s : Shared) (H : Hp) (C : Addr) (cl : List (Str × Addr)) (fp : List Addr), DP (X.blk s H scope (compEnvC scope cl C X.env) fp) tg p)
    (ht : ∀ (s : Shared) (H : Hp) (C : Addr) (cl : List (Str × Addr)) (fp : List Addr), DTs (X.blk s H scope (compEnvC scope cl C X.env) fp) H0 ifs tt)
    (he : ∀ (s : Shared) (H : Hp) (C : Addr) (cl : List (Str × Addr)) (fp : List Addr), DE (X.blk s H scope (compEnvC scope cl C X.env) fp) H0 elt te)
    (hv : ∀ i ∈ pslots p, i ∈ own.map (·.2) := by decide) (hs : ∀ x, foldedSetIterable iter X.env x = pure x := by intro _; rfl) :
    DE X H0 (.ListComp elt [⟨tg, iter, ifs, 0⟩] scope pos) (dLc wi p tt te (own.map (·.2))) := (pe_lc (g := gP X.K p) (tt := liftT X.K H0 tt) (te := liftE X.K H0 te) hc hN hi ok hg ht he hs).to (lc_lift hv)
/-- x = [..] -/
theorem ds_setLc {i : Nat} {y : Str} {py : Pos} {elt tg iter : Expr} {ifs : List Expr} {scope : Scope} {own : List (Str × Nat)} {pos spos : Pos} {wi : DTI} {p : Pat} {tt : DTT} {te : DTE} (hc : X.calm = true) (hN : X.N.Nodup)
    (hi : DI X H0 tg iter wi) (ok : BlkOk X.N X.env.scope scope own)
    (hg : ∀ (s : Shared) (H : Hp) (C : Addr) (cl : List (Str × Addr)) (fp : List Addr), DP (X.blk s H scope (compEnvC scope cl C X.env) fp) tg p)
    (ht : ∀ (s : Shared) (H : Hp) (C : Addr) (cl : List (Str × Addr)) (fp : List Addr), DTs (X.blk s H scope (compEnvC scope cl C X.env) fp) H0 ifs tt)
    (he : ∀ (s : Shared) (H : Hp) (C : Addr) (cl : List (Str × Addr)) (fp : List Addr), DE (X.blk s H scope (compEnvC scope cl C X.env) fp) H0 elt te)
    (hy : X.N[i]? = some y := by rfl) (hyl : X.env.scope.names.lookup y = some .local := by rfl)
    (hsw : swapsWith (.ListComp elt [⟨tg, iter, ifs, 0⟩] scope pos) (some (.Name y py)) spos.line X.env = pure true := by exact sw_true rfl rfl rfl (by decide +kernel))
    (hv : ∀ i ∈ pslots p, i ∈ own.map (·.2) := by decide) (hs : ∀ x, foldedSetIterable iter X.env x = pure x := by intro _; rfl) :
    DS X H0 (.Assign [.Name y py] (.ListComp elt [⟨tg, iter, ifs, 0⟩] scope pos) spos) (dSet i (dLc wi p tt te (own.map (·.2)))) := (ps_setLc (g := gP X.K p) (tt := liftT X.K H0 tt) (te := liftE X.K H0 te) hc hN hy hyl hsw hi ok hg ht he hs).to fun D σ H h => by
  obtain ⟨δ, S, D', w, ht, hp⟩ := h
  exact lc_lift hv σ H _ ⟨δ, S, _, w, ht, fun d S1 q v H1 k1 r1 p1 => hp.nx _ _ q _ _ k1 ((w.keep k1 r1).set p1)⟩
end
end Sb

/-! Rules over data: methods, stores, dicts. -/
namespace Sb
open PySem PySem.Spec L2

/-! ### methods of built-ins -/
section
variable {X : Cx} {H0 : Hp} {o e : Expr} {es : List Expr} {to te : DTE} {t : DTA} {name : Str} {apos cpos pos : Pos} {T id : String}
abbrev GM := Dv → List Dv → Store → DK → Prop
structure MtG (X : Cx) (T id : String) (ty : Dv → Store → Prop) (g : GM) : Prop where
  ex : ∃ r, MtR X id r ∧ ∀ d ds S P, g d ds S P → ∀ x xs H Q, Rel X.K S H → Rep X.K H d x → Reps X.K H ds xs → PV X.K H P Q → r x xs H Q
  tyv : ∀ d S x H, ty d S → Rel X.K S H → Rep X.K H d x → tyV X.K T x H
@[simp] def dBM (ty : Dv → Store → Prop) (g : GM) (to : DTE) (t : DTA) : DTE := fun δ S P => to δ S fun d S1 => ty d S1 ∧ t δ S1 fun ds S2 => g d ds S2 P
@[simp] def dBM0 (ty : Dv → Store → Prop) (g : GM) (to : DTE) : DTE := fun δ S P => to δ S fun d S1 => ty d S1 ∧ g d [] S1 P
theorem de_bm0 {ty : Dv → Store → Prop} {g : GM} (m : MtG X T id ty g) (pa : PlainAttrs T) (slot : Slot T name id) (hty : typeOf (.builtin id) = pure (.type "method_descriptor")) (ho : DE X H0 o to)
    (hbase : attributeBase o name X.env (eval o X.env) = eval o X.env := by rfl) (hline : (apos.endLine == cpos.line) = true := by rfl) : DE X H0 (.Call (.Attribute o name apos) [] [] cpos) (dBM0 ty g to) :=
  let ⟨r, h1, h2⟩ := m.ex
  (pe_bm0 pa slot hty h1 ho hbase hline).to fun σ H Q h => by
    obtain ⟨δ, S, P, w, ht, hp⟩ := h
    exact ⟨δ, S, _, w, ht, fun d S1 q v H1 k1 r1 p1 => ⟨m.tyv d S1 v H1 q.1 r1 p1, h2 d [] S1 P q.2 v [] H1 Q r1 p1 .nil (hp.keep k1)⟩⟩
theorem de_bm {ty : Dv → Store → Prop} {g : GM} (m : MtG X T id ty g) (pa : PlainAttrs T) (slot : Slot T name id) (hty : typeOf (.builtin id) = pure (.type "method_descriptor")) (ho : DE X H0 o to) (ha : DA X H0 (e :: es) t)
    (hbase : attributeBase o name X.env (eval o X.env) = eval o X.env := by rfl)
    (hfew : ((backTo cpos (starEach (e :: es) X.env)).all (fun x => !x.1) && (backToKw cpos (keywordEach [] X.env)).all (fun x => x.1.isSome)
      && decide ((e :: es).length + ([] : List Keyword).length + (if ([] : List Keyword).isEmpty then 0 else 1) < 30)) = true := by rfl)
    (hline : (apos.endLine == cpos.line) = true := by rfl) (hs : starEach (e :: es) X.env = (false, eval e X.env) :: starEach es X.env := by rfl) (hplain : (backTo cpos (starEach es X.env)).any (·.1) = false := by rfl) :
    DE X H0 (.Call (.Attribute o name apos) (e :: es) [] cpos) (dBM ty g to t) :=
  let ⟨r, h1, h2⟩ := m.ex
  (pe_bm pa slot hty h1 ho ha hbase hfew hline hs hplain).to fun σ H Q h => by
    obtain ⟨δ, S, P, w, ht, hp⟩ := h
    exact ⟨δ, S, _, w, ht, fun d S1 q v H1 k1 r1 p1 => ⟨m.tyv d S1 v H1 q.1 r1 p1, δ, S1, _, w.keep k1 r1, q.2, fun ds S2 q2 vs H2 k2 r2 p2 => h2 d ds S2 P q2 v vs H2 Q r2 (p1.keep k2) p2 (hp.keep (k1.trans k2))⟩⟩
/-- a list -/
@[simp] def isL (d : Dv) (S : Store) : Prop := match d with
  | .ref a => (match S a with | some (.lst _) => True | _ => False)
  | _ => False
theorem isL_ty {K : PySem.W.Frag} {d : Dv} {S : Store} {x : V} {H : Hp} (h : isL d S) (r : Rel K S H) (p : Rep K H d x) : tyV K "list" x H := by
  unfold isL at h
  split at h
  · split at h
    · rename_i ds e
      obtain ⟨xs, hx, _⟩ := r.lst e
      rw [rep_ref.mp p]
      exact .inl ⟨rfl, xs, .of hx⟩
    · exact h.elim
  · exact h.elim
theorem keep_lst {K : PySem.W.Frag} {H : Hp} {a : Addr} {xs : List V} {o : HO} (h : H a = some (.lst xs)) : Keep K H (upd H a o) := .upd fun u z => by
  rw [h] at z; cases z
  exact ⟨fun _ q => HO.noConfusion q, fun _ _ q => HO.noConfusion q⟩
/-- a list changed -/
theorem Rel.lstw {K : PySem.W.Frag} {S : Store} {H : Hp} {a : Addr} {ds ds' : List Dv} {xs xs' : List V} (r : Rel K S H) (e : S a = some (.lst ds)) (h : H a = some (.lst xs)) (rs : Reps K H ds' xs') : Rel K (up S a (.lst ds')) (upd H a (.lst xs')) :=
  r.write (o' := .lst ds') e fun own _ z => ⟨OK1.mine z, xs', upd_same, Reps.keep (keep_lst h) _ _ rs⟩
@[simp] def gAppend : GM := fun d ds S P => match d, ds with
  | .ref a, [x] => (match S a with | some (.lst xs) => xs.length < sizeLine ∧ P .non (up S a (.lst (xs ++ [x]))) | _ => False)
  | _, _ => False
theorem mg_append : MtG X "list" "list.append" isL gAppend where
  tyv := fun _ _ _ _ => isL_ty
  ex := ⟨_, mt_append, fun d ds S P q x xs H Q r p ps hp => by
    unfold gAppend at q
    split at q
    · split at q
      · rename_i ys e
        obtain ⟨v, rfl, rv⟩ := reps1 ps
        obtain ⟨zs, h, rs⟩ := r.lst e
        exact ⟨_, zs, v, rep_ref.mp p, rfl, h, by rw [rs.length]; exact q.1, hp _ _ q.2 _ _ (keep_lst h) (r.lstw e h (rs.append (.cons rv .nil))) (rep_non.mpr rfl)⟩
      · exact q.elim
    · exact q.elim⟩
@[simp] def gExtend : GM := fun d ds S P => match d, ds with
  | .ref a, [.ref b] => (match S a, S b with | some (.lst xs), some (.lst ys) => xs.length + ys.length ≤ sizeLine ∧ P .non (up S a (.lst (xs ++ ys))) | _, _ => False)
  | _, _ => False
theorem mg_extend : MtG X "list" "list.extend" isL gExtend where
  tyv := fun _ _ _ _ => isL_ty
  ex := ⟨_, mt_extend, fun d ds S P q x xs H Q r p ps hp => by
    unfold gExtend at q
    split at q
    · split at q
      · rename_i ys e1 e2
        obtain ⟨v, rfl, rv⟩ := reps1 ps
        obtain ⟨zs, h, rs⟩ := r.lst e1
        obtain ⟨ws, h2, rs2⟩ := r.lst e2
        rw [rep_ref.mp rv]
        exact ⟨_, _, zs, ws, rep_ref.mp p, rfl, h, h2, by rw [rs.length, rs2.length]; exact q.1, hp _ _ q.2 _ _ (keep_lst h) (r.lstw e1 h (rs.append rs2)) (rep_non.mpr rfl)⟩
      · exact q.elim
    · exact q.elim⟩
theorem Reps.dropLast {K : PySem.W.Frag} {H : Hp} {ds : List Dv} {xs : List V} (r : Reps K H ds xs) : Reps K H ds.dropLast xs.dropLast := by
  rw [List.dropLast_eq_take, List.dropLast_eq_take, r.length]
  exact r.take _
@[simp] def gPop : GM := fun d ds S P => match d, ds with
  | .ref a, [] => (match S a with | some (.lst xs) => (match xs[xs.length - 1]? with | some x => P x (up S a (.lst xs.dropLast)) | none => False) | _ => False)
  | .ref a, [.int i] => (match S a with | some (.lst xs) => -(2 ^ 63) ≤ i ∧ i < 2 ^ 63 ∧ (match seqIndex? i xs.length with | some k => (match xs[k]? with | some x => P x (up S a (.lst (xs.eraseIdx k))) | none => False) | none => False) | _ => False)
  | _, _ => False
theorem mt_pops : MtR X "list.pop" (fun x vs H Q => rPop x vs H Q ∨ rPopAt x vs H Q) := MtR.or mt_pop mt_popAt
theorem mg_pop : MtG X "list" "list.pop" isL gPop where
  tyv := fun _ _ _ _ => isL_ty
  ex := ⟨_, mt_pops, fun d ds S P q x xs H Q r p ps hp => by
    unfold gPop at q
    split at q
    · split at q
      · rename_i ys e
        split at q
        · rename_i y e1
          obtain ⟨zs, h, rs⟩ := r.lst e
          obtain ⟨z, ez, rz⟩ := rs.get e1
          rw [ps.nil_inv]
          exact .inl ⟨_, zs, z, rep_ref.mp p, rfl, h, by rw [rs.length]; exact ez, hp _ _ q _ _ (keep_lst h) (r.lstw e h rs.dropLast) (rz.keep (keep_lst h))⟩
        · exact q.elim
      · exact q.elim
    · split at q
      · rename_i ys e
        obtain ⟨l1, l2, q⟩ := q
        split at q
        · rename_i k e1
          split at q
          · rename_i y e2
            obtain ⟨zs, h, rs⟩ := r.lst e
            obtain ⟨z, ez, rz⟩ := rs.get e2
            obtain ⟨v, rfl, rv⟩ := reps1 ps
            exact .inr ⟨_, zs, _, k, z, rep_ref.mp p, by rw [rep_int.mp rv], h, l1, l2, by rw [rs.length]; exact e1, ez, hp _ _ q _ _ (keep_lst h) (r.lstw e h (rs.eraseIdx k)) (rz.keep (keep_lst h))⟩
          · exact q.elim
        · exact q.elim
      · exact q.elim
    · exact q.elim⟩

/-! ### l[i] = e -/
@[simp] def dSetIx (te to ti : DTE) : DTS := fun D δ S => te δ S fun d S1 => to δ S1 fun o S2 => ti δ S2 fun i S3 => match o, i with
  | .ref a, .int k => (match S3 a with | some (.lst ds) => (match ixN ds.length k with | some j => D.nx δ (up S3 a (.lst (ds.set j d))) | none => False) | _ => False)
  | _, _ => False
theorem ds_setIx {i : Expr} {ti : DTE} {pos' : Pos} (he : DE X H0 e te) (ho : DE X H0 o to) (hi : DE X H0 i ti) (hs : swapsWithSole [.Subscript o i pos'] e pos.line X.env = pure false := by rfl) (hw : swappedStores [.Subscript o i pos'] e X.env = pure none := by rfl)
    (h1 : (assignEach [.Subscript o i pos'] X.env).map (·.2) = [assign (.Subscript o i pos') X.env] := by rfl)
    (ha : ∀ v, assign (.Subscript o i pos') X.env v = (do
      let ov ← holding [v] (eval o X.env)
      let iv ← holding [v, ov] (eval i X.env)
      standAt pos'
      holding [v, ov, iv] (setItem ov iv v)
      release [v, ov, iv] []) := by intro _; rfl) : DS X H0 (.Assign [.Subscript o i pos'] e pos) (dSetIx te to ti) := (ps_asg he (pg_sub ho hi set_list ha) hs hw h1).to fun D σ H h => by
  obtain ⟨δ, S, D', w, ht, hp⟩ := h
  refine ⟨δ, S, _, w, ht, fun d S1 q v H1 k1 r1 p1 => ⟨δ, S1, _, w.keep k1 r1, q, fun od S2 q2 ov H2 k2 r2 p2 => ⟨δ, S2, _, w.keep (k1.trans k2) r2, q2, fun id S3 q3 iv H3 k3 r3 p3 => ?_⟩⟩⟩
  split at q3
  · split at q3
    · rename_i ds e0
      split at q3
      · rename_i j e1
        obtain ⟨xs, h, rs⟩ := r3.lst e0
        refine ⟨_, xs, _, j, rep_ref.mp p2, rep_int.mp p3, h, by rw [rs.length]; exact e1, ?_⟩
        exact hp.nx _ _ q3 _ _ (k1.trans (k2.trans (k3.trans (keep_lst h)))) ((w.keep (k1.trans (k2.trans k3)) r3).keep (keep_lst h) (r3.lstw e0 h (rs.set j (p1.keep (k2.trans k3)))))
      · exact q3.elim
    · exact q3.elim
  · exact q3.elim
end

/-! ### dicts -/
section
open Classical
noncomputable def dval : List (Dv × Dv) → Dv → Option Dv
  | [], _ => none
  | (k', v) :: r, k => if k' = k then some v else dval r k
noncomputable def dput (kvs : List (Dv × Dv)) (k v : Dv) : List (Dv × Dv) := match dval kvs k with
  | some _ => kvs.map fun kv => if kv.1 = k then (kv.1, v) else kv
  | none => kvs ++ [(k, v)]
noncomputable def ddrop (kvs : List (Dv × Dv)) (k : Dv) : List (Dv × Dv) := kvs.filter fun kv => decide (kv.1 ≠ k)
noncomputable def dmerge (kvs more : List (Dv × Dv)) : List (Dv × Dv) := more.foldl (fun acc kv => dput acc kv.1 kv.2) kvs
end
/-- a key of a dict -/
@[simp] def isK : Dv → Option Key
  | .int i => some (.inl i)
  | .str x => some (.inr x)
  | _ => none
theorem isK_kD {d : Dv} {k : Key} (h : isK d = some k) : d = kD k := by
  cases d <;> simp only [isK, Option.some.injEq, reduceCtorEq] at h <;> subst h <;> rfl
theorem rep_kD {K : PySem.W.Frag} {H : Hp} {k : Key} {v : V} (r : Rep K H (kD k) v) : v = kV k := by
  cases k with
  | inl i => exact rep_int.mp r
  | inr x => exact rep_str.mp r
/-- the keys and values of a dict, as they stand -/
def KVs (K : PySem.W.Frag) (H : Hp) (kvs : List (Dv × Dv)) (ys : List (Key × V)) : Prop := kvs.map (·.1) = ys.map (fun y => kD y.1) ∧ Reps K H (kvs.map (·.2)) (ys.map (·.2))
section
variable {K : PySem.W.Frag} {H : Hp}
theorem KVs.cons_inv {p : Dv × Dv} {kvs : List (Dv × Dv)} {ys : List (Key × V)} (h : KVs K H (p :: kvs) ys) : ∃ y ys', ys = y :: ys' ∧ p.1 = kD y.1 ∧ Rep K H p.2 y.2 ∧ KVs K H kvs ys' := by
  obtain ⟨h1, h2⟩ := h
  cases ys with
  | nil => simp at h1
  | cons y ys' =>
    simp only [List.map_cons, List.cons.injEq] at h1 h2
    obtain ⟨z, zs, e, r1, r2⟩ := h2.cons_inv
    simp only [List.cons.injEq] at e
    obtain ⟨rfl, rfl⟩ := e
    exact ⟨y, ys', rfl, h1.1, r1, h1.2, r2⟩
theorem KVs.nil_inv {ys : List (Key × V)} (h : KVs K H [] ys) : ys = [] := by
  have := h.1
  cases ys with
  | nil => rfl
  | cons y ys => simp at this
theorem KVs.nil : KVs K H [] [] := ⟨rfl, .nil⟩
theorem KVs.cons {p : Dv × Dv} {y : Key × V} {kvs : List (Dv × Dv)} {ys : List (Key × V)} (h1 : p.1 = kD y.1) (h2 : Rep K H p.2 y.2) (h : KVs K H kvs ys) : KVs K H (p :: kvs) (y :: ys) := ⟨by simp [h1, h.1], by simp only [List.map_cons]; exact .cons h2 h.2⟩
theorem KVs.append {kvs kvs' : List (Dv × Dv)} {ys ys' : List (Key × V)} (h : KVs K H kvs ys) (h' : KVs K H kvs' ys') : KVs K H (kvs ++ kvs') (ys ++ ys') := ⟨by simp [h.1, h'.1], by simp only [List.map_append]; exact h.2.append h'.2⟩
theorem KVs.length {kvs : List (Dv × Dv)} {ys : List (Key × V)} (h : KVs K H kvs ys) : ys.length = kvs.length := by have := congrArg List.length h.1; simpa using this.symm
theorem KVs.get : ∀ {kvs : List (Dv × Dv)} {ys : List (Key × V)} (k : Key), KVs K H kvs ys → (dval kvs (kD k) = none ∧ valV ys k = none) ∨ ∃ d v, dval kvs (kD k) = some d ∧ valV ys k = some v ∧ Rep K H d v
  | [], ys, k, h => by rw [h.nil_inv]; exact .inl ⟨rfl, rfl⟩
  | (d, e) :: kvs, ys, k, h => by
    obtain ⟨y, ys', rfl, h1, h2, h3⟩ := h.cons_inv
    simp only at h1 h2
    by_cases q : y.1 = k
    · refine .inr ⟨e, y.2, ?_, valV_pos q, h2⟩
      rw [dval, if_pos (by rw [h1, q])]
    · have q' : ¬ d = kD k := fun z => q (kD_inj (h1.symm.trans z))
      rw [dval, if_neg q', valV_neg q]
      exact h3.get k
theorem KVs.putm : ∀ {kvs : List (Dv × Dv)} {ys : List (Key × V)} (k : Key) {d : Dv} {v : V}, KVs K H kvs ys → Rep K H d v →
    KVs K H (kvs.map fun kv => @ite _ (kv.1 = kD k) (Classical.propDecidable _) (kv.1, d) kv) (ys.map fun kv => if kv.1 = k then (kv.1, v) else kv)
  | [], ys, k, _, _, h, _ => by rw [h.nil_inv]; exact .nil
  | (d, e) :: kvs, ys, k, _, _, h, r => by
    obtain ⟨y, ys', rfl, h1, h2, h3⟩ := h.cons_inv
    simp only at h1 h2
    simp only [List.map_cons]
    refine .cons ?_ ?_ (KVs.putm k h3 r)
    · by_cases q : y.1 = k
      · rw [if_pos q, if_pos (by rw [h1, q])]; exact h1
      · rw [if_neg q, if_neg fun z => q (kD_inj (h1.symm.trans z))]; exact h1
    · by_cases q : y.1 = k
      · rw [if_pos q, if_pos (by rw [h1, q])]; exact r
      · rw [if_neg q, if_neg fun z => q (kD_inj (h1.symm.trans z))]; exact h2
theorem KVs.put {kvs : List (Dv × Dv)} {ys : List (Key × V)} (k : Key) {d : Dv} {v : V} (h : KVs K H kvs ys) (r : Rep K H d v) : KVs K H (dput kvs (kD k) d) (putK ys k v) := by
  unfold dput putK
  rw [valV_any]
  rcases h.get k with ⟨h1, h2⟩ | ⟨x, y, h1, h2, _⟩
  · rw [h1, h2]
    simp only [Option.isSome_none, Bool.false_eq_true, if_false]
    exact h.append (.cons rfl r .nil)
  · rw [h1, h2]
    simp only [Option.isSome_some, if_true]
    exact h.putm k r
theorem KVs.drop : ∀ {kvs : List (Dv × Dv)} {ys : List (Key × V)} (k : Key), KVs K H kvs ys → KVs K H (ddrop kvs (kD k)) (dropK ys k)
  | [], ys, k, h => by rw [h.nil_inv]; exact .nil
  | (d, e) :: kvs, ys, k, h => by
    obtain ⟨y, ys', rfl, h1, h2, h3⟩ := h.cons_inv
    simp only at h1 h2
    have ih := KVs.drop k h3
    unfold ddrop dropK at ih ⊢
    rw [List.filter_cons, List.filter_cons]
    by_cases q : y.1 = k
    · have q' : d = kD k := by rw [h1, q]
      simp only [q', q, ne_eq, not_true_eq_false, decide_false, Bool.false_eq_true, if_false]
      exact ih
    · have q' : ¬ d = kD k := fun z => q (kD_inj (h1.symm.trans z))
      simp only [q', q, ne_eq, not_false_eq_true, decide_true, if_true]
      exact .cons h1 h2 ih
theorem KVs.merge : ∀ {more : List (Dv × Dv)} {ms : List (Key × V)} {kvs : List (Dv × Dv)} {ys : List (Key × V)}, KVs K H more ms → KVs K H kvs ys → KVs K H (dmerge kvs more) (mergeK ys ms)
  | [], ms, kvs, ys, h, q => by rw [h.nil_inv]; exact q
  | (d, e) :: more, ms, kvs, ys, h, q => by
    obtain ⟨y, ys', rfl, h1, h2, h3⟩ := h.cons_inv
    simp only at h1 h2
    have := q.put y.1 h2
    rw [← h1] at this
    have ih := KVs.merge (more := more) h3 this
    exact ih
theorem KVs.keep {H' : Hp} {kvs : List (Dv × Dv)} {ys : List (Key × V)} (h : KVs K H kvs ys) (k : Keep K H H') : KVs K H' kvs ys := ⟨h.1, h.2.keep k⟩
end
theorem keep_dk {K : PySem.W.Frag} {H : Hp} {a : Addr} {ys : List (Key × V)} {o : HO} (h : H a = some (.dK ys)) : Keep K H (upd H a o) := .upd fun u z => by
  rw [h] at z; cases z
  exact ⟨fun _ q => HO.noConfusion q, fun _ _ q => HO.noConfusion q⟩
theorem Rel.dctw {K : PySem.W.Frag} {S : Store} {H : Hp} {a : Addr} {ds ds' : List (Dv × Dv)} {ys ys' : List (Key × V)} (r : Rel K S H) (e : S a = some (.dct ds)) (h : H a = some (.dK ys)) (rs : KVs K H ds' ys') : Rel K (up S a (.dct ds')) (upd H a (.dK ys')) :=
  r.write (o' := .dct ds') e fun own _ z => let q := KVs.keep (H' := upd H a (.dK ys')) rs (keep_dk h); ⟨OK1.mine z, ys', upd_same, q.1, q.2⟩
section
variable {X : Cx} {H0 : Hp} {o i e f : Expr} {td ty tv tx : DTE} {pos apos cpos : Pos}
/-- {} -/
@[simp] def dDnew : DTE := fun _ S P => ∀ p, S p = none → P (.ref p) (up S p (.dct []))
theorem de_dnew : DE X H0 (.Dict [] [] pos) dDnew := pe_dnewK.to fun σ H Q h => by
  obtain ⟨δ, S, P, w, ht, hp⟩ := h
  exact fun p hn => hp _ _ (ht p (w.rel.free hn)) _ _ (.new hn) (w.rel.laid hn fun own ow => ⟨ow, [], upd_same, rfl, .nil⟩) (rep_ref.mpr rfl)
/-- what a dict holds at a key -/
@[simp] def gAt (S : Store) (d k : Dv) (P : Option Dv → Prop) : Prop := match d, isK k with
  | .ref a, some _ => (match S a with | some (.dct kvs) => P (dval kvs k) | _ => False)
  | _, _ => False
theorem at_get {K : PySem.W.Frag} {S : Store} {H : Hp} {d k : Dv} {x y : V} {P : Option Dv → Prop} (h : gAt S d k P) (r : Rel K S H) (p1 : Rep K H d x) (p2 : Rep K H k y) :
    ∃ a ov, x = .ref a ∧ DGet H a y ov ∧ ((ov = none ∧ P none) ∨ ∃ d v, ov = some v ∧ Rep K H d v ∧ P (some d)) := by
  unfold gAt at h
  split at h
  · rename_i a key ek
    split at h
    · rename_i kvs e
      obtain ⟨ys, hy, n, rs⟩ := r.dct e
      have ek := isK_kD ek
      rw [ek] at p2 h
      have hyk := rep_kD p2
      refine ⟨a, valV ys key, rep_ref.mp p1, by rw [hyk]; exact .k hy, ?_⟩
      rcases KVs.get key ⟨n, rs⟩ with ⟨h1, h2⟩ | ⟨d, v, h1, h2, h3⟩
      · rw [h1] at h; exact .inl ⟨h2, h⟩
      · rw [h1] at h; exact .inr ⟨d, v, h2, h3, h⟩
    · exact h.elim
  · exact h.elim
@[simp] def dDget (td ty : DTE) : DTE := fun δ S P => td δ S fun d S1 => ty δ S1 fun k S2 => gAt S2 d k fun v => match v with | some v => P v S2 | none => False
theorem de_dget (hu : X.A.units + 1 < cLine) (ho : DE X H0 o td) (hi : DE X H0 i ty) (hs : NoSl i := by exact fun _ _ => rfl) : DE X H0 (.Subscript o i pos) (dDget td ty) := (pe_dget hu ho hi hs).to fun σ H Q h => by
  obtain ⟨δ, S, P, w, ht, hp⟩ := h
  refine ⟨δ, S, _, w, ht, fun d S1 q x H1 k1 r1 p1 => ⟨δ, S1, _, w.keep k1 r1, q, fun k S2 q2 y H2 k2 r2 p2 => ?_⟩⟩
  obtain ⟨a, ov, rfl, g, z⟩ := at_get q2 r2 (p1.keep k2) p2
  rcases z with ⟨_, z⟩ | ⟨d', v, rfl, rv, z⟩
  · exact z.elim
  · exact ⟨a, v, rfl, g, hp _ _ z _ _ (k1.trans k2) r2 rv⟩
@[simp] def dDin (b : Bool → Bool) (ty td : DTE) : DTE := fun δ S P => ty δ S fun k S1 => td δ S1 fun d S2 => gAt S2 d k fun v => P (.bl (b v.isSome)) S2
theorem din_lift {K : PySem.W.Frag} {b : Bool → Bool} : ∀ σ H Q, liftE K H0 (dDin b ty td) σ H Q → liftE K H0 ty σ H fun y H1 => liftE K H0 td σ H1 fun x H2 => ∃ a ov, x = .ref a ∧ DGet H2 a y ov ∧ Q (.bl (b ov.isSome)) H2 := fun σ H Q h => by
  obtain ⟨δ, S, P, w, ht, hp⟩ := h
  refine ⟨δ, S, _, w, ht, fun k S1 q y H1 k1 r1 p1 => ⟨δ, S1, _, w.keep k1 r1, q, fun d S2 q2 x H2 k2 r2 p2 => ?_⟩⟩
  obtain ⟨a, ov, rfl, g, z⟩ := at_get q2 r2 p2 (p1.keep k2)
  refine ⟨a, ov, rfl, g, ?_⟩
  rcases z with ⟨rfl, z⟩ | ⟨d', v, rfl, rv, z⟩
  · exact hp _ _ z _ _ (k1.trans k2) r2 (rep_bl.mpr rfl)
  · exact hp _ _ z _ _ (k1.trans k2) r2 (rep_bl.mpr rfl)
theorem de_din (hu : X.A.units + 1 < cLine) (hi : DE X H0 i ty) (ho : DE X H0 o td) (h1 : behindInMarks .In o = false := by rfl) : DE X H0 (.Compare i [.In] [o] pos) (dDin id ty td) := (pe_cmp (pc_din hu hi ho) h1).to din_lift
theorem de_dnotin (hu : X.A.units + 1 < cLine) (hi : DE X H0 i ty) (ho : DE X H0 o td) (h1 : behindInMarks .NotIn o = false := by rfl) : DE X H0 (.Compare i [.NotIn] [o] pos) (dDin not ty td) := (pe_cmp (pc_dnotin hu hi ho) h1).to din_lift
theorem dt_din (hu : X.A.units + 1 < cLine) (hi : DE X H0 i ty) (ho : DE X H0 o td) (h1 : behindInMarks .In o = false := by rfl) : DT X H0 (.Compare i [.In] [o] pos) (dB (dDin id ty td)) := (pt_cmp (pc_din hu hi ho) h1).to fun σ H Q h => by
  obtain ⟨δ, S, P, w, ht, hp⟩ := h
  refine din_lift (b := id) σ H (fun x H' => ∃ c, x = .bl c ∧ Q c H') ⟨δ, S, _, w, ht, fun d S1 q v H1 k1 r1 p1 => ?_⟩
  split at q
  · exact ⟨_, rep_bl.mp p1, hp _ _ q _ k1 r1⟩
  · exact q.elim
theorem dt_dnotin (hu : X.A.units + 1 < cLine) (hi : DE X H0 i ty) (ho : DE X H0 o td) (h1 : behindInMarks .NotIn o = false := by rfl) : DT X H0 (.Compare i [.NotIn] [o] pos) (dB (dDin not ty td)) := (pt_cmp (pc_dnotin hu hi ho) h1).to fun σ H Q h => by
  obtain ⟨δ, S, P, w, ht, hp⟩ := h
  refine din_lift (b := not) σ H (fun x H' => ∃ c, x = .bl c ∧ Q c H') ⟨δ, S, _, w, ht, fun d S1 q v H1 k1 r1 p1 => ?_⟩
  split at q
  · exact ⟨_, rep_bl.mp p1, hp _ _ q _ k1 r1⟩
  · exact q.elim
/-- d.get(k), d.get(k, x) -/
@[simp] def isDc (d : Dv) (S : Store) : Prop := match d with
  | .ref a => (match S a with | some (.dct _) => True | _ => False)
  | _ => False
theorem isDc_is {K : PySem.W.Frag} {d : Dv} {S : Store} {x : V} {H : Hp} (h : isDc d S) (r : Rel K S H) (p : Rep K H d x) : ∃ a, x = .ref a ∧ IsD H a := by
  unfold isDc at h
  split at h
  · split at h
    · rename_i ds e
      obtain ⟨ys, hy, _⟩ := r.dct e
      exact ⟨_, rep_ref.mp p, .inl ⟨ys, .inl hy⟩⟩
    · exact h.elim
  · exact h.elim
@[simp] def dDget1 (td ty : DTE) : DTE := fun δ S P => td δ S fun d S1 => isDc d S1 ∧ ty δ S1 fun k S2 => gAt S2 d k fun v => P (v.getD .non) S2
@[simp] def dDget2 (td ty tx : DTE) : DTE := fun δ S P => td δ S fun d S1 => isDc d S1 ∧ ty δ S1 fun k S2 => tx δ S2 fun x S3 => gAt S3 d k fun v => P (v.getD x) S3
theorem de_dget1 (hu : X.A.units + 1 < cLine) (ho : DE X H0 o td) (he : DE X H0 e ty) (m : M1 X o "get" apos e cpos) : DE X H0 (.Call (.Attribute o "get" apos) [e] [] cpos) (dDget1 td ty) := (pe_dget1 hu ho he m).to fun σ H Q h => by
  obtain ⟨δ, S, P, w, ht, hp⟩ := h
  refine ⟨δ, S, _, w, ht, fun d S1 q x H1 k1 r1 p1 => ?_⟩
  obtain ⟨a, rfl, isd⟩ := isDc_is q.1 r1 p1
  refine ⟨a, rfl, isd, δ, S1, _, w.keep k1 r1, q.2, fun k S2 q2 y H2 k2 r2 p2 => ?_⟩
  obtain ⟨b, ov, e, g, z⟩ := at_get q2 r2 (p1.keep k2) p2
  cases e
  refine ⟨ov, g, ?_⟩
  rcases z with ⟨rfl, z⟩ | ⟨d', v, rfl, rv, z⟩
  · exact hp _ _ z _ _ (k1.trans k2) r2 (rep_non.mpr rfl)
  · exact hp _ _ z _ _ (k1.trans k2) r2 rv
theorem de_dget2 (hu : X.A.units + 1 < cLine) (ho : DE X H0 o td) (he : DE X H0 e ty) (hf : DE X H0 f tx) (m : M2 X o "get" apos e f cpos) : DE X H0 (.Call (.Attribute o "get" apos) [e, f] [] cpos) (dDget2 td ty tx) := (pe_dget2 hu ho he hf m).to fun σ H Q h => by
  obtain ⟨δ, S, P, w, ht, hp⟩ := h
  refine ⟨δ, S, _, w, ht, fun d S1 q x H1 k1 r1 p1 => ?_⟩
  obtain ⟨a, rfl, isd⟩ := isDc_is q.1 r1 p1
  refine ⟨a, rfl, isd, δ, S1, _, w.keep k1 r1, q.2, fun k S2 q2 y H2 k2 r2 p2 => ⟨δ, S2, _, w.keep (k1.trans k2) r2, q2, fun xd S3 q3 z H3 k3 r3 p3 => ?_⟩⟩
  obtain ⟨b, ov, e, g, zz⟩ := at_get q3 r3 (p1.keep (k2.trans k3)) (p2.keep k3)
  cases e
  refine ⟨ov, g, ?_⟩
  rcases zz with ⟨rfl, zz⟩ | ⟨d', v, rfl, rv, zz⟩
  · exact hp _ _ zz _ _ (k1.trans (k2.trans k3)) r3 p3
  · exact hp _ _ zz _ _ (k1.trans (k2.trans k3)) r3 rv
/-- d[k] = v -/
@[simp] def dDput (td ty tv : DTE) : DTS := fun D δ S => tv δ S fun v S1 => td δ S1 fun d S2 => ty δ S2 fun k S3 => match d, isK k with
  | .ref a, some _ => (match S3 a with | some (.dct kvs) => kvs.length < sizeLine ∧ D.nx δ (up S3 a (.dct (dput kvs k v))) | _ => False)
  | _, _ => False
theorem ds_dput {value : Expr} {pos' : Pos} (hu : X.A.units + 1 < cLine) (ho : DE X H0 o td) (hi : DE X H0 i ty) (hv : DE X H0 value tv) (hs : swapsWith value (some (.Subscript o i pos')) pos.line X.env = pure false := by rfl) :
    DS X H0 (.Assign [.Subscript o i pos'] value pos) (dDput td ty tv) := (ps_dput hu ho hi hv hs).to fun D σ H h => by
  obtain ⟨δ, S, D', w, ht, hp⟩ := h
  refine ⟨δ, S, _, w, ht, fun vd S1 q v H1 k1 r1 p1 => ⟨δ, S1, _, w.keep k1 r1, q, fun d S2 q2 x H2 k2 r2 p2 => ⟨δ, S2, _, w.keep (k1.trans k2) r2, q2, fun k S3 q3 y H3 k3 r3 p3 => ?_⟩⟩⟩
  split at q3
  · rename_i a key ek
    split at q3
    · rename_i kvs e
      obtain ⟨ys, hy, n, rs⟩ := r3.dct e
      have ek := isK_kD ek
      subst ek
      have hyk := rep_kD p3
      have kv : KVs X.K H3 kvs ys := ⟨n, rs⟩
      refine ⟨a, _, rep_ref.mp p2, by rw [hyk]; exact .k hy (by rw [kv.length]; exact q3.1), ?_⟩
      exact hp.nx _ _ q3.2 _ _ (k1.trans (k2.trans (k3.trans (keep_dk hy)))) ((w.keep (k1.trans (k2.trans k3)) r3).keep (keep_dk hy) (r3.dctw e hy (kv.put key (p1.keep (k2.trans k3)))))
    · exact q3.elim
  · exact q3.elim
end
end Sb

/-! Contracts of defs over data, the end of a law. -/
namespace Sb
open PySem PySem.Spec PyProof.Rows L2

/-- an exception wanted: its class, its fields, the store -/
abbrev DX := Addr → List (Str × Dv) → Store → Prop
abbrev DSp := List Dv → Store → DK → DX → Prop
def XAt (K : PySem.W.Frag) (H : Hp) (od : Option Addr) : List (Str × Dv) → Prop
  | [] => True
  | fs => ∃ d ys, od = some d ∧ H d = some (.xd ys) ∧ Named K H fs ys
def PX (K : PySem.W.Frag) (H : Hp) (Pe : DX) (E : XK) : Prop := ∀ C fs S1, Pe C fs S1 → ∀ od H1, Keep K H H1 → Rel K S1 H1 → XAt K H1 od fs → E (.ref C) od H1
abbrev X0 : DX := fun _ _ _ => False
theorem px0 {K : PySem.W.Frag} {H : Hp} {E : XK} : PX K H X0 E := fun _ _ _ h => h.elim
theorem PX.keep {K : PySem.W.Frag} {H H1 : Hp} {Pe : DX} {E : XK} (h : PX K H Pe E) (k : Keep K H H1) : PX K H1 Pe E := fun C fs S1 p od H2 k2 r x => h C fs S1 p od H2 (k.trans k2) r x

/-- a def keeps a promise over data -/
structure DFn (P : Program) (w : World) (K : PySem.W.Frag) (mg : Str → Option Value) (base : Heap) (k : Nat) (f : Addr) (fd : FuncData) (ps : List Str) (sp : DSp) : Prop where
  len : ∀ ds S Pq Pe, sp ds S Pq Pe → ds.length = ps.length
  run : ∀ {A : Around} {outer : List Env} {s : Shared} {H : Hp} {args : Args} {us : List Value} {vs : List V} {ds : List Dv} {S : Store} {Pq : DK} {Pe : DX} {Q : VK} {E : XK}, A.guards = some [] → Room k A →
    Env0 P w K mg base A outer s H → BindsTo s fd args (ps.zip us) → Vals vs us → Rel K S H → Reps K H ds vs → sp ds S Pq Pe → PV K H Pq Q → PX K H Pe E →
    codeAny (model P w) A (.call (.ref f) args) (CR (CX P w) outer P w H s Q E) s
theorem DFn.mono {P : Program} {w : World} {K : PySem.W.Frag} {mg : Str → Option Value} {base : Heap} {j k : Nat} {f : Addr} {fd : FuncData} {ps : List Str} {sp : DSp} (F : DFn P w K mg base j f fd ps sp) (h : j ≤ k) : DFn P w K mg base k f fd ps sp :=
  ⟨F.len, fun g r => F.run g (r.mono h)⟩
/-- a promise that follows -/
theorem DFn.imp {P : Program} {w : World} {K : PySem.W.Frag} {mg : Str → Option Value} {base : Heap} {k : Nat} {f : Addr} {fd : FuncData} {ps : List Str} {sp sp' : DSp} (F : DFn P w K mg base k f fd ps sp)
    (len : ∀ ds S Pq Pe, sp' ds S Pq Pe → ds.length = ps.length) (h : ∀ ds S Pq Pe, sp' ds S Pq Pe → VS K S fun S0 => sp ds S0 (fun d S1 => VS K S1 (Pq d)) Pe) : DFn P w K mg base k f fd ps sp' := by
  refine ⟨len, fun g r e b v rl rs q pv px => ?_⟩
  · obtain ⟨S0, r0, q0⟩ := h _ _ _ _ q _ rl
    exact F.run g r e b v r0 rs q0 (fun d S1 p x H1 k1 r1 rep => let ⟨S2, r2, p2⟩ := p H1 r1; pv d S2 p2 x H1 k1 r2 rep) px

section
variable {X : Cx} {H0 : Hp} {k : Nat} {f C : Addr} {fd : FuncData} {ps : List Str} {sp : DSp} {E : XK} {Pe : DX} {x m : Str} {p pos apos : Pos} {e o : Expr} {es : List Expr} {ta : DTE} {t : DTA}
@[simp] def dCall (sp : DSp) (Pe : DX) (t : DTA) : DTE := fun δ S P => t δ S fun ds S1 => sp ds S1 P Pe
theorem go_fn {pins : List (Addr × Obj)} {σ : L2.St} {H : Hp} {s : Shared} {Q : VK} {us : List Value} {vs : List V} {ds : List Dv} {S : Store} {P : DK} (F : DFn X.prog X.w X.K X.mg X.base k f fd ps sp) (hgd : X.A.guards = some []) (hr : Room k X.A)
    (hb : Binds X.K fd ps []) (hx : Passes (CX X.prog X.w) X E) (I : Inv X pins σ H s) (rv : Vals vs us) (rl : Rel X.K S H) (rs : Reps X.K H ds vs) (q : sp ds S P Pe) (pv : PV X.K H P Q) (px : PX X.K H Pe E) :
    wpAny (model X.prog X.w) X.A (call (.ref f) us) (EP X pins σ Q) X.xe s := by
  have hl : (us ++ []).length = ps.length := by rw [List.append_nil, ← rv.length, rs.length]; exact F.len _ _ _ _ q
  have bnd := hb s us I.kIn hl
  rw [List.append_nil] at bnd
  refine wpAny_call (codeAny_mono (F.run hgd hr I.env0 bnd rv rl rs q pv px) fun r s' hq => ?_)
  cases r with
  | error e => exact hx pins σ H s e s' I hq
  | ok fl =>
    cases fl with
    | ret u => exact I.after hq
    | _ => exact (show False from hq).elim
theorem de_call (F : DFn X.prog X.w X.K X.mg X.base k f fd ps sp) (hgd : X.A.guards = some []) (hr : Room k X.A) (hg : Gl X x) (hm : X.mg x = some (.ref f)) (hk : PySem.W.keepIn X.K (.ref f) = true) (hb : Binds X.K fd ps []) (hx : Passes (CX X.prog X.w) X E) (px : PX X.K H0 Pe E)
    (ha : DA X H0 (e :: es) t) (hdb : (x == ("__debug__" : Str)) = false := by decide) (he : starEach (e :: es) X.env = (false, eval e X.env) :: starEach es X.env := by rfl)
    (hpl : (backTo pos (starEach es X.env)).any (·.1) = false := by rfl) : DE X H0 (.Call (.Name x p) (e :: es) [] pos) (dCall sp Pe t) := by
  refine ⟨fun pins s σ H Q I h => wpAny_Call_Name_kw (ld_glob I hg hm ?_ hdb)⟩
  obtain ⟨δ, S, P, w, ht, hp⟩ := h
  refine PySem.W.callWith_K (h₀ := X.base) I.ok.mod.kin hk (thn (ha.run pos pins s σ H (fun vs H1 => ∃ ds S1, Keep X.K H H1 ∧ Rel X.K S1 H1 ∧ Reps X.K H1 ds vs ∧ sp ds S1 P Pe) I ⟨δ, S, _, w, ht, fun ds S1 q vs H1 k1 r1 p1 => ⟨ds, S1, k1, r1, p1, q⟩⟩) fun us s1 q => ?_) he hpl
  obtain ⟨vs, H1, I1, rv, ds, S1, k1, r1, p1, q⟩ := q
  exact ⟨I1.kIn, go_fn F hgd hr hb hx I1 rv r1 p1 q (hp.keep k1) (px.keep (w.base.trans k1))⟩
theorem de_call0 (F : DFn X.prog X.w X.K X.mg X.base k f fd ps sp) (hgd : X.A.guards = some []) (hr : Room k X.A) (hg : Gl X x) (hm : X.mg x = some (.ref f)) (hk : PySem.W.keepIn X.K (.ref f) = true) (hb : Binds X.K fd ps []) (hx : Passes (CX X.prog X.w) X E) (px : PX X.K H0 Pe E)
    (hdb : (x == ("__debug__" : Str)) = false := by decide) : DE X H0 (.Call (.Name x p) [] [] pos) (dCall sp Pe dNil) := by
  refine ⟨fun pins s σ H Q I h => wpAny_Call_Name_kw (ld_glob I hg hm ?_ hdb)⟩
  obtain ⟨δ, S, P, w, ht, hp⟩ := h
  exact PySem.W.callWith_K0 I.kIn hk (go_fn (us := []) F hgd hr hb hx I .nil w.rel .nil ht hp (px.keep w.base))
end

/-! ### a def by its body -/
@[simp] def dstart (N : List Str) (ds : List Dv) : DSt := ds.map some ++ List.replicate (N.length - ds.length) none
theorem wd_start {K : PySem.W.Frag} {H : Hp} {S : Store} {N : List Str} {ds : List Dv} {vs : List V} (r : Rel K S H) (rs : Reps K H ds vs) : Wd K H (L2.start N vs) (dstart N ds) S H := by
  refine ⟨.refl, r, by simp [L2.start, dstart, rs.length], fun i d e => ?_⟩
  unfold dstart at e
  unfold L2.start
  by_cases hi : i < ds.length
  · rw [List.getElem?_append_left (by simpa using hi), List.getElem?_map] at e
    obtain ⟨d', e1, e2⟩ := Option.map_eq_some_iff.mp e
    cases e2
    obtain ⟨v, ev, rv⟩ := rs.get e1
    exact ⟨v, by rw [List.getElem?_append_left (by simpa [rs.length] using hi), List.getElem?_map, ev]; rfl, rv⟩
  · rw [List.getElem?_append_right (by simpa using hi), List.getElem?_replicate] at e
    split at e <;> cases e
section
variable {P : Program} {w : World} {K : PySem.W.Frag} {mg : Str → Option Value} {base : Heap}
theorem guards_deeper {A : Around} {env : Env} (h : A.guards = some []) : (A.deeper env).guards = some [] := by
  first | exact h | simpa [Around.deeper] using h
/-- the promise told by the body's reading -/
def dsp (K : PySem.W.Frag) (N : List Str) (t : DX → DTS) (ds : List Dv) (S : Store) (Pq : DK) (Pe : DX) : Prop :=
  VS K S fun S0 => t Pe { nx := fun _ S1 => VS K S1 (Pq .non), rt := fun d S1 => VS K S1 (Pq d) } (dstart N ds) S0
theorem _root_.L2.Fun.okD {x qual : Str} {st : Stmt} {f : Addr} {fd : FuncData} {N ps : List Str} {k : Nat} {sp : DSp} {t : DX → DTS} (F : Fun K x qual st f fd) (Sc : FnScope N ps (defScope st)) (len : ∀ ds S Pq Pe, sp ds S Pq Pe → ds.length = ps.length)
    (hbody : ∀ (cdv : Value) (A : Around) (outer : List Env) (s : Shared) (H : Hp) (Pe : DX) (E : XK), (A.deeper (PyProof.Rows.envOfC qual (defScope st) s.heap.objs.size f cdv)).guards = some [] → Room k (A.deeper (PyProof.Rows.envOfC qual (defScope st) s.heap.objs.size f cdv)) → PX K H Pe E →
      DSs (cxOf (CX P w) P w K mg base N qual (defScope st) f cdv A outer s H E) H (defBody st) (t Pe))
    (hsp : ∀ ds S Pq Pe, sp ds S Pq Pe → dsp K N t ds S Pq Pe) : DFn P w K mg base (k + 1) f fd ps sp := by
  obtain ⟨oc, od, kV, doc, pm, an, cdv, ct, osl, rfl, lk, hcd⟩ := F.ex
  refine ⟨len, fun {A outer s H args us vs ds S Pq Pe Q E} hgd hr e0 hb rv rl rs q pv px => ?_⟩
  have hl : vs.length = ps.length := by rw [rs.length]; exact len _ _ _ _ q
  have old : ∀ b o, base.get? b = some o → s.heap.get? b = some o := fun b o e => (e0.bs b o e).1
  have KX := PySem.W.Frag.In.keeps e0.mod.kin old
  have lim := Heap.NoLimit.keeps e0.mod.nolimit old
  generalize hsc : defScope st = scope at *
  have hkind : ∀ y ∈ ps.zip us, scope.names.lookup y.1 = some .local ∨ (scope.names.lookup y.1 = some .cell ∧ ((cellsFrom (s.heap.objs.size + 1) scope.names []).lookup y.1).isSome = true) := by
    intro y hy
    exact (Sc.par y.1 (List.of_mem_zip (b := y.2) hy).1).imp id fun z => ⟨z, PySem.W.cellsFrom_some _ _ _ (.inl z)⟩
  refine codeAny_call_function hr.depth (KX _ _ lk) rfl Sc.co Sc.gen rfl (PySem.W.codeRec_of KX hcd) (hb _ _ _ _ ?_)
  refine wpAny_newFunctionEnv_cells Sc.kind hkind fun env he s1 x1 => ?_
  subst he
  refine ⟨lim.keeps x1.toInCall.keep, codeAny_func ?_⟩
  have body := hbody cdv A outer s H Pe E (guards_deeper hgd) (hr.deeper _) px
  obtain ⟨S0, r0, q0⟩ := hsp ds S Pq Pe q H rl
  have I := inv_start (CX := CX P w) (E := E) Sc hr.hd e0 hl rv x1
  have go := body.run [] s1 (L2.start N vs) H { nx := fun _ H' => Q .non H', rt := Q } I ⟨_, S0, _, wd_start r0 rs, q0, fun δ1 S1 z σ1 H1 k1 w1 => ?_, fun _ _ z => z.elim, fun _ _ z => z.elim, fun d S1 z v H1 k1 r1 p1 => ?_⟩
  · refine wpAny_mono go (fun fl s' hs => ?_) fun e s' hs => hs
    cases fl with
    | ret u => exact let ⟨v, σ', H', J, ru, hq⟩ := hs; (show CE outer P w H s Q u s' from ⟨v, H', J.os, J.bare, J.base, J.hok, ru, hq⟩)
    | next => exact let ⟨σ', H', J, hq⟩ := hs; (show CE outer P w H s Q .none s' from ⟨.non, H', J.os, J.bare, J.base, J.hok, rfl, hq⟩)
    | brk => exact let ⟨_, _, _, z⟩ := hs; (show False from z).elim
    | cont => exact let ⟨_, _, _, z⟩ := hs; (show False from z).elim
  · obtain ⟨S2, r2, z2⟩ := z H1 w1.rel
    exact pv _ S2 z2 _ H1 k1 r2 (rep_non.mpr rfl)
  · obtain ⟨S2, r2, z2⟩ := z H1 r1
    exact pv _ S2 z2 _ H1 k1 r2 p1
end

/-! ### the end of a law -/
/-- the law's def, called upon the script -/
theorem law_run {P : Program} {w : World} {K : PySem.W.Frag} {mg mb : Str → Option Value} {k : Nat} {fa a : Addr} {fd : FuncData} {x : Str} {sp : DSp} {s1 : Shared} {vs : List Value} {ns : List Int}
    (KX : K.In s1.heap) (hns : s1.heap.Ns mainGlobals mg) (hbu : s1.heap.Ns builtinsNs mb) (hbb : ∀ x : Str, x ≠ "__name__" → mb x = bootBuiltins x) (hlim : s1.heap.NoLimit) (hg : s1.gens = #[])
    (ha : s1.heap.get? a = some { cls := .type "list", data := .seq vs.toArray }) (hi : IntsAre vs ns) (hl : ns.length ≤ sizeLine) (hr : Room k callerA)
    (F : ∀ base : Heap, K.In base → base.Ns mainGlobals mg → DFn P w K mg base k fa fd [x] sp) (hbind : ∀ (s : Shared) (u : Value), BindsTo s fd ⟨[u], []⟩ [(x, u)])
    (hsp : sp [.scr ns] (fun _ => none) (fun d _ => d = .bl true) X0) :
    codeAny (model P w) callerA (.call (.ref fa) ⟨[.ref a], []⟩) (fun r s' => r = .ok (.ret (.bool true)) ∧ OldK s1.heap s'.heap ∧ s'.os = s1.os ∧ AllBare s'.gens) s1 := by
  have rv := vals_ints hi
  obtain ⟨H, hS, hok, hA, hK, hF⟩ : ∃ H : Hp, SqZ K H a (ns.map V.int) ∧ HOk P w H s1.heap ∧ (∀ b, H b ≠ none → b = a) ∧ (H a ≠ none → K.lookup a = none) ∧ ∀ b u, H b = some u → ∃ o xs, u = .frz o (.lst xs) := by
    cases hk : K.lookup a with
    | some o =>
      have e := KX a o hk
      rw [ha] at e
      cases e
      refine ⟨fun _ => none, .inr ⟨_, vs.toArray, _, hk, rfl, rfl, rfl, ?_, by simpa using rv⟩, fun b u z => absurd z (by simp), fun b z => absurd rfl z, fun z => absurd rfl z, fun b u z => absurd z (by simp)⟩
      rw [List.size_toArray, hi.length]; exact hl
    | none =>
      have key : ∀ (b : Addr) (u : HO), (if b = a then some (HO.frz { cls := .type "list", data := .seq vs.toArray } (.lst (ns.map V.int))) else none) = some u → b = a ∧ u = .frz { cls := .type "list", data := .seq vs.toArray } (.lst (ns.map V.int)) := fun b u z => by
        by_cases hb : b = a
        · rw [if_pos hb] at z; exact ⟨hb, (Option.some.inj z).symm⟩
        · rw [if_neg hb] at z; cases z
      refine ⟨fun b => if b = a then some (.frz { cls := .type "list", data := .seq vs.toArray } (.lst (ns.map V.int))) else none, .inl ⟨_, if_pos rfl⟩, fun b u z => ?_, fun b z => ?_, fun _ => rfl, fun b u z => ⟨_, _, (key b u z).2⟩⟩
      · obtain ⟨rfl, rfl⟩ := key b u z
        exact ⟨ha, by rw [List.length_map]; exact hl, vs, _, rv, ha⟩
      · cases q : (if b = a then some (HO.frz { cls := .type "list", data := .seq vs.toArray } (.lst (ns.map V.int))) else none) with
        | none => exact absurd q z
        | some u => exact (key b u q).1
  have down : ∀ {b : Addr} {o : Obj}, s1.heap.get? b = some o → H b = none → (hidT s1.heap H).get? b = some o := fun e n => hidT_get e n
  have notA : ∀ {b : Addr} {o : Obj} {es : Array DictEntry} {ep : Nat}, s1.heap.get? b = some o → o.data = .dict es ep → H b = none := fun {b o es ep} e d => by
    cases q : H b with
    | none => rfl
    | some u =>
      obtain rfl : b = a := hA b (by rw [q]; exact Option.some_ne_none u)
      rw [ha] at e; cases e
      exact Data.noConfusion (show Data.seq vs.toArray _ = Data.dict es ep from d)
  have nsB : ∀ {b : Addr} {m : Str → Option Value}, s1.heap.Ns b m → (hidT s1.heap H).Ns b m := fun {b m} ⟨o, es, ep, e, d, r⟩ => ⟨o, es, ep, down e (notA e d), d, r⟩
  have inB : K.In (hidT s1.heap H) := fun b o e => down (KX b o e) (by
    cases q : H b with
    | none => rfl
    | some u =>
      obtain rfl : b = a := hA b (by rw [q]; exact Option.some_ne_none u)
      have z := hK (by rw [q]; exact Option.some_ne_none u)
      rw [z] at e; cases e)
  have modB : Mod K mg (hidT s1.heap H) := ⟨inB, nsB hns, ⟨mb, nsB hbu, hbb⟩, let ⟨mc, h1, h2⟩ := hlim; ⟨mc, nsB h1, h2⟩⟩
  have e0 : Env0 P w K mg (hidT s1.heap H) callerA [] s1 H :=
    ⟨rfl, modB, fun _ _ => of_hidT, Nat.le_of_eq (hidT_size _ _), trivial, fun b hb => absurd (show b ∈ ([] : List Addr) from hb) (by simp), hok, .of_eq hg⟩
  have rel0 : Rel K (fun _ => none) H := ⟨fun _ => none, fun _ _ z => absurd z (by simp), fun _ _ z => absurd z (by simp)⟩
  refine codeAny_mono ((F _ inB (nsB hns)).run (E := fun _ _ _ => False) (Q := fun v _ => v = .bl true) (us := [.ref a]) (vs := [.ref a]) rfl hr e0 (hbind s1 (.ref a)) (.cons (show RelV (.ref a) (.ref a) from rfl) .nil) rel0 (.cons (rep_scr.mpr ⟨a, rfl, hS⟩) .nil) hsp
    (fun d S' q v H' _ _ rp => by subst q; exact rep_bl.mp rp) px0) fun r s' h => ?_
  cases r with
  | error e => exact let ⟨_, _, _, _, _, _, _, _, _, _, _, _, z⟩ := h; z.elim
  | ok fl =>
    cases fl with
    | ret u =>
      obtain ⟨v, H', os, bare, un, hok', r', q⟩ := h
      obtain rfl : v = .bl true := q
      obtain rfl : u = Value.bool true := r'
      refine ⟨rfl, OldK.of_keep fun b o e => ?_, os, bare⟩
      cases q : H b with
      | none => exact un.keep b o e q (fun z => absurd (show b ∈ ([] : List Addr) from z) (by simp)) (by simp)
      | some u =>
        obtain ⟨ob, xs, rfl⟩ := hF b u q
        have q2 := un.frzs b ob _ q
        have e1 := (hok b _ q).1
        have e2 := (hok' b _ q2).1
        rw [e] at e1; cases e1
        exact e2
    | _ => exact (show False from h).elim
/-- the goal that k_head leaves, from the law's promise -/
theorem law_walk {l : PySem.W.OpenLaw} {n k : Nat} {q : Program} {loose : List Str} {XP : (Str → Option Value) → Heap → Prop} {YP : World → Heap → Prop} {d : DefRec} {K : Params → PySem.W.Frag} {sp : DSp} {x : Str}
    (hn : l.most = some n) (hn2 : n ≤ sizeLine) (hdf : d.params.defaults = []) (hr : Room k callerA) (hY : ∀ (w : World) (h : Heap), YP w h → (K w.params).In h)
    (F : ∀ (w : World) (mg : Str → Option Value) (fa : Addr) (h : Heap), (K w.params).In h → h.Ns mainGlobals mg → mg d.name = some (.ref fa) →
      ∃ fd : FuncData, (∀ (s : Shared) (u : Value), BindsTo s fd ⟨[u], []⟩ [(x, u)]) ∧ ∀ base : Heap, (K w.params).In base → base.Ns mainGlobals mg → DFn l.prog w (K w.params) mg base k fa fd [x] sp)
    (hsp : ∀ ns : List Int, ns.length ≤ n → (∀ z ∈ ns, Builtin.Int.intBits z ≤ 1048576) → sp [.scr ns] (fun _ => none) (fun d _ => d = .bl true) X0) :
    PySem.W.WalkO q loose XP YP l.row.toRowW d [] (fun f vs => PySem.call f vs) := by
  refine Att.attach_callB hn hdf fun w s0 s1 mg mb fa o pm cd doc a vs ns G Y ho hd hcd hmg hobj hints hlen hbits hg => ?_
  obtain ⟨fd, hb, hF⟩ := F w mg fa _ (hY w _ Y) G.T.g hmg
  exact law_run (hY w _ Y) G.T.g G.T.b G.T.builtins G.T.nolimit hg hobj hints (Nat.le_trans hlen hn2) hr hF hb (hsp ns hlen hbits)

/-! ### what a caller needs of a def -/
structure Cal (P : Program) (w : World) (K : PySem.W.Frag) (mg : Str → Option Value) (base : Heap) (k : Nat) (x : Str) (ps : List Str) (sp : DSp) : Prop where
  ex : ∃ f fd, mg x = some (.ref f) ∧ PySem.W.keepIn K (.ref f) = true ∧ L2.Binds K fd ps [] ∧ DFn P w K mg base k f fd ps sp
section
variable {X : Cx} {H0 : Hp} {k j : Nat} {ps : List Str} {sp : DSp} {x : Str} {p pos : Pos} {e : Expr} {es : List Expr} {t : DTA}
theorem passN {X : Cx} : Passes (CX X.prog X.w) X E0 := passL
/-- f(..), nothing raised -/
theorem de_fn (c : Cal X.prog X.w X.K X.mg X.base j x ps sp) (hgd : X.A.guards = some []) (hr : Room k X.A) (ha : DA X H0 (e :: es) t) (hj : j ≤ k := by decide) (hg : Gl X x := by rfl) (hdb : (x == ("__debug__" : Str)) = false := by decide)
    (he : starEach (e :: es) X.env = (false, eval e X.env) :: starEach es X.env := by rfl) (hpl : (backTo pos (starEach es X.env)).any (·.1) = false := by rfl) : DE X H0 (.Call (.Name x p) (e :: es) [] pos) (dCall sp X0 t) :=
  let ⟨_, _, hm, hk, hb, F⟩ := c.ex
  de_call F hgd (hr.mono hj) hg hm hk hb passN px0 ha hdb he hpl
theorem de_fn0 (c : Cal X.prog X.w X.K X.mg X.base j x ps sp) (hgd : X.A.guards = some []) (hr : Room k X.A) (hj : j ≤ k := by decide) (hg : Gl X x := by rfl) (hdb : (x == ("__debug__" : Str)) = false := by decide) : DE X H0 (.Call (.Name x p) [] [] pos) (dCall sp X0 dNil) :=
  let ⟨_, _, hm, hk, hb, F⟩ := c.ex
  de_call0 F hgd (hr.mono hj) hg hm hk hb passN px0 hdb
end
end Sb

/-! Small things that the printed terms name. -/
namespace Sb
open PySem PySem.Spec L2
theorem units_n {A : Around} {k : Nat} (hr : Room k A) (n : Nat) (h : n ≤ 200 := by decide) : A.units + n < cLine := by have := hr.un; omega
theorem units_1 {A : Around} {k : Nat} (hr : Room k A) : A.units + 1 < cLine := units_n hr 1
theorem units_64 {A : Around} {k : Nat} (hr : Room k A) : A.units + 64 < cLine := units_n hr 64
theorem units_65 {A : Around} {k : Nat} (hr : Room k A) : A.units + 65 < cLine := units_n hr 65
theorem units_100 {A : Around} {k : Nat} (hr : Room k A) : A.units + 100 < cLine := units_n hr 100
/-- a def of the top -/
structure Def (K : PySem.W.Frag) (mg : Str → Option Value) (x qual : Str) (st : Stmt) : Prop where
  ex : ∃ f fd, Fun K x qual st f fd ∧ mg x = some (.ref f)
theorem def_mk {K : PySem.W.Frag} {h : Heap} {mg : Str → Option Value} {x qual : Str} {st : Stmt} (X : K.In h) (G : h.Ns mainGlobals mg) {f : Addr} {oc : Value} {od an : Option Addr} {osl : Array (Option Value)} {kV doc pm cdv ct : Value}
    (a : PySem.W.nsIn K mainGlobals x = some (some (.ref f))) (l : K.lookup f = some ⟨oc, od, .func (PySem.W.fnOf x qual (defArgs st) (defBody st) (defScope st) .none kV doc pm an cdv ct), osl⟩)
    (c : PySem.W.codeIn K cdv qual = true) (k : PySem.W.keepIn K (.ref f) = true) : Def K mg x qual st := ⟨f, _, fun_mk l c k, PySem.W.mg_of X G a⟩

/-! ### {k: v, ..} -/
@[simp] def dPairs : List (DTE × DTE) → DSt → Store → (List (Dv × Dv) → Store → Prop) → Prop
  | [], _, S, P => P [] S
  | (tk, tv) :: r, δ, S, P => tk δ S fun k S1 => tv δ S1 fun v S2 => dPairs r δ S2 fun kvs S3 => P ((k, v) :: kvs) S3
@[simp] def dDisp (trs : List (DTE × DTE)) : DTE := fun δ S P => ∀ p, S p = none → dPairs trs δ (up S p (.dct [])) fun kvs S2 => S2 p = some (.dct []) ∧ kvs.length ≤ 15 ∧ (∀ kv ∈ kvs, (isK kv.1).isSome = true) ∧ P (.ref p) (up S2 p (.dct (dmerge [] kvs)))
def liftPs (K : PySem.W.Frag) (H0 : Hp) (trs : List (DTE × DTE)) : List (TE × TE) := trs.map fun p => (liftE K H0 p.1, liftE K H0 p.2)
theorem pairs_lift {K : PySem.W.Frag} {H0 : Hp} : ∀ (trs : List (DTE × DTE)) (σ : L2.St) (δ : DSt) (S : Store) (H : Hp) (P : List (Dv × Dv) → Store → Prop) (Q : List (V × V) → Hp → Prop), Wd K H0 σ δ S H → dPairs trs δ S P →
    (∀ kvs S', P kvs S' → ∀ ps H', Keep K H H' → Rel K S' H' → Reps K H' (kvs.map (·.1)) (ps.map (·.1)) → Reps K H' (kvs.map (·.2)) (ps.map (·.2)) → Q ps H') → tPairs (liftPs K H0 trs) σ H Q
  | [], σ, δ, S, H, P, Q, w, h, hq => hq [] S h [] H .refl w.rel .nil .nil
  | (tk, tv) :: r, σ, δ, S, H, P, Q, w, h, hq => by
    simp only [dPairs] at h
    refine ⟨δ, S, _, w, h, fun k S1 q1 kx H1 k1 r1 p1 => ⟨δ, S1, _, w.keep k1 r1, q1, fun v S2 q2 vx H2 k2 r2 p2 => ?_⟩⟩
    refine pairs_lift r σ δ S2 H2 _ _ (w.keep (k1.trans k2) r2) q2 fun kvs S3 q3 ps H3 k3 r3 a b => hq _ _ q3 _ H3 (k1.trans (k2.trans k3)) r3 ?_ ?_
    · simp only [List.map_cons]; exact .cons (p1.keep (k2.trans k3)) a
    · simp only [List.map_cons]; exact .cons (p2.keep k3) b
theorem kvs_of {K : PySem.W.Frag} {H : Hp} : ∀ (kvs : List (Dv × Dv)) (ps : List (V × V)), (∀ kv ∈ kvs, (isK kv.1).isSome = true) → Reps K H (kvs.map (·.1)) (ps.map (·.1)) → Reps K H (kvs.map (·.2)) (ps.map (·.2)) →
    ∃ ys : List (Key × V), ps = ys.map (fun kv => (kV kv.1, kv.2)) ∧ KVs K H kvs ys ∧ ys.length = kvs.length
  | [], ps, _, a, _ => by
    have e := a.nil_inv
    simp only [List.map_nil, List.map_eq_nil_iff] at e
    exact ⟨[], e, .nil, rfl⟩
  | (d, e) :: kvs, ps, h, a, b => by
    simp only [List.map_cons] at a b
    obtain ⟨x, xs, e1, r1, a2⟩ := a.cons_inv
    obtain ⟨y, ys', e2, r2, b2⟩ := b.cons_inv
    cases ps with
    | nil => simp at e1
    | cons p ps =>
      simp only [List.map_cons, List.cons.injEq] at e1 e2
      obtain ⟨rfl, rfl⟩ := e1
      obtain ⟨rfl, rfl⟩ := e2
      obtain ⟨ys, h1, h2, h3⟩ := kvs_of kvs ps (fun kv hk => h kv (by simp [hk])) a2 b2
      obtain ⟨key, ek⟩ := Option.isSome_iff_exists.mp (h (d, e) (by simp))
      have ed := isK_kD ek
      simp only at ed
      have ev := rep_kD (by rw [ed] at r1; exact r1)
      exact ⟨(key, p.2) :: ys, by simp only [List.map_cons, ← h1, ← ev], .cons ed r2 h2, by simp [h3]⟩
section
variable {X : Cx} {H0 : Hp} {pos : Pos}
abbrev DPPs (X : Cx) (H0 : Hp) (pos : Pos) (keys : List (Option Expr)) (values : List Expr) (trs : List (DTE × DTE)) : Prop := PPs X pos keys values (liftPs X.K H0 trs)
theorem dpp_nil : DPPs X H0 pos [] [] [] := pps_nil
theorem dpp_cons {k v : Expr} {ks : List (Option Expr)} {vs : List Expr} {tk tv : DTE} {trs : List (DTE × DTE)} (hk : DE X H0 k tk) (hv : DE X H0 v tv) (hr : DPPs X H0 pos ks vs trs) : DPPs X H0 pos (some k :: ks) (v :: vs) ((tk, tv) :: trs) := pps_cons hk hv hr
theorem de_disp {keys : List (Option Expr)} {values : List Expr} {trs : List (DTE × DTE)} (h : DPPs X H0 pos keys values trs) (hall : keys.all (·.isSome) = true := by rfl) (hl : keys.length = values.length := by rfl) (h0 : keys ≠ [] := by exact fun z => nomatch z) (h15 : keys.length ≤ 15 := by decide) :
    DE X H0 (.Dict keys values pos) (dDisp trs) := (pe_disp h hall hl h0 h15).to fun σ H Q q => by
  obtain ⟨δ, S, P, w, ht, hp⟩ := q
  intro p hn
  have r0 : Rel X.K (up S p (.dct [])) (upd H p (.dK [])) := w.rel.laid hn fun own ow => ⟨ow, [], upd_same, rfl, .nil⟩
  refine pairs_lift trs σ δ _ _ _ _ (w.keep (.new hn) r0) (ht p (w.rel.free hn)) fun kvs S2 q2 ps H2 k2 r2 a b => ?_
  obtain ⟨e0, l15, hk, q2⟩ := q2
  obtain ⟨ys, e1, kv, e2⟩ := kvs_of kvs ps hk a b
  obtain ⟨ys0, hy0, n0, _⟩ := r2.dct e0
  have : ys0 = [] := by
    cases ys0 with
    | nil => rfl
    | cons _ _ => simp at n0
  subst this
  exact ⟨hy0, ys, e1, by omega, hp _ _ q2 _ _ ((Keep.new hn).trans (k2.trans (keep_dk hy0))) (r2.dctw e0 hy0 (kv.merge .nil)) (rep_ref.mpr rfl)⟩
end
end Sb

/-! For the reasoning over data. -/
namespace Sb
open PySem PySem.Spec L2

@[simp] theorem szl : sizeLine = 16777216 := sizeLine_eq
@[simp] theorem up_same' {S : Store} {a : Addr} {o : O} : up S a o a = some o := up_same
@[simp] theorem up_up' {S : Store} {a : Addr} {o u : O} : up (up S a o) a u = up S a u := up_up
@[simp] theorem up_none' {S : Store} {a b : Addr} {o : O} : (up S a o b = none) ↔ (b ≠ a ∧ S b = none) := up_none
/-- a part of a store -/
def Sub (S' S : Store) : Prop := ∀ a o, S' a = some o → S a = some o
theorem Sub.refl {S : Store} : Sub S S := fun _ _ h => h
theorem Sub.trans {S S1 S2 : Store} (a : Sub S S1) (b : Sub S1 S2) : Sub S S2 := fun c o h => b c o (a c o h)
theorem Sub.new {S' S : Store} {a : Addr} {o : O} (h : Sub S' S) (hn : S' a = none) : Sub S' (up S a o) := fun b u e => by
  by_cases q : b = a
  · subst q; rw [hn] at e; cases e
  · rw [up_ne q]; exact h b u e
theorem Sub.up {S' S : Store} {a : Addr} {o : O} (h : Sub S' S) : Sub (up S' a o) (up S a o) := fun b u e => by
  by_cases q : b = a
  · subst q; rw [up_same] at e ⊢; exact e
  · rw [up_ne q] at e ⊢; exact h b u e
theorem VS.sub {K : PySem.W.Frag} {S S' : Store} {P : Store → Prop} (hs : Sub S' S) (h : P S') : VS K S P := VS.drop hs h
theorem reps_ints_inv {K : PySem.W.Frag} {H : Hp} : ∀ {ns : List Int} {xs : List V}, Reps K H (ns.map Dv.int) xs → xs = ns.map V.int
  | [], xs, h => h.nil_inv
  | n :: ns, xs, h => by
    obtain ⟨y, ys, rfl, a, b⟩ := h.cons_inv
    rw [rep_int.mp a, reps_ints_inv b]; rfl
/-- the pen put together -/
theorem VS.mkPen {K : PySem.W.Frag} {S S' : Store} {P : Store → Prop} {a l : Addr} {i j : Int} {ns : List Int} (ha : S a = some (.lst [.ref l, .int i, .int j])) (hl : S l = some (.lst (ns.map .int))) (hla : l ≠ a) (h0 : 0 ≤ i) (h63 : ns.length ≤ 63)
    (hs : ∀ b o, b ≠ a → S' b = some o → S b = some o) (hn : S' l = none) (h : P (up S' a .pen)) : VS K S P := fun H r => by
  refine ⟨_, ?_, h⟩
  obtain ⟨own, h1, h2⟩ := r.ex
  have ka := h2 a _ ha
  have kl := h2 l _ hl
  have oa := OK1.mine ka
  have ol := OK1.mine kl
  refine ⟨fun c => if c = l then some a else own c, fun c b e => ?_, fun b o e => ?_⟩
  · dsimp only at e
    by_cases hc : c = l
    · subst hc
      exact ⟨by rw [up_ne hla]; exact hn, OK1.there kl⟩
    · rw [if_neg hc] at e
      obtain ⟨e1, e2⟩ := h1 c b e
      have ca : c ≠ a := fun z => by rw [z, oa] at e; cases e
      refine ⟨?_, e2⟩
      rw [up_ne ca]
      cases q : S' c with
      | none => rfl
      | some u => rw [hs c u ca q] at e1; cases e1
  · by_cases hb : b = a
    · subst hb
      rw [up_same] at e; cases e
      obtain ⟨_, xs, ex, rx⟩ := ka
      obtain ⟨_, ys, ey, ry⟩ := kl
      obtain ⟨v, u, z, rfl, q1, q2, q3⟩ := reps3 rx
      rw [rep_ref.mp q1, rep_int.mp q2, rep_int.mp q3] at ex
      rw [reps_ints_inv ry] at ey
      exact ⟨(if_neg (Ne.symm hla)).trans oa, l, i, j, ns, ex, if_pos rfl, ey, h0, h63⟩
    · rw [up_ne hb] at e
      have bl : b ≠ l := fun z => by rw [z, hn] at e; cases e
      refine OK1.frame (h2 b o (hs b o hb e)) .refl (if_neg bl) (fun c q => ?_) fun _ _ _ => rfl
      have cl : c ≠ l := fun z => by rw [z, ol] at q; cases q
      rw [if_neg cl]; exact q
/-- the pen taken apart -/
theorem VS.openPen {K : PySem.W.Frag} {S : Store} {P : Store → Prop} {a : Addr} (ha : S a = some .pen)
    (h : ∀ (l : Addr) (i j : Int) (ns : List Int), l ≠ a → S l = none → 0 ≤ i → ns.length ≤ 63 → P (up (up S l (.lst (ns.map .int))) a (.lst [.ref l, .int i, .int j]))) : VS K S P := fun H r => by
  obtain ⟨own, h1, h2⟩ := r.ex
  have ka := h2 a _ ha
  obtain ⟨oa, l, i, j, ns, ex, ol, ey, h0, h63⟩ := id ka
  have la : l ≠ a := fun z => by rw [z, oa] at ol; cases ol
  have Sl := (h1 l a ol).1
  refine ⟨_, ?_, h l i j ns la Sl h0 h63⟩
  refine ⟨fun c => if c = l then none else own c, fun c b e => ?_, fun b o e => ?_⟩
  · dsimp only at e
    by_cases hc : c = l
    · rw [if_pos hc] at e; cases e
    · rw [if_neg hc] at e
      obtain ⟨e1, e2⟩ := h1 c b e
      have ca : c ≠ a := fun z => by rw [z, oa] at e; cases e
      exact ⟨by rw [up_ne ca, up_ne hc]; exact e1, e2⟩
  · by_cases hb : b = a
    · subst hb
      rw [up_same] at e; cases e
      exact ⟨(if_neg (Ne.symm la)).trans oa, _, ex, .cons (rep_ref.mpr rfl) (.cons (rep_int.mpr rfl) (.cons (rep_int.mpr rfl) .nil))⟩
    · rw [up_ne hb] at e
      by_cases hc : b = l
      · subst hc
        rw [up_same] at e; cases e
        exact ⟨if_pos rfl, _, ey, Reps.ints ns⟩
      · rw [up_ne hc] at e
        refine OK1.frame (h2 b o e) .refl (if_neg hc) (fun c q => ?_) fun _ _ _ => rfl
        have cl : c ≠ l := fun z => by rw [z, ol] at q; cases q; exact hb rfl
        rw [if_neg cl]; exact q

theorem dSeq_mk {t u : DTS} {D : DEnds} {δ : DSt} {S : Store} (h : t { D with nx := u D } δ S) : dSeq t u D δ S := h
theorem dSeqV_mk {K : PySem.W.Frag} {t u : DTS} {D : DEnds} {δ : DSt} {S : Store} (h : t { D with nx := fun δ1 S1 => VS K S1 fun S2 => u D δ1 S2 } δ S) : dSeqV K t u D δ S := h
theorem dFor_mk {wi : DTI} {p : Pat} {tb : DTS} {D : DEnds} {δ : DSt} {S : Store} (h : wi δ S fun items G S1 => forL p tb D G items δ S1) : dFor wi p tb D δ S := h
/-- a loop, by what holds ahead of the i-th turn -/
theorem forL_ind {p : Pat} {tb : DTS} {D : DEnds} {G : Grd} {items : List Dv} {δ : DSt} {S : Store} (I : Nat → DSt → Store → Prop) (h0 : I 0 δ S)
    (step : ∀ i x δ S, items[i]? = some x → I i δ S → ∀ N : DSt → Store → Prop, (∀ δ' S', I (i + 1) δ' S' → N δ' S') → G S ∧ ∃ δ1, pset p x δ = some δ1 ∧ tb { D with nx := N, ct := N, bk := D.nx } δ1 S)
    (done : ∀ δ S, I items.length δ S → G S ∧ D.nx δ S) : forL p tb D G items δ S := by
  have go : ∀ (n i : Nat), n = items.length - i → i ≤ items.length → ∀ δ S, I i δ S → forL p tb D G (items.drop i) δ S := by
    intro n
    induction n with
    | zero =>
      intro i h1 h2 δ S h
      have e : i = items.length := by omega
      subst e
      rw [List.drop_length]
      simp only [forL]
      exact done δ S h
    | succ n ih =>
      intro i h1 h2 δ S h
      have hlt : i < items.length := by omega
      rw [List.drop_eq_getElem_cons hlt]
      simp only [forL]
      obtain ⟨g, δ1, e, q⟩ := step i items[i] δ S (List.getElem?_eq_getElem hlt) h _ fun δ' S' z => ih (i + 1) (by omega) hlt δ' S' z
      rw [e]
      exact ⟨g, q⟩
  have := go _ 0 rfl (Nat.zero_le _) δ S h0
  simpa using this
/-- a comprehension whose element changes nothing -/
theorem lcRun_pure {p : Pat} {tt : DTT} {te : DTE} {δ : DSt} {G : Grd} {D : Addr} {P : DK} {S0 : Store} (f : Dv → Option Dv) : ∀ (items acc : List Dv), acc.length + items.length ≤ 16777216 → (∀ acc, G (up S0 D (.lst acc))) →
    (∀ x ∈ items, ∃ δ1, pset p x δ = some δ1 ∧ ∀ (acc : List Dv) (N1 : DK) (N2 : Store → Prop), (∀ y, f x = some y → N1 y (up S0 D (.lst acc))) → (f x = none → N2 (up S0 D (.lst acc))) →
      tt δ1 (up S0 D (.lst acc)) fun b S2 => if b = true then te δ1 S2 N1 else N2 S2) →
    P (.ref D) (up S0 D (.lst (acc ++ items.filterMap f))) → lcRun p tt te δ G D P items (up S0 D (.lst acc))
  | [], acc, _, hG, _, h => by
    simp only [lcRun]
    exact ⟨hG acc, by simpa using h⟩
  | x :: xs, acc, hl, hG, hs, h => by
    simp only [lcRun]
    obtain ⟨δ1, e, q⟩ := hs x (by simp)
    rw [e]
    refine ⟨hG acc, q acc _ _ (fun y fy => ?_) fun fn => ?_⟩
    · simp only [up_same, up_up, szl]
      simp only [List.length_cons] at hl
      refine ⟨by omega, lcRun_pure f xs (acc ++ [y]) (by simp; omega) hG (fun x hx => hs x (by simp [hx])) ?_⟩
      rw [List.filterMap_cons_some fy] at h
      simpa using h
    · refine lcRun_pure f xs acc (by simp at hl; omega) hG (fun x hx => hs x (by simp [hx])) ?_
      rw [List.filterMap_cons_none fn] at h
      exact h
theorem lc_mk {wi : DTI} {p : Pat} {tt : DTT} {te : DTE} {vs : List Nat} {δ : DSt} {S : Store} {P : DK} (h : wi δ S fun items G S1 => ∀ D, S1 D = none → lcRun p tt te (wipeD δ vs) G D P items (up S1 D (.lst []))) : dLc wi p tt te vs δ S P := h

/-! ### places -/
@[simp] theorem atI_0 {α : Type} (xs : List α) : atI xs 0 = xs[0]? := by
  unfold atI ixN
  by_cases h : (0 : Int) < xs.length
  · have h' : 0 < xs.length := by omega
    simp [h']
  · simp only [Int.le_refl, if_true, h, if_false]
    have : xs = [] := by cases xs <;> simp_all
    subst this; rfl
@[simp] theorem atI_nat' {α : Type} (xs : List α) (n : Nat) : atI xs (n : Int) = xs[n]? := by
  unfold atI ixN
  by_cases h : (n : Int) < xs.length
  · simp [h]
  · simp only [Int.natCast_nonneg, if_true, h, if_false]
    exact (List.getElem?_eq_none (by omega)).symm
@[simp] theorem atI_2 {α : Type} (xs : List α) : atI xs 2 = xs[2]? := atI_nat' xs 2
@[simp] theorem atI_3 {α : Type} (xs : List α) : atI xs 3 = xs[3]? := atI_nat' xs 3
@[simp] theorem atI_4 {α : Type} (xs : List α) : atI xs 4 = xs[4]? := atI_nat' xs 4
@[simp] theorem atI_5 {α : Type} (xs : List α) : atI xs 5 = xs[5]? := atI_nat' xs 5
@[simp] theorem atI_6 {α : Type} (xs : List α) : atI xs 6 = xs[6]? := atI_nat' xs 6
@[simp] theorem atI_7 {α : Type} (xs : List α) : atI xs 7 = xs[7]? := atI_nat' xs 7
@[simp] theorem atI_1 {α : Type} (xs : List α) : atI xs 1 = xs[1]? := atI_nat' xs 1
theorem atI_of {α : Type} {xs : List α} {i : Int} (h : 0 ≤ i) : atI xs i = xs[i.toNat]? := by
  obtain ⟨n, rfl⟩ := Int.eq_ofNat_of_zero_le h
  simp
@[simp] theorem ixN_0 (n : Nat) : ixN n 0 = if 0 < n then some 0 else none := by
  unfold ixN; by_cases h : 0 < n <;> simp [h]
@[simp] theorem ixN_nat (n k : Nat) : ixN n (k : Int) = if k < n then some k else none := by
  unfold ixN; by_cases h : k < n <;> simp [h]
@[simp] theorem ixN_2 (n : Nat) : ixN n 2 = if 2 < n then some 2 else none := ixN_nat n 2
@[simp] theorem ixN_3 (n : Nat) : ixN n 3 = if 3 < n then some 3 else none := ixN_nat n 3
@[simp] theorem ixN_4 (n : Nat) : ixN n 4 = if 4 < n then some 4 else none := ixN_nat n 4
@[simp] theorem ixN_5 (n : Nat) : ixN n 5 = if 5 < n then some 5 else none := ixN_nat n 5
@[simp] theorem ixN_6 (n : Nat) : ixN n 6 = if 6 < n then some 6 else none := ixN_nat n 6
@[simp] theorem ixN_7 (n : Nat) : ixN n 7 = if 7 < n then some 7 else none := ixN_nat n 7
@[simp] theorem ixN_1 (n : Nat) : ixN n 1 = if 1 < n then some 1 else none := ixN_nat n 1
end Sb

/-! Plain data: no references. -/
namespace Sb
open PySem PySem.Spec L2

mutual
def toP : Dv → PyData
  | .non => .none
  | .bl b => .bool b
  | .int i => .int i
  | .str x => .str x
  | .tup ds => .tuple (toPs ds)
  | .ty _ => .none
  | .ref _ => .none
  | .scr ns => .list (ns.map .int)
def toPs : List Dv → List PyData
  | [] => []
  | d :: ds => toP d :: toPs ds
end
mutual
/-- no reference, no truth value -/
def plain : Dv → Bool
  | .non => true
  | .int _ => true
  | .str x => PyData.strOk x
  | .tup ds => plains ds
  | .bl _ => false
  | .ty _ => false
  | .ref _ => false
  | .scr _ => false
def plains : List Dv → Bool
  | [] => true
  | d :: ds => plain d && plains ds
end
mutual
def dep : Dv → Nat
  | .tup ds => deps ds + 1
  | .non => 0
  | .int _ => 0
  | .str _ => 0
  | .bl _ => 0
  | .ty _ => 0
  | .ref _ => 0
  | .scr _ => 0
def deps : List Dv → Nat
  | [] => 0
  | d :: ds => max (dep d) (deps ds)
end
mutual
theorem datE_plain (f : Addr → Option PyData) : ∀ d : Dv, plain d = true → datE f d = some (toP d)
  | .non, _ => rfl
  | .int _, _ => rfl
  | .str _, _ => rfl
  | .tup ds, h => by
    simp only [plain] at h
    simp only [datE, datEs_plain f ds h, Option.map_some, toP]
  | .bl _, h => by simp [plain] at h
  | .ty _, h => by simp [plain] at h
  | .ref _, h => by simp [plain] at h
  | .scr _, h => by simp [plain] at h
theorem datEs_plain (f : Addr → Option PyData) : ∀ ds : List Dv, plains ds = true → datEs f ds = some (toPs ds)
  | [], _ => rfl
  | d :: ds, h => by
    simp only [plains, Bool.and_eq_true] at h
    simp only [datEs, datE_plain f d h.1, datEs_plain f ds h.2, Option.bind_some, Option.map_some, toPs]
end
mutual
theorem lay_plain : ∀ d : Dv, plain d = true → (toP d).canLay0 = true ∧ (toP d).depth = dep d
  | .non, _ => by simp [toP, PyData.canLay0, PyData.depth, dep]
  | .int _, _ => by simp [toP, PyData.canLay0, PyData.depth, dep]
  | .str _, h => by
    simp only [plain] at h
    simpa [toP, PyData.canLay0, PyData.depth, dep] using h
  | .tup ds, h => by
    simp only [plain] at h
    have := lays_plain ds h
    simp [toP, PyData.canLay0, PyData.depth, dep, this.1, this.2]
  | .bl _, h => by simp [plain] at h
  | .ty _, h => by simp [plain] at h
  | .ref _, h => by simp [plain] at h
  | .scr _, h => by simp [plain] at h
theorem lays_plain : ∀ ds : List Dv, plains ds = true → PyData.canLayAll0 (toPs ds) = true ∧ PyData.depthAll (toPs ds) = deps ds
  | [], _ => by simp [toPs, PyData.canLayAll0, PyData.depthAll, deps]
  | d :: ds, h => by
    simp only [plains, Bool.and_eq_true] at h
    have h1 := lay_plain d h.1
    have h2 := lays_plain ds h.2
    simp [toPs, PyData.canLayAll0, PyData.depthAll, deps, h1, h2]
end
theorem shaped_plain {d : Dv} (h : plain d = true) (hd : dep d ≤ 64) : SeqAt.shaped (toP d) = true := by
  have := lay_plain d h
  unfold SeqAt.shaped
  simp [this.1, this.2, hd]
mutual
theorem eqv_plain : ∀ d e : Dv, plain d = true → plain e = true → (PyData.eqv (toP d) (toP e) = true ↔ d = e)
  | .non, e, _, h2 => by cases e <;> simp_all [toP, PyData.eqv, plain]
  | .int i, e, _, h2 => by cases e <;> simp_all [toP, PyData.eqv, plain]
  | .str x, e, _, h2 => by cases e <;> simp_all [toP, PyData.eqv, plain]
  | .tup ds, .tup es, h1, h2 => by
    simp only [plain] at h1 h2
    simp only [toP, PyData.eqv, Dv.tup.injEq]
    exact eqvs_plain ds es h1 h2
  | .tup ds, .non, _, _ => by simp [toP, PyData.eqv]
  | .tup ds, .int _, _, _ => by simp [toP, PyData.eqv]
  | .tup ds, .str _, _, _ => by simp [toP, PyData.eqv]
  | .tup ds, .bl _, _, h2 => by simp [plain] at h2
  | .tup ds, .ty _, _, h2 => by simp [plain] at h2
  | .tup ds, .ref _, _, h2 => by simp [plain] at h2
  | .tup ds, .scr _, _, h2 => by simp [plain] at h2
  | .bl _, _, h, _ => by simp [plain] at h
  | .ty _, _, h, _ => by simp [plain] at h
  | .ref _, _, h, _ => by simp [plain] at h
  | .scr _, _, h, _ => by simp [plain] at h
theorem eqvs_plain : ∀ ds es : List Dv, plains ds = true → plains es = true → (PyData.eqvAll (toPs ds) (toPs es) = true ↔ ds = es)
  | [], [], _, _ => by simp [toPs, PyData.eqvAll]
  | [], _ :: _, _, _ => by simp [toPs, PyData.eqvAll]
  | _ :: _, [], _, _ => by simp [toPs, PyData.eqvAll]
  | d :: ds, e :: es, h1, h2 => by
    simp only [plains, Bool.and_eq_true] at h1 h2
    simp only [toPs, PyData.eqvAll, Bool.and_eq_true, List.cons.injEq, eqv_plain d e h1.1 h2.1, eqvs_plain ds es h1.2 h2.2]
end
theorem dat_plain {S : Store} {d : Dv} (h : plain d = true) : dat S d = some (toP d) := datE_plain _ d h
theorem dat_list {S : Store} {a : Addr} {ds : List Dv} (h : S a = some (.lst ds)) (hp : plains ds = true) : dat S (.ref a) = some (.list (toPs ds)) := by
  show (match S a with | some (.lst ds) => (datEs (res S 3) ds).map PyData.list | _ => none) = _
  rw [h]
  simp only [datEs_plain _ ds hp, Option.map_some]
open Classical in
theorem gEqF_plain {f : Bool → Bool} {d e : Dv} {S : Store} {P : DK} (h1 : plain d = true) (h2 : plain e = true) (k1 : dep d ≤ 64) (k2 : dep e ≤ 64) : gEqF f d e S P ↔ P (.bl (f (decide (d = e)))) S := by
  have : PyData.eqv (toP d) (toP e) = decide (d = e) := by
    rw [Bool.eq_iff_iff, eqv_plain d e h1 h2]; simp
  unfold gEqF
  split
  · rfl
  rw [dat_plain h1, dat_plain h2]
  simp [shaped_plain h1 k1, shaped_plain h2 k2, this]
open Classical in
theorem gEqF_lists {f : Bool → Bool} {a b : Addr} {ds es : List Dv} {S : Store} {P : DK} (e1 : S a = some (.lst ds)) (e2 : S b = some (.lst es)) (h1 : plains ds = true) (h2 : plains es = true) (k1 : deps ds ≤ 63) (k2 : deps es ≤ 63) :
    gEqF f (.ref a) (.ref b) S P ↔ P (.bl (f (decide (ds = es)))) S := by
  have : PyData.eqv (PyData.list (toPs ds)) (PyData.list (toPs es)) = decide (ds = es) := by
    rw [Bool.eq_iff_iff]
    simp only [PyData.eqv, eqvs_plain ds es h1 h2, decide_eq_true_eq]
  have sh : ∀ {ds : List Dv}, plains ds = true → deps ds ≤ 63 → SeqAt.shaped (PyData.list (toPs ds)) = true := fun {ds} h k => by
    have := lays_plain ds h
    unfold SeqAt.shaped
    simp only [PyData.canLay0, PyData.depth, this.1, this.2, Bool.true_and, decide_eq_true_eq]
    omega
  unfold gEqF
  rw [if_neg (by simp [scl])]
  rw [dat_list e1 h1, dat_list e2 h2]
  simp [sh h1 k1, sh h2 k2, this]
open Classical in
@[simp] theorem gEqF_int {f : Bool → Bool} {a b : Int} {S : Store} {P : DK} : gEqF f (.int a) (.int b) S P ↔ P (.bl (f (decide (a = b)))) S := by
  unfold gEqF; rw [if_pos (by rfl)]; simp
open Classical in
@[simp] theorem gEqF_txt {f : Bool → Bool} {a b : Str} {S : Store} {P : DK} : gEqF f (.str a) (.str b) S P ↔ P (.bl (f (decide (a = b)))) S := by
  unfold gEqF; rw [if_pos (by rfl)]; simp
open Classical in
@[simp] theorem gEqF_bl {f : Bool → Bool} {a b : Bool} {S : Store} {P : DK} : gEqF f (.bl a) (.bl b) S P ↔ P (.bl (f (decide (a = b)))) S := by
  unfold gEqF; rw [if_pos (by rfl)]; simp
open Classical in
@[simp] theorem gEqF_non {f : Bool → Bool} {S : Store} {P : DK} : gEqF f .non .non S P ↔ P (.bl (f true)) S := by
  unfold gEqF; rw [if_pos (by rfl)]; simp
open Classical in
@[simp] theorem gEqF_intnon {f : Bool → Bool} {a : Int} {S : Store} {P : DK} : gEqF f (.int a) .non S P ↔ P (.bl (f false)) S := by
  unfold gEqF; rw [if_pos (by rfl)]; simp
open Classical in
@[simp] theorem gEqF_txtnon {f : Bool → Bool} {a : Str} {S : Store} {P : DK} : gEqF f (.str a) .non S P ↔ P (.bl (f false)) S := by
  unfold gEqF; rw [if_pos (by rfl)]; simp
theorem any_plain {d : Dv} (hd : plain d = true) : ∀ ds : List Dv, plains ds = true → ((toPs ds).any (fun z => PyData.eqv z (toP d)) = true ↔ d ∈ ds)
  | [], _ => by simp [toPs]
  | e :: es, h => by
    simp only [plains, Bool.and_eq_true] at h
    simp only [toPs, List.any_cons, Bool.or_eq_true, eqv_plain e d h.1 hd, any_plain hd es h.2, List.mem_cons]
    exact or_congr eq_comm Iff.rfl
theorem sh_list {ds : List Dv} (h : plains ds = true) (k : deps ds ≤ 63) : SeqAt.shaped (.list (toPs ds)) = true := by
  have := lays_plain ds h
  unfold SeqAt.shaped
  simp only [PyData.canLay0, PyData.depth, this.1, this.2, Bool.true_and, decide_eq_true_eq]
  omega
open Classical in
theorem gInF_tup {f : Bool → Bool} {d : Dv} {ds : List Dv} {S : Store} {P : DK} (h1 : plain d = true) (h2 : plains ds = true) (k1 : dep d ≤ 64) (k2 : deps ds ≤ 63) : gInF f d (.tup ds) S P ↔ P (.bl (f (decide (d ∈ ds)))) S := by
  have e : ((toPs ds).any fun z => PyData.eqv z (toP d)) = decide (d ∈ ds) := by rw [Bool.eq_iff_iff, any_plain h1 ds h2]; simp
  have s2 := shaped_plain (d := .tup ds) (by simpa only [plain] using h2) (by simp only [dep]; omega)
  simp only [toP] at s2
  unfold gInF
  rw [dat_plain h1, dat_plain (d := .tup ds) (by simpa only [plain] using h2)]
  simp [toP, shaped_plain h1 k1, s2, e]
open Classical in
theorem gInF_list {f : Bool → Bool} {d : Dv} {a : Addr} {ds : List Dv} {S : Store} {P : DK} (e0 : S a = some (.lst ds)) (h1 : plain d = true) (h2 : plains ds = true) (k1 : dep d ≤ 64) (k2 : deps ds ≤ 63) : gInF f d (.ref a) S P ↔ P (.bl (f (decide (d ∈ ds)))) S := by
  have e : ((toPs ds).any fun z => PyData.eqv z (toP d)) = decide (d ∈ ds) := by rw [Bool.eq_iff_iff, any_plain h1 ds h2]; simp
  unfold gInF
  rw [dat_plain h1, dat_list e0 h2]
  simp [shaped_plain h1 k1, sh_list h2 k2, e]
/-! ### repr of plain data -/
mutual
def shw : Dv → Bool
  | .int i => decide (i.natAbs.log2 < 1920)
  | .tup ds => shws ds
  | .non => true
  | .str _ => true
  | .bl _ => true
  | .ty _ => true
  | .ref _ => true
  | .scr _ => false
def shws : List Dv → Bool
  | [] => true
  | d :: ds => shw d && shws ds
end
mutual
/-- more than the signs of the repr -/
def cost : Dv → Nat
  | .int _ => 2000
  | .tup ds => costs ds + 2
  | .non => 4
  | .str x => 10 * x.length + 2
  | .bl _ => 5
  | .ty _ => 4
  | .ref _ => 4
  | .scr _ => 0
def costs : List Dv → Nat
  | [] => 0
  | d :: ds => cost d + 2 + costs ds
end

theorem int_len {i : Int} (h : i.natAbs.log2 < 1920) : (Str.ofString (toString i)).length ≤ 2000 := by
  have q := int_text_length_le (a := i) (k := 1920) (by decide) h
  rw [PySem.ofString_length]
  omega
mutual
theorem shown_plain : ∀ d : Dv, plain d = true → shw d = true → (toP d).showable = true ∧ (toP d).shown.length ≤ cost d
  | .non, _, _ => ⟨by simp [toP, PyData.showable], by simp only [toP, PyData.shown, cost]; decide⟩
  | .int i, _, h => by
    simp only [shw, decide_eq_true_eq] at h
    exact ⟨by simpa [toP, PyData.showable] using h, by simp only [toP, PyData.shown, cost]; exact int_len h⟩
  | .str x, h, _ => by
    simp only [plain] at h
    refine ⟨by simp [toP, PyData.showable], ?_⟩
    simp only [toP, PyData.shown, cost]
    refine StrLaws.reprText_len x fun c hc => ?_
    unfold PyData.strOk at h
    rw [← Array.all_toList, List.all_eq_true] at h
    have := h c hc
    simp only [decide_eq_true_eq] at this
    omega
  | .tup ds, h, h2 => by
    simp only [plain] at h
    simp only [shw] at h2
    obtain ⟨q1, q2⟩ := showns_plain ds h h2
    refine ⟨by simpa [toP, PyData.showable] using q1, ?_⟩
    simp only [toP, PyData.shown, cost]
    have := fmt_text (PyData.shownAll (toPs ds))
    omega
  | .bl _, h, _ => by simp [plain] at h
  | .ty _, h, _ => by simp [plain] at h
  | .ref _, h, _ => by simp [plain] at h
  | .scr _, h, _ => by simp [plain] at h
theorem showns_plain : ∀ ds : List Dv, plains ds = true → shws ds = true → PyData.showableAll (toPs ds) = true ∧ piled (PyData.shownAll (toPs ds)) ≤ costs ds
  | [], _, _ => by simp [toPs, PyData.showableAll, PyData.shownAll, piled_nil, costs]
  | d :: ds, h, h2 => by
    simp only [plains, Bool.and_eq_true] at h
    simp only [shws, Bool.and_eq_true] at h2
    obtain ⟨a1, a2⟩ := shown_plain d h.1 h2.1
    obtain ⟨b1, b2⟩ := showns_plain ds h.2 h2.2
    refine ⟨by simp [toPs, PyData.showableAll, a1, b1], ?_⟩
    simp only [toPs, PyData.shownAll, piled_cons, costs]
    omega
end
theorem gRepr_plain {d : Dv} {S : Store} {P : DK} (h : plain d = true) (hs : shw d = true) (hd : dep d ≤ 64) (hc : cost d ≤ 16777216) : gRepr [d] S P ↔ P (.str (toP d).shown) S := by
  obtain ⟨a, b⟩ := shown_plain d h hs
  simp only [gRepr, dat_plain h, shaped_plain h hd, a, szl, true_and]
  exact ⟨fun q => q.2, fun q => ⟨by omega, q⟩⟩
end Sb

/-! Dicts, looked up. -/
namespace Sb
open PySem PySem.Spec L2
open Classical
theorem dval_append (k v j : Dv) : ∀ kvs : List (Dv × Dv), dval (kvs ++ [(k, v)]) j = match dval kvs j with | some x => some x | none => if k = j then some v else none
  | [] => by simp [dval]
  | (k', v') :: r => by
    have ih := dval_append k v j r
    simp only [List.cons_append, dval]
    by_cases h : k' = j
    · simp [h]
    · simp only [h, if_false, ih]
theorem dval_map (k v j : Dv) : ∀ kvs : List (Dv × Dv), dval (kvs.map fun kv => if kv.1 = k then (kv.1, v) else kv) j = (dval kvs j).map fun x => if k = j then v else x
  | [] => by simp [dval]
  | (k', v') :: r => by
    have ih := dval_map k v j r
    simp only [List.map_cons, dval]
    by_cases h : k' = k
    · subst h
      simp only [if_true]
      by_cases h2 : k' = j
      · simp [dval, h2]
      · simp only [dval, h2, if_false, ih]
    · simp only [h, if_false]
      by_cases h2 : k' = j
      · subst h2
        simp [dval, Ne.symm h]
      · simp only [dval, h2, if_false, ih]
theorem dval_put (kvs : List (Dv × Dv)) (k v j : Dv) : dval (dput kvs k v) j = if k = j then some v else dval kvs j := by
  unfold dput
  cases e : dval kvs k with
  | none =>
    simp only [dval_append]
    by_cases h : k = j
    · subst h; simp [e]
    · simp only [h, if_false]; cases dval kvs j <;> rfl
  | some x =>
    simp only [dval_map]
    by_cases h : k = j
    · subst h; simp [e]
    · simp only [h, if_false]; cases dval kvs j <;> rfl
theorem dput_new {kvs : List (Dv × Dv)} {k v : Dv} (h : dval kvs k = none) : dput kvs k v = kvs ++ [(k, v)] := by unfold dput; rw [h]
theorem dput_length (kvs : List (Dv × Dv)) (k v : Dv) : (dput kvs k v).length ≤ kvs.length + 1 := by
  unfold dput
  cases dval kvs k <;> simp
@[simp] theorem dval_nil (k : Dv) : dval [] k = none := rfl
theorem dmerge_cons (kvs more : List (Dv × Dv)) (k v : Dv) : dmerge kvs ((k, v) :: more) = dmerge (dput kvs k v) more := rfl
theorem dmerge_nil (kvs : List (Dv × Dv)) : dmerge kvs [] = kvs := rfl

/-- a comprehension over typed items -/
theorem lcRun_enc {α : Type} (enc : α → Dv) (f : α → Option Dv) {p : Pat} {tt : DTT} {te : DTE} {δ : DSt} {G : Grd} {D : Addr} {P : DK} {S0 : Store} : ∀ (s : List α) (acc : List Dv), acc.length + s.length ≤ 16777216 → (∀ acc, G (up S0 D (.lst acc))) →
    (∀ x ∈ s, ∃ δ1, pset p (enc x) δ = some δ1 ∧ ∀ (acc : List Dv) (N1 : DK) (N2 : Store → Prop), (∀ y, f x = some y → N1 y (up S0 D (.lst acc))) → (f x = none → N2 (up S0 D (.lst acc))) →
      tt δ1 (up S0 D (.lst acc)) fun b S2 => if b = true then te δ1 S2 N1 else N2 S2) →
    P (.ref D) (up S0 D (.lst (acc ++ s.filterMap f))) → lcRun p tt te δ G D P (s.map enc) (up S0 D (.lst acc))
  | [], acc, _, hG, _, h => by
    simp only [lcRun, List.map_nil]
    exact ⟨hG acc, by simpa using h⟩
  | x :: xs, acc, hl, hG, hs, h => by
    simp only [lcRun, List.map_cons]
    obtain ⟨δ1, e, q⟩ := hs x (by simp)
    rw [e]
    refine ⟨hG acc, q acc _ _ (fun y fy => ?_) fun fn => ?_⟩
    · simp only [up_same, up_up, szl]
      simp only [List.length_cons] at hl
      refine ⟨by omega, lcRun_enc enc f xs (acc ++ [y]) (by simp; omega) hG (fun x hx => hs x (by simp [hx])) ?_⟩
      rw [List.filterMap_cons_some fy] at h
      simpa using h
    · refine lcRun_enc enc f xs acc (by simp at hl; omega) hG (fun x hx => hs x (by simp [hx])) ?_
      rw [List.filterMap_cons_none fn] at h
      exact h
theorem lcRun_all {α : Type} (enc : α → Dv) (f : α → Dv) {p : Pat} {te : DTE} {δ : DSt} {G : Grd} {D : Addr} {P : DK} {S0 : Store} (s : List α) (hl : s.length ≤ 16777216) (hG : ∀ acc, G (up S0 D (.lst acc)))
    (hs : ∀ x ∈ s, ∃ δ1, pset p (enc x) δ = some δ1 ∧ ∀ (acc : List Dv) (N : DK), N (f x) (up S0 D (.lst acc)) → te δ1 (up S0 D (.lst acc)) N)
    (h : P (.ref D) (up S0 D (.lst (s.map f)))) : lcRun p dYes te δ G D P (s.map enc) (up S0 D (.lst [])) := by
  refine lcRun_enc enc (fun x => some (f x)) s [] (by simpa using hl) hG (fun x hx => ?_) ?_
  · obtain ⟨δ1, e, q⟩ := hs x hx
    refine ⟨δ1, e, fun acc N1 N2 h1 _ => ?_⟩
    simp only [dYes, if_true]
    exact q acc N1 (h1 _ rfl)
  · rw [List.filterMap_eq_map']
    simpa using h
/-- a loop over typed items -/
theorem forL_enc {α : Type} (enc : α → Dv) {p : Pat} {tb : DTS} {D : DEnds} {G : Grd} {s : List α} {δ : DSt} {S : Store} (I : Nat → DSt → Store → Prop) (h0 : I 0 δ S)
    (step : ∀ i x δ S, s[i]? = some x → I i δ S → ∀ N : DSt → Store → Prop, (∀ δ' S', I (i + 1) δ' S' → N δ' S') → G S ∧ ∃ δ1, pset p (enc x) δ = some δ1 ∧ tb { D with nx := N, ct := N, bk := D.nx } δ1 S)
    (done : ∀ δ S, I s.length δ S → G S ∧ D.nx δ S) : forL p tb D G (s.map enc) δ S := by
  refine forL_ind I h0 (fun i x δ S hx hi N hN => ?_) fun δ S hi => done δ S (by simpa using hi)
  rw [List.getElem?_map] at hx
  obtain ⟨y, ey, rfl⟩ := Option.map_eq_some_iff.mp hx
  exact step i y δ S ey hi N hN
/-- a loop over range(n) -/
theorem forL_range {p : Pat} {tb : DTS} {D : DEnds} {G : Grd} {n : Nat} {δ : DSt} {S : Store} (I : Nat → DSt → Store → Prop) (h0 : I 0 δ S)
    (step : ∀ i δ S, i < n → I i δ S → ∀ N : DSt → Store → Prop, (∀ δ' S', I (i + 1) δ' S' → N δ' S') → G S ∧ ∃ δ1, pset p (.int i) δ = some δ1 ∧ tb { D with nx := N, ct := N, bk := D.nx } δ1 S)
    (done : ∀ δ S, I n δ S → G S ∧ D.nx δ S) : forL p tb D G ((List.range n).map fun (i : Nat) => .int i) δ S := by
  refine forL_enc (fun (i : Nat) => Dv.int i) I h0 (fun i x δ S hx hi N hN => ?_) fun δ S hi => done δ S (by simpa using hi)
  obtain ⟨h1, h2⟩ := List.getElem?_eq_some_iff.mp hx
  simp at h1 h2
  subst h2
  exact step i δ S h1 hi N hN
end Sb

/-! More for the reasoning over data. -/
namespace Sb
open PySem PySem.Spec L2

@[simp] theorem dSeq_eq {t u : DTS} {D : DEnds} {δ : DSt} {S : Store} : dSeq t u D δ S = t { D with nx := u D } δ S := rfl
@[simp] theorem dSeqV_eq {K : PySem.W.Frag} {t u : DTS} {D : DEnds} {δ : DSt} {S : Store} : dSeqV K t u D δ S = t { D with nx := fun δ1 S1 => VS K S1 fun S2 => u D δ1 S2 } δ S := rfl
@[simp] theorem dFor_eq {wi : DTI} {p : Pat} {tb : DTS} {D : DEnds} {δ : DSt} {S : Store} : dFor wi p tb D δ S = wi δ S fun items G S1 => forL p tb D G items δ S1 := rfl
@[simp] theorem up_ne1 {S : Store} {a b : Addr} {o : O} (h : b ≠ a) : up S a o b = S b := up_ne h
@[simp] theorem up_ne2 {S : Store} {a b : Addr} {o : O} (h : S b ≠ S a) : up S a o b = S b := up_ne fun e => h (by rw [e])
theorem ne_of_new {S : Store} {a b : Addr} (h : S b ≠ S a) : ¬ b = a := fun e => h (by rw [e])
/-- a comprehension without tests over typed items, the store grown by its list alone -/
theorem lc_all {α : Type} (enc : α → Dv) (f : α → Dv) {p : Pat} {te : DTE} {δ : DSt} {G : Grd} {P : DK} {S : Store} (s : List α) (hl : s.length ≤ 16777216) (hG : ∀ S', G S')
    (hs : ∀ x ∈ s, ∃ δ1, pset p (enc x) δ = some δ1 ∧ ∀ (S' : Store) (N : DK), Sub S S' → N (f x) S' → te δ1 S' N)
    (h : ∀ D, S D = none → P (.ref D) (up S D (.lst (s.map f)))) : ∀ D, S D = none → lcRun p dYes te δ G D P (s.map enc) (up S D (.lst [])) := fun D hD => by
  refine lcRun_all enc f s hl (fun _ => hG _) (fun x hx => ?_) (h D hD)
  obtain ⟨δ1, e, q⟩ := hs x hx
  exact ⟨δ1, e, fun acc N hN => q _ N (Sub.refl.new hD) hN⟩
theorem Sub.at {S' S : Store} (h : Sub S' S) {a : Addr} {o : O} (e : S' a = some o) : S a = some o := h a o e
theorem cut_toI {xs : List Dv} {d : Int} (h : 0 ≤ d) : cutD xs none (some d) = xs.take d.toNat := by
  obtain ⟨n, rfl⟩ := Int.eq_ofNat_of_zero_le h
  unfold cutD
  rw [HT.sIx_none, HT.sIx_nat]
  simp only [List.drop_zero, Nat.sub_zero, Int.toNat_natCast]
  rw [List.take_eq_take_iff]
  omega
theorem cut_fromI {xs : List Dv} {d : Int} (h : 0 ≤ d) : cutD xs (some d) none = xs.drop d.toNat := by
  obtain ⟨n, rfl⟩ := Int.eq_ofNat_of_zero_le h
  unfold cutD
  rw [HT.sIx_none, HT.sIx_nat]
  simp only [Int.toNat_natCast]
  by_cases hn : n ≤ xs.length
  · rw [Nat.min_eq_left hn, List.take_of_length_le (by simp)]
  · rw [Nat.min_eq_right (by omega), List.drop_of_length_le (by omega), List.drop_of_length_le (by omega)]; simp
/-- a text's code points -/
theorem strOk_lit (s : String) : PyData.strOk (s : Str) = true := by
  show PyData.strOk (PySem.Str.ofString s) = true
  rw [PySem.Str.ofString_eq_toList]
  unfold PyData.strOk
  simp only [List.all_toArray, List.all_map, List.all_eq_true, Function.comp, decide_eq_true_eq]
  intro c _
  have := c.valid
  rcases this with h | ⟨_, h⟩
  · exact Nat.lt_trans h (by decide)
  · exact h
theorem map_getElem? {α β : Type} {f : α → β} {s : List α} {i : Nat} {x : α} (h : s[i]? = some x) : (s.map f)[i]? = some (f x) := by rw [List.getElem?_map, h]; rfl
theorem take_snoc {α : Type} {s : List α} {i : Nat} {x : α} (h : s[i]? = some x) : s.take (i + 1) = s.take i ++ [x] := by rw [List.take_add_one, h]; rfl
theorem get_lt {α : Type} {s : List α} {i : Nat} {x : α} (h : s[i]? = some x) : i < s.length := (List.getElem?_eq_some_iff.mp h).1
theorem get_mem {α : Type} {s : List α} {i : Nat} {x : α} (h : s[i]? = some x) : x ∈ s := List.mem_of_getElem? h
theorem CDivW.of {m : Int} (h : 0 < m) (h2 : m ≤ 100000000000000000000000000000000000000000) : CDivW 0 m := by
  refine ⟨h, ?_⟩
  have : m.natAbs < 2 ^ 200 := Nat.lt_of_le_of_lt (m := 100000000000000000000000000000000000000000) (by omega) (by decide)
  have h3 : m.natAbs.log2 < 200 := (Nat.log2_lt (by omega)).mpr this
  omega
end Sb

/-! More operations over data: len of dicts, is, isinstance, abs. -/
namespace Sb
open PySem PySem.Spec L2
open Classical
theorem cr_or {X : Cx} {f : Value} {r r' : List V → Hp → VK → Prop} (h : CallR X f r) (h' : CallR X f r') : CallR X f (fun xs H Q => r xs H Q ∨ r' xs H Q) := CallR.or h h'
section
variable {X : Cx} {H0 : Hp} {a b c : Expr} {ta tb tc : DTE} {pos : Pos}
/-- len of a sequence, a dict, a text -/
@[simp] def gLenA : GA := fun ds S P => match ds with
  | [.ref a] => (match S a with | some (.lst xs) => P (.int xs.length) S | some (.dct xs) => P (.int xs.length) S | _ => False)
  | [.tup xs] => P (.int xs.length) S
  | [.scr xs] => P (.int xs.length) S
  | [.str z] => z.length ≤ 16777216 ∧ P (.int z.length) S
  | _ => False
theorem cg_lenA : CallG X (.builtin "len") gLenA := ⟨_, cr_or call_len_seq (cr_or call_lenD call_len_str), fun ds S P q vs H Q r rs hp => by
  have seq : ∀ d xs, ds = [d] → sq S d = some xs → P (.int xs.length) S → ∃ (p : Addr) (ys : List V), vs = [.ref p] ∧ (SqL X.K H p ys ∨ SqT X.K H p ys) ∧ Q (.int ys.length) H := fun d xs e e0 q0 => by
    subst e
    obtain ⟨v, rfl, rv⟩ := reps1 rs
    obtain ⟨a, ys, rfl, hq, rs'⟩ := sq_seq r e0 rv
    exact ⟨a, ys, rfl, hq, hp _ _ q0 _ _ .refl r (rep_int.mpr (by rw [rs'.length]))⟩
  unfold gLenA at q
  split at q
  · rename_i a
    split at q
    · rename_i xs e0
      exact .inl (seq _ xs rfl (by simp [sq, e0]) q)
    · rename_i xs e0
      obtain ⟨v, rfl, rv⟩ := reps1 rs
      obtain ⟨ys, hy, n, rs'⟩ := r.dct e0
      exact .inr (.inl ⟨a, ys, by rw [rep_ref.mp rv], hy, hp _ _ q _ _ .refl r (rep_int.mpr (by have := congrArg List.length n; simp at this; rw [this]))⟩)
    · exact q.elim
  · exact .inl (seq _ _ rfl (by simp [sq]) q)
  · rename_i xs
    exact .inl (seq _ (xs.map Dv.int) rfl (by simp [sq]) (by simpa using q))
  · obtain ⟨v, rfl, rv⟩ := reps1 rs
    exact .inr (.inr ⟨_, by rw [rep_str.mp rv], by rw [sizeLine_eq]; exact q.1, hp _ _ q.2 _ _ .refl r (rep_int.mpr rfl)⟩)
  · exact q.elim⟩
/-- is -/
@[simp] def gIs (f : Bool → Bool) : G2 := fun d e S P => match d, e with
  | .non, .non => P (.bl (f true)) S
  | .bl _, .non => P (.bl (f false)) S
  | .int _, .non => P (.bl (f false)) S
  | .str _, .non => P (.bl (f false)) S
  | .ref _, .non => P (.bl (f false)) S
  | .tup _, .non => P (.bl (f false)) S
  | .bl a, .bl b => P (.bl (f (decide (a = b)))) S
  | _, _ => False
theorem c_is : OpG X (compareOp .Is) (gIs id) := ⟨_, op_isN.or op_is_bl, fun d e S P q v u H Q r rv ru hp => by
  unfold gIs at q
  split at q
  · refine .inl ⟨rep_non.mp ru, hp _ _ q _ _ .refl r (rep_bl.mpr ?_)⟩; rw [rep_non.mp rv]; simp
  · refine .inl ⟨rep_non.mp ru, hp _ _ q _ _ .refl r (rep_bl.mpr ?_)⟩; rw [rep_bl.mp rv]; simp
  · refine .inl ⟨rep_non.mp ru, hp _ _ q _ _ .refl r (rep_bl.mpr ?_)⟩; rw [rep_int.mp rv]; simp
  · refine .inl ⟨rep_non.mp ru, hp _ _ q _ _ .refl r (rep_bl.mpr ?_)⟩; rw [rep_str.mp rv]; simp
  · refine .inl ⟨rep_non.mp ru, hp _ _ q _ _ .refl r (rep_bl.mpr ?_)⟩; rw [rep_ref.mp rv]; simp
  · refine .inl ⟨rep_non.mp ru, hp _ _ q _ _ .refl r (rep_bl.mpr ?_)⟩; obtain ⟨_, _, e, _⟩ := rep_tup.mp rv; rw [e]; simp
  · refine .inr ⟨_, _, rep_bl.mp rv, rep_bl.mp ru, hp _ _ q _ _ .refl r (rep_bl.mpr ?_)⟩; simp
  · exact q.elim⟩
theorem c_isnot : OpG X (compareOp .IsNot) (gIs not) := ⟨_, op_notN.or op_isnot_bl, fun d e S P q v u H Q r rv ru hp => by
  unfold gIs at q
  split at q
  · refine .inl ⟨rep_non.mp ru, hp _ _ q _ _ .refl r (rep_bl.mpr ?_)⟩; rw [rep_non.mp rv]; simp
  · refine .inl ⟨rep_non.mp ru, hp _ _ q _ _ .refl r (rep_bl.mpr ?_)⟩; rw [rep_bl.mp rv]; simp
  · refine .inl ⟨rep_non.mp ru, hp _ _ q _ _ .refl r (rep_bl.mpr ?_)⟩; rw [rep_int.mp rv]; simp
  · refine .inl ⟨rep_non.mp ru, hp _ _ q _ _ .refl r (rep_bl.mpr ?_)⟩; rw [rep_str.mp rv]; simp
  · refine .inl ⟨rep_non.mp ru, hp _ _ q _ _ .refl r (rep_bl.mpr ?_)⟩; rw [rep_ref.mp rv]; simp
  · refine .inl ⟨rep_non.mp ru, hp _ _ q _ _ .refl r (rep_bl.mpr ?_)⟩; obtain ⟨_, _, e, _⟩ := rep_tup.mp rv; rw [e]; simp
  · refine .inr ⟨_, _, rep_bl.mp rv, rep_bl.mp ru, hp _ _ q _ _ .refl r (rep_bl.mpr ?_)⟩; simp
  · exact q.elim⟩
@[simp] def gAbs : GA := fun ds S P => match ds with
  | [.int i] => P (.int (if i < 0 then -i else i)) S
  | _ => False
theorem cg_abs : CallG X (.builtin "abs") gAbs := ⟨_, call_abs, fun ds S P q vs H Q r rs hp => by
  unfold gAbs at q
  split at q
  · obtain ⟨v, rfl, rv⟩ := reps1 rs
    exact ⟨_, by rw [rep_int.mp rv], hp _ _ q _ _ .refl r (rep_int.mpr rfl)⟩
  · exact q.elim⟩
end
end Sb

namespace Sb
open PySem PySem.Spec L2
def top (i : Nat) : Stmt := PySem.Challenge.pw_seenbefore_k04_whole_streams_alike.main.body.getD i (.Pass ⟨0, 0, 0, 0⟩)

/-! ### streams -/
def mD (x : Int × Int) : Dv := .tup [.int x.1, .int x.2]
def strD (s : List (Int × Int)) : Dv := .tup (s.map mD)
theorem plains_str (s : List (Int × Int)) : plains (s.map mD) = true ∧ deps (s.map mD) ≤ 1 := by
  induction s with
  | nil => simp [plains, deps]
  | cons n ns ih => simp [plains, plain, deps, dep, mD, ih]
theorem plain_str (s : List (Int × Int)) : plain (strD s) = true ∧ dep (strD s) ≤ 2 := by
  have := plains_str s
  simp [strD, plain, dep, this]
theorem mD_inj {x y : Int × Int} : mD x = mD y ↔ x = y := by
  obtain ⟨a, b⟩ := x; obtain ⟨c, d⟩ := y; simp [mD]
theorem map_mD_inj : ∀ {s t : List (Int × Int)}, s.map mD = t.map mD ↔ s = t
  | [], [] => by simp
  | [], _ :: _ => by simp
  | _ :: _, [] => by simp
  | x :: s, y :: t => by simp [mD_inj, map_mD_inj (s := s) (t := t)]
theorem strD_inj {s t : List (Int × Int)} : strD s = strD t ↔ s = t := by simp [strD, map_mD_inj]
/-- numbers of a size that repr takes -/
def Fit (s : List (Int × Int)) : Prop := ∀ x ∈ s, x.1.natAbs.log2 < 1920 ∧ x.2.natAbs.log2 < 1920
theorem shw_str : ∀ {s : List (Int × Int)}, Fit s → shws (s.map mD) = true ∧ costs (s.map mD) = 4008 * s.length
  | [], _ => by simp [shws, costs]
  | x :: s, h => by
    have ih := shw_str (s := s) fun y hy => h y (by simp [hy])
    have h1 := h x (by simp)
    simp [shws, shw, costs, cost, mD, ih, h1]
    omega
theorem gRepr_str {s : List (Int × Int)} {S : Store} {P : DK} (h : Fit s) (hl : s.length ≤ 4000) : gRepr [strD s] S P ↔ P (.str (toP (strD s)).shown) S := by
  obtain ⟨a, b⟩ := shw_str h
  refine gRepr_plain (plain_str s).1 (by simpa [strD, shw] using a) (by have := (plain_str s).2; omega) ?_
  simp [strD, cost, b]; omega
open Classical in
theorem gEqF_str {f : Bool → Bool} {s t : List (Int × Int)} {S : Store} {P : DK} : gEqF f (strD s) (strD t) S P ↔ P (.bl (f (decide (s = t)))) S := by
  rw [gEqF_plain (plain_str s).1 (plain_str t).1 (by have := (plain_str s).2; omega) (by have := (plain_str t).2; omega)]
  simp only [strD_inj]
@[simp] theorem gEqS {f : Bool → Bool} {s t : List (Int × Int)} {S : Store} {P : DK} : gEqF f (.tup (s.map mD)) (.tup (t.map mD)) S P ↔ P (.bl (f (s == t))) S := by
  have e := gEqF_str (f := f) (s := s) (t := t) (S := S) (P := P)
  rw [show strD s = .tup (s.map mD) from rfl, show strD t = .tup (t.map mD) from rfl] at e
  rw [e]
  have : decide (s = t) = (s == t) := by rw [Bool.eq_iff_iff]; simp
  rw [this]
@[simp] theorem strD_eq (s : List (Int × Int)) : strD s = .tup (s.map mD) := rfl
/-- a stream as the laws draw it -/
structure Drawn (s : List (Int × Int)) (w : Int) (m : Nat) : Prop where
  len : s.length ≤ m
  word : ∀ x ∈ s, 0 ≤ x.1 ∧ x.1 < w
  val : ∀ x ∈ s, x.2.natAbs < 10 ^ 60
theorem takeD (s : List (Int × Int)) (n : Nat) : (s.map mD).take n = (s.take n).map mD := List.map_take.symm
theorem dropD (s : List (Int × Int)) (n : Nat) : (s.map mD).drop n = (s.drop n).map mD := List.map_drop.symm
theorem appD (s t : List (Int × Int)) : s.map mD ++ t.map mD = (s ++ t).map mD := List.map_append.symm

abbrev s_exchanged : Stmt := top 4
abbrev n_exchanged : List Str := ["stream", "one", "two", "names", "word", "value"]
abbrev p_exchanged : List Str := ["stream", "one", "two"]
theorem sc_exchanged : FnScope n_exchanged p_exchanged (defScope s_exchanged) := ⟨rfl, rfl, rfl, by decide +kernel, rfl, by decide +kernel, by decide +kernel⟩
-- return tuple([(word, names.get(value, value)) for word, value in stream])
@[simp] def u_exchanged_2 (K : PySem.W.Frag) (Pe : DX) : DTS :=
  (dRet (dCB gTuple (dCons (dLc (dIT (dVar 0)) (.tp [(.nm 4), (.nm 5)]) dYes (dTup (dCons (dVar 4) (dCons (dDget2 (dVar 3) (dVar 5) (dVar 5)) dNil))) [4, 5]) dNil)))
-- names = {one: two, two: one}
def u_exchanged_1 (K : PySem.W.Frag) (Pe : DX) : DTS :=
  (dSeq (dSet 3 (dDisp [((dVar 1), (dVar 2)), ((dVar 2), (dVar 1))]))
  (u_exchanged_2 K Pe))
abbrev t_exchanged (K : PySem.W.Frag) (Pe : DX) : DTS := (u_exchanged_1 K Pe)
/-- two values exchanged -/
def exv (a b v : Int) : Int := if v = a then b else if v = b then a else v
def exs (a b : Int) (s : List (Int × Int)) : List (Int × Int) := s.map fun x => (x.1, exv a b x.2)
def sp_exchanged : DSp := fun ds S Pq _ => ∃ (s : List (Int × Int)) (a b : Int), ds = [strD s, .int a, .int b] ∧ s.length ≤ 100000 ∧ Pq (strD (exs a b s)) S
theorem len_exchanged : ∀ ds S Pq Pe, sp_exchanged ds S Pq Pe → ds.length = p_exchanged.length := fun _ _ _ _ ⟨_, _, _, h, _⟩ => by subst h; rfl
theorem exv_val (a b v : Int) : (dval (dmerge [] [(.int a, .int b), (.int b, .int a)]) (.int v)).getD (.int v) = .int (exv a b v) := by
  rw [dmerge_cons, dmerge_cons, dmerge_nil, dval_put, dval_put]
  unfold exv
  by_cases h1 : v = a
  · subst h1
    by_cases h2 : b = v
    · subst h2; simp
    · simp [h2]
  · by_cases h2 : v = b
    · subst h2; simp [h1]
    · simp [h1, h2, Ne.symm h1, Ne.symm h2]
theorem hsp_exchanged (K : PySem.W.Frag) : ∀ ds S Pq Pe, sp_exchanged ds S Pq Pe → dsp K n_exchanged (t_exchanged K) ds S Pq Pe := by
  rintro ds S Pq Pe ⟨s, a, b, rfl, hs, h⟩
  refine VS.pure ?_
  refine dSeq_mk ?_
  simp
  intro p hp
  try simp [u_exchanged_2]
  refine lc_mk ?_
  simp [strD]
  intro D hD1 hD2
  refine lcRun_all mD (fun x => mD (x.1, exv a b x.2)) s (by omega) (fun _ => trivial) (fun x hx => ⟨_, rfl, fun acc N hN => ?_⟩) ?_
  · simp [up_ne, Ne.symm hD1]
    rw [exv_val]
    exact hN
  · simp
    refine VS.sub ((Sub.refl.new hp).new (by exact hD2)) ?_
    have e : (s.map fun x => mD (x.1, exv a b x.2)) = (exs a b s).map mD := by simp [exs]
    rw [e]
    exact h
theorem dfn_exchanged {P : Program} {w : World} {K : PySem.W.Frag} {mg : Str → Option Value} {base : Heap} {f : Addr} {fd : FuncData} (F : Fun K "exchanged" "exchanged" s_exchanged f fd) (z_tuple : mg "tuple" = none) : DFn P w K mg base 1 f fd p_exchanged sp_exchanged :=
  Fun.okD (k := 0) (t := t_exchanged K) F sc_exchanged len_exchanged (fun cdv A outer s H Pe E hgd hr px =>
  (dss_cons (ds_set sc_exchanged.nd (de_disp (dpp_cons (dv 1) (dv 2) (dpp_cons (dv 2) (dv 1) dpp_nil))))
  (dss_one (ds_ret (de_callTy cg_tuple (by rfl) z_tuple (by decide +kernel) (da_cons (de_lc (own := [("word", 4), ("value", 5)]) rfl sc_exchanged.nd (di_tup (dv 0)) (blkOk_by (own := [("word", 4), ("value", 5)]) (N := n_exchanged) (sc := defScope s_exchanged) (by decide +kernel)) (fun _ _ _ _ _ => (dp_tp rfl (dps_cons (dp_nm sc_exchanged.nd) (dps_cons (dp_nm sc_exchanged.nd) dps_nil)))) (fun _ _ _ _ _ => dts_nil) (fun _ _ _ _ _ => (de_tup (da_cons (dv 4) (da_cons (de_dget2 (units_1 hr) (dv 3) (dv 5) (dv 5) ⟨rfl, rfl, rfl, rfl⟩) da_nil))))) da_nil)))))) (hsp_exchanged K)
theorem ok_exchanged {P : Program} {w : World} {K : PySem.W.Frag} {mg : Str → Option Value} {base : Heap} (D : Def K mg "exchanged" "exchanged" s_exchanged) (z_tuple : mg "tuple" = none) : Cal P w K mg base 1 "exchanged" p_exchanged sp_exchanged :=
  let ⟨f, fd, F, hm⟩ := D.ex
  ⟨f, fd, hm, F.kp, F.binds (ps := p_exchanged) fun _ _ _ _ _ _ us hl => match us, hl with | [_, _, _], _ => rfl, dfn_exchanged F z_tuple⟩
@[simp] theorem exchanged_iff {s : List (Int × Int)} {a b : Int} {S : Store} {P : DK} {e : DX} : sp_exchanged [.tup (s.map mD), .int a, .int b] S P e ↔ (s.length ≤ 100000 ∧ P (.tup ((exs a b s).map mD)) S) := ⟨fun ⟨_, _, _, h, q⟩ => by
  simp [map_mD_inj] at h; obtain ⟨rfl, rfl, rfl⟩ := h; exact q, fun q => ⟨s, a, b, rfl, q⟩⟩

/-! ### the pen -/
theorem cut_to (xs : List Dv) (j : Nat) : cutD xs none (some (j : Int)) = xs.take j := by
  unfold cutD
  rw [HT.sIx_none, HT.sIx_nat]
  simp only [List.drop_zero, Nat.sub_zero]
  rw [List.take_eq_take_iff]
  omega
abbrev s__law_pen : Stmt := top 6
abbrev n__law_pen : List Str := ["script"]
abbrev p__law_pen : List Str := ["script"]
theorem sc__law_pen : FnScope n__law_pen p__law_pen (defScope s__law_pen) := ⟨rfl, rfl, rfl, by decide +kernel, rfl, by decide +kernel, by decide +kernel⟩
-- return [list(script[:63]), 0, 0]
@[simp] def u__law_pen_1 (K : PySem.W.Frag) (Pe : DX) : DTS :=
  (dRet (dLst (dCons (dCB gList (dCons (dSl (dVar 0) dNoPart (dPart (dC (.int 63)))) dNil)) (dCons (dC (.int 0)) (dCons (dC (.int 0)) dNil)))))
abbrev t__law_pen (K : PySem.W.Frag) (Pe : DX) : DTS := (u__law_pen_1 K Pe)
def sp__law_pen : DSp := fun ds S Pq _ => ∃ ns, ds = [.scr ns] ∧ ns.length ≤ 63 ∧ ∀ a, S a = none → Pq (.ref a) (up S a .pen)
theorem len__law_pen : ∀ ds S Pq Pe, sp__law_pen ds S Pq Pe → ds.length = p__law_pen.length := fun _ _ _ _ ⟨_, h, _⟩ => by subst h; rfl
theorem hsp__law_pen (K : PySem.W.Frag) : ∀ ds S Pq Pe, sp__law_pen ds S Pq Pe → dsp K n__law_pen (t__law_pen K) ds S Pq Pe := by
  rintro ds S Pq Pe ⟨ns, rfl, hl, h⟩
  refine VS.pure ?_
  have e : cutD (ns.map Dv.int) none (some 63) = ns.map Dv.int := by
    rw [show (63 : Int) = ((63 : Nat) : Int) from rfl, cut_to, List.take_of_length_le (by simpa using hl)]
  simp [u__law_pen_1, e]
  intro l h1 l1 h2 h3 l2 h4 h5 h6
  refine VS.mkPen (S' := S) (ns := ns) (l := l1) up_same (by rw [up_ne (Ne.symm h4), up_same]) (Ne.symm h4) (by decide) hl (fun b o hb e => ?_) h3 (h l2 h6)
  rw [up_ne hb, up_ne (some_ne e h3), up_ne (some_ne e h1), e]
theorem dfn__law_pen {P : Program} {w : World} {K : PySem.W.Frag} {mg : Str → Option Value} {base : Heap} {f : Addr} {fd : FuncData} (F : Fun K "_law_pen" "_law_pen" s__law_pen f fd) (z_list : mg "list" = none) : DFn P w K mg base 1 f fd p__law_pen sp__law_pen :=
  Fun.okD (k := 0) (t := t__law_pen K) F sc__law_pen len__law_pen (fun cdv A outer s H Pe E hgd hr px =>
  (dss_one (ds_ret (de_lst (da_cons (de_callTy cg_list (by rfl) z_list (by decide +kernel) (da_cons (de_sl (dv 0) do_none (do_some de_int)) da_nil)) (da_cons de_int (da_cons de_int da_nil))))))) (hsp__law_pen K)
theorem ok__law_pen {P : Program} {w : World} {K : PySem.W.Frag} {mg : Str → Option Value} {base : Heap} (D : Def K mg "_law_pen" "_law_pen" s__law_pen) (z_list : mg "list" = none) : Cal P w K mg base 1 "_law_pen" p__law_pen sp__law_pen :=
  let ⟨f, fd, F, hm⟩ := D.ex
  ⟨f, fd, hm, F.kp, F.binds (ps := p__law_pen) fun _ _ _ _ _ _ us hl => match us, hl with | [_], _ => rfl, dfn__law_pen F z_list⟩
abbrev s__law_fresh : Stmt := top 7
abbrev n__law_fresh : List Str := ["pen", "at", "cell", "p", "state", "found", "turn"]
abbrev p__law_fresh : List Str := ["pen"]
theorem sc__law_fresh : FnScope n__law_fresh p__law_fresh (defScope s__law_fresh) := ⟨rfl, rfl, rfl, by decide +kernel, rfl, by decide +kernel, by decide +kernel⟩
-- cell = pen[0][at % len(pen[0])]
@[simp] def u__law_fresh_5 (K : PySem.W.Frag) (Pe : DX) : DTS :=
  (dSet 2 (dBin gIx (dBin gIx (dVar 0) (dC (.int 0))) (dBin gMod (dVar 1) (dCB gLenA (dCons (dBin gIx (dVar 0) (dC (.int 0))) dNil)))))
-- return cell - 10 ** 18
@[simp] def u__law_fresh_7 (K : PySem.W.Frag) (Pe : DX) : DTS :=
  (dRet (dBin gSub (dVar 2) (dBin gPow (dC (.int 10)) (dC (.int 18)))))
-- found = found * p + state
@[simp] def u__law_fresh_13 (K : PySem.W.Frag) (Pe : DX) : DTS :=
  (dSet 5 (dBin gAdd (dBin gMul (dVar 5) (dVar 3)) (dVar 4)))
-- state = (state * state + 69621 * (turn + 1) * (at + 1) + cell) % p
def u__law_fresh_12 (K : PySem.W.Frag) (Pe : DX) : DTS :=
  (dSeq (dSet 4 (dBin gMod (dBin gAdd (dBin gAdd (dBin gMul (dVar 4) (dVar 4)) (dBin gMul (dBin gMul (dC (.int 69621)) (dBin gAdd (dVar 6) (dC (.int 1)))) (dBin gAdd (dVar 1) (dC (.int 1))))) (dVar 2)) (dVar 3)))
  (u__law_fresh_13 K Pe))
-- return found
@[simp] def u__law_fresh_14 (K : PySem.W.Frag) (Pe : DX) : DTS :=
  (dRet (dVar 5))
-- for turn in range(6):
def u__law_fresh_11 (K : PySem.W.Frag) (Pe : DX) : DTS :=
  (dSeq (dFor (dIR1 (dCons (dC (.int 6)) dNil)) (.nm 6)
  (u__law_fresh_12 K Pe))
  (u__law_fresh_14 K Pe))
-- found = state
def u__law_fresh_10 (K : PySem.W.Frag) (Pe : DX) : DTS :=
  (dSeq (dSet 5 (dVar 4))
  (u__law_fresh_11 K Pe))
-- state = (cell * 48271 + 40692 * at + 31) % p
def u__law_fresh_9 (K : PySem.W.Frag) (Pe : DX) : DTS :=
  (dSeq (dSet 4 (dBin gMod (dBin gAdd (dBin gAdd (dBin gMul (dVar 2) (dC (.int 48271))) (dBin gMul (dC (.int 40692)) (dVar 1))) (dC (.int 31))) (dVar 3)))
  (u__law_fresh_10 K Pe))
-- p = 2305843009213693951
def u__law_fresh_8 (K : PySem.W.Frag) (Pe : DX) : DTS :=
  (dSeq (dSet 3 (dC (.int 2305843009213693951)))
  (u__law_fresh_9 K Pe))
-- if at < len(pen[0]) and cell >= 10 ** 18:
def u__law_fresh_6 (K : PySem.W.Frag) (Pe : DX) : DTS :=
  (dSeq (dIfS (dAnd (dB (dBin (gCmp fun i j => decide (i < j)) (dVar 1) (dCB gLenA (dCons (dBin gIx (dVar 0) (dC (.int 0))) dNil)))) (dB (dBin (gCmp fun i j => decide (j ≤ i)) (dVar 2) (dBin gPow (dC (.int 10)) (dC (.int 18))))))
  (u__law_fresh_7 K Pe)
  dNext)
  (u__law_fresh_8 K Pe))
-- if pen[0] != []:
def u__law_fresh_4 (K : PySem.W.Frag) (Pe : DX) : DTS :=
  (dSeq (dIfS (dB (dBin (gEqF not) (dBin gIx (dVar 0) (dC (.int 0))) (dLst dNil)))
  (u__law_fresh_5 K Pe)
  dNext)
  (u__law_fresh_6 K Pe))
-- cell = 0
def u__law_fresh_3 (K : PySem.W.Frag) (Pe : DX) : DTS :=
  (dSeq (dSet 2 (dC (.int 0)))
  (u__law_fresh_4 K Pe))
-- pen[1] = at + 1
def u__law_fresh_2 (K : PySem.W.Frag) (Pe : DX) : DTS :=
  (dSeq (dSetIx (dBin gAdd (dVar 1) (dC (.int 1))) (dVar 0) (dC (.int 1)))
  (u__law_fresh_3 K Pe))
-- at = pen[1]
def u__law_fresh_1 (K : PySem.W.Frag) (Pe : DX) : DTS :=
  (dSeq (dSet 1 (dBin gIx (dVar 0) (dC (.int 1))))
  (u__law_fresh_2 K Pe))
abbrev t__law_fresh (K : PySem.W.Frag) (Pe : DX) : DTS := (u__law_fresh_1 K Pe)
def sp__law_fresh : DSp := fun ds S Pq _ => ∃ (a l : Addr) (i j : Int) (ns : List Int), ds = [.ref a] ∧ S a = some (.lst [.ref l, .int i, .int j]) ∧ S l = some (.lst (ns.map .int)) ∧ l ≠ a ∧ 0 ≤ i ∧ ns.length ≤ 63 ∧ ∀ r, Pq (.int r) (up S a (.lst [.ref l, .int (i + 1), .int j]))
theorem len__law_fresh : ∀ ds S Pq Pe, sp__law_fresh ds S Pq Pe → ds.length = p__law_fresh.length := fun _ _ _ _ ⟨_, _, _, _, _, h, _⟩ => by subst h; rfl
theorem plains_ints (ns : List Int) : plains (ns.map Dv.int) = true ∧ deps (ns.map Dv.int) = 0 ∧ toPs (ns.map Dv.int) = ns.map PyData.int := by
  induction ns with
  | nil => simp [plains, deps, toPs]
  | cons n ns ih => simp [plains, plain, deps, dep, toPs, toP, ih]
theorem hsp__law_fresh (K : PySem.W.Frag) : ∀ ds S Pq Pe, sp__law_fresh ds S Pq Pe → dsp K n__law_fresh (t__law_fresh K) ds S Pq Pe := by
  rintro ds S Pq Pe ⟨a, l, i, j, ns, rfl, ha, hl, hla, hi, hn, h⟩
  refine VS.pure ?_
  refine dSeq_mk ?_
  simp [ha]
  refine dSeq_mk ?_
  simp [ha]
  refine dSeq_mk ?_
  simp
  refine dSeq_mk ?_
  simp
  intro e he1 he2
  have hle : l ≠ e := some_ne hl he2
  have hae : a ≠ e := some_ne ha he2
  have ok : ∀ r, VS K (up (up S a (.lst [.ref l, .int (i + 1), .int j])) e (.lst [])) (Pq (.int r)) := fun r => VS.sub (Sub.new Sub.refl (by rw [up_ne (Ne.symm hae)]; exact he2)) (h r)
  refine (gEqF_lists (ds := ns.map .int) (es := []) (by simp [up_ne, hle, hla, hl]) up_same (plains_ints ns).1 rfl (by rw [(plains_ints ns).2.1]; decide) (by decide)).mpr ?_
  have fin : ∀ c : Int, u__law_fresh_6 K Pe { nx := fun x S1 => VS K S1 (Pq .non), rt := fun d S1 => VS K S1 (Pq d) } [some (.ref a), some (.int i), some (.int c), none, none, none, none] (up (up S a (.lst [.ref l, .int (i + 1), .int j])) e (.lst [])) := by
    intro c
    have rest : u__law_fresh_8 K Pe { nx := fun x S1 => VS K S1 (Pq .non), rt := fun d S1 => VS K S1 (Pq d) } [some (.ref a), some (.int i), some (.int c), none, none, none, none] (up (up S a (.lst [.ref l, .int (i + 1), .int j])) e (.lst [])) := by
      refine dSeq_mk ?_
      simp
      refine dSeq_mk ?_
      simp
      refine ⟨.inr ⟨by decide, by decide⟩, .inl ⟨by decide, by decide⟩, ?_⟩
      refine dSeq_mk ?_
      simp
      refine dSeq_mk ?_
      refine dFor_mk ?_
      simp
      refine forL_ind (fun k δ S' => S' = up (up S a (.lst [.ref l, .int (i + 1), .int j])) e (.lst []) ∧ ∃ (st fo : Int) (x : Option Dv), 0 ≤ st ∧ st < 2305843009213693951 ∧ δ = [some (.ref a), some (.int i), some (.int c), some (.int 2305843009213693951), some (.int st), some (.int fo), x])
        ⟨rfl, _, _, _, Int.emod_nonneg _ (by decide), Int.emod_lt_of_pos _ (by decide), rfl⟩ ?_ ?_
      · rintro k x δ S' hx ⟨rfl, st, fo, y, h1, h2, rfl⟩ N hN
        obtain ⟨m, rfl, hm⟩ : ∃ m : Nat, x = .int m ∧ m < 6 := by
          rw [List.getElem?_map] at hx
          obtain ⟨m, e1, rfl⟩ := Option.map_eq_some_iff.mp hx
          have := (List.getElem?_eq_some_iff.mp e1).2
          simp at this
          have := (List.getElem?_eq_some_iff.mp e1).1
          simp at this
          exact ⟨m, rfl, by omega⟩
        refine ⟨trivial, _, rfl, ?_⟩
        refine dSeq_mk ?_
        simp
        refine ⟨.inl ⟨by omega, by omega⟩, .inl ⟨by decide, by decide⟩, .inl ⟨by omega, by omega⟩, ?_⟩
        try simp [u__law_fresh_13]
        refine ⟨.inr ⟨by decide, by decide⟩, hN _ _ ⟨rfl, _, _, _, Int.emod_nonneg _ (by decide), Int.emod_lt_of_pos _ (by decide), rfl⟩⟩
      · rintro δ S' ⟨rfl, st, fo, y, h1, h2, rfl⟩
        refine ⟨trivial, ?_⟩
        simp [u__law_fresh_14]
        exact ok _
    refine dSeq_mk ?_
    simp [up_ne, hae, hla, hl, hle]
    refine ite2 (fun _ => ?_) fun _ => rest
    refine ⟨⟨by decide, by decide, by decide⟩, ite2 (fun _ => ?_) fun _ => rest⟩
    try simp [u__law_fresh_7]
    exact ⟨⟨by decide, by decide, by decide⟩, ok _⟩
  simp
  refine ite2 (fun _ => fin 0) fun hne => ?_
  have hpos : 0 < ns.length := List.length_pos_iff.mpr (by simpa using hne)
  have hz : (0 : Int) < ns.length := by omega
  simp [u__law_fresh_5, up_ne, hae, hla, hl, hle, hz]
  rw [atI_of (Int.emod_nonneg _ (by omega))]
  have hlt : (i % (ns.length : Int)).toNat < ns.length := by have := Int.emod_lt_of_pos i hz; have := Int.emod_nonneg i (b := (ns.length : Int)) (by omega); omega
  simp [hlt]
  exact ⟨hpos, fin _⟩
theorem dfn__law_fresh {P : Program} {w : World} {K : PySem.W.Frag} {mg : Str → Option Value} {base : Heap} {f : Addr} {fd : FuncData} (F : Fun K "_law_fresh" "_law_fresh" s__law_fresh f fd) (z_len : mg "len" = none) (z_range : mg "range" = none) : DFn P w K mg base 1 f fd p__law_fresh sp__law_fresh :=
  Fun.okD (k := 0) (t := t__law_fresh K) F sc__law_fresh len__law_fresh (fun cdv A outer s H Pe E hgd hr px =>
  (dss_cons (ds_set sc__law_fresh.nd (de_ix (dv 0) de_int))
  (dss_cons (ds_setIx (de_op o_add (dv 1) de_int) (dv 0) de_int)
  (dss_cons (ds_set sc__law_fresh.nd de_int)
  (dss_cons (ds_if (dt_cmp (c_ne (units_64 hr)) (de_ix (dv 0) de_int) (de_lst da_nil))
  (dss_one (ds_set sc__law_fresh.nd (de_ix (de_ix (dv 0) de_int) (de_op o_mod (dv 1) (de_callB cg_lenA (by rfl) z_len (by decide +kernel) (da_cons (de_ix (dv 0) de_int) da_nil))))))
  dss_nil)
  (dss_cons (ds_if (L2.PW.pt (dw_and (dt_cmp c_lt (dv 1) (de_callB cg_lenA (by rfl) z_len (by decide +kernel) (da_cons (de_ix (dv 0) de_int) da_nil))) (dw_and1 (dt_cmp c_ge (dv 2) (de_op o_pow de_int de_int)))))
  (dss_one (ds_ret (de_op o_sub (dv 2) (de_op o_pow de_int de_int))))
  dss_nil)
  (dss_cons (ds_set sc__law_fresh.nd de_int)
  (dss_cons (ds_set sc__law_fresh.nd (de_op o_mod (de_op o_add (de_op o_add (de_op o_mul (dv 2) de_int) (de_op o_mul de_int (dv 1))) de_int) (dv 3)))
  (dss_cons (ds_set sc__law_fresh.nd (dv 4))
  (dss_cons (ds_for (passes_of rfl) rfl (di_range1 (by rfl) z_range (da_cons de_int da_nil)) (dp_nm sc__law_fresh.nd)
  (dss_cons (ds_set sc__law_fresh.nd (de_op o_mod (de_op o_add (de_op o_add (de_op o_mul (dv 4) (dv 4)) (de_op o_mul (de_op o_mul de_int (de_op o_add (dv 6) de_int)) (de_op o_add (dv 1) de_int))) (dv 2)) (dv 3)))
  (dss_one (ds_set sc__law_fresh.nd (de_op o_add (de_op o_mul (dv 5) (dv 3)) (dv 4))))))
  (dss_one (ds_ret (dv 5))))))))))))) (hsp__law_fresh K)
theorem ok__law_fresh {P : Program} {w : World} {K : PySem.W.Frag} {mg : Str → Option Value} {base : Heap} (D : Def K mg "_law_fresh" "_law_fresh" s__law_fresh) (z_len : mg "len" = none) (z_range : mg "range" = none) : Cal P w K mg base 1 "_law_fresh" p__law_fresh sp__law_fresh :=
  let ⟨f, fd, F, hm⟩ := D.ex
  ⟨f, fd, hm, F.kp, F.binds (ps := p__law_fresh) fun _ _ _ _ _ _ us hl => match us, hl with | [_], _ => rfl, dfn__law_fresh F z_len z_range⟩
abbrev s__law_draw : Stmt := top 8
abbrev n__law_draw : List Str := ["pen", "many", "digit"]
abbrev p__law_draw : List Str := ["pen", "many"]
theorem sc__law_draw : FnScope n__law_draw p__law_draw (defScope s__law_draw) := ⟨rfl, rfl, rfl, by decide +kernel, rfl, by decide +kernel, by decide +kernel⟩
-- pen[2] = _law_fresh(pen)
@[simp] def u__law_draw_2 (K : PySem.W.Frag) (Pe : DX) : DTS :=
  (dSetIx (dCall sp__law_fresh X0 (dCons (dVar 0) dNil)) (dVar 0) (dC (.int 2)))
-- return digit
@[simp] def u__law_draw_5 (K : PySem.W.Frag) (Pe : DX) : DTS :=
  (dRet (dVar 2))
-- pen[2] = pen[2] // many
def u__law_draw_4 (K : PySem.W.Frag) (Pe : DX) : DTS :=
  (dSeq (dSetIx (dBin gDivW (dBin gIx (dVar 0) (dC (.int 2))) (dVar 1)) (dVar 0) (dC (.int 2)))
  (u__law_draw_5 K Pe))
-- digit = pen[2] % many
def u__law_draw_3 (K : PySem.W.Frag) (Pe : DX) : DTS :=
  (dSeq (dSet 2 (dBin gMod (dBin gIx (dVar 0) (dC (.int 2))) (dVar 1)))
  (u__law_draw_4 K Pe))
-- if pen[2] < many:
def u__law_draw_1 (K : PySem.W.Frag) (Pe : DX) : DTS :=
  (dSeq (dIfS (dB (dBin (gCmp fun i j => decide (i < j)) (dBin gIx (dVar 0) (dC (.int 2))) (dVar 1)))
  (u__law_draw_2 K Pe)
  dNext)
  (u__law_draw_3 K Pe))
abbrev t__law_draw (K : PySem.W.Frag) (Pe : DX) : DTS := (u__law_draw_1 K Pe)
def sp__law_draw : DSp := fun ds S Pq _ => ∃ (a : Addr) (m : Int), ds = [.ref a, .int m] ∧ S a = some .pen ∧ (0 < m ∧ m ≤ 100000000000000000000000000000000000000000) ∧ ∀ d : Int, 0 ≤ d → d < m → Pq (.int d) S
theorem len__law_draw : ∀ ds S Pq Pe, sp__law_draw ds S Pq Pe → ds.length = p__law_draw.length := fun _ _ _ _ ⟨_, _, h, _⟩ => by subst h; rfl
theorem hsp__law_draw (K : PySem.W.Frag) : ∀ ds S Pq Pe, sp__law_draw ds S Pq Pe → dsp K n__law_draw (t__law_draw K) ds S Pq Pe := by
  rintro ds S Pq Pe ⟨a, m, rfl, ha, hm, h⟩
  have hm0 : 0 < m := hm.1
  have hm := CDivW.of hm.1 hm.2
  refine VS.openPen ha fun l i j ns hla hl hi hn => ?_
  have rest : ∀ i' j' : Int, 0 ≤ i' → u__law_draw_3 K Pe { nx := fun x S1 => VS K S1 (Pq .non), rt := fun d S1 => VS K S1 (Pq d) } [some (.ref a), some (.int m), none] (up (up S l (.lst (ns.map .int))) a (.lst [.ref l, .int i', .int j'])) := by
    intro i' j' hi'
    refine dSeq_mk ?_
    simp
    refine ⟨hm0, ?_⟩
    refine dSeq_mk ?_
    simp
    refine ⟨hm, ?_⟩
    try simp [u__law_draw_5]
    refine VS.mkPen (S' := S) (ns := ns) up_same (by rw [up_ne hla, up_same]) hla hi' hn (fun b o hb e => ?_) hl ?_
    · rw [up_ne hb, up_ne (some_ne e hl), e]
    · rw [up_self ha]
      exact h _ (Int.emod_nonneg _ (by omega)) (Int.emod_lt_of_pos _ hm0)
  refine dSeq_mk ?_
  simp
  refine ite2 (fun _ => ?_) fun _ => rest i j hi
  try simp [u__law_draw_2]
  refine ⟨a, l, i, j, ns, rfl, up_same, by simp [up_ne, hla], hla, hi, hn, fun r => ?_⟩
  simp
  exact rest _ _ (by omega)
theorem dfn__law_draw {P : Program} {w : World} {K : PySem.W.Frag} {mg : Str → Option Value} {base : Heap} {f : Addr} {fd : FuncData} (F : Fun K "_law_draw" "_law_draw" s__law_draw f fd) (C__law_fresh : Cal P w K mg base 1 "_law_fresh" p__law_fresh sp__law_fresh) : DFn P w K mg base 2 f fd p__law_draw sp__law_draw :=
  Fun.okD (k := 1) (t := t__law_draw K) F sc__law_draw len__law_draw (fun cdv A outer s H Pe E hgd hr px =>
  (dss_cons (ds_if (dt_cmp c_lt (de_ix (dv 0) de_int) (dv 1))
  (dss_one (ds_setIx (de_fn C__law_fresh hgd hr (da_cons (dv 0) da_nil)) (dv 0) de_int))
  dss_nil)
  (dss_cons (ds_set sc__law_draw.nd (de_op o_mod (de_ix (dv 0) de_int) (dv 1)))
  (dss_cons (ds_setIx (de_op o_fdivW (de_ix (dv 0) de_int) (dv 1)) (dv 0) de_int)
  (dss_one (ds_ret (dv 2))))))) (hsp__law_draw K)
theorem ok__law_draw {P : Program} {w : World} {K : PySem.W.Frag} {mg : Str → Option Value} {base : Heap} (D : Def K mg "_law_draw" "_law_draw" s__law_draw) (C__law_fresh : Cal P w K mg base 1 "_law_fresh" p__law_fresh sp__law_fresh) : Cal P w K mg base 2 "_law_draw" p__law_draw sp__law_draw :=
  let ⟨f, fd, F, hm⟩ := D.ex
  ⟨f, fd, hm, F.kp, F.binds (ps := p__law_draw) fun _ _ _ _ _ _ us hl => match us, hl with | [_, _], _ => rfl, dfn__law_draw F C__law_fresh⟩
@[simp] theorem pen_iff {a : List Int} {S : Store} {P : DK} {e : DX} : sp__law_pen [.scr a] S P e ↔ (a.length ≤ 63 ∧ ∀ l, S l = none → P (.ref l) (up S l .pen)) := ⟨fun ⟨ns, h, q⟩ => by cases h; exact q, fun q => ⟨a, rfl, q⟩⟩
@[simp] theorem draw_iff {a : Addr} {m : Int} {S : Store} {P : DK} {e : DX} : sp__law_draw [.ref a, .int m] S P e ↔ (S a = some .pen ∧ (0 < m ∧ m ≤ 100000000000000000000000000000000000000000) ∧ ∀ d : Int, 0 ≤ d → d < m → P (.int d) S) := ⟨fun ⟨a', m', h, q⟩ => by cases h; exact q, fun q => ⟨a, m, rfl, q⟩⟩

theorem pick {α : Type} (enc : α → Dv) {vs : List α} {i : Int} (h0 : 0 ≤ i) (h1 : i < vs.length) : ∃ v, v ∈ vs ∧ atI (vs.map enc) i = some (enc v) := by
  have hi : i.toNat < vs.length := by omega
  refine ⟨vs[i.toNat], List.getElem_mem hi, ?_⟩
  rw [atI_of h0, List.getElem?_map, List.getElem?_eq_getElem hi]; rfl

abbrev s__law_stream : Stmt := top 9
abbrev n__law_stream : List Str := ["pen", "words", "most", "values", "large", "found", "lap"]
abbrev p__law_stream : List Str := ["pen", "words", "most", "values"]
theorem sc__law_stream : FnScope n__law_stream p__law_stream (defScope s__law_stream) := ⟨rfl, rfl, rfl, by decide +kernel, rfl, by decide +kernel, by decide +kernel⟩
-- found.append((_law_draw(pen, words), (_law_draw(pen, values) - 1) * large))
@[simp] def u__law_stream_4 (K : PySem.W.Frag) (Pe : DX) : DTS :=
  (dDrop (dBM isL gAppend (dVar 5) (dCons (dTup (dCons (dCall sp__law_draw X0 (dCons (dVar 0) (dCons (dVar 1) dNil))) (dCons (dBin gMul (dBin gSub (dCall sp__law_draw X0 (dCons (dVar 0) (dCons (dVar 3) dNil))) (dC (.int 1))) (dVar 4)) dNil))) dNil)))
-- return tuple(found)
@[simp] def u__law_stream_5 (K : PySem.W.Frag) (Pe : DX) : DTS :=
  (dRet (dCB gTuple (dCons (dVar 5) dNil)))
-- for lap in range(_law_draw(pen, most + 1)):
def u__law_stream_3 (K : PySem.W.Frag) (Pe : DX) : DTS :=
  (dSeq (dFor (dIR1 (dCons (dCall sp__law_draw X0 (dCons (dVar 0) (dCons (dBin gAdd (dVar 2) (dC (.int 1))) dNil))) dNil)) (.nm 6)
  (u__law_stream_4 K Pe))
  (u__law_stream_5 K Pe))
-- found = []
def u__law_stream_2 (K : PySem.W.Frag) (Pe : DX) : DTS :=
  (dSeq (dSet 5 (dLst dNil))
  (u__law_stream_3 K Pe))
-- large = [1, 1, 10 ** 25, -10 ** 58][_law_draw(pen, 4)]
def u__law_stream_1 (K : PySem.W.Frag) (Pe : DX) : DTS :=
  (dSeq (dSet 4 (dBin gIx (dLst (dCons (dC (.int 1)) (dCons (dC (.int 1)) (dCons (dBin gPow (dC (.int 10)) (dC (.int 25))) (dCons (dUn gNeg (dBin gPow (dC (.int 10)) (dC (.int 58)))) dNil))))) (dCall sp__law_draw X0 (dCons (dVar 0) (dCons (dC (.int 4)) dNil)))))
  (u__law_stream_2 K Pe))
abbrev t__law_stream (K : PySem.W.Frag) (Pe : DX) : DTS := (u__law_stream_1 K Pe)
def sp__law_stream : DSp := fun ds S Pq _ => ∃ (a : Addr) (w m v : Int), ds = [.ref a, .int w, .int m, .int v] ∧ S a = some .pen ∧ 0 < w ∧ w ≤ 1000 ∧ 0 ≤ m ∧ m ≤ 1000 ∧ 0 < v ∧ v ≤ 99 ∧ ∀ s, Drawn s w m.toNat → Pq (strD s) S
theorem len__law_stream : ∀ ds S Pq Pe, sp__law_stream ds S Pq Pe → ds.length = p__law_stream.length := fun _ _ _ _ ⟨_, _, _, _, h, _⟩ => by subst h; rfl
theorem cdw {m : Int} (h : 0 < m) (h2 : m ≤ 100000) : CDivW 0 m := by
  refine ⟨h, ?_⟩
  have : m.natAbs < 2 ^ 17 := by omega
  have h3 : m.natAbs.log2 < 17 := (Nat.log2_lt (by omega)).mpr this
  omega
theorem hsp__law_stream (K : PySem.W.Frag) : ∀ ds S Pq Pe, sp__law_stream ds S Pq Pe → dsp K n__law_stream (t__law_stream K) ds S Pq Pe := by
  rintro ds S Pq Pe ⟨a, w, m, v, rfl, ha, w1, w2, m1, m2, v1, v2, h⟩
  refine VS.pure ?_
  refine dSeq_mk ?_
  simp
  refine ⟨⟨by decide, by decide, by decide⟩, ⟨by decide, by decide, by decide⟩, fun l hl => ?_⟩
  have hal : a ≠ l := some_ne ha hl
  refine ⟨by rw [up_ne hal]; exact ha, fun d d0 d4 => ?_⟩
  rw [atI_of d0]
  have go : ∀ lg : Int, lg.natAbs ≤ 10 ^ 58 → u__law_stream_2 K Pe { nx := fun x S1 => VS K S1 (Pq .non), rt := fun d S1 => VS K S1 (Pq d) } [some (.ref a), some (.int w), some (.int m), some (.int v), some (.int lg), none, none]
      (up S l (.lst [.int 1, .int 1, .int 10000000000000000000000000, .int (-10000000000000000000000000000000000000000000000000000000000)])) := by
    intro lg hlg
    generalize O.lst [.int 1, .int 1, .int 10000000000000000000000000, .int (-10000000000000000000000000000000000000000000000000000000000)] = ob
    refine dSeq_mk ?_
    simp
    intro f hf1 hf2
    have haf : a ≠ f := some_ne ha hf2
    refine dSeq_mk ?_
    refine dFor_mk ?_
    simp
    refine ⟨by simp [up_ne, haf, hal, ha], by omega, fun n n0 n1 => ?_⟩
    refine ⟨by omega, by omega, ?_⟩
    refine forL_ind (fun k δ S' => ∃ s x, S' = up (up S l ob) f (.lst (s.map mD)) ∧ Drawn s w k ∧ δ = [some (.ref a), some (.int w), some (.int m), some (.int v), some (.int lg), some (.ref f), x])
      ⟨[], _, rfl, ⟨by simp, by simp, by simp⟩, rfl⟩ ?_ ?_
    · rintro k x δ S' hx ⟨s, y, rfl, ds, rfl⟩ N hN
      have hk : k < n.toNat := by
        have := (List.getElem?_eq_some_iff.mp hx).1
        simpa using this
      refine ⟨trivial, _, rfl, ?_⟩
      simp [u__law_stream_4]
      refine ⟨by simp [up_ne, haf, hal, ha], ⟨w1, by omega⟩, fun e e0 e1 => ?_⟩
      refine ⟨by simp [up_ne, haf, hal, ha], ⟨v1, by omega⟩, fun g g0 g1 => ?_⟩
      refine ⟨.inl ⟨by omega, by omega⟩, by have := ds.len; omega, hN _ _ ⟨s ++ [(e, (g - 1) * lg)], _, by simp [mD], ⟨?_, ?_, ?_⟩, rfl⟩⟩
      · have := ds.len; simp; omega
      · intro z hz
        rcases List.mem_append.mp hz with hz | hz
        · exact ds.word z hz
        · simp at hz; subst hz; exact ⟨e0, e1⟩
      · intro z hz
        rcases List.mem_append.mp hz with hz | hz
        · exact ds.val z hz
        · simp at hz; subst hz
          simp only [Int.natAbs_mul]
          have h1 : (g - 1).natAbs ≤ 98 := by omega
          calc (g - 1).natAbs * lg.natAbs ≤ 98 * 10 ^ 58 := Nat.mul_le_mul h1 hlg
            _ < 10 ^ 60 := by decide
    · rintro δ S' ⟨s, y, rfl, ds, rfl⟩
      refine ⟨trivial, ?_⟩
      simp [u__law_stream_5]
      refine VS.sub ((Sub.refl.new hl).new (by exact hf2)) (h s ⟨?_, ds.word, ds.val⟩)
      have := ds.len
      simp at this
      omega
  obtain rfl | rfl | rfl | rfl : d = 0 ∨ d = 1 ∨ d = 2 ∨ d = 3 := by omega
  · exact go _ (by decide)
  · exact go _ (by decide)
  · exact go _ (by decide)
  · exact go _ (by decide)
theorem dfn__law_stream {P : Program} {w : World} {K : PySem.W.Frag} {mg : Str → Option Value} {base : Heap} {f : Addr} {fd : FuncData} (F : Fun K "_law_stream" "_law_stream" s__law_stream f fd) (C__law_draw : Cal P w K mg base 2 "_law_draw" p__law_draw sp__law_draw) (z_range : mg "range" = none) (z_tuple : mg "tuple" = none) : DFn P w K mg base 3 f fd p__law_stream sp__law_stream :=
  Fun.okD (k := 2) (t := t__law_stream K) F sc__law_stream len__law_stream (fun cdv A outer s H Pe E hgd hr px =>
  (dss_cons (ds_set sc__law_stream.nd (de_ix (de_lst (da_cons de_int (da_cons de_int (da_cons (de_op o_pow de_int de_int) (da_cons (de_neg (de_op o_pow de_int de_int)) da_nil))))) (de_fn C__law_draw hgd hr (da_cons (dv 0) (da_cons de_int da_nil)))))
  (dss_cons (ds_set sc__law_stream.nd (de_lst da_nil))
  (dss_cons (ds_for (passes_of rfl) rfl (di_range1 (by rfl) z_range (da_cons (de_fn C__law_draw hgd hr (da_cons (dv 0) (da_cons (de_op o_add (dv 2) de_int) da_nil))) da_nil)) (dp_nm sc__law_stream.nd)
  (dss_one (ds_expr (de_bm mg_append PySem.F.plainAttrs_list PySem.F.slot_list_append PySem.F.type_list_append (dv 5) (da_cons (de_tup (da_cons (de_fn C__law_draw hgd hr (da_cons (dv 0) (da_cons (dv 1) da_nil))) (da_cons (de_op o_mul (de_op o_sub (de_fn C__law_draw hgd hr (da_cons (dv 0) (da_cons (dv 3) da_nil))) de_int) (dv 4)) da_nil))) da_nil)))))
  (dss_one (ds_ret (de_callTy cg_tuple (by rfl) z_tuple (by decide +kernel) (da_cons (dv 5) da_nil)))))))) (hsp__law_stream K)
theorem ok__law_stream {P : Program} {w : World} {K : PySem.W.Frag} {mg : Str → Option Value} {base : Heap} (D : Def K mg "_law_stream" "_law_stream" s__law_stream) (C__law_draw : Cal P w K mg base 2 "_law_draw" p__law_draw sp__law_draw) (z_range : mg "range" = none) (z_tuple : mg "tuple" = none) : Cal P w K mg base 3 "_law_stream" p__law_stream sp__law_stream :=
  let ⟨f, fd, F, hm⟩ := D.ex
  ⟨f, fd, hm, F.kp, F.binds (ps := p__law_stream) fun _ _ _ _ _ _ us hl => match us, hl with | [_, _, _, _], _ => rfl, dfn__law_stream F C__law_draw z_range z_tuple⟩
@[simp] theorem lstream_iff {a : Addr} {w m v : Int} {S : Store} {P : DK} {e : DX} : sp__law_stream [.ref a, .int w, .int m, .int v] S P e ↔ (S a = some .pen ∧ 0 < w ∧ w ≤ 1000 ∧ 0 ≤ m ∧ m ≤ 1000 ∧ 0 < v ∧ v ≤ 99 ∧ ∀ s, Drawn s w m.toNat → P (strD s) S) := ⟨fun ⟨_, _, _, _, h, q⟩ => by cases h; exact q, fun q => ⟨a, w, m, v, rfl, q⟩⟩

--@cut
abbrev s_numbered : Stmt := top 1
abbrev n_numbered : List Str := ["stream", "names", "found", "word", "value"]
abbrev p_numbered : List Str := ["stream"]
theorem sc_numbered : FnScope n_numbered p_numbered (defScope s_numbered) := ⟨rfl, rfl, rfl, by decide +kernel, rfl, by decide +kernel, by decide +kernel⟩
-- names[value] = len(names)
@[simp] def u_numbered_5 (K : PySem.W.Frag) (Pe : DX) : DTS :=
  (dDput (dVar 1) (dVar 4) (dCB gLenA (dCons (dVar 1) dNil)))
-- found.append((word, names[value]))
@[simp] def u_numbered_6 (K : PySem.W.Frag) (Pe : DX) : DTS :=
  (dDrop (dBM isL gAppend (dVar 2) (dCons (dTup (dCons (dVar 3) (dCons (dDget (dVar 1) (dVar 4)) dNil))) dNil)))
-- if value not in names:
def u_numbered_4 (K : PySem.W.Frag) (Pe : DX) : DTS :=
  (dSeq (dIfS (dB (dDin not (dVar 4) (dVar 1)))
  (u_numbered_5 K Pe)
  dNext)
  (u_numbered_6 K Pe))
-- return tuple(found)
@[simp] def u_numbered_7 (K : PySem.W.Frag) (Pe : DX) : DTS :=
  (dRet (dCB gTuple (dCons (dVar 2) dNil)))
-- for word, value in stream:
def u_numbered_3 (K : PySem.W.Frag) (Pe : DX) : DTS :=
  (dSeq (dFor (dIT (dVar 0)) (.tp [(.nm 3), (.nm 4)])
  (u_numbered_4 K Pe))
  (u_numbered_7 K Pe))
-- found = []
def u_numbered_2 (K : PySem.W.Frag) (Pe : DX) : DTS :=
  (dSeq (dSet 2 (dLst dNil))
  (u_numbered_3 K Pe))
-- names = {}
def u_numbered_1 (K : PySem.W.Frag) (Pe : DX) : DTS :=
  (dSeq (dSet 1 dDnew)
  (u_numbered_2 K Pe))
abbrev t_numbered (K : PySem.W.Frag) (Pe : DX) : DTS := (u_numbered_1 K Pe)
/-- numbering -/
def stp (st : List Int × List (Int × Int)) (x : Int × Int) : List Int × List (Int × Int) :=
  let n := if x.2 ∈ st.1 then st.1 else st.1 ++ [x.2]
  (n, st.2 ++ [(x.1, (n.idxOf x.2 : Int))])
def nms (s : List (Int × Int)) : List Int × List (Int × Int) := s.foldl stp ([], [])
def numb (s : List (Int × Int)) : List (Int × Int) := (nms s).2
theorem nms_snoc (s : List (Int × Int)) (x : Int × Int) : nms (s ++ [x]) = stp (nms s) x := by simp [nms]
def enumD (ns : List Int) : List (Dv × Dv) := ns.zipIdx.map fun p => (.int p.1, .int p.2)
theorem dval_enum (v : Int) : ∀ (ns : List Int) (k : Nat), dval ((ns.zipIdx k).map fun p => (Dv.int p.1, Dv.int (p.2 : Nat))) (.int v) = if v ∈ ns then some (.int ((k + ns.idxOf v : Nat) : Int)) else none
  | [], k => by simp
  | n :: ns, k => by
    simp only [List.zipIdx_cons, List.map_cons, dval, Dv.int.injEq, List.mem_cons, List.idxOf_cons]
    by_cases h : n = v
    · simp [h]
    · rw [if_neg h, dval_enum v ns (k + 1)]
      have h2 : ¬ v = n := Ne.symm h
      have h3 : (n == v) = false := by simpa using h
      by_cases hm : v ∈ ns
      · simp [h2, h3, hm]; omega
      · simp [h2, h3, hm]
theorem dval_enumD (ns : List Int) (v : Int) : dval (enumD ns) (.int v) = if v ∈ ns then some (.int (ns.idxOf v : Nat)) else none := by
  unfold enumD
  have := dval_enum v ns 0
  simpa using this
theorem enumD_snoc (ns : List Int) (v : Int) : enumD (ns ++ [v]) = enumD ns ++ [(.int v, .int ns.length)] := by simp [enumD, List.zipIdx_append]
theorem enumD_length (ns : List Int) : (enumD ns).length = ns.length := by simp [enumD]
theorem nms_len (s : List (Int × Int)) : (nms s).1.length ≤ s.length ∧ (nms s).2.length = s.length := by
  have go : ∀ (s : List (Int × Int)) (st : List Int × List (Int × Int)), (s.foldl stp st).1.length ≤ st.1.length + s.length ∧ (s.foldl stp st).2.length = st.2.length + s.length := by
    intro s
    induction s with
    | nil => intro st; simp
    | cons x s ih =>
      intro st
      have h := ih (stp st x)
      simp only [List.foldl_cons, List.length_cons]
      have h1 : (stp st x).1.length ≤ st.1.length + 1 := by
        simp only [stp]; split <;> simp
      have h2 : (stp st x).2.length = st.2.length + 1 := by simp [stp]
      omega
  have := go s ([], [])
  simpa [nms] using this
def sp_numbered : DSp := fun ds S Pq _ => ∃ (s : List (Int × Int)), ds = [.tup (s.map mD)] ∧ s.length ≤ 100000 ∧ Pq (.tup ((numb s).map mD)) S
theorem len_numbered : ∀ ds S Pq Pe, sp_numbered ds S Pq Pe → ds.length = p_numbered.length := fun _ _ _ _ ⟨_, h, _⟩ => by subst h; rfl
theorem hsp_numbered (K : PySem.W.Frag) : ∀ ds S Pq Pe, sp_numbered ds S Pq Pe → dsp K n_numbered (t_numbered K) ds S Pq Pe := by
  rintro ds S Pq Pe ⟨s, rfl, hs, h⟩
  refine VS.pure ?_
  unfold t_numbered
  simp [u_numbered_1, u_numbered_2, u_numbered_3]
  intro p hp q hqp hq
  refine forL_enc mD (fun i δ S' => ∃ x y, S' = up (up S p (.dct (enumD (nms (s.take i)).1))) q (.lst ((nms (s.take i)).2.map mD)) ∧ δ = [some (.tup (s.map mD)), some (.ref p), some (.ref q), x, y]) ⟨_, _, by simp [nms, enumD], rfl⟩ ?_ ?_
  · rintro i ⟨w, v⟩ δ S' hx ⟨x, y, rfl, rfl⟩ N hN
    refine ⟨trivial, _, rfl, ?_⟩
    have hl := get_lt hx
    have hn := nms_len (s.take i)
    have ht : (s.take i).length ≤ i := by simp; omega
    have e := take_snoc hx
    have e2 := nms_snoc (s.take i) (w, v)
    rw [← e] at e2
    have hN2 : ∀ x y, N _ _ := fun x y => hN _ _ ⟨x, y, rfl, rfl⟩
    rw [e2] at hN2
    generalize nms (s.take i) = st at hn hN2
    obtain ⟨ns, fo⟩ := st
    simp only at hn
    have hl1 : ns.length ≤ 100000 := by omega
    have hl2 : fo.length ≤ 100000 := by omega
    simp [u_numbered_4, hqp, Ne.symm hqp, dval_enumD]
    by_cases hv : v ∈ ns
    · simp [hv, stp, mD] at hN2 ⊢
      exact ⟨by omega, hN2 _ _⟩
    · have e3 : dput (enumD ns) (.int v) (.int ns.length) = enumD (ns ++ [v]) := by rw [dput_new (by simp [dval_enumD, hv]), enumD_snoc]
      simp [hv, stp, mD, hqp, Ne.symm hqp, enumD_length, up_comm hqp, e3, dval_enumD] at hN2 ⊢
      exact ⟨by omega, by omega, hN2 _ _⟩
  · rintro δ S' ⟨x, y, rfl, rfl⟩
    refine ⟨trivial, ?_⟩
    simp [Ne.symm hqp]
    exact VS.sub ((Sub.refl.new hp).new hq) (by simpa [numb] using h)
@[simp] theorem numbered_iff {s : List (Int × Int)} {S : Store} {P : DK} {e : DX} : sp_numbered [.tup (s.map mD)] S P e ↔ (s.length ≤ 100000 ∧ P (.tup ((numb s).map mD)) S) := ⟨fun ⟨_, h, q⟩ => by
  simp [map_mD_inj] at h; subst h; exact q, fun q => ⟨s, rfl, q⟩⟩
theorem numb_len (s : List (Int × Int)) : (numb s).length = s.length := (nms_len s).2
theorem dfn_numbered {P : Program} {w : World} {K : PySem.W.Frag} {mg : Str → Option Value} {base : Heap} {f : Addr} {fd : FuncData} (F : Fun K "numbered" "numbered" s_numbered f fd) (z_len : mg "len" = none) (z_tuple : mg "tuple" = none) : DFn P w K mg base 1 f fd p_numbered sp_numbered :=
  Fun.okD (k := 0) (t := t_numbered K) F sc_numbered len_numbered (fun cdv A outer s H Pe E hgd hr px =>
  (dss_cons (ds_set sc_numbered.nd de_dnew)
  (dss_cons (ds_set sc_numbered.nd (de_lst da_nil))
  (dss_cons (ds_for (passes_of rfl) rfl (di_tup (dv 0)) (dp_tp rfl (dps_cons (dp_nm sc_numbered.nd) (dps_cons (dp_nm sc_numbered.nd) dps_nil)))
  (dss_cons (ds_if (dt_dnotin (units_1 hr) (dv 4) (dv 1))
  (dss_one (ds_dput (units_1 hr) (dv 1) (dv 4) (de_callB cg_lenA (by rfl) z_len (by decide +kernel) (da_cons (dv 1) da_nil))))
  dss_nil)
  (dss_one (ds_expr (de_bm mg_append PySem.F.plainAttrs_list PySem.F.slot_list_append PySem.F.type_list_append (dv 2) (da_cons (de_tup (da_cons (dv 3) (da_cons (de_dget (units_1 hr) (dv 1) (dv 4)) da_nil))) da_nil))))))
  (dss_one (ds_ret (de_callTy cg_tuple (by rfl) z_tuple (by decide +kernel) (da_cons (dv 2) da_nil)))))))) (hsp_numbered K)
theorem ok_numbered {P : Program} {w : World} {K : PySem.W.Frag} {mg : Str → Option Value} {base : Heap} (D : Def K mg "numbered" "numbered" s_numbered) (z_len : mg "len" = none) (z_tuple : mg "tuple" = none) : Cal P w K mg base 1 "numbered" p_numbered sp_numbered :=
  let ⟨f, fd, F, hm⟩ := D.ex
  ⟨f, fd, hm, F.kp, F.binds (ps := p_numbered) fun _ _ _ _ _ _ us hl => match us, hl with | [_], _ => rfl, dfn_numbered F z_len z_tuple⟩

abbrev s_is_numbered : Stmt := top 2
abbrev n_is_numbered : List Str := ["stream"]
abbrev p_is_numbered : List Str := ["stream"]
theorem sc_is_numbered : FnScope n_is_numbered p_is_numbered (defScope s_is_numbered) := ⟨rfl, rfl, rfl, by decide +kernel, rfl, by decide +kernel, by decide +kernel⟩
-- return numbered(stream) == stream
@[simp] def u_is_numbered_1 (K : PySem.W.Frag) (Pe : DX) : DTS :=
  (dRet (dBin (gEqF id) (dCall sp_numbered X0 (dCons (dVar 0) dNil)) (dVar 0)))
abbrev t_is_numbered (K : PySem.W.Frag) (Pe : DX) : DTS := (u_is_numbered_1 K Pe)
def sp_is_numbered : DSp := fun ds S Pq _ => ∃ (s : List (Int × Int)), ds = [.tup (s.map mD)] ∧ s.length ≤ 100000 ∧ Pq (.bl (numb s == s)) S
theorem len_is_numbered : ∀ ds S Pq Pe, sp_is_numbered ds S Pq Pe → ds.length = p_is_numbered.length := fun _ _ _ _ ⟨_, h, _⟩ => by subst h; rfl
theorem hsp_is_numbered (K : PySem.W.Frag) : ∀ ds S Pq Pe, sp_is_numbered ds S Pq Pe → dsp K n_is_numbered (t_is_numbered K) ds S Pq Pe := by
  rintro ds S Pq Pe ⟨s, rfl, hs, h⟩
  refine VS.pure ?_
  simp [hs]
  exact VS.pure h
@[simp] theorem is_numbered_iff {s : List (Int × Int)} {S : Store} {P : DK} {e : DX} : sp_is_numbered [.tup (s.map mD)] S P e ↔ (s.length ≤ 100000 ∧ P (.bl (numb s == s)) S) := ⟨fun ⟨_, h, q⟩ => by
  simp [map_mD_inj] at h; subst h; exact q, fun q => ⟨s, rfl, q⟩⟩
theorem dfn_is_numbered {P : Program} {w : World} {K : PySem.W.Frag} {mg : Str → Option Value} {base : Heap} {f : Addr} {fd : FuncData} (F : Fun K "is_numbered" "is_numbered" s_is_numbered f fd) (C_numbered : Cal P w K mg base 1 "numbered" p_numbered sp_numbered) : DFn P w K mg base 2 f fd p_is_numbered sp_is_numbered :=
  Fun.okD (k := 1) (t := t_is_numbered K) F sc_is_numbered len_is_numbered (fun cdv A outer s H Pe E hgd hr px =>
  (dss_one (ds_ret (de_cmp (c_eq (units_64 hr)) (de_fn C_numbered hgd hr (da_cons (dv 0) da_nil)) (dv 0))))) (hsp_is_numbered K)
theorem ok_is_numbered {P : Program} {w : World} {K : PySem.W.Frag} {mg : Str → Option Value} {base : Heap} (D : Def K mg "is_numbered" "is_numbered" s_is_numbered) (C_numbered : Cal P w K mg base 1 "numbered" p_numbered sp_numbered) : Cal P w K mg base 2 "is_numbered" p_is_numbered sp_is_numbered :=
  let ⟨f, fd, F, hm⟩ := D.ex
  ⟨f, fd, hm, F.kp, F.binds (ps := p_is_numbered) fun _ _ _ _ _ _ us hl => match us, hl with | [_], _ => rfl, dfn_is_numbered F C_numbered⟩
abbrev s_are_alike : Stmt := top 3
abbrev n_are_alike : List Str := ["one", "two"]
abbrev p_are_alike : List Str := ["one", "two"]
theorem sc_are_alike : FnScope n_are_alike p_are_alike (defScope s_are_alike) := ⟨rfl, rfl, rfl, by decide +kernel, rfl, by decide +kernel, by decide +kernel⟩
-- return numbered(one) == numbered(two)
@[simp] def u_are_alike_1 (K : PySem.W.Frag) (Pe : DX) : DTS :=
  (dRet (dBin (gEqF id) (dCall sp_numbered X0 (dCons (dVar 0) dNil)) (dCall sp_numbered X0 (dCons (dVar 1) dNil))))
abbrev t_are_alike (K : PySem.W.Frag) (Pe : DX) : DTS := (u_are_alike_1 K Pe)
def sp_are_alike : DSp := fun ds S Pq _ => ∃ (s t : List (Int × Int)), ds = [.tup (s.map mD), .tup (t.map mD)] ∧ s.length ≤ 100000 ∧ t.length ≤ 100000 ∧ Pq (.bl (numb s == numb t)) S
theorem len_are_alike : ∀ ds S Pq Pe, sp_are_alike ds S Pq Pe → ds.length = p_are_alike.length := fun _ _ _ _ ⟨_, _, h, _⟩ => by subst h; rfl
theorem hsp_are_alike (K : PySem.W.Frag) : ∀ ds S Pq Pe, sp_are_alike ds S Pq Pe → dsp K n_are_alike (t_are_alike K) ds S Pq Pe := by
  rintro ds S Pq Pe ⟨s, t, rfl, hs, ht, h⟩
  refine VS.pure ?_
  simp [hs, ht]
  exact VS.pure h
@[simp] theorem are_alike_iff {s t : List (Int × Int)} {S : Store} {P : DK} {e : DX} : sp_are_alike [.tup (s.map mD), .tup (t.map mD)] S P e ↔ (s.length ≤ 100000 ∧ t.length ≤ 100000 ∧ P (.bl (numb s == numb t)) S) := ⟨fun ⟨_, _, h, q⟩ => by
  simp [map_mD_inj] at h; obtain ⟨rfl, rfl⟩ := h; exact q, fun q => ⟨s, t, rfl, q⟩⟩
theorem dfn_are_alike {P : Program} {w : World} {K : PySem.W.Frag} {mg : Str → Option Value} {base : Heap} {f : Addr} {fd : FuncData} (F : Fun K "are_alike" "are_alike" s_are_alike f fd) (C_numbered : Cal P w K mg base 1 "numbered" p_numbered sp_numbered) : DFn P w K mg base 2 f fd p_are_alike sp_are_alike :=
  Fun.okD (k := 1) (t := t_are_alike K) F sc_are_alike len_are_alike (fun cdv A outer s H Pe E hgd hr px =>
  (dss_one (ds_ret (de_cmp (c_eq (units_64 hr)) (de_fn C_numbered hgd hr (da_cons (dv 0) da_nil)) (de_fn C_numbered hgd hr (da_cons (dv 1) da_nil)))))) (hsp_are_alike K)
theorem ok_are_alike {P : Program} {w : World} {K : PySem.W.Frag} {mg : Str → Option Value} {base : Heap} (D : Def K mg "are_alike" "are_alike" s_are_alike) (C_numbered : Cal P w K mg base 1 "numbered" p_numbered sp_numbered) : Cal P w K mg base 2 "are_alike" p_are_alike sp_are_alike :=
  let ⟨f, fd, F, hm⟩ := D.ex
  ⟨f, fd, hm, F.kp, F.binds (ps := p_are_alike) fun _ _ _ _ _ _ us hl => match us, hl with | [_, _], _ => rfl, dfn_are_alike F C_numbered⟩


/-! ### numbering, the plain law -/
theorem nms_ren (f : Int → Int) (V : Int → Prop) (inj : ∀ x y, V x → V y → f x = f y → x = y) : ∀ (s : List (Int × Int)) (ns : List Int) (fo : List (Int × Int)), (∀ n ∈ ns, V n) → (∀ x ∈ s, V x.2) →
    (s.map fun x => (x.1, f x.2)).foldl stp (ns.map f, fo) = ((s.foldl stp (ns, fo)).1.map f, (s.foldl stp (ns, fo)).2)
  | [], ns, fo, _, _ => rfl
  | (w, v) :: s, ns, fo, hn, hs => by
    have hv : V v := hs (w, v) (by simp)
    have hm : (f v ∈ ns.map f) ↔ v ∈ ns := by
      rw [List.mem_map]
      exact ⟨fun ⟨n, h1, h2⟩ => inj n v (hn n h1) hv h2 ▸ h1, fun h => ⟨v, h, rfl⟩⟩
    have hi : ∀ ns : List Int, (∀ n ∈ ns, V n) → (ns.map f).idxOf (f v) = ns.idxOf v := by
      intro ns h
      induction ns with
      | nil => rfl
      | cons n ns ih =>
        simp only [List.map_cons, List.idxOf_cons]
        by_cases e : n = v
        · simp [e]
        · have e2 : ¬ f n = f v := fun q => e (inj n v (h n (by simp)) hv q)
          have e3 : (n == v) = false := by simpa using e
          have e4 : (f n == f v) = false := by simpa using e2
          rw [e3, e4, ih fun m hm => h m (by simp [hm])]
    have step : stp (ns.map f, fo) (w, f v) = (((stp (ns, fo) (w, v)).1).map f, (stp (ns, fo) (w, v)).2) := by
      simp only [stp, hm]
      by_cases h : v ∈ ns
      · simp [h, hi ns hn]
      · have := hi (ns ++ [v]) fun n hn' => by
          rcases List.mem_append.mp hn' with q | q
          · exact hn n q
          · simp at q; rw [q]; exact hv
        simp only [List.map_append, List.map_cons, List.map_nil] at this
        simp [h, this]
    simp only [List.map_cons, List.foldl_cons, step]
    refine nms_ren f V inj s _ _ (fun n hn' => ?_) fun x hx => hs x (by simp [hx])
    simp only [stp] at hn'
    split at hn'
    · exact hn n hn'
    · rcases List.mem_append.mp hn' with q | q
      · exact hn n q
      · simp at q; rw [q]; exact hv
theorem numb_ren (f : Int → Int) (s : List (Int × Int)) (inj : ∀ x y, (∃ p ∈ s, p.2 = x) → (∃ p ∈ s, p.2 = y) → f x = f y → x = y) : numb (s.map fun x => (x.1, f x.2)) = numb s := by
  have := nms_ren f (fun v => ∃ p ∈ s, p.2 = v) inj s [] [] (by simp) fun x hx => ⟨x, hx, rfl⟩
  simp only [List.map_nil] at this
  unfold numb nms
  rw [this]
theorem foldl_keeps : ∀ (t : List (Int × Int)) (st : List Int × List (Int × Int)), ∃ ns fo, t.foldl stp st = (st.1 ++ ns, st.2 ++ fo)
  | [], st => ⟨[], [], by simp⟩
  | x :: t, st => by
    obtain ⟨ns, fo, e⟩ := foldl_keeps t (stp st x)
    simp only [List.foldl_cons, e]
    simp only [stp]
    split
    · exact ⟨ns, (x.1, (st.1.idxOf x.2 : Int)) :: fo, by simp⟩
    · exact ⟨x.2 :: ns, (x.1, ((st.1 ++ [x.2]).idxOf x.2 : Int)) :: fo, by simp⟩
theorem numb_append (s t : List (Int × Int)) : ∃ fo, numb (s ++ t) = numb s ++ fo := by
  obtain ⟨ns, fo, e⟩ := foldl_keeps t (nms s)
  refine ⟨fo, ?_⟩
  unfold numb
  rw [show nms (s ++ t) = t.foldl stp (nms s) by simp [nms], e]
theorem numb_take (s : List (Int × Int)) (n : Nat) : numb (s.take n) = (numb s).take n := by
  obtain ⟨fo, e⟩ := numb_append (s.take n) (s.drop n)
  rw [List.take_append_drop] at e
  by_cases h : n ≤ s.length
  · have e1 : (numb (s.take n)).length = n := by rw [numb_len]; simp; omega
    have e2 : (numb (s.take n)).take n = numb (s.take n) := List.take_of_length_le (by omega)
    rw [e, List.take_append_of_le_length (by omega), e2]
  · rw [List.take_of_length_le (by omega), List.take_of_length_le (by rw [numb_len]; omega)]
/-- each number is the place of the value in the values as they came first -/
theorem numb_map (s : List (Int × Int)) : numb s = s.map fun x => (x.1, ((nms s).1.idxOf x.2 : Int)) := by
  have go : ∀ (s : List (Int × Int)) (ns : List Int) (fo : List (Int × Int)), (s.foldl stp (ns, fo)).2 = fo ++ s.map fun x => (x.1, ((s.foldl stp (ns, fo)).1.idxOf x.2 : Int)) := by
    intro s
    induction s with
    | nil => intro ns fo; simp
    | cons x s ih =>
      intro ns fo
      obtain ⟨w, v⟩ := x
      have h1 := ih (stp (ns, fo) (w, v)).1 (stp (ns, fo) (w, v)).2
      simp only [List.foldl_cons, List.map_cons]
      rw [h1]
      obtain ⟨ns', fo', e⟩ := foldl_keeps s (stp (ns, fo) (w, v))
      rw [show ((stp (ns, fo) (w, v)).1, (stp (ns, fo) (w, v)).2) = stp (ns, fo) (w, v) from rfl, e]
      have hm : v ∈ (stp (ns, fo) (w, v)).1 := by simp only [stp]; split <;> simp_all
      rw [List.idxOf_append, if_pos hm]
      simp [stp]
  have := go s [] []
  simpa [numb, nms] using this
theorem nms_mem (s : List (Int × Int)) : ∀ x ∈ s, x.2 ∈ (nms s).1 := by
  have go : ∀ (s : List (Int × Int)) (st : List Int × List (Int × Int)), ∀ x ∈ s, x.2 ∈ (s.foldl stp st).1 := by
    intro s
    induction s with
    | nil => intro st x hx; cases hx
    | cons y s ih =>
      intro st x hx
      rcases List.mem_cons.mp hx with h | h
      · subst h
        obtain ⟨ns', fo', e⟩ := foldl_keeps s (stp st x)
        simp only [List.foldl_cons, e]
        have hm : x.2 ∈ (stp st x).1 := by simp only [stp]; split <;> simp_all
        exact List.mem_append_left _ hm
      · exact ih _ x h
  exact go s ([], [])
theorem idxOf_inj {ns : List Int} {x y : Int} (hx : x ∈ ns) (hy : y ∈ ns) (h : ns.idxOf x = ns.idxOf y) : x = y := by
  have h1 := List.getElem_idxOf (List.idxOf_lt_length_iff.mpr hx)
  have h2 := List.getElem_idxOf (List.idxOf_lt_length_iff.mpr hy)
  have : ns[ns.idxOf x]? = ns[ns.idxOf y]? := by rw [h]
  rw [List.getElem?_eq_getElem (List.idxOf_lt_length_iff.mpr hx), List.getElem?_eq_getElem (List.idxOf_lt_length_iff.mpr hy), h1, h2] at this
  exact Option.some.inj this
theorem numb_numb (s : List (Int × Int)) : numb (numb s) = numb s := by
  have h := numb_map s
  have := numb_ren (fun v => ((nms s).1.idxOf v : Int)) s fun x y ⟨p, hp, e1⟩ ⟨q, hq, e2⟩ h => idxOf_inj (e1 ▸ nms_mem s p hp) (e2 ▸ nms_mem s q hq) (Int.ofNat.inj h)
  rw [← h] at this
  exact this

--@cut
theorem exv_exv (a b v : Int) : exv b a (exv a b v) = v := by
  unfold exv
  by_cases h1 : v = a
  · subst h1; simp
  · by_cases h2 : v = b
    · subst h2
      simp only [h1, if_false, if_true]
      by_cases h3 : a = v
      · exact absurd h3.symm h1
      · simp [h3]
    · simp [h1, h2]
theorem exv_comm (a b v : Int) : exv b a v = exv a b v := by
  unfold exv
  by_cases h1 : v = a
  · subst h1; by_cases h2 : v = b <;> simp [h2]
  · simp [h1]

theorem numb_exs (a b : Int) (s : List (Int × Int)) : numb (exs a b s) = numb s := numb_ren (exv a b) s fun x y _ _ h => by
  have := congrArg (exv b a) h
  rwa [exv_exv, exv_exv] at this
theorem exs_len (a b : Int) (s : List (Int × Int)) : (exs a b s).length = s.length := by simp [exs]
abbrev s_law : Stmt := top 10
abbrev n_law : List Str := ["script", "pen", "turn", "one", "two", "three", "at", "other", "longer"]
abbrev p_law : List Str := ["script"]
theorem sc_law : FnScope n_law p_law (defScope s_law) := ⟨rfl, rfl, rfl, by decide +kernel, rfl, by decide +kernel, by decide +kernel⟩
-- return False
@[simp] def u_law_7 (K : PySem.W.Frag) (Pe : DX) : DTS :=
  (dRet (dC (.bl false)))
-- return False
@[simp] def u_law_10 (K : PySem.W.Frag) (Pe : DX) : DTS :=
  (dRet (dC (.bl false)))
-- return False
@[simp] def u_law_13 (K : PySem.W.Frag) (Pe : DX) : DTS :=
  (dRet (dC (.bl false)))
-- return False
@[simp] def u_law_15 (K : PySem.W.Frag) (Pe : DX) : DTS :=
  (dRet (dC (.bl false)))
-- return False
@[simp] def u_law_17 (K : PySem.W.Frag) (Pe : DX) : DTS :=
  (dRet (dC (.bl false)))
-- return False
@[simp] def u_law_20 (K : PySem.W.Frag) (Pe : DX) : DTS :=
  (dRet (dC (.bl false)))
-- if are_alike(one, longer) or numbered(longer)[:len(one)] != numbered(one):
@[simp] def u_law_19 (K : PySem.W.Frag) (Pe : DX) : DTS :=
  (dIfS (dOr (dB (dCall sp_are_alike X0 (dCons (dVar 3) (dCons (dVar 8) dNil)))) (dB (dBin (gEqF not) (dSl (dCall sp_numbered X0 (dCons (dVar 8) dNil)) dNoPart (dPart (dCB gLenA (dCons (dVar 3) dNil)))) (dCall sp_numbered X0 (dCons (dVar 3) dNil)))))
  (u_law_20 K Pe)
  dNext)
-- longer = one + ((0, 10 ** 40),)
def u_law_18 (K : PySem.W.Frag) (Pe : DX) : DTS :=
  (dSeq (dSet 8 (dBin gAdd (dVar 3) (dTup (dCons (dTup (dCons (dC (.int 0)) (dCons (dBin gPow (dC (.int 10)) (dC (.int 40))) dNil))) dNil))))
  (u_law_19 K Pe))
-- if is_numbered(other) and is_numbered(one) and (are_alike(one, other) != (one == other)):
def u_law_16 (K : PySem.W.Frag) (Pe : DX) : DTS :=
  (dSeq (dIfS (dAnd (dB (dCall sp_is_numbered X0 (dCons (dVar 7) dNil))) (dAnd (dB (dCall sp_is_numbered X0 (dCons (dVar 3) dNil))) (dB (dBin (gEqF not) (dCall sp_are_alike X0 (dCons (dVar 3) (dCons (dVar 7) dNil))) (dBin (gEqF id) (dVar 3) (dVar 7))))))
  (u_law_17 K Pe)
  dNext)
  (u_law_18 K Pe))
-- if are_alike(one, other) and (not are_alike(three, other)):
def u_law_14 (K : PySem.W.Frag) (Pe : DX) : DTS :=
  (dSeq (dIfS (dAnd (dB (dCall sp_are_alike X0 (dCons (dVar 3) (dCons (dVar 7) dNil)))) (dNot (dB (dCall sp_are_alike X0 (dCons (dVar 5) (dCons (dVar 7) dNil))))))
  (u_law_15 K Pe)
  dNext)
  (u_law_16 K Pe))
-- if are_alike(one, other) != (numbered(one) == numbered(other)):
def u_law_12 (K : PySem.W.Frag) (Pe : DX) : DTS :=
  (dSeq (dIfS (dB (dBin (gEqF not) (dCall sp_are_alike X0 (dCons (dVar 3) (dCons (dVar 7) dNil))) (dBin (gEqF id) (dCall sp_numbered X0 (dCons (dVar 3) dNil)) (dCall sp_numbered X0 (dCons (dVar 7) dNil)))))
  (u_law_13 K Pe)
  dNext)
  (u_law_14 K Pe))
-- other = _law_stream(pen, 2, 10, 4)
def u_law_11 (K : PySem.W.Frag) (Pe : DX) : DTS :=
  (dSeq (dSet 7 (dCall sp__law_stream X0 (dCons (dVar 1) (dCons (dC (.int 2)) (dCons (dC (.int 10)) (dCons (dC (.int 4)) dNil))))))
  (u_law_12 K Pe))
-- if not are_alike(one[:at], three[:at]) or not is_numbered(three[:at]) or (not are_alike(one[at:], two[at:])):
def u_law_9 (K : PySem.W.Frag) (Pe : DX) : DTS :=
  (dSeq (dIfS (dOr (dNot (dB (dCall sp_are_alike X0 (dCons (dSl (dVar 3) dNoPart (dPart (dVar 6))) (dCons (dSl (dVar 5) dNoPart (dPart (dVar 6))) dNil))))) (dOr (dNot (dB (dCall sp_is_numbered X0 (dCons (dSl (dVar 5) dNoPart (dPart (dVar 6))) dNil)))) (dNot (dB (dCall sp_are_alike X0 (dCons (dSl (dVar 3) (dPart (dVar 6)) dNoPart) (dCons (dSl (dVar 4) (dPart (dVar 6)) dNoPart) dNil)))))))
  (u_law_10 K Pe)
  dNext)
  (u_law_11 K Pe))
-- at = _law_draw(pen, len(one) + 1)
def u_law_8 (K : PySem.W.Frag) (Pe : DX) : DTS :=
  (dSeq (dSet 6 (dCall sp__law_draw X0 (dCons (dVar 1) (dCons (dBin gAdd (dCB gLenA (dCons (dVar 3) dNil)) (dC (.int 1))) dNil))))
  (u_law_9 K Pe))
-- if not are_alike(one, two) or not are_alike(two, three) or (not are_alike(one, three)):
def u_law_6 (K : PySem.W.Frag) (Pe : DX) : DTS :=
  (dSeq (dIfS (dOr (dNot (dB (dCall sp_are_alike X0 (dCons (dVar 3) (dCons (dVar 4) dNil))))) (dOr (dNot (dB (dCall sp_are_alike X0 (dCons (dVar 4) (dCons (dVar 5) dNil))))) (dNot (dB (dCall sp_are_alike X0 (dCons (dVar 3) (dCons (dVar 5) dNil)))))))
  (u_law_7 K Pe)
  dNext)
  (u_law_8 K Pe))
-- three = numbered(two)
def u_law_5 (K : PySem.W.Frag) (Pe : DX) : DTS :=
  (dSeq (dSet 5 (dCall sp_numbered X0 (dCons (dVar 4) dNil)))
  (u_law_6 K Pe))
-- two = exchanged(one, _law_draw(pen, 4) - 1, _law_draw(pen, 4) - 1)
def u_law_4 (K : PySem.W.Frag) (Pe : DX) : DTS :=
  (dSeq (dSet 4 (dCall sp_exchanged X0 (dCons (dVar 3) (dCons (dBin gSub (dCall sp__law_draw X0 (dCons (dVar 1) (dCons (dC (.int 4)) dNil))) (dC (.int 1))) (dCons (dBin gSub (dCall sp__law_draw X0 (dCons (dVar 1) (dCons (dC (.int 4)) dNil))) (dC (.int 1))) dNil)))))
  (u_law_5 K Pe))
-- one = _law_stream(pen, 2, [10, 24][_law_draw(pen, 2)], [4, 20][_law_draw(pen, 2)])
def u_law_3 (K : PySem.W.Frag) (Pe : DX) : DTS :=
  (dSeq (dSet 3 (dCall sp__law_stream X0 (dCons (dVar 1) (dCons (dC (.int 2)) (dCons (dBin gIx (dLst (dCons (dC (.int 10)) (dCons (dC (.int 24)) dNil))) (dCall sp__law_draw X0 (dCons (dVar 1) (dCons (dC (.int 2)) dNil)))) (dCons (dBin gIx (dLst (dCons (dC (.int 4)) (dCons (dC (.int 20)) dNil))) (dCall sp__law_draw X0 (dCons (dVar 1) (dCons (dC (.int 2)) dNil)))) dNil))))))
  (u_law_4 K Pe))
-- return True
@[simp] def u_law_21 (K : PySem.W.Frag) (Pe : DX) : DTS :=
  (dRet (dC (.bl true)))
-- for turn in range(6):
def u_law_2 (K : PySem.W.Frag) (Pe : DX) : DTS :=
  (dSeq (dFor (dIR1 (dCons (dC (.int 6)) dNil)) (.nm 2)
  (u_law_3 K Pe))
  (u_law_21 K Pe))
-- pen = _law_pen(script)
def u_law_1 (K : PySem.W.Frag) (Pe : DX) : DTS :=
  (dSeq (dSet 1 (dCall sp__law_pen X0 (dCons (dVar 0) dNil)))
  (u_law_2 K Pe))
abbrev t_law (K : PySem.W.Frag) (Pe : DX) : DTS := (u_law_1 K Pe)
def sp_law : DSp := fun ds S Pq _ => ∃ ns, ds = [.scr ns] ∧ ns.length ≤ 63 ∧ ∀ S', Pq (.bl true) S'
theorem len_law : ∀ ds S Pq Pe, sp_law ds S Pq Pe → ds.length = p_law.length := fun _ _ _ _ ⟨_, h, _⟩ => by subst h; rfl
theorem law_true : ∀ ns : List Int, ns.length ≤ 63 → (∀ z ∈ ns, Builtin.Int.intBits z ≤ 1048576) → sp_law [.scr ns] (fun _ => none) (fun d _ => d = .bl true) X0 := fun ns h _ => ⟨ns, rfl, h, fun _ => rfl⟩
theorem hsp_law (K : PySem.W.Frag) : ∀ ds S Pq Pe, sp_law ds S Pq Pe → dsp K n_law (t_law K) ds S Pq Pe := by
  rintro ds S Pq Pe ⟨ns, rfl, hl, h⟩
  refine VS.pure ?_
  simp [u_law_1, u_law_2, hl]
  intro a ha
  refine forL_range (n := 6) (fun k δ S' => S' a = some .pen ∧ ∃ x1 x2 x3 x4 x5 x6 x7, δ = [some (.scr ns), some (.ref a), x1, x2, x3, x4, x5, x6, x7]) ⟨by simp, _, _, _, _, _, _, _, rfl⟩ ?_ ?_
  · rintro k δ S' hk ⟨hp, x1, x2, x3, x4, x5, x6, x7, rfl⟩ N hN
    refine ⟨trivial, _, rfl, ?_⟩
    have main : ∀ (D : DEnds) (one : List (Int × Int)) (m : Nat) (S2 : Store), m ≤ 24 → Drawn one 2 m → S2 a = some .pen → (∀ S' x2 x3 x4 x5 x6 x7, S' a = some .pen → D.nx [some (.scr ns), some (.ref a), some (.int k), x2, x3, x4, x5, x6, x7] S') →
        u_law_4 K Pe D [some (.scr ns), some (.ref a), some (.int k), some (.tup (one.map mD)), x3, x4, x5, x6, x7] S2 := by
      intro D one m S2 hm ds hp2 hN2
      have hlen : one.length ≤ 24 := by have := ds.len; omega
      have l1 : one.length ≤ 100000 := by omega
      simp +contextual [u_law_4, hp2, exs_len, numb_len, l1]
      intro d _ _ e _ _
      generalize d - 1 = p
      generalize e - 1 = q
      simp [u_law_5, u_law_6, u_law_8, exs_len, numb_len, l1, numb_exs, numb_numb, hp2]
      refine ⟨by omega, fun at_ t0 t1 => ?_⟩
      have e1 : (exs p q one).drop at_.toNat = exs p q (one.drop at_.toNat) := by simp [exs, List.map_drop]
      have c0 : at_.toNat ≤ 100000 := by omega
      have e2 : ∀ n : Nat, one.length - n ≤ 100000 := by intro n; omega
      have e3 : ∀ n : Nat, min n one.length ≤ 100000 := by intro n; omega
      simp [-List.map_take, -List.map_drop, u_law_9, cut_toI t0, cut_fromI t0, takeD, dropD, numb_take, numb_numb, e1, numb_exs, exs_len, numb_len, c0, e2, e3, l1, hp2]
      simp [u_law_11, hp2]
      intro other ho
      have lo : other.length ≤ 100000 := by have := ho.len; omega
      simp [u_law_12, l1, lo, numb_len]
      have rest : ∀ z, u_law_16 K Pe D [some (.scr ns), some (.ref a), some (.int k), some (.tup (one.map mD)), some (.tup ((exs p q one).map mD)), z, some (.int at_), some (.tup (other.map mD)), x7] S2 := by
        intro z
        have last : ∀ z, u_law_18 K Pe D [some (.scr ns), some (.ref a), some (.int k), some (.tup (one.map mD)), some (.tup ((exs p q one).map mD)), z, some (.int at_), some (.tup (other.map mD)), x7] S2 := by
          intro z
          obtain ⟨fo, ef⟩ := numb_append one [((0 : Int), (10000000000000000000000000000000000000000 : Int))]
          have hfo : fo ≠ [] := by
            intro e; subst e; have := congrArg List.length ef; simp [numb_len] at this
          have ea : (numb one == numb (one ++ [((0 : Int), (10000000000000000000000000000000000000000 : Int))])) = false := by
            rw [beq_eq_false_iff_ne]
            intro e
            have := congrArg List.length e
            simp [numb_len] at this
          have hD : one.map mD ++ [mD (0, 10000000000000000000000000000000000000000)] = (one ++ [((0 : Int), (10000000000000000000000000000000000000000 : Int))]).map mD := by simp [mD]
          have hm : Dv.tup [Dv.int 0, Dv.int 10000000000000000000000000000000000000000] = mD (0, 10000000000000000000000000000000000000000) := rfl
          simp [u_law_18, l1, hm]
          rw [hD]
          have ll : (one ++ [((0 : Int), (10000000000000000000000000000000000000000 : Int))]).length ≤ 100000 := by simp; omega
          generalize (one ++ [((0 : Int), (10000000000000000000000000000000000000000 : Int))]) = longer at ef ea ll
          refine ⟨⟨by decide, by decide, by decide⟩, by omega, ?_⟩
          simp [-List.map_take, l1, ll, ea, cut_toI, ef, takeD, List.take_append_of_le_length, numb_len, List.take_of_length_le, hfo]
          exact hN2 _ _ _ _ _ _ _ hp2
        by_cases h1 : numb other = other
        · by_cases h2 : numb one = one
          · simp [u_law_16, l1, lo, numb_len, h1, h2, last]
          · simp [u_law_16, l1, lo, numb_len, h1, h2, last]
        · simp [u_law_16, l1, lo, numb_len, h1, last]
      by_cases hc : numb one = numb other
      · simp [u_law_14, l1, lo, numb_len, hc, numb_numb, rest]
      · simp [u_law_14, l1, lo, numb_len, hc, numb_numb, rest]
    simp +contextual [u_law_3, hp]
    intro l hl d d0 d1
    obtain ⟨m, m1, m2⟩ := pick Dv.int (vs := [10, 24]) d0 d1
    simp at m2
    simp +contextual [m2]
    intro l2 hl2 hl3 e e0 e1
    obtain ⟨v, v1, v2⟩ := pick Dv.int (vs := [4, 20]) e0 e1
    simp at v2
    simp +contextual [v2]
    simp at m1 v1
    refine ⟨by simp [hp, hl, hl2, hl3], by omega, by omega, by omega, by omega, fun s hs => main _ s m.toNat _ (by omega) hs (by simp [hp, hl, hl2, hl3]) ?_⟩
    intro S' y2 y3 y4 y5 y6 y7 hp3
    exact hN _ _ ⟨hp3, _, _, _, _, _, _, _, rfl⟩
  · rintro δ S' ⟨hp, x1, x2, x3, x4, x5, x6, x7, rfl⟩
    refine ⟨trivial, ?_⟩
    simp
    exact VS.pure (h _)
theorem dfn_law {P : Program} {w : World} {K : PySem.W.Frag} {mg : Str → Option Value} {base : Heap} {f : Addr} {fd : FuncData} (F : Fun K "law" "law" s_law f fd) (C__law_pen : Cal P w K mg base 1 "_law_pen" p__law_pen sp__law_pen) (C__law_draw : Cal P w K mg base 2 "_law_draw" p__law_draw sp__law_draw) (C__law_stream : Cal P w K mg base 3 "_law_stream" p__law_stream sp__law_stream) (C_exchanged : Cal P w K mg base 1 "exchanged" p_exchanged sp_exchanged) (C_numbered : Cal P w K mg base 1 "numbered" p_numbered sp_numbered) (C_are_alike : Cal P w K mg base 2 "are_alike" p_are_alike sp_are_alike) (C_is_numbered : Cal P w K mg base 2 "is_numbered" p_is_numbered sp_is_numbered) (z_range : mg "range" = none) (z_len : mg "len" = none) : DFn P w K mg base 5 f fd p_law sp_law :=
  Fun.okD (k := 4) (t := t_law K) F sc_law len_law (fun cdv A outer s H Pe E hgd hr px =>
  (dss_cons (ds_set sc_law.nd (de_fn C__law_pen hgd hr (da_cons (dv 0) da_nil)))
  (dss_cons (ds_for (passes_of rfl) rfl (di_range1 (by rfl) z_range (da_cons de_int da_nil)) (dp_nm sc_law.nd)
  (dss_cons (ds_set sc_law.nd (de_fn C__law_stream hgd hr (da_cons (dv 1) (da_cons de_int (da_cons (de_ix (de_lst (da_cons de_int (da_cons de_int da_nil))) (de_fn C__law_draw hgd hr (da_cons (dv 1) (da_cons de_int da_nil)))) (da_cons (de_ix (de_lst (da_cons de_int (da_cons de_int da_nil))) (de_fn C__law_draw hgd hr (da_cons (dv 1) (da_cons de_int da_nil)))) da_nil))))))
  (dss_cons (ds_set sc_law.nd (de_fn C_exchanged hgd hr (da_cons (dv 3) (da_cons (de_op o_sub (de_fn C__law_draw hgd hr (da_cons (dv 1) (da_cons de_int da_nil))) de_int) (da_cons (de_op o_sub (de_fn C__law_draw hgd hr (da_cons (dv 1) (da_cons de_int da_nil))) de_int) da_nil)))))
  (dss_cons (ds_set sc_law.nd (de_fn C_numbered hgd hr (da_cons (dv 4) da_nil)))
  (dss_cons (ds_if (L2.PW.pt (dw_or (dt_not (dt_val (de_fn C_are_alike hgd hr (da_cons (dv 3) (da_cons (dv 4) da_nil))))) (dw_or (dt_not (dt_val (de_fn C_are_alike hgd hr (da_cons (dv 4) (da_cons (dv 5) da_nil))))) (dw_or1 (dt_not (dt_val (de_fn C_are_alike hgd hr (da_cons (dv 3) (da_cons (dv 5) da_nil)))))))))
  (dss_one (ds_ret de_bl))
  dss_nil)
  (dss_cons (ds_set sc_law.nd (de_fn C__law_draw hgd hr (da_cons (dv 1) (da_cons (de_op o_add (de_callB cg_lenA (by rfl) z_len (by decide +kernel) (da_cons (dv 3) da_nil)) de_int) da_nil))))
  (dss_cons (ds_if (L2.PW.pt (dw_or (dt_not (dt_val (de_fn C_are_alike hgd hr (da_cons (de_sl (dv 3) do_none (do_some (dv 6))) (da_cons (de_sl (dv 5) do_none (do_some (dv 6))) da_nil))))) (dw_or (dt_not (dt_val (de_fn C_is_numbered hgd hr (da_cons (de_sl (dv 5) do_none (do_some (dv 6))) da_nil)))) (dw_or1 (dt_not (dt_val (de_fn C_are_alike hgd hr (da_cons (de_sl (dv 3) (do_some (dv 6)) do_none) (da_cons (de_sl (dv 4) (do_some (dv 6)) do_none) da_nil)))))))))
  (dss_one (ds_ret de_bl))
  dss_nil)
  (dss_cons (ds_set sc_law.nd (de_fn C__law_stream hgd hr (da_cons (dv 1) (da_cons de_int (da_cons de_int (da_cons de_int da_nil))))))
  (dss_cons (ds_if (dt_cmp (c_ne (units_64 hr)) (de_fn C_are_alike hgd hr (da_cons (dv 3) (da_cons (dv 7) da_nil))) (de_cmp (c_eq (units_64 hr)) (de_fn C_numbered hgd hr (da_cons (dv 3) da_nil)) (de_fn C_numbered hgd hr (da_cons (dv 7) da_nil))))
  (dss_one (ds_ret de_bl))
  dss_nil)
  (dss_cons (ds_if (L2.PW.pt (dw_and (dt_val (de_fn C_are_alike hgd hr (da_cons (dv 3) (da_cons (dv 7) da_nil)))) (dw_and1 (dt_not (dt_val (de_fn C_are_alike hgd hr (da_cons (dv 5) (da_cons (dv 7) da_nil))))))))
  (dss_one (ds_ret de_bl))
  dss_nil)
  (dss_cons (ds_if (L2.PW.pt (dw_and (dt_val (de_fn C_is_numbered hgd hr (da_cons (dv 7) da_nil))) (dw_and (dt_val (de_fn C_is_numbered hgd hr (da_cons (dv 3) da_nil))) (dw_and1 (dt_cmp (c_ne (units_64 hr)) (de_fn C_are_alike hgd hr (da_cons (dv 3) (da_cons (dv 7) da_nil))) (de_cmp (c_eq (units_64 hr)) (dv 3) (dv 7)))))))
  (dss_one (ds_ret de_bl))
  dss_nil)
  (dss_cons (ds_set sc_law.nd (de_op o_add (dv 3) (de_tup (da_cons (de_tup (da_cons de_int (da_cons (de_op o_pow de_int de_int) da_nil))) da_nil))))
  (dss_one (ds_if (L2.PW.pt (dw_or (dt_val (de_fn C_are_alike hgd hr (da_cons (dv 3) (da_cons (dv 8) da_nil)))) (dw_or1 (dt_cmp (c_ne (units_64 hr)) (de_sl (de_fn C_numbered hgd hr (da_cons (dv 8) da_nil)) do_none (do_some (de_callB cg_lenA (by rfl) z_len (by decide +kernel) (da_cons (dv 3) da_nil)))) (de_fn C_numbered hgd hr (da_cons (dv 3) da_nil))))))
  (dss_one (ds_ret de_bl))
  dss_nil))))))))))))))
  (dss_one (ds_ret de_bl))))) (hsp_law K)
theorem ok_law {P : Program} {w : World} {K : PySem.W.Frag} {mg : Str → Option Value} {base : Heap} (D : Def K mg "law" "law" s_law) (C__law_pen : Cal P w K mg base 1 "_law_pen" p__law_pen sp__law_pen) (C__law_draw : Cal P w K mg base 2 "_law_draw" p__law_draw sp__law_draw) (C__law_stream : Cal P w K mg base 3 "_law_stream" p__law_stream sp__law_stream) (C_exchanged : Cal P w K mg base 1 "exchanged" p_exchanged sp_exchanged) (C_numbered : Cal P w K mg base 1 "numbered" p_numbered sp_numbered) (C_are_alike : Cal P w K mg base 2 "are_alike" p_are_alike sp_are_alike) (C_is_numbered : Cal P w K mg base 2 "is_numbered" p_is_numbered sp_is_numbered) (z_range : mg "range" = none) (z_len : mg "len" = none) : Cal P w K mg base 5 "law" p_law sp_law :=
  let ⟨f, fd, F, hm⟩ := D.ex
  ⟨f, fd, hm, F.kp, F.binds (ps := p_law) fun _ _ _ _ _ _ us hl => match us, hl with | [_], _ => rfl, dfn_law F C__law_pen C__law_draw C__law_stream C_exchanged C_numbered C_are_alike C_is_numbered z_range z_len⟩
end Sb
namespace Sb
open PySem PySem.Spec PyProof.Rows L2
theorem all_mk {l : PySem.W.OpenLaw} {w : World} {K : PySem.W.Frag} {h : Heap} {mg : Str → Option Value} {fa : Addr} (X : K.In h) (G : h.Ns mainGlobals mg) (hfa : mg "law" = some (.ref fa))
    {f0 : Addr} {od0 an0 : Option Addr} {sl0 : Array (Option Value)} {oc0 kV0 dc0 pm0 cd0 ct0 : Value}
    {f1 : Addr} {od1 an1 : Option Addr} {sl1 : Array (Option Value)} {oc1 kV1 dc1 pm1 cd1 ct1 : Value}
    {f2 : Addr} {od2 an2 : Option Addr} {sl2 : Array (Option Value)} {oc2 kV2 dc2 pm2 cd2 ct2 : Value}
    {f3 : Addr} {od3 an3 : Option Addr} {sl3 : Array (Option Value)} {oc3 kV3 dc3 pm3 cd3 ct3 : Value}
    {f4 : Addr} {od4 an4 : Option Addr} {sl4 : Array (Option Value)} {oc4 kV4 dc4 pm4 cd4 ct4 : Value}
    {f5 : Addr} {od5 an5 : Option Addr} {sl5 : Array (Option Value)} {oc5 kV5 dc5 pm5 cd5 ct5 : Value}
    {f6 : Addr} {od6 an6 : Option Addr} {sl6 : Array (Option Value)} {oc6 kV6 dc6 pm6 cd6 ct6 : Value}
    {f7 : Addr} {od7 an7 : Option Addr} {sl7 : Array (Option Value)} {oc7 kV7 dc7 pm7 cd7 ct7 : Value}
    {f8 : Addr} {od8 an8 : Option Addr} {sl8 : Array (Option Value)} {oc8 kV8 dc8 pm8 cd8 ct8 : Value}
    (a0 : PySem.W.nsIn K mainGlobals "exchanged" = some (some (.ref f0))) (l0 : K.lookup f0 = some ⟨oc0, od0, .func (PySem.W.fnOf "exchanged" "exchanged" (defArgs s_exchanged) (defBody s_exchanged) (defScope s_exchanged) .none kV0 dc0 pm0 an0 cd0 ct0), sl0⟩) (c0 : PySem.W.codeIn K cd0 "exchanged" = true) (k0 : PySem.W.keepIn K (.ref f0) = true)
    (a1 : PySem.W.nsIn K mainGlobals "_law_pen" = some (some (.ref f1))) (l1 : K.lookup f1 = some ⟨oc1, od1, .func (PySem.W.fnOf "_law_pen" "_law_pen" (defArgs s__law_pen) (defBody s__law_pen) (defScope s__law_pen) .none kV1 dc1 pm1 an1 cd1 ct1), sl1⟩) (c1 : PySem.W.codeIn K cd1 "_law_pen" = true) (k1 : PySem.W.keepIn K (.ref f1) = true)
    (a2 : PySem.W.nsIn K mainGlobals "_law_fresh" = some (some (.ref f2))) (l2 : K.lookup f2 = some ⟨oc2, od2, .func (PySem.W.fnOf "_law_fresh" "_law_fresh" (defArgs s__law_fresh) (defBody s__law_fresh) (defScope s__law_fresh) .none kV2 dc2 pm2 an2 cd2 ct2), sl2⟩) (c2 : PySem.W.codeIn K cd2 "_law_fresh" = true) (k2 : PySem.W.keepIn K (.ref f2) = true)
    (a3 : PySem.W.nsIn K mainGlobals "_law_draw" = some (some (.ref f3))) (l3 : K.lookup f3 = some ⟨oc3, od3, .func (PySem.W.fnOf "_law_draw" "_law_draw" (defArgs s__law_draw) (defBody s__law_draw) (defScope s__law_draw) .none kV3 dc3 pm3 an3 cd3 ct3), sl3⟩) (c3 : PySem.W.codeIn K cd3 "_law_draw" = true) (k3 : PySem.W.keepIn K (.ref f3) = true)
    (a4 : PySem.W.nsIn K mainGlobals "_law_stream" = some (some (.ref f4))) (l4 : K.lookup f4 = some ⟨oc4, od4, .func (PySem.W.fnOf "_law_stream" "_law_stream" (defArgs s__law_stream) (defBody s__law_stream) (defScope s__law_stream) .none kV4 dc4 pm4 an4 cd4 ct4), sl4⟩) (c4 : PySem.W.codeIn K cd4 "_law_stream" = true) (k4 : PySem.W.keepIn K (.ref f4) = true)
    (a5 : PySem.W.nsIn K mainGlobals "numbered" = some (some (.ref f5))) (l5 : K.lookup f5 = some ⟨oc5, od5, .func (PySem.W.fnOf "numbered" "numbered" (defArgs s_numbered) (defBody s_numbered) (defScope s_numbered) .none kV5 dc5 pm5 an5 cd5 ct5), sl5⟩) (c5 : PySem.W.codeIn K cd5 "numbered" = true) (k5 : PySem.W.keepIn K (.ref f5) = true)
    (a6 : PySem.W.nsIn K mainGlobals "is_numbered" = some (some (.ref f6))) (l6 : K.lookup f6 = some ⟨oc6, od6, .func (PySem.W.fnOf "is_numbered" "is_numbered" (defArgs s_is_numbered) (defBody s_is_numbered) (defScope s_is_numbered) .none kV6 dc6 pm6 an6 cd6 ct6), sl6⟩) (c6 : PySem.W.codeIn K cd6 "is_numbered" = true) (k6 : PySem.W.keepIn K (.ref f6) = true)
    (a7 : PySem.W.nsIn K mainGlobals "are_alike" = some (some (.ref f7))) (l7 : K.lookup f7 = some ⟨oc7, od7, .func (PySem.W.fnOf "are_alike" "are_alike" (defArgs s_are_alike) (defBody s_are_alike) (defScope s_are_alike) .none kV7 dc7 pm7 an7 cd7 ct7), sl7⟩) (c7 : PySem.W.codeIn K cd7 "are_alike" = true) (k7 : PySem.W.keepIn K (.ref f7) = true)
    (a8 : PySem.W.nsIn K mainGlobals "law" = some (some (.ref f8))) (l8 : K.lookup f8 = some ⟨oc8, od8, .func (PySem.W.fnOf "law" "law" (defArgs s_law) (defBody s_law) (defScope s_law) .none kV8 dc8 pm8 an8 cd8 ct8), sl8⟩) (c8 : PySem.W.codeIn K cd8 "law" = true) (k8 : PySem.W.keepIn K (.ref f8) = true)
    (z_tuple : PySem.W.nsIn K mainGlobals "tuple" = some none)
    (z_list : PySem.W.nsIn K mainGlobals "list" = some none)
    (z_len : PySem.W.nsIn K mainGlobals "len" = some none)
    (z_range : PySem.W.nsIn K mainGlobals "range" = some none) :
    ∃ fd : FuncData, (∀ (s : Shared) (v : Value), BindsTo s fd ⟨[v], []⟩ [("script", v)]) ∧ ∀ base : Heap, K.In base → base.Ns mainGlobals mg → DFn l.prog w K mg base 5 fa fd ["script"] sp_law := by
  have e := hfa.symm.trans (PySem.W.mg_of X G a8)
  cases e
  have y_tuple := PySem.W.mg_none_of X G z_tuple
  have y_list := PySem.W.mg_none_of X G z_list
  have y_len := PySem.W.mg_none_of X G z_len
  have y_range := PySem.W.mg_none_of X G z_range
  refine ⟨PySem.W.fnOf "law" "law" (defArgs s_law) (defBody s_law) (defScope s_law) .none kV8 dc8 pm8 an8 cd8 ct8, fun s v => .of_eq rfl, fun base _ _ => ?_⟩
  have C_exchanged := ok_exchanged (P := l.prog) (w := w) (base := base) (def_mk X G a0 l0 c0 k0) y_tuple
  have C__law_pen := ok__law_pen (P := l.prog) (w := w) (base := base) (def_mk X G a1 l1 c1 k1) y_list
  have C__law_fresh := ok__law_fresh (P := l.prog) (w := w) (base := base) (def_mk X G a2 l2 c2 k2) y_len y_range
  have C__law_draw := ok__law_draw (P := l.prog) (w := w) (base := base) (def_mk X G a3 l3 c3 k3) C__law_fresh
  have C__law_stream := ok__law_stream (P := l.prog) (w := w) (base := base) (def_mk X G a4 l4 c4 k4) C__law_draw y_range y_tuple
  have C_numbered := ok_numbered (P := l.prog) (w := w) (base := base) (def_mk X G a5 l5 c5 k5) y_len y_tuple
  have C_is_numbered := ok_is_numbered (P := l.prog) (w := w) (base := base) (def_mk X G a6 l6 c6 k6) C_numbered
  have C_are_alike := ok_are_alike (P := l.prog) (w := w) (base := base) (def_mk X G a7 l7 c7 k7) C_numbered
  exact dfn_law (fun_mk l8 c8 k8) C__law_pen C__law_draw C__law_stream C_exchanged C_numbered C_are_alike C_is_numbered y_range y_len
theorem walk_ {l : PySem.W.OpenLaw} {q : Program} {loose : List Str} {XP : (Str → Option Value) → Heap → Prop} {YP : World → Heap → Prop} {d : DefRec} {K : Params → PySem.W.Frag} (hn : l.most = some 63) (hdf : d.params.defaults = [])
    (hY : ∀ (w : World) (h : Heap), YP w h → (K w.params).In h)
    (F : ∀ (w : World) (mg : Str → Option Value) (fa : Addr) (h : Heap), (K w.params).In h → h.Ns mainGlobals mg → mg d.name = some (.ref fa) →
      ∃ fd : FuncData, (∀ (s : Shared) (u : Value), BindsTo s fd ⟨[u], []⟩ [("script", u)]) ∧ ∀ base : Heap, (K w.params).In base → base.Ns mainGlobals mg → DFn l.prog w (K w.params) mg base 5 fa fd ["script"] sp_law) :
    PySem.W.WalkO q loose XP YP l.row.toRowW d [] (fun f vs => PySem.call f vs) :=
  law_walk (n := 63) (k := 5) (x := "script") (sp := sp_law) hn (by decide) hdf ⟨rfl, by decide, by decide⟩ hY F law_true
end Sb
open PySem PySem.W PyProof.Rows in
set_option maxRecDepth 100000 in
set_option maxHeartbeats 0 in
theorem PySem.Challenge.cw_seenbefore_k04_whole_streams_alike_holds : PySem.Challenge.rw_seenbefore_k04_whole_streams_alike.Holds := by
  w_on; o_law; k_head; (case hw => w_witness2)
  k_fill
  refine Sb.walk_ (l := PySem.Challenge.rw_seenbefore_k04_whole_streams_alike) rfl rfl (fun w h Y => PySem.W.kIn_of Y) ?F
  case F =>
    intro w mg fa h KX G hmg
    refine' Sb.all_mk KX G hmg ?a0 ?l0 ?c0 ?k0 ?a1 ?l1 ?c1 ?k1 ?a2 ?l2 ?c2 ?k2 ?a3 ?l3 ?c3 ?k3 ?a4 ?l4 ?c4 ?k4 ?a5 ?l5 ?c5 ?k5 ?a6 ?l6 ?c6 ?k6 ?a7 ?l7 ?c7 ?k7 ?a8 ?l8 ?c8 ?k8 ?z_tuple ?z_list ?z_len ?z_range
    (case a0 => k_is)
    (case l0 => k_is)
    (case c0 => k_is)
    (case k0 => k_is)
    (case a1 => k_is)
    (case l1 => k_is)
    (case c1 => k_is)
    (case k1 => k_is)
    (case a2 => k_is)
    (case l2 => k_is)
    (case c2 => k_is)
    (case k2 => k_is)
    (case a3 => k_is)
    (case l3 => k_is)
    (case c3 => k_is)
    (case k3 => k_is)
    (case a4 => k_is)
    (case l4 => k_is)
    (case c4 => k_is)
    (case k4 => k_is)
    (case a5 => k_is)
    (case l5 => k_is)
    (case c5 => k_is)
    (case k5 => k_is)
    (case a6 => k_is)
    (case l6 => k_is)
    (case c6 => k_is)
    (case k6 => k_is)
    (case a7 => k_is)
    (case l7 => k_is)
    (case c7 => k_is)
    (case k7 => k_is)
    (case a8 => k_is)
    (case l8 => k_is)
    (case c8 => k_is)
    (case k8 => k_is)
    (case z_tuple => k_is)
    (case z_list => k_is)
    (case z_len => k_is)
    (case z_range => k_is)

