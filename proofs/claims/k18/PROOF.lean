import PyProof.Rows.All
import Wide.All
import OpenK.AllK
import Wide.FinOn
import HandS.ForMost
import HandS.ForExc
import HandS.Wide
import HandS.IsInst
import HandS.Deep
import HandS.TupAny
import HandS.Defaults
import HandS.WideBits
import HandS.TupLe
import HandS.Iter
import HandS.TryOnly
import HandS.EndBits
import HandS.Comp
import HandS.List
import HandS.Text
import HandS.RaiseMore
import PyProof.StrOps2
import HandS.Exc
import HandS.ExcInit
import HandS.NoneIn
import HandS.Dict
import HandS.More
import PyProof.P3Eq
import PySem.Challenge.RW_quietbroom_k18_successors
set_option Elab.async false
set_option linter.all false
set_option maxRecDepth 100000
set_option maxHeartbeats 4000000
/-! QB: a functional mirror of Python over plain data, tied to the hand layer. -/
namespace QB
open PySem PySem.Spec PyProof.Rows L2

/-! ### data -/
/-- a value without a heap -/
inductive D where
  | non | bl (b : Bool) | int (i : Int) | str (s : Str) | tup (xs : List D) | lst (xs : List D) | slst (xs : List D)
  | ins (c : Str) (ns : List Str) (xs : List D) | dct (ks : List Key) (xs : List D)

/-- results: a value, a raised error (class, field names, fields), stuck -/
inductive R (α : Type) where
  | ok (a : α) | exc (c : Str) (ns : List Str) (xs : List D) | bad
@[simp] def R.bind {α β : Type} : R α → (α → R β) → R β
  | .ok a, f => f a
  | .exc c ns xs, _ => .exc c ns xs
  | .bad, _ => .bad
inductive Cell where
  | l (xs : List D) | d (ks : List Key) (xs : List D)
inductive EV where
  | val (d : D) | own (c : Cell)
abbrev Sc := List (Option EV)
inductive Fl where
  | nx (r : Sc) | rt (d : D) | rc (c : Cell) | bk (r : Sc) | ct (r : Sc) | ex (c : Str) (ns : List Str) (xs : List D) (r : Sc) | bad
abbrev ME := Sc → R D
abbrev MA := Sc → R (List D)
abbrev MT := Sc → R Bool
abbrev MF := Sc → R Cell
abbrev MS := Sc → Fl

/-! ### how a value stands in the heap -/
mutual
def Rep (K : PySem.W.Frag) (mg : Str → Option Value) (G : Hp) : D → V → Prop
  | .non, v => v = .non
  | .bl b, v => v = .bl b
  | .int i, v => v = .int i
  | .str s, v => v = .str s
  | .tup xs, v => ∃ (a : Addr) (vs : List V), v = .ref a ∧ SqT K G a vs ∧ RepL K mg G xs vs
  | .lst xs, v => ∃ (a : Addr) (vs : List V), v = .ref a ∧ G a = some (.lst vs) ∧ RepL K mg G xs vs
  | .slst xs, v => ∃ (a : Addr) (vs : List V), v = .ref a ∧ SqL K G a vs ∧ RepL K mg G xs vs
  | .ins c ns xs, v => ∃ (a C dx : Addr) (vs : List V), v = .ref a ∧ mg c = some (.ref C) ∧ G a = some (.ins C dx (ns.zip vs)) ∧ ns.length = xs.length ∧ RepL K mg G xs vs
  | .dct ks xs, v => ∃ (a : Addr) (vs : List V), v = .ref a ∧ G a = some (.dK (ks.zip vs)) ∧ ks.length = xs.length ∧ RepL K mg G xs vs
def RepL (K : PySem.W.Frag) (mg : Str → Option Value) (G : Hp) : List D → List V → Prop
  | [], vs => vs = []
  | d :: ds, vs => ∃ (v : V) (us : List V), vs = v :: us ∧ Rep K mg G d v ∧ RepL K mg G ds us
end
theorem Same.seqT {K : PySem.W.Frag} {H H' : Hp} {a : Addr} {xs : List V} (e : Same H H') (h : SqT K H a xs) : SqT K H' a xs := by
  rcases h with (h | ⟨o, h⟩) | h
  · exact .inl (.inl (e _ _ h))
  · exact .inl (.inr ⟨o, e _ _ h⟩)
  · exact .inr h
section
variable {K : PySem.W.Frag} {mg : Str → Option Value} {G G' : Hp}
mutual
theorem Rep.mono (s : Same G G') : ∀ (d : D) (v : V), Rep K mg G d v → Rep K mg G' d v
  | .non, v, h => by simpa [Rep] using h
  | .bl b, v, h => by simpa [Rep] using h
  | .int i, v, h => by simpa [Rep] using h
  | .str x, v, h => by simpa [Rep] using h
  | .tup xs, v, h => by
    simp only [Rep] at h ⊢
    obtain ⟨a, vs, e, q, r⟩ := h
    exact ⟨a, vs, e, Same.seqT s q, RepL.mono s xs vs r⟩
  | .lst xs, v, h => by
    simp only [Rep] at h ⊢
    obtain ⟨a, vs, e, q, r⟩ := h
    exact ⟨a, vs, e, s _ _ q, RepL.mono s xs vs r⟩
  | .slst xs, v, h => by
    simp only [Rep] at h ⊢
    obtain ⟨a, vs, e, q, r⟩ := h
    exact ⟨a, vs, e, Same.seq s q, RepL.mono s xs vs r⟩
  | .ins c ns xs, v, h => by
    simp only [Rep] at h ⊢
    obtain ⟨a, C, dx, vs, e, m, q, l, r⟩ := h
    exact ⟨a, C, dx, vs, e, m, s _ _ q, l, RepL.mono s xs vs r⟩
  | .dct ks xs, v, h => by
    simp only [Rep] at h ⊢
    obtain ⟨a, vs, e, q, l, r⟩ := h
    exact ⟨a, vs, e, s _ _ q, l, RepL.mono s xs vs r⟩
theorem RepL.mono (s : Same G G') : ∀ (ds : List D) (vs : List V), RepL K mg G ds vs → RepL K mg G' ds vs
  | [], vs, h => by simpa [RepL] using h
  | d :: ds, vs, h => by
    simp only [RepL] at h ⊢
    obtain ⟨v, us, e, r, t⟩ := h
    exact ⟨v, us, e, Rep.mono s d v r, RepL.mono s ds us t⟩
end
theorem RepL.nil : RepL K mg G [] [] := by simp [RepL]
theorem RepL.cons {d : D} {ds : List D} {v : V} {vs : List V} (h : Rep K mg G d v) (t : RepL K mg G ds vs) : RepL K mg G (d :: ds) (v :: vs) := by
  simp only [RepL]
  exact ⟨v, vs, rfl, h, t⟩
theorem RepL.length : ∀ {ds : List D} {vs : List V}, RepL K mg G ds vs → vs.length = ds.length
  | [], vs, h => by
    simp only [RepL] at h
    rw [h]
    rfl
  | d :: ds, vs, h => by
    simp only [RepL] at h
    obtain ⟨v, us, e, _, t⟩ := h
    rw [e, List.length_cons, List.length_cons, RepL.length t]
theorem RepL.get : ∀ {ds : List D} {vs : List V} {i : Nat} {d : D}, RepL K mg G ds vs → ds[i]? = some d → ∃ v, vs[i]? = some v ∧ Rep K mg G d v
  | [], _, i, d, _, h => by simp at h
  | x :: ds, vs, i, d, h, hi => by
    simp only [RepL] at h
    obtain ⟨v, us, e, r, t⟩ := h
    subst e
    cases i with
    | zero =>
      simp at hi
      subst hi
      exact ⟨v, rfl, r⟩
    | succ j =>
      simp at hi
      obtain ⟨w, hw, rw'⟩ := RepL.get (i := j) t hi
      exact ⟨w, by simpa using hw, rw'⟩
theorem RepL.getV : ∀ {ds : List D} {vs : List V} {i : Nat} {v : V}, RepL K mg G ds vs → vs[i]? = some v → ∃ d, ds[i]? = some d ∧ Rep K mg G d v := fun {ds vs i v} h hv => by
  have hl := h.length
  have hi : i < ds.length := by
    rw [← hl]
    exact (List.getElem?_eq_some_iff.mp hv).1
  obtain ⟨w, hw, r⟩ := h.get (List.getElem?_eq_getElem hi)
  rw [hv] at hw
  cases hw
  exact ⟨_, List.getElem?_eq_getElem hi, r⟩
theorem RepL.append : ∀ {ds es : List D} {vs us : List V}, RepL K mg G ds vs → RepL K mg G es us → RepL K mg G (ds ++ es) (vs ++ us)
  | [], es, vs, us, h, t => by
    simp only [RepL] at h
    subst h
    exact t
  | d :: ds, es, vs, us, h, t => by
    simp only [RepL] at h
    obtain ⟨v, ws, e, r, q⟩ := h
    subst e
    exact RepL.cons r (RepL.append q t)
theorem RepL.take : ∀ {ds : List D} {vs : List V} (n : Nat), RepL K mg G ds vs → RepL K mg G (ds.take n) (vs.take n)
  | [], vs, n, h => by
    simp only [RepL] at h
    subst h
    simp [RepL]
  | d :: ds, vs, 0, h => by simp [RepL]
  | d :: ds, vs, n + 1, h => by
    simp only [RepL] at h
    obtain ⟨v, ws, e, r, q⟩ := h
    subst e
    exact RepL.cons r (RepL.take n q)
theorem RepL.drop : ∀ {ds : List D} {vs : List V} (n : Nat), RepL K mg G ds vs → RepL K mg G (ds.drop n) (vs.drop n)
  | [], vs, n, h => by
    simp only [RepL] at h
    subst h
    simp [RepL]
  | d :: ds, vs, 0, h => h
  | d :: ds, vs, n + 1, h => by
    simp only [RepL] at h
    obtain ⟨v, ws, e, r, q⟩ := h
    subst e
    exact RepL.drop n q
theorem RepL.set : ∀ {ds : List D} {vs : List V} (i : Nat) {d : D} {v : V}, RepL K mg G ds vs → Rep K mg G d v → RepL K mg G (ds.set i d) (vs.set i v)
  | [], vs, i, d, v, h, r => by
    simp only [RepL] at h
    subst h
    simp [RepL]
  | x :: ds, vs, 0, d, v, h, r => by
    simp only [RepL] at h
    obtain ⟨w, ws, e, _, q⟩ := h
    subst e
    exact RepL.cons r q
  | x :: ds, vs, i + 1, d, v, h, r => by
    simp only [RepL] at h
    obtain ⟨w, ws, e, r0, q⟩ := h
    subst e
    exact RepL.cons r0 (RepL.set i q r)
end

/-! ### the heap without what is hidden: Z, a caller's own things; m, the things that the slots own -/
noncomputable def hid (Z : Addr → Prop) (m : Nat → Option Addr) (H : Hp) : Hp := fun b => open Classical in if Z b ∨ ∃ i, m i = some b then none else H b
abbrev nom : Nat → Option Addr := fun _ => none
section
variable {Z : Addr → Prop} {m : Nat → Option Addr} {H H' : Hp} {b : Addr} {o : HO}
theorem hid_of (h : H b = some o) (hz : ¬ Z b) (hm : ∀ i, m i ≠ some b) : hid Z m H b = some o := by
  unfold hid
  rw [if_neg (fun q => q.elim hz fun ⟨i, e⟩ => hm i e)]
  exact h
theorem of_hid (h : hid Z m H b = some o) : H b = some o ∧ ¬ Z b ∧ ∀ i, m i ≠ some b := by
  unfold hid at h
  split at h
  · cases h
  · rename_i q
    exact ⟨h, fun z => q (.inl z), fun i e => q (.inr ⟨i, e⟩)⟩
theorem hid_sub : Same (hid Z m H) H := fun _ _ h => (of_hid h).1
theorem hid_mono (s : Same H H') : Same (hid Z m H) (hid Z m H') := fun b o h => by
  obtain ⟨h1, h2, h3⟩ := of_hid h
  exact hid_of (s _ _ h1) h2 h3
theorem hid_less {m' : Nat → Option Addr} (hm : ∀ i a, m' i = some a → ∃ j, m j = some a) : Same (hid Z m H) (hid Z m' H) := fun b o h => by
  obtain ⟨h1, h2, h3⟩ := of_hid h
  exact hid_of h1 h2 fun i e => by
    obtain ⟨j, q⟩ := hm i b e
    exact h3 j q
theorem hid_nom : Same (hid Z m H) (hid Z nom H) := hid_less fun _ _ e => by cases e
end

def CellOk (K : PySem.W.Frag) (mg : Str → Option Value) (G : Hp) (o : HO) : Cell → Prop
  | .l xs => ∃ vs, o = .lst vs ∧ RepL K mg G xs vs
  | .d ks xs => ∃ vs, o = .dK (ks.zip vs) ∧ ks.length = xs.length ∧ RepL K mg G xs vs
theorem CellOk.mono {K : PySem.W.Frag} {mg : Str → Option Value} {G G' : Hp} {o : HO} {c : Cell} (s : Same G G') (h : CellOk K mg G o c) : CellOk K mg G' o c := by
  cases c with
  | l xs =>
    obtain ⟨vs, e, r⟩ := h
    exact ⟨vs, e, r.mono s⟩
  | d ks xs =>
    obtain ⟨vs, e, l, r⟩ := h
    exact ⟨vs, e, l, r.mono s⟩

/-- the slots of a body and its mirror -/
structure Rel (K : PySem.W.Frag) (mg : Str → Option Value) (n : Nat) (Z : Addr → Prop) (H0 : Hp) (m : Nat → Option Addr) (r : Sc) (σ : L2.St) (H : Hp) : Prop where
  lenr : r.length = n
  lens : σ.length = n
  val : ∀ (i : Nat) (d : D), r[i]? = some (some (.val d)) → ∃ v, σ[i]? = some (some v) ∧ Rep K mg (hid Z m H) d v
  own : ∀ (i : Nat) (c : Cell), r[i]? = some (some (.own c)) → ∃ a o, m i = some a ∧ σ[i]? = some (some (.ref a)) ∧ H a = some o ∧ CellOk K mg (hid Z m H) o c
  dom : ∀ (i : Nat) (a : Addr), m i = some a → ∃ c, r[i]? = some (some (.own c))
  inj : ∀ (i j : Nat) (a : Addr), m i = some a → m j = some a → i = j
  frs : ∀ (i : Nat) (a : Addr), m i = some a → H0 a = none ∧ ¬ Z a
  zed : ∀ b, Z b → H b ≠ none
  same : Same H0 H
section
variable {K : PySem.W.Frag} {mg : Str → Option Value} {n : Nat} {Z : Addr → Prop} {H0 : Hp} {m : Nat → Option Addr} {r : Sc} {σ : L2.St} {H H' : Hp}
theorem Rel.alive (q : Rel K mg n Z H0 m r σ H) {i : Nat} {a : Addr} (h : m i = some a) : ∃ o, H a = some o := by
  obtain ⟨c, hc⟩ := q.dom i a h
  obtain ⟨a', o, h1, _, h2, _⟩ := q.own i c hc
  rw [h] at h1
  cases h1
  exact ⟨o, h2⟩
theorem Rel.grow (q : Rel K mg n Z H0 m r σ H) (s : Same H H') : Rel K mg n Z H0 m r σ H' := by
  refine ⟨q.lenr, q.lens, fun i d h => ?_, fun i c h => ?_, q.dom, q.inj, q.frs, fun b hb e => ?_, q.same.trans s⟩
  · obtain ⟨v, h1, h2⟩ := q.val i d h
    exact ⟨v, h1, h2.mono (hid_mono s)⟩
  · obtain ⟨a, o, h1, h2, h3, h4⟩ := q.own i c h
    exact ⟨a, o, h1, h2, s _ _ h3, h4.mono (hid_mono s)⟩
  · cases e2 : H b with
    | none => exact q.zed b hb e2
    | some o =>
      rw [s _ _ e2] at e
      cases e
/-- a new address is not hidden -/
theorem Rel.new (q : Rel K mg n Z H0 m r σ H) {p : Addr} (h : H p = none) : ¬ Z p ∧ ∀ i, m i ≠ some p :=
  ⟨fun z => q.zed p z h, fun i e => by
    obtain ⟨o, ho⟩ := q.alive e
    rw [h] at ho
    cases ho⟩
theorem Rel.hidNew (q : Rel K mg n Z H0 m r σ H) {p : Addr} {o : HO} (h : H p = none) : hid Z m (upd H p o) p = some o :=
  hid_of upd_same (q.new h).1 (q.new h).2
theorem same_upd {H : Hp} {p : Addr} {o : HO} (h : H p = none) : Same H (upd H p o) := fun b x e => by
  rw [upd_ne (ne_of_none e h)]
  exact e
def drp (m : Nat → Option Addr) (i : Nat) : Nat → Option Addr := fun j => if j = i then none else m j
def put (m : Nat → Option Addr) (i : Nat) (p : Addr) : Nat → Option Addr := fun j => if j = i then some p else m j
theorem drp_less {i : Nat} : ∀ j a, drp m i j = some a → ∃ k, m k = some a := fun j a e => by
  unfold drp at e
  split at e
  · cases e
  · exact ⟨j, e⟩
theorem same_drp {i : Nat} : Same (hid Z m H) (hid Z (drp m i) H) := hid_less drp_less
theorem getset {α : Type} {l : List α} {i j : Nat} {x : α} {y : α} (h : (l.set i x)[j]? = some y) : (j = i ∧ y = x) ∨ (j ≠ i ∧ l[j]? = some y) := by
  by_cases e : j = i
  · subst e
    rw [List.getElem?_set_self'] at h
    cases q : l[j]? with
    | none =>
      rw [q] at h
      cases h
    | some z =>
      rw [q] at h
      exact .inl ⟨rfl, (Option.some.inj h).symm⟩
  · rw [List.getElem?_set_ne (Ne.symm e)] at h
    exact .inr ⟨e, h⟩
/-- a slot takes a value -/
theorem Rel.setv (q : Rel K mg n Z H0 m r σ H) {i : Nat} {d : D} {v : V} (hi : i < n) (h : Rep K mg (hid Z m H) d v) : Rel K mg n Z H0 (drp m i) (r.set i (some (.val d))) (σ.set i (some v)) H := by
  refine ⟨by rw [List.length_set, q.lenr], by rw [List.length_set, q.lens], fun j e hj => ?_, fun j c hj => ?_, fun j a hj => ?_, fun j k a h1 h2 => ?_, fun j a hj => ?_, q.zed, q.same⟩
  · rcases getset hj with ⟨e1, e2⟩ | ⟨e1, e2⟩
    · subst e1
      cases e2
      exact ⟨v, List.getElem?_set_self (by rw [q.lens]; exact hi), h.mono same_drp⟩
    · obtain ⟨w, h1, h2⟩ := q.val j e e2
      exact ⟨w, by rw [List.getElem?_set_ne (Ne.symm e1)]; exact h1, h2.mono same_drp⟩
  · rcases getset hj with ⟨e1, e2⟩ | ⟨e1, e2⟩
    · cases e2
    · obtain ⟨a, o, h1, h2, h3, h4⟩ := q.own j c e2
      exact ⟨a, o, by unfold drp; rw [if_neg e1]; exact h1, by rw [List.getElem?_set_ne (Ne.symm e1)]; exact h2, h3, h4.mono same_drp⟩
  · unfold drp at hj
    split at hj
    · cases hj
    · rename_i e1
      obtain ⟨c, hc⟩ := q.dom j a hj
      exact ⟨c, by rw [List.getElem?_set_ne (Ne.symm e1)]; exact hc⟩
  · unfold drp at h1 h2
    split at h1
    · cases h1
    · split at h2
      · cases h2
      · exact q.inj j k a h1 h2
  · unfold drp at hj
    split at hj
    · cases hj
    · exact q.frs j a hj
/-- a slot takes a new thing of its own -/
theorem Rel.seto (q : Rel K mg n Z H0 m r σ H) {i : Nat} {c : Cell} {p : Addr} {o : HO} (hi : i < n) (hp : H p = none) (h : CellOk K mg (hid Z m H) o c) :
    Rel K mg n Z H0 (put m i p) (r.set i (some (.own c))) (σ.set i (some (.ref p))) (upd H p o) ∧ Same (hid Z m H) (hid Z (put m i p) (upd H p o)) := by
  have sm : Same (hid Z m H) (hid Z (put m i p) (upd H p o)) := fun b x e => by
    obtain ⟨h1, h2, h3⟩ := of_hid e
    refine hid_of (same_upd hp _ _ h1) h2 fun j ej => ?_
    unfold put at ej
    split at ej
    · cases ej
      rw [hp] at h1
      cases h1
    · exact h3 j ej
  refine ⟨⟨by rw [List.length_set, q.lenr], by rw [List.length_set, q.lens], fun j e hj => ?_, fun j c' hj => ?_, fun j a hj => ?_, fun j k a h1 h2 => ?_, fun j a hj => ?_, fun b hb e => ?_, q.same.trans (same_upd hp)⟩, sm⟩
  · rcases getset hj with ⟨e1, e2⟩ | ⟨e1, e2⟩
    · cases e2
    · obtain ⟨w, h1, h2⟩ := q.val j e e2
      exact ⟨w, by rw [List.getElem?_set_ne (Ne.symm e1)]; exact h1, h2.mono sm⟩
  · rcases getset hj with ⟨e1, e2⟩ | ⟨e1, e2⟩
    · subst e1
      cases e2
      exact ⟨p, o, by unfold put; rw [if_pos rfl], List.getElem?_set_self (by rw [q.lens]; exact hi), upd_same, h.mono sm⟩
    · obtain ⟨a, o', h1, h2, h3, h4⟩ := q.own j c' e2
      exact ⟨a, o', by unfold put; rw [if_neg e1]; exact h1, by rw [List.getElem?_set_ne (Ne.symm e1)]; exact h2, same_upd hp _ _ h3, h4.mono sm⟩
  · unfold put at hj
    split at hj
    · rename_i e1
      subst e1
      exact ⟨c, List.getElem?_set_self (by rw [q.lenr]; exact hi)⟩
    · rename_i e1
      obtain ⟨c, hc⟩ := q.dom j a hj
      exact ⟨c, by rw [List.getElem?_set_ne (Ne.symm e1)]; exact hc⟩
  · unfold put at h1 h2
    split at h1
    · rename_i e1
      cases h1
      split at h2
      · rename_i e2
        rw [e1, e2]
      · exact absurd h2 ((q.new hp).2 k)
    · split at h2
      · cases h2
        exact absurd h1 ((q.new hp).2 j)
      · exact q.inj j k a h1 h2
  · unfold put at hj
    split at hj
    · cases hj
      exact ⟨q.same.free hp, (q.new hp).1⟩
    · exact q.frs j a hj
  · by_cases eb : b = p
    · subst eb
      rw [upd_same] at e
      cases e
    · rw [upd_ne eb] at e
      exact q.zed b hb e
/-- a slot's own thing is changed -/
theorem hid_upd {i : Nat} {a : Addr} {o : HO} (h : m i = some a) : hid Z m (upd H a o) = hid Z m H := by
  funext b
  unfold hid
  split
  · rfl
  · rename_i q
    rw [upd_ne fun e => q (.inr ⟨i, by rw [h, e]⟩)]
theorem Rel.chg (q : Rel K mg n Z H0 m r σ H) {i : Nat} {c c' : Cell} {a : Addr} {o' : HO} (hc : r[i]? = some (some (.own c))) (ha : m i = some a) (h : CellOk K mg (hid Z m H) o' c') :
    Rel K mg n Z H0 m (r.set i (some (.own c'))) σ (upd H a o') := by
  refine ⟨by rw [List.length_set, q.lenr], q.lens, fun j e hj => ?_, fun j c2 hj => ?_, fun j b hj => ?_, q.inj, q.frs, fun b hb e => ?_, fun b x e => ?_⟩
  · rw [hid_upd ha]
    rcases getset hj with ⟨e1, e2⟩ | ⟨e1, e2⟩
    · cases e2
    · exact q.val j e e2
  · rw [hid_upd ha]
    rcases getset hj with ⟨e1, e2⟩ | ⟨e1, e2⟩
    · subst e1
      cases e2
      obtain ⟨a', o, h1, h2, h3, h4⟩ := q.own j c hc
      rw [ha] at h1
      cases h1
      exact ⟨a, o', ha, h2, upd_same, h⟩
    · obtain ⟨b, o, h1, h2, h3, h4⟩ := q.own j c2 e2
      have nb : b ≠ a := fun e => by
        subst e
        exact e1 (q.inj j i b h1 ha)
      exact ⟨b, o, h1, h2, by rw [upd_ne nb]; exact h3, h4⟩
  · by_cases e1 : j = i
    · subst e1
      refine ⟨c', List.getElem?_set_self ?_⟩
      exact (List.getElem?_eq_some_iff.mp hc).1
    · obtain ⟨c2, h2⟩ := q.dom j b hj
      exact ⟨c2, by rw [List.getElem?_set_ne (Ne.symm e1)]; exact h2⟩
  · by_cases eb : b = a
    · subst eb
      exact (q.frs i b ha).2 hb
    · rw [upd_ne eb] at e
      exact q.zed b hb e
  · have nb : b ≠ a := fun z => by
      subst z
      rw [(q.frs i b ha).1] at e
      cases e
    rw [upd_ne nb]
    exact q.same _ _ e
/-- a slot's own thing becomes a plain value -/
def thawed : Cell → D
  | .l xs => .lst xs
  | .d ks xs => .dct ks xs
theorem Rel.frz (q : Rel K mg n Z H0 m r σ H) {i : Nat} {c : Cell} (hc : r[i]? = some (some (.own c))) : Rel K mg n Z H0 (drp m i) (r.set i (some (.val (thawed c)))) σ H := by
  have hi : i < n := by
    rw [← q.lenr]
    exact (List.getElem?_eq_some_iff.mp hc).1
  obtain ⟨a, o, h1, h2, h3, h4⟩ := q.own i c hc
  have hv : Rep K mg (hid Z (drp m i) H) (thawed c) (.ref a) := by
    have ha : hid Z (drp m i) H a = some o := hid_of h3 (q.frs i a h1).2 fun j e => by
      unfold drp at e
      split at e
      · cases e
      · rename_i ne
        exact ne (q.inj j i a e h1)
    have h5 := h4.mono (G' := hid Z (drp m i) H) same_drp
    cases c with
    | l xs =>
      obtain ⟨vs, e, t⟩ := h5
      subst e
      simp only [thawed, Rep]
      exact ⟨a, vs, rfl, ha, t⟩
    | d ks xs =>
      obtain ⟨vs, e, l, t⟩ := h5
      subst e
      simp only [thawed, Rep]
      exact ⟨a, vs, rfl, ha, l, t⟩
  have es : σ.set i (some (.ref a)) = σ := by
    have hl : i < σ.length := by
      rw [q.lens]
      exact hi
    have e : σ[i] = some (.ref a) := by
      have := h2
      rw [List.getElem?_eq_getElem hl] at this
      exact Option.some.inj this
    rw [← e]
    exact List.set_getElem_self hl
  refine ⟨by rw [List.length_set, q.lenr], q.lens, fun j e hj => ?_, fun j c2 hj => ?_, fun j b hj => ?_, fun j k b h1 h2 => ?_, fun j b hj => ?_, q.zed, q.same⟩
  · rcases getset hj with ⟨e1, e2⟩ | ⟨e1, e2⟩
    · subst e1
      cases e2
      exact ⟨.ref a, h2, hv⟩
    · obtain ⟨w, g1, g2⟩ := q.val j e e2
      exact ⟨w, g1, g2.mono same_drp⟩
  · rcases getset hj with ⟨e1, e2⟩ | ⟨e1, e2⟩
    · cases e2
    · obtain ⟨b, o2, g1, g2, g3, g4⟩ := q.own j c2 e2
      exact ⟨b, o2, by unfold drp; rw [if_neg e1]; exact g1, g2, g3, g4.mono same_drp⟩
  · unfold drp at hj
    split at hj
    · cases hj
    · rename_i e1
      obtain ⟨c2, g⟩ := q.dom j b hj
      exact ⟨c2, by rw [List.getElem?_set_ne (Ne.symm e1)]; exact g⟩
  · unfold drp at h1 h2
    split at h1
    · cases h1
    · split at h2
      · cases h2
      · exact q.inj j k b h1 h2
  · unfold drp at hj
    split at hj
    · cases hj
    · exact q.frs j b hj
end
end QB

namespace QB
open PySem PySem.Spec PyProof.Rows L2

/-! ### what is wanted of a result -/
def ExcAt (K : PySem.W.Frag) (mg : Str → Option Value) (G : Hp) (c : Str) (ns : List Str) (xs : List D) (C : Addr) (d : Option Addr) : Prop :=
  mg c = some (.ref C) ∧ ((ns = [] ∧ xs = [] ∧ d = none) ∨ ∃ (dd : Addr) (vs : List V), d = some dd ∧ G dd = some (.xd (ns.zip vs)) ∧ ns.length = xs.length ∧ RepL K mg G xs vs)
theorem ExcAt.mono {K : PySem.W.Frag} {mg : Str → Option Value} {G G' : Hp} {c : Str} {ns : List Str} {xs : List D} {C : Addr} {d : Option Addr} (s : Same G G') (h : ExcAt K mg G c ns xs C d) : ExcAt K mg G' c ns xs C d := by
  obtain ⟨h1, h2⟩ := h
  refine ⟨h1, ?_⟩
  rcases h2 with h2 | ⟨dd, vs, e, g, l, t⟩
  · exact .inl h2
  · exact .inr ⟨dd, vs, e, s _ _ g, l, t.mono s⟩
def PostG (K : PySem.W.Frag) (mg : Str → Option Value) (Z : Addr → Prop) (m : Nat → Option Addr) (W : WX) (σ : L2.St) (H : Hp) {β : Type} (x : R β) (k : β → Prop) : Prop := match x with
  | .ok b => k b
  | .exc c ns xs => ∀ (C : Addr) (d : Option Addr) (H' : Hp), Same H H' → ExcAt K mg (hid Z m H') c ns xs C d → W (.ref C) d σ H'
  | .bad => False
section
variable {K : PySem.W.Frag} {mg : Str → Option Value} {Z : Addr → Prop} {m : Nat → Option Addr} {W : WX} {σ : L2.St} {H H' : Hp} {β γ : Type} {x : R β} {k k' : β → Prop}
theorem PostG.imp (h : PostG K mg Z m W σ H x k) (f : ∀ b, k b → k' b) : PostG K mg Z m W σ H x k' := by
  cases x with
  | ok b => exact f b h
  | exc c ns xs => exact h
  | bad => exact h
theorem PostG.grow (h : PostG K mg Z m W σ H x k) (s : Same H H') : PostG K mg Z m W σ H' x k := by
  cases x with
  | ok b => exact h
  | exc c ns xs => exact fun C d H'' s' e => h C d H'' (s.trans s') e
  | bad => exact h
theorem PostG.bind {f : β → R γ} {k : γ → Prop} (h : PostG K mg Z m W σ H (x.bind f) k) : PostG K mg Z m W σ H x (fun b => PostG K mg Z m W σ H (f b) k) := by
  cases x with
  | ok b => exact h
  | exc c ns xs => exact h
  | bad => exact h
end

/-! ### an expression's reading keeps to its mirror -/
def SimE (X : Cx) (W : WX) (te : TE) (me : ME) : Prop := ∀ (n : Nat) (Z : Addr → Prop) (H0 : Hp) (m : Nat → Option Addr) (r : Sc) (σ : L2.St) (H : Hp), Rel X.K X.mg n Z H0 m r σ H → ∀ Q : VK,
  PostG X.K X.mg Z m W σ H (me r) (fun d => ∀ (v : V) (H' : Hp), Same H H' → Rep X.K X.mg (hid Z m H') d v → Q v H') → te σ H Q
/-- the value may be a slot's own thing: it is read, not kept -/
def SimW (X : Cx) (W : WX) (te : TE) (me : ME) : Prop := ∀ (n : Nat) (Z : Addr → Prop) (H0 : Hp) (m : Nat → Option Addr) (r : Sc) (σ : L2.St) (H : Hp), Rel X.K X.mg n Z H0 m r σ H → ∀ Q : VK,
  PostG X.K X.mg Z m W σ H (me r) (fun d => ∀ (v : V) (H' : Hp), Same H H' → Rep X.K X.mg (hid Z nom H') d v → Q v H') → te σ H Q
def SimA (X : Cx) (W : WX) (ta : TA) (ma : MA) : Prop := ∀ (n : Nat) (Z : Addr → Prop) (H0 : Hp) (m : Nat → Option Addr) (r : Sc) (σ : L2.St) (H : Hp), Rel X.K X.mg n Z H0 m r σ H → ∀ Q : List V → Hp → Prop,
  PostG X.K X.mg Z m W σ H (ma r) (fun ds => ∀ (vs : List V) (H' : Hp), Same H H' → RepL X.K X.mg (hid Z m H') ds vs → Q vs H') → ta σ H Q
def SimAW (X : Cx) (W : WX) (ta : TA) (ma : MA) : Prop := ∀ (n : Nat) (Z : Addr → Prop) (H0 : Hp) (m : Nat → Option Addr) (r : Sc) (σ : L2.St) (H : Hp), Rel X.K X.mg n Z H0 m r σ H → ∀ Q : List V → Hp → Prop,
  PostG X.K X.mg Z m W σ H (ma r) (fun ds => ∀ (vs : List V) (H' : Hp), Same H H' → RepL X.K X.mg (hid Z nom H') ds vs → Q vs H') → ta σ H Q
def SimT (X : Cx) (W : WX) (tt : TT) (mt : MT) : Prop := ∀ (n : Nat) (Z : Addr → Prop) (H0 : Hp) (m : Nat → Option Addr) (r : Sc) (σ : L2.St) (H : Hp), Rel X.K X.mg n Z H0 m r σ H → ∀ Q : Bool → Hp → Prop,
  PostG X.K X.mg Z m W σ H (mt r) (fun b => ∀ (H' : Hp), Same H H' → Q b H') → tt σ H Q
/-- the value is a new thing -/
def SimF (X : Cx) (W : WX) (te : TE) (mf : MF) : Prop := ∀ (n : Nat) (Z : Addr → Prop) (H0 : Hp) (m : Nat → Option Addr) (r : Sc) (σ : L2.St) (H : Hp), Rel X.K X.mg n Z H0 m r σ H → ∀ Q : VK,
  PostG X.K X.mg Z m W σ H (mf r) (fun c => ∀ (p : Addr) (o : HO) (H' : Hp), Same H H' → H' p = none → CellOk X.K X.mg (hid Z m H') o c → Q (.ref p) (upd H' p o)) → te σ H Q
structure EE (X : Cx) (W : WX) (e : Expr) (me : ME) : Prop where
  ex : ∃ te, PE X e te ∧ SimE X W te me
structure EW (X : Cx) (W : WX) (e : Expr) (me : ME) : Prop where
  ex : ∃ te, PE X e te ∧ SimW X W te me
structure EA (X : Cx) (W : WX) (es : List Expr) (ma : MA) : Prop where
  ex : ∃ ta, PA X es ta ∧ SimA X W ta ma
structure EAW (X : Cx) (W : WX) (es : List Expr) (ma : MA) : Prop where
  ex : ∃ ta, PA X es ta ∧ SimAW X W ta ma
structure ET (X : Cx) (W : WX) (e : Expr) (mt : MT) : Prop where
  ex : ∃ tt, PT X e tt ∧ SimT X W tt mt
structure EV2 (X : Cx) (W : WX) (e : Expr) (mt : MT) : Prop where
  ex : ∃ tt, PW X e tt ∧ SimT X W tt mt
structure EF (X : Cx) (W : WX) (e : Expr) (mf : MF) : Prop where
  ex : ∃ te, PE X e te ∧ SimF X W te mf
section
variable {X : Cx} {W : WX} {e : Expr} {es : List Expr} {me : ME} {ma : MA} {mf : MF} {te : TE} {ta : TA}
theorem EE.w (h : EE X W e me) : EW X W e me := by
  obtain ⟨te, h1, h2⟩ := h.ex
  exact ⟨te, h1, fun n Z H0 m r σ H q Q p => h2 n Z H0 m r σ H q Q (p.imp fun d k v H' s t => k v H' s (t.mono hid_nom))⟩
theorem EA.w (h : EA X W es ma) : EAW X W es ma := by
  obtain ⟨te, h1, h2⟩ := h.ex
  exact ⟨te, h1, fun n Z H0 m r σ H q Q p => h2 n Z H0 m r σ H q Q (p.imp fun d k v H' s t => k v H' s (t.mono hid_nom))⟩
def mCellE (mf : MF) : ME := fun r => (mf r).bind fun c => .ok (thawed c)
theorem CellOk.rep {K : PySem.W.Frag} {mg : Str → Option Value} {G : Hp} {a : Addr} {o : HO} {c : Cell} (h : CellOk K mg G o c) (ha : G a = some o) : Rep K mg G (thawed c) (.ref a) := by
  cases c with
  | l xs =>
    obtain ⟨vs, e, t⟩ := h
    subst e
    simp only [thawed, Rep]
    exact ⟨a, vs, rfl, ha, t⟩
  | d ks xs =>
    obtain ⟨vs, e, l, t⟩ := h
    subst e
    simp only [thawed, Rep]
    exact ⟨a, vs, rfl, ha, l, t⟩
theorem EF.toE (h : EF X W e mf) : EE X W e (mCellE mf) := by
  obtain ⟨te, h1, h2⟩ := h.ex
  refine ⟨te, h1, fun n Z H0 m r σ H q Q p => h2 n Z H0 m r σ H q Q (p.bind.imp fun c k b o H' s e t => ?_)⟩
  have q' := q.grow s
  exact k (.ref b) (upd H' b o) (s.trans (same_upd e)) ((t.mono (hid_mono (same_upd e))).rep (q'.hidNew e))

/-! ### names, constants -/
def mVar (i : Nat) : ME := fun r => match r[i]? with
  | some (some (.val d)) => .ok d
  | _ => .bad
def mVarW (i : Nat) : ME := fun r => match r[i]? with
  | some (some (.val d)) => .ok d
  | some (some (.own c)) => .ok (thawed c)
  | _ => .bad
def mC (d : D) : ME := fun _ => .ok d
theorem SimE.var (i : Nat) : SimE X W (tVar i) (mVar i) := fun n Z H0 m r σ H q Q p => by
  unfold mVar at p
  split at p
  · rename_i d e
    obtain ⟨v, h1, h2⟩ := q.val i d e
    exact ⟨v, h1, p v H (Same.refl H) h2⟩
  · exact False.elim p
theorem SimW.var (i : Nat) : SimW X W (tVar i) (mVarW i) := fun n Z H0 m r σ H q Q p => by
  unfold mVarW at p
  split at p
  · rename_i d e
    obtain ⟨v, h1, h2⟩ := q.val i d e
    exact ⟨v, h1, p v H (Same.refl H) (h2.mono hid_nom)⟩
  · rename_i c e
    obtain ⟨a, o, h1, h2, h3, h4⟩ := q.own i c e
    refine ⟨.ref a, h2, p (.ref a) H (Same.refl H) ((h4.mono hid_nom).rep (hid_of h3 (q.frs i a h1).2 fun j e => by cases e))⟩
  · exact False.elim p
theorem SimE.const {d : D} {v : V} (h : ∀ G, Rep X.K X.mg G d v) : SimE X W (tC v) (mC d) := fun n Z H0 m r σ H q Q p => p v H (Same.refl H) (h _)
theorem ee_var (i : Nat) {x : Str} {pos : Pos} (hN : X.N[i]? = some x := by rfl) (hv : Vis X.env.scope x := by first | exact Or.inl rfl | exact Or.inr (Or.inl rfl) | exact Or.inr (Or.inr rfl)) (hd : (x == ("__debug__" : Str)) = false := by decide)
    (hcd : (x == ("__classdict__" : Str)) = false := by decide) : EE X W (.Name x pos) (mVar i) := ⟨_, pv i hN hv hd hcd, SimE.var i⟩
theorem ew_var (i : Nat) {x : Str} {pos : Pos} (hN : X.N[i]? = some x := by rfl) (hv : Vis X.env.scope x := by first | exact Or.inl rfl | exact Or.inr (Or.inl rfl) | exact Or.inr (Or.inr rfl)) (hd : (x == ("__debug__" : Str)) = false := by decide)
    (hcd : (x == ("__classdict__" : Str)) = false := by decide) : EW X W (.Name x pos) (mVarW i) := ⟨_, pv i hN hv hd hcd, SimW.var i⟩
theorem ee_int {i : Int} {j pos} : EE X W (.Constant (.int i) j pos) (mC (.int i)) := ⟨_, pe_int, SimE.const fun _ => by simp [Rep]⟩
theorem ee_bl {b : Bool} {j pos} : EE X W (.Constant (.bool b) j pos) (mC (.bl b)) := ⟨_, pe_bl, SimE.const fun _ => by simp [Rep]⟩
theorem ee_non {j pos} : EE X W (.Constant .none j pos) (mC .non) := ⟨_, pe_non, SimE.const fun _ => by simp [Rep]⟩
theorem ee_str {s : Str} {j pos} : EE X W (.Constant (.str s) j pos) (mC (.str s)) := ⟨_, pe_str, SimE.const fun _ => by simp [Rep]⟩
/-- a module's name: a constant -/
theorem ee_glob {x : Str} {pos : Pos} {u : Value} {v : V} {d : D} (hg : Gl X x) (hm : X.mg x = some u) (hr : RelV v u) (h : ∀ G, Rep X.K X.mg G d v) (hdb : (x == ("__debug__" : Str)) = false := by decide) : EE X W (.Name x pos) (mC d) := ⟨_, pe_glob hg hm hr hdb, SimE.const h⟩
end
end QB

namespace QB
open PySem PySem.Spec PyProof.Rows L2

/-! ### operators by values -/
def mBin (f : D → D → R D) (ma mb : ME) : ME := fun r => (ma r).bind fun a => (mb r).bind fun b => f a b
def OpS (X : Cx) (W : WX) (rr : R2) (f : D → D → R D) : Prop := ∀ (n : Nat) (Z : Addr → Prop) (H0 : Hp) (m : Nat → Option Addr) (r : Sc) (σ : L2.St) (H : Hp), Rel X.K X.mg n Z H0 m r σ H → ∀ (a b : D) (x y : V) (Q : VK),
  Rep X.K X.mg (hid Z m H) a x → Rep X.K X.mg (hid Z m H) b y → PostG X.K X.mg Z m W σ H (f a b) (fun d => ∀ (v : V) (H' : Hp), Same H H' → Rep X.K X.mg (hid Z m H') d v → Q v H') → rr x y H Q
/-- operands that are read only, the answer a plain value -/
def OpW (X : Cx) (W : WX) (rr : R2) (f : D → D → R D) : Prop := ∀ (n : Nat) (Z : Addr → Prop) (H0 : Hp) (m : Nat → Option Addr) (r : Sc) (σ : L2.St) (H : Hp), Rel X.K X.mg n Z H0 m r σ H → ∀ (a b : D) (x y : V) (Q : VK),
  Rep X.K X.mg (hid Z nom H) a x → Rep X.K X.mg (hid Z nom H) b y → PostG X.K X.mg Z m W σ H (f a b) (fun d => ∀ (v : V) (H' : Hp), Same H H' → Rep X.K X.mg (hid Z m H') d v → Q v H') → rr x y H Q
section
variable {X : Cx} {W : WX} {a b e : Expr} {es : List Expr} {ma mb : ME} {ta tb te : TE} {pos : Pos} {f : D → D → R D} {rr : R2}
theorem SimE.op (ha : SimE X W ta ma) (hb : SimE X W tb mb) (ho : OpS X W rr f) : SimE X W (tOp rr ta tb) (mBin f ma mb) := fun n Z H0 m r σ H q Q p => by
  unfold mBin at p
  refine ha n Z H0 m r σ H q _ (p.bind.imp fun d k x H1 s1 rx => ?_)
  refine hb n Z H0 m r σ H1 (q.grow s1) _ ((k.grow s1).bind.imp fun e k2 y H2 s2 ry => ?_)
  exact ho n Z H0 m r σ H2 ((q.grow s1).grow s2) d e x y Q (rx.mono (hid_mono s2)) ry ((k2.grow s2).imp fun d' k3 v H' s3 rv => k3 v H' (s1.trans (s2.trans s3)) rv)
theorem SimE.opw (ha : SimW X W ta ma) (hb : SimW X W tb mb) (ho : OpW X W rr f) : SimE X W (tOp rr ta tb) (mBin f ma mb) := fun n Z H0 m r σ H q Q p => by
  unfold mBin at p
  refine ha n Z H0 m r σ H q _ (p.bind.imp fun d k x H1 s1 rx => ?_)
  refine hb n Z H0 m r σ H1 (q.grow s1) _ ((k.grow s1).bind.imp fun e k2 y H2 s2 ry => ?_)
  exact ho n Z H0 m r σ H2 ((q.grow s1).grow s2) d e x y Q (rx.mono (hid_mono s2)) ry ((k2.grow s2).imp fun d' k3 v H' s3 rv => k3 v H' (s1.trans (s2.trans s3)) rv)
end
/-! the operators -/
def dAdd : D → D → R D
  | .int i, .int j => .ok (.int (i + j))
  | .str s, .str t => if s.length + t.length ≤ sizeLine then .ok (.str (s ++ t)) else .bad
  | .lst xs, .lst ys => if xs.length + ys.length ≤ sizeLine then .ok (.lst (xs ++ ys)) else .bad
  | .tup xs, .tup ys => if xs.length + ys.length ≤ sizeLine then .ok (.tup (xs ++ ys)) else .bad
  | _, _ => .bad
def dSub : D → D → R D
  | .int i, .int j => .ok (.int (i - j))
  | _, _ => .bad
def dMul : D → D → R D
  | .int i, .int j => if Builtin.Int.intBits i + Builtin.Int.intBits j ≤ 134217728 then .ok (.int (i * j)) else .bad
  | .lst xs, .int k => if k < 9223372036854775808 ∧ -9223372036854775808 ≤ k ∧ xs.length * k.toNat ≤ sizeLine then .ok (.lst (List.replicate k.toNat xs).flatten) else .bad
  | _, _ => .bad
def dMod : D → D → R D
  | .int i, .int j => if 0 < j then .ok (.int (i % j)) else .bad
  | _, _ => .bad
def dDiv : D → D → R D
  | .int i, .int j => if 0 < j ∧ j.natAbs.log2 < 9000 then .ok (.int (i / j)) else .bad
  | _, _ => .bad
def dPow : D → D → R D
  | .int i, .int j => if 0 ≤ j ∧ j ≤ 1000000 ∧ i.natAbs < 18446744073709551616 then .ok (.int (i ^ j.toNat)) else .bad
  | _, _ => .bad
def rAddS (K : PySem.W.Frag) : R2 := fun x y H Q => (rI0 fun i j => V.int (i + j)) x y H Q ∨ ((∃ i j, x = .str i ∧ y = .str j ∧ i.length + j.length ≤ sizeLine ∧ Q (.str (i ++ j)) H) ∨ (rCat x y H Q ∨ rCatA K x y H Q))
def rMulS : R2 := fun x y H Q => (rI CMulX fun i j => V.int (i * j)) x y H Q ∨ rRep x y H Q
section
variable {X : Cx} {W : WX} {a b e : Expr} {es : List Expr} {ma mb : ME} {ta tb te : TE} {pos : Pos}
theorem ops_add : OpS X W (rAddS X.K) dAdd := fun n Z H0 m r σ H q a b x y Q ha hb p => by
  cases a <;> cases b <;> try exact False.elim p
  · simp only [Rep] at ha hb
    subst ha hb
    exact .inl ⟨_, _, rfl, rfl, p _ H (Same.refl H) (by simp [Rep])⟩
  · rename_i s t
    simp only [Rep] at ha hb
    subst ha hb
    simp only [dAdd] at p
    split at p
    · rename_i h
      exact .inr (.inl ⟨_, _, rfl, rfl, h, p _ H (Same.refl H) (by simp [Rep])⟩)
    · exact False.elim p
  · rename_i xs ys
    simp only [Rep] at ha hb
    obtain ⟨a1, v1, rfl, h1, t1⟩ := ha
    obtain ⟨a2, v2, rfl, h2, t2⟩ := hb
    simp only [dAdd] at p
    split at p
    · rename_i h
      have hl : v1.length + v2.length ≤ sizeLine := by rw [t1.length, t2.length]; exact h
      refine .inr (.inr (.inr ⟨a1, a2, v1, v2, rfl, rfl, Same.seqT hid_sub h1, Same.seqT hid_sub h2, hl, fun e => ?_, fun e1 e2 => ?_, fun e1 e2 c hc => ?_⟩))
      · refine p _ H (Same.refl H) ?_
        have l := t1.length
        rw [e] at l
        have : xs = [] := List.length_eq_zero_iff.mp l.symm
        subst this
        simp only [Rep]
        exact ⟨a2, v2, rfl, h2, t2⟩
      · refine p _ H (Same.refl H) ?_
        have l := t2.length
        rw [e2] at l
        have : ys = [] := List.length_eq_zero_iff.mp l.symm
        subst this
        simp only [Rep, List.append_nil]
        exact ⟨a1, v1, rfl, h1, t1⟩
      · refine p _ _ (same_upd hc) ?_
        simp only [Rep]
        exact ⟨c, _, rfl, .inl (.inl (q.hidNew hc)), (t1.append t2).mono (hid_mono (same_upd hc))⟩
    · exact False.elim p
  · rename_i xs ys
    simp only [Rep] at ha hb
    obtain ⟨a1, v1, rfl, h1, t1⟩ := ha
    obtain ⟨a2, v2, rfl, h2, t2⟩ := hb
    simp only [dAdd] at p
    split at p
    · rename_i h
      have hl : v1.length + v2.length ≤ sizeLine := by rw [t1.length, t2.length]; exact h
      refine .inr (.inr (.inl ⟨a1, a2, v1, v2, rfl, rfl, hid_sub _ _ h1, hid_sub _ _ h2, hl, fun c hc => p _ _ (same_upd hc) ?_⟩))
      simp only [Rep]
      exact ⟨c, _, rfl, q.hidNew hc, (t1.append t2).mono (hid_mono (same_upd hc))⟩
    · exact False.elim p
theorem ee_add (ha : EE X W a ma) (hb : EE X W b mb) : EE X W (.BinOp a .Add b pos) (mBin dAdd ma mb) := by
  obtain ⟨ta, h1, h2⟩ := ha.ex
  obtain ⟨tb, h3, h4⟩ := hb.ex
  exact ⟨_, pe_op (OpR.or op_add (OpR.or op_add_str (OpR.or op_cat op_catA))) h1 h3, h2.op h4 ops_add⟩
/-- ints alone -/
theorem ops_int {C : Int → Int → Prop} {g : Int → Int → Int} {f : D → D → R D} (h0 : ∀ a b, (∃ i j, a = D.int i ∧ b = D.int j) ∨ f a b = .bad) (h1 : ∀ i j, (C i j ∧ f (.int i) (.int j) = .ok (.int (g i j))) ∨ f (.int i) (.int j) = .bad) : OpS X W (rI C fun i j => V.int (g i j)) f := fun n Z H0 m r σ H q a b x y Q ha hb p => by
  rcases h0 a b with ⟨i, j, rfl, rfl⟩ | e
  · simp only [Rep] at ha hb
    subst ha hb
    rcases h1 i j with ⟨hc, e⟩ | e
    · rw [e] at p
      exact ⟨i, j, rfl, rfl, hc, p _ H (Same.refl H) (by simp [Rep])⟩
    · rw [e] at p
      exact False.elim p
  · rw [e] at p
    exact False.elim p
theorem ops_sub : OpS X W (rI0 fun i j => V.int (i - j)) dSub := fun n Z H0 m r σ H q a b x y Q ha hb p => by
  cases a <;> cases b <;> try exact False.elim p
  simp only [Rep] at ha hb
  subst ha hb
  exact ⟨_, _, rfl, rfl, p _ H (Same.refl H) (by simp [Rep])⟩
theorem ee_sub (ha : EE X W a ma) (hb : EE X W b mb) : EE X W (.BinOp a .Sub b pos) (mBin dSub ma mb) := by
  obtain ⟨ta, h1, h2⟩ := ha.ex
  obtain ⟨tb, h3, h4⟩ := hb.ex
  exact ⟨_, pe_op op_sub h1 h3, h2.op h4 ops_sub⟩
theorem ops_mod : OpS X W (rI (fun _ j => 0 < j) fun i j => V.int (i % j)) dMod := ops_int (fun a b => by cases a <;> cases b <;> simp [dMod]) fun i j => by
  simp only [dMod]
  split
  · exact .inl ⟨‹_›, rfl⟩
  · exact .inr rfl
theorem ee_mod (ha : EE X W a ma) (hb : EE X W b mb) : EE X W (.BinOp a .Mod b pos) (mBin dMod ma mb) := by
  obtain ⟨ta, h1, h2⟩ := ha.ex
  obtain ⟨tb, h3, h4⟩ := hb.ex
  exact ⟨_, pe_op op_mod h1 h3, h2.op h4 ops_mod⟩
theorem ops_div : OpS X W (rI CDivW fun i j => V.int (i / j)) dDiv := ops_int (fun a b => by cases a <;> cases b <;> simp [dDiv]) fun i j => by
  simp only [dDiv]
  split
  · exact .inl ⟨‹_›, rfl⟩
  · exact .inr rfl
theorem ee_div (ha : EE X W a ma) (hb : EE X W b mb) : EE X W (.BinOp a .FloorDiv b pos) (mBin dDiv ma mb) := by
  obtain ⟨ta, h1, h2⟩ := ha.ex
  obtain ⟨tb, h3, h4⟩ := hb.ex
  exact ⟨_, pe_op op_fdivW h1 h3, h2.op h4 ops_div⟩
theorem ops_pow : OpS X W (rI CPow fun i j => V.int (i ^ j.toNat)) dPow := ops_int (fun a b => by cases a <;> cases b <;> simp [dPow]) fun i j => by
  simp only [dPow]
  split
  · exact .inl ⟨‹_›, rfl⟩
  · exact .inr rfl
theorem ee_pow (ha : EE X W a ma) (hb : EE X W b mb) : EE X W (.BinOp a .Pow b pos) (mBin dPow ma mb) := by
  obtain ⟨ta, h1, h2⟩ := ha.ex
  obtain ⟨tb, h3, h4⟩ := hb.ex
  exact ⟨_, pe_op op_pow h1 h3, h2.op h4 ops_pow⟩
theorem RepL.rep {K : PySem.W.Frag} {mg : Str → Option Value} {G : Hp} {ds : List D} {vs : List V} (h : RepL K mg G ds vs) : ∀ k : Nat, RepL K mg G (List.replicate k ds).flatten (List.replicate k vs).flatten
  | 0 => by simp [RepL]
  | k + 1 => by
    rw [List.replicate_succ, List.replicate_succ, List.flatten_cons, List.flatten_cons]
    exact h.append (RepL.rep h k)
theorem ops_mul : OpS X W rMulS dMul := fun n Z H0 m r σ H q a b x y Q ha hb p => by
  cases a <;> cases b <;> try exact False.elim p
  · simp only [Rep] at ha hb
    subst ha hb
    simp only [dMul] at p
    split at p
    · rename_i h
      exact .inl ⟨_, _, rfl, rfl, (by unfold CMulX; omega), p _ H (Same.refl H) (by simp [Rep])⟩
    · exact False.elim p
  · rename_i xs k
    simp only [Rep] at ha hb
    obtain ⟨a1, v1, rfl, h1, t1⟩ := ha
    subst hb
    simp only [dMul] at p
    split at p
    · rename_i h
      obtain ⟨h3, h4, h5⟩ := h
      refine .inr ⟨a1, k, v1, rfl, rfl, hid_sub _ _ h1, by simpa using h4, by simpa using h3, by rw [t1.length]; exact h5, fun c hc => p _ _ (same_upd hc) ?_⟩
      simp only [Rep]
      exact ⟨c, _, rfl, q.hidNew hc, (t1.rep k.toNat).mono (hid_mono (same_upd hc))⟩
    · exact False.elim p
theorem ee_mul (ha : EE X W a ma) (hb : EE X W b mb) : EE X W (.BinOp a .Mult b pos) (mBin dMul ma mb) := by
  obtain ⟨ta, h1, h2⟩ := ha.ex
  obtain ⟨tb, h3, h4⟩ := hb.ex
  exact ⟨_, pe_op (OpR.or op_mulX op_rep) h1 h3, h2.op h4 ops_mul⟩
def mNeg (ma : ME) : ME := fun r => (ma r).bind fun d => match d with
  | .int i => .ok (.int (-i))
  | _ => .bad
theorem ee_neg (ha : EE X W a ma) : EE X W (.UnaryOp .USub a pos) (mNeg ma) := by
  obtain ⟨ta, h1, h2⟩ := ha.ex
  refine ⟨_, pe_un un_neg h1, fun n Z H0 m r σ H q Q p => h2 n Z H0 m r σ H q _ (p.bind.imp fun d k x H1 s1 rx => ?_)⟩
  cases d <;> try exact False.elim k
  simp only [Rep] at rx
  subst rx
  exact ⟨_, rfl, k _ H1 s1 (by simp [Rep])⟩

/-! ### comparisons -/
def flatD : D → Option V
  | .non => some .non
  | .bl b => some (.bl b)
  | .int i => some (.int i)
  | .str s => some (.str s)
  | _ => none
theorem flatD_rep {K : PySem.W.Frag} {mg : Str → Option Value} {G : Hp} {d : D} {v x : V} (h : flatD d = some v) (r : Rep K mg G d x) : x = v := by
  cases d <;> simp only [flatD, Option.some.injEq, reduceCtorEq] at h <;> simp only [Rep] at r <;> rw [r, h]
mutual
def toPy : D → Option PyData
  | .non => some .none
  | .bl b => some (.bool b)
  | .int i => some (.int i)
  | .str s => some (.str s)
  | .tup xs => (toPyL xs).map .tuple
  | .lst xs => (toPyL xs).map .list
  | .slst xs => (toPyL xs).map .list
  | .ins _ _ _ => none
  | .dct _ _ => none
def toPyL : List D → Option (List PyData)
  | [] => some []
  | d :: ds => (toPy d).bind fun p => (toPyL ds).map fun ps => p :: ps
end
mutual
theorem dp_of {K : PySem.W.Frag} {mg : Str → Option Value} {G : Hp} : ∀ (d : D) (v : V) (p : PyData), Rep K mg G d v → toPy d = some p → Dp K G v p
  | .non, v, p, h, e => by
    simp only [Rep] at h
    simp only [toPy, Option.some.injEq] at e
    subst h e
    exact .non
  | .bl b, v, p, h, e => by
    simp only [Rep] at h
    simp only [toPy, Option.some.injEq] at e
    subst h e
    exact .bl b
  | .int i, v, p, h, e => by
    simp only [Rep] at h
    simp only [toPy, Option.some.injEq] at e
    subst h e
    exact .int i
  | .str s, v, p, h, e => by
    simp only [Rep] at h
    simp only [toPy, Option.some.injEq] at e
    subst h e
    exact .str s
  | .tup xs, v, p, h, e => by
    simp only [Rep] at h
    obtain ⟨a, vs, rfl, h1, t⟩ := h
    simp only [toPy, Option.map_eq_some_iff] at e
    obtain ⟨ps, e, rfl⟩ := e
    exact .tup h1 (dp_ofL xs vs ps t e)
  | .lst xs, v, p, h, e => by
    simp only [Rep] at h
    obtain ⟨a, vs, rfl, h1, t⟩ := h
    simp only [toPy, Option.map_eq_some_iff] at e
    obtain ⟨ps, e, rfl⟩ := e
    exact .lst (.inl (.inl h1)) (dp_ofL xs vs ps t e)
  | .slst xs, v, p, h, e => by
    simp only [Rep] at h
    obtain ⟨a, vs, rfl, h1, t⟩ := h
    simp only [toPy, Option.map_eq_some_iff] at e
    obtain ⟨ps, e, rfl⟩ := e
    exact .lst h1 (dp_ofL xs vs ps t e)
  | .ins _ _ _, v, p, h, e => by simp [toPy] at e
  | .dct _ _, v, p, h, e => by simp [toPy] at e
theorem dp_ofL {K : PySem.W.Frag} {mg : Str → Option Value} {G : Hp} : ∀ (ds : List D) (vs : List V) (ps : List PyData), RepL K mg G ds vs → toPyL ds = some ps → DpAll K G vs ps
  | [], vs, ps, h, e => by
    simp only [RepL] at h
    simp only [toPyL, Option.some.injEq] at e
    subst h e
    exact .nil
  | d :: ds, vs, ps, h, e => by
    simp only [RepL] at h
    obtain ⟨v, us, rfl, r, t⟩ := h
    simp only [toPyL, Option.bind_eq_some_iff, Option.map_eq_some_iff] at e
    obtain ⟨p, e1, qs, e2, rfl⟩ := e
    exact .cons (dp_of d v p r e1) (dp_ofL ds us qs t e2)
end
/-- == of data -/
def dEqB (a b : D) : R Bool := match flatD a, flatD b with
  | some x, some y => if scal x y = true then .ok (decide (x = y)) else .bad
  | _, _ => match toPy a, toPy b with
    | some p, some q => if SeqAt.shaped p = true ∧ SeqAt.shaped q = true then .ok (PyData.eqv p q) else .bad
    | _, _ => .bad
def dEq (a b : D) : R D := (dEqB a b).bind fun c => .ok (.bl c)
def dNe (a b : D) : R D := (dEqB a b).bind fun c => .ok (.bl (!c))
theorem dEqB_cases {K : PySem.W.Frag} {mg : Str → Option Value} {G : Hp} {a b : D} {x y : V} (ha : Rep K mg G a x) (hb : Rep K mg G b y) : (∃ c, dEqB a b = .ok c ∧ ((scal x y = true ∧ c = decide (x = y)) ∨ ∃ p q, Dp K G x p ∧ Dp K G y q ∧ SeqAt.shaped p = true ∧ SeqAt.shaped q = true ∧ c = PyData.eqv p q)) ∨ dEqB a b = .bad := by
  unfold dEqB
  split
  · rename_i u v e1 e2
    have := flatD_rep e1 ha
    have := flatD_rep e2 hb
    subst x y
    split
    · exact .inl ⟨_, rfl, .inl ⟨‹_›, rfl⟩⟩
    · exact .inr rfl
  · split
    · rename_i p q e1 e2
      split
      · rename_i h
        exact .inl ⟨_, rfl, .inr ⟨p, q, dp_of _ _ _ ha e1, dp_of _ _ _ hb e2, h.1, h.2, rfl⟩⟩
      · exact .inr rfl
    · exact .inr rfl
mutual
theorem Dp.mono {K : PySem.W.Frag} {G G' : Hp} (s : Same G G') : ∀ (p : PyData) (v : V), Dp K G v p → Dp K G' v p
  | .none, _, h => by cases h; exact .non
  | .bool b, _, h => by cases h; exact .bl b
  | .int i, _, h => by cases h; exact .int i
  | .str x, _, h => by cases h; exact .str x
  | .list ds, _, h => by
    cases h with
    | lst h1 h2 => exact .lst (Same.seq s h1) (DpAll.mono s ds _ h2)
  | .tuple ds, _, h => by
    cases h with
    | tup h1 h2 => exact .tup (Same.seqT s h1) (DpAll.mono s ds _ h2)
  | .dict _, _, h => by cases h
theorem DpAll.mono {K : PySem.W.Frag} {G G' : Hp} (s : Same G G') : ∀ (ps : List PyData) (vs : List V), DpAll K G vs ps → DpAll K G' vs ps
  | [], _, h => by cases h; exact .nil
  | p :: ps, _, h => by
    cases h with
    | cons h1 h2 => exact .cons (Dp.mono s p _ h1) (DpAll.mono s ps _ h2)
end
def rEqS (K : PySem.W.Frag) : R2 := fun x y H Q => rEq x y H Q ∨ rEqD K x y H Q
def rNeS (K : PySem.W.Frag) : R2 := fun x y H Q => rNe x y H Q ∨ rNeD K x y H Q
theorem opw_eq : OpW X W (rEqS X.K) dEq := fun n Z H0 m r σ H q a b x y Q ha hb p => by
  unfold dEq at p
  rcases dEqB_cases ha hb with ⟨c, e, h⟩ | e
  · rw [e] at p
    rcases h with ⟨h1, h2⟩ | ⟨p1, q1, h1, h2, h3, h4, h5⟩
    · subst h2
      exact .inl ⟨h1, p _ H (Same.refl H) (by simp [Rep])⟩
    · subst h5
      exact .inr ⟨p1, q1, Dp.mono hid_sub _ _ h1, Dp.mono hid_sub _ _ h2, h3, h4, p _ H (Same.refl H) (by simp [Rep])⟩
  · rw [e] at p
    exact False.elim p
theorem opw_ne : OpW X W (rNeS X.K) dNe := fun n Z H0 m r σ H q a b x y Q ha hb p => by
  unfold dNe at p
  rcases dEqB_cases ha hb with ⟨c, e, h⟩ | e
  · rw [e] at p
    rcases h with ⟨h1, h2⟩ | ⟨p1, q1, h1, h2, h3, h4, h5⟩
    · subst h2
      exact .inl ⟨h1, p _ H (Same.refl H) (by simp [Rep])⟩
    · subst h5
      exact .inr ⟨p1, q1, Dp.mono hid_sub _ _ h1, Dp.mono hid_sub _ _ h2, h3, h4, p _ H (Same.refl H) (by simp [Rep])⟩
  · rw [e] at p
    exact False.elim p
def dCmp (g : Int → Int → Bool) : D → D → R D
  | .int i, .int j => .ok (.bl (g i j))
  | _, _ => .bad
theorem opw_cmp {g : Int → Int → Bool} : OpW X W (rI0 fun i j => V.bl (g i j)) (dCmp g) := fun n Z H0 m r σ H q a b x y Q ha hb p => by
  cases a <;> cases b <;> try exact False.elim p
  simp only [Rep] at ha hb
  subst ha hb
  exact ⟨_, _, rfl, rfl, p _ H (Same.refl H) (by simp [Rep])⟩
/-- is None, True, False -/
def dIs : D → D → R D
  | .non, .non => .ok (.bl true)
  | .bl _, .non => .ok (.bl false)
  | .int _, .non => .ok (.bl false)
  | .str _, .non => .ok (.bl false)
  | .tup _, .non => .ok (.bl false)
  | .lst _, .non => .ok (.bl false)
  | .slst _, .non => .ok (.bl false)
  | .ins _ _ _, .non => .ok (.bl false)
  | .dct _ _, .non => .ok (.bl false)
  | .bl a, .bl b => .ok (.bl (decide (a = b)))
  | _, _ => .bad
def dIsNot (a b : D) : R D := (dIs a b).bind fun d => match d with
  | .bl c => .ok (.bl (!c))
  | _ => .bad
def rIsS : R2 := fun x y H Q => (y = .non ∧ Q (.bl (decide (x = .non))) H) ∨ ∃ a b, x = .bl a ∧ y = .bl b ∧ Q (.bl (decide (a = b))) H
def rIsNotS : R2 := fun x y H Q => (y = .non ∧ Q (.bl (!decide (x = .non))) H) ∨ ∃ a b, x = .bl a ∧ y = .bl b ∧ Q (.bl (!decide (a = b))) H
theorem dIs_cases {K : PySem.W.Frag} {mg : Str → Option Value} {G : Hp} {a b : D} {x y : V} (ha : Rep K mg G a x) (hb : Rep K mg G b y) : (∃ c, dIs a b = .ok (.bl c) ∧ ((y = .non ∧ c = decide (x = .non)) ∨ ∃ a b, x = .bl a ∧ y = .bl b ∧ c = decide (a = b))) ∨ dIs a b = .bad := by
  cases b <;> cases a <;> (try exact .inr rfl)
  all_goals simp only [Rep] at ha hb
  all_goals first
    | (obtain ⟨a1, C, dx, vs, rfl, _⟩ := ha; subst hb; exact .inl ⟨_, rfl, .inl ⟨rfl, rfl⟩⟩)
    | (obtain ⟨a1, vs, rfl, _⟩ := ha; subst hb; exact .inl ⟨_, rfl, .inl ⟨rfl, rfl⟩⟩)
    | (subst ha hb; exact .inl ⟨_, rfl, .inl ⟨rfl, by simp⟩⟩)
    | (subst ha hb; exact .inl ⟨_, rfl, .inr ⟨_, _, rfl, rfl, rfl⟩⟩)
theorem opw_is : OpW X W rIsS dIs := fun n Z H0 m r σ H q a b x y Q ha hb p => by
  rcases dIs_cases ha hb with ⟨c, e, h⟩ | e
  · rw [e] at p
    rcases h with ⟨h1, h2⟩ | ⟨a, b, h1, h2, h3⟩
    · subst h2
      exact .inl ⟨h1, p _ H (Same.refl H) (by simp [Rep])⟩
    · subst h3
      exact .inr ⟨a, b, h1, h2, p _ H (Same.refl H) (by simp [Rep])⟩
  · rw [e] at p
    exact False.elim p
theorem opw_isNot : OpW X W rIsNotS dIsNot := fun n Z H0 m r σ H q a b x y Q ha hb p => by
  unfold dIsNot at p
  rcases dIs_cases ha hb with ⟨c, e, h⟩ | e
  · rw [e] at p
    rcases h with ⟨h1, h2⟩ | ⟨a, b, h1, h2, h3⟩
    · subst h2
      exact .inl ⟨h1, p _ H (Same.refl H) (by simp [Rep])⟩
    · subst h3
      exact .inr ⟨a, b, h1, h2, p _ H (Same.refl H) (by simp [Rep])⟩
  · rw [e] at p
    exact False.elim p
end
end QB

namespace QB
open PySem PySem.Spec PyProof.Rows L2
section
variable {X : Cx} {W : WX} {a b c e : Expr} {es rest : List Expr} {ma mb mc me : ME} {mt mu : MT} {ta tb te : TE} {pos : Pos} {f : D → D → R D} {rr : R2} {op : CmpOp}

/-! ### comparisons as values, as tests -/
theorem ee_cmpw (ho : OpR X (compareOp op) rr) (hs : OpW X W rr f) (ha : EW X W a ma) (hb : EW X W b mb) (hm : behindInMarks op b = false) : EE X W (.Compare a [op] [b] pos) (mBin f ma mb) := by
  obtain ⟨ta, h1, h2⟩ := ha.ex
  obtain ⟨tb, h3, h4⟩ := hb.ex
  exact ⟨_, pe_cmpR ho h1 h3 hm, SimE.opw h2 h4 hs⟩
def mTB (me : ME) : MT := fun r => (me r).bind fun d => match d with
  | .bl k => .ok k
  | _ => .bad
theorem SimT.of (h : SimE X W te me) : SimT X W (tTest te) (mTB me) := fun n Z H0 m r σ H q Q p => h n Z H0 m r σ H q _ (p.bind.imp fun d k x H1 s1 rx => by
  cases d <;> try exact False.elim k
  simp only [Rep] at rx
  subst rx
  exact ⟨_, rfl, k H1 s1⟩)
theorem et_cmpw (ho : OpR X (compareOp op) rr) (hs : OpW X W rr f) (ha : EW X W a ma) (hb : EW X W b mb) (hm : behindInMarks op b = false) : ET X W (.Compare a [op] [b] pos) (mTB (mBin f ma mb)) := by
  obtain ⟨ta, h1, h2⟩ := ha.ex
  obtain ⟨tb, h3, h4⟩ := hb.ex
  exact ⟨_, pt_cmpR ho h1 h3 hm, SimT.of (SimE.opw h2 h4 hs)⟩
theorem or_eq (hu : X.A.units + 64 < cLine) : OpR X (compareOp .Eq) (rEqS X.K) := OpR.or op_eq (op_eqD hu)
theorem or_ne (hu : X.A.units + 64 < cLine) : OpR X (compareOp .NotEq) (rNeS X.K) := OpR.or op_ne (op_neD hu)
theorem or_is : OpR X (compareOp .Is) rIsS := OpR.or op_isN op_is_bl
theorem or_isNot : OpR X (compareOp .IsNot) rIsNotS := OpR.or op_notN op_isnot_bl
def dLt := dCmp fun i j => decide (i < j)
def dLe := dCmp fun i j => decide (i ≤ j)
def dGt := dCmp fun i j => decide (j < i)
def dGe := dCmp fun i j => decide (j ≤ i)
/-- an expression whose value is a bool, as a test -/
theorem et_val (h : EE X W e me) (he : ∀ whole, isTrue e X.env whole = (do let v ← whole; standAt e.pos; holding [v] (truthy v)) := by intro _; rfl) : ET X W e (mTB me) := by
  obtain ⟨te, h1, h2⟩ := h.ex
  exact ⟨_, pt_val h1 he, SimT.of h2⟩

/-! ### and, or, not -/
def mTAnd (mt mu : MT) : MT := fun r => (mt r).bind fun k => match k with
  | true => mu r
  | false => .ok false
def mTOr (mt mu : MT) : MT := fun r => (mt r).bind fun k => match k with
  | true => .ok true
  | false => mu r
def mTNot (mt : MT) : MT := fun r => (mt r).bind fun k => .ok (!k)
theorem EV2.t (h : EV2 X W e mt) : ET X W e mt := by
  obtain ⟨t, h1, h2⟩ := h.ex
  exact ⟨t, h1.pt, h2⟩
theorem ev_and1 (h : ET X W a mt) : EV2 X W (.BoolOp .And [a] pos) mt := by
  obtain ⟨t, h1, h2⟩ := h.ex
  exact ⟨t, pw_and1 h1, h2⟩
theorem ev_or1 (h : ET X W a mt) : EV2 X W (.BoolOp .Or [a] pos) mt := by
  obtain ⟨t, h1, h2⟩ := h.ex
  exact ⟨t, pw_or1 h1, h2⟩
theorem ev_and (h : ET X W a mt) (g : EV2 X W (.BoolOp .And (b :: rest) pos) mu) : EV2 X W (.BoolOp .And (a :: b :: rest) pos) (mTAnd mt mu) := by
  obtain ⟨t, h1, h2⟩ := h.ex
  obtain ⟨u, h3, h4⟩ := g.ex
  refine ⟨_, pw_and h1 h3, fun n Z H0 m r σ H q Q p => h2 n Z H0 m r σ H q _ (p.bind.imp fun k kk H1 s1 => ?_)⟩
  cases k with
  | true => exact h4 n Z H0 m r σ H1 (q.grow s1) Q ((kk.grow s1).imp fun b z H' s2 => z H' (s1.trans s2))
  | false => exact kk H1 s1
theorem ev_or (h : ET X W a mt) (g : EV2 X W (.BoolOp .Or (b :: rest) pos) mu) : EV2 X W (.BoolOp .Or (a :: b :: rest) pos) (mTOr mt mu) := by
  obtain ⟨t, h1, h2⟩ := h.ex
  obtain ⟨u, h3, h4⟩ := g.ex
  refine ⟨_, pw_or h1 h3, fun n Z H0 m r σ H q Q p => h2 n Z H0 m r σ H q _ (p.bind.imp fun k kk H1 s1 => ?_)⟩
  cases k with
  | false => exact h4 n Z H0 m r σ H1 (q.grow s1) Q ((kk.grow s1).imp fun b z H' s2 => z H' (s1.trans s2))
  | true => exact kk H1 s1
theorem et_not (h : ET X W a mt) : ET X W (.UnaryOp .Not a pos) (mTNot mt) := by
  obtain ⟨t, h1, h2⟩ := h.ex
  exact ⟨_, pt_not h1, fun n Z H0 m r σ H q Q p => h2 n Z H0 m r σ H q _ (p.bind.imp fun k kk H1 s1 => kk H1 s1)⟩
/-- .. as values -/
def mAnd (ma mb : ME) : ME := fun r => (ma r).bind fun d => match d with
  | .bl true => mb r
  | .bl false => .ok (.bl false)
  | _ => .bad
def mOr (ma mb : ME) : ME := fun r => (ma r).bind fun d => match d with
  | .bl true => .ok (.bl true)
  | .bl false => mb r
  | _ => .bad
def mNot (ma : ME) : ME := fun r => (ma r).bind fun d => match d with
  | .bl k => .ok (.bl (!k))
  | _ => .bad
theorem ee_one {bo} (h : EE X W a ma) : EE X W (.BoolOp bo [a] pos) ma := by
  obtain ⟨t, h1, h2⟩ := h.ex
  exact ⟨t, pe_one h1, h2⟩
theorem ee_and (h : EE X W a ma) (g : EE X W (.BoolOp .And (b :: rest) pos) mb) : EE X W (.BoolOp .And (a :: b :: rest) pos) (mAnd ma mb) := by
  obtain ⟨t, h1, h2⟩ := h.ex
  obtain ⟨u, h3, h4⟩ := g.ex
  refine ⟨_, pe_and h1 h3, fun n Z H0 m r σ H q Q p => h2 n Z H0 m r σ H q _ (p.bind.imp fun d k x H1 s1 rx => ?_)⟩
  cases d <;> try exact False.elim k
  rename_i c
  simp only [Rep] at rx
  subst rx
  refine ⟨c, rfl, ?_⟩
  cases c with
  | true => exact h4 n Z H0 m r σ H1 (q.grow s1) Q ((PostG.grow k s1).imp fun d z v H' s2 => z v H' (s1.trans s2))
  | false => exact k _ H1 s1 (by simp [Rep])
theorem ee_or (h : EE X W a ma) (g : EE X W (.BoolOp .Or (b :: rest) pos) mb) : EE X W (.BoolOp .Or (a :: b :: rest) pos) (mOr ma mb) := by
  obtain ⟨t, h1, h2⟩ := h.ex
  obtain ⟨u, h3, h4⟩ := g.ex
  refine ⟨_, pe_or h1 h3, fun n Z H0 m r σ H q Q p => h2 n Z H0 m r σ H q _ (p.bind.imp fun d k x H1 s1 rx => ?_)⟩
  cases d <;> try exact False.elim k
  rename_i c
  simp only [Rep] at rx
  subst rx
  refine ⟨c, rfl, ?_⟩
  cases c with
  | false => exact h4 n Z H0 m r σ H1 (q.grow s1) Q ((PostG.grow k s1).imp fun d z v H' s2 => z v H' (s1.trans s2))
  | true => exact k _ H1 s1 (by simp [Rep])
theorem ee_not (h : EE X W a ma) : EE X W (.UnaryOp .Not a pos) (mNot ma) := by
  obtain ⟨t, h1, h2⟩ := h.ex
  refine ⟨_, pe_not h1, fun n Z H0 m r σ H q Q p => h2 n Z H0 m r σ H q _ (p.bind.imp fun d k x H1 s1 rx => ?_)⟩
  cases d <;> try exact False.elim k
  rename_i c
  simp only [Rep] at rx
  subst rx
  exact ⟨c, rfl, k _ H1 s1 (by simp [Rep])⟩
def mIfE (mt : MT) (ma mb : ME) : ME := fun r => (mt r).bind fun k => match k with
  | true => ma r
  | false => mb r
theorem ee_ifE (hc : ET X W c mt) (ha : EE X W a ma) (hb : EE X W b mb) : EE X W (.IfExp c a b pos) (mIfE mt ma mb) := by
  obtain ⟨t, h1, h2⟩ := hc.ex
  obtain ⟨u, h3, h4⟩ := ha.ex
  obtain ⟨v, h5, h6⟩ := hb.ex
  refine ⟨_, pe_ifExp h1 h3 h5, fun n Z H0 m r σ H q Q p => h2 n Z H0 m r σ H q _ (p.bind.imp fun k kk H1 s1 => ?_)⟩
  cases k with
  | true => exact h4 n Z H0 m r σ H1 (q.grow s1) Q ((PostG.grow kk s1).imp fun d z v H' s2 => z v H' (s1.trans s2))
  | false => exact h6 n Z H0 m r σ H1 (q.grow s1) Q ((PostG.grow kk s1).imp fun d z v H' s2 => z v H' (s1.trans s2))

/-! ### argument lists, displays -/
def mNil : MA := fun _ => .ok []
def mCons (ma : ME) (ms : MA) : MA := fun r => (ma r).bind fun d => (ms r).bind fun ds => .ok (d :: ds)
variable {ms : MA}
theorem ea_nil : EA X W [] mNil := ⟨_, pa_nil, fun n Z H0 m r σ H q Q p => p [] H (Same.refl H) RepL.nil⟩
theorem ea_cons (h : EE X W a ma) (g : EA X W es ms) (hs : starEach (a :: es) X.env = (false, eval a X.env) :: starEach es X.env := by rfl) : EA X W (a :: es) (mCons ma ms) := by
  obtain ⟨t, h1, h2⟩ := h.ex
  obtain ⟨u, h3, h4⟩ := g.ex
  refine ⟨_, pa_cons h1 h3 hs, fun n Z H0 m r σ H q Q p => h2 n Z H0 m r σ H q _ (p.bind.imp fun d k x H1 s1 rx => ?_)⟩
  refine h4 n Z H0 m r σ H1 (q.grow s1) _ ((k.grow s1).bind.imp fun ds k2 xs H2 s2 rxs => ?_)
  exact k2 (x :: xs) H2 (s1.trans s2) (RepL.cons (rx.mono (hid_mono s2)) rxs)
theorem eaw_nil : EAW X W [] mNil := ea_nil.w
theorem eaw_cons (h : EW X W a ma) (g : EAW X W es ms) (hs : starEach (a :: es) X.env = (false, eval a X.env) :: starEach es X.env := by rfl) : EAW X W (a :: es) (mCons ma ms) := by
  obtain ⟨t, h1, h2⟩ := h.ex
  obtain ⟨u, h3, h4⟩ := g.ex
  refine ⟨_, pa_cons h1 h3 hs, fun n Z H0 m r σ H q Q p => h2 n Z H0 m r σ H q _ (p.bind.imp fun d k x H1 s1 rx => ?_)⟩
  refine h4 n Z H0 m r σ H1 (q.grow s1) _ ((k.grow s1).bind.imp fun ds k2 xs H2 s2 rxs => ?_)
  exact k2 (x :: xs) H2 (s1.trans s2) (RepL.cons (rx.mono (hid_mono s2)) rxs)
def mTup (ms : MA) : ME := fun r => (ms r).bind fun ds => if ds.length ≤ sizeLine then .ok (.tup ds) else .bad
def mLst (ms : MA) : MF := fun r => (ms r).bind fun ds => if ds.length ≤ sizeLine then .ok (.l ds) else .bad
theorem ee_tup {x1} (h : EA X W es ms) : EE X W (.Tuple es x1 pos) (mTup ms) := by
  obtain ⟨t, h1, h2⟩ := h.ex
  refine ⟨_, pe_tup h1, fun n Z H0 m r σ H q Q p => h2 n Z H0 m r σ H q _ (p.bind.imp fun ds k xs H1 s1 rx => ?_)⟩
  split at k
  · refine ⟨by rw [rx.length]; assumption, fun c hc => k _ _ (s1.trans (same_upd hc)) ?_⟩
    simp only [Rep]
    exact ⟨c, xs, rfl, .inl (.inl ((q.grow s1).hidNew hc)), rx.mono (hid_mono (same_upd hc))⟩
  · exact False.elim k
theorem ef_lst (h : EA X W es ms) : EF X W (.List es pos) (mLst ms) := by
  obtain ⟨t, h1, h2⟩ := h.ex
  refine ⟨_, pe_lst h1, fun n Z H0 m r σ H q Q p => h2 n Z H0 m r σ H q _ (p.bind.imp fun ds k xs H1 s1 rx => ?_)⟩
  split at k
  · exact ⟨by rw [rx.length]; assumption, fun c hc => k c _ H1 s1 hc ⟨xs, rfl, rx⟩⟩
  · exact False.elim k
theorem ee_lst (h : EA X W es ms) : EE X W (.List es pos) (mCellE (mLst ms)) := (ef_lst h).toE

/-! ### items, slices -/
def seqD : D → Option (List D)
  | .lst xs => some xs
  | .tup xs => some xs
  | .slst xs => some xs
  | _ => none
def dIx : D → D → R D
  | .str z, .int i => if z.length ≤ sizeLine then (match atI z.cps.toList i with
    | some c => .ok (.str ⟨#[c]⟩)
    | none => .bad) else .bad
  | d, .int i => (match seqD d with
    | some xs => (match atI xs i with
      | some x => .ok x
      | none => .bad)
    | none => .bad)
  | _, _ => .bad
theorem RepL.at {K : PySem.W.Frag} {mg : Str → Option Value} {G : Hp} {ds : List D} {vs : List V} {i : Int} {d : D} (h : RepL K mg G ds vs) (e : atI ds i = some d) : ∃ v, atI vs i = some v ∧ Rep K mg G d v := by
  unfold atI at e ⊢
  rw [h.length]
  cases q : ixN ds.length i with
  | none =>
    rw [q] at e
    cases e
  | some j =>
    rw [q] at e
    exact h.get e
theorem seqD_rep {K : PySem.W.Frag} {mg : Str → Option Value} {G : Hp} {d : D} {v : V} {xs : List D} (r : Rep K mg G d v) (h : seqD d = some xs) : ∃ a vs, v = .ref a ∧ (SqL K G a vs ∨ SqT K G a vs) ∧ RepL K mg G xs vs := by
  cases d <;> simp only [seqD, Option.some.injEq, reduceCtorEq] at h <;> subst h <;> simp only [Rep] at r
  · obtain ⟨a, vs, rfl, h1, t⟩ := r
    exact ⟨a, vs, rfl, .inr h1, t⟩
  · obtain ⟨a, vs, rfl, h1, t⟩ := r
    exact ⟨a, vs, rfl, .inl (.inl (.inl h1)), t⟩
  · obtain ⟨a, vs, rfl, h1, t⟩ := r
    exact ⟨a, vs, rfl, .inl h1, t⟩
theorem dIx_cases {K : PySem.W.Frag} {mg : Str → Option Value} {G H : Hp} {d i : D} {x y : V} (s : Same G H) (hd : Rep K mg G d x) (hi : Rep K mg G i y) : (∃ e v, dIx d i = .ok e ∧ Rep K mg G e v ∧ ∀ Q : VK, Q v H → rIx K x y H Q) ∨ dIx d i = .bad := by
  have gen : ∀ (d : D) (i : Int) (xs : List D), Rep K mg G d x → y = .int i → seqD d = some xs → (∃ e v, (match atI xs i with | some x => R.ok x | none => .bad) = .ok e ∧ Rep K mg G e v ∧ ∀ Q : VK, Q v H → rIx K x y H Q) ∨ (match atI xs i with | some x => R.ok x | none => .bad) = .bad := by
    intro d i xs hd hy hs
    cases e : atI xs i with
    | none => exact .inr rfl
    | some z =>
      obtain ⟨a, vs, rfl, hq, t⟩ := seqD_rep hd hs
      obtain ⟨v, e2, rv⟩ := t.at e
      refine .inl ⟨z, v, rfl, rv, fun Q q => ?_⟩
      rcases hq with hq | hq
      · exact .inl ⟨a, vs, i, v, rfl, hy, Same.seq s hq, e2, q⟩
      · exact .inr (.inl ⟨a, vs, i, v, rfl, hy, Same.seqT s hq, e2, q⟩)
  cases i <;> try (cases d <;> exact .inr rfl)
  rename_i i
  have hy : y = .int i := by simpa [Rep] using hi
  cases d
  case str z =>
    have hx : x = .str z := by simpa [Rep] using hd
    simp only [dIx]
    split
    · rename_i hz
      cases e : atI z.cps.toList i with
      | none => exact .inr rfl
      | some c => exact .inl ⟨_, .str ⟨#[c]⟩, rfl, by simp [Rep], fun Q q => .inr (.inr ⟨z, i, c, hx, hy, hz, e, q⟩)⟩
    · exact .inr rfl
  case tup xs => exact gen _ i xs hd hy rfl
  case lst xs => exact gen _ i xs hd hy rfl
  case slst xs => exact gen _ i xs hd hy rfl
  all_goals exact .inr rfl
theorem ops_ix : OpS X W (rIx X.K) dIx := fun n Z H0 m r σ H q a b x y Q ha hb p => by
  rcases dIx_cases (G := hid Z m H) (H := H) hid_sub ha hb with ⟨e, v, h1, h2, h3⟩ | h
  · rw [h1] at p
    exact h3 Q (p v H (Same.refl H) h2)
  · rw [h] at p
    exact False.elim p
theorem ee_ix (ha : EE X W a ma) (hb : EE X W b mb) (hs : PlainIx b := by exact fun _ _ => rfl) : EE X W (.Subscript a b pos) (mBin dIx ma mb) := by
  obtain ⟨ta, h1, h2⟩ := ha.ex
  obtain ⟨tb, h3, h4⟩ := hb.ex
  exact ⟨_, pe_ix ix_seq h1 h3 hs, h2.op h4 ops_ix⟩
/-- an item of a thing that is only read -/
theorem ew_ix (ha : EW X W a ma) (hb : EE X W b mb) (hs : PlainIx b := by exact fun _ _ => rfl) : EW X W (.Subscript a b pos) (mBin dIx ma mb) := by
  obtain ⟨ta, h1, h2⟩ := ha.ex
  obtain ⟨tb, h3, h4⟩ := hb.ex
  refine ⟨_, pe_ix ix_seq h1 h3 hs, fun n Z H0 m r σ H q Q p => ?_⟩
  unfold mBin at p
  refine h2 n Z H0 m r σ H q _ (p.bind.imp fun d k x H1 s1 rx => ?_)
  refine h4 n Z H0 m r σ H1 (q.grow s1) _ ((k.grow s1).bind.imp fun e k2 y H2 s2 ry => ?_)
  rcases dIx_cases (G := hid Z nom H2) (H := H2) hid_sub (rx.mono (hid_mono s2)) (ry.mono hid_nom) with ⟨e, v, g1, g2, g3⟩ | g
  · rw [g1] at k2
    exact g3 Q (k2 v H2 (s1.trans s2) g2)
  · rw [g] at k2
    exact False.elim k2
/-- an item of a slot's own list -/
def dIxL (xs : List D) : D → R D
  | .int j => (match atI xs j with
    | some x => .ok x
    | none => .bad)
  | _ => .bad
def mIxO (i : Nat) (mb : ME) : ME := fun r => match r[i]? with
  | some (some (.own (.l xs))) => (mb r).bind (dIxL xs)
  | _ => .bad
theorem ee_ixo (i : Nat) {x : Str} {p1 : Pos} (hb : EE X W b mb) (hN : X.N[i]? = some x := by rfl) (hv : Vis X.env.scope x := by first | exact Or.inl rfl | exact Or.inr (Or.inl rfl) | exact Or.inr (Or.inr rfl)) (hd : (x == ("__debug__" : Str)) = false := by decide)
    (hcd : (x == ("__classdict__" : Str)) = false := by decide) (hs : PlainIx b := by exact fun _ _ => rfl) : EE X W (.Subscript (.Name x p1) b pos) (mIxO i mb) := by
  obtain ⟨tb, h3, h4⟩ := hb.ex
  refine ⟨_, pe_ix ix_seq (pv i hN hv hd hcd) h3 hs, fun n Z H0 m r σ H q Q p => ?_⟩
  unfold mIxO at p
  split at p
  · rename_i xs e
    obtain ⟨a, o, g1, g2, g3, g4⟩ := q.own i _ e
    obtain ⟨vs, rfl, t⟩ := g4
    refine ⟨_, g2, h4 n Z H0 m r σ H q _ (p.bind.imp fun d k y H1 s1 ry => ?_)⟩
    cases d <;> try exact False.elim k
    rename_i j
    simp only [Rep] at ry
    subst ry
    simp only [dIxL] at k
    cases e2 : atI xs j with
    | none =>
      rw [e2] at k
      exact False.elim k
    | some z =>
      rw [e2] at k
      obtain ⟨v, e3, rv⟩ := t.at e2
      exact .inl ⟨a, vs, j, v, rfl, rfl, .inl (.inl (s1 _ _ g3)), e3, k v H1 s1 (rv.mono (hid_mono s1))⟩
  · exact False.elim p

/-! slices -/
def mPart (o : Option ME) : Sc → R (Option Int) := fun r => match o with
  | none => .ok none
  | some me => (me r).bind fun d => match d with
    | .int i => .ok (some i)
    | _ => .bad
structure EO (X : Cx) (W : WX) (o : Option Expr) (mo : Option ME) : Prop where
  ex : ∃ t, PO X o t ∧ ∀ (n : Nat) (Z : Addr → Prop) (H0 : Hp) (m : Nat → Option Addr) (r : Sc) (σ : L2.St) (H : Hp), Rel X.K X.mg n Z H0 m r σ H → ∀ Q : Option Int → Hp → Prop,
    PostG X.K X.mg Z m W σ H (mPart mo r) (fun i => ∀ (H' : Hp), Same H H' → Q i H') → t σ H Q
theorem eo_none : EO X W none none := ⟨_, po_none, fun n Z H0 m r σ H q Q p => p H (Same.refl H)⟩
theorem eo_some (h : EE X W e me) : EO X W (some e) (some me) := by
  obtain ⟨t, h1, h2⟩ := h.ex
  refine ⟨_, po_some h1, fun n Z H0 m r σ H q Q p => h2 n Z H0 m r σ H q _ (p.bind.imp fun d k x H1 s1 rx => ?_)⟩
  cases d <;> try exact False.elim k
  simp only [Rep] at rx
  subst rx
  exact ⟨_, rfl, k H1 s1⟩
def cutD {α : Type} (xs : List α) (lo hi : Option Int) : List α := (xs.drop (HT.sIx xs.length 0 lo)).take (HT.sIx xs.length xs.length hi - HT.sIx xs.length 0 lo)
def dCut (d : D) (lo hi : Option Int) : R D := match d with
  | .lst xs => .ok (.lst (cutD xs lo hi))
  | .slst xs => .ok (.lst (cutD xs lo hi))
  | .tup xs => .ok (.tup (cutD xs lo hi))
  | .str z => if z.length ≤ sizeLine then .ok (.str (cutS z lo hi)) else .bad
  | _ => .bad
def mCut (me : ME) (lo hi : Option ME) : ME := fun r => (me r).bind fun d => (mPart lo r).bind fun l => (mPart hi r).bind fun h => dCut d l h
theorem RepL.cut {K : PySem.W.Frag} {mg : Str → Option Value} {G : Hp} {ds : List D} {vs : List V} (h : RepL K mg G ds vs) (lo hi : Option Int) : RepL K mg G (cutD ds lo hi) (cutV vs lo hi) := by
  unfold cutD cutV
  rw [h.length]
  exact (h.drop _).take _
theorem cut_all {α : Type} {xs : List α} {lo hi : Option Int} (h : HT.sIx xs.length 0 lo = 0 ∧ HT.sIx xs.length xs.length hi = xs.length) : cutD xs lo hi = xs := by
  unfold cutD
  rw [h.1, h.2]
  simp
variable {lo hi : Option Expr} {ml mh : Option ME} {p2 : Pos}
theorem ee_cut (ha : EE X W a ma) (hl : EO X W lo ml) (hh : EO X W hi mh) : EE X W (.Subscript a (.Slice lo hi none p2) pos) (mCut ma ml mh) := by
  obtain ⟨ta, h1, h2⟩ := ha.ex
  obtain ⟨tl, h3, h4⟩ := hl.ex
  obtain ⟨th, h5, h6⟩ := hh.ex
  refine ⟨_, pe_slice (SlR.or sl_list (SlR.or sl_tupA sl_str)) h1 h3 h5, fun n Z H0 m r σ H q Q p => ?_⟩
  unfold mCut at p
  refine h2 n Z H0 m r σ H q _ (p.bind.imp fun d k x H1 s1 rx => ?_)
  refine h4 n Z H0 m r σ H1 (q.grow s1) _ ((k.grow s1).bind.imp fun l k2 H2 s2 => ?_)
  refine h6 n Z H0 m r σ H2 ((q.grow s1).grow s2) _ ((k2.grow s2).bind.imp fun u k3 H3 s3 => ?_)
  have sA := s1.trans (s2.trans s3)
  have q3 := ((q.grow s1).grow s2).grow s3
  have rx3 := rx.mono (hid_mono (s2.trans s3))
  cases d <;> try exact False.elim k3
  · rename_i z
    simp only [Rep] at rx3
    subst rx3
    simp only [dCut] at k3
    split at k3
    · exact .inr (.inr ⟨z, rfl, ‹_›, k3 _ H3 sA (by simp [Rep])⟩)
    · exact False.elim k3
  · rename_i xs
    simp only [Rep] at rx3
    obtain ⟨a1, vs, rfl, hq, t⟩ := rx3
    refine .inr (.inl ⟨a1, vs, rfl, Same.seqT hid_sub hq, fun hc => ?_, fun hc c nc => ?_⟩)
    · rw [t.length] at hc
      refine k3 _ H3 sA ?_
      rw [cut_all hc]
      simp only [Rep]
      exact ⟨a1, vs, rfl, hq, t⟩
    · refine k3 _ _ (sA.trans (same_upd nc)) ?_
      simp only [Rep]
      exact ⟨c, _, rfl, .inl (.inl (q3.hidNew nc)), (t.cut l u).mono (hid_mono (same_upd nc))⟩
  · rename_i xs
    simp only [Rep] at rx3
    obtain ⟨a1, vs, rfl, hq, t⟩ := rx3
    refine .inl ⟨a1, vs, rfl, .inl (.inl (hid_sub _ _ hq)), fun c nc => k3 _ _ (sA.trans (same_upd nc)) ?_⟩
    simp only [Rep]
    exact ⟨c, _, rfl, q3.hidNew nc, (t.cut l u).mono (hid_mono (same_upd nc))⟩
  · rename_i xs
    simp only [Rep] at rx3
    obtain ⟨a1, vs, rfl, hq, t⟩ := rx3
    refine .inl ⟨a1, vs, rfl, Same.seq hid_sub hq, fun c nc => k3 _ _ (sA.trans (same_upd nc)) ?_⟩
    simp only [Rep]
    exact ⟨c, _, rfl, q3.hidNew nc, (t.cut l u).mono (hid_mono (same_upd nc))⟩

/-! ### built-ins of one argument that is read only -/
def mCallB (f : List D → R D) (ms : MA) : ME := fun r => (ms r).bind f
/-- a built-in by values: arguments read only, the answer a plain value of its own -/
def BuW (X : Cx) (W : WX) (rr : List V → Hp → VK → Prop) (f : List D → R D) : Prop := ∀ (n : Nat) (Z : Addr → Prop) (H0 : Hp) (m : Nat → Option Addr) (r : Sc) (σ : L2.St) (H : Hp), Rel X.K X.mg n Z H0 m r σ H → ∀ (ds : List D) (vs : List V) (Q : VK),
  RepL X.K X.mg (hid Z nom H) ds vs → PostG X.K X.mg Z m W σ H (f ds) (fun d => ∀ (v : V) (H' : Hp), Same H H' → Rep X.K X.mg (hid Z m H') d v → Q v H') → rr vs H Q
def BuS (X : Cx) (W : WX) (rr : List V → Hp → VK → Prop) (f : List D → R D) : Prop := ∀ (n : Nat) (Z : Addr → Prop) (H0 : Hp) (m : Nat → Option Addr) (r : Sc) (σ : L2.St) (H : Hp), Rel X.K X.mg n Z H0 m r σ H → ∀ (ds : List D) (vs : List V) (Q : VK),
  RepL X.K X.mg (hid Z m H) ds vs → PostG X.K X.mg Z m W σ H (f ds) (fun d => ∀ (v : V) (H' : Hp), Same H H' → Rep X.K X.mg (hid Z m H') d v → Q v H') → rr vs H Q
variable {tt : TA} {ff : List D → R D} {br : List V → Hp → VK → Prop} {x id T : String}
theorem SimE.bw (ha : SimAW X W tt ms) (hb : BuW X W br ff) : SimE X W (tCB br tt) (mCallB ff ms) := fun n Z H0 m r σ H q Q p => by
  unfold mCallB at p
  refine ha n Z H0 m r σ H q _ (p.bind.imp fun ds k vs H1 s1 rx => ?_)
  exact hb n Z H0 m r σ H1 (q.grow s1) ds vs Q rx ((k.grow s1).imp fun d k3 v H' s3 rv => k3 v H' (s1.trans s3) rv)
theorem SimE.bs (ha : SimA X W tt ms) (hb : BuS X W br ff) : SimE X W (tCB br tt) (mCallB ff ms) := fun n Z H0 m r σ H q Q p => by
  unfold mCallB at p
  refine ha n Z H0 m r σ H q _ (p.bind.imp fun ds k vs H1 s1 rx => ?_)
  exact hb n Z H0 m r σ H1 (q.grow s1) ds vs Q rx ((k.grow s1).imp fun d k3 v H' s3 rv => k3 v H' (s1.trans s3) rv)
/-- len(x) -/
def dLen : List D → R D
  | [.str z] => if z.length ≤ sizeLine then .ok (.int z.length) else .bad
  | [d] => (match seqD d with
    | some xs => .ok (.int xs.length)
    | none => .bad)
  | _ => .bad
theorem RepL.one {K : PySem.W.Frag} {mg : Str → Option Value} {G : Hp} {d : D} {vs : List V} (h : RepL K mg G [d] vs) : ∃ v, vs = [v] ∧ Rep K mg G d v := by
  simp only [RepL] at h
  obtain ⟨v, us, rfl, r, rfl⟩ := h
  exact ⟨v, rfl, r⟩
theorem RepL.two {K : PySem.W.Frag} {mg : Str → Option Value} {G : Hp} {d e : D} {vs : List V} (h : RepL K mg G [d, e] vs) : ∃ v w, vs = [v, w] ∧ Rep K mg G d v ∧ Rep K mg G e w := by
  simp only [RepL] at h
  obtain ⟨v, us, rfl, r, w, us', rfl, r', rfl⟩ := h
  exact ⟨v, w, rfl, r, r'⟩
theorem bu_len : BuW X W (fun xs H Q => ∃ x n, xs = [x] ∧ LenV X.K x H n ∧ Q (.int n) H) dLen := fun n Z H0 m r σ H q ds vs Q h p => by
  have gen : ∀ (d : D) (xs : List D), ds = [d] → seqD d = some xs → (∀ (v : V) (H' : Hp), Same H H' → Rep X.K X.mg (hid Z m H') (.int xs.length) v → Q v H') → ∃ x n, vs = [x] ∧ LenV X.K x H n ∧ Q (.int n) H := by
    intro d xs e hs k
    subst e
    obtain ⟨v, rfl, rv⟩ := h.one
    obtain ⟨a, us, rfl, hq, t⟩ := seqD_rep rv hs
    refine ⟨_, us.length, rfl, ?_, k _ H (Same.refl H) (by simp [Rep, t.length])⟩
    rcases hq with hq | hq
    · exact .inl ⟨us, Same.seq hid_sub hq, rfl⟩
    · exact .inr ⟨us, Same.seqT hid_sub hq, rfl⟩
  cases ds with
  | nil => exact False.elim p
  | cons d r =>
    cases r with
    | cons _ _ => cases d <;> exact False.elim p
    | nil =>
      cases d <;> try exact False.elim p
      · rename_i z
        obtain ⟨v, rfl, rv⟩ := h.one
        simp only [Rep] at rv
        subst rv
        simp only [dLen] at p
        split at p
        · exact ⟨_, z.length, rfl, ⟨‹_›, rfl⟩, p _ H (Same.refl H) (by simp [Rep])⟩
        · exact False.elim p
      · exact gen _ _ rfl rfl p
      · exact gen _ _ rfl rfl p
      · exact gen _ _ rfl rfl p
theorem ee_len {p1} (hm : X.mg "len" = none) (hg : Gl X "len") (ha : EAW X W (a :: es) ms) (he : starEach (a :: es) X.env = (false, eval a X.env) :: starEach es X.env := by rfl) (hpl : (backTo pos (starEach es X.env)).any (·.1) = false := by rfl) :
    EE X W (.Call (.Name "len" p1) (a :: es) [] pos) (mCallB dLen ms) := by
  obtain ⟨ta, h1, h2⟩ := ha.ex
  exact ⟨_, pe_callB call_len hg hm boot_len h1 (by decide) (by decide) he hpl, SimE.bw h2 bu_len⟩
/-- int(x) -/
def dInt : List D → R D
  | [.int i] => .ok (.int i)
  | [.bl k] => .ok (.int (if k then 1 else 0))
  | _ => .bad
theorem bu_int : BuW X W (fun xs H Q => (∃ i, xs = [.int i] ∧ Q (.int i) H) ∨ ∃ k, xs = [.bl k] ∧ Q (.int (if k then 1 else 0)) H) dInt := fun n Z H0 m r σ H q ds vs Q h p => by
  cases ds with
  | nil => exact False.elim p
  | cons d r =>
    cases r with
    | cons _ _ => cases d <;> exact False.elim p
    | nil =>
      cases d <;> try exact False.elim p
      all_goals
        obtain ⟨v, rfl, rv⟩ := h.one
        simp only [Rep] at rv
        subst rv
      · exact .inr ⟨_, rfl, p _ H (Same.refl H) (by simp [Rep])⟩
      · exact .inl ⟨_, rfl, p _ H (Same.refl H) (by simp [Rep])⟩
theorem ee_intc {p1} (hm : X.mg "int" = none) (hg : Gl X "int") (ha : EAW X W (a :: es) ms) (he : starEach (a :: es) X.env = (false, eval a X.env) :: starEach es X.env := by rfl) (hpl : (backTo pos (starEach es X.env)).any (·.1) = false := by rfl) :
    EE X W (.Call (.Name "int" p1) (a :: es) [] pos) (mCallB dInt ms) := by
  obtain ⟨ta, h1, h2⟩ := ha.ex
  exact ⟨_, pe_callTy call_int1 hg hm boot_int h1 (by decide) (by decide) he hpl, SimE.bw h2 bu_int⟩
/-- isinstance(x, T), T a built-in type -/
def tyN : D → Option String
  | .non => some "NoneType"
  | .bl _ => some "bool"
  | .int _ => some "int"
  | .str _ => some "str"
  | .tup _ => some "tuple"
  | .lst _ => some "list"
  | .slst _ => some "list"
  | .ins _ _ _ => none
  | .dct _ _ => some "dict"
theorem tyx_of {K : PySem.W.Frag} {mg : Str → Option Value} {G : Hp} {d : D} {v : V} {t : String} (r : Rep K mg G d v) (h : tyN d = some t) : TyX K G v (.type t) := by
  cases d <;> simp only [tyN, Option.some.injEq, reduceCtorEq] at h <;> subst h <;> simp only [Rep] at r
  · subst r
    exact .base .non
  · subst r
    exact .base (.bl _)
  · subst r
    exact .base (.int _)
  · subst r
    exact .base (.str _)
  · obtain ⟨a, vs, rfl, hq, t⟩ := r
    rcases hq with (hq | ⟨o, hq⟩) | ⟨o, its, n, hk, hc, _⟩
    · exact .base (.tup hq)
    · exact .fTuple hq
    · exact .kTuple hk hc
  · obtain ⟨a, vs, rfl, hq, t⟩ := r
    exact .base (.lst hq)
  · obtain ⟨a, vs, rfl, hq, t⟩ := r
    rcases hq with (hq | ⟨o, hq⟩) | ⟨o, its, n, hk, hc, _⟩
    · exact .base (.lst hq)
    · exact .base (.frz hq)
    · exact .kList hk hc
  · obtain ⟨a, vs, rfl, hq, l, t⟩ := r
    exact .base (.dK hq)
theorem TyX.mono {K : PySem.W.Frag} {G G' : Hp} {v : V} {t : String} (s : Same G G') (h : TyX K G v (.type t)) : TyX K G' v (.type t) := by
  cases h with
  | base h =>
    cases h with
    | non => exact .base .non
    | bl b => exact .base (.bl b)
    | int i => exact .base (.int i)
    | str s => exact .base (.str s)
    | flt s => exact .base (.flt s)
    | lst e => exact .base (.lst (s _ _ e))
    | frz e => exact .base (.frz (s _ _ e))
    | tup e => exact .base (.tup (s _ _ e))
    | dK e => exact .base (.dK (s _ _ e))
    | dT e => exact .base (.dT (s _ _ e))
  | byt b => exact .byt b
  | set e => exact .set (s _ _ e)
  | kList e c => exact .kList e c
  | kTuple e c => exact .kTuple e c
  | kDict e c => exact .kDict e c
  | fTuple e => exact .fTuple (s _ _ e)
  | fDict e => exact .fDict (s _ _ e)
/-- the answers, by the type's name -/
def isiB (T : String) (t : String) : Bool := t == T || (t == "bool" && T == "int")
def KitT (T : String) : Prop := ∀ t ∈ ["NoneType", "bool", "int", "str", "tuple", "list", "dict"], kitB t T = some (isiB T t)
theorem kit_int : KitT "int" := by
  intro t h
  simp only [List.mem_cons, List.not_mem_nil, or_false] at h
  rcases h with rfl | rfl | rfl | rfl | rfl | rfl | rfl <;> decide +kernel
theorem kit_bool : KitT "bool" := by
  intro t h
  simp only [List.mem_cons, List.not_mem_nil, or_false] at h
  rcases h with rfl | rfl | rfl | rfl | rfl | rfl | rfl <;> decide +kernel
theorem kit_str : KitT "str" := by
  intro t h
  simp only [List.mem_cons, List.not_mem_nil, or_false] at h
  rcases h with rfl | rfl | rfl | rfl | rfl | rfl | rfl <;> decide +kernel
theorem kit_tuple : KitT "tuple" := by
  intro t h
  simp only [List.mem_cons, List.not_mem_nil, or_false] at h
  rcases h with rfl | rfl | rfl | rfl | rfl | rfl | rfl <;> decide +kernel
theorem kit_list : KitT "list" := by
  intro t h
  simp only [List.mem_cons, List.not_mem_nil, or_false] at h
  rcases h with rfl | rfl | rfl | rfl | rfl | rfl | rfl <;> decide +kernel
def dIsi (T : String) (d : D) : R D := match tyN d with
  | some t => .ok (.bl (isiB T t))
  | none => .bad
def mIsi (T : String) (me : ME) : ME := fun r => (me r).bind (dIsi T)
theorem tyN_mem {d : D} {t : String} (h : tyN d = some t) : t ∈ ["NoneType", "bool", "int", "str", "tuple", "list", "dict"] := by
  cases d <;> simp only [tyN, Option.some.injEq, reduceCtorEq] at h <;> subst h <;> simp
theorem ee_isi {T : Str} {Ts : String} {p1 p3 : Pos} (hm : X.mg "isinstance" = none) (hg : Gl X "isinstance") (hmT : X.mg T = none) (hgT : Gl X T) (hbT : bootBuiltins T = some (.type Ts)) (kt : KitT Ts) (ha : EW X W a ma) (hn : T ≠ "__name__" := by decide) (hd : (T == ("__debug__" : Str)) = false := by decide)
    (he : starEach [a, .Name T p3] X.env = (false, eval a X.env) :: starEach [.Name T p3] X.env := by rfl) (he2 : starEach [.Name T p3] X.env = (false, eval (.Name T p3) X.env) :: starEach [] X.env := by rfl) (hpl : (backTo pos (starEach [.Name T p3] X.env)).any (·.1) = false := by rfl) :
    EE X W (.Call (.Name "isinstance" p1) [a, .Name T p3] [] pos) (mIsi Ts ma) := by
  obtain ⟨ta, h1, h2⟩ := ha.ex
  refine ⟨_, pe_callB call_isi hg hm boot_isinstance (pa_cons h1 (pa_cons (pe_bltn (v := .ty Ts) hgT hmT hbT rfl hn hd) pa_nil he2) he) (by decide) (by decide) he hpl, fun n Z H0 m r σ H q Q p => ?_⟩
  unfold mIsi at p
  refine h2 n Z H0 m r σ H q _ (p.bind.imp fun d k x H1 s1 rx => ?_)
  unfold dIsi at k
  split at k
  · rename_i t e
    exact ⟨x, _, _, _, _, rfl, .ty Ts, TyX.mono hid_sub (tyx_of rx e), kit_ty (kt t (tyN_mem e)), k _ H1 s1 (by simp [Rep])⟩
  · exact False.elim k
end
end QB

namespace QB
open PySem PySem.Spec PyProof.Rows L2

/-! ### the promise of a def by its mirror -/
def PostF (K : PySem.W.Frag) (mg : Str → Option Value) (Z : Addr → Prop) (H : Hp) (x : R D) (Q : VK) (E : XK) : Prop := match x with
  | .ok d => ∀ (v : V) (H' : Hp), Same H H' → Rep K mg (hid Z nom H') d v → Q v H'
  | .exc c ns xs => ∀ (C : Addr) (d : Option Addr) (H' : Hp), Same H H' → ExcAt K mg (hid Z nom H') c ns xs C d → E (.ref C) d H'
  | .bad => False
def PF (K : PySem.W.Frag) (mg : Str → Option Value) (n : Nat) (mf : List D → R D) : Sp := fun vs H Q E => vs.length = n ∧ ∃ (ds : List D) (Z : Addr → Prop), (∀ b, Z b → H b ≠ none) ∧ RepL K mg (hid Z nom H) ds vs ∧ PostF K mg Z H (mf ds) Q E
theorem hid_join {Z : Addr → Prop} {m : Nat → Option Addr} {H : Hp} : hid (fun b => Z b ∨ ∃ i, m i = some b) nom H = hid Z m H := by
  funext b
  unfold hid
  by_cases h : Z b ∨ ∃ i, m i = some b
  · rw [if_pos h, if_pos (.inl h)]
  · rw [if_neg h, if_neg]
    rintro (q | ⟨i, q⟩)
    · exact h q
    · cases q
theorem Rel.zed' {K : PySem.W.Frag} {mg : Str → Option Value} {n : Nat} {Z : Addr → Prop} {H0 : Hp} {m : Nat → Option Addr} {r : Sc} {σ : L2.St} {H : Hp} (q : Rel K mg n Z H0 m r σ H) : ∀ b, (Z b ∨ ∃ i, m i = some b) → H b ≠ none := fun b h => by
  rcases h with h | ⟨i, h⟩
  · exact q.zed b h
  · obtain ⟨o, ho⟩ := q.alive h
    rw [ho]
    intro z
    cases z
section
variable {X : Cx} {W : WX} {a b c e : Expr} {es rest : List Expr} {ma mb mc me : ME} {ms : MA} {pos : Pos} {f : Addr} {fd : FuncData} {ps : List Str} {mf : List D → R D} {k kk n : Nat} {x : Str} {p1 : Pos} {CX : CXT}
theorem pf_strong {m : Nat → Option Addr} {r : Sc} {σ : L2.St} {H0 H : Hp} {Z : Addr → Prop} {nn : Nat} (q : Rel X.K X.mg nn Z H0 m r σ H) {ds : List D} {vs : List V} {Q : VK} (hl : vs.length = n) (h : RepL X.K X.mg (hid Z m H) ds vs)
    (p : PostG X.K X.mg Z m W σ H (mf ds) (fun d => ∀ (v : V) (H' : Hp), Same H H' → Rep X.K X.mg (hid Z m H') d v → Q v H')) : PF X.K X.mg n mf vs H Q (WE W σ) := by
  refine ⟨hl, ds, fun b => Z b ∨ ∃ i, m i = some b, q.zed', by rw [hid_join]; exact h, ?_⟩
  cases e : mf ds with
  | ok d =>
    rw [e] at p
    intro v H' s t
    rw [hid_join] at t
    exact p v H' s t
  | exc cc ns xs =>
    rw [e] at p
    intro C d H' s t
    rw [hid_join] at t
    exact p C d H' s t
  | bad =>
    rw [e] at p
    exact p
theorem pf_weak {m : Nat → Option Addr} {r : Sc} {σ : L2.St} {H0 H : Hp} {Z : Addr → Prop} {nn : Nat} (q : Rel X.K X.mg nn Z H0 m r σ H) {ds : List D} {vs : List V} {Q : VK} (hl : vs.length = n) (h : RepL X.K X.mg (hid Z nom H) ds vs) (hx : ∀ c ns xs, mf ds ≠ .exc c ns xs)
    (p : PostG X.K X.mg Z m W σ H (mf ds) (fun d => ∀ (v : V) (H' : Hp), Same H H' → Rep X.K X.mg (hid Z nom H') d v → Q v H')) : PF X.K X.mg n mf vs H Q (WE W σ) := by
  refine ⟨hl, ds, Z, q.zed, h, ?_⟩
  cases e : mf ds with
  | ok d =>
    rw [e] at p
    exact p
  | exc cc ns xs => exact absurd e (hx _ _ _)
  | bad =>
    rw [e] at p
    exact p
theorem SimA.len {t : TA} (ha : SimA X W t ms) (hl : ∀ r ds, ms r = .ok ds → ds.length = n) (sp : Sp) : SimE X W (tCallS (PF X.K X.mg n mf) (WE W) t) (mCallB mf ms) := fun nn Z H0 m r σ H q Q p => by
  unfold mCallB at p
  have p' := p.bind
  cases e : ms r with
  | ok ds =>
    refine ha nn Z H0 m r σ H q _ ?_
    rw [e] at p' ⊢
    intro vs H1 s1 rx
    have p2 : PostG X.K X.mg Z m W σ H (mf ds) (fun d => ∀ (v : V) (H' : Hp), Same H H' → Rep X.K X.mg (hid Z m H') d v → Q v H') := p'
    exact pf_strong (q.grow s1) (by rw [rx.length, hl r ds e]) rx ((p2.grow s1).imp fun d k3 v H' s3 rv => k3 v H' (s1.trans s3) rv)
  | exc cc ns xs =>
    refine ha nn Z H0 m r σ H q _ ?_
    rw [e] at p' ⊢
    exact p'
  | bad =>
    rw [e] at p'
    exact False.elim p'
/-- how many values a mirror of arguments hands on -/
def ALen (ms : MA) (n : Nat) : Prop := ∀ r ds, ms r = .ok ds → ds.length = n
theorem al_nil : ALen mNil 0 := fun r ds h => by
  cases h
  rfl
theorem al_cons {n : Nat} (h : ALen ms n) : ALen (mCons ma ms) (n + 1) := fun r ds e => by
  unfold mCons at e
  cases e1 : ma r with
  | ok d =>
    rw [e1] at e
    cases e2 : ms r with
    | ok dd =>
      rw [e2] at e
      simp only [R.bind] at e
      cases e
      rw [List.length_cons, h r dd e2]
    | exc _ _ _ =>
      rw [e2] at e
      cases e
    | bad =>
      rw [e2] at e
      cases e
  | exc _ _ _ =>
    rw [e1] at e
    cases e
  | bad =>
    rw [e1] at e
    cases e
theorem ee_call (tk : Takes X W) (F : FnOk X.prog X.w X.K X.mg X.base (L2.CX X.prog X.w) k f fd ps (PF X.K X.mg n mf)) (hr : Room kk X.A) (hk : k ≤ kk) (hm : X.mg x = some (.ref f)) (hkp : PySem.W.keepIn X.K (.ref f) = true) (hb : Binds X.K fd ps [])
    (ha : EA X W (a :: es) ms) (hl : ALen ms n) (hg : Gl X x := by rfl) (hdb : (x == ("__debug__" : Str)) = false := by decide) (he : starEach (a :: es) X.env = (false, eval a X.env) :: starEach es X.env := by rfl) (hpl : (backTo pos (starEach es X.env)).any (·.1) = false := by rfl) :
    EE X W (.Call (.Name x p1) (a :: es) [] pos) (mCallB mf ms) := by
  obtain ⟨t, h1, h2⟩ := ha.ex
  exact ⟨_, pe_callS F (hr.mono hk) hg hm hkp hb (fun σ => passAt tk σ) h1 hdb he hpl, h2.len hl (PF X.K X.mg n mf)⟩
/-- a plain answer of a thing that is only read -/
def mScal (me : ME) : ME := fun r => (me r).bind fun d => match d with
  | .non => .ok .non
  | .bl b => .ok (.bl b)
  | .int i => .ok (.int i)
  | .str s => .ok (.str s)
  | _ => .bad
theorem EW.s (h : EW X W e me) : EE X W e (mScal me) := by
  obtain ⟨te, h1, h2⟩ := h.ex
  refine ⟨te, h1, fun n Z H0 m r σ H q Q p => h2 n Z H0 m r σ H q Q (p.bind.imp fun d k v H' s rv => ?_)⟩
  cases d <;> first | exact False.elim k | (refine k v H' s ?_; simp only [Rep] at rv ⊢; exact rv)
end

/-! ### statements -/
def PostS (K : PySem.W.Frag) (mg : Str → Option Value) (n : Nat) (Z : Addr → Prop) (H0 : Hp) (W : WX) (G : Hp) (x : Fl) (D : Ends) : Prop := match x with
  | .nx r => ∀ (m : Nat → Option Addr) (σ : L2.St) (H : Hp), Rel K mg n Z H0 m r σ H → Same G (hid Z m H) → D.nx σ H
  | .bk r => ∀ (m : Nat → Option Addr) (σ : L2.St) (H : Hp), Rel K mg n Z H0 m r σ H → Same G (hid Z m H) → D.bk σ H
  | .ct r => ∀ (m : Nat → Option Addr) (σ : L2.St) (H : Hp), Rel K mg n Z H0 m r σ H → Same G (hid Z m H) → D.ct σ H
  | .rt d => ∀ (v : V) (H : Hp), Same H0 H → Rep K mg (hid Z nom H) d v → D.rt v H
  | .rc c => ∀ (p : Addr) (o : HO) (H : Hp), Same H0 H → H p = none → CellOk K mg (hid Z nom H) o c → D.rt (.ref p) (upd H p o)
  | .ex c ns xs r => ∀ (m : Nat → Option Addr) (σ : L2.St) (H : Hp) (C : Addr) (d : Option Addr), Rel K mg n Z H0 m r σ H → Same G (hid Z m H) → ExcAt K mg (hid Z m H) c ns xs C d → W (.ref C) d σ H
  | .bad => False
section
variable {K : PySem.W.Frag} {mg : Str → Option Value} {n : Nat} {Z : Addr → Prop} {H0 G G' : Hp} {W : WX} {x : Fl} {D D' : Ends}
theorem PostS.grow (h : PostS K mg n Z H0 W G x D) (s : Same G G') : PostS K mg n Z H0 W G' x D := by
  cases x with
  | nx r => exact fun m σ H q t => h m σ H q (s.trans t)
  | bk r => exact fun m σ H q t => h m σ H q (s.trans t)
  | ct r => exact fun m σ H q t => h m σ H q (s.trans t)
  | rt d => exact h
  | rc d => exact h
  | ex c ns xs r => exact fun m σ H C d q t e => h m σ H C d q (s.trans t) e
  | bad => exact h
end
def toFl {β : Type} (r : Sc) (x : R β) (k : β → Fl) : Fl := match x with
  | .ok b => k b
  | .exc c ns xs => .ex c ns xs r
  | .bad => .bad
theorem toFl_post {K : PySem.W.Frag} {mg : Str → Option Value} {n : Nat} {Z : Addr → Prop} {H0 H : Hp} {m : Nat → Option Addr} {σ : L2.St} {W : WX} {D : Ends} {β : Type} {r : Sc} {x : R β} {k : β → Fl} (q : Rel K mg n Z H0 m r σ H)
    (h : PostS K mg n Z H0 W (hid Z m H) (toFl r x k) D) : PostG K mg Z m W σ H x (fun b => PostS K mg n Z H0 W (hid Z m H) (k b) D) := by
  cases x with
  | ok b => exact h
  | exc c ns xs => exact fun C d H' s e => h m σ H' C d (q.grow s) (hid_mono s) e
  | bad => exact h
def SimS (X : Cx) (W : WX) (ts : TS) (ms : MS) : Prop := ∀ (n : Nat) (Z : Addr → Prop) (H0 : Hp) (m : Nat → Option Addr) (r : Sc) (σ : L2.St) (H : Hp), n = X.N.length → Rel X.K X.mg n Z H0 m r σ H → ∀ D : Ends,
  PostS X.K X.mg n Z H0 W (hid Z m H) (ms r) D → ts D σ H
structure ES (X : Cx) (W : WX) (st : Stmt) (ms : MS) : Prop where
  ex : ∃ ts, PS X st ts ∧ SimS X W ts ms
structure EB (X : Cx) (W : WX) (sts : List Stmt) (ms : MS) : Prop where
  ex : ∃ ts, PSs X sts ts ∧ SimS X W ts ms
def mNx : MS := fun r => .nx r
def mSeq (a b : MS) : MS := fun r => match a r with
  | .nx r' => b r'
  | f => f
section
variable {X : Cx} {W : WX} {st : Stmt} {sts : List Stmt} {ms mu : MS} {me : ME} {mf : MF} {mt : MT} {e : Expr} {pos : Pos} {ts tu : TS}
theorem SimS.nx : SimS X W tNext mNx := fun n Z H0 m r σ H _ q D p => p m σ H q (Same.refl _)
theorem SimS.seq (h : SimS X W ts ms) (g : SimS X W tu mu) : SimS X W (tSeq ts tu) (mSeq ms mu) := fun n Z H0 m r σ H hn q D p => by
  refine h n Z H0 m r σ H hn q _ ?_
  unfold mSeq at p
  cases e : ms r with
  | nx r' =>
    rw [e] at p
    exact fun m' σ' H' q' s => g n Z H0 m' r' σ' H' hn q' D (p.grow s)
  | bk r' =>
    rw [e] at p
    exact p
  | ct r' =>
    rw [e] at p
    exact p
  | rt d =>
    rw [e] at p
    exact p
  | rc d =>
    rw [e] at p
    exact p
  | ex c ns xs r' =>
    rw [e] at p
    exact p
  | bad =>
    rw [e] at p
    exact p
theorem eb_nil : EB X W [] mNx := ⟨_, pss_nil, SimS.nx⟩
theorem eb_one (h : ES X W st ms) : EB X W [st] ms := by
  obtain ⟨t, h1, h2⟩ := h.ex
  exact ⟨t, pss_one h1, h2⟩
theorem eb_cons (h : ES X W st ms) (g : EB X W sts mu) : EB X W (st :: sts) (mSeq ms mu) := by
  obtain ⟨t, h1, h2⟩ := h.ex
  obtain ⟨u, h3, h4⟩ := g.ex
  exact ⟨_, pss_cons h1 h3, h2.seq h4⟩
def mSet (i : Nat) (me : ME) : MS := fun r => toFl r (me r) fun d => .nx (r.set i (some (.val d)))
def mSetO (i : Nat) (mf : MF) : MS := fun r => toFl r (mf r) fun c => .nx (r.set i (some (.own c)))
theorem SimS.set {te : TE} {i : Nat} (hi : i < X.N.length) (h : SimE X W te me) : SimS X W (tAsg te (gName i)) (mSet i me) := fun n Z H0 m r σ H hn q D p => by
  refine h n Z H0 m r σ H q _ ((toFl_post q p).imp fun d k v H' s rv => ?_)
  exact k _ _ H' ((q.grow s).setv (by rw [hn]; exact hi) rv) ((hid_mono s).trans same_drp)
theorem SimS.setO {te : TE} {i : Nat} (hi : i < X.N.length) (h : SimF X W te mf) : SimS X W (tAsg te (gName i)) (mSetO i mf) := fun n Z H0 m r σ H hn q D p => by
  refine h n Z H0 m r σ H q _ ((toFl_post q p).imp fun c k b o H' s nb hc => ?_)
  obtain ⟨q2, s2⟩ := (q.grow s).seto (i := i) (by rw [hn]; exact hi) nb hc
  exact k _ _ _ q2 ((hid_mono s).trans s2)
theorem es_set {i : Nat} {x : Str} {pos' : Pos} (he : EE X W e me) (hN : X.N.Nodup) (hi : X.N[i]? = some x) (hx : Loc X.env.scope x) (hs : swapsWith e (some (.Name x pos')) pos.line X.env = pure false := by rfl)
    (hf : X.fn x = true ∨ X.env.scope.names.lookup x = some .local := by first | exact .inl rfl | exact .inr rfl | assumption) : ES X W (.Assign [.Name x pos'] e pos) (mSet i me) := by
  obtain ⟨t, h1, h2⟩ := he.ex
  exact ⟨_, ps_set hN hi hx h1 hs hf, SimS.set (List.getElem?_eq_some_iff.mp hi).1 h2⟩
theorem es_seto {i : Nat} {x : Str} {pos' : Pos} (he : EF X W e mf) (hN : X.N.Nodup) (hi : X.N[i]? = some x) (hx : Loc X.env.scope x) (hs : swapsWith e (some (.Name x pos')) pos.line X.env = pure false := by rfl)
    (hf : X.fn x = true ∨ X.env.scope.names.lookup x = some .local := by first | exact .inl rfl | exact .inr rfl | assumption) : ES X W (.Assign [.Name x pos'] e pos) (mSetO i mf) := by
  obtain ⟨t, h1, h2⟩ := he.ex
  exact ⟨_, ps_set hN hi hx h1 hs hf, SimS.setO (List.getElem?_eq_some_iff.mp hi).1 h2⟩
/-- a slot's own thing becomes a plain value, ahead of a statement -/
def mFrz (i : Nat) (ms : MS) : MS := fun r => match r[i]? with
  | some (some (.own c)) => ms (r.set i (some (.val (thawed c))))
  | _ => .bad
theorem SimS.frz {i : Nat} (h : SimS X W ts ms) : SimS X W ts (mFrz i ms) := fun n Z H0 m r σ H hn q D p => by
  unfold mFrz at p
  split at p
  · rename_i c e
    exact h n Z H0 _ _ σ H hn (q.frz e) D (p.grow same_drp)
  · exact False.elim p
theorem es_frz (i : Nat) (h : ES X W st ms) : ES X W st (mFrz i ms) := by
  obtain ⟨t, h1, h2⟩ := h.ex
  exact ⟨t, h1, h2.frz⟩
theorem eb_frz (i : Nat) (h : EB X W sts ms) : EB X W sts (mFrz i ms) := by
  obtain ⟨t, h1, h2⟩ := h.ex
  exact ⟨t, h1, h2.frz⟩
def mRet (me : ME) : MS := fun r => toFl r (me r) fun d => .rt d
theorem es_ret (he : EW X W e me) : ES X W (.Return (some e) pos) (mRet me) := by
  obtain ⟨t, h1, h2⟩ := he.ex
  refine ⟨_, ps_ret h1, fun n Z H0 m r σ H hn q D p => h2 n Z H0 m r σ H q _ ((toFl_post q p).imp fun d k v H' s rv => ?_)⟩
  exact k v H' (q.same.trans s) rv
def mRetN : MS := fun _ => .rt .non
theorem es_retN : ES X W (.Return none pos) mRetN := ⟨_, ps_retN, fun n Z H0 m r σ H hn q D p => p .non H q.same (by simp [Rep])⟩
theorem es_pass : ES X W (.Pass pos) mNx := ⟨_, ps_pass, SimS.nx⟩
def mBrk : MS := fun r => .bk r
def mCnt : MS := fun r => .ct r
theorem es_break : ES X W (.Break pos) mBrk := ⟨_, ps_break, fun n Z H0 m r σ H hn q D p => p m σ H q (Same.refl _)⟩
theorem es_continue : ES X W (.Continue pos) mCnt := ⟨_, ps_continue, fun n Z H0 m r σ H hn q D p => p m σ H q (Same.refl _)⟩
def mDrop (me : ME) : MS := fun r => toFl r (me r) fun _ => .nx r
theorem es_expr (he : EW X W e me) (hs : swapsWith e none pos.line X.env = pure false := by rfl) : ES X W (.Expr e pos) (mDrop me) := by
  obtain ⟨t, h1, h2⟩ := he.ex
  refine ⟨_, ps_expr h1 hs, fun n Z H0 m r σ H hn q D p => h2 n Z H0 m r σ H q _ ((toFl_post q p).imp fun d k v H' s rv => ?_)⟩
  exact k m σ H' (q.grow s) (hid_mono s)
def mIf (mt : MT) (ms mu : MS) : MS := fun r => toFl r (mt r) fun k => match k with
  | true => ms r
  | false => mu r
theorem es_if {c : Expr} {sa sb : List Stmt} (hc : ET X W c mt) (ha : EB X W sa ms) (hb : EB X W sb mu) : ES X W (.If c sa sb pos) (mIf mt ms mu) := by
  obtain ⟨t, h1, h2⟩ := hc.ex
  obtain ⟨u, h3, h4⟩ := ha.ex
  obtain ⟨v, h5, h6⟩ := hb.ex
  refine ⟨_, ps_if h1 h3 h5, fun n Z H0 m r σ H hn q D p => h2 n Z H0 m r σ H q _ ((toFl_post q p).imp fun k kk H' s => ?_)⟩
  cases k with
  | true => exact h4 n Z H0 m r σ H' hn (q.grow s) D (PostS.grow kk (hid_mono s))
  | false => exact h6 n Z H0 m r σ H' hn (q.grow s) D (PostS.grow kk (hid_mono s))
/-- xs.append(e), xs a slot's own list -/
def mApp (i : Nat) (me : ME) : MS := fun r => match r[i]? with
  | some (some (.own (.l xs))) => toFl r (me r) fun d => if xs.length < sizeLine then .nx (r.set i (some (.own (.l (xs ++ [d]))))) else .bad
  | _ => .bad
theorem es_app (i : Nat) {x : Str} {p1 p2 p3 : Pos} (he : EE X W e me) (hN : X.N[i]? = some x := by rfl) (hv : Vis X.env.scope x := by first | exact Or.inl rfl | exact Or.inr (Or.inl rfl) | exact Or.inr (Or.inr rfl)) (hd : (x == ("__debug__" : Str)) = false := by decide)
    (hcd : (x == ("__classdict__" : Str)) = false := by decide) (hbase : attributeBase (.Name x p1) "append" X.env (eval (.Name x p1) X.env) = eval (.Name x p1) X.env := by rfl)
    (hfew : ((backTo p3 (starEach [e] X.env)).all (fun x => !x.1) && (backToKw p3 (keywordEach [] X.env)).all (fun x => x.1.isSome)
      && decide (([e] : List Expr).length + ([] : List Keyword).length + (if ([] : List Keyword).isEmpty then 0 else 1) < 30)) = true := by rfl)
    (hline : (p2.endLine == p3.line) = true := by rfl) (hs : starEach [e] X.env = (false, eval e X.env) :: starEach [] X.env := by rfl) (hplain : (backTo p3 (starEach [] X.env)).any (·.1) = false := by rfl)
    (hsw : swapsWith (.Call (.Attribute (.Name x p1) "append" p2) [e] [] p3) none pos.line X.env = pure false := by rfl) :
    ES X W (.Expr (.Call (.Attribute (.Name x p1) "append" p2) [e] [] p3) pos) (mApp i me) := by
  obtain ⟨t, h1, h2⟩ := he.ex
  refine ⟨_, ps_expr (pe_bm PySem.F.plainAttrs_list PySem.F.slot_list_append PySem.F.type_list_append mt_append (pv i hN hv hd hcd) (pa_cons h1 pa_nil hs) hbase hfew hline hs hplain) hsw, fun n Z H0 m r σ H hn q D p => ?_⟩
  unfold mApp at p
  split at p
  · rename_i xs ei
    obtain ⟨a, o, g1, g2, g3, g4⟩ := q.own i _ ei
    obtain ⟨vs, rfl, tt⟩ := g4
    refine ⟨_, g2, .inl ⟨rfl, _, .inl (.inl g3)⟩, h2 n Z H0 m r σ H q _ ((toFl_post q p).imp fun d k v H' s rv => ?_)⟩
    split at k
    · rename_i hz
      have q' := q.grow s
      refine ⟨a, vs, v, rfl, rfl, s _ _ g3, by rw [tt.length]; exact hz, ?_⟩
      have hc : CellOk X.K X.mg (hid Z m H') (.lst (vs ++ [v])) (.l (xs ++ [d])) := ⟨_, rfl, (tt.mono (hid_mono s)).append (RepL.cons rv RepL.nil)⟩
      refine k m σ _ (q'.chg ei g1 hc) ?_
      rw [hid_upd g1]
      exact hid_mono s
    · exact False.elim k
  · exact False.elim p

/-! ### for -/
structure ItOk (K : PySem.W.Frag) (mg : Str → Option Value) (G : Hp) (J : It) (ds : List D) : Prop where
  go : ∀ (H : Hp) (i : Nat), Same G H → i < ds.length → J.go i H ∧ ∀ x H', J.yld i H x H' → H' = H ∧ ∃ d, ds[i]? = some d ∧ Rep K mg G d x
  stop : ∀ H, Same G H → J.stop ds.length H
structure EI (X : Cx) (W : WX) (tg iter : Expr) (mi : MA) : Prop where
  ex : ∃ wi, PI X tg iter wi ∧ ∀ (n : Nat) (Z : Addr → Prop) (H0 : Hp) (m : Nat → Option Addr) (r : Sc) (σ : L2.St) (H : Hp), Rel X.K X.mg n Z H0 m r σ H → ∀ R' : It → Hp → Prop,
    PostG X.K X.mg Z m W σ H (mi r) (fun ds => ∀ (J : It) (H' : Hp), Same H H' → ItOk X.K X.mg (hid Z m H') J ds → R' J H') → wi σ H R'
/-- a target takes a value -/
structure EG (X : Cx) (tg : Expr) (tb : D → Sc → Option Sc) : Prop where
  ex : ∃ g, PG X tg g ∧ ∀ (n : Nat) (Z : Addr → Prop) (H0 : Hp) (m : Nat → Option Addr) (r : Sc) (σ : L2.St) (H : Hp), n = X.N.length → Rel X.K X.mg n Z H0 m r σ H → ∀ (d : D) (v : V) (Q : L2.St → Hp → Prop), Rep X.K X.mg (hid Z m H) d v →
    (match tb d r with
      | some r' => ∀ (m' : Nat → Option Addr) (σ' : L2.St), Rel X.K X.mg n Z H0 m' r' σ' H → Same (hid Z m H) (hid Z m' H) → Q σ' H
      | none => False) → g v σ H Q
def bName (i : Nat) : D → Sc → Option Sc := fun d r => some (r.set i (some (.val d)))
theorem eg_name {i : Nat} {x : Str} (hN : X.N.Nodup) (hi : X.N[i]? = some x) (hx : Loc X.env.scope x) (hf : X.fn x = true ∨ X.env.scope.names.lookup x = some .local := by first | exact .inl rfl | exact .inr rfl | assumption) : EG X (.Name x pos) (bName i) := by
  refine ⟨_, pg_name hN hi hx hf, fun n Z H0 m r σ H hn q d v Q rv p => ?_⟩
  exact p _ _ (q.setv (by rw [hn]; exact (List.getElem?_eq_some_iff.mp hi).1) rv) same_drp
def loopL (tb : D → Sc → Option Sc) (body : MS) : List D → Sc → Fl
  | [], r => .nx r
  | d :: ds, r => match tb d r with
    | none => .bad
    | some r1 => match body r1 with
      | .nx r2 => loopL tb body ds r2
      | .ct r2 => loopL tb body ds r2
      | .bk r2 => .nx r2
      | f => f
def mFor (mi : MA) (tb : D → Sc → Option Sc) (body : MS) : MS := fun r => toFl r (mi r) fun ds => loopL tb body ds r
theorem es_for {tg iter : Expr} {body : List Stmt} {mi : MA} {tb : D → Sc → Option Sc} (hp : PassesOwn (model X.prog X.w) X.A X.env X.xe) (hc : X.calm = true) (hi : EI X W tg iter mi) (hg : EG X tg tb) (hb : EB X W body ms)
    (hs : ∀ x, foldedSetIterable iter X.env x = pure x := by intro _; rfl) : ES X W (.For tg iter body [] pos) (mFor mi tb ms) := by
  obtain ⟨wi, h1, h2⟩ := hi.ex
  obtain ⟨g, h3, h4⟩ := hg.ex
  obtain ⟨t, h5, h6⟩ := hb.ex
  refine ⟨_, ps_for hp hc h1 h3 h5 hs, fun n Z H0 m r σ H hn q D p => ?_⟩
  refine h2 n Z H0 m r σ H q _ ((toFl_post q p).imp fun ds k J H1 s1 io => ?_)
  have k1 := PostS.grow k (hid_mono s1)
  refine ⟨fun i j σ' H' => i + j = ds.length ∧ ∃ m' r', Rel X.K X.mg n Z H0 m' r' σ' H' ∧ Same (hid Z m H1) (hid Z m' H') ∧ PostS X.K X.mg n Z H0 W (hid Z m H1) (loopL tb ms (ds.drop i) r') D, ⟨ds.length, by omega, m, r, q.grow s1, Same.refl _, k1⟩, ?_⟩
  rintro i j σ2 H2 ⟨hij, m2, r2, q2, s2, p2⟩
  have sG : Same (hid Z m H1) H2 := s2.trans hid_sub
  by_cases hlt : i < ds.length
  · obtain ⟨g1, g2⟩ := io.go H2 i sG hlt
    refine .inr ⟨g1, fun σ' H' => ∃ m' r', Rel X.K X.mg n Z H0 m' r' σ' H' ∧ Same (hid Z m H1) (hid Z m' H') ∧ PostS X.K X.mg n Z H0 W (hid Z m H1) (loopL tb ms (ds.drop (i + 1)) r') D, fun σ' H' ⟨m', r', z1, z2, z3⟩ => ⟨j - 1, by omega, by omega, m', r', z1, z2, z3⟩, fun x H' hy => ?_⟩
    obtain ⟨rfl, d, hd, rd⟩ := g2 x H' hy
    have ed : ds.drop i = d :: ds.drop (i + 1) := by
      have : ds[i] = d := by
        rw [List.getElem?_eq_getElem hlt] at hd
        exact Option.some.inj hd
      rw [← this]
      exact List.drop_eq_getElem_cons hlt
    rw [ed] at p2
    refine h4 n Z H0 m2 r2 σ2 H' hn q2 d x _ (rd.mono s2) ?_
    simp only [loopL] at p2
    cases e1 : tb d r2 with
    | none =>
      rw [e1] at p2
      exact p2
    | some r3 =>
      rw [e1] at p2
      intro m3 σ3 q3 s3
      refine h6 n Z H0 m3 r3 σ3 H' hn q3 _ ?_
      have s13 := s2.trans s3
      simp only at p2
      cases e2 : ms r3 with
      | nx r4 =>
        rw [e2] at p2
        exact fun m' σ' H' q' s' => ⟨m', r4, q', s13.trans s', p2⟩
      | ct r4 =>
        rw [e2] at p2
        exact fun m' σ' H' q' s' => ⟨m', r4, q', s13.trans s', p2⟩
      | bk r4 =>
        rw [e2] at p2
        exact fun m' σ' H' q' s' => p2 m' σ' H' q' (s13.trans s')
      | rt d =>
        rw [e2] at p2
        exact p2
      | rc d =>
        rw [e2] at p2
        exact p2
      | ex c ns xs r4 =>
        rw [e2] at p2
        exact fun m' σ' H' C d q' s' e => p2 m' σ' H' C d q' (s13.trans s') e
      | bad =>
        rw [e2] at p2
        exact p2
  · have e : i = ds.length := by omega
    subst e
    refine .inl ⟨io.stop H2 sG, ?_⟩
    rw [List.drop_length] at p2
    exact p2 m2 σ2 H2 q2 s2

/-! what a for walks -/
variable {tg : Expr}
def mSeqOf (me : ME) : MA := fun r => (me r).bind fun d => match d with
  | .lst xs => .ok xs
  | .slst xs => .ok xs
  | _ => .bad
def mTupOf (me : ME) : MA := fun r => (me r).bind fun d => match d with
  | .tup xs => .ok xs
  | _ => .bad
theorem itok_l {K : PySem.W.Frag} {mg : Str → Option Value} {G : Hp} {a : Addr} {ds : List D} {vs : List V} (h : SqL K G a vs) (t : RepL K mg G ds vs) : ItOk K mg G (Itl K a) ds := by
  refine ⟨fun H i s hi => ⟨?_, fun x H' hy => ?_⟩, fun H s => ⟨vs, Same.seq s h, by rw [t.length]; exact Nat.le_refl _⟩⟩
  · obtain ⟨v, hv, _⟩ := t.get (List.getElem?_eq_getElem hi)
    exact ⟨vs, v, Same.seq s h, hv⟩
  · obtain ⟨e, f⟩ := hy
    obtain ⟨v, hv, rv⟩ := t.get (List.getElem?_eq_getElem hi)
    have := f vs (Same.seq s h)
    rw [hv] at this
    cases this
    exact ⟨e, _, List.getElem?_eq_getElem hi, rv⟩
theorem itok_t {K : PySem.W.Frag} {mg : Str → Option Value} {G : Hp} {a : Addr} {ds : List D} {vs : List V} (h : SqT K G a vs) (t : RepL K mg G ds vs) : ItOk K mg G (Itt K a) ds := by
  refine ⟨fun H i s hi => ⟨?_, fun x H' hy => ?_⟩, fun H s => ⟨vs, Same.seqT s h, by rw [t.length]; exact Nat.le_refl _⟩⟩
  · obtain ⟨v, hv, _⟩ := t.get (List.getElem?_eq_getElem hi)
    exact ⟨vs, v, Same.seqT s h, hv⟩
  · obtain ⟨e, f⟩ := hy
    obtain ⟨v, hv, rv⟩ := t.get (List.getElem?_eq_getElem hi)
    have := f vs (Same.seqT s h)
    rw [hv] at this
    cases this
    exact ⟨e, _, List.getElem?_eq_getElem hi, rv⟩
theorem ei_list (h : EE X W e me) : EI X W tg e (mSeqOf me) := by
  obtain ⟨t, h1, h2⟩ := h.ex
  refine ⟨_, pi_list h1, fun n Z H0 m r σ H q R' p => h2 n Z H0 m r σ H q _ (p.bind.imp fun d k x H1 s1 rx => ?_)⟩
  cases d <;> try exact False.elim k
  · simp only [Rep] at rx
    obtain ⟨a, vs, rfl, hq, tt⟩ := rx
    exact ⟨a, rfl, ⟨vs, .inl (.inl (hid_sub _ _ hq))⟩, k _ H1 s1 (itok_l (.inl (.inl hq)) tt)⟩
  · simp only [Rep] at rx
    obtain ⟨a, vs, rfl, hq, tt⟩ := rx
    exact ⟨a, rfl, ⟨vs, Same.seq hid_sub hq⟩, k _ H1 s1 (itok_l hq tt)⟩
theorem ei_tup (h : EE X W e me) : EI X W tg e (mTupOf me) := by
  obtain ⟨t, h1, h2⟩ := h.ex
  refine ⟨_, pi_tup h1, fun n Z H0 m r σ H q R' p => h2 n Z H0 m r σ H q _ (p.bind.imp fun d k x H1 s1 rx => ?_)⟩
  cases d <;> try exact False.elim k
  simp only [Rep] at rx
  obtain ⟨a, vs, rfl, hq, tt⟩ := rx
  exact ⟨a, rfl, ⟨vs, Same.seqT hid_sub hq⟩, k _ H1 s1 (itok_t hq tt)⟩
def rgD (lo : Int) (n : Nat) : List D := (List.range n).map fun (i : Nat) => D.int (lo + (i : Int))
theorem itok_r {K : PySem.W.Frag} {mg : Str → Option Value} {G : Hp} {lo : Int} {n : Nat} : ItOk K mg G (Itr lo n) (rgD lo n) := by
  have hl : (rgD lo n).length = n := by simp [rgD]
  refine ⟨fun H i s hi => ⟨by rw [hl] at hi; exact hi, fun x H' hy => ?_⟩, fun H s => by rw [hl]; exact Nat.le_refl n⟩
  obtain ⟨e, ex⟩ := hy
  rw [hl] at hi
  refine ⟨e, .int (lo + (i : Int)), ?_, by simp only [Rep]; exact ex⟩
  simp [rgD, List.getElem?_map, hi]
def okR (i : Int) : Prop := -4611686018427387904 ≤ i ∧ i < 4611686018427387904
instance (i : Int) : Decidable (okR i) := inferInstanceAs (Decidable (_ ∧ _))
def dRg : List D → R (List D)
  | [.int j] => if okR j then .ok (rgD 0 j.toNat) else .bad
  | [.int i, .int j] => if okR i ∧ okR j then .ok (rgD i (j - i).toNat) else .bad
  | _ => .bad
def mRg (ma : MA) : MA := fun r => (ma r).bind dRg
variable {ma : MA}
theorem ei_range1 {a : Expr} {p1 : Pos} (hm : X.mg "range" = none) (hg : Gl X "range") (ha : EA X W [a] ma) (hl : ALen ma 1) (hs : starEach [a] X.env = [(false, eval a X.env)] := by rfl) : EI X W tg (.Call (.Name "range" p1) [a] [] pos) (mRg ma) := by
  obtain ⟨t, h1, h2⟩ := ha.ex
  refine ⟨_, pi_range1 hg hm h1 hs, fun n Z H0 m r σ H q R' p => ?_⟩
  unfold mRg at p
  have p' := p.bind
  refine h2 n Z H0 m r σ H q _ ?_
  cases e : ma r with
  | ok ds =>
    rw [e] at p'
    have hd := hl r ds e
    intro vs H1 s1 rx
    obtain ⟨d, rfl⟩ := List.length_eq_one_iff.mp hd
    obtain ⟨v, rfl, rv⟩ := rx.one
    cases d <;> try exact False.elim p'
    rename_i j
    simp only [Rep] at rv
    subst rv
    simp only [PostG, dRg] at p'
    split at p'
    · rename_i x hz
      split at hz
      · rename_i hz2
        cases hz
        simp only [okR] at hz2
        exact ⟨j, rfl, by simpa using hz2.1, by simpa using hz2.2, p' _ H1 s1 itok_r⟩
      · cases hz
    · rename_i hz
      split at hz <;> cases hz
    · exact False.elim p'
  | exc c ns xs =>
    rw [e] at p'
    exact p'
  | bad =>
    rw [e] at p'
    exact False.elim p'
theorem ei_range2 {a b : Expr} {p1 : Pos} (hm : X.mg "range" = none) (hg : Gl X "range") (ha : EA X W [a, b] ma) (hl : ALen ma 2) (hs : starEach [a, b] X.env = [(false, eval a X.env), (false, eval b X.env)] := by rfl) (hs2 : starEach [b] X.env = [(false, eval b X.env)] := by rfl) : EI X W tg (.Call (.Name "range" p1) [a, b] [] pos) (mRg ma) := by
  obtain ⟨t, h1, h2⟩ := ha.ex
  refine ⟨_, pi_range2 hg hm h1 hs hs2, fun n Z H0 m r σ H q R' p => ?_⟩
  unfold mRg at p
  have p' := p.bind
  refine h2 n Z H0 m r σ H q _ ?_
  cases e : ma r with
  | ok ds =>
    rw [e] at p'
    have hd := hl r ds e
    intro vs H1 s1 rx
    obtain ⟨d, d2, rfl⟩ : ∃ d e, ds = [d, e] := by
      match ds, hd with
      | [d, e], _ => exact ⟨d, e, rfl⟩
    obtain ⟨v, w, rfl, rv, rw'⟩ := rx.two
    cases d <;> cases d2 <;> try exact False.elim p'
    rename_i i j
    simp only [Rep] at rv rw'
    subst rv rw'
    simp only [PostG, dRg] at p'
    split at p'
    · rename_i x hz
      split at hz
      · rename_i hz2
        cases hz
        simp only [okR] at hz2
        exact ⟨i, j, rfl, ⟨by simpa using hz2.1.1, by simpa using hz2.1.2, by simpa using hz2.2.1, by simpa using hz2.2.2⟩, p' _ H1 s1 itok_r⟩
      · cases hz
    · rename_i hz
      split at hz <;> cases hz
    · exact False.elim p'
  | exc c ns xs =>
    rw [e] at p'
    exact p'
  | bad =>
    rw [e] at p'
    exact False.elim p'

/-! ### while -/
def whileL (mt : MT) (body : MS) : Nat → Sc → Fl
  | 0, _ => .bad
  | n + 1, r => toFl r (mt r) fun k => match k with
    | true => (match body r with
      | .nx r2 => whileL mt body n r2
      | .ct r2 => whileL mt body n r2
      | .bk r2 => .nx r2
      | f => f)
    | false => .nx r
def mWhile (fuel : Nat) (mt : MT) (body : MS) : MS := whileL mt body fuel
theorem es_while (fuel : Nat) {c : Expr} {body : List Stmt} (hp : PassesOwn (model X.prog X.w) X.A X.env X.xe) (hc : ET X W c mt) (hb : EB X W body ms) : ES X W (.While c body [] pos) (mWhile fuel mt ms) := by
  obtain ⟨t, h1, h2⟩ := hc.ex
  obtain ⟨u, h3, h4⟩ := hb.ex
  refine ⟨_, ps_while hp h1 h3, fun n Z H0 m r σ H hn q D p => ?_⟩
  refine ⟨fun j σ' H' => ∃ m' r', Rel X.K X.mg n Z H0 m' r' σ' H' ∧ PostS X.K X.mg n Z H0 W (hid Z m' H') (whileL mt ms j r') D, ⟨fuel, m, r, q, p⟩, ?_⟩
  rintro j σ2 H2 ⟨m2, r2, q2, p2⟩
  cases j with
  | zero => exact False.elim p2
  | succ j =>
    simp only [whileL] at p2
    refine h2 n Z H0 m2 r2 σ2 H2 q2 _ ((toFl_post q2 p2).imp fun k kk H3 s3 => ?_)
    have q3 := q2.grow s3
    have k3 := PostS.grow kk (hid_mono s3)
    cases k with
    | false =>
      rw [if_neg Bool.false_ne_true]
      exact k3 m2 σ2 H3 q3 (Same.refl _)
    | true =>
      rw [if_pos rfl]
      refine ⟨fun σ' H' => ∃ m' r', Rel X.K X.mg n Z H0 m' r' σ' H' ∧ PostS X.K X.mg n Z H0 W (hid Z m' H') (whileL mt ms j r') D, fun σ' H' z => ⟨j, Nat.lt_succ_self j, z⟩, ?_⟩
      refine h4 n Z H0 m2 r2 σ2 H3 hn q3 _ ?_
      simp only at k3
      cases e2 : ms r2 with
      | nx r4 =>
        rw [e2] at k3
        exact fun m' σ' H' q' s' => ⟨m', r4, q', PostS.grow k3 s'⟩
      | ct r4 =>
        rw [e2] at k3
        exact fun m' σ' H' q' s' => ⟨m', r4, q', PostS.grow k3 s'⟩
      | bk r4 =>
        rw [e2] at k3
        exact k3
      | rt d =>
        rw [e2] at k3
        exact k3
      | rc d =>
        rw [e2] at k3
        exact k3
      | ex c ns xs r4 =>
        rw [e2] at k3
        exact k3
      | bad =>
        rw [e2] at k3
        exact k3

/-! ### a def -/
def mStart (n : Nat) (ds : List D) : Sc := ds.map (fun d => some (EV.val d)) ++ List.replicate (n - ds.length) none
def mDef (n : Nat) (ms : MS) : List D → R D := fun ds => match ms (mStart n ds) with
  | .rt d => .ok d
  | .nx _ => .ok .non
  | .ex c ns xs _ => .exc c ns xs
  | _ => .bad
theorem start_rel {K : PySem.W.Frag} {mg : Str → Option Value} {N : List Str} {Z : Addr → Prop} {H : Hp} {ds : List D} {vs : List V} (hZ : ∀ b, Z b → H b ≠ none) (h : RepL K mg (hid Z nom H) ds vs) (hl : vs.length ≤ N.length) :
    Rel K mg N.length Z H nom (mStart N.length ds) (L2.start N vs) H := by
  have l := h.length
  refine ⟨by simp [mStart]; omega, by simp [L2.start]; omega, fun i d hi => ?_, fun i c hi => ?_, fun i a e => (nomatch e), fun i j a e => (nomatch e), fun i a e => (nomatch e), hZ, Same.refl H⟩
  · unfold mStart at hi
    rw [List.getElem?_append] at hi
    split at hi
    · rw [List.getElem?_map] at hi
      cases e : ds[i]? with
      | none =>
        rw [e] at hi
        cases hi
      | some d' =>
        rw [e] at hi
        cases hi
        obtain ⟨v, hv, rv⟩ := h.get e
        refine ⟨v, ?_, rv⟩
        unfold L2.start
        rw [List.getElem?_append_left (by rw [List.length_map]; exact (List.getElem?_eq_some_iff.mp hv).1), List.getElem?_map, hv]
        rfl
    · rw [List.getElem?_replicate] at hi
      split at hi
      · cases hi
      · cases hi
  · unfold mStart at hi
    rw [List.getElem?_append] at hi
    split at hi
    · rw [List.getElem?_map] at hi
      cases e : ds[i]? with
      | none =>
        rw [e] at hi
        cases hi
      | some d' =>
        rw [e] at hi
        cases hi
    · rw [List.getElem?_replicate] at hi
      split at hi
      · cases hi
      · cases hi
end
theorem def_ok {P : Program} {w : World} {K : PySem.W.Frag} {mg : Str → Option Value} {base : Heap} {x qual : Str} {st : Stmt} {f : Addr} {fd : FuncData} {N ps : List Str} {k np : Nat} {ms : MS} (F : Fun K x qual st f fd) (S : FnScope N ps (defScope st)) (hp : ps.length = np) (hN : np ≤ N.length)
    (hb : ∀ (cdv : Value) (A : Around) (outer : List Env) (s : Shared) (H : Hp) (E : XK), Room k (A.deeper (envOfC qual (defScope st) s.heap.objs.size f cdv)) →
      Takes (cxOf (L2.CX P w) P w K mg base N qual (defScope st) f cdv A outer s H E) (fun cls d _ H => E cls d H) →
      PassesOwn (model P w) (cxOf (L2.CX P w) P w K mg base N qual (defScope st) f cdv A outer s H E).A (cxOf (L2.CX P w) P w K mg base N qual (defScope st) f cdv A outer s H E).env (cxOf (L2.CX P w) P w K mg base N qual (defScope st) f cdv A outer s H E).xe →
      EB (cxOf (L2.CX P w) P w K mg base N qual (defScope st) f cdv A outer s H E) (fun cls d _ H => E cls d H) (defBody st) ms) : FnOk P w K mg base (L2.CX P w) (k + 1) f fd ps (PF K mg np (mDef N.length ms)) := by
  refine F.okX S (fun vs H Q E h => by rw [hp]; exact h.1) fun cdv A outer s H vs Q E hr h => ?_
  obtain ⟨hl, ds, Z, hZ, rl, p⟩ := h
  obtain ⟨t, h1, h2⟩ := (hb cdv A outer s H E hr (takes_of rfl rfl rfl rfl) (passes_of rfl)).ex
  refine ⟨t, h1, ?_⟩
  have q : Rel K mg N.length Z H nom (mStart N.length ds) (L2.start N vs) H := start_rel hZ rl (by omega)
  refine h2 N.length Z H nom _ _ H rfl q _ ?_
  unfold mDef at p
  cases e : ms (mStart N.length ds) with
  | nx r =>
    rw [e] at p
    exact fun m σ H' q' _ => p .non H' q'.same (by simp [Rep])
  | rt d =>
    rw [e] at p
    exact fun v H' s' rv => p v H' s' rv
  | ex c ns xs r =>
    rw [e] at p
    exact fun m σ H' C d q' _ ea => p C d H' q'.same (ea.mono hid_nom)
  | rc d =>
    rw [e] at p
    exact False.elim p
  | bk r =>
    rw [e] at p
    exact False.elim p
  | ct r =>
    rw [e] at p
    exact False.elim p
  | bad =>
    rw [e] at p
    exact False.elim p
end QB

namespace QB
open PySem PySem.Spec PyProof.Rows L2
section
variable {X : Cx} {W : WX} {a b c e tg : Expr} {es rest : List Expr} {ma mb mc me : ME} {ms : MA} {pos : Pos} {te tl : TE}

/-! ### what a for walks: a list, a tuple, a text -/
def iAny (K : PySem.W.Frag) (tl : TE) : TI := fun σ H R => tl σ H fun x H1 =>
  (∃ a, x = .ref a ∧ (∃ xs, SqL K H1 a xs) ∧ R (Itl K a) H1) ∨ (∃ a, x = .ref a ∧ (∃ xs, SqT K H1 a xs) ∧ R (Itt K a) H1) ∨ ∃ z, x = .str z ∧ R (Its z) H1
theorem pi_any {l : Expr} (hl : PE X l tl) : PI X tg l (iAny X.K tl) := by
  refine ⟨fun pins s σ H R I h => ?_⟩
  refine thn (hl.run pins s σ H _ I h) fun v s1 ⟨x, H1, I1, r1, q1⟩ => ?_
  rcases q1 with ⟨a, e, ⟨xs, hq⟩, q⟩ | ⟨a, e, ⟨xs, hq⟩, q⟩ | ⟨z, e, q⟩
  · subst e
    cases r1
    obtain ⟨its, rv, p, hz⟩ := I1.list hq
    refine wpAny_pyIter_list p.isList ?_
    refine ⟨s1.heap.objs.size, [s1.heap.objs.size], _, _, H1, rfl, I1.kept (t' := s1.toks) fun b o e => Heap.get?_push_of_some _ e, turn_list a _, ⟨_, Heap.get?_push_size _ rfl, rfl, rfl⟩, fun b hb => ?_, q⟩
    have e : b = s1.heap.objs.size := by simpa using hb
    subst e
    exact I1.fpOk (Nat.le_refl _) (I1.hok.fresh (Nat.le_refl _))
  · subst e
    cases r1
    obtain ⟨its, rv, p, hz⟩ := I1.tuple hq
    refine wpAny_pyIter_tuple (show s1.heap.IsTuple a its.toArray from p) ?_
    refine ⟨s1.heap.objs.size, [s1.heap.objs.size], _, _, H1, rfl, I1.kept (t' := s1.toks) fun b o e => Heap.get?_push_of_some _ e, turn_tuple a _, ⟨_, Heap.get?_push_size _ rfl, rfl, rfl⟩, fun b hb => ?_, q⟩
    have e : b = s1.heap.objs.size := by simpa using hb
    subst e
    exact I1.fpOk (Nat.le_refl _) (I1.hok.fresh (Nat.le_refl _))
  · subst e
    obtain ⟨t, rfl⟩ := r1
    cases ha : z.cps.all (· < 128)
    · exact wpAny_pyIter_wide ha (pi_one (tk := s1.toks) I1 _ (turn_str _ z t "str_iterator" (.inr rfl)) ⟨_, Heap.get?_push_size _ rfl, rfl, rfl⟩ q)
    · exact wpAny_pyIter_ascii ha (pi_one (tk := s1.toks) I1 _ (turn_str _ z t "str_ascii_iterator" (.inl rfl)) ⟨_, Heap.get?_push_size _ rfl, rfl, rfl⟩ q)
def signs (z : Str) : List D := z.cps.toList.map fun c => D.str ⟨#[c]⟩
def dItems (d : D) : R (List D) := match d with
  | .lst xs => .ok xs
  | .slst xs => .ok xs
  | .tup xs => .ok xs
  | .str z => .ok (signs z)
  | _ => .bad
def mItems (me : ME) : MA := fun r => (me r).bind dItems
theorem itok_s {K : PySem.W.Frag} {mg : Str → Option Value} {G : Hp} {z : Str} : ItOk K mg G (Its z) (signs z) := by
  have hl : (signs z).length = z.cps.size := by simp [signs]
  refine ⟨fun H i s hi => ⟨by rw [hl] at hi; exact hi, fun x H' hy => ?_⟩, fun H s => by rw [hl]; exact Nat.le_refl _⟩
  obtain ⟨e, c, hc, ex⟩ := hy
  refine ⟨e, .str ⟨#[c]⟩, ?_, by simp only [Rep]; exact ex⟩
  simp only [signs, List.getElem?_map, Array.getElem?_toList, hc, Option.map_some]
theorem ei_any (h : EE X W e me) : EI X W tg e (mItems me) := by
  obtain ⟨t, h1, h2⟩ := h.ex
  refine ⟨_, pi_any h1, fun n Z H0 m r σ H q R' p => h2 n Z H0 m r σ H q _ (p.bind.imp fun d k x H1 s1 rx => ?_)⟩
  cases d <;> try exact False.elim k
  · simp only [Rep] at rx
    exact .inr (.inr ⟨_, rx, k _ H1 s1 itok_s⟩)
  · simp only [Rep] at rx
    obtain ⟨a, vs, rfl, hq, tt⟩ := rx
    exact .inr (.inl ⟨a, rfl, ⟨vs, Same.seqT hid_sub hq⟩, k _ H1 s1 (itok_t hq tt)⟩)
  · simp only [Rep] at rx
    obtain ⟨a, vs, rfl, hq, tt⟩ := rx
    exact .inl ⟨a, rfl, ⟨vs, .inl (.inl (hid_sub _ _ hq))⟩, k _ H1 s1 (itok_l (.inl (.inl hq)) tt)⟩
  · simp only [Rep] at rx
    obtain ⟨a, vs, rfl, hq, tt⟩ := rx
    exact .inl ⟨a, rfl, ⟨vs, Same.seq hid_sub hq⟩, k _ H1 s1 (itok_l hq tt)⟩

/-! ### a def by its name -/
structure Ok (P : Program) (w : World) (K : PySem.W.Frag) (mg : Str → Option Value) (base : Heap) (k : Nat) (x : Str) (n : Nat) (mf : List D → R D) : Prop where
  ex : ∃ (f : Addr) (fd : FuncData) (ps : List Str), mg x = some (.ref f) ∧ PySem.W.keepIn K (.ref f) = true ∧ Binds K fd ps [] ∧ FnOk P w K mg base (L2.CX P w) k f fd ps (PF K mg n mf)
/-- .. called with keywords ks behind nn values; is: which of them each parameter takes -/
def permL {α : Type} (is : List Nat) (l : List α) : List α := is.filterMap fun i => l[i]?
structure OkK (P : Program) (w : World) (K : PySem.W.Frag) (mg : Str → Option Value) (base : Heap) (k : Nat) (x : Str) (n nn : Nat) (ks : List Str) (is : List Nat) (mf : List D → R D) : Prop where
  ex : ∃ (f : Addr) (fd : FuncData) (ps : List Str), mg x = some (.ref f) ∧ PySem.W.keepIn K (.ref f) = true ∧ (∀ (s : Shared) (us ws : List Value), us.length = nn → ws.length = ks.length → BindsTo s fd ⟨us, ks.zip ws⟩ (ps.zip (permL is (us ++ ws)))) ∧ FnOk P w K mg base (L2.CX P w) k f fd ps (PF K mg n mf)
theorem Vals.perm {vs : List V} {us : List Value} (h : Vals vs us) : ∀ is : List Nat, Vals (permL is vs) (permL is us)
  | [] => .nil
  | i :: is => by
    unfold permL
    rw [List.filterMap_cons, List.filterMap_cons]
    cases e : vs[i]? with
    | none =>
      rw [h.none_of e]
      exact Vals.perm h is
    | some v =>
      obtain ⟨u, hu, r⟩ := h.get e
      rw [hu]
      exact .cons r (Vals.perm h is)
theorem RepL.perm {K : PySem.W.Frag} {mg : Str → Option Value} {G : Hp} {ds : List D} {vs : List V} (h : RepL K mg G ds vs) : ∀ is : List Nat, RepL K mg G (permL is ds) (permL is vs)
  | [] => RepL.nil
  | i :: is => by
    unfold permL
    rw [List.filterMap_cons, List.filterMap_cons]
    cases e : ds[i]? with
    | none =>
      have : vs[i]? = none := by
        rw [List.getElem?_eq_none_iff] at e ⊢
        rw [h.length]
        exact e
      rw [this]
      exact RepL.perm h is
    | some d =>
      obtain ⟨v, hv, r⟩ := h.get e
      rw [hv]
      exact RepL.cons r (RepL.perm h is)
variable {k kk n nn : Nat} {x : Str} {p1 : Pos} {mf : List D → R D}
theorem ee_callO (tk : Takes X W) (F : Ok X.prog X.w X.K X.mg X.base k x n mf) (hr : Room kk X.A) (hk : k ≤ kk) (ha : EA X W (a :: es) ms) (hl : ALen ms n) (hg : Gl X x := by rfl) (hdb : (x == ("__debug__" : Str)) = false := by decide)
    (he : starEach (a :: es) X.env = (false, eval a X.env) :: starEach es X.env := by rfl) (hpl : (backTo pos (starEach es X.env)).any (·.1) = false := by rfl) : EE X W (.Call (.Name x p1) (a :: es) [] pos) (mCallB mf ms) := by
  obtain ⟨f, fd, ps, h1, h2, h3, h4⟩ := F.ex
  exact ee_call tk h4 hr hk h1 h2 h3 ha hl hg hdb he hpl
theorem SimA.lenW {t : TA} (ha : SimAW X W t ms) (hl : ∀ r ds, ms r = .ok ds → ds.length = n) (hx : ∀ ds c ns xs, mf ds ≠ .exc c ns xs) : SimW X W (tCallS (PF X.K X.mg n mf) (WE W) t) (mCallB mf ms) := fun nn Z H0 m r σ H q Q p => by
  unfold mCallB at p
  have p' := p.bind
  cases e : ms r with
  | ok ds =>
    refine ha nn Z H0 m r σ H q _ ?_
    rw [e] at p' ⊢
    intro vs H1 s1 rx
    have p2 : PostG X.K X.mg Z m W σ H (mf ds) (fun d => ∀ (v : V) (H' : Hp), Same H H' → Rep X.K X.mg (hid Z nom H') d v → Q v H') := p'
    exact pf_weak (q.grow s1) (by rw [rx.length, hl r ds e]) rx (hx ds) ((p2.grow s1).imp fun d k3 v H' s3 rv => k3 v H' (s1.trans s3) rv)
  | exc cc ns xs =>
    refine ha nn Z H0 m r σ H q _ ?_
    rw [e] at p' ⊢
    exact p'
  | bad =>
    rw [e] at p'
    exact False.elim p'
/-- a keyword's values -/
structure EK (X : Cx) (W : WX) (kws : List Keyword) (ms : MA) : Prop where
  ex : ∃ t, PK X kws t ∧ SimA X W t ms
variable {kws : List Keyword} {nm : Option Str} {kpos : Pos} {mk : MA} {ks : List Str} {is : List Nat}
theorem ek_nil : EK X W [] mNil := ⟨_, pk_nil, fun n Z H0 m r σ H q Q p => p [] H (Same.refl H) RepL.nil⟩
theorem ek_cons (h : EE X W e me) (g : EK X W kws ms) : EK X W (⟨nm, e, kpos⟩ :: kws) (mCons me ms) := by
  obtain ⟨t, h1, h2⟩ := h.ex
  obtain ⟨u, h3, h4⟩ := g.ex
  refine ⟨_, pk_cons h1 h3, fun n Z H0 m r σ H q Q p => h2 n Z H0 m r σ H q _ (p.bind.imp fun d k x H1 s1 rx => ?_)⟩
  refine h4 n Z H0 m r σ H1 (q.grow s1) _ ((k.grow s1).bind.imp fun ds k2 xs H2 s2 rxs => ?_)
  exact k2 (x :: xs) H2 (s1.trans s2) (RepL.cons (rx.mono (hid_mono s2)) rxs)
def tCallKS (sp : Sp) (is : List Nat) (n m : Nat) (E : L2.St → XK) (t tk : TA) : TE := fun σ H Q => t σ H fun vs H1 => tk σ H1 fun zs H2 => vs.length = n ∧ zs.length = m ∧ sp (permL is (vs ++ zs)) H2 Q (E σ)
theorem run_fnK {CX : CXT} {f : Addr} {fd : FuncData} {ps : List Str} {sp : Sp} {E : L2.St → XK} {pins : List (Addr × Obj)} {σ : L2.St} {H : Hp} {s : Shared} {Q : VK} {us ws : List Value} {vs zs : List V} (F : FnOk X.prog X.w X.K X.mg X.base CX k f fd ps sp) (hr : Room k X.A)
    (hb : ∀ (s : Shared) (us ws : List Value), us.length = nn → ws.length = ks.length → BindsTo s fd ⟨us, ks.zip ws⟩ (ps.zip (permL is (us ++ ws)))) (hx : PassesAt CX X σ (E σ))
    (I : Inv X pins σ H s) (r : Vals vs us) (rz : Vals zs ws) (l1 : vs.length = nn) (l2 : zs.length = ks.length) (h : sp (permL is (vs ++ zs)) H Q (E σ)) : wpAny (model X.prog X.w) X.A (call (.ref f) us (ks.zip ws)) (EP X pins σ Q) X.xe s := by
  refine wpAny_call (codeAny_mono (F.run X.A X.stack s H ⟨us, ks.zip ws⟩ (permL is (us ++ ws)) (permL is (vs ++ zs)) Q (E σ) hr I.env0 (hb s us ws (r.length.symm.trans l1) (rz.length.symm.trans l2)) (Vals.perm (r.append rz) is) h) fun r s' hq => ?_)
  cases r with
  | error e => exact hx pins H s e s' I hq
  | ok fl =>
    cases fl with
    | ret u => exact I.after hq
    | next => exact False.elim hq
    | brk => exact False.elim hq
    | cont => exact False.elim hq
theorem pe_kw0 {CX : CXT} {f : Addr} {fd : FuncData} {ps : List Str} {sp : Sp} {E : L2.St → XK} {tk : TA} (F : FnOk X.prog X.w X.K X.mg X.base CX k f fd ps sp) (hr : Room k X.A) (hg : Gl X x) (hm : X.mg x = some (.ref f)) (hk : PySem.W.keepIn X.K (.ref f) = true)
    (hb : ∀ (s : Shared) (us ws : List Value), us.length = 0 → ws.length = ks.length → BindsTo s fd ⟨us, ks.zip ws⟩ (ps.zip (permL is (us ++ ws)))) (hx : ∀ σ, PassesAt CX X σ (E σ)) (hkw : PK X kws tk)
    (hall : (backToKw pos (keywordEach kws X.env)).all (·.1.isSome) = true) (hks : (backToKw pos (keywordEach kws X.env)).filterMap (·.1) = ks) (hdb : (x == ("__debug__" : Str)) = false)
    (hpl : ((backTo pos (starEach [] X.env)).any (·.1) || (backToKw pos (keywordEach kws X.env)).any (·.1.isNone)) = false) :
    PE X (.Call (.Name x p1) [] kws pos) (tCallKS sp is 0 ks.length E tNil tk) := by
  refine ⟨fun pins s σ H Q I h => ?_⟩
  refine wpAny_Call_Name_kw (ld_glob I hg hm ?_ hdb)
  refine PySem.W.callWith_KW0 (h₀ := X.base) I.ok.mod.kin hk hall ?_ hpl
  refine thn (hkw.run pos pins s σ H _ I h) fun ws s2 ⟨zs, H2, I2, rz, l1, l2, q2⟩ => ⟨I2.kIn, ?_⟩
  rw [hks]
  exact run_fnK (us := []) (vs := []) F hr hb (hx σ) I2 .nil rz rfl l2 q2
theorem pe_kw {CX : CXT} {f : Addr} {fd : FuncData} {ps : List Str} {sp : Sp} {E : L2.St → XK} {t tk : TA} (F : FnOk X.prog X.w X.K X.mg X.base CX k f fd ps sp) (hr : Room k X.A) (hg : Gl X x) (hm : X.mg x = some (.ref f)) (hk : PySem.W.keepIn X.K (.ref f) = true)
    (hb : ∀ (s : Shared) (us ws : List Value), us.length = nn → ws.length = ks.length → BindsTo s fd ⟨us, ks.zip ws⟩ (ps.zip (permL is (us ++ ws)))) (hx : ∀ σ, PassesAt CX X σ (E σ)) (ha : PA X (a :: es) t) (hkw : PK X kws tk)
    (hall : (backToKw pos (keywordEach kws X.env)).all (·.1.isSome) = true) (hks : (backToKw pos (keywordEach kws X.env)).filterMap (·.1) = ks) (hdb : (x == ("__debug__" : Str)) = false)
    (he : starEach (a :: es) X.env = (false, eval a X.env) :: starEach es X.env) (hpl : ((backTo pos (starEach (a :: es) X.env)).any (·.1) || (backToKw pos (keywordEach kws X.env)).any (·.1.isNone)) = false) :
    PE X (.Call (.Name x p1) (a :: es) kws pos) (tCallKS sp is nn ks.length E t tk) := by
  refine ⟨fun pins s σ H Q I h => ?_⟩
  refine wpAny_Call_Name_kw (ld_glob I hg hm ?_ hdb)
  refine PySem.W.callWith_KW (h₀ := X.base) I.ok.mod.kin hk hall (thn (ha.run pos pins s σ H _ I h) fun us s1 ⟨vs, H1, I1, r, q⟩ => ?_) hpl he
  refine thn (hkw.run pos pins s1 σ H1 _ I1 q) fun ws s2 ⟨zs, H2, I2, rz, l1, l2, q2⟩ => ⟨I2.kIn, ?_⟩
  rw [hks]
  exact run_fnK F hr hb (hx σ) I2 r rz l1 l2 q2
def mCallK (mf : List D → R D) (is : List Nat) (ms mk : MA) : ME := fun r => (ms r).bind fun ds => (mk r).bind fun es => mf (permL is (ds ++ es))
theorem SimE.kw {t tk : TA} (ha : SimA X W t ms) (hb : SimA X W tk mk) (h1 : ALen ms nn) (h2 : ALen mk ks.length) (hn : ∀ {α : Type} (l : List α), l.length = nn + ks.length → (permL is l).length = n) :
    SimE X W (tCallKS (PF X.K X.mg n mf) is nn ks.length (WE W) t tk) (mCallK mf is ms mk) := fun n' Z H0 m r σ H q Q p => by
  unfold mCallK at p
  have p' := p.bind
  cases e : ms r with
  | ok ds =>
    refine ha n' Z H0 m r σ H q _ ?_
    rw [e] at p' ⊢
    intro vs H1 s1 rx
    have p2 : PostG X.K X.mg Z m W σ H ((mk r).bind fun es => mf (permL is (ds ++ es))) (fun d => ∀ (v : V) (H' : Hp), Same H H' → Rep X.K X.mg (hid Z m H') d v → Q v H') := p'
    have p3 := p2.bind
    cases e2 : mk r with
    | ok fs =>
      refine hb n' Z H0 m r σ H1 (q.grow s1) _ ?_
      rw [e2] at p3 ⊢
      intro us H2 s2 ru
      have l1 := h1 r ds e
      have l2 := h2 r fs e2
      have p4 : PostG X.K X.mg Z m W σ H (mf (permL is (ds ++ fs))) (fun d => ∀ (v : V) (H' : Hp), Same H H' → Rep X.K X.mg (hid Z m H') d v → Q v H') := p3
      have rx2 := (rx.mono (hid_mono s2)).append ru
      refine ⟨by rw [rx.length, l1], by rw [ru.length, l2], pf_strong ((q.grow s1).grow s2) ?_ (rx2.perm is) ((p4.grow (s1.trans s2)).imp fun d k3 v H' s3 rv => k3 v H' ((s1.trans s2).trans s3) rv)⟩
      exact hn _ (by rw [List.length_append, rx.length, ru.length, l1, l2])
    | exc cc ns xs =>
      refine hb n' Z H0 m r σ H1 (q.grow s1) _ ?_
      rw [e2] at p3 ⊢
      intro C d H' s' e'
      exact p3 C d H' (s1.trans s') e'
    | bad =>
      rw [e2] at p3
      exact False.elim p3
  | exc cc ns xs =>
    refine ha n' Z H0 m r σ H q _ ?_
    rw [e] at p' ⊢
    exact p'
  | bad =>
    rw [e] at p'
    exact False.elim p'
theorem ee_kw0 (tk : Takes X W) (F : OkK X.prog X.w X.K X.mg X.base k x n 0 ks is mf) (hr : Room kk X.A) (hk : k ≤ kk) (hkw : EK X W kws mk) (h2 : ALen mk ks.length) (hn : ∀ {α : Type} (l : List α), l.length = 0 + ks.length → (permL is l).length = n)
    (hall : (backToKw pos (keywordEach kws X.env)).all (·.1.isSome) = true := by rfl) (hks : (backToKw pos (keywordEach kws X.env)).filterMap (·.1) = ks := by rfl) (hg : Gl X x := by rfl) (hdb : (x == ("__debug__" : Str)) = false := by decide)
    (hpl : ((backTo pos (starEach [] X.env)).any (·.1) || (backToKw pos (keywordEach kws X.env)).any (·.1.isNone)) = false := by rfl) : EE X W (.Call (.Name x p1) [] kws pos) (mCallK mf is mNil mk) := by
  obtain ⟨f, fd, ps, g1, g2, g3, g4⟩ := F.ex
  obtain ⟨t, h3, h4⟩ := hkw.ex
  exact ⟨_, pe_kw0 g4 (hr.mono hk) hg g1 g2 g3 (fun σ => passAt tk σ) h3 hall hks hdb hpl, SimE.kw (fun n Z H0 m r σ H q Q p => p [] H (Same.refl H) RepL.nil) h4 al_nil h2 hn⟩
theorem ee_kw (tk : Takes X W) (F : OkK X.prog X.w X.K X.mg X.base k x n nn ks is mf) (hr : Room kk X.A) (hk : k ≤ kk) (ha : EA X W (a :: es) ms) (h1 : ALen ms nn) (hkw : EK X W kws mk) (h2 : ALen mk ks.length) (hn : ∀ {α : Type} (l : List α), l.length = nn + ks.length → (permL is l).length = n)
    (hall : (backToKw pos (keywordEach kws X.env)).all (·.1.isSome) = true := by rfl) (hks : (backToKw pos (keywordEach kws X.env)).filterMap (·.1) = ks := by rfl) (hg : Gl X x := by rfl) (hdb : (x == ("__debug__" : Str)) = false := by decide)
    (he : starEach (a :: es) X.env = (false, eval a X.env) :: starEach es X.env := by rfl) (hpl : ((backTo pos (starEach (a :: es) X.env)).any (·.1) || (backToKw pos (keywordEach kws X.env)).any (·.1.isNone)) = false := by rfl) : EE X W (.Call (.Name x p1) (a :: es) kws pos) (mCallK mf is ms mk) := by
  obtain ⟨f, fd, ps, g1, g2, g3, g4⟩ := F.ex
  obtain ⟨u, h5, h6⟩ := ha.ex
  obtain ⟨t, h3, h4⟩ := hkw.ex
  exact ⟨_, pe_kw g4 (hr.mono hk) hg g1 g2 g3 (fun σ => passAt tk σ) h5 h3 hall hks hdb he hpl, SimE.kw h6 h4 h1 h2 hn⟩
end
end QB

namespace QB
open PySem PySem.Spec PyProof.Rows L2
theorem ee_globI {X : Cx} {W : WX} {x : Str} {pos : Pos} {i : Int} {t : Tok} (hm : X.mg x = some (.int i t)) (hg : Gl X x := by rfl) (hdb : (x == ("__debug__" : Str)) = false := by decide) : EE X W (.Name x pos) (mC (.int i)) :=
  ee_glob (v := .int i) hg hm ⟨t, rfl⟩ (fun _ => by simp [Rep]) hdb
theorem ee_globS {X : Cx} {W : WX} {x : Str} {pos : Pos} {i : Str} {t : Tok} (hm : X.mg x = some (.str i t)) (hg : Gl X x := by rfl) (hdb : (x == ("__debug__" : Str)) = false := by decide) : EE X W (.Name x pos) (mC (.str i)) :=
  ee_glob (v := .str i) hg hm ⟨t, rfl⟩ (fun _ => by simp [Rep]) hdb
/-! ### the law's end -/
def spLaw (K : PySem.W.Frag) : Sp := fun vs H Q _ => ∃ (a : Addr) (ns : List Int), vs = [.ref a] ∧ SqL K H a (ns.map V.int) ∧ ns.length ≤ 63 ∧ (∀ z ∈ ns, Builtin.Int.intBits z ≤ 1048576) ∧ ∀ H', Q (.bl true) H'
theorem repL_ints {K : PySem.W.Frag} {mg : Str → Option Value} {G : Hp} : ∀ ns : List Int, RepL K mg G (ns.map D.int) (ns.map V.int)
  | [] => by simp [RepL]
  | n :: ns => RepL.cons (by simp [Rep]) (repL_ints ns)
theorem law_imp {K : PySem.W.Frag} {mg : Str → Option Value} {m : List D → R D} (hm : ∀ ns : List Int, ns.length ≤ 63 → (∀ z ∈ ns, Builtin.Int.intBits z ≤ 1048576) → m [.slst (ns.map D.int)] = .ok (.bl true)) {vs : List V} {H : Hp} {Q : VK} {E : XK} (h : spLaw K vs H Q E) : PF K mg 1 m vs H Q E := by
  obtain ⟨a, ns, rfl, hS, hl, hb, k⟩ := h
  refine ⟨rfl, [.slst (ns.map D.int)], fun _ => False, fun _ z => z.elim, RepL.cons ?_ RepL.nil, ?_⟩
  · simp only [Rep]
    refine ⟨a, ns.map V.int, rfl, Same.seq (fun b o e => hid_of e (fun z => z) fun _ z => nomatch z) hS, repL_ints ns⟩
  · rw [hm ns hl hb]
    intro v H' _ r
    simp only [Rep] at r
    subst r
    exact k H'
theorem no_exc {P : Program} {w : World} {H : Hp} {s : Shared} {e : Value} {s' : Shared} (h : L2.CX P w [] H s (fun _ _ _ => False) e s') : False := by
  obtain ⟨_, _, _, _, _, _, _, _, _, _, _, _, z⟩ := h
  exact z
end QB

namespace QB
open PySem PySem.Spec PyProof.Rows L2
/-! ### list comprehensions -/
abbrev W0 : WX := fun _ _ _ _ => False
def R.ne {α : Type} (x : R α) : R α := match x with
  | .ok a => .ok a
  | _ => .bad
def notOwn (r : Sc) (vs : List Nat) : Bool := vs.all fun i => match r[i]? with
  | some (some (.own _)) => false
  | none => false
  | _ => true
def wipeS (r : Sc) : List Nat → Sc
  | [] => r
  | v :: vs => (wipeS r vs).set v none
def compL (tb : D → Sc → Option Sc) (mt : MT) (me : ME) (r0 : Sc) : List D → List D → R Cell
  | [], acc => .ok (.l acc)
  | d :: ds, acc => match tb d r0 with
    | none => .bad
    | some r1 => (mt r1).ne.bind fun k => match k with
      | true => (me r1).ne.bind fun x => if acc.length < sizeLine then compL tb mt me r0 ds (acc ++ [x]) else .bad
      | false => compL tb mt me r0 ds acc
def mLC (vs : List Nat) (mi : MA) (tb : D → Sc → Option Sc) (mt : MT) (me : ME) : MF := fun r => match notOwn r vs with
  | true => (mi r).bind fun ds => compL tb mt me (wipeS r vs) ds []
  | false => .bad
def mYes : MT := fun _ => .ok true
section
variable {X Y : Cx} {W : WX} {e elt tg iter : Expr} {ifs : List Expr} {scope : Scope} {own : List (Str × Nat)} {pos : Pos} {ma : MA} {me : ME} {mt : MT} {tb : D → Sc → Option Sc} {vs : List Nat}
structure EC (X : Cx) (ifs : List Expr) (mt : MT) : Prop where
  ex : ∃ t, PTs X ifs t ∧ SimT X W0 t mt
theorem ec_nil : EC X [] mYes := ⟨_, pts_nil, fun n Z H0 m r σ H q Q p => p H (Same.refl H)⟩
theorem ec_one (h : ET X W0 e mt) : EC X [e] mt := by
  obtain ⟨t, h1, h2⟩ := h.ex
  exact ⟨t, pts_one h1, h2⟩

/-- a comprehension's target: the slots vs alone change, none of them owns -/
structure CG (X : Cx) (vs : List Nat) (tg : Expr) (tb : D → Sc → Option Sc) : Prop where
  ex : ∃ g, PG X tg g ∧ ∀ (n : Nat) (Z : Addr → Prop) (H0 : Hp) (m : Nat → Option Addr) (r : Sc) (σ : L2.St) (H : Hp), (∀ i ∈ vs, i < n) → Rel X.K X.mg n Z H0 m r σ H → (∀ i ∈ vs, m i = none) → ∀ (d : D) (v : V) (Q : L2.St → Hp → Prop), Rep X.K X.mg (hid Z m H) d v →
    (match tb d r with
      | some r' => ∀ (σ' : L2.St), Rel X.K X.mg n Z H0 m r' σ' H → wipe σ' vs = wipe σ vs → Q σ' H
      | none => False) → g v σ H Q
theorem drp_none {m : Nat → Option Addr} {i : Nat} (h : m i = none) : drp m i = m := by
  funext j
  unfold drp
  split
  · rename_i e
    rw [e, h]
  · rfl
theorem wipe_set {σ : L2.St} {i : Nat} {x : Option V} : ∀ {vs : List Nat}, i ∈ vs → wipe (σ.set i x) vs = wipe σ vs
  | [], h => by cases h
  | v :: vs, h => by
    unfold wipe
    by_cases e : i ∈ vs
    · rw [wipe_set e]
    · have ev : i = v := by
        rcases List.mem_cons.mp h with e2 | e2
        · exact e2
        · exact absurd e2 e
      subst ev
      have key : ∀ (ws : List Nat) (τ : L2.St), (wipe (τ.set i x) ws).set i none = (wipe τ ws).set i none := by
        intro ws
        induction ws with
        | nil =>
          intro τ
          unfold wipe
          rw [List.set_set]
        | cons w ws ih =>
          intro τ
          unfold wipe
          by_cases ew : w = i
          · subst ew
            rw [List.set_set, List.set_set]
            exact ih τ
          · rw [List.set_comm _ _ ew, List.set_comm _ _ ew, ih τ]
      exact key vs σ
theorem cg_name {i : Nat} {x : Str} (hN : X.N.Nodup) (hi : X.N[i]? = some x) (hx : Loc X.env.scope x) (hv : i ∈ vs) (hf : X.fn x = true ∨ X.env.scope.names.lookup x = some .local := by first | exact .inl rfl | exact .inr rfl | assumption) : CG X vs (.Name x pos) (bName i) := by
  refine ⟨_, pg_name hN hi hx hf, fun n Z H0 m r σ H hn q hm d v Q rv p => ?_⟩
  have q' := q.setv (i := i) (hn i hv) rv
  rw [drp_none (hm i hv)] at q'
  exact p _ q' (wipe_set hv)
theorem own_none {K : PySem.W.Frag} {mg : Str → Option Value} {n : Nat} {Z : Addr → Prop} {H0 : Hp} {m : Nat → Option Addr} {r : Sc} {σ : L2.St} {H : Hp} (q : Rel K mg n Z H0 m r σ H) (h : notOwn r vs = true) : ∀ i ∈ vs, m i = none := by
  intro i hi
  cases e : m i with
  | none => rfl
  | some a =>
    obtain ⟨c, hc⟩ := q.dom i a e
    have h2 := List.all_eq_true.mp h i hi
    rw [hc] at h2
    cases h2
theorem own_lt {K : PySem.W.Frag} {mg : Str → Option Value} {n : Nat} {Z : Addr → Prop} {H0 : Hp} {m : Nat → Option Addr} {r : Sc} {σ : L2.St} {H : Hp} (q : Rel K mg n Z H0 m r σ H) (h : notOwn r vs = true) : ∀ i ∈ vs, i < n := by
  intro i hi
  have h2 := List.all_eq_true.mp h i hi
  rw [← q.lenr]
  refine Nat.lt_of_not_le fun z => ?_
  rw [List.getElem?_eq_none z] at h2
  cases h2
theorem wipe_rel {K : PySem.W.Frag} {mg : Str → Option Value} {n : Nat} {Z : Addr → Prop} {H0 : Hp} {m : Nat → Option Addr} {r : Sc} {σ : L2.St} {H : Hp} (q : Rel K mg n Z H0 m r σ H) : ∀ {vs : List Nat}, (∀ i ∈ vs, m i = none) → Rel K mg n Z H0 m (wipeS r vs) (wipe σ vs) H
  | [], _ => q
  | v :: vs, h => by
    have q1 := wipe_rel q (vs := vs) fun i hi => h i (List.mem_cons_of_mem _ hi)
    have hv := h v List.mem_cons_self
    unfold wipeS wipe
    refine ⟨by rw [List.length_set, q1.lenr], by rw [List.length_set, q1.lens], fun j d hj => ?_, fun j c hj => ?_, fun j a hj => ?_, q1.inj, q1.frs, q1.zed, q1.same⟩
    · rcases getset hj with ⟨_, e2⟩ | ⟨e1, e2⟩
      · cases e2
      · obtain ⟨w, h1, h2⟩ := q1.val j d e2
        exact ⟨w, by rw [List.getElem?_set_ne (Ne.symm e1)]; exact h1, h2⟩
    · rcases getset hj with ⟨_, e2⟩ | ⟨e1, e2⟩
      · cases e2
      · obtain ⟨a, o, h1, h2, h3, h4⟩ := q1.own j c e2
        exact ⟨a, o, h1, by rw [List.getElem?_set_ne (Ne.symm e1)]; exact h2, h3, h4⟩
    · have nv : j ≠ v := fun e => by
        subst e
        rw [hv] at hj
        cases hj
      obtain ⟨c, hc⟩ := q1.dom j a hj
      exact ⟨c, by rw [List.getElem?_set_ne (Ne.symm nv)]; exact hc⟩
theorem ne_post {K : PySem.W.Frag} {mg : Str → Option Value} {Z : Addr → Prop} {m : Nat → Option Addr} {σ : L2.St} {H : Hp} {β γ : Type} {x : R β} {f : β → R γ} {k : R γ → Prop} (h : k (x.ne.bind f)) (hb : ¬ k .bad) : PostG K mg Z m W0 σ H x (fun b => k (f b)) := by
  cases x with
  | ok b => exact h
  | exc c ns xs => exact absurd h hb
  | bad => exact absurd h hb
/-- the comprehension's reading -/
theorem SimF.lc {wi : TI} {g : TG} {tt : TT} {te : TE}
    (hi : ∀ (n : Nat) (Z : Addr → Prop) (H0 : Hp) (m : Nat → Option Addr) (r : Sc) (σ : L2.St) (H : Hp), Rel X.K X.mg n Z H0 m r σ H → ∀ R' : It → Hp → Prop, PostG X.K X.mg Z m W σ H (ma r) (fun ds => ∀ (J : It) (H' : Hp), Same H H' → ItOk X.K X.mg (hid Z m H') J ds → R' J H') → wi σ H R')
    (hg : ∀ (n : Nat) (Z : Addr → Prop) (H0 : Hp) (m : Nat → Option Addr) (r : Sc) (σ : L2.St) (H : Hp), (∀ i ∈ vs, i < n) → Rel X.K X.mg n Z H0 m r σ H → (∀ i ∈ vs, m i = none) → ∀ (d : D) (v : V) (Q : L2.St → Hp → Prop), Rep X.K X.mg (hid Z m H) d v → (match tb d r with
      | some r' => ∀ (σ' : L2.St), Rel X.K X.mg n Z H0 m r' σ' H → wipe σ' vs = wipe σ vs → Q σ' H
      | none => False) → g v σ H Q)
    (ht : SimT X W0 tt mt) (he : SimE X W0 te me) : ∀ (n : Nat) (Z : Addr → Prop) (H0 : Hp) (m : Nat → Option Addr) (r : Sc) (σ : L2.St) (H : Hp), Rel X.K X.mg n Z H0 m r σ H → ∀ Q : VK,
      PostG X.K X.mg Z m W σ H (mLC vs ma tb mt me r) (fun c => ∀ (p : Addr) (o : HO) (H' : Hp), Same H H' → H' p = none → CellOk X.K X.mg (hid Z m H') o c → Q (.ref p) (upd H' p o)) → tLc wi g tt te vs σ H Q := by
  intro n Z H0 m r σ H q Q p
  unfold mLC at p
  cases hno : notOwn r vs with
  | false =>
    rw [hno] at p
    exact False.elim p
  | true =>
    rw [hno] at p
    have hm := own_none q hno
    have hn := own_lt q hno
    refine hi n Z H0 m r σ H q _ (p.bind.imp fun ds k J H1 s1 io => ?_)
    intro D0 hD
    have q1 := q.grow s1
    -- the new list at D0 is hidden while it grows: Z2
    refine ⟨fun i j H2 => i + j = ds.length ∧ ∃ (acc : List D) (avs : List V) (G2 : Hp), Same H1 G2 ∧ G2 D0 = none ∧ H2 = upd G2 D0 (.lst avs) ∧ RepL X.K X.mg (hid Z m G2) acc avs ∧
      PostG X.K X.mg Z m W σ H (compL tb mt me (wipeS r vs) (ds.drop i) acc) (fun c => ∀ (p : Addr) (o : HO) (H' : Hp), Same H H' → H' p = none → CellOk X.K X.mg (hid Z m H') o c → Q (.ref p) (upd H' p o)), ⟨ds.length, by omega, [], [], H1, Same.refl _, hD, rfl, RepL.nil, k⟩, ?_⟩
    rintro i j H2 ⟨hij, acc, avs, G2, sG, nD, rfl, rA, k2⟩
    have q2 := q1.grow sG
    have sU : Same G2 (upd G2 D0 (.lst avs)) := same_upd nD
    have sI : Same (hid Z m H1) (upd G2 D0 (.lst avs)) := fun b o e => sU b o (sG b o (hid_sub b o e))
    by_cases hlt : i < ds.length
    · obtain ⟨g1, g2⟩ := io.go _ i sI hlt
      refine .inr ⟨g1, fun H' => ∃ (acc : List D) (avs : List V) (G2 : Hp), Same H1 G2 ∧ G2 D0 = none ∧ H' = upd G2 D0 (.lst avs) ∧ RepL X.K X.mg (hid Z m G2) acc avs ∧
        PostG X.K X.mg Z m W σ H (compL tb mt me (wipeS r vs) (ds.drop (i + 1)) acc) (fun c => ∀ (p : Addr) (o : HO) (H' : Hp), Same H H' → H' p = none → CellOk X.K X.mg (hid Z m H') o c → Q (.ref p) (upd H' p o)), fun H' z => ⟨j - 1, by omega, by omega, z⟩, fun x H' hy => ?_⟩
      obtain ⟨rfl, d, hd, rd⟩ := g2 x H' hy
      have ed : ds.drop i = d :: ds.drop (i + 1) := by
        have e : ds[i] = d := by
          rw [List.getElem?_eq_getElem hlt] at hd
          exact Option.some.inj hd
        rw [← e]
        exact List.drop_eq_getElem_cons hlt
      rw [ed] at k2
      -- D0 joins what is hidden
      let Z2 : Addr → Prop := fun b => Z b ∨ b = D0
      have hZ2 : ∀ {HH : Hp}, Same (hid Z2 m HH) (hid Z m HH) := fun {HH} b o e => by
        obtain ⟨e1, e2, e3⟩ := of_hid e
        exact hid_of e1 (fun z => e2 (.inl z)) e3
      have hG : ∀ {HH : Hp}, Same (upd G2 D0 (.lst avs)) HH → Same (hid Z m G2) (hid Z2 m HH) := fun {HH} s b o e => by
        obtain ⟨e1, e2, e3⟩ := of_hid e
        refine hid_of (s b o (sU b o e1)) (fun z => ?_) e3
        rcases z with z | z
        · exact e2 z
        · rw [z, nD] at e1
          cases e1
      have nmD : ∀ j, m j ≠ some D0 := (q2.new nD).2
      have qZ : Rel X.K X.mg n Z2 H0 m (wipeS r vs) (wipe σ vs) (upd G2 D0 (.lst avs)) := by
        have q3 := wipe_rel q2 hm
        refine ⟨q3.lenr, q3.lens, fun j d hj => ?_, fun j c hj => ?_, q3.dom, q3.inj, fun j a hj => ?_, fun b hb => ?_, q3.same.trans sU⟩
        · obtain ⟨w, h1, h2⟩ := q3.val j d hj
          exact ⟨w, h1, h2.mono (hG (Same.refl _))⟩
        · obtain ⟨a, o, h1, h2, h3, h4⟩ := q3.own j c hj
          exact ⟨a, o, h1, h2, sU _ _ h3, h4.mono (hG (Same.refl _))⟩
        · obtain ⟨f1, f2⟩ := q3.frs j a hj
          refine ⟨f1, fun z => ?_⟩
          rcases z with z | z
          · exact f2 z
          · exact nmD j (by rw [← z]; exact hj)
        · rcases hb with hb | hb
          · intro e
            cases e2 : G2 b with
            | none => exact q3.zed b hb e2
            | some o =>
              rw [sU _ _ e2] at e
              cases e
          · rw [hb, upd_same]
            intro z
            cases z
      have rdZ : Rep X.K X.mg (hid Z2 m (upd G2 D0 (.lst avs))) d x := by
        refine rd.mono fun b o e => ?_
        obtain ⟨e1, e2, e3⟩ := of_hid e
        refine hid_of (sU b o (sG b o e1)) (fun z => ?_) e3
        rcases z with z | z
        · exact e2 z
        · rw [z, hD] at e1
          cases e1
      refine hg n Z2 H0 m (wipeS r vs) (wipe σ vs) _ hn qZ hm d x _ rdZ ?_
      simp only [compL] at k2
      cases e1 : tb d (wipeS r vs) with
      | none =>
        rw [e1] at k2
        exact k2
      | some r1 =>
        rw [e1] at k2
        intro σ' q3 hw
        have hww : wipe (wipe σ vs) vs = wipe σ vs := by
          have key : ∀ (ws us : List Nat), (∀ a ∈ us, a ∈ ws) → ∀ τ : L2.St, wipe (wipe τ us) ws = wipe τ ws := by
            intro ws us
            induction us with
            | nil => intro _ τ; rfl
            | cons a us ih =>
              intro hs τ
              show wipe ((wipe τ us).set a none) ws = wipe τ ws
              rw [wipe_set (hs a List.mem_cons_self)]
              exact ih (fun b hb => hs b (List.mem_cons_of_mem _ hb)) τ
          exact key vs vs (fun _ h => h) σ
        refine ⟨hw.trans hww, ?_⟩
        refine ht n Z2 H0 m r1 σ' _ q3 _ (PostG.imp (ne_post (K := X.K) (mg := X.mg) (Z := Z2) (m := m) (k := fun z => PostG X.K X.mg Z m W σ H z _) k2 (fun z => z)) fun b k3 H3 s3 => ?_)
        have qB := q3.grow s3
        cases b with
        | false =>
          rw [if_neg Bool.false_ne_true]
          -- nothing is put in: the heap is H3, D0 still holds avs
          refine ⟨acc, avs, fun b => if b = D0 then none else H3 b, fun b o e => ?_, by simp, ?_, rA.mono ?_, k3⟩
          · have nb : b ≠ D0 := fun z => by
              rw [z, hD] at e
              cases e
            show (if b = D0 then none else H3 b) = some o
            rw [if_neg nb]
            exact s3 _ _ (sU _ _ (sG _ _ e))
          · funext b
            unfold upd
            by_cases eb : b = D0
            · rw [if_pos eb, eb]
              exact s3 _ _ upd_same
            · rw [if_neg eb]
              exact (if_neg eb).symm
          · intro b o e
            obtain ⟨z1, z2, z3⟩ := of_hid e
            have nb : b ≠ D0 := fun z => by
              rw [z, nD] at z1
              cases z1
            exact hid_of (by show (if b = D0 then none else H3 b) = some o; rw [if_neg nb]; exact s3 _ _ (sU _ _ z1)) z2 z3
        | true =>
          rw [if_pos rfl]
          refine he n Z2 H0 m r1 σ' _ qB _ (PostG.imp (ne_post (K := X.K) (mg := X.mg) (Z := Z2) (m := m) (k := fun z => PostG X.K X.mg Z m W σ H z _) k3 (fun z => z)) fun y k4 v H4 s4 ry => ?_)
          split at k4
          · rename_i hz
            have s34 : Same (upd G2 D0 (.lst avs)) H4 := s3.trans s4
            refine ⟨avs, s34 _ _ upd_same, by rw [rA.length]; exact hz, acc ++ [y], avs ++ [v], fun b => if b = D0 then none else H4 b, fun b o e => ?_, by simp, ?_, ?_, k4⟩
            · have nb : b ≠ D0 := fun z => by
                rw [z, hD] at e
                cases e
              show (if b = D0 then none else H4 b) = some o
              rw [if_neg nb]
              exact s34 _ _ (sU _ _ (sG _ _ e))
            · funext b
              unfold upd
              by_cases eb : b = D0
              · rw [if_pos eb, if_pos eb]
              · rw [if_neg eb, if_neg eb]
                exact (if_neg eb).symm
            · have toB : Same (hid Z2 m H4) (hid Z m (fun b => if b = D0 then none else H4 b)) := fun b o e => by
                obtain ⟨z1, z2, z3⟩ := of_hid e
                have nb : b ≠ D0 := fun z => z2 (.inr z)
                exact hid_of (by show (if b = D0 then none else H4 b) = some o; rw [if_neg nb]; exact z1) (fun z => z2 (.inl z)) z3
              exact (rA.mono ((hG s34).trans toB)).append (RepL.cons (ry.mono toB) RepL.nil)
          · exact False.elim k4
    · have e : i = ds.length := by omega
      subst e
      refine .inl ⟨io.stop _ sI, ?_⟩
      rw [List.drop_length] at k2
      exact k2 D0 (.lst avs) G2 (s1.trans sG) nD ⟨avs, rfl, rA⟩
/-- one reading for a family of contexts -/
theorem all_e {ι : Type} {F : ι → Cx} (h : ∀ i, EE (F i) W0 e me) (hK : ∀ i, (F i).K = X.K) (hm : ∀ i, (F i).mg = X.mg) : ∃ t, (∀ i, PE (F i) e t) ∧ SimE X W0 t me := by
  refine ⟨fun σ H Q => ∀ i, (h i).ex.choose σ H Q, fun i => ⟨fun pins s σ H Q I z => (h i).ex.choose_spec.1.run pins s σ H Q I (z i)⟩, fun n Z H0 m r σ H q Q p i => ?_⟩
  have z := (h i).ex.choose_spec.2 n Z H0 m r σ H
  rw [hK, hm] at z
  exact z q Q p
theorem all_t {ι : Type} {F : ι → Cx} (h : ∀ i, EC (F i) ifs mt) (hK : ∀ i, (F i).K = X.K) (hm : ∀ i, (F i).mg = X.mg) : ∃ t, (∀ i, PTs (F i) ifs t) ∧ SimT X W0 t mt := by
  refine ⟨fun σ H Q => ∀ i, (h i).ex.choose σ H Q, fun i => ⟨fun pins s σ H Q I z => (h i).ex.choose_spec.1.run pins s σ H Q I (z i)⟩, fun n Z H0 m r σ H q Q p i => ?_⟩
  have z := (h i).ex.choose_spec.2 n Z H0 m r σ H
  rw [hK, hm] at z
  exact z q Q p
theorem all_g {ι : Type} {F : ι → Cx} (h : ∀ i, CG (F i) vs tg tb) (hK : ∀ i, (F i).K = X.K) (hm : ∀ i, (F i).mg = X.mg) : ∃ g, (∀ i, PG (F i) tg g) ∧ ∀ (n : Nat) (Z : Addr → Prop) (H0 : Hp) (m : Nat → Option Addr) (r : Sc) (σ : L2.St) (H : Hp), (∀ i ∈ vs, i < n) → Rel X.K X.mg n Z H0 m r σ H → (∀ i ∈ vs, m i = none) → ∀ (d : D) (v : V) (Q : L2.St → Hp → Prop), Rep X.K X.mg (hid Z m H) d v → (match tb d r with
      | some r' => ∀ (σ' : L2.St), Rel X.K X.mg n Z H0 m r' σ' H → wipe σ' vs = wipe σ vs → Q σ' H
      | none => False) → g v σ H Q := by
  refine ⟨fun v σ H Q => ∀ i, (h i).ex.choose v σ H Q, fun i => ⟨fun pins s σ H v u Q I r z => (h i).ex.choose_spec.1.run pins s σ H v u Q I r (z i)⟩, fun n Z H0 m r σ H hn q hq d v Q rv p i => ?_⟩
  have z := (h i).ex.choose_spec.2 n Z H0 m r σ H hn
  show (h i).ex.choose v σ H Q
  generalize (h i).ex.choose = g at z ⊢
  rw [hK, hm] at z
  exact z q hq d v Q rv p
abbrev BI := Shared × Hp × Addr × List (Str × Addr) × List Addr
abbrev blkF (X : Cx) (scope : Scope) (i : BI) : Cx := X.blk i.1 i.2.1 scope (compEnvC scope i.2.2.2.1 i.2.2.1 X.env) i.2.2.2.2
theorem ef_lc {mi : MA} (hc : X.calm = true) (hN : X.N.Nodup) (hi : EI X W tg iter mi) (ok : BlkOk X.N X.env.scope scope own) (hv : own.map (·.2) = vs) (hg : ∀ i : BI, CG (blkF X scope i) vs tg tb) (ht : ∀ i : BI, EC (blkF X scope i) ifs mt) (he : ∀ i : BI, EE (blkF X scope i) W0 elt me)
    (hs : ∀ x, foldedSetIterable iter X.env x = pure x := by intro _; rfl) : EF X W (.ListComp elt [⟨tg, iter, ifs, 0⟩] scope pos) (mLC vs mi tb mt me) := by
  obtain ⟨wi, h1, h2⟩ := hi.ex
  obtain ⟨g, g1, g2⟩ := all_g (X := X) hg (fun _ => rfl) (fun _ => rfl)
  obtain ⟨tt, t1, t2⟩ := all_t (X := X) ht (fun _ => rfl) (fun _ => rfl)
  obtain ⟨te, e1, e2⟩ := all_e (X := X) he (fun _ => rfl) (fun _ => rfl)
  refine ⟨_, pe_lc hc hN h1 ok (fun s H C cl fp => g1 (s, H, C, cl, fp)) (fun s H C cl fp => t1 (s, H, C, cl, fp)) (fun s H C cl fp => e1 (s, H, C, cl, fp)) hs, ?_⟩
  rw [hv]
  exact SimF.lc h2 g2 t2 e2
/-- name = [..] on one line, the name a plain local -/
theorem es_setoLc {mi : MA} {i : Nat} {y : Str} {py spos : Pos} (hc : X.calm = true) (hN : X.N.Nodup) (hy : X.N[i]? = some y) (hyl : X.env.scope.names.lookup y = some .local) (hsw : swapsWith (.ListComp elt [⟨tg, iter, ifs, 0⟩] scope pos) (some (.Name y py)) spos.line X.env = pure true)
    (hi : EI X W tg iter mi) (ok : BlkOk X.N X.env.scope scope own) (hv : own.map (·.2) = vs) (hg : ∀ i : BI, CG (blkF X scope i) vs tg tb) (ht : ∀ i : BI, EC (blkF X scope i) ifs mt) (he : ∀ i : BI, EE (blkF X scope i) W0 elt me)
    (hs : ∀ x, foldedSetIterable iter X.env x = pure x := by intro _; rfl) : ES X W (.Assign [.Name y py] (.ListComp elt [⟨tg, iter, ifs, 0⟩] scope pos) spos) (mSetO i (mLC vs mi tb mt me)) := by
  obtain ⟨wi, h1, h2⟩ := hi.ex
  obtain ⟨g, g1, g2⟩ := all_g (X := X) hg (fun _ => rfl) (fun _ => rfl)
  obtain ⟨tt, t1, t2⟩ := all_t (X := X) ht (fun _ => rfl) (fun _ => rfl)
  obtain ⟨te, e1, e2⟩ := all_e (X := X) he (fun _ => rfl) (fun _ => rfl)
  refine ⟨_, ps_setLc hc hN hy hyl hsw h1 ok (fun s H C cl fp => g1 (s, H, C, cl, fp)) (fun s H C cl fp => t1 (s, H, C, cl, fp)) (fun s H C cl fp => e1 (s, H, C, cl, fp)) hs, ?_⟩
  rw [hv]
  exact SimS.setO (List.getElem?_eq_some_iff.mp hy).1 (SimF.lc h2 g2 t2 e2)
end
end QB

namespace QB
open PySem PySem.Spec PyProof.Rows L2
section
variable {X : Cx} {W : WX} {a b c e : Expr} {es rest : List Expr} {ma mb mc me : ME} {ms : MA} {pos : Pos} {te tl : TE} {x : Str} {p1 : Pos} {k kk n : Nat} {mf : List D → R D}
/-! ### a call with no argument -/
theorem ee_call0 (tk : Takes X W) (F : Ok X.prog X.w X.K X.mg X.base k x 0 mf) (hr : Room kk X.A) (hk : k ≤ kk) (hg : Gl X x := by rfl) (hdb : (x == ("__debug__" : Str)) = false := by decide) : EE X W (.Call (.Name x p1) [] [] pos) (mCallB mf mNil) := by
  obtain ⟨f, fd, ps, h1, h2, h3, h4⟩ := F.ex
  refine ⟨tCallS (PF X.K X.mg 0 mf) (WE W) tNil, ⟨fun pins s σ H Q I h => ?_⟩, ?_⟩
  · refine wpAny_Call_Name_kw (ld_glob I hg h1 ?_ hdb)
    exact PySem.W.callWith_K0 I.kIn h2 (run_fnS (us := []) h4 (hr.mono hk) h3 (passAt tk σ) I .nil h)
  · refine SimA.len (ms := mNil) (fun n Z H0 m r σ H q Q p => p [] H (Same.refl H) RepL.nil) (fun r ds e => ?_) (PF X.K X.mg 0 mf)
    cases e
    rfl
/-! ### abs, min, max -/
def dAbs : List D → R D
  | [.int i] => .ok (.int (if i < 0 then -i else i))
  | _ => .bad
def dMin : List D → R D
  | [.int i, .int j] => .ok (.int (if j < i then j else i))
  | _ => .bad
def dMax : List D → R D
  | [.int i, .int j] => .ok (.int (if j > i then j else i))
  | _ => .bad
theorem bu_abs : BuW X W (fun xs H Q => ∃ i, xs = [.int i] ∧ Q (.int (if i < 0 then -i else i)) H) dAbs := fun n Z H0 m r σ H q ds vs Q h p => by
  unfold dAbs at p
  split at p
  · obtain ⟨v, rfl, r1⟩ := h.one
    simp only [Rep] at r1
    subst r1
    exact ⟨_, rfl, p _ H (Same.refl H) (by simp [Rep])⟩
  · exact False.elim p
theorem bu_min : BuW X W (fun xs H Q => ∃ i j, xs = [.int i, .int j] ∧ Q (.int (if j < i then j else i)) H) dMin := fun n Z H0 m r σ H q ds vs Q h p => by
  unfold dMin at p
  split at p
  · obtain ⟨v, w, rfl, r1, r2⟩ := h.two
    simp only [Rep] at r1 r2
    subst r1 r2
    exact ⟨_, _, rfl, p _ H (Same.refl H) (by simp [Rep])⟩
  · exact False.elim p
theorem bu_max : BuW X W (fun xs H Q => ∃ i j, xs = [.int i, .int j] ∧ Q (.int (if j > i then j else i)) H) dMax := fun n Z H0 m r σ H q ds vs Q h p => by
  unfold dMax at p
  split at p
  · obtain ⟨v, w, rfl, r1, r2⟩ := h.two
    simp only [Rep] at r1 r2
    subst r1 r2
    exact ⟨_, _, rfl, p _ H (Same.refl H) (by simp [Rep])⟩
  · exact False.elim p
theorem ee_abs (hm : X.mg "abs" = none) (hg : Gl X "abs") (ha : EAW X W (a :: es) ms) (he : starEach (a :: es) X.env = (false, eval a X.env) :: starEach es X.env := by rfl) (hpl : (backTo pos (starEach es X.env)).any (·.1) = false := by rfl) : EE X W (.Call (.Name "abs" p1) (a :: es) [] pos) (mCallB dAbs ms) := by
  obtain ⟨ta, h1, h2⟩ := ha.ex
  exact ⟨_, pe_callB call_abs hg hm rfl h1 (by decide) (by decide) he hpl, SimE.bw h2 bu_abs⟩
theorem ee_min (hc : X.calm = true) (hm : X.mg "min" = none) (hg : Gl X "min") (ha : EAW X W (a :: es) ms) (he : starEach (a :: es) X.env = (false, eval a X.env) :: starEach es X.env := by rfl) (hpl : (backTo pos (starEach es X.env)).any (·.1) = false := by rfl) : EE X W (.Call (.Name "min" p1) (a :: es) [] pos) (mCallB dMin ms) := by
  obtain ⟨ta, h1, h2⟩ := ha.ex
  exact ⟨_, pe_callB (call_min2 hc) hg hm rfl h1 (by decide) (by decide) he hpl, SimE.bw h2 bu_min⟩
theorem ee_max (hc : X.calm = true) (hm : X.mg "max" = none) (hg : Gl X "max") (ha : EAW X W (a :: es) ms) (he : starEach (a :: es) X.env = (false, eval a X.env) :: starEach es X.env := by rfl) (hpl : (backTo pos (starEach es X.env)).any (·.1) = false := by rfl) : EE X W (.Call (.Name "max" p1) (a :: es) [] pos) (mCallB dMax ms) := by
  obtain ⟨ta, h1, h2⟩ := ha.ex
  exact ⟨_, pe_callB (call_max2 hc) hg hm rfl h1 (by decide) (by decide) he hpl, SimE.bw h2 bu_max⟩
/-! ### tuple(x), list(x) of a sequence -/
def dTupOf : List D → R D
  | [d] => (match seqD d with
    | some xs => .ok (.tup xs)
    | none => .bad)
  | _ => .bad
theorem bu_tup : BuS X W (fun xs H Q => ∃ p ys, xs = [.ref p] ∧ ((SqL X.K H p ys ∧ ∀ l, H l = none → Q (.ref l) (upd H l (.tup ys))) ∨ (SqT X.K H p ys ∧ Q (.ref p) H))) dTupOf := fun n Z H0 m r σ H q ds vs Q h p => by
  unfold dTupOf at p
  split at p
  · rename_i d
    split at p
    · rename_i xs e
      obtain ⟨v, rfl, r1⟩ := h.one
      obtain ⟨a, us, rfl, hq, t⟩ := seqD_rep r1 e
      rcases hq with hq | hq
      · refine ⟨a, us, rfl, .inl ⟨Same.seq hid_sub hq, fun l nl => p _ _ (same_upd nl) ?_⟩⟩
        simp only [Rep]
        exact ⟨l, us, rfl, .inl (.inl (q.hidNew nl)), t.mono (hid_mono (same_upd nl))⟩
      · refine ⟨a, us, rfl, .inr ⟨Same.seqT hid_sub hq, p _ H (Same.refl H) ?_⟩⟩
        simp only [Rep]
        exact ⟨a, us, rfl, hq, t⟩
    · exact False.elim p
  · exact False.elim p
theorem ee_tupc (hm : X.mg "tuple" = none) (hg : Gl X "tuple") (ha : EA X W (a :: es) ms) (he : starEach (a :: es) X.env = (false, eval a X.env) :: starEach es X.env := by rfl) (hpl : (backTo pos (starEach es X.env)).any (·.1) = false := by rfl) : EE X W (.Call (.Name "tuple" p1) (a :: es) [] pos) (mCallB dTupOf ms) := by
  obtain ⟨ta, h1, h2⟩ := ha.ex
  exact ⟨_, pe_callTy call_tuple_of hg hm boot_tuple h1 (by decide) (by decide) he hpl, SimE.bs h2 bu_tup⟩
def mLstOf (ms : MA) : MF := fun r => (ms r).bind fun ds => match ds with
  | [d] => (match seqD d with
    | some xs => .ok (.l xs)
    | none => .bad)
  | _ => .bad
theorem ef_listc (hm : X.mg "list" = none) (hg : Gl X "list") (ha : EA X W (a :: es) ms) (he : starEach (a :: es) X.env = (false, eval a X.env) :: starEach es X.env := by rfl) (hpl : (backTo pos (starEach es X.env)).any (·.1) = false := by rfl) : EF X W (.Call (.Name "list" p1) (a :: es) [] pos) (mLstOf ms) := by
  obtain ⟨ta, h1, h2⟩ := ha.ex
  refine ⟨_, pe_callTy call_list_of hg hm boot_list h1 (by decide) (by decide) he hpl, fun n Z H0 m r σ H q Q p => h2 n Z H0 m r σ H q _ (p.bind.imp fun ds k vs H1 s1 rx => ?_)⟩
  split at k
  · rename_i d
    split at k
    · rename_i xs e
      obtain ⟨v, rfl, r1⟩ := rx.one
      obtain ⟨a, us, rfl, hq, t⟩ := seqD_rep r1 e
      refine ⟨a, us, rfl, ?_, fun l nl => k l _ H1 s1 nl ⟨us, rfl, t⟩⟩
      rcases hq with hq | hq
      · exact .inl (Same.seq hid_sub hq)
      · exact .inr (Same.seqT hid_sub hq)
    · exact False.elim k
  · exact False.elim k
/-- tuple(xs), list(xs) of a slot's own list -/
def ownL (i : Nat) (r : Sc) : R (List D) := match r[i]? with
  | some (some (.own (.l xs))) => .ok xs
  | _ => .bad
def mTupO (i : Nat) : ME := fun r => (ownL i r).bind fun xs => .ok (.tup xs)
def mLstO (i : Nat) : MF := fun r => (ownL i r).bind fun xs => .ok (.l xs)
theorem ee_tupO (i : Nat) {p2 : Pos} (hm : X.mg "tuple" = none) (hg : Gl X "tuple") (hN : X.N[i]? = some x := by rfl) (hv : Vis X.env.scope x := by first | exact Or.inl rfl | exact Or.inr (Or.inl rfl) | exact Or.inr (Or.inr rfl)) (hd : (x == ("__debug__" : Str)) = false := by decide)
    (hcd : (x == ("__classdict__" : Str)) = false := by decide) (he : starEach [.Name x p2] X.env = (false, eval (.Name x p2) X.env) :: starEach [] X.env := by rfl) (hpl : (backTo pos (starEach [] X.env)).any (·.1) = false := by rfl) : EE X W (.Call (.Name "tuple" p1) [.Name x p2] [] pos) (mTupO i) := by
  refine ⟨_, pe_callTy call_tuple_of hg hm boot_tuple (pa_cons (pv i hN hv hd hcd) pa_nil he) (by decide) (by decide) he hpl, fun n Z H0 m r σ H q Q p => ?_⟩
  unfold mTupO ownL at p
  split at p
  · rename_i xs e
    obtain ⟨a, o, g1, g2, g3, g4⟩ := q.own i _ e
    obtain ⟨vs, rfl, t⟩ := g4
    refine ⟨_, g2, a, vs, rfl, .inl ⟨.inl (.inl g3), fun l nl => p _ _ (same_upd nl) ?_⟩⟩
    simp only [Rep]
    exact ⟨l, vs, rfl, .inl (.inl (q.hidNew nl)), t.mono (hid_mono (same_upd nl))⟩
  · exact False.elim p
theorem ef_listO (i : Nat) {p2 : Pos} (hm : X.mg "list" = none) (hg : Gl X "list") (hN : X.N[i]? = some x := by rfl) (hv : Vis X.env.scope x := by first | exact Or.inl rfl | exact Or.inr (Or.inl rfl) | exact Or.inr (Or.inr rfl)) (hd : (x == ("__debug__" : Str)) = false := by decide)
    (hcd : (x == ("__classdict__" : Str)) = false := by decide) (he : starEach [.Name x p2] X.env = (false, eval (.Name x p2) X.env) :: starEach [] X.env := by rfl) (hpl : (backTo pos (starEach [] X.env)).any (·.1) = false := by rfl) : EF X W (.Call (.Name "list" p1) [.Name x p2] [] pos) (mLstO i) := by
  refine ⟨_, pe_callTy call_list_of hg hm boot_list (pa_cons (pv i hN hv hd hcd) pa_nil he) (by decide) (by decide) he hpl, fun n Z H0 m r σ H q Q p => ?_⟩
  unfold mLstO ownL at p
  split at p
  · rename_i xs e
    obtain ⟨a, o, g1, g2, g3, g4⟩ := q.own i _ e
    obtain ⟨vs, rfl, t⟩ := g4
    exact ⟨_, g2, a, vs, rfl, .inl (.inl (.inl g3)), fun l nl => p l _ H (Same.refl H) nl ⟨vs, rfl, t⟩⟩
  · exact False.elim p
/-! ### xs[i] = v, xs a slot's own list -/
def mSetIx (i : Nat) (mb me : ME) : MS := fun r => toFl r (me r) fun d => match r[i]? with
  | some (some (.own (.l xs))) => toFl r (mb r) fun j => (match j with
    | .int z => (match ixN xs.length z with
      | some t => .nx (r.set i (some (.own (.l (xs.set t d)))))
      | none => .bad)
    | _ => .bad)
  | _ => .bad
theorem es_setIx (i : Nat) {p2 p3 : Pos} (he : EE X W e me) (hb : EE X W b mb) (hN : X.N[i]? = some x := by rfl) (hv : Vis X.env.scope x := by first | exact Or.inl rfl | exact Or.inr (Or.inl rfl) | exact Or.inr (Or.inr rfl)) (hd : (x == ("__debug__" : Str)) = false := by decide)
    (hcd : (x == ("__classdict__" : Str)) = false := by decide) (hs : swapsWithSole [.Subscript (.Name x p1) b p2] e p3.line X.env = pure false := by rfl) (hw : swappedStores [.Subscript (.Name x p1) b p2] e X.env = pure none := by rfl)
    (h1 : (assignEach [.Subscript (.Name x p1) b p2] X.env).map (·.2) = [assign (.Subscript (.Name x p1) b p2) X.env] := by rfl)
    (hx : ∀ v, assign (.Subscript (.Name x p1) b p2) X.env v = (do
      let ov ← holding [v] (eval (.Name x p1) X.env)
      let iv ← holding [v, ov] (eval b X.env)
      standAt p2
      holding [v, ov, iv] (setItem ov iv v)
      release [v, ov, iv] []) := by intro _; rfl) :
    ES X W (.Assign [.Subscript (.Name x p1) b p2] e p3) (mSetIx i mb me) := by
  obtain ⟨te, e1, e2⟩ := he.ex
  obtain ⟨tb, b1, b2⟩ := hb.ex
  refine ⟨_, ps_asg e1 (pg_sub (pv i hN hv hd hcd) b1 set_list hx) hs hw h1, fun n Z H0 m r σ H hn q D p => ?_⟩
  unfold mSetIx at p
  refine e2 n Z H0 m r σ H q _ ((toFl_post q p).imp fun d k v H1 s1 rv => ?_)
  have q1 := q.grow s1
  have k1 := PostS.grow k (hid_mono s1)
  split at k1
  · rename_i xs e
    obtain ⟨a, o, g1, g2, g3, g4⟩ := q1.own i _ e
    obtain ⟨vs, rfl, tt⟩ := g4
    refine ⟨_, g2, b2 n Z H0 m r σ H1 q1 _ ((toFl_post q1 k1).imp fun j k2 y H2 s2 ry => ?_)⟩
    have q2 := q1.grow s2
    have k3 := PostS.grow k2 (hid_mono s2)
    split at k3
    · rename_i z
      split at k3
      · rename_i t et
        simp only [Rep] at ry
        refine ⟨a, vs, z, t, rfl, ry, s2 _ _ g3, by rw [tt.length]; exact et, ?_⟩
        have hc : CellOk X.K X.mg (hid Z m H2) (.lst (vs.set t v)) (.l (xs.set t d)) := ⟨_, rfl, RepL.set t (tt.mono (hid_mono s2)) (rv.mono (hid_mono s2))⟩
        refine k3 m σ _ (q2.chg e g1 hc) ?_
        rw [hid_upd g1]
        exact Same.refl _
      · exact False.elim k3
    · exact False.elim k3
  · exact False.elim k1
end
end QB

namespace QB
open PySem PySem.Spec PyProof.Rows L2
/-- a slot's own thing becomes a plain value behind a block -/
theorem eb_end {X : Cx} {W : WX} {sts : List Stmt} {ms : MS} (i : Nat) (h : EB X W sts ms) : EB X W sts (mSeq ms (mFrz i mNx)) := by
  obtain ⟨ts, h1, h2⟩ := h.ex
  refine ⟨ts, h1, fun n Z H0 m r σ H hn q D p => h2 n Z H0 m r σ H hn q D ?_⟩
  unfold mSeq at p
  cases e : ms r with
  | nx r' =>
    rw [e] at p
    intro m' σ' H' q' s
    simp only [mFrz] at p
    split at p
    · rename_i c ei
      exact p _ σ' H' (q'.frz ei) (s.trans same_drp)
    · exact False.elim p
  | bk r' =>
    rw [e] at p
    exact p
  | ct r' =>
    rw [e] at p
    exact p
  | rt d =>
    rw [e] at p
    exact p
  | rc d =>
    rw [e] at p
    exact p
  | ex c ns xs r' =>
    rw [e] at p
    exact p
  | bad =>
    rw [e] at p
    exact p
section
variable {X : Cx} {W : WX} {a b c e : Expr} {es rest : List Expr} {ma mb mc me : ME} {ms : MA} {pos : Pos} {te tl : TE} {x : Str} {p1 : Pos}
/-! ### a module's tuple of plain values -/
def flatsD : List D → Option (List V)
  | [] => some []
  | d :: ds => match flatD d, flatsD ds with
    | some v, some vs => some (v :: vs)
    | _, _ => none
theorem flats_rep {K : PySem.W.Frag} {mg : Str → Option Value} {G : Hp} : ∀ {ds : List D} {us vs : List V}, flatsD ds = some us → RepL K mg G ds vs → vs = us
  | [], us, vs, h, r => by
    simp only [flatsD, Option.some.injEq] at h
    simp only [RepL] at r
    rw [r, ← h]
  | d :: ds, us, vs, h, r => by
    simp only [RepL] at r
    obtain ⟨v, ws, rfl, rv, rs⟩ := r
    simp only [flatsD] at h
    cases e1 : flatD d with
    | none => simp [e1] at h
    | some w =>
      cases e2 : flatsD ds with
      | none => simp [e1, e2] at h
      | some w2 =>
        simp only [e1, e2, Option.some.injEq] at h
        rw [← h, flatD_rep e1 rv, flats_rep e2 rs]
theorem flat_is {v : V} {d : D} (h : flatD d = some v) : flatV v = true := by
  cases d <;> simp only [flatD, Option.some.injEq, reduceCtorEq] at h <;> subst h <;> rfl
theorem flats_are : ∀ {ds : List D} {vs : List V}, flatsD ds = some vs → vs.all flatV = true
  | [], vs, h => by
    simp only [flatsD, Option.some.injEq] at h
    subst h
    rfl
  | d :: ds, vs, h => by
    simp only [flatsD] at h
    cases e1 : flatD d with
    | none => simp [e1] at h
    | some w =>
      cases e2 : flatsD ds with
      | none => simp [e1, e2] at h
      | some w2 =>
        simp only [e1, e2, Option.some.injEq] at h
        subst h
        simp only [List.all_cons, flat_is e1, flats_are e2, Bool.and_self]
theorem flat_mk {K : PySem.W.Frag} {mg : Str → Option Value} {G : Hp} {d : D} {v : V} (h : flatD d = some v) : Rep K mg G d v := by
  cases d <;> simp only [flatD, Option.some.injEq, reduceCtorEq] at h <;> subst h <;> simp [Rep]
theorem flats_mk {K : PySem.W.Frag} {mg : Str → Option Value} {G : Hp} : ∀ {ds : List D} {vs : List V}, flatsD ds = some vs → RepL K mg G ds vs
  | [], vs, h => by
    simp only [flatsD, Option.some.injEq] at h
    subst h
    exact RepL.nil
  | d :: ds, vs, h => by
    simp only [flatsD] at h
    cases e1 : flatD d with
    | none => simp [e1] at h
    | some w =>
      cases e2 : flatsD ds with
      | none => simp [e1, e2] at h
      | some w2 =>
        simp only [e1, e2, Option.some.injEq] at h
        subst h
        exact RepL.cons (flat_mk e1) (flats_mk e2)
/-- the fact that the top keeps of such a tuple -/
def TupC (K : PySem.W.Frag) (mg : Str → Option Value) (x : Str) (vs : List V) : Prop := ∃ (a : Addr) (o : Obj) (its : Array Value) (n : Nat), mg x = some (.ref a) ∧ K.lookup a = some o ∧ o.cls = .type "tuple" ∧ o.data = .seq its n ∧ its.size ≤ sizeLine ∧ Vals vs its.toList
theorem ee_globT {ds : List D} {vs : List V} (h : TupC X.K X.mg x vs) (hf : flatsD ds = some vs) (hg : Gl X x := by rfl) (hdb : (x == ("__debug__" : Str)) = false := by decide) : EE X W (.Name x pos) (mC (.tup ds)) := by
  obtain ⟨a, o, its, n, h1, h2, h3, h4, h5, h6⟩ := h
  refine ee_glob (v := .ref a) hg h1 rfl (fun G => ?_) hdb
  simp only [Rep]
  exact ⟨a, vs, rfl, .inr ⟨o, its, n, h2, h3, h4, h5, h6⟩, flats_mk hf⟩
/-! ### in, not in -/
def inS (i j : Str) : Bool := !(Builtin.Str.occurrences j i 0 j.length 1).isEmpty
def dInB (a b : D) : R Bool := match a, b with
  | .str i, .str j => .ok (inS i j)
  | a, b => (match flatD a, seqD b with
    | some x, some ds => (match flatsD ds with
      | some vs => .ok (inV x vs)
      | none => .bad)
    | _, _ => .bad)
def dIn (a b : D) : R D := (dInB a b).bind fun c => .ok (.bl c)
def dNotIn (a b : D) : R D := (dInB a b).bind fun c => .ok (.bl (!c))
def rInS (K : PySem.W.Frag) : R2 := fun x y H Q => (∃ i j, x = .str i ∧ y = .str j ∧ Q (.bl (!(Builtin.Str.occurrences j i 0 j.length 1).isEmpty)) H) ∨ rIn K false x y H Q
def rNotInS (K : PySem.W.Frag) : R2 := fun x y H Q => (∃ i j, x = .str i ∧ y = .str j ∧ Q (.bl (!(!(Builtin.Str.occurrences j i 0 j.length 1).isEmpty))) H) ∨ rIn K true x y H Q
theorem or_in : OpR X (compareOp .In) (rInS X.K) := OpR.or op_in_str op_in_seq
theorem or_notIn : OpR X (compareOp .NotIn) (rNotInS X.K) := OpR.or op_notIn_str op_notIn_seq
theorem dInB_cases {K : PySem.W.Frag} {mg : Str → Option Value} {G H : Hp} {a b : D} {x y : V} (s : Same G H) (ha : Rep K mg G a x) (hb : Rep K mg G b y) : (∃ c, dInB a b = .ok c ∧ ((∃ i j, x = .str i ∧ y = .str j ∧ c = inS i j) ∨ ∃ p xs, y = .ref p ∧ (SqL K H p xs ∨ SqT K H p xs) ∧ flatV x = true ∧ xs.all flatV = true ∧ c = inV x xs)) ∨ dInB a b = .bad := by
  have gen : ∀ b : D, Rep K mg G b y → (∃ c, (match flatD a, seqD b with
    | some x, some ds => (match flatsD ds with
      | some vs => R.ok (inV x vs)
      | none => .bad)
    | _, _ => .bad) = .ok c ∧ ∃ p xs, y = .ref p ∧ (SqL K H p xs ∨ SqT K H p xs) ∧ flatV x = true ∧ xs.all flatV = true ∧ c = inV x xs) ∨ (match flatD a, seqD b with
    | some x, some ds => (match flatsD ds with
      | some vs => R.ok (inV x vs)
      | none => .bad)
    | _, _ => .bad) = .bad := by
    intro b hb
    cases e1 : flatD a with
    | none => exact .inr rfl
    | some u =>
      cases e2 : seqD b with
      | none => exact .inr rfl
      | some ds =>
        simp only
        cases e3 : flatsD ds with
        | none => exact .inr rfl
        | some us =>
          obtain ⟨p, vs, rfl, hq, t⟩ := seqD_rep hb e2
          have h1 := flatD_rep e1 ha
          have h2 := flats_rep e3 t
          subst h1 h2
          refine .inl ⟨_, rfl, p, vs, rfl, ?_, flat_is e1, flats_are e3, rfl⟩
          rcases hq with hq | hq
          · exact .inl (Same.seq s hq)
          · exact .inr (Same.seqT s hq)
  by_cases hs : (∃ i, a = .str i) ∧ ∃ j, b = .str j
  · obtain ⟨⟨i, rfl⟩, j, rfl⟩ := hs
    simp only [Rep] at ha hb
    exact .inl ⟨_, rfl, .inl ⟨i, j, ha, hb, rfl⟩⟩
  · have e : dInB a b = (match flatD a, seqD b with
    | some x, some ds => (match flatsD ds with
      | some vs => R.ok (inV x vs)
      | none => .bad)
    | _, _ => .bad) := by
      cases a <;> cases b <;> first | rfl | exact absurd ⟨⟨_, rfl⟩, _, rfl⟩ hs
    rw [e]
    rcases gen b hb with ⟨c, h1, h2⟩ | h
    · exact .inl ⟨c, h1, .inr h2⟩
    · exact .inr h
theorem opw_in : OpW X W (rInS X.K) dIn := fun n Z H0 m r σ H q a b x y Q ha hb p => by
  unfold dIn at p
  rcases dInB_cases (G := hid Z nom H) (H := H) hid_sub ha hb with ⟨c, e, h⟩ | e
  · rw [e] at p
    have k := p (.bl c) H (Same.refl H) (by simp [Rep])
    rcases h with ⟨i, j, h1, h2, h3⟩ | ⟨p1, xs, h1, h2, h3, h4, h5⟩
    · exact .inl ⟨i, j, h1, h2, by rw [h3] at k; exact k⟩
    · exact .inr ⟨p1, xs, h1, h2, h3, h4, by rw [h5] at k; exact k⟩
  · rw [e] at p
    exact False.elim p
theorem opw_notIn : OpW X W (rNotInS X.K) dNotIn := fun n Z H0 m r σ H q a b x y Q ha hb p => by
  unfold dNotIn at p
  rcases dInB_cases (G := hid Z nom H) (H := H) hid_sub ha hb with ⟨c, e, h⟩ | e
  · rw [e] at p
    have k := p (.bl (!c)) H (Same.refl H) (by simp [Rep])
    rcases h with ⟨i, j, h1, h2, h3⟩ | ⟨p1, xs, h1, h2, h3, h4, h5⟩
    · exact .inl ⟨i, j, h1, h2, by rw [h3] at k; exact k⟩
    · exact .inr ⟨p1, xs, h1, h2, h3, h4, by rw [h5] at k; exact k⟩
  · rw [e] at p
    exact False.elim p
/-! ### all, any of a list of truths -/
def blsD : List D → Option (List Bool)
  | [] => some []
  | .bl b :: ds => (blsD ds).map (b :: ·)
  | _ :: _ => none
theorem bls_rep {K : PySem.W.Frag} {mg : Str → Option Value} {G : Hp} : ∀ {ds : List D} {bs : List Bool} {vs : List V}, blsD ds = some bs → RepL K mg G ds vs → vs = bs.map V.bl
  | [], bs, vs, h, r => by
    simp only [blsD, Option.some.injEq] at h
    simp only [RepL] at r
    subst h r
    rfl
  | d :: ds, bs, vs, h, r => by
    simp only [RepL] at r
    obtain ⟨v, ws, rfl, rv, rs⟩ := r
    cases d <;> simp only [blsD, reduceCtorEq] at h
    rename_i b
    cases e2 : blsD ds with
    | none => simp [e2] at h
    | some w2 =>
      simp only [e2, Option.map_some, Option.some.injEq] at h
      subst h
      simp only [Rep] at rv
      rw [rv, bls_rep e2 rs, List.map_cons]
def lstD : D → Option (List D)
  | .lst xs => some xs
  | .slst xs => some xs
  | _ => none
def dAll : List D → R D
  | [d] => (match lstD d with
    | some xs => (match blsD xs with
      | some bs => .ok (.bl (bs.all id))
      | none => .bad)
    | none => .bad)
  | _ => .bad
def dAny : List D → R D
  | [d] => (match lstD d with
    | some xs => (match blsD xs with
      | some bs => .ok (.bl (bs.any id))
      | none => .bad)
    | none => .bad)
  | _ => .bad
theorem lstD_rep {K : PySem.W.Frag} {mg : Str → Option Value} {G : Hp} {d : D} {v : V} {xs : List D} (r : Rep K mg G d v) (h : lstD d = some xs) : ∃ a vs, v = .ref a ∧ SqL K G a vs ∧ RepL K mg G xs vs := by
  cases d <;> simp only [lstD, Option.some.injEq, reduceCtorEq] at h <;> subst h <;> simp only [Rep] at r
  · obtain ⟨a, vs, rfl, h1, t⟩ := r
    exact ⟨a, vs, rfl, .inl (.inl h1), t⟩
  · obtain ⟨a, vs, rfl, h1, t⟩ := r
    exact ⟨a, vs, rfl, h1, t⟩
theorem bu_all : BuW X W (rAll X.K) dAll := fun n Z H0 m r σ H q ds vs Q h p => by
  unfold dAll at p
  split at p
  · split at p
    · split at p
      · rename_i d _ xs e1 _ bs e2
        obtain ⟨v, rfl, r1⟩ := h.one
        obtain ⟨a, us, rfl, hq, t⟩ := lstD_rep r1 e1
        have := bls_rep e2 t
        subst this
        exact ⟨a, bs, rfl, Same.seq hid_sub hq, p _ H (Same.refl H) (by simp [Rep])⟩
      · exact False.elim p
    · exact False.elim p
  · exact False.elim p
theorem bu_any : BuW X W (rAny X.K) dAny := fun n Z H0 m r σ H q ds vs Q h p => by
  unfold dAny at p
  split at p
  · split at p
    · split at p
      · rename_i d _ xs e1 _ bs e2
        obtain ⟨v, rfl, r1⟩ := h.one
        obtain ⟨a, us, rfl, hq, t⟩ := lstD_rep r1 e1
        have := bls_rep e2 t
        subst this
        exact ⟨a, bs, rfl, Same.seq hid_sub hq, p _ H (Same.refl H) (by simp [Rep])⟩
      · exact False.elim p
    · exact False.elim p
  · exact False.elim p
theorem ee_all (hc : X.calm = true) (hm : X.mg "all" = none) (hg : Gl X "all") (ha : EAW X W (a :: es) ms) (he : starEach (a :: es) X.env = (false, eval a X.env) :: starEach es X.env := by rfl) (hpl : (backTo pos (starEach es X.env)).any (·.1) = false := by rfl) : EE X W (.Call (.Name "all" p1) (a :: es) [] pos) (mCallB dAll ms) := by
  obtain ⟨ta, h1, h2⟩ := ha.ex
  exact ⟨_, pe_callB (cr_all hc) hg hm rfl h1 (by decide) (by decide) he hpl, SimE.bw h2 bu_all⟩
theorem ee_any (hc : X.calm = true) (hm : X.mg "any" = none) (hg : Gl X "any") (ha : EAW X W (a :: es) ms) (he : starEach (a :: es) X.env = (false, eval a X.env) :: starEach es X.env := by rfl) (hpl : (backTo pos (starEach es X.env)).any (·.1) = false := by rfl) : EE X W (.Call (.Name "any" p1) (a :: es) [] pos) (mCallB dAny ms) := by
  obtain ⟨ta, h1, h2⟩ := ha.ex
  exact ⟨_, pe_callB (cr_any hc) hg hm rfl h1 (by decide) (by decide) he hpl, SimE.bw h2 bu_any⟩
/-! ### str(x) -/
def dStr : List D → R D
  | [.int i] => if i.natAbs.log2 < 1920 then .ok (.str (toString i)) else .bad
  | [.str z] => .ok (.str z)
  | _ => .bad
theorem bu_str : BuW X W (fun xs H Q => (∃ i, xs = [.int i] ∧ i.natAbs.log2 < 1920 ∧ Q (.str (toString i)) H) ∨ ∃ a, xs = [.str a] ∧ Q (.str a) H) dStr := fun n Z H0 m r σ H q ds vs Q h p => by
  unfold dStr at p
  split at p
  · split at p
    · obtain ⟨v, rfl, r1⟩ := h.one
      simp only [Rep] at r1
      subst r1
      exact .inl ⟨_, rfl, ‹_›, p _ H (Same.refl H) (by simp [Rep])⟩
    · exact False.elim p
  · obtain ⟨v, rfl, r1⟩ := h.one
    simp only [Rep] at r1
    subst r1
    exact .inr ⟨_, rfl, p _ H (Same.refl H) (by simp [Rep])⟩
  · exact False.elim p
theorem ee_strc (hm : X.mg "str" = none) (hg : Gl X "str") (ha : EAW X W (a :: es) ms) (he : starEach (a :: es) X.env = (false, eval a X.env) :: starEach es X.env := by rfl) (hpl : (backTo pos (starEach es X.env)).any (·.1) = false := by rfl) : EE X W (.Call (.Name "str" p1) (a :: es) [] pos) (mCallB dStr ms) := by
  obtain ⟨ta, h1, h2⟩ := ha.ex
  exact ⟨_, pe_callTy (CallR.or call_str_int SkE.call_str_str) hg hm boot_str h1 (by decide) (by decide) he hpl, SimE.bw h2 bu_str⟩
/-! ### sep.join(texts) -/
def strsD : List D → Option (List Str)
  | [] => some []
  | .str b :: ds => (strsD ds).map (b :: ·)
  | _ :: _ => none
theorem strs_rep {K : PySem.W.Frag} {mg : Str → Option Value} {G : Hp} : ∀ {ds : List D} {bs : List Str} {vs : List V}, strsD ds = some bs → RepL K mg G ds vs → vs = bs.map V.str
  | [], bs, vs, h, r => by
    simp only [strsD, Option.some.injEq] at h
    simp only [RepL] at r
    subst h r
    rfl
  | d :: ds, bs, vs, h, r => by
    simp only [RepL] at r
    obtain ⟨v, ws, rfl, rv, rs⟩ := r
    cases d <;> simp only [strsD, reduceCtorEq] at h
    rename_i b
    cases e2 : strsD ds with
    | none => simp [e2] at h
    | some w2 =>
      simp only [e2, Option.map_some, Option.some.injEq] at h
      subst h
      simp only [Rep] at rv
      rw [rv, strs_rep e2 rs, List.map_cons]
def dJoin (z : Str) (b : D) : R D := match seqD b with
  | some xs => (match strsD xs with
    | some ys => if (ys.map (·.length)).sum + ys.length * z.length ≤ 16777216 then .ok (.str (Txt.join z ys)) else .bad
    | none => .bad)
  | none => .bad
def mJoin (ma mb : ME) : ME := fun r => (ma r).bind fun d => match d with
  | .str z => (mb r).bind (dJoin z)
  | _ => .bad
theorem ee_join {apos : Pos} {o : Expr} (ho : EE X W o ma) (hb : EW X W e mb) (hs : starEach [e] X.env = [(false, eval e X.env)] := by rfl) (hbase : attributeBase o "join" X.env (eval o X.env) = eval o X.env := by rfl) (hline : (apos.endLine == pos.line) = true := by rfl) :
    EE X W (.Call (.Attribute o "join" apos) [e] [] pos) (mJoin ma mb) := by
  obtain ⟨ta, h1, h2⟩ := ho.ex
  obtain ⟨tb, h3, h4⟩ := hb.ex
  refine ⟨_, pe_join h1 h3 hs hbase hline, fun n Z H0 m r σ H q Q p => ?_⟩
  unfold mJoin at p
  refine h2 n Z H0 m r σ H q _ (p.bind.imp fun d k v H1 s1 rv => ?_)
  have q1 := q.grow s1
  cases d with
  | str z =>
    simp only [Rep] at rv
    subst rv
    refine ⟨⟨z, rfl⟩, h4 n Z H0 m r σ H1 q1 _ ((k.grow s1).bind.imp fun d2 k2 w H2 s2 rw2 => ?_)⟩
    unfold dJoin at k2
    cases e1 : seqD d2 with
    | none =>
      simp only [e1] at k2
      exact False.elim k2
    | some xs =>
      simp only [e1] at k2
      cases e2 : strsD xs with
      | none =>
        simp only [e2] at k2
        exact False.elim k2
      | some ys =>
        simp only [e2] at k2
        split at k2
        · obtain ⟨a1, us, rfl, hq, t⟩ := seqD_rep rw2 e1
          have := strs_rep e2 t
          subst this
          refine ⟨z, a1, ys, rfl, rfl, ?_, ‹_›, k2 _ H2 (s1.trans s2) (by simp [Rep])⟩
          rcases hq with hq | hq
          · exact .inl (Same.seq hid_sub hq)
          · exact .inr (Same.seqT hid_sub hq)
        · exact False.elim k2
  | _ => exact False.elim k
/-! ### a text some times -/
def timesS (z : Str) (k : Int) : Str := if k < 1 then Str.empty else if (k == 1 || z.length == 0) = true then z else ⟨(List.replicate k.toNat z.cps).foldl (· ++ ·) #[]⟩
def rTimes : R2 := fun x y H Q => ∃ z k, x = .str z ∧ y = .int k ∧ -1000000000 < k ∧ k < 1000000000 ∧ z.length * k.toNat ≤ 16777216 ∧ (timesS z k).length ≤ 16777216 ∧ Q (.str (timesS z k)) H
theorem op_times : OpR X (binaryOp .Mult) rTimes := by
  intro pins s σ H x y v u Q I rx ry h
  obtain ⟨z, k, rfl, rfl, h1, h2, hz, hl, q⟩ := h
  obtain ⟨t, rfl⟩ := rx
  obtain ⟨t', rfl⟩ := ry
  have hs := sizeLine_eq
  refine PySem.P.mul_str ?_ (fun g1 g2 => ?_) (fun g1 g2 => ?_) ?_
  · rw [decide_eq_false (by omega), decide_eq_false (by omega)]
    rfl
  · intro g3
    have : (z.length : Int) * k ≤ 16777216 := by
      have e : (k.toNat : Int) = k := by omega
      have : ((z.length * k.toNat : Nat) : Int) ≤ 16777216 := Int.ofNat_le.mpr hz
      rw [Int.natCast_mul, e] at this
      exact this
    have g4 : (2 ^ 63 - 1) / k < (z.length : Int) := g3
    rw [Int.ediv_lt_iff_lt_mul (by omega)] at g4
    omega
  · show decide (z.length * k.toNat > sizeLine) = false
    exact decide_eq_false (by rw [hs]; omega)
  · unfold timesS at q hl
    split
    · rename_i g
      rw [if_pos g] at q
      exact ⟨by decide, ⟨.str _, H, I.tok _, ⟨_, rfl⟩, q⟩⟩
    · rename_i g
      rw [if_neg g] at q hl
      split
      · rename_i g2
        rw [if_pos g2] at q
        exact ⟨.str _, H, I, ⟨_, rfl⟩, q⟩
      · rename_i g2
        rw [if_neg g2] at q hl
        exact ⟨by rw [hs]; exact hl, ⟨.str _, H, I.tok _, ⟨_, rfl⟩, q⟩⟩
def dTimes : D → D → R D
  | .str z, .int k => if -1000000000 < k ∧ k < 1000000000 ∧ z.length * k.toNat ≤ 16777216 ∧ (timesS z k).length ≤ 16777216 then .ok (.str (timesS z k)) else .bad
  | _, _ => .bad
theorem ops_times : OpS X W rTimes dTimes := fun n Z H0 m r σ H q a b x y Q ha hb p => by
  cases a <;> cases b <;> try exact False.elim p
  simp only [Rep] at ha hb
  subst ha hb
  simp only [dTimes] at p
  split at p
  · rename_i h
    exact ⟨_, _, rfl, rfl, h.1, h.2.1, h.2.2.1, h.2.2.2, p _ H (Same.refl H) (by simp only [Rep])⟩
  · exact False.elim p
theorem ee_times (ha : EE X W a ma) (hb : EE X W b mb) : EE X W (.BinOp a .Mult b pos) (mBin dTimes ma mb) := by
  obtain ⟨ta, h1, h2⟩ := ha.ex
  obtain ⟨tb, h3, h4⟩ := hb.ex
  exact ⟨_, pe_op op_times h1 h3, h2.op h4 ops_times⟩
end
end QB

namespace QB
open PySem PySem.Spec PyProof.Rows L2
/-! ### a def that gives a thing of its own -/
def PostFF (K : PySem.W.Frag) (mg : Str → Option Value) (Z : Addr → Prop) (H : Hp) (x : R Cell) (Q : VK) (E : XK) : Prop := match x with
  | .ok c => ∀ (p : Addr) (o : HO) (H' : Hp), Same H H' → H' p = none → CellOk K mg (hid Z nom H') o c → Q (.ref p) (upd H' p o)
  | .exc c ns xs => ∀ (C : Addr) (d : Option Addr) (H' : Hp), Same H H' → ExcAt K mg (hid Z nom H') c ns xs C d → E (.ref C) d H'
  | .bad => False
def PFF (K : PySem.W.Frag) (mg : Str → Option Value) (n : Nat) (mf : List D → R Cell) : Sp := fun vs H Q E => vs.length = n ∧ ∃ (ds : List D) (Z : Addr → Prop), (∀ b, Z b → H b ≠ none) ∧ RepL K mg (hid Z nom H) ds vs ∧ PostFF K mg Z H (mf ds) Q E
section
variable {X : Cx} {W : WX} {a b c e : Expr} {es rest : List Expr} {ma mb mc me : ME} {ms : MA} {pos : Pos} {k kk n : Nat} {x : Str} {p1 : Pos} {mf : List D → R Cell} {mF : MF}
theorem pf_strongF {m : Nat → Option Addr} {r : Sc} {σ : L2.St} {H0 H : Hp} {Z : Addr → Prop} {nn : Nat} (q : Rel X.K X.mg nn Z H0 m r σ H) {ds : List D} {vs : List V} {Q : VK} (hl : vs.length = n) (h : RepL X.K X.mg (hid Z m H) ds vs)
    (p : PostG X.K X.mg Z m W σ H (mf ds) (fun c => ∀ (p : Addr) (o : HO) (H' : Hp), Same H H' → H' p = none → CellOk X.K X.mg (hid Z m H') o c → Q (.ref p) (upd H' p o))) : PFF X.K X.mg n mf vs H Q (WE W σ) := by
  refine ⟨hl, ds, fun b => Z b ∨ ∃ i, m i = some b, q.zed', by rw [hid_join]; exact h, ?_⟩
  cases e : mf ds with
  | ok d =>
    rw [e] at p
    intro v o H' s nv t
    rw [hid_join] at t
    exact p v o H' s nv t
  | exc cc ns xs =>
    rw [e] at p
    intro C d H' s t
    rw [hid_join] at t
    exact p C d H' s t
  | bad =>
    rw [e] at p
    exact p
def mCallF (f : List D → R Cell) (ms : MA) : MF := fun r => (ms r).bind f
theorem SimA.lenF {t : TA} (ha : SimA X W t ms) (hl : ∀ r ds, ms r = .ok ds → ds.length = n) : SimF X W (tCallS (PFF X.K X.mg n mf) (WE W) t) (mCallF mf ms) := fun nn Z H0 m r σ H q Q p => by
  unfold mCallF at p
  have p' := p.bind
  cases e : ms r with
  | ok ds =>
    refine ha nn Z H0 m r σ H q _ ?_
    rw [e] at p' ⊢
    intro vs H1 s1 rx
    have p2 : PostG X.K X.mg Z m W σ H (mf ds) (fun c => ∀ (p : Addr) (o : HO) (H' : Hp), Same H H' → H' p = none → CellOk X.K X.mg (hid Z m H') o c → Q (.ref p) (upd H' p o)) := p'
    exact pf_strongF (q.grow s1) (by rw [rx.length, hl r ds e]) rx ((p2.grow s1).imp fun d k3 v o H' s3 nv rv => k3 v o H' (s1.trans s3) nv rv)
  | exc cc ns xs =>
    refine ha nn Z H0 m r σ H q _ ?_
    rw [e] at p' ⊢
    exact p'
  | bad =>
    rw [e] at p'
    exact False.elim p'
structure OkF (P : Program) (w : World) (K : PySem.W.Frag) (mg : Str → Option Value) (base : Heap) (k : Nat) (x : Str) (n : Nat) (mf : List D → R Cell) : Prop where
  ex : ∃ (f : Addr) (fd : FuncData) (ps : List Str), mg x = some (.ref f) ∧ PySem.W.keepIn K (.ref f) = true ∧ Binds K fd ps [] ∧ FnOk P w K mg base (L2.CX P w) k f fd ps (PFF K mg n mf)
theorem ef_callO (tk : Takes X W) (F : OkF X.prog X.w X.K X.mg X.base k x n mf) (hr : Room kk X.A) (hk : k ≤ kk) (ha : EA X W (a :: es) ms) (hl : ALen ms n) (hg : Gl X x := by rfl) (hdb : (x == ("__debug__" : Str)) = false := by decide)
    (he : starEach (a :: es) X.env = (false, eval a X.env) :: starEach es X.env := by rfl) (hpl : (backTo pos (starEach es X.env)).any (·.1) = false := by rfl) : EF X W (.Call (.Name x p1) (a :: es) [] pos) (mCallF mf ms) := by
  obtain ⟨f, fd, ps, h1, h2, h3, h4⟩ := F.ex
  obtain ⟨t, g1, g2⟩ := ha.ex
  exact ⟨_, pe_callS h4 (hr.mono hk) hg h1 h2 h3 (fun σ => passAt tk σ) g1 hdb he hpl, g2.lenF hl⟩
theorem ef_call0 (tk : Takes X W) (F : OkF X.prog X.w X.K X.mg X.base k x 0 mf) (hr : Room kk X.A) (hk : k ≤ kk) (hg : Gl X x := by rfl) (hdb : (x == ("__debug__" : Str)) = false := by decide) : EF X W (.Call (.Name x p1) [] [] pos) (mCallF mf mNil) := by
  obtain ⟨f, fd, ps, h1, h2, h3, h4⟩ := F.ex
  refine ⟨tCallS (PFF X.K X.mg 0 mf) (WE W) tNil, ⟨fun pins s σ H Q I h => ?_⟩, ?_⟩
  · refine wpAny_Call_Name_kw (ld_glob I hg h1 ?_ hdb)
    exact PySem.W.callWith_K0 I.kIn h2 (run_fnS (us := []) h4 (hr.mono hk) h3 (passAt tk σ) I .nil h)
  · refine SimA.lenF (ms := mNil) (fun n Z H0 m r σ H q Q p => p [] H (Same.refl H) RepL.nil) (fun r ds e => ?_)
    cases e
    rfl
/-! what it returns -/
def mRetF (mf : MF) : MS := fun r => toFl r (mf r) fun c => .rc c
theorem es_retF (he : EF X W e mF) : ES X W (.Return (some e) pos) (mRetF mF) := by
  obtain ⟨t, h1, h2⟩ := he.ex
  refine ⟨_, ps_ret h1, fun n Z H0 m r σ H hn q D p => h2 n Z H0 m r σ H q _ ((toFl_post q p).imp fun d k v o H' s nv rv => ?_)⟩
  exact k v o H' (q.same.trans s) nv (rv.mono hid_nom)
def mRetO (i : Nat) : MS := fun r => match r[i]? with
  | some (some (.own c)) => .rc c
  | _ => .bad
theorem es_retO (i : Nat) (hN : X.N[i]? = some x := by rfl) (hv : Vis X.env.scope x := by first | exact Or.inl rfl | exact Or.inr (Or.inl rfl) | exact Or.inr (Or.inr rfl)) (hd : (x == ("__debug__" : Str)) = false := by decide)
    (hcd : (x == ("__classdict__" : Str)) = false := by decide) : ES X W (.Return (some (.Name x p1)) pos) (mRetO i) := by
  refine ⟨_, ps_ret (pv i hN hv hd hcd), fun n Z H0 m r σ H hn q D p => ?_⟩
  unfold mRetO at p
  split at p
  · rename_i c e
    obtain ⟨a, o, g1, g2, g3, g4⟩ := q.own i _ e
    refine ⟨_, g2, ?_⟩
    have z0 := (q.frs i a g1).1
    have hs : Same H0 (fun b => if b = a then none else H b) := fun b o' h => by
      show (if b = a then none else H b) = some o'
      rw [if_neg]
      · exact q.same b o' h
      · intro z
        rw [z, z0] at h
        cases h
    have key := p a o (fun b => if b = a then none else H b) hs (by simp) (g4.mono fun b o' h => by
      obtain ⟨e1, e2, e3⟩ := of_hid h
      refine hid_of (?_ : (if b = a then none else H b) = some o') e2 (fun _ z => by cases z)
      rw [if_neg fun z => e3 i (by rw [z]; exact g1)]
      exact e1)
    have eu : upd (fun b => if b = a then none else H b) a o = H := by
      funext b
      unfold upd
      by_cases eb : b = a
      · rw [if_pos eb, eb]
        exact g3.symm
      · rw [if_neg eb]
        exact if_neg eb
    rw [eu] at key
    exact key
  · exact False.elim p
def mDefF (n : Nat) (ms : MS) : List D → R Cell := fun ds => match ms (mStart n ds) with
  | .rc c => .ok c
  | .ex c ns xs _ => .exc c ns xs
  | _ => .bad
/-! a + b of lists, as a new list -/
def mCatF (ma mb : ME) : MF := fun r => (ma r).bind fun x => (mb r).bind fun y => match x, y with
  | .lst xs, .lst ys => if xs.length + ys.length ≤ sizeLine then .ok (.l (xs ++ ys)) else .bad
  | _, _ => .bad
theorem ef_cat (ha : EE X W a ma) (hb : EE X W b mb) : EF X W (.BinOp a .Add b pos) (mCatF ma mb) := by
  obtain ⟨ta, h1, h2⟩ := ha.ex
  obtain ⟨tb, h3, h4⟩ := hb.ex
  refine ⟨_, pe_op op_cat h1 h3, fun n Z H0 m r σ H q Q p => ?_⟩
  unfold mCatF at p
  refine h2 n Z H0 m r σ H q _ (p.bind.imp fun d k v H1 s1 rv => ?_)
  refine h4 n Z H0 m r σ H1 (q.grow s1) _ ((k.grow s1).bind.imp fun d2 k2 w H2 s2 rw2 => ?_)
  have rv2 := rv.mono (hid_mono s2)
  split at k2
  · simp only [Rep] at rv2 rw2
    obtain ⟨a1, vs, rfl, hq, t⟩ := rv2
    obtain ⟨a2, us, rfl, hq2, t2⟩ := rw2
    split at k2
    · refine ⟨a1, a2, vs, us, rfl, rfl, hid_sub _ _ hq, hid_sub _ _ hq2, by rw [t.length, t2.length]; assumption, fun p np => ?_⟩
      exact k2 p _ H2 (s1.trans s2) np ⟨_, rfl, t.append t2⟩
    · exact False.elim k2
  · exact False.elim k2
/-! xs * k, xs[a:b] as new lists -/
def mRepF (ma mb : ME) : MF := fun r => (ma r).bind fun x => (mb r).bind fun y => match x, y with
  | .lst xs, .int k => if k < 9223372036854775808 ∧ -9223372036854775808 ≤ k ∧ xs.length * k.toNat ≤ sizeLine then .ok (.l (List.replicate k.toNat xs).flatten) else .bad
  | _, _ => .bad
theorem ef_rep (ha : EE X W a ma) (hb : EE X W b mb) : EF X W (.BinOp a .Mult b pos) (mRepF ma mb) := by
  obtain ⟨ta, h1, h2⟩ := ha.ex
  obtain ⟨tb, h3, h4⟩ := hb.ex
  refine ⟨_, pe_op op_rep h1 h3, fun n Z H0 m r σ H q Q p => ?_⟩
  unfold mRepF at p
  refine h2 n Z H0 m r σ H q _ (p.bind.imp fun d k v H1 s1 rv => ?_)
  refine h4 n Z H0 m r σ H1 (q.grow s1) _ ((k.grow s1).bind.imp fun d2 k2 w H2 s2 rw2 => ?_)
  have rv2 := rv.mono (hid_mono s2)
  split at k2
  · simp only [Rep] at rv2 rw2
    obtain ⟨a1, vs, rfl, hq, t⟩ := rv2
    subst rw2
    split at k2
    · rename_i h
      obtain ⟨g1, g2, g3⟩ := h
      refine ⟨a1, _, vs, rfl, rfl, hid_sub _ _ hq, by simpa using g2, by simpa using g1, by rw [t.length]; exact g3, fun p np => ?_⟩
      exact k2 p _ H2 (s1.trans s2) np ⟨_, rfl, t.rep _⟩
    · exact False.elim k2
  · exact False.elim k2
def lstC : D → R (List D)
  | .lst xs => .ok xs
  | .slst xs => .ok xs
  | _ => .bad
def mCutF (me : ME) (lo hi : Option ME) : MF := fun r => (me r).bind fun d => (mPart lo r).bind fun l => (mPart hi r).bind fun h => (lstC d).bind fun xs => .ok (.l (cutD xs l h))
theorem ef_cut {lo hi : Option Expr} {ml mh : Option ME} {p2 : Pos} (ha : EE X W a ma) (hl : EO X W lo ml) (hh : EO X W hi mh) : EF X W (.Subscript a (.Slice lo hi none p2) pos) (mCutF ma ml mh) := by
  obtain ⟨ta, h1, h2⟩ := ha.ex
  obtain ⟨tl, h3, h4⟩ := hl.ex
  obtain ⟨th, h5, h6⟩ := hh.ex
  refine ⟨_, pe_slice sl_list h1 h3 h5, fun n Z H0 m r σ H q Q p => ?_⟩
  unfold mCutF at p
  refine h2 n Z H0 m r σ H q _ (p.bind.imp fun d k x H1 s1 rx => ?_)
  refine h4 n Z H0 m r σ H1 (q.grow s1) _ ((k.grow s1).bind.imp fun l k2 H2 s2 => ?_)
  refine h6 n Z H0 m r σ H2 ((q.grow s1).grow s2) _ ((k2.grow s2).bind.imp fun u k3 H3 s3 => ?_)
  have sA := s1.trans (s2.trans s3)
  have rx3 := rx.mono (hid_mono (s2.trans s3))
  cases d <;> try exact False.elim k3
  · rename_i xs
    simp only [Rep] at rx3
    obtain ⟨a1, vs, rfl, hq, t⟩ := rx3
    exact ⟨a1, vs, rfl, .inl (.inl (hid_sub _ _ hq)), fun c nc => k3 c _ H3 sA nc ⟨_, rfl, t.cut l u⟩⟩
  · rename_i xs
    simp only [Rep] at rx3
    obtain ⟨a1, vs, rfl, hq, t⟩ := rx3
    exact ⟨a1, vs, rfl, Same.seq hid_sub hq, fun c nc => k3 c _ H3 sA nc ⟨_, rfl, t.cut l u⟩⟩
end
theorem def_okF {P : Program} {w : World} {K : PySem.W.Frag} {mg : Str → Option Value} {base : Heap} {x qual : Str} {st : Stmt} {f : Addr} {fd : FuncData} {N ps : List Str} {k np : Nat} {ms : MS} (F : Fun K x qual st f fd) (S : FnScope N ps (defScope st)) (hp : ps.length = np) (hN : np ≤ N.length)
    (hb : ∀ (cdv : Value) (A : Around) (outer : List Env) (s : Shared) (H : Hp) (E : XK), Room k (A.deeper (envOfC qual (defScope st) s.heap.objs.size f cdv)) →
      Takes (cxOf (L2.CX P w) P w K mg base N qual (defScope st) f cdv A outer s H E) (fun cls d _ H => E cls d H) →
      PassesOwn (model P w) (cxOf (L2.CX P w) P w K mg base N qual (defScope st) f cdv A outer s H E).A (cxOf (L2.CX P w) P w K mg base N qual (defScope st) f cdv A outer s H E).env (cxOf (L2.CX P w) P w K mg base N qual (defScope st) f cdv A outer s H E).xe →
      EB (cxOf (L2.CX P w) P w K mg base N qual (defScope st) f cdv A outer s H E) (fun cls d _ H => E cls d H) (defBody st) ms) : FnOk P w K mg base (L2.CX P w) (k + 1) f fd ps (PFF K mg np (mDefF N.length ms)) := by
  refine F.okX S (fun vs H Q E h => by rw [hp]; exact h.1) fun cdv A outer s H vs Q E hr h => ?_
  obtain ⟨hl, ds, Z, hZ, rl, p⟩ := h
  obtain ⟨t, h1, h2⟩ := (hb cdv A outer s H E hr (takes_of rfl rfl rfl rfl) (passes_of rfl)).ex
  refine ⟨t, h1, ?_⟩
  have q : Rel K mg N.length Z H nom (mStart N.length ds) (L2.start N vs) H := start_rel hZ rl (by omega)
  refine h2 N.length Z H nom _ _ H rfl q _ ?_
  unfold mDefF at p
  cases e : ms (mStart N.length ds) with
  | nx r =>
    rw [e] at p
    exact False.elim p
  | rt d =>
    rw [e] at p
    exact False.elim p
  | rc d =>
    rw [e] at p
    exact fun v o H' s' nv rv => p v o H' s' nv rv
  | ex c ns xs r =>
    rw [e] at p
    exact fun m σ H' C d q' _ ea => p C d H' q'.same (ea.mono hid_nom)
  | bk r =>
    rw [e] at p
    exact False.elim p
  | ct r =>
    rw [e] at p
    exact False.elim p
  | bad =>
    rw [e] at p
    exact False.elim p
end QB

namespace QB
open PySem PySem.Spec PyProof.Rows L2
/-! ### an own error class: __init__ of plain stores -/
/-- what __init__ promises: the fields, in the order of the stores -/
def SpI (K : PySem.W.Frag) (fs : List Str) : Sp := fun vs H Q E => ∃ (a C : Addr) (ws : List V), vs = .ref a :: ws ∧ ws.length = fs.length ∧ fs.length ≤ 900 ∧ OexC K C ∧ (∀ f ∈ fs, PySem.W.findIn K (.ref C) f = some none) ∧ H a = some (exo a C none) ∧
  ∀ dx, H dx = none → dx ≠ a → Q .non (upd (upd H dx (exd dx (fs.zip ws).reverse)) a (exo a C (some dx)))
/-- stores of fields, from slot j on -/
def InitS (X : Cx) (ts : TS) (fs : List Str) (j : Nat) : Prop := ∀ (D : Ends) (σ : L2.St) (H : Hp) (a C : Addr) (ws : List V), σ[0]? = some (some (.ref a)) → (∀ i w, ws[i]? = some w → σ[j + i]? = some (some w)) → ws.length = fs.length → OexC X.K C → (∀ f ∈ fs, PySem.W.findIn X.K (.ref C) f = some none) →
  (fs ≠ [] → fs.length ≤ 900 → H a = some (exo a C none) → (∀ dx, H dx = none → dx ≠ a → D.nx σ (upd (upd H dx (exd dx (fs.zip ws).reverse)) a (exo a C (some dx)))) → ts D σ H) ∧
  ∀ dx gs, H a = some (exo a C (some dx)) → H dx = some (exd dx gs) → dx ≠ a → gs.length + fs.length ≤ 900 → D.nx σ (upd H dx (exd dx ((fs.zip ws).reverse ++ gs))) → ts D σ H
structure IB (X : Cx) (sts : List Stmt) (fs : List Str) (j : Nat) : Prop where
  ex : ∃ ts, PSs X sts ts ∧ InitS X ts fs j
theorem upd_id {H : Hp} {a : Addr} {o : HO} (h : H a = some o) : upd H a o = H := by
  funext b
  unfold upd
  split
  · rename_i e
    rw [e, h]
  · rfl
theorem upd_two {H : Hp} {a : Addr} {o u : HO} : upd (upd H a o) a u = upd H a u := by
  funext b
  unfold upd
  by_cases e : b = a <;> simp [e]
theorem upd_swap {H : Hp} {a b : Addr} {o u : HO} (n : a ≠ b) : upd (upd H a o) b u = upd (upd H b u) a o := by
  funext c
  unfold upd
  by_cases e : c = a
  · by_cases e2 : c = b
    · exact absurd (e.symm.trans e2) n
    · simp [e, n]
  · by_cases e2 : c = b <;> simp [e, e2, Ne.symm n]
section
variable {X : Cx} {W : WX} {a b e : Expr} {es : List Expr} {ms : MA} {pos : Pos}
theorem ib_nil {j : Nat} : IB X [] [] j := ⟨_, pss_nil, fun D σ H a C ws h0 hw hl T nof => ⟨fun h => absurd rfl h, fun dx gs ea ed nd hz k => by
  rw [List.zip_nil_left, List.reverse_nil, List.nil_append, upd_id ed] at k
  exact k⟩⟩
theorem ib_cons {f y z : Str} {fs : List Str} {j : Nat} {p1 p2 p3 p4 : Pos} {sts : List Stmt} (g : IB X sts fs (j + 1)) (h0 : X.N[0]? = some z) (hj : X.N[j]? = some y) (hv0 : Vis X.env.scope z) (hvj : Vis X.env.scope y) (d0 : (z == ("__debug__" : Str)) = false) (c0 : (z == ("__classdict__" : Str)) = false) (d1 : (y == ("__debug__" : Str)) = false) (c1 : (y == ("__classdict__" : Str)) = false)
    (hs : swapsWith (.Name y p3) (some (.Attribute (.Name z p1) f p2)) p4.line X.env = pure false := by rfl) : IB X (.Assign [.Attribute (.Name z p1) f p2] (.Name y p3) p4 :: sts) (f :: fs) j := by
  obtain ⟨u, g1, g2⟩ := g.ex
  refine ⟨_, pss_cons (ps_ost (pv 0 h0 hv0 d0 c0) (pv j hj hvj d1 c1) hs) g1, fun D σ H a C ws s0 hw hl T nof => ?_⟩
  match ws, hl with
  | w :: ws', hl =>
    have hl' : ws'.length = fs.length := by simpa using hl
    have wj : σ[j]? = some (some w) := hw 0 w rfl
    have hw' : ∀ i v, ws'[i]? = some v → σ[j + 1 + i]? = some (some v) := fun i v hv => by
      have := hw (i + 1) v (by simpa using hv)
      rw [show j + 1 + i = j + (i + 1) by omega]
      exact this
    have nf := nof f List.mem_cons_self
    have nofs : ∀ g ∈ fs, PySem.W.findIn X.K (.ref C) g = some none := fun g hg => nof g (List.mem_cons_of_mem _ hg)
    constructor
    · intro _ hz ea k
      refine ⟨w, wj, .ref a, s0, a, C, rfl, T, nf, .inl ⟨ea, fun dx ndx na => ?_⟩⟩
      refine (g2 D σ _ a C ws' s0 hw' hl' T nofs).2 dx [(f, w)] upd_same (by rw [upd_ne na]; exact upd_same) na (by simp at hz ⊢; omega) ?_
      have := k dx ndx na
      rw [List.zip_cons_cons, List.reverse_cons] at this
      rw [upd_swap (Ne.symm na), upd_two]
      exact this
    · intro dx gs ea ed nd hz k
      refine ⟨w, wj, .ref a, s0, a, C, rfl, T, nf, .inr ⟨dx, gs, ea, ed, by simp at hz; omega, ?_⟩⟩
      refine (g2 D σ _ a C ws' s0 hw' hl' T nofs).2 dx ((f, w) :: gs) (by rw [upd_ne (Ne.symm nd)]; exact ea) upd_same nd (by simp at hz ⊢; omega) ?_
      rw [upd_two]
      rw [List.zip_cons_cons, List.reverse_cons, List.append_assoc] at k
      exact k
end
theorem init_ok {P : Program} {w : World} {K : PySem.W.Frag} {mg : Str → Option Value} {base : Heap} {x qual : Str} {st : Stmt} {f : Addr} {fd : FuncData} {fs N : List Str} {k : Nat} (F : Fun K x qual st f fd) (S : FnScope N N (defScope st)) (hN : N.length = fs.length + 1) (hne : fs ≠ [])
    (hb : ∀ (cdv : Value) (A : Around) (outer : List Env) (s : Shared) (H : Hp) (E : XK), IB (cxOf (L2.CX P w) P w K mg base N qual (defScope st) f cdv A outer s H E) (defBody st) fs 1) : FnOk P w K mg base (L2.CX P w) (k + 1) f fd N (SpI K fs) := by
  refine F.okX S (fun vs H Q E h => ?_) fun cdv A outer s H vs Q E hr h => ?_
  · obtain ⟨a, C, ws, rfl, hl, _⟩ := h
    rw [List.length_cons, hl, hN]
  · obtain ⟨a, C, ws, rfl, hl, hz, T, nof, ea, k⟩ := h
    obtain ⟨t, h1, h2⟩ := (hb cdv A outer s H E).ex
    refine ⟨t, h1, ?_⟩
    have s0 : (L2.start N (.ref a :: ws))[0]? = some (some (.ref a)) := by simp [L2.start]
    refine (h2 _ _ H a C ws s0 (fun i v hv => ?_) hl T nof).1 hne hz ea fun dx n1 n2 => k dx n1 n2
    unfold L2.start
    rw [List.getElem?_append_left (by simp; have := (List.getElem?_eq_some_iff.mp hv).1; omega), List.getElem?_map, Nat.add_comm, List.getElem?_cons_succ, hv]
    rfl
/-- what a clause says of a class, from facts that the top has -/
theorem exm_mk {K : PySem.W.Frag} {C S : Addr} {b : Bool} (h1 : PySem.W.subIn K (.ref S) (.type "BaseException") = some true) (h2 : PySem.W.isClsIn K S = true) (h3 : PySem.W.typeIn K (.ref S) = some (.type "type")) (h4 : PySem.W.subIn K (.ref C) (.ref S) = some b) :
    PySem.W.exmOne K (.ref C) (.ref S) = some b := by
  have e1 : (PySem.W.subIn K (.ref S) (.type "BaseException") == some true) = true := by rw [h1] <;> rfl
  have e2 : ((PySem.W.clsIn K S).isSome && PySem.W.typeIn K (.ref S) == some (.type "type")) = true := by
    have h2' : (PySem.W.clsIn K S).isSome = true := h2
    rw [h2', h3] <;> rfl
  show (if (PySem.W.subIn K (.ref S) (.type "BaseException") == some true) = true then (if ((PySem.W.clsIn K S).isSome && PySem.W.typeIn K (.ref S) == some (.type "type")) = true then PySem.W.subIn K (.ref C) (.ref S) else none) else none) = some b
  rw [if_pos e1, if_pos e2]
  exact h4
/-- what the top has left of the class -/
structure XcTxt (P : Program) (w : World) (K : PySem.W.Frag) (mg : Str → Option Value) (base : Heap) (k : Nat) (c : Str) (fs : List Str) : Prop where
  ex : ∃ (C fI : Addr) (fd : FuncData) (ps : List Str), mg c = some (.ref C) ∧ OexC K C ∧ (∀ f ∈ fs, PySem.W.findIn K (.ref C) f = some none) ∧ PySem.W.findIn K (.ref C) "__init__" = some (some (.ref fI)) ∧ PySem.W.typeIn K (.ref fI) = some (.type "function") ∧ Binds K fd ps [] ∧ FnOk P w K mg base (L2.CX P w) k fI fd ps (SpI K fs) ∧ fs.length ≤ 900
/-- .. told of the text alone -/
structure XcF (K : PySem.W.Frag) (mg : Str → Option Value) (c : Str) (fs : List Str) (x qual : Str) (st : Stmt) : Prop where
  ex : ∃ (C fI : Addr) (fd : FuncData), mg c = some (.ref C) ∧ OexC K C ∧ (∀ f ∈ fs, PySem.W.findIn K (.ref C) f = some none) ∧ PySem.W.findIn K (.ref C) "__init__" = some (some (.ref fI)) ∧ PySem.W.typeIn K (.ref fI) = some (.type "function") ∧ Fun K x qual st fI fd
theorem RepL.rev {K : PySem.W.Frag} {mg : Str → Option Value} {G : Hp} : ∀ {ds : List D} {vs : List V}, RepL K mg G ds vs → RepL K mg G ds.reverse vs.reverse
  | [], vs, h => by
    simp only [RepL] at h
    subst h
    exact RepL.nil
  | d :: ds, vs, h => by
    simp only [RepL] at h
    obtain ⟨v, us, rfl, r, t⟩ := h
    rw [List.reverse_cons, List.reverse_cons]
    exact (RepL.rev t).append (RepL.cons r RepL.nil)
theorem zip_rev {α β : Type} : ∀ {as : List α} {bs : List β}, as.length = bs.length → (as.zip bs).reverse = as.reverse.zip bs.reverse
  | [], [], _ => rfl
  | a :: as, b :: bs, h => by
    have h' : as.length = bs.length := by simpa using h
    rw [List.zip_cons_cons, List.reverse_cons, List.reverse_cons, List.reverse_cons, zip_rev h', List.zip_append (by simp [h'])]
    rfl
  | [], _ :: _, h => by simp at h
  | _ :: _, [], h => by simp at h
section
variable {X : Cx} {W : WX} {a b e : Expr} {es : List Expr} {ms : MA} {pos pos2 p1 : Pos} {k kk : Nat} {c : Str} {fs : List Str}
/-- raise C(e, ..) -/
def mRaise (c : Str) (fs : List Str) (ms : MA) : MS := fun r => toFl r (ms r) fun ds => .ex c fs.reverse ds.reverse r
theorem es_raise (hc : X.calm = true) (tk : Takes X W) (T : XcTxt X.prog X.w X.K X.mg X.base k c fs) (hr : Room kk X.A) (hk : k + 1 ≤ kk) (ha : EA X W (a :: es) ms) (hl : ALen ms fs.length) (hg : Gl X c := by rfl) (hdb : (c == ("__debug__" : Str)) = false := by decide)
    (he : starEach (a :: es) X.env = (false, eval a X.env) :: starEach es X.env := by rfl) (hpl : (backTo pos (starEach es X.env)).any (·.1) = false := by rfl) : ES X W (.Raise (some (.Call (.Name c p1) (a :: es) [] pos)) none pos2) (mRaise c fs ms) := by
  obtain ⟨C, fI, fd, ps, gC, oC, nof, iC, tI, hb, F1, hz⟩ := T.ex
  obtain ⟨ta, h1, h2⟩ := ha.ex
  refine ⟨_, ps_raise hc tk (pmk_oex oC iC tI F1 (hr.mono hk) hb .nil (passes_call tk (fun _ _ _ _ z => z.elim)) hg gC h1 hdb he hpl), fun n Z H0 m r σ H hn q D p => ?_⟩
  unfold mRaise at p
  cases em : ms r with
  | ok ds =>
    have hlen := hl r ds em
    refine h2 n Z H0 m r σ H q _ ?_
    rw [em] at p ⊢
    intro vs H1 s1 rx
    have hv : vs.length = fs.length := by rw [rx.length, hlen]
    refine ⟨by omega, fun x nx => ?_⟩
    refine ⟨x, C, vs ++ [], rfl, by simp [hv], hz, oC, nof, upd_same, fun dx n1 n2 => ?_⟩
    have n1' : H1 dx = none := by
      rw [upd_ne n2] at n1
      exact n1
    refine ⟨rfl, dx, (fs.zip (vs ++ [])).reverse, upd_same, by rw [upd_ne n2]; exact upd_same, n1', ?_⟩
    have eh : upd (del (upd (upd (upd H1 x (exo x C none)) dx (exd dx (fs.zip (vs ++ [])).reverse)) x (exo x C (some dx))) x) dx (.xd (fs.zip (vs ++ [])).reverse) = upd H1 dx (.xd (fs.zip (vs ++ [])).reverse) := by
      funext y
      unfold upd del
      by_cases e1 : y = dx
      · simp [e1]
      · by_cases e2 : y = x
        · simp [e1, e2, nx]
        · simp [e1, e2]
    rw [eh]
    have s2 : Same H1 (upd H1 dx (.xd (fs.zip (vs ++ [])).reverse)) := same_upd n1'
    refine p m σ _ C (some dx) ((q.grow s1).grow s2) ((hid_mono s1).trans (hid_mono s2)) ⟨gC, .inr ⟨dx, vs.reverse, rfl, ?_, by simp [hlen], (rx.mono (hid_mono s2)).rev⟩⟩
    rw [(q.grow s1).hidNew n1', List.append_nil, zip_rev hv.symm]
  | exc cc ns xs =>
    refine h2 n Z H0 m r σ H q _ ?_
    rw [em] at p ⊢
    intro C' d H' s' ea
    exact p m σ H' C' d (q.grow s') (hid_mono s') ea
  | bad =>
    rw [em] at p
    exact False.elim p
/-! ### try: .. except x: .. -/
def mTry (ct : Str → Option Bool) (ms mu : MS) : MS := fun r => match ms r with
  | .ex c ns xs r' => (match ct c with
    | some true => (match mu r' with
      | .ex _ _ _ _ => .bad
      | f => f)
    | some false => .ex c ns xs r'
    | none => .bad)
  | f => f
theorem es_try {x : Str} {cv : Value} {body suite : List Stmt} {b₀ : Stmt} {np pos' : Pos} {mb mu : MS} {ct : Str → Option Bool} (hs : X.stack = X.env :: X.outer) (hf : X.env.frame = some X.env.locals) (hc : Names X x cv) (tk : Takes X W)
    (hct : ∀ c b, ct c = some b → ∀ C, X.mg c = some (.ref C) → PySem.W.exmOne X.K (.ref C) cv = some b)
    (hb : ∀ (W' : WX) (pn : List (Addr × Obj)) (xe : Value → Shared → Prop), Takes (X.tr pn xe) W' → PassesOwn (model X.prog X.w) X.A X.env xe → EB (X.tr pn xe) W' body mb)
    (hsu : ∀ (a : Addr) (oe : Obj) (cls : Value) (d : Option Addr) (pn : List (Addr × Obj)), Zc cls d oe → (∃ vs, oe.data = .fields vs) → EB (X.suite a ((a, oe) :: pn)) W0 (b₀ :: suite) mu) :
    ES X W (.Try body [.ExceptHandler (some (.Name x np)) none (b₀ :: suite) pos'] [] [] pos) (mTry ct mb mu) := by
  let tb : WX → TS := fun W' D σ H => ∀ (pn : List (Addr × Obj)) (xe : Value → Shared → Prop) (h1 : Takes (X.tr pn xe) W') (h2 : PassesOwn (model X.prog X.w) X.A X.env xe), (hb W' pn xe h1 h2).ex.choose D σ H
  let ts : Addr → Value → Option Addr → TS := fun a cls d D σ H => ∀ (oe : Obj) (pn : List (Addr × Obj)) (h1 : Zc cls d oe) (h2 : ∃ vs, oe.data = .fields vs), (hsu a oe cls d pn h1 h2).ex.choose D σ H
  refine ⟨fun D σ H => tb (wOnly X.K cv ts W D) D σ H, ps_try_only (tb := tb) (ts := ts) hs hf hc tk (fun W' pn xe h1 h2 => ⟨fun pins s σ H D I z => (hb W' pn xe h1 h2).ex.choose_spec.1.run pins s σ H D I (z pn xe h1 h2)⟩)
    (fun a oe cls d pn h1 h2 => ⟨fun pins s σ H D I z => (hsu a oe cls d pn h1 h2).ex.choose_spec.1.run pins s σ H D I (z oe pn h1 h2)⟩), fun n Z H0 m r σ H hn q D p pn xe h1 h2 => ?_⟩
  refine (hb _ pn xe h1 h2).ex.choose_spec.2 n Z H0 m r σ H hn q D ?_
  show PostS X.K X.mg n Z H0 (wOnly X.K cv ts W D) (hid Z m H) (mb r) D
  unfold mTry at p
  cases e : mb r with
  | nx r' =>
    rw [e] at p
    exact p
  | rt d =>
    rw [e] at p
    exact p
  | rc d =>
    rw [e] at p
    exact p
  | bk r' =>
    rw [e] at p
    exact p
  | ct r' =>
    rw [e] at p
    exact p
  | bad =>
    rw [e] at p
    exact p
  | ex c ns xs r' =>
    rw [e] at p
    intro m' σ' H' C d q' s' ea
    simp only at p
    cases ec : ct c with
    | none =>
      rw [ec] at p
      exact False.elim p
    | some b =>
      rw [ec] at p
      refine ⟨b, hct c b ec C ea.1, fun hb1 a na oe pn2 z1 z2 => ?_, fun hb0 => ?_⟩
      · subst hb1
        simp only at p
        refine (hsu a oe (.ref C) d pn2 z1 z2).ex.choose_spec.2 n Z H0 m' r' σ' H' hn q' D ?_
        show PostS X.K X.mg n Z H0 W0 (hid Z m' H') (mu r') D
        have p2 := PostS.grow p s'
        cases e2 : mu r' with
        | nx r4 =>
          rw [e2] at p2
          exact p2
        | rt d =>
          rw [e2] at p2
          exact p2
        | rc d =>
          rw [e2] at p2
          exact p2
        | bk r4 =>
          rw [e2] at p2
          exact p2
        | ct r4 =>
          rw [e2] at p2
          exact p2
        | bad =>
          rw [e2] at p2
          exact p2
        | ex c2 ns2 xs2 r4 =>
          rw [e2] at p2
          exact False.elim p2
      · subst hb0
        exact p m' σ' H' C d q' s' ea
/-! ### range with a step of -1 -/
def rgC (lo c : Int) (n : Nat) : List D := (List.range n).map fun (i : Nat) => D.int (lo + (i : Int) * c)
theorem itok_c {K : PySem.W.Frag} {mg : Str → Option Value} {G : Hp} {lo c : Int} {n : Nat} : ItOk K mg G (Itc lo c n) (rgC lo c n) := by
  have hl : (rgC lo c n).length = n := by simp [rgC]
  refine ⟨fun H i s hi => ⟨by rw [hl] at hi; exact hi, fun x H' hy => ?_⟩, fun H s => by rw [hl]; exact Nat.le_refl n⟩
  obtain ⟨e, ex⟩ := hy
  rw [hl] at hi
  refine ⟨e, .int (lo + (i : Int) * c), ?_, by simp only [Rep]; exact ex⟩
  simp [rgC, List.getElem?_map, hi]
def dRg3 : List D → R (List D)
  | [.int i, .int j, .int c] => if okR i ∧ okR j ∧ c = -1 then .ok (rgC i (-1) (i - j).toNat) else .bad
  | _ => .bad
def mRg3 (ma : MA) : MA := fun r => (ma r).bind dRg3
theorem RepL.three {K : PySem.W.Frag} {mg : Str → Option Value} {G : Hp} {d e f : D} {vs : List V} (h : RepL K mg G [d, e, f] vs) : ∃ v w x, vs = [v, w, x] ∧ Rep K mg G d v ∧ Rep K mg G e w ∧ Rep K mg G f x := by
  simp only [RepL] at h
  obtain ⟨v, us, rfl, r, w, us', rfl, r', x, us'', rfl, r'', rfl⟩ := h
  exact ⟨v, w, x, rfl, r, r', r''⟩
variable {b cc tg : Expr} {ma : MA}
theorem ei_range3 (hm : X.mg "range" = none) (hg : Gl X "range") (ha : EA X W [a, b, cc] ma) (hl : ALen ma 3)
    (hs : starEach [a, b, cc] X.env = (false, eval a X.env) :: starEach [b, cc] X.env := by rfl) (hpl : (backTo pos (starEach [b, cc] X.env)).any (·.1) = false := by rfl) : EI X W tg (.Call (.Name "range" p1) [a, b, cc] [] pos) (mRg3 ma) := by
  obtain ⟨t, h1, h2⟩ := ha.ex
  refine ⟨_, pi_range3 hg hm h1 hs hpl, fun n Z H0 m r σ H q R' p => ?_⟩
  unfold mRg3 at p
  have p' := p.bind
  refine h2 n Z H0 m r σ H q _ ?_
  cases e : ma r with
  | ok ds =>
    rw [e] at p'
    have hd := hl r ds e
    intro vs H1 s1 rx
    obtain ⟨d, d2, d3, rfl⟩ : ∃ d e f, ds = [d, e, f] := by
      match ds, hd with
      | [d, e, f], _ => exact ⟨d, e, f, rfl⟩
    obtain ⟨v, w, x, rfl, rv, rw', rx'⟩ := rx.three
    cases d <;> cases d2 <;> cases d3 <;> try exact False.elim p'
    rename_i i j c
    simp only [Rep] at rv rw' rx'
    subst rv rw' rx'
    simp only [PostG, dRg3] at p'
    split at p'
    · rename_i y hz
      split at hz
      · rename_i hz2
        cases hz
        obtain ⟨g1, g2, g3⟩ := hz2
        subst g3
        simp only [okR] at g1 g2
        exact ⟨i, j, -1, _, rfl, RgC.neg (by simpa using g1.1) (by simpa using g1.2) (by simpa using g2.1) (by simpa using g2.2), p' _ H1 s1 itok_c⟩
      · cases hz
    · rename_i hz
      split at hz <;> cases hz
    · exact False.elim p'
  | exc c ns xs =>
    rw [e] at p'
    exact p'
  | bad =>
    rw [e] at p'
    exact False.elim p'
end
/-! ### what a clause catches, told by a list -/
theorem ct_list {K : PySem.W.Frag} {mg : Str → Option Value} {x : Str} {Q : Addr} (hQ : mg x = some (.ref Q)) : ∀ {l : List (Str × Bool)}, (∀ p ∈ l, ∃ C Q' : Addr, mg p.1 = some (.ref C) ∧ mg x = some (.ref Q') ∧ PySem.W.exmOne K (.ref C) (.ref Q') = some p.2) → ∀ (c : Str) (b : Bool), l.lookup c = some b → ∀ C : Addr, mg c = some (.ref C) → PySem.W.exmOne K (.ref C) (.ref Q) = some b
  | [], _, c, b, h, _, _ => by simp at h
  | p :: l, hp, c, b, h, C, hC => by
    rw [List.lookup_cons] at h
    cases e : c == p.1 with
    | true =>
      rw [e] at h
      have e' : c = p.1 := by simpa using e
      obtain ⟨C', Q', g1, g2, g3⟩ := hp p List.mem_cons_self
      have : C' = C := by
        rw [← e', hC] at g1
        cases g1
        rfl
      subst this
      have : Q' = Q := by
        rw [hQ] at g2
        cases g2
        rfl
      subst this
      cases h
      exact g3
    | false =>
      rw [e] at h
      exact ct_list hQ (fun q hq => hp q (List.mem_cons_of_mem _ hq)) c b h C hC
theorem ct_nil {K : PySem.W.Frag} {mg : Str → Option Value} {x : Str} : ∀ p ∈ ([] : List (Str × Bool)), ∃ C Q' : Addr, mg p.1 = some (.ref C) ∧ mg x = some (.ref Q') ∧ PySem.W.exmOne K (.ref C) (.ref Q') = some p.2 := fun p h => by cases h
theorem ct_cons {K : PySem.W.Frag} {mg : Str → Option Value} {x c : Str} {b : Bool} {l : List (Str × Bool)} (h : ∃ C Q' : Addr, mg c = some (.ref C) ∧ mg x = some (.ref Q') ∧ PySem.W.exmOne K (.ref C) (.ref Q') = some b) (g : ∀ p ∈ l, ∃ C Q' : Addr, mg p.1 = some (.ref C) ∧ mg x = some (.ref Q') ∧ PySem.W.exmOne K (.ref C) (.ref Q') = some p.2) : ∀ p ∈ (c, b) :: l, ∃ C Q' : Addr, mg p.1 = some (.ref C) ∧ mg x = some (.ref Q') ∧ PySem.W.exmOne K (.ref C) (.ref Q') = some p.2 := fun p hp => by
  rcases List.mem_cons.mp hp with rfl | hp
  · exact h
  · exact g p hp
theorem xc_mk {P : Program} {w : World} {K : PySem.W.Frag} {mg : Str → Option Value} {base : Heap} {c x qual : Str} {st : Stmt} {fs N : List Str} (T : XcF K mg c fs x qual st) (hz : fs.length ≤ 900) (hb : ∀ {f : Addr} {fd : FuncData}, Fun K x qual st f fd → Binds K fd N [])
    (hf : ∀ {f : Addr} {fd : FuncData}, Fun K x qual st f fd → FnOk P w K mg base (L2.CX P w) 1 f fd N (SpI K fs)) : XcTxt P w K mg base 1 c fs := by
  obtain ⟨C, fI, fd, h1, h2, h3, h4, h5, F⟩ := T.ex
  exact ⟨C, fI, fd, N, h1, h2, h3, h4, h5, hb F, hf F, hz⟩
end QB

namespace QB
open PySem PySem.Spec PyProof.Rows L2
theorem all_nil {α : Type} {P : α → Prop} : ∀ x ∈ ([] : List α), P x := fun x h => by cases h
theorem all_cons {α : Type} {P : α → Prop} {a : α} {l : List α} (h : P a) (g : ∀ x ∈ l, P x) : ∀ x ∈ a :: l, P x := fun x hx => by
  rcases List.mem_cons.mp hx with rfl | hx
  · exact h
  · exact g x hx
section
variable {X : Cx} {W : WX} {a b c e : Expr} {es : List Expr} {ma mb mc me : ME} {ms : MA} {pos p1 p2 p3 p4 : Pos} {f g : D → D → R D} {op op' : CmpOp} {rr rr' : R2} {k kk n : Nat} {x : Str}
/-! ### a op b op' c -/
def mChain (f g : D → D → R D) (ma mb mc : ME) : ME := fun r => (ma r).bind fun x => (mb r).bind fun y => (f x y).bind fun k => match k with
  | .bl true => (mc r).bind fun z => g y z
  | .bl false => .ok (.bl false)
  | _ => .bad
theorem SimE.chain {ta tb tc : TE} (ha : SimE X W ta ma) (hb : SimE X W tb mb) (hc : SimE X W tc mc) (hf : OpW X W rr f) (hg : OpW X W rr' g) : SimE X W (tChain rr rr' ta tb tc) (mChain f g ma mb mc) := fun n Z H0 m r σ H q Q p => by
  unfold mChain at p
  refine ha n Z H0 m r σ H q _ (p.bind.imp fun d k x H1 s1 rx => ?_)
  refine hb n Z H0 m r σ H1 (q.grow s1) _ ((k.grow s1).bind.imp fun e k2 y H2 s2 ry => ?_)
  have q2 := (q.grow s1).grow s2
  refine hf n Z H0 m r σ H2 q2 d e x y _ ((rx.mono (hid_mono s2)).mono hid_nom) (ry.mono hid_nom) ((k2.grow s2).bind.imp fun k' k3 z H3 s3 rz => ?_)
  cases k' <;> try exact False.elim k3
  rename_i kb
  simp only [Rep] at rz
  subst rz
  refine ⟨kb, rfl, ?_⟩
  cases kb with
  | true =>
    rw [if_pos rfl]
    refine hc n Z H0 m r σ H3 (q2.grow s3) _ ((k3.grow s3).bind.imp fun e3 k4 w H4 s4 rw4 => ?_)
    exact hg n Z H0 m r σ H4 ((q2.grow s3).grow s4) e e3 y w Q ((ry.mono (hid_mono (s3.trans s4))).mono hid_nom) (rw4.mono hid_nom) ((k4.grow s4).imp fun d' k5 v H' s5 rv => k5 v H' (s1.trans (s2.trans (s3.trans (s4.trans s5)))) rv)
  | false =>
    rw [if_neg Bool.false_ne_true]
    exact k3 _ H3 (s1.trans (s2.trans s3)) (by simp [Rep])
theorem ee_chain (ho : OpR X (compareOp op) rr) (hs : OpW X W rr f) (ho' : OpR X (compareOp op') rr') (hs' : OpW X W rr' g) (ha : EE X W a ma) (hb : EE X W b mb) (hc : EE X W c mc) (hm : lastMarks [op, op'] [b, c] = false := by with_unfolding_all rfl) : EE X W (.Compare a [op, op'] [b, c] pos) (mChain f g ma mb mc) := by
  obtain ⟨ta, h1, h2⟩ := ha.ex
  obtain ⟨tb, h3, h4⟩ := hb.ex
  obtain ⟨tc, h5, h6⟩ := hc.ex
  exact ⟨_, pe_chain ho ho' h1 h3 h5 hm, h2.chain h4 h6 hs hs'⟩
theorem et_chain (ho : OpR X (compareOp op) rr) (hs : OpW X W rr f) (ho' : OpR X (compareOp op') rr') (hs' : OpW X W rr' g) (ha : EE X W a ma) (hb : EE X W b mb) (hc : EE X W c mc) (hm : lastMarks [op, op'] [b, c] = false := by with_unfolding_all rfl) : ET X W (.Compare a [op, op'] [b, c] pos) (mTB (mChain f g ma mb mc)) := by
  obtain ⟨ta, h1, h2⟩ := ha.ex
  obtain ⟨tb, h3, h4⟩ := hb.ex
  obtain ⟨tc, h5, h6⟩ := hc.ex
  exact ⟨_, pt_chain ho ho' h1 h3 h5 hm, SimT.of (h2.chain h4 h6 hs hs')⟩
/-! ### several names take the items of a tuple or a list -/
structure EGs (X : Cx) (es : List Expr) (tbs : List D → Sc → Option Sc) : Prop where
  ex : ∃ t, PGs X es t ∧ ∀ (n : Nat) (Z : Addr → Prop) (H0 : Hp) (m : Nat → Option Addr) (r : Sc) (σ : L2.St) (H : Hp), n = X.N.length → Rel X.K X.mg n Z H0 m r σ H → ∀ (ds : List D) (vs : List V) (Q : L2.St → Hp → Prop), RepL X.K X.mg (hid Z m H) ds vs →
    (match tbs ds r with
      | some r' => ∀ (m' : Nat → Option Addr) (σ' : L2.St), Rel X.K X.mg n Z H0 m' r' σ' H → Same (hid Z m H) (hid Z m' H) → Q σ' H
      | none => False) → t vs σ H Q
def bsNil : List D → Sc → Option Sc
  | [], r => some r
  | _, _ => none
def bsCons (tb : D → Sc → Option Sc) (tbs : List D → Sc → Option Sc) : List D → Sc → Option Sc
  | d :: ds, r => (match tb d r with
    | some r1 => tbs ds r1
    | none => none)
  | [], _ => none
def bTup (n : Nat) (tbs : List D → Sc → Option Sc) : D → Sc → Option Sc := fun d r => match seqD d with
  | some ds => if ds.length = n then tbs ds r else none
  | none => none
variable {tb : D → Sc → Option Sc} {tbs : List D → Sc → Option Sc} {vs : List Nat}
theorem egs_nil : EGs X [] bsNil := ⟨_, pgs_nil, fun n Z H0 m r σ H hn q ds us Q rl p => by
  cases ds with
  | nil =>
    simp only [RepL] at rl
    exact ⟨rl, p m σ q (Same.refl _)⟩
  | cons d ds => exact False.elim p⟩
theorem egs_cons (h : EG X e tb) (g : EGs X es tbs) (hs : (assignEach (e :: es) X.env).map (·.2) = assign e X.env :: (assignEach es X.env).map (·.2) := by rfl) : EGs X (e :: es) (bsCons tb tbs) := by
  obtain ⟨t, h1, h2⟩ := h.ex
  obtain ⟨u, h3, h4⟩ := g.ex
  refine ⟨_, pgs_cons h1 h3 hs, fun n Z H0 m r σ H hn q ds us Q rl p => ?_⟩
  cases ds with
  | nil => exact False.elim p
  | cons d ds =>
    simp only [RepL] at rl
    obtain ⟨v, ws, rfl, rv, rw'⟩ := rl
    refine ⟨v, ws, rfl, h2 n Z H0 m r σ H hn q d v _ rv ?_⟩
    simp only [bsCons] at p
    cases e1 : tb d r with
    | none =>
      rw [e1] at p
      exact False.elim p
    | some r1 =>
      rw [e1] at p
      simp only at p ⊢
      intro m1 σ1 q1 s1
      refine h4 n Z H0 m1 r1 σ1 H hn q1 ds ws Q (rw'.mono s1) ?_
      cases e2 : tbs ds r1 with
      | none =>
        rw [e2] at p
        exact False.elim p
      | some r2 =>
        rw [e2] at p
        exact fun m2 σ2 q2 s2 => p m2 σ2 q2 (s1.trans s2)
theorem pg_or {tg : Expr} {t u : TG} (h : PG X tg t) (g : PG X tg u) : PG X tg (fun v σ H Q => t v σ H Q ∨ u v σ H Q) := ⟨fun pins s σ H v w Q I r z => z.elim (h.run pins s σ H v w Q I r) (g.run pins s σ H v w Q I r)⟩
theorem eg_tup {j : Nat} (hc : X.calm = true) (h : EGs X es tbs) (hn : (assignEach es X.env).length = n := by rfl) (hst : (assignEach es X.env).findIdx? (·.1) = none := by rfl) : EG X (.Tuple es j pos) (bTup n tbs) := by
  obtain ⟨t, h1, h2⟩ := h.ex
  refine ⟨_, pg_or (pg_tup hc h1 hn hst) (pg_unl hc h1 hn hst), fun n' Z H0 m r σ H hn' q d v Q rv p => ?_⟩
  unfold bTup at p
  have go : ∀ (ds : List D) (us : List V), seqD d = some ds → RepL X.K X.mg (hid Z m H) ds us → us.length = n ∧ t us σ H Q := fun ds us e rl => by
    rw [e] at p
    simp only at p
    by_cases el : ds.length = n
    · rw [if_pos el] at p
      exact ⟨by rw [rl.length, el], h2 n' Z H0 m r σ H hn' q ds us Q rl p⟩
    · rw [if_neg el] at p
      exact False.elim p
  cases d <;> simp only [seqD] at p <;> try exact False.elim p
  · simp only [Rep] at rv
    obtain ⟨a, us, rfl, hq, t'⟩ := rv
    obtain ⟨g1, g2⟩ := go _ us rfl t'
    exact .inl ⟨a, us, rfl, Same.seqT hid_sub hq, g1, g2⟩
  · simp only [Rep] at rv
    obtain ⟨a, us, rfl, hq, t'⟩ := rv
    obtain ⟨g1, g2⟩ := go _ us rfl t'
    exact .inr ⟨a, us, rfl, .inl (.inl (hid_sub _ _ hq)), g1, g2⟩
  · simp only [Rep] at rv
    obtain ⟨a, us, rfl, hq, t'⟩ := rv
    obtain ⟨g1, g2⟩ := go _ us rfl t'
    exact .inr ⟨a, us, rfl, Same.seq hid_sub hq, g1, g2⟩
/-! .. in a comprehension -/
structure CGs (X : Cx) (vs : List Nat) (es : List Expr) (tbs : List D → Sc → Option Sc) : Prop where
  ex : ∃ t, PGs X es t ∧ ∀ (n : Nat) (Z : Addr → Prop) (H0 : Hp) (m : Nat → Option Addr) (r : Sc) (σ : L2.St) (H : Hp), (∀ i ∈ vs, i < n) → Rel X.K X.mg n Z H0 m r σ H → (∀ i ∈ vs, m i = none) → ∀ (ds : List D) (us : List V) (Q : L2.St → Hp → Prop), RepL X.K X.mg (hid Z m H) ds us →
    (match tbs ds r with
      | some r' => ∀ (σ' : L2.St), Rel X.K X.mg n Z H0 m r' σ' H → wipe σ' vs = wipe σ vs → Q σ' H
      | none => False) → t us σ H Q
theorem cgs_nil : CGs X vs [] bsNil := ⟨_, pgs_nil, fun n Z H0 m r σ H hn q hm ds us Q rl p => by
  cases ds with
  | nil =>
    simp only [RepL] at rl
    exact ⟨rl, p σ q rfl⟩
  | cons d ds => exact False.elim p⟩
theorem cgs_cons (h : CG X vs e tb) (g : CGs X vs es tbs) (hs : (assignEach (e :: es) X.env).map (·.2) = assign e X.env :: (assignEach es X.env).map (·.2) := by rfl) : CGs X vs (e :: es) (bsCons tb tbs) := by
  obtain ⟨t, h1, h2⟩ := h.ex
  obtain ⟨u, h3, h4⟩ := g.ex
  refine ⟨_, pgs_cons h1 h3 hs, fun n Z H0 m r σ H hn q hm ds us Q rl p => ?_⟩
  cases ds with
  | nil => exact False.elim p
  | cons d ds =>
    simp only [RepL] at rl
    obtain ⟨v, ws, rfl, rv, rw'⟩ := rl
    refine ⟨v, ws, rfl, h2 n Z H0 m r σ H hn q hm d v _ rv ?_⟩
    simp only [bsCons] at p
    cases e1 : tb d r with
    | none =>
      rw [e1] at p
      exact False.elim p
    | some r1 =>
      rw [e1] at p
      simp only at p ⊢
      intro σ1 q1 s1
      refine h4 n Z H0 m r1 σ1 H hn q1 hm ds ws Q rw' ?_
      cases e2 : tbs ds r1 with
      | none =>
        rw [e2] at p
        exact False.elim p
      | some r2 =>
        rw [e2] at p
        exact fun σ2 q2 s2 => p σ2 q2 (s2.trans s1)
theorem cg_tup {j : Nat} (hc : X.calm = true) (h : CGs X vs es tbs) (hn : (assignEach es X.env).length = n := by rfl) (hst : (assignEach es X.env).findIdx? (·.1) = none := by rfl) : CG X vs (.Tuple es j pos) (bTup n tbs) := by
  obtain ⟨t, h1, h2⟩ := h.ex
  refine ⟨_, pg_or (pg_tup hc h1 hn hst) (pg_unl hc h1 hn hst), fun n' Z H0 m r σ H hn' q hm d v Q rv p => ?_⟩
  unfold bTup at p
  have go : ∀ (ds : List D) (us : List V), seqD d = some ds → RepL X.K X.mg (hid Z m H) ds us → us.length = n ∧ t us σ H Q := fun ds us e rl => by
    rw [e] at p
    simp only at p
    by_cases el : ds.length = n
    · rw [if_pos el] at p
      exact ⟨by rw [rl.length, el], h2 n' Z H0 m r σ H hn' q hm ds us Q rl p⟩
    · rw [if_neg el] at p
      exact False.elim p
  cases d <;> simp only [seqD] at p <;> try exact False.elim p
  · simp only [Rep] at rv
    obtain ⟨a, us, rfl, hq, t'⟩ := rv
    obtain ⟨g1, g2⟩ := go _ us rfl t'
    exact .inl ⟨a, us, rfl, Same.seqT hid_sub hq, g1, g2⟩
  · simp only [Rep] at rv
    obtain ⟨a, us, rfl, hq, t'⟩ := rv
    obtain ⟨g1, g2⟩ := go _ us rfl t'
    exact .inr ⟨a, us, rfl, .inl (.inl (hid_sub _ _ hq)), g1, g2⟩
  · simp only [Rep] at rv
    obtain ⟨a, us, rfl, hq, t'⟩ := rv
    obtain ⟨g1, g2⟩ := go _ us rfl t'
    exact .inr ⟨a, us, rfl, Same.seq hid_sub hq, g1, g2⟩
/-! a, b, .. = e -/
def mAsg (tb : D → Sc → Option Sc) (me : ME) : MS := fun r => toFl r (me r) fun d => match tb d r with
  | some r' => .nx r'
  | none => .bad
theorem es_asgT {tg : Expr} (he : EE X W e me) (hg : EG X tg tb) (hs : swapsWithSole [tg] e pos.line X.env = pure false := by rfl) (hw : swappedStores [tg] e X.env = pure none := by rfl)
    (h1 : (assignEach [tg] X.env).map (·.2) = [assign tg X.env] := by rfl) : ES X W (.Assign [tg] e pos) (mAsg tb me) := by
  obtain ⟨t, g1, g2⟩ := he.ex
  obtain ⟨g, g3, g4⟩ := hg.ex
  refine ⟨_, ps_asg g1 g3 hs hw h1, fun n Z H0 m r σ H hn q D p => ?_⟩
  refine g2 n Z H0 m r σ H q _ ((toFl_post q p).imp fun d k v H1 s1 rv => ?_)
  refine g4 n Z H0 m r σ H1 hn (q.grow s1) d v _ rv ?_
  cases e1 : tb d r with
  | none =>
    rw [e1] at k
    exact False.elim k
  | some r' =>
    rw [e1] at k
    exact fun m' σ' q' s' => k m' σ' H1 q' ((hid_mono s1).trans s')
end
end QB

namespace QB
open PySem PySem.Spec PyProof.Rows L2
/-! ### own classes with an __init__ of stores -/
/-- the fields of c may be read -/
def ClsA (K : PySem.W.Frag) (mg : Str → Option Value) (fs : List Str) (c : Str) : Prop := ∃ C : Addr, mg c = some (.ref C) ∧ Cls K C ∧ ∀ f ∈ fs, NoAttr K C f
theorem Rel.updZ {K : PySem.W.Frag} {mg : Str → Option Value} {n : Nat} {Z : Addr → Prop} {H0 : Hp} {m : Nat → Option Addr} {r : Sc} {σ : L2.St} {H : Hp} (q : Rel K mg n Z H0 m r σ H) {a : Addr} {o : HO} (hz : Z a) (h0 : H0 a = none) : Rel K mg n Z H0 m r σ (upd H a o) ∧ hid Z m (upd H a o) = hid Z m H := by
  have hh : hid Z m (upd H a o) = hid Z m H := by
    funext b
    unfold hid
    split
    · rfl
    · rename_i g
      rw [upd_ne fun e => g (.inl (by rw [e]; exact hz))]
  refine ⟨⟨q.lenr, q.lens, fun i d h => ?_, fun i c h => ?_, q.dom, q.inj, q.frs, fun b hb e => ?_, fun b x e => ?_⟩, hh⟩
  · rw [hh]
    exact q.val i d h
  · rw [hh]
    obtain ⟨b, o', h1, h2, h3, h4⟩ := q.own i c h
    exact ⟨b, o', h1, h2, by rw [upd_ne fun e => (q.frs i b h1).2 (by rw [e]; exact hz)]; exact h3, h4⟩
  · by_cases eb : b = a
    · rw [eb, upd_same] at e
      cases e
    · rw [upd_ne eb] at e
      exact q.zed b hb e
  · rw [upd_ne fun z => by rw [z, h0] at e; cases e]
    exact q.same _ _ e
theorem putF_new {f : Str} {y : V} : ∀ {gs : List Str} {us : List V}, gs.length = us.length → f ∉ gs → putF f y (gs.zip us) = (gs ++ [f]).zip (us ++ [y])
  | [], [], _, _ => rfl
  | g :: gs, u :: us, h, hn => by
    have h1 : ¬ g = f := fun e => hn (by rw [e]; exact List.mem_cons_self)
    have h2 := putF_new (f := f) (y := y) (gs := gs) (us := us) (by simpa using h) (fun z => hn (List.mem_cons_of_mem _ z))
    show (if g = f then _ else (g, u) :: putF f y (gs.zip us)) = _
    rw [if_neg h1, h2]
    rfl
  | [], _ :: _, h, _ => by simp at h
  | _ :: _, [], h, _ => by simp at h
/-- stores of the fields fs, one after another -/
def InitC (X : Cx) (ts : TS) (fs : List Str) (ms : MA) : Prop := ∀ (D : Ends) (n : Nat) (Z : Addr → Prop) (H0 : Hp) (m : Nat → Option Addr) (r : Sc) (σ : L2.St) (H : Hp) (a C dx : Addr) (gs : List Str) (us : List V), Rel X.K X.mg n Z H0 m r σ H → Z a → H0 a = none → σ[0]? = some (some (.ref a)) →
  Cls X.K C → (∀ f ∈ fs, NoAttr X.K C f) → H a = some (.ins C dx (gs.zip us)) → gs.length = us.length → gs.length + fs.length ≤ 900 → (gs ++ fs).Nodup →
  (match ms r with
    | .ok ds => ∀ (ws : List V) (H' : Hp), (∀ b o, b ≠ a → H b = some o → H' b = some o) → H' a = some (.ins C dx ((gs ++ fs).zip (us ++ ws))) → ws.length = fs.length → RepL X.K X.mg (hid Z m H') ds ws → D.nx σ H'
    | _ => False) → ts D σ H
structure IC (X : Cx) (sts : List Stmt) (fs : List Str) (ms : MA) : Prop where
  ex : ∃ ts, PSs X sts ts ∧ InitC X ts fs ms
section
variable {X : Cx} {W : WX} {a b c e : Expr} {es : List Expr} {ma mb mc me : ME} {ms : MA} {pos p1 p2 p3 p4 : Pos} {k kk n : Nat} {x z f : Str} {fs : List Str} {sts : List Stmt}
theorem ic_nil : IC X [] [] mNil := ⟨_, pss_nil, fun D n Z H0 m r σ H a C dx gs us q hz h0 s0 cl nof ea hl hk hd p => by
  refine p [] H (fun b o _ h => h) ?_ rfl RepL.nil
  rw [List.append_nil, List.append_nil]
  exact ea⟩
theorem ic_cons (he : EE X W e me) (g : IC X sts fs ms) (h0 : X.N[0]? = some z) (hv0 : Vis X.env.scope z) (d0 : (z == ("__debug__" : Str)) = false) (c0 : (z == ("__classdict__" : Str)) = false)
    (hs : swapsWith e (some (.Attribute (.Name z p1) f p2)) p4.line X.env = pure false := by rfl) : IC X (.Assign [.Attribute (.Name z p1) f p2] e p4 :: sts) (f :: fs) (mCons me ms) := by
  obtain ⟨te, e1, e2⟩ := he.ex
  obtain ⟨u, g1, g2⟩ := g.ex
  refine ⟨_, pss_cons (ps_fld (pv 0 h0 hv0 d0 c0) e1 hs) g1, fun D n Z H0 m r σ H a C dx gs us q hz hn0 s0 cl nof ea hl hk hd p => ?_⟩
  unfold mCons at p
  cases em : me r with
  | exc cc ns xs =>
    rw [em] at p
    exact False.elim p
  | bad =>
    rw [em] at p
    exact False.elim p
  | ok d =>
    rw [em] at p
    simp only [R.bind] at p
    refine e2 n Z H0 m r σ H q _ ?_
    rw [em]
    intro y H1 s1 ry
    have q1 := q.grow s1
    have ea1 := s1 _ _ ea
    have hfg : f ∉ gs := fun z2 => by
      have := List.nodup_append.mp hd
      exact this.2.2 f z2 f List.mem_cons_self rfl
    refine ⟨.ref a, s0, a, C, dx, gs.zip us, rfl, ea1, cl, nof f List.mem_cons_self, ?_, ?_⟩
    · rw [List.length_zip, ← hl]
      simp at hk ⊢
      omega
    · rw [putF_new hl hfg]
      obtain ⟨q2, hh⟩ := q1.updZ (o := .ins C dx ((gs ++ [f]).zip (us ++ [y]))) hz hn0
      refine g2 _ n Z H0 m r σ _ a C dx (gs ++ [f]) (us ++ [y]) q2 hz hn0 s0 cl (fun f' hf' => nof f' (List.mem_cons_of_mem _ hf')) upd_same (by simp [hl]) (by simp at hk ⊢; omega) (by simpa using hd) ?_
      cases ems : ms r with
      | exc cc ns xs =>
        rw [ems] at p
        exact False.elim p
      | bad =>
        rw [ems] at p
        exact False.elim p
      | ok ds =>
        rw [ems] at p
        simp only at p ⊢
        intro ws H' kp ea' hw rl
        refine p (y :: ws) H' (fun b o hb h => kp b o hb (by rw [upd_ne hb]; exact s1 _ _ h)) ?_ (by simp [hw]) (RepL.cons ?_ rl)
        · rw [List.append_assoc, List.append_assoc] at ea'
          exact ea'
        · refine ry.mono fun b o h => ?_
          obtain ⟨g3, g4, g5⟩ := of_hid h
          exact hid_of (kp b o (fun z2 => g4 (by rw [z2]; exact hz)) (by rw [upd_ne fun z2 => g4 (by rw [z2]; exact hz)]; exact g3)) g4 g5
end
/-- what __init__ promises -/
def SpC (K : PySem.W.Frag) (mg : Str → Option Value) (fs : List Str) (n : Nat) (mi : List D → R (List D)) : Sp := fun vs H Q E => ∃ (a C dx : Addr) (ws : List V) (ds : List D) (Z : Addr → Prop), vs = .ref a :: ws ∧ ws.length = n ∧ Cls K C ∧ (∀ f ∈ fs, NoAttr K C f) ∧ H a = some (.ins C dx []) ∧ (∀ b, Z b → H b ≠ none) ∧ Z a ∧ RepL K mg (hid Z nom H) ds ws ∧
  (match mi ds with
    | .ok xs => ∀ (us : List V) (H' : Hp), (∀ b o, b ≠ a → H b = some o → H' b = some o) → H' a = some (.ins C dx (fs.zip us)) → us.length = fs.length → RepL K mg (hid Z nom H') xs us → Q .non H'
    | _ => False)
def mInit (n : Nat) (ms : MA) : List D → R (List D) := fun ds => ms (none :: mStart n ds)
theorem init_okC {P : Program} {w : World} {K : PySem.W.Frag} {mg : Str → Option Value} {base : Heap} {x qual : Str} {st : Stmt} {f : Addr} {fd : FuncData} {N ps : List Str} {fs : List Str} {k np nn : Nat} {ms : MA} (F : Fun K x qual st f fd) (S : FnScope N ps (defScope st)) (hp : ps.length = np + 1) (hN : N.length = nn + 1) (hnn : np ≤ nn) (hfs : fs.Nodup) (hfl : fs.length ≤ 900)
    (hb : ∀ (cdv : Value) (A : Around) (outer : List Env) (s : Shared) (H : Hp) (E : XK), Room k (A.deeper (envOfC qual (defScope st) s.heap.objs.size f cdv)) →
      Takes (cxOf (L2.CX P w) P w K mg base N qual (defScope st) f cdv A outer s H E) (fun cls d _ H => E cls d H) →
      PassesOwn (model P w) (cxOf (L2.CX P w) P w K mg base N qual (defScope st) f cdv A outer s H E).A (cxOf (L2.CX P w) P w K mg base N qual (defScope st) f cdv A outer s H E).env (cxOf (L2.CX P w) P w K mg base N qual (defScope st) f cdv A outer s H E).xe →
      IC (cxOf (L2.CX P w) P w K mg base N qual (defScope st) f cdv A outer s H E) (defBody st) fs ms) : FnOk P w K mg base (L2.CX P w) (k + 1) f fd ps (SpC K mg fs np (mInit nn ms)) := by
  refine F.okX S (fun vs H Q E h => ?_) fun cdv A outer s H vs Q E hr h => ?_
  · obtain ⟨a, C, dx, ws, ds, Z, rfl, hl, _⟩ := h
    rw [List.length_cons, hl, hp]
  · obtain ⟨a, C, dx, ws, ds, Z, rfl, hl, cl, nof, ea, hz, za, rl, p⟩ := h
    obtain ⟨t, h1, h2⟩ := (hb cdv A outer s H E hr (takes_of rfl rfl rfl rfl) (passes_of rfl)).ex
    refine ⟨t, h1, ?_⟩
    obtain ⟨y, N', rfl⟩ : ∃ y N', N = y :: N' := by
      cases N with
      | nil => simp at hN
      | cons y N' => exact ⟨y, N', rfl⟩
    have hN' : N'.length = nn := by simpa using hN
    have q0 : Rel K mg N'.length Z H nom (mStart N'.length ds) (L2.start N' ws) H := start_rel hz rl (by omega)
    have es : L2.start (y :: N') (.ref a :: ws) = some (.ref a) :: L2.start N' ws := by
      unfold L2.start
      simp
    let H0 : Hp := fun b => if b = a then none else H b
    have q : Rel K mg (N'.length + 1) Z H0 nom (none :: mStart N'.length ds) (L2.start (y :: N') (.ref a :: ws)) H := by
      rw [es]
      refine ⟨by rw [List.length_cons, q0.lenr], by rw [List.length_cons, q0.lens], fun i d hi => ?_, fun i c hi => ?_, fun i b e => (nomatch e), fun i j b e => (nomatch e), fun i b e => (nomatch e), hz, fun b o e => ?_⟩
      · cases i with
        | zero => simp at hi
        | succ i => exact q0.val i d (by simpa using hi)
      · cases i with
        | zero => simp at hi
        | succ i =>
          obtain ⟨b, o, h3, _⟩ := q0.own i c (by simpa using hi)
          cases h3
      · have e' : (if b = a then none else H b) = some o := e
        split at e'
        · cases e'
        · exact e'
    refine h2 _ _ Z H0 nom _ _ H a C dx [] [] q za (if_pos rfl) (by rw [es]; rfl) cl nof ea rfl (by simpa using hfl) (by simpa using hfs) ?_
    unfold mInit at p
    rw [← hN'] at p
    cases em : ms (none :: mStart N'.length ds) with
    | exc cc ns xs =>
      rw [em] at p
      exact False.elim p
    | bad =>
      rw [em] at p
      exact False.elim p
    | ok xs =>
      rw [em] at p
      simp only at p ⊢
      intro us H' kp ea' hu ru
      exact p us H' kp ea' hu ru
/-- what the top has of a class that may be made -/
structure ClsT (P : Program) (w : World) (K : PySem.W.Frag) (mg : Str → Option Value) (base : Heap) (k : Nat) (c : Str) (fs : List Str) (n : Nat) (mi : List D → R (List D)) : Prop where
  ex : ∃ (C fI : Addr) (fd : FuncData) (ps : List Str), mg c = some (.ref C) ∧ Cls K C ∧ (∀ f ∈ fs, NoAttr K C f) ∧ Mk K C fI ∧ Binds K fd ps [] ∧ FnOk P w K mg base (L2.CX P w) k fI fd ps (SpC K mg fs n mi)
/-- .. told of the text alone -/
structure ClsF (K : PySem.W.Frag) (mg : Str → Option Value) (c : Str) (fs : List Str) (x qual : Str) (st : Stmt) : Prop where
  ex : ∃ (C fI : Addr) (fd : FuncData), mg c = some (.ref C) ∧ Cls K C ∧ (∀ f ∈ fs, NoAttr K C f) ∧ Mk K C fI ∧ Fun K x qual st fI fd
theorem ClsF.a {K : PySem.W.Frag} {mg : Str → Option Value} {c x qual : Str} {fs : List Str} {st : Stmt} (T : ClsF K mg c fs x qual st) : ClsA K mg fs c := by
  obtain ⟨C, fI, fd, h1, h2, h3, _⟩ := T.ex
  exact ⟨C, h1, h2, h3⟩
theorem cls_mk {P : Program} {w : World} {K : PySem.W.Frag} {mg : Str → Option Value} {base : Heap} {c x qual : Str} {st : Stmt} {fs ps : List Str} {k n : Nat} {mi : List D → R (List D)} (T : ClsF K mg c fs x qual st) (hb : ∀ {f : Addr} {fd : FuncData}, Fun K x qual st f fd → Binds K fd ps [])
    (hf : ∀ {f : Addr} {fd : FuncData}, Fun K x qual st f fd → FnOk P w K mg base (L2.CX P w) k f fd ps (SpC K mg fs n mi)) : ClsT P w K mg base k c fs n mi := by
  obtain ⟨C, fI, fd, h1, h2, h3, h4, F⟩ := T.ex
  exact ⟨C, fI, fd, ps, h1, h2, h3, h4, hb F, hf F⟩
theorem ClsA.one {K : PySem.W.Frag} {mg : Str → Option Value} {c f : Str} {fs : List Str} (h : ClsA K mg fs c) (hf : f ∈ fs) : ClsA K mg [f] c := by
  obtain ⟨C, h1, h2, h3⟩ := h
  exact ⟨C, h1, h2, fun g hg => by rw [List.mem_singleton.mp hg]; exact h3 f hf⟩
theorem clsA_nil {K : PySem.W.Frag} {mg : Str → Option Value} {f : Str} : ∀ c ∈ ([] : List Str), ClsA K mg [f] c := fun c h => by cases h
theorem clsA_cons {K : PySem.W.Frag} {mg : Str → Option Value} {f c0 : Str} {cs : List Str} (h : ClsA K mg [f] c0) (g : ∀ c ∈ cs, ClsA K mg [f] c) : ∀ c ∈ c0 :: cs, ClsA K mg [f] c := fun c hc => by
  rcases List.mem_cons.mp hc with rfl | hc
  · exact h
  · exact g c hc
/-- a method, told of the text alone -/
structure MetF (K : PySem.W.Frag) (mg : Str → Option Value) (c mn qual : Str) (st : Stmt) : Prop where
  ex : ∃ (C f : Addr) (fd : FuncData), mg c = some (.ref C) ∧ Cls K C ∧ Meth K C mn f ∧ Fun K mn qual st f fd
section
variable {X : Cx} {W : WX} {a b c e : Expr} {es : List Expr} {ma mb mc me : ME} {ms : MA} {pos p1 p2 p3 p4 : Pos} {k kk n : Nat} {x z f : Str} {fs : List Str} {mi : List D → R (List D)}
/-- C(e, ..) -/
def mMake (c : Str) (fs : List Str) (mi : List D → R (List D)) (ms : MA) : ME := fun r => (ms r).bind fun ds => match mi ds with
  | .ok xs => if xs.length = fs.length then .ok (.ins c fs xs) else .bad
  | _ => .bad
theorem ee_make (tk : Takes X W) (T : ClsT X.prog X.w X.K X.mg X.base k x fs n mi) (hr : Room kk X.A) (hk : k + 1 ≤ kk) (ha : EA X W (a :: es) ms) (hl : ALen ms n) (hg : Gl X x := by rfl) (hdb : (x == ("__debug__" : Str)) = false := by decide)
    (he : starEach (a :: es) X.env = (false, eval a X.env) :: starEach es X.env := by rfl) (hpl : (backTo pos (starEach es X.env)).any (·.1) = false := by rfl) : EE X W (.Call (.Name x p1) (a :: es) [] pos) (mMake x fs mi ms) := by
  obtain ⟨C, fI, fd, ps, gC, cl, nof, mk, hb, F⟩ := T.ex
  obtain ⟨t, h1, h2⟩ := ha.ex
  refine ⟨_, pe_make mk F (hr.mono hk) hg gC hb .nil (passes_call (E := fun _ _ _ => False) tk (fun _ _ _ _ z => z.elim)) h1 hdb he hpl, fun nn Z H0 m r σ H q Q p => ?_⟩
  unfold mMake at p
  have p' := p.bind
  cases em : ms r with
  | exc cc ns xs =>
    refine h2 nn Z H0 m r σ H q _ ?_
    rw [em] at p' ⊢
    exact p'
  | bad =>
    rw [em] at p'
    exact False.elim p'
  | ok ds =>
    refine h2 nn Z H0 m r σ H q _ ?_
    rw [em] at p' ⊢
    have hlen := hl r ds em
    intro vs H1 s1 rx y dx ny nd ne
    have q1 := q.grow s1
    simp only [PostG] at p'
    refine ⟨y, C, dx, vs ++ [], ds, fun b => Z b ∨ (∃ i, m i = some b) ∨ b = y, rfl, by rw [List.append_nil, rx.length, hlen], cl, nof, upd_same, ?_, .inr (.inr rfl), ?_, ?_⟩
    · rintro b (h | ⟨i, h⟩ | h) e
      · have := q1.zed b h
        by_cases eb : b = y
        · rw [eb, upd_same] at e
          cases e
        · rw [upd_ne eb] at e
          by_cases ed : b = dx
          · rw [ed, upd_same] at e
            cases e
          · rw [upd_ne ed] at e
            exact this e
      · obtain ⟨o, ho⟩ := q1.alive h
        have eb : b ≠ y := fun z2 => by
          rw [z2, ny] at ho
          cases ho
        have ed : b ≠ dx := fun z2 => by
          rw [z2, nd] at ho
          cases ho
        rw [upd_ne eb, upd_ne ed, ho] at e
        cases e
      · rw [h, upd_same] at e
        cases e
    · rw [List.append_nil]
      refine rx.mono fun b o h => ?_
      obtain ⟨g1, g2, g3⟩ := of_hid h
      have eb : b ≠ y := fun z2 => by
        rw [z2, ny] at g1
        cases g1
      have ed : b ≠ dx := fun z2 => by
        rw [z2, nd] at g1
        cases g1
      refine hid_of (by rw [upd_ne eb, upd_ne ed]; exact g1) (fun z2 => ?_) (fun i e => by cases e)
      rcases z2 with z2 | ⟨i, z2⟩ | z2
      · exact g2 z2
      · exact g3 i z2
      · exact eb z2
    · cases emi : mi ds with
      | exc cc ns xs =>
        rw [emi] at p'
        exact False.elim p'
      | bad =>
        rw [emi] at p'
        exact False.elim p'
      | ok xs =>
        rw [emi] at p'
        simp only at p' ⊢
        intro us H' kp ea hu ru
        have hx : xs.length = fs.length := by rw [← ru.length, hu]
        rw [if_pos hx] at p'
        have sH : Same H1 H' := fun b o h => by
          have eb : b ≠ y := fun z2 => by
            rw [z2, ny] at h
            cases h
          have ed : b ≠ dx := fun z2 => by
            rw [z2, nd] at h
            cases h
          exact kp b o eb (by rw [upd_ne eb, upd_ne ed]; exact h)
        refine ⟨by trivial, p' (.ref y) H' (s1.trans sH) ?_⟩
        simp only [Rep]
        refine ⟨y, C, dx, us, rfl, gC, hid_of ea (q1.new ny).1 (q1.new ny).2, hx.symm, ru.mono fun b o h => ?_⟩
        obtain ⟨g1, g2, g3⟩ := of_hid h
        exact hid_of g1 (fun z2 => g2 (.inl z2)) (fun i z2 => g2 (.inr (.inl ⟨i, z2⟩)))
/-- e.f -/
def mFld (cs : List Str) (f : Str) (me : ME) : ME := fun r => (me r).bind fun d => match d with
  | .ins c ns xs => if c ∈ cs then (match (ns.zip xs).lookup f with
    | some x => .ok x
    | none => .bad) else .bad
  | _ => .bad
theorem look_rep {K : PySem.W.Frag} {mg : Str → Option Value} {G : Hp} {f : Str} : ∀ {ns : List Str} {xs : List D} {vs : List V} {x : D}, RepL K mg G xs vs → (ns.zip xs).lookup f = some x → ∃ v, (ns.zip vs).lookup f = some v ∧ Rep K mg G x v
  | [], xs, vs, x, _, h => by simp at h
  | n :: ns, [], vs, x, _, h => by simp at h
  | n :: ns, y :: xs, vs, x, rl, h => by
    simp only [RepL] at rl
    obtain ⟨v, us, rfl, rv, t⟩ := rl
    rw [List.zip_cons_cons, List.lookup_cons] at h ⊢
    cases e : f == n with
    | true =>
      rw [e] at h
      cases h
      exact ⟨v, rfl, rv⟩
    | false =>
      rw [e] at h
      exact look_rep t h
theorem ee_fld {cs : List Str} (ha : EE X W a me) (hc : ∀ c ∈ cs, ClsA X.K X.mg [f] c) (hb : attributeBase a f X.env (eval a X.env) = eval a X.env := by rfl) : EE X W (.Attribute a f pos) (mFld cs f me) := by
  obtain ⟨t, h1, h2⟩ := ha.ex
  refine ⟨_, pe_fld h1 hb, fun n Z H0 m r σ H q Q p => ?_⟩
  unfold mFld at p
  refine h2 n Z H0 m r σ H q _ (p.bind.imp fun d k v H1 s1 rv => ?_)
  cases d <;> try exact False.elim k
  rename_i c ns xs
  simp only [Rep] at rv
  obtain ⟨a1, C, dx, vs, rfl, gC, ea, hl, rl⟩ := rv
  simp only at k
  by_cases hm : c ∈ cs
  · rw [if_pos hm] at k
    obtain ⟨C', gC', cl, nof⟩ := hc c hm
    rw [gC] at gC'
    cases gC'
    cases el : (ns.zip xs).lookup f with
    | none =>
      rw [el] at k
      exact False.elim k
    | some x =>
      rw [el] at k
      obtain ⟨v, lv, rv⟩ := look_rep rl el
      exact ⟨a1, C, dx, _, v, rfl, hid_sub _ _ ea, cl, nof f (List.mem_singleton.mpr rfl), lv, k v H1 s1 rv⟩
  · rw [if_neg hm] at k
    exact False.elim k
/-! methods -/
structure MetT (P : Program) (w : World) (K : PySem.W.Frag) (mg : Str → Option Value) (base : Heap) (k : Nat) (c mn : Str) (n : Nat) (mf : List D → R D) : Prop where
  ex : ∃ (C f : Addr) (fd : FuncData) (ps : List Str), mg c = some (.ref C) ∧ Cls K C ∧ Meth K C mn f ∧ Binds K fd ps [] ∧ FnOk P w K mg base (L2.CX P w) k f fd ps (PF K mg (n + 1) mf)
theorem met_mk {P : Program} {w : World} {K : PySem.W.Frag} {mg : Str → Option Value} {base : Heap} {c mn qual : Str} {st : Stmt} {ps : List Str} {k n : Nat} {mf : List D → R D} (T : MetF K mg c mn qual st) (hb : ∀ {f : Addr} {fd : FuncData}, Fun K mn qual st f fd → Binds K fd ps [])
    (hf : ∀ {f : Addr} {fd : FuncData}, Fun K mn qual st f fd → FnOk P w K mg base (L2.CX P w) k f fd ps (PF K mg (n + 1) mf)) : MetT P w K mg base k c mn n mf := by
  obtain ⟨C, f, fd, h1, h2, h3, F⟩ := T.ex
  exact ⟨C, f, fd, ps, h1, h2, h3, hb F, hf F⟩
def mOk (x : R D) : R D := match x with
  | .ok d => .ok d
  | _ => .bad
def mMeth (c mn : Str) (mf : List D → R D) (me : ME) (ms : MA) : ME := fun r => (me r).bind fun d => match d with
  | .ins c' ns xs => if c' = c ∧ (ns.zip xs).lookup mn = none then (ms r).bind fun ds => mOk (mf (d :: ds)) else .bad
  | _ => .bad
theorem look_none {f : Str} : ∀ {ns : List Str} {xs : List D} {vs : List V}, xs.length = vs.length → (ns.zip xs).lookup f = none → (ns.zip vs).lookup f = none
  | [], xs, vs, _, h => by simp
  | n :: ns, [], vs, hl, h => by
    have : vs = [] := List.eq_nil_of_length_eq_zero hl.symm
    rw [this]
    simp
  | n :: ns, y :: xs, [], hl, h => by simp at hl
  | n :: ns, y :: xs, v :: vs, hl, h => by
    rw [List.zip_cons_cons, List.lookup_cons] at h ⊢
    cases e : f == n with
    | true =>
      rw [e] at h
      cases h
    | false =>
      rw [e] at h
      exact look_none (by simpa using hl) h
theorem SimE.meth {C : Addr} {mn cn : Str} {mf : List D → R D} {te : TE} {ta : TA} (h2 : SimE X W te me) (h4 : SimA X W ta ms) (gC : X.mg cn = some (.ref C)) (hl : ALen ms n) :
    SimE X W (tMeth C mn (PF X.K X.mg (n + 1) mf) [] (fun _ _ _ => False) te ta) (mMeth cn mn mf me ms) := fun nn Z H0 m r σ H q Q p => by
  unfold mMeth at p
  refine h2 nn Z H0 m r σ H q _ (p.bind.imp fun d k v H1 s1 rv => ?_)
  cases d <;> try exact False.elim k
  rename_i c ns xs
  have rv0 := rv
  simp only [Rep] at rv
  obtain ⟨a1, C', dx, vs, rfl, gC', ea, hlx, rl⟩ := rv
  simp only at k
  by_cases hm : c = cn ∧ (ns.zip xs).lookup mn = none
  · rw [if_pos hm] at k
    obtain ⟨rfl, hno⟩ := hm
    rw [gC] at gC'
    cases gC'
    refine ⟨a1, dx, _, rfl, hid_sub _ _ ea, look_none rl.length.symm hno, ?_⟩
    have q1 := q.grow s1
    have k' := (k.grow s1).bind
    cases em : ms r with
    | exc cc ns2 xs2 =>
      refine h4 nn Z H0 m r σ H1 q1 _ ?_
      rw [em] at k' ⊢
      exact k'
    | bad =>
      rw [em] at k'
      exact False.elim k'
    | ok ds =>
      refine h4 nn Z H0 m r σ H1 q1 _ ?_
      rw [em] at k' ⊢
      intro us H2 s2 rx
      have q2 := q1.grow s2
      refine ⟨by rw [List.length_cons, List.append_nil, rx.length, hl r ds em], .ins c ns xs :: ds, fun b => Z b ∨ ∃ i, m i = some b, q2.zed', ?_, ?_⟩
      · rw [hid_join, List.append_nil]
        exact RepL.cons (rv0.mono (hid_mono s2)) rx
      · have k2 := PostG.grow k' s2
        simp only [PostG] at k2
        cases ef : mf (.ins c ns xs :: ds) with
        | exc cc ns2 xs2 =>
          rw [ef] at k2
          exact False.elim k2
        | bad =>
          rw [ef] at k2
          exact False.elim k2
        | ok d2 =>
          rw [ef] at k2
          intro v2 H3 s3 r3
          rw [hid_join] at r3
          exact k2 v2 H3 (s1.trans (s2.trans s3)) r3
  · rw [if_neg hm] at k
    exact False.elim k
theorem ee_meth0 {pl : Sem Bool} {mn cn : Str} {mf : List D → R D} {apos : Pos} (tk : Takes X W) (T : MetT X.prog X.w X.K X.mg X.base k cn mn 0 mf) (hr : Room kk X.A) (hk : k ≤ kk) (ha : EE X W a me)
    (ht : eval (.Call (.Attribute a mn apos) [] [] pos) X.env = (do
      let ov ← eval a X.env
      standAt apos.atName
      let (f, first) ← holding [ov] (getMethod ov mn pl)
      callWith pos f first (backTo pos (starEach [] X.env)) (backToKw pos (keywordEach [] X.env))) := by rfl) : EE X W (.Call (.Attribute a mn apos) [] [] pos) (mMeth cn mn mf me mNil) := by
  obtain ⟨C, f, fd, ps, gC, cl, hm, hb, F⟩ := T.ex
  obtain ⟨t, h1, h2⟩ := ha.ex
  exact ⟨_, pe_meth0 h1 cl hm F (hr.mono hk) hb .nil (passes_call (E := fun _ _ _ => False) tk (fun _ _ _ _ z => z.elim)) ht, SimE.meth h2 (fun n Z H0 m r σ H q Q p => p [] H (Same.refl H) RepL.nil) gC (fun r ds e => by cases e; rfl)⟩
theorem ee_meth {pl : Sem Bool} {mn cn : Str} {mf : List D → R D} {apos : Pos} (tk : Takes X W) (T : MetT X.prog X.w X.K X.mg X.base k cn mn n mf) (hr : Room kk X.A) (hk : k ≤ kk) (ha : EE X W a me) (hs : EA X W (e :: es) ms) (hl : ALen ms n)
    (hst : starEach (e :: es) X.env = (false, eval e X.env) :: starEach es X.env := by rfl) (hpl : (backTo pos (starEach es X.env)).any (·.1) = false := by rfl)
    (ht : eval (.Call (.Attribute a mn apos) (e :: es) [] pos) X.env = (do
      let ov ← eval a X.env
      standAt apos.atName
      let (f, first) ← holding [ov] (getMethod ov mn pl)
      callWith pos f first (backTo pos (starEach (e :: es) X.env)) (backToKw pos (keywordEach [] X.env))) := by rfl) : EE X W (.Call (.Attribute a mn apos) (e :: es) [] pos) (mMeth cn mn mf me ms) := by
  obtain ⟨C, f, fd, ps, gC, cl, hm, hb, F⟩ := T.ex
  obtain ⟨t, h1, h2⟩ := ha.ex
  obtain ⟨u, h3, h4⟩ := hs.ex
  exact ⟨_, pe_meth h1 cl hm F (hr.mono hk) hb .nil (passes_call (E := fun _ _ _ => False) tk (fun _ _ _ _ z => z.elim)) h3 hst hpl ht, SimE.meth h2 h4 gC hl⟩
end
end QB

namespace QB
open PySem PySem.Spec PyProof.Rows L2
/-! ### dicts with numbers and texts as keys -/
def keyD : D → Option Key
  | .int i => some (.inl i)
  | .str s => some (.inr s)
  | _ => none
theorem keyD_rep {K : PySem.W.Frag} {mg : Str → Option Value} {G : Hp} {d : D} {v : V} {k : Key} (h : Rep K mg G d v) (e : keyD d = some k) : v = kV k := by
  cases d <;> simp only [keyD, Option.some.injEq, reduceCtorEq] at e <;> subst e <;> (simp only [Rep] at h; exact h)
def dlook : List Key → List D → Key → Option D
  | k :: ks, x :: xs, q => if k = q then some x else dlook ks xs q
  | _, _, _ => none
theorem dlook_some {K : PySem.W.Frag} {mg : Str → Option Value} {G : Hp} {q : Key} : ∀ {ks : List Key} {xs : List D} {vs : List V} {x : D}, RepL K mg G xs vs → dlook ks xs q = some x → ∃ v, valV (ks.zip vs) q = some v ∧ Rep K mg G x v
  | [], xs, vs, x, _, h => by simp [dlook] at h
  | k :: ks, [], vs, x, _, h => by simp [dlook] at h
  | k :: ks, y :: xs, vs, x, rl, h => by
    simp only [RepL] at rl
    obtain ⟨v, us, rfl, rv, t⟩ := rl
    simp only [dlook] at h
    by_cases e : k = q
    · rw [if_pos e] at h
      cases h
      exact ⟨v, by rw [List.zip_cons_cons]; exact valV_pos e, rv⟩
    · rw [if_neg e] at h
      obtain ⟨w, h1, h2⟩ := dlook_some t h
      refine ⟨w, ?_, h2⟩
      rw [List.zip_cons_cons]
      unfold valV at h1 ⊢
      rw [List.find?_cons]
      simp only [decide_eq_false e]
      exact h1
theorem val_zip {q : Key} : ∀ {ks : List Key} {vs : List V}, ks.length = vs.length → (valV (ks.zip vs) q).isSome = ks.any fun k => decide (k = q)
  | [], vs, _ => by simp [valV]
  | k :: ks, [], h => by simp at h
  | k :: ks, v :: vs, h => by
    have ih := val_zip (q := q) (ks := ks) (vs := vs) (by simpa using h)
    rw [List.zip_cons_cons, List.any_cons]
    unfold valV at ih ⊢
    rw [List.find?_cons]
    by_cases e : k = q
    · simp [e]
    · simp only [decide_eq_false e, Bool.false_or]
      exact ih
section
variable {X : Cx} {W : WX} {a b c e : Expr} {es : List Expr} {ma mb mc me : ME} {ms : MA} {pos p1 p2 p3 p4 : Pos} {k kk n : Nat} {x z f : Str}
def dDin (neg : Bool) (x d : D) : R D := match keyD x, d with
  | some q, .dct ks _ => .ok (.bl ((ks.any fun k => decide (k = q)) != neg))
  | _, _ => .bad
theorem SimE.din {te td : TE} (h2 : SimE X W te ma) (h4 : SimE X W td mb) : SimE X W (tDIn te td) (mBin (dDin false) ma mb) ∧ SimE X W (tDNotIn te td) (mBin (dDin true) ma mb) := by
  constructor
  all_goals
    intro n Z H0 m r σ H q Q p
    unfold mBin at p
    refine h2 n Z H0 m r σ H q _ (p.bind.imp fun d k v H1 s1 rv => ?_)
    refine h4 n Z H0 m r σ H1 (q.grow s1) _ ((k.grow s1).bind.imp fun d2 k2 w H2 s2 rw2 => ?_)
    unfold dDin at k2
    cases ek : keyD d with
    | none =>
      rw [ek] at k2
      exact False.elim k2
    | some q =>
      rw [ek] at k2
      cases d2 <;> try exact False.elim k2
      rename_i ks xs
      simp only [Rep] at rw2
      obtain ⟨a1, vs, rfl, ea, hl, rl⟩ := rw2
      have ev := keyD_rep (rv.mono (hid_mono s2)) ek
      subst ev
      refine ⟨a1, _, rfl, DGet.k (hid_sub _ _ ea), ?_⟩
      rw [val_zip (by rw [hl, rl.length])]
      refine k2 _ H2 (s1.trans s2) ?_
      simp [Rep]
theorem ee_din (hu : Room kk X.A) (ha : EE X W a ma) (hb : EE X W b mb) (hm : behindInMarks .In b = false := by first | exact nobehind _ (by decide) (by decide) | rfl) : EE X W (.Compare a [.In] [b] pos) (mBin (dDin false) ma mb) := by
  obtain ⟨ta, h1, h2⟩ := ha.ex
  obtain ⟨tb, h3, h4⟩ := hb.ex
  exact ⟨_, pe_cmp (pc_din (by have := hu.units; omega) h1 h3) hm, (h2.din h4).1⟩
theorem ee_dnotin (hu : Room kk X.A) (ha : EE X W a ma) (hb : EE X W b mb) (hm : behindInMarks .NotIn b = false := by first | exact nobehind _ (by decide) (by decide) | rfl) : EE X W (.Compare a [.NotIn] [b] pos) (mBin (dDin true) ma mb) := by
  obtain ⟨ta, h1, h2⟩ := ha.ex
  obtain ⟨tb, h3, h4⟩ := hb.ex
  exact ⟨_, pe_cmp (pc_dnotin (by have := hu.units; omega) h1 h3) hm, (h2.din h4).2⟩
theorem SimT.ofB {te : TE} (h : SimE X W te me) : SimT X W (tB te) (mTB me) := fun n Z H0 m r σ H q Q p => h n Z H0 m r σ H q _ (p.bind.imp fun d k x H1 s1 rx => by
  cases d <;> try exact False.elim k
  simp only [Rep] at rx
  subst rx
  exact ⟨_, rfl, k H1 s1⟩)
theorem et_din (hu : Room kk X.A) (ha : EE X W a ma) (hb : EE X W b mb) (hm : behindInMarks .In b = false := by first | exact nobehind _ (by decide) (by decide) | rfl) : ET X W (.Compare a [.In] [b] pos) (mTB (mBin (dDin false) ma mb)) := by
  obtain ⟨ta, h1, h2⟩ := ha.ex
  obtain ⟨tb, h3, h4⟩ := hb.ex
  exact ⟨_, pt_cmp (pc_din (by have := hu.units; omega) h1 h3) hm, SimT.ofB (h2.din h4).1⟩
theorem et_dnotin (hu : Room kk X.A) (ha : EE X W a ma) (hb : EE X W b mb) (hm : behindInMarks .NotIn b = false := by first | exact nobehind _ (by decide) (by decide) | rfl) : ET X W (.Compare a [.NotIn] [b] pos) (mTB (mBin (dDin true) ma mb)) := by
  obtain ⟨ta, h1, h2⟩ := ha.ex
  obtain ⟨tb, h3, h4⟩ := hb.ex
  exact ⟨_, pt_cmp (pc_dnotin (by have := hu.units; omega) h1 h3) hm, SimT.ofB (h2.din h4).2⟩
/-! d[x] -/
def dDget (d x : D) : R D := match keyD x, d with
  | some q, .dct ks xs => (match dlook ks xs q with
    | some y => .ok y
    | none => .bad)
  | _, _ => .bad
theorem ee_dget (hu : Room kk X.A) (ha : EE X W a ma) (hb : EE X W b mb) (hs : NoSl b := by exact fun _ _ => rfl) : EE X W (.Subscript a b pos) (mBin dDget ma mb) := by
  obtain ⟨ta, h1, h2⟩ := ha.ex
  obtain ⟨tb, h3, h4⟩ := hb.ex
  refine ⟨_, pe_dget (by have := hu.units; omega) h1 h3 hs, fun n Z H0 m r σ H q Q p => ?_⟩
  unfold mBin at p
  refine h2 n Z H0 m r σ H q _ (p.bind.imp fun d k v H1 s1 rv => ?_)
  refine h4 n Z H0 m r σ H1 (q.grow s1) _ ((k.grow s1).bind.imp fun d2 k2 w H2 s2 rw2 => ?_)
  unfold dDget at k2
  cases ek : keyD d2 with
  | none =>
    rw [ek] at k2
    exact False.elim k2
  | some q =>
    rw [ek] at k2
    cases d <;> try exact False.elim k2
    rename_i ks xs
    have rv2 := rv.mono (hid_mono s2)
    simp only [Rep] at rv2
    obtain ⟨a1, vs, rfl, ea, hl, rl⟩ := rv2
    have ev := keyD_rep rw2 ek
    subst ev
    simp only at k2
    cases el : dlook ks xs q with
    | none =>
      rw [el] at k2
      exact False.elim k2
    | some y =>
      rw [el] at k2
      obtain ⟨u, g1, g2⟩ := dlook_some rl el
      exact ⟨a1, u, rfl, by rw [← g1]; exact DGet.k (hid_sub _ _ ea), k2 u H2 (s1.trans s2) g2⟩
/-! {k: v, ..} with written keys -/
structure EPs (X : Cx) (W : WX) (pos : Pos) (keys : List (Option Expr)) (values : List Expr) (ks : List Key) (ms : MA) : Prop where
  ex : ∃ trs, PPs X pos keys values trs ∧ ∀ (n : Nat) (Z : Addr → Prop) (H0 : Hp) (m : Nat → Option Addr) (r : Sc) (σ : L2.St) (H : Hp), Rel X.K X.mg n Z H0 m r σ H → ∀ Q : List (V × V) → Hp → Prop,
    PostG X.K X.mg Z m W σ H (ms r) (fun ds => ∀ (vs : List V) (H' : Hp), Same H H' → RepL X.K X.mg (hid Z m H') ds vs → vs.length = ks.length → Q ((ks.zip vs).map fun kv => (kV kv.1, kv.2)) H') → tPairs trs σ H Q
theorem ep_nil : EPs X W pos [] [] [] mNil := ⟨_, pps_nil, fun n Z H0 m r σ H q Q p => p [] H (Same.refl H) RepL.nil rfl⟩
theorem ep_cons {key : Expr} {kc : Key} {keys : List (Option Expr)} {values : List Expr} {ks : List Key} (hk : PE X key (tC (kV kc))) (he : EE X W e me) (g : EPs X W pos keys values ks ms) : EPs X W pos (some key :: keys) (e :: values) (kc :: ks) (mCons me ms) := by
  obtain ⟨te, h1, h2⟩ := he.ex
  obtain ⟨trs, h3, h4⟩ := g.ex
  refine ⟨_, pps_cons hk h1 h3, fun n Z H0 m r σ H q Q p => ?_⟩
  unfold mCons at p
  refine h2 n Z H0 m r σ H q _ (p.bind.imp fun d k v H1 s1 rv => ?_)
  refine h4 n Z H0 m r σ H1 (q.grow s1) _ ((k.grow s1).bind.imp fun ds k2 vs H2 s2 rl hl => ?_)
  exact k2 (v :: vs) H2 (s1.trans s2) (RepL.cons (rv.mono (hid_mono s2)) rl) (by rw [List.length_cons, List.length_cons, hl])
theorem putK_new {kvs : List (Key × V)} {q : Key} {v : V} (h : q ∉ kvs.map (·.1)) : putK kvs q v = kvs ++ [(q, v)] := by
  unfold putK
  rw [if_neg]
  intro z
  obtain ⟨p, hp, e⟩ := List.any_eq_true.mp z
  exact h (List.mem_map.mpr ⟨p, hp, of_decide_eq_true e⟩)
theorem mergeK_new : ∀ {more kvs : List (Key × V)}, ((kvs ++ more).map (·.1)).Nodup → mergeK kvs more = kvs ++ more
  | [], kvs, _ => by
    show kvs = kvs ++ []
    rw [List.append_nil]
  | p :: more, kvs, h => by
    show mergeK (putK kvs p.1 p.2) more = _
    rw [putK_new, mergeK_new]
    · rw [List.append_assoc]
      rfl
    · rw [List.append_assoc]
      exact h
    · intro z
      rw [List.map_append, List.map_cons] at h
      exact (List.nodup_append.mp h).2.2 _ z _ List.mem_cons_self rfl
def mDisp (ks : List Key) (ms : MA) : MF := fun r => (ms r).bind fun ds => if ds.length = ks.length then .ok (.d ks ds) else .bad
theorem ef_disp {keys : List (Option Expr)} {values : List Expr} {ks : List Key} (h : EPs X W pos keys values ks ms) (hnd : ks.Nodup) (hk15 : ks.length ≤ 15) (hall : keys.all (·.isSome) = true := by rfl) (hl : keys.length = values.length := by rfl) (h0 : keys ≠ [] := by exact fun e => nomatch e) (h15 : keys.length ≤ 15 := by decide) : EF X W (.Dict keys values pos) (mDisp ks ms) := by
  obtain ⟨trs, h1, h2⟩ := h.ex
  refine ⟨_, pe_disp h1 hall hl h0 h15, fun n Z H0 m r σ H q Q p => ?_⟩
  intro pp np
  let Z' : Addr → Prop := fun b => Z b ∨ b = pp
  have nw := q.new np
  have hsame : Same (hid Z m H) (hid Z' m (upd H pp (.dK []))) := fun b o hb => by
    obtain ⟨g1, g2, g3⟩ := of_hid hb
    have nb : b ≠ pp := fun z => by
      rw [z, np] at g1
      cases g1
    exact hid_of (by rw [upd_ne nb]; exact g1) (fun z => z.elim g2 nb) g3
  have q1 : Rel X.K X.mg n Z' H0 m r σ (upd H pp (.dK [])) := by
    refine ⟨q.lenr, q.lens, fun i d hi => ?_, fun i c hi => ?_, q.dom, q.inj, fun i a hi => ?_, fun b hb e => ?_, q.same.trans (same_upd np)⟩
    · obtain ⟨v, g1, g2⟩ := q.val i d hi
      exact ⟨v, g1, g2.mono hsame⟩
    · obtain ⟨a, o, g1, g2, g3, g4⟩ := q.own i c hi
      exact ⟨a, o, g1, g2, same_upd np _ _ g3, g4.mono hsame⟩
    · exact ⟨(q.frs i a hi).1, fun z => z.elim (q.frs i a hi).2 fun e => nw.2 i (by rw [hi, e])⟩
    · rcases hb with hb | hb
      · have nb : b ≠ pp := fun z => nw.1 (by rw [← z]; exact hb)
        rw [upd_ne nb] at e
        exact q.zed b hb e
      · rw [hb, upd_same] at e
        cases e
  unfold mDisp at p
  have p' := p.bind
  refine h2 n Z' H0 m r σ _ q1 _ ?_
  cases em : ms r with
  | bad =>
    rw [em] at p'
    exact False.elim p'
  | exc cc ns xs =>
    rw [em] at p'
    intro C d H' s' ea
    refine p' C d H' ((same_upd np).trans s') (ea.mono ?_)
    exact fun b o hb => by
      obtain ⟨g1, g2, g3⟩ := of_hid hb
      exact hid_of g1 (fun z => g2 (.inl z)) g3
  | ok ds =>
    rw [em] at p'
    intro vs H2 s2 rl hl2
    simp only [PostG] at p'
    have hd : ds.length = ks.length := by rw [← rl.length, hl2]
    rw [if_pos hd] at p'
    refine ⟨s2 _ _ upd_same, ks.zip vs, rfl, by rw [List.length_zip]; omega, ?_⟩
    have hmk : ((ks.zip vs).map (·.1)) = ks := by
      rw [List.map_fst_zip]
      omega
    rw [mergeK_new (by rw [List.nil_append, hmk]; exact hnd), List.nil_append]
    have key := p' pp (.dK (ks.zip vs)) (fun b => if b = pp then none else H2 b) (fun b o hb => by
      have nb : b ≠ pp := fun z => by
        rw [z, np] at hb
        cases hb
      show (if b = pp then none else H2 b) = some o
      rw [if_neg nb]
      exact s2 _ _ (by rw [upd_ne nb]; exact hb)) (by simp) ⟨vs, rfl, hd.symm, rl.mono fun b o hb => by
      obtain ⟨g1, g2, g3⟩ := of_hid hb
      refine hid_of (?_ : (if b = pp then none else H2 b) = some o) (fun z => g2 (.inl z)) g3
      rw [if_neg fun z => g2 (.inr z)]
      exact g1⟩
    have eu : upd (fun b => if b = pp then none else H2 b) pp (.dK (ks.zip vs)) = upd H2 pp (.dK (ks.zip vs)) := by
      funext b
      unfold upd
      by_cases eb : b = pp <;> simp [eb]
    rw [eu] at key
    exact key
/-! a module's dict of tuples of texts -/
def DctC (K : PySem.W.Frag) (w : World) (mg : Str → Option Value) (x : Str) (tab : List (Str × List D)) : Prop := ∃ a : Addr, mg x = some (.ref a) ∧ ∀ z ds, tab.lookup z = some ds → ∃ v, KDct K w a z v ∧ ∀ G, Rep K mg G (.tup ds) v
def mKd (tab : List (Str × List D)) (me : ME) : ME := fun r => (me r).bind fun d => match d with
  | .str z => (match tab.lookup z with
    | some ds => .ok (.tup ds)
    | none => .bad)
  | _ => .bad
theorem ee_kd {tab : List (Str × List D)} (T : DctC X.K X.w X.mg x tab) (hb : EE X W b mb) (hg : Gl X x := by rfl) (hdb : (x == ("__debug__" : Str)) = false := by decide) (hs : PlainIx b := by exact fun _ _ => rfl) : EE X W (.Subscript (.Name x p1) b pos) (mKd tab mb) := by
  obtain ⟨a0, ga, T⟩ := T
  obtain ⟨tb, h3, h4⟩ := hb.ex
  refine ⟨_, pe_ix ix_kdict (pe_glob (v := .ref a0) hg ga rfl hdb) h3 hs, fun n Z H0 m r σ H q Q p => ?_⟩
  unfold mKd at p
  refine h4 n Z H0 m r σ H q _ (p.bind.imp fun d k v H1 s1 rv => ?_)
  cases d <;> try exact False.elim k
  rename_i z
  simp only [Rep] at rv
  subst rv
  simp only at k
  cases el : tab.lookup z with
  | none =>
    rw [el] at k
    exact False.elim k
  | some ds =>
    rw [el] at k
    obtain ⟨v, g1, g2⟩ := T z ds el
    exact ⟨a0, z, v, rfl, rfl, g1, k v H1 s1 (g2 _)⟩
theorem dct_nil {K : PySem.W.Frag} {w : World} {mg : Str → Option Value} {a : Addr} : ∀ z ds, ([] : List (Str × List D)).lookup z = some ds → ∃ v, KDct K w a z v ∧ ∀ G, Rep K mg G (.tup ds) v := fun z ds h => by simp at h
theorem dct_cons {K : PySem.W.Frag} {w : World} {mg : Str → Option Value} {a : Addr} {es : Array DictEntry} {n : Nat} {y : Str} {ds : List D} {vs : List V} {tab : List (Str × List D)} {t : Addr} {o : Obj} {its : Array Value} {m : Nat} (h1 : K.lookup a = some ⟨.type "dict", none, .dict es n, #[]⟩) (h2 : PySem.W.KeysLit w.params es.toList)
    (h3 : PySem.W.nsIn K a y = some (some (.ref t))) (h4 : K.lookup t = some o) (h5 : o.cls = .type "tuple") (h6 : o.data = .seq its m) (h7 : its.size ≤ sizeLine) (h8 : Vals vs its.toList) (hf : flatsD ds = some vs) (g : ∀ z ds, tab.lookup z = some ds → ∃ v, KDct K w a z v ∧ ∀ G, Rep K mg G (.tup ds) v) :
    ∀ z ds', ((y, ds) :: tab).lookup z = some ds' → ∃ v, KDct K w a z v ∧ ∀ G, Rep K mg G (.tup ds') v := fun z ds' h => by
  rw [List.lookup_cons] at h
  cases e : z == y with
  | true =>
    rw [e] at h
    cases h
    have e' : z = y := by simpa using e
    subst e'
    refine ⟨.ref t, ⟨es, n, .ref t, h1, h2, h3, rfl⟩, fun G => ?_⟩
    simp only [Rep]
    exact ⟨t, vs, rfl, .inr ⟨o, its, m, h4, h5, h6, h7, h8⟩, flats_mk hf⟩
  | false =>
    rw [e] at h
    exact g z ds' h
end
end QB

namespace QB
open PySem
open Builtin.Int (intBits)
/-! ### rows for simp: how a mirror is run -/
theorem q_rb_ok {α β : Type} {a : α} {f : α → R β} : R.bind (.ok a) f = f a := id rfl
theorem q_rb_bad {α β : Type} {f : α → R β} : R.bind (.bad) f = .bad := id rfl
theorem q_rb_exc {α β : Type} {c ns xs} {f : α → R β} : R.bind (.exc c ns xs) f = .exc c ns xs := id rfl
theorem q_tf_ok {β : Type} {r : Sc} {a : β} {k : β → Fl} : toFl r (.ok a) k = k a := id rfl
def Fl.andThen (a : Fl) (b : MS) : Fl := match a with
  | .nx r => b r
  | f => f
theorem q_sq {a b : MS} {r : Sc} : mSeq a b r = Fl.andThen (a r) b := id rfl
theorem q_at_nx {r : Sc} {b : MS} : Fl.andThen (.nx r) b = b r := id rfl
theorem q_at_rt {d : D} {b : MS} : Fl.andThen (.rt d) b = .rt d := id rfl
theorem q_at_bk {r : Sc} {b : MS} : Fl.andThen (.bk r) b = .bk r := id rfl
theorem q_at_ct {r : Sc} {b : MS} : Fl.andThen (.ct r) b = .ct r := id rfl
theorem q_at_ex {c ns xs} {r : Sc} {b : MS} : Fl.andThen (.ex c ns xs r) b = .ex c ns xs r := id rfl
def Fl.sel (k : Bool) (a b : Fl) : Fl := match k with
  | true => a
  | false => b
theorem q_mi {mt : MT} {a b : MS} {r : Sc} : mIf mt a b r = toFl r (mt r) (fun k => Fl.sel k (a r) (b r)) := by
  unfold mIf
  congr 1
theorem q_sel_t {a b : Fl} : Fl.sel true a b = a := id rfl
theorem q_sel_f {a b : Fl} : Fl.sel false a b = b := id rfl
def Fl.out (f : Fl) : R D := match f with
  | .rt d => .ok d
  | .nx _ => .ok .non
  | .ex c ns xs _ => .exc c ns xs
  | _ => .bad
theorem q_df {n : Nat} {ms : MS} {ds : List D} : mDef n ms ds = Fl.out (ms (mStart n ds)) := id rfl
theorem q_out_rt {d : D} : Fl.out (.rt d) = .ok d := id rfl
theorem q_out_nx {r : Sc} : Fl.out (.nx r) = .ok .non := id rfl
theorem q_out_ex {c ns xs} {r : Sc} : Fl.out (.ex c ns xs r) = .exc c ns xs := id rfl
theorem q_v0 {d : D} {r : Sc} : mVar 0 (some (.val d) :: r) = .ok d := id rfl
theorem q_vs {i : Nat} {x : Option EV} {r : Sc} : mVar (i + 1) (x :: r) = mVar i r := by simp [mVar]
theorem q_w0 {d : D} {r : Sc} : mVarW 0 (some (.val d) :: r) = .ok d := id rfl
theorem q_w0o {c : Cell} {r : Sc} : mVarW 0 (some (.own c) :: r) = .ok (thawed c) := id rfl
theorem q_ws {i : Nat} {x : Option EV} {r : Sc} : mVarW (i + 1) (x :: r) = mVarW i r := by simp [mVarW]
def asB : D → R Bool
  | .bl k => .ok k
  | _ => .bad
theorem q_tbq {me : ME} {r : Sc} : mTB me r = R.bind (me r) asB := by
  unfold mTB
  congr 1
theorem q_asb {b : Bool} : asB (.bl b) = .ok b := id rfl
theorem q_nt {mt : MT} {r : Sc} : mTNot mt r = R.bind (mt r) (fun k => .ok (!k)) := id rfl
def R.sel {α : Type} (k : Bool) (a b : R α) : R α := match k with
  | true => a
  | false => b
theorem q_rsel_t {α : Type} {a b : R α} : R.sel true a b = a := id rfl
theorem q_rsel_f {α : Type} {a b : R α} : R.sel false a b = b := id rfl
theorem q_ta {mt mu : MT} {r : Sc} : mTAnd mt mu r = R.bind (mt r) (fun k => R.sel k (mu r) (.ok false)) := by
  unfold mTAnd
  congr 1
theorem q_to {mt mu : MT} {r : Sc} : mTOr mt mu r = R.bind (mt r) (fun k => R.sel k (.ok true) (mu r)) := by
  unfold mTOr
  congr 1
theorem q_va {ma mb : ME} {r : Sc} : mAnd ma mb r = R.bind (ma r) (fun d => R.bind (asB d) fun k => R.sel k (mb r) (.ok (.bl false))) := by
  unfold mAnd
  congr 1
  funext d
  cases d <;> try rfl
  rename_i b
  cases b <;> rfl
theorem q_vo {ma mb : ME} {r : Sc} : mOr ma mb r = R.bind (ma r) (fun d => R.bind (asB d) fun k => R.sel k (.ok (.bl true)) (mb r)) := by
  unfold mOr
  congr 1
  funext d
  cases d <;> try rfl
  rename_i b
  cases b <;> rfl
theorem q_vn {ma : ME} {r : Sc} : mNot ma r = R.bind (ma r) (fun d => R.bind (asB d) fun k => .ok (.bl (!k))) := by
  unfold mNot
  congr 1
  funext d
  cases d <;> rfl
theorem q_sett {me : ME} {i : Nat} {r : Sc} : mSet i me r = toFl r (me r) (fun d => .nx (r.set i (some (.val d)))) := id rfl
theorem q_seto {me : MF} {i : Nat} {r : Sc} : mSetO i me r = toFl r (me r) (fun d => .nx (r.set i (some (.own d)))) := id rfl
theorem q_bin {f : D → D → R D} {ma mb : ME} {r : Sc} : mBin f ma mb r = (ma r).bind fun a => (mb r).bind fun b => f a b := id rfl
theorem q_c {d : D} {r : Sc} : mC d r = .ok d := id rfl
theorem q_callb {f : List D → R D} {ms : MA} {r : Sc} : mCallB f ms r = (ms r).bind f := id rfl
theorem q_cons {ma : ME} {ms : MA} {r : Sc} : mCons ma ms r = (ma r).bind fun d => (ms r).bind fun ds => .ok (d :: ds) := id rfl
theorem q_nil {r : Sc} : mNil r = .ok [] := id rfl
theorem q_tup {ms : MA} {r : Sc} : mTup ms r = (ms r).bind fun ds => if ds.length ≤ sizeLine then .ok (.tup ds) else .bad := id rfl
theorem q_lst {ms : MA} {r : Sc} : mLst ms r = (ms r).bind fun ds => if ds.length ≤ sizeLine then .ok (.l ds) else .bad := id rfl
theorem q_celle {mf : MF} {r : Sc} : mCellE mf r = (mf r).bind fun c => .ok (thawed c) := id rfl
theorem q_ret {me : ME} {r : Sc} : mRet me r = toFl r (me r) fun d => .rt d := id rfl
theorem q_nx {r : Sc} : mNx r = .nx r := id rfl
theorem q_thl {xs : List D} : thawed (.l xs) = .lst xs := id rfl
theorem q_thd {ks : List L2.Key} {xs : List D} : thawed (.d ks xs) = .dct ks xs := id rfl
theorem q_isi {T : String} {me : ME} {r : Sc} : mIsi T me r = (me r).bind (dIsi T) := id rfl
def negD : D → R D
  | .int i => .ok (.int (-i))
  | _ => .bad
theorem q_neg {ma : ME} {r : Sc} : mNeg ma r = (ma r).bind negD := by
  unfold mNeg
  congr 1
theorem q_neg_i {i : Int} : negD (.int i) = .ok (.int (-i)) := id rfl
theorem q_callk {mf : List D → R D} {is : List Nat} {ms mk : MA} {r : Sc} : mCallK mf is ms mk r = (ms r).bind fun ds => (mk r).bind fun es => mf (permL is (ds ++ es)) := id rfl
theorem q_st {n : Nat} {ds : List D} : mStart n ds = ds.map (fun d => some (EV.val d)) ++ List.replicate (n - ds.length) none := id rfl
theorem q_drop {me : ME} {r : Sc} : mDrop me r = toFl r (me r) fun _ => .nx r := id rfl
theorem q_retn {r : Sc} : mRetN r = .rt .non := id rfl
theorem q_brk {r : Sc} : mBrk r = .bk r := id rfl
theorem q_cnt {r : Sc} : mCnt r = .ct r := id rfl
theorem q_scal {me : ME} {r : Sc} : mScal me r = (me r).bind fun d => match d with
  | .non => .ok .non
  | .bl b => .ok (.bl b)
  | .int i => .ok (.int i)
  | .str s => .ok (.str s)
  | _ => .bad := id rfl
theorem q_ife {mt : MT} {ma mb : ME} {r : Sc} : mIfE mt ma mb r = (mt r).bind fun k => R.sel k (ma r) (mb r) := by
  unfold mIfE
  congr 1
theorem seq_nx {a b : MS} {r r' : Sc} (h : a r = .nx r') : mSeq a b r = b r' := by
  rw [q_sq, h, q_at_nx]
theorem seq_rt {a b : MS} {r : Sc} {d : D} (h : a r = .rt d) : mSeq a b r = .rt d := by
  rw [q_sq, h, q_at_rt]
theorem def_of {n : Nat} {ms : MS} {ds : List D} {d : D} (h : ms (mStart n ds) = .rt d) : mDef n ms ds = .ok d := by
  rw [q_df, h, q_out_rt]
theorem for_nx {mi : MA} {tb : D → Sc → Option Sc} {body : MS} {r r' : Sc} {ds : List D} (h1 : mi r = .ok ds) (h2 : loopL tb body ds r = .nx r') : mFor mi tb body r = .nx r' := by
  unfold mFor
  rw [h1]
  exact h2
theorem for_rt {mi : MA} {tb : D → Sc → Option Sc} {body : MS} {r : Sc} {d : D} {ds : List D} (h1 : mi r = .ok ds) (h2 : loopL tb body ds r = .rt d) : mFor mi tb body r = .rt d := by
  unfold mFor
  rw [h1]
  exact h2
theorem frz_nx {i : Nat} {ms : MS} {r : Sc} {c : Cell} {f : Fl} (h : r[i]? = some (some (.own c))) (h2 : ms (r.set i (some (.val (thawed c)))) = f) : mFrz i ms r = f := by
  unfold mFrz
  rw [h]
  exact h2
/-! own lists -/
theorem app_ok {i : Nat} {me : ME} {r : Sc} {xs : List D} {d : D} (h : r[i]? = some (some (.own (.l xs)))) (e : me r = .ok d) (hl : xs.length < sizeLine) : mApp i me r = .nx (r.set i (some (.own (.l (xs ++ [d]))))) := by
  unfold mApp
  rw [h]
  simp only [e, q_tf_ok, if_pos hl]
/-! ints -/
theorem q_add_i {i j : Int} : dAdd (.int i) (.int j) = .ok (.int (i + j)) := id rfl
theorem q_sub_i {i j : Int} : dSub (.int i) (.int j) = .ok (.int (i - j)) := id rfl
theorem q_mul_i {i j : Int} (h : intBits i + intBits j ≤ 134217728) : dMul (.int i) (.int j) = .ok (.int (i * j)) := if_pos h
theorem q_mod_i {i j : Int} (h : 0 < j) : dMod (.int i) (.int j) = .ok (.int (i % j)) := if_pos h
theorem q_div_i {i j : Int} (h : 0 < j) (h2 : j < 1000000000000000000000000000000) : dDiv (.int i) (.int j) = .ok (.int (i / j)) := by
  have : j.natAbs.log2 < 9000 := by
    have h0 : j.natAbs ≠ 0 := by omega
    have : j.natAbs.log2 < 100 := by
      rw [Nat.log2_lt h0]
      have : (2 : Nat) ^ 100 = 1267650600228229401496703205376 := by decide
      rw [this]
      omega
    omega
  exact if_pos ⟨h, this⟩
theorem q_cmp_i {g : Int → Int → Bool} {i j : Int} : dCmp g (.int i) (.int j) = .ok (.bl (g i j)) := id rfl
theorem q_lt_i {i j : Int} : dLt (.int i) (.int j) = .ok (.bl (decide (i < j))) := id rfl
theorem q_le_i {i j : Int} : dLe (.int i) (.int j) = .ok (.bl (decide (i ≤ j))) := id rfl
theorem q_gt_i {i j : Int} : dGt (.int i) (.int j) = .ok (.bl (decide (j < i))) := id rfl
theorem q_ge_i {i j : Int} : dGe (.int i) (.int j) = .ok (.bl (decide (j ≤ i))) := id rfl
theorem q_eqB_i {i j : Int} : dEqB (.int i) (.int j) = .ok (decide (i = j)) := by
  have : decide (L2.V.int i = L2.V.int j) = decide (i = j) := by
    by_cases h : i = j
    · subst h; simp
    · rw [decide_eq_false h, decide_eq_false fun e => h (L2.V.int.inj e)]
  unfold dEqB
  simp only [flatD]
  rw [if_pos (show L2.scal (L2.V.int i) (L2.V.int j) = true from rfl), this]
theorem q_eq_i {i j : Int} : dEq (.int i) (.int j) = .ok (.bl (decide (i = j))) := by unfold dEq; rw [q_eqB_i]; rfl
theorem q_ne_i {i j : Int} : dNe (.int i) (.int j) = .ok (.bl (!decide (i = j))) := by unfold dNe; rw [q_eqB_i]; rfl
theorem bits_lt {i : Int} (h1 : -1000000000000000000000000000000 < i) (h2 : i < 1000000000000000000000000000000) : intBits i ≤ 100 := intBits_le_iff.mpr (by
  have : (2 : Nat) ^ 100 = 1267650600228229401496703205376 := by decide
  rw [this]
  omega)
theorem q_mul_s {i j : Int} (h1 : -1000000000000000000000000000000 < i) (h2 : i < 1000000000000000000000000000000) (h3 : -1000000000000000000000000000000 < j) (h4 : j < 1000000000000000000000000000000) : dMul (.int i) (.int j) = .ok (.int (i * j)) :=
  q_mul_i (by have := bits_lt h1 h2; have := bits_lt h3 h4; omega)
/-! ### loops over mirrors -/
theorem loopL_inv {tb : D → Sc → Option Sc} {body : MS} (I : Nat → Sc → Prop) : ∀ (ds : List D) (i : Nat) (r : Sc), I i r → (∀ (j : Nat) (d : D) (r : Sc), ds[j]? = some d → I (i + j) r → ∃ r1 r2, tb d r = some r1 ∧ (body r1 = .nx r2 ∨ body r1 = .ct r2) ∧ I (i + j + 1) r2) → ∃ r', loopL tb body ds r = .nx r' ∧ I (i + ds.length) r'
  | [], i, r, h, _ => ⟨r, rfl, h⟩
  | d :: ds, i, r, h, st => by
    obtain ⟨r1, r2, e1, e2, h2⟩ := st 0 d r rfl h
    obtain ⟨r', e3, h3⟩ := loopL_inv I ds (i + 1) r2 h2 (fun j d' r' e h' => by
      have := st (j + 1) d' r' (by simpa using e) (by rw [show i + (j + 1) = i + 1 + j by omega]; exact h')
      rw [show i + (j + 1) + 1 = i + 1 + j + 1 by omega] at this
      exact this)
    refine ⟨r', ?_, by rw [List.length_cons, show i + (ds.length + 1) = i + 1 + ds.length by omega]; exact h3⟩
    simp only [loopL, e1]
    rcases e2 with e2 | e2 <;> rw [e2] <;> exact e3
/-- one name takes the items; the body never leaves -/
theorem for_inv {i : Nat} {body : MS} (I : Nat → Sc → Prop) {ds : List D} {r : Sc} (h0 : I 0 r) (st : ∀ (j : Nat) (d : D) (r : Sc), ds[j]? = some d → I j r → ∃ r2, body (r.set i (some (.val d))) = .nx r2 ∧ I (j + 1) r2) : ∃ r', loopL (bName i) body ds r = .nx r' ∧ I ds.length r' := by
  have := loopL_inv (tb := bName i) (body := body) I ds 0 r h0 (fun j d r e h => by
    rw [Nat.zero_add] at h
    obtain ⟨r2, h1, h2⟩ := st j d r e h
    refine ⟨_, r2, rfl, .inl h1, by rw [Nat.zero_add]; exact h2⟩)
  rw [Nat.zero_add] at this
  exact this
theorem sizeLine_big : 16777216 ≤ sizeLine := by decide
theorem rgD_get {lo : Int} {n i : Nat} {d : D} (h : (rgD lo n)[i]? = some d) : i < n ∧ d = .int (lo + (i : Int)) := by
  unfold rgD at h
  rw [List.getElem?_map] at h
  by_cases hi : i < n
  · simp [hi] at h
    exact ⟨hi, h.symm⟩
  · simp [hi] at h
theorem rgD_len {lo : Int} {n : Nat} : (rgD lo n).length = n := by simp [rgD]
end QB

namespace QB
open PySem
open Builtin.Int (intBits)
/-! ### what all laws draw with -/
theorem q_len_s {xs : List D} : dLen [.slst xs] = .ok (.int xs.length) := id rfl
theorem q_len_l {xs : List D} : dLen [.lst xs] = .ok (.int xs.length) := id rfl
theorem q_len_t {xs : List D} : dLen [.tup xs] = .ok (.int xs.length) := id rfl
theorem q_int_i {i : Int} : dInt [.int i] = .ok (.int i) := id rfl
theorem q_ix {d : D} {xs : List D} {i : Int} {x : D} (h : seqD d = some xs) (h0 : 0 ≤ i) (h1 : xs[i.toNat]? = some x) : dIx d (.int i) = .ok x := by
  have e : L2.atI xs i = some x := by
    unfold L2.atI L2.ixN
    have hl : i.toNat < xs.length := (List.getElem?_eq_some_iff.mp h1).1
    rw [if_pos h0, if_pos (by omega)]
    exact h1
  cases d <;> simp only [seqD, Option.some.injEq, reduceCtorEq] at h <;> subst h <;> simp only [dIx, seqD, e]
theorem q_items_s {xs : List D} : dItems (.slst xs) = .ok xs := id rfl
theorem q_items_l {xs : List D} : dItems (.lst xs) = .ok xs := id rfl
theorem q_items_t {xs : List D} : dItems (.tup xs) = .ok xs := id rfl
theorem q_for {mi : MA} {tb : D → Sc → Option Sc} {body : MS} {r : Sc} : mFor mi tb body r = toFl r (mi r) (fun ds => loopL tb body ds r) := id rfl
theorem q_it {me : ME} {r : Sc} : mItems me r = R.bind (me r) dItems := id rfl
theorem q_rg {ma : MA} {r : Sc} : mRg ma r = R.bind (ma r) dRg := id rfl
theorem q_rg1 {j : Int} (h0 : -1000000000 ≤ j) (h1 : j < 1000000000) : dRg [.int j] = .ok (rgD 0 j.toNat) := if_pos ⟨by omega, by omega⟩
theorem q_rg2 {i j : Int} (h0 : -1000000000 ≤ j) (h1 : j < 1000000000) (h2 : -1000000000 ≤ i) (h3 : i < 1000000000) : dRg [.int i, .int j] = .ok (rgD i (j - i).toNat) := if_pos ⟨⟨by omega, by omega⟩, by omega, by omega⟩
def cellM : List D → R D := mDef 4 (mSeq (mIf (mTB (mBin dLt (mVar 1) (mCallB dLen (mCons (mVar 0) mNil)))) (mRet (mBin dIx (mVar 0) (mVar 1))) mNx) (mSeq (mSet 2 (mC (.int 17))) (mSeq (mFor (mItems (mVar 0)) (bName 3) (mSet 2 (mBin dMod (mCallB dInt (mCons (mBin dAdd (mBin dMul (mVar 2) (mC (.int 31))) (mBin dMod (mCallB dInt (mCons (mVar 3) mNil)) (mC (.int 1000003)))) mNil)) (mC (.int 1000003))))) (mRet (mBin dMod (mCallB dInt (mCons (mBin dMul (mBin dMul (mBin dAdd (mVar 2) (mC (.int 7))) (mBin dAdd (mVar 1) (mC (.int 3)))) (mC (.int 69621))) mNil)) (mC (.int 2147483647)))))))
theorem cell_ok (ns : List Int) (hb : ∀ z ∈ ns, intBits z ≤ 1048576) (k : Int) (h0 : 0 ≤ k) (h1 : k < 1000000) : ∃ c, cellM [.slst (ns.map D.int), .int k] = .ok (.int c) ∧ intBits c ≤ 1048576 := by
  by_cases hk : k < ((ns.map D.int).length : Int)
  · have hl : k.toNat < ns.length := by
      rw [List.length_map] at hk
      omega
    have e1 : (ns.map D.int)[k.toNat]? = some (.int ns[k.toNat]) := by
      rw [List.getElem?_map, List.getElem?_eq_getElem hl]
      rfl
    refine ⟨ns[k.toNat], ?_, hb _ (List.getElem_mem hl)⟩
    simp only [cellM, q_df, q_st, q_sq, q_at_nx, q_at_rt, q_at_bk, q_at_ct, q_at_ex, q_mi, q_sel_t, q_sel_f, q_out_rt, q_out_nx, q_out_ex, q_rb_ok, q_rb_bad, q_rb_exc, q_tf_ok, q_v0, q_vs, q_w0, q_w0o, q_ws, q_tbq, q_asb, q_nt, q_rsel_t, q_rsel_f, q_ta, q_to, q_va, q_vo, q_vn, q_sett, q_seto, q_bin, q_c, q_callb, q_cons, q_nil, q_tup, q_lst, q_celle, q_ret, q_nx, q_thl, q_thd, q_isi, q_neg, q_neg_i, q_callk, q_drop, q_retn, q_brk, q_cnt, q_ife, q_add_i, q_sub_i, q_lt_i, q_le_i, q_gt_i, q_ge_i, q_eq_i, q_ne_i, List.map_cons, List.map_nil, List.length_cons, List.length_nil, List.replicate, List.append_nil, List.nil_append, List.cons_append, Nat.reduceAdd, Nat.reduceSub, List.getElem?_cons_zero, List.getElem?_cons_succ, List.set_cons_zero, List.set_cons_succ, Bool.not_true, Bool.not_false, decide_true, decide_false, if_true, if_false, q_len_s, decide_eq_true hk, q_ix (d := .slst (ns.map D.int)) rfl h0 e1]
  · obtain ⟨r', e, seed, y, hr, s0, s1⟩ := for_inv (i := 3) (body := mSet 2 (mBin dMod (mCallB dInt (mCons (mBin dAdd (mBin dMul (mVar 2) (mC (.int 31))) (mBin dMod (mCallB dInt (mCons (mVar 3) mNil)) (mC (.int 1000003)))) mNil)) (mC (.int 1000003))))
      (fun _ r => ∃ (seed : Int) (y : Option EV), r = [some (.val (.slst (ns.map D.int))), some (.val (.int k)), some (.val (.int seed)), y] ∧ 0 ≤ seed ∧ seed < 1000003) (ds := ns.map D.int) (r := [some (.val (.slst (ns.map D.int))), some (.val (.int k)), some (.val (.int 17)), none])
      ⟨17, none, rfl, by omega, by omega⟩ (fun j d r hd ⟨seed, y, hr, s0, s1⟩ => by
        subst hr
        rw [List.getElem?_map] at hd
        obtain ⟨z, _, rfl⟩ := Option.map_eq_some_iff.mp hd
        have m0 : 0 ≤ z % 1000003 := Int.emod_nonneg _ (by omega)
        have m1 : z % 1000003 < 1000003 := Int.emod_lt_of_pos _ (by omega)
        refine ⟨_, by simp only [q_df, q_st, q_sq, q_at_nx, q_at_rt, q_at_bk, q_at_ct, q_at_ex, q_mi, q_sel_t, q_sel_f, q_out_rt, q_out_nx, q_out_ex, q_rb_ok, q_rb_bad, q_rb_exc, q_tf_ok, q_v0, q_vs, q_w0, q_w0o, q_ws, q_tbq, q_asb, q_nt, q_rsel_t, q_rsel_f, q_ta, q_to, q_va, q_vo, q_vn, q_sett, q_seto, q_bin, q_c, q_callb, q_cons, q_nil, q_tup, q_lst, q_celle, q_ret, q_nx, q_thl, q_thd, q_isi, q_neg, q_neg_i, q_callk, q_drop, q_retn, q_brk, q_cnt, q_ife, q_add_i, q_sub_i, q_lt_i, q_le_i, q_gt_i, q_ge_i, q_eq_i, q_ne_i, List.map_cons, List.map_nil, List.length_cons, List.length_nil, List.replicate, List.append_nil, List.nil_append, List.cons_append, Nat.reduceAdd, Nat.reduceSub, List.getElem?_cons_zero, List.getElem?_cons_succ, List.set_cons_zero, List.set_cons_succ, Bool.not_true, Bool.not_false, decide_true, decide_false, if_true, if_false, q_int_i, q_mul_s (show -1000000000000000000000000000000 < seed by omega) (show seed < 1000000000000000000000000000000 by omega) (show (-1000000000000000000000000000000 : Int) < 31 by omega) (show (31 : Int) < 1000000000000000000000000000000 by omega), q_mod_i (show (0 : Int) < 1000003 by omega)], (seed * 31 + z % 1000003) % 1000003, some (.val (.int z)), rfl, Int.emod_nonneg _ (by omega), Int.emod_lt_of_pos _ (by omega)⟩)
    subst hr
    refine ⟨((seed + 7) * (k + 3) * 69621) % 2147483647, ?_, ?_⟩
    · have p0 : 0 ≤ (seed + 7) * (k + 3) := Int.mul_nonneg (by omega) (by omega)
      have p1 : (seed + 7) * (k + 3) ≤ 1000010 * 1000003 := Int.mul_le_mul (by omega) (by omega) (by omega) (by omega)
      simp only [cellM, q_df, q_st, q_sq, q_at_nx, q_at_rt, q_at_bk, q_at_ct, q_at_ex, q_mi, q_sel_t, q_sel_f, q_out_rt, q_out_nx, q_out_ex, q_rb_ok, q_rb_bad, q_rb_exc, q_tf_ok, q_v0, q_vs, q_w0, q_w0o, q_ws, q_tbq, q_asb, q_nt, q_rsel_t, q_rsel_f, q_ta, q_to, q_va, q_vo, q_vn, q_sett, q_seto, q_bin, q_c, q_callb, q_cons, q_nil, q_tup, q_lst, q_celle, q_ret, q_nx, q_thl, q_thd, q_isi, q_neg, q_neg_i, q_callk, q_drop, q_retn, q_brk, q_cnt, q_ife, q_add_i, q_sub_i, q_lt_i, q_le_i, q_gt_i, q_ge_i, q_eq_i, q_ne_i, List.map_cons, List.map_nil, List.length_cons, List.length_nil, List.replicate, List.append_nil, List.nil_append, List.cons_append, Nat.reduceAdd, Nat.reduceSub, List.getElem?_cons_zero, List.getElem?_cons_succ, List.set_cons_zero, List.set_cons_succ, Bool.not_true, Bool.not_false, decide_true, decide_false, if_true, if_false, q_len_s, decide_eq_false hk, q_for, q_it, q_items_s, e, q_int_i, q_mul_s (show -1000000000000000000000000000000 < seed + 7 by omega) (show seed + 7 < 1000000000000000000000000000000 by omega) (show -1000000000000000000000000000000 < k + 3 by omega) (show k + 3 < 1000000000000000000000000000000 by omega), q_mul_s (show -1000000000000000000000000000000 < (seed + 7) * (k + 3) by omega) (show (seed + 7) * (k + 3) < 1000000000000000000000000000000 by omega) (show (-1000000000000000000000000000000 : Int) < 69621 by omega) (show (69621 : Int) < 1000000000000000000000000000000 by omega), q_mod_i (show (0 : Int) < 2147483647 by omega)]
    · have m0 : 0 ≤ ((seed + 7) * (k + 3) * 69621) % 2147483647 := Int.emod_nonneg _ (by omega)
      have m1 : ((seed + 7) * (k + 3) * 69621) % 2147483647 < 2147483647 := Int.emod_lt_of_pos _ (by omega)
      exact Nat.le_trans (bits_lt (by omega) (by omega)) (by omega)
end QB

namespace QB
open PySem
open Builtin.Int (intBits)
/-! ### rows with conditions, for simp (disch := omega) -/
theorem t_lt_t {i j : Int} (h : i < j) : dLt (.int i) (.int j) = .ok (.bl true) := by rw [q_lt_i, decide_eq_true h]
theorem t_lt_f {i j : Int} (h : ¬ i < j) : dLt (.int i) (.int j) = .ok (.bl false) := by rw [q_lt_i, decide_eq_false h]
theorem t_le_t {i j : Int} (h : i ≤ j) : dLe (.int i) (.int j) = .ok (.bl true) := by rw [q_le_i, decide_eq_true h]
theorem t_le_f {i j : Int} (h : ¬ i ≤ j) : dLe (.int i) (.int j) = .ok (.bl false) := by rw [q_le_i, decide_eq_false h]
theorem t_gt_t {i j : Int} (h : j < i) : dGt (.int i) (.int j) = .ok (.bl true) := by rw [q_gt_i, decide_eq_true h]
theorem t_gt_f {i j : Int} (h : ¬ j < i) : dGt (.int i) (.int j) = .ok (.bl false) := by rw [q_gt_i, decide_eq_false h]
theorem t_ge_t {i j : Int} (h : j ≤ i) : dGe (.int i) (.int j) = .ok (.bl true) := by rw [q_ge_i, decide_eq_true h]
theorem t_ge_f {i j : Int} (h : ¬ j ≤ i) : dGe (.int i) (.int j) = .ok (.bl false) := by rw [q_ge_i, decide_eq_false h]
theorem t_eq_t {i j : Int} (h : i = j) : dEq (.int i) (.int j) = .ok (.bl true) := by rw [q_eq_i, decide_eq_true h]
theorem t_eq_f {i j : Int} (h : ¬ i = j) : dEq (.int i) (.int j) = .ok (.bl false) := by rw [q_eq_i, decide_eq_false h]
theorem t_ne_t {i j : Int} (h : ¬ i = j) : dNe (.int i) (.int j) = .ok (.bl true) := by rw [q_ne_i, decide_eq_false h]; rfl
theorem t_ne_f {i j : Int} (h : i = j) : dNe (.int i) (.int j) = .ok (.bl false) := by rw [q_ne_i, decide_eq_true h]; rfl
theorem t_is_b {a b : Bool} : dIs (.bl a) (.bl b) = .ok (.bl (decide (a = b))) := id rfl
theorem t_isn_b {a b : Bool} : dIsNot (.bl a) (.bl b) = .ok (.bl (!decide (a = b))) := id rfl
theorem t_isn {a b : D} : dIsNot a b = (dIs a b).bind fun d => match d with
  | .bl c => .ok (.bl (!c))
  | _ => .bad := id rfl
theorem t_is_i {i : Int} : dIs (.int i) .non = .ok (.bl false) := id rfl
theorem t_is_n : dIs .non .non = .ok (.bl true) := id rfl
theorem t_isn_i {i : Int} : dIsNot (.int i) .non = .ok (.bl true) := id rfl
theorem t_isn_n : dIsNot .non .non = .ok (.bl false) := id rfl
theorem t_abs_n {i : Int} (h : i < 0) : dAbs [.int i] = .ok (.int (-i)) := by show R.ok (D.int (if i < 0 then -i else i)) = _; rw [if_pos h]
theorem t_abs_p {i : Int} (h : ¬ i < 0) : dAbs [.int i] = .ok (.int i) := by show R.ok (D.int (if i < 0 then -i else i)) = _; rw [if_neg h]
theorem t_min {i j : Int} : dMin [.int i, .int j] = .ok (.int (if j < i then j else i)) := id rfl
theorem t_max {i j : Int} : dMax [.int i, .int j] = .ok (.int (if j > i then j else i)) := id rfl
theorem t_addl {xs ys : List D} (h : xs.length + ys.length ≤ 16777216) : dAdd (.lst xs) (.lst ys) = .ok (.lst (xs ++ ys)) := if_pos (Nat.le_trans h sizeLine_big)
theorem t_ix_l {xs : List D} {i : Int} {x : D} (h0 : 0 ≤ i) (h1 : xs[i.toNat]? = some x) : dIx (.lst xs) (.int i) = .ok x := q_ix rfl h0 h1
theorem t_ix_t {xs : List D} {i : Int} {x : D} (h0 : 0 ≤ i) (h1 : xs[i.toNat]? = some x) : dIx (.tup xs) (.int i) = .ok x := q_ix rfl h0 h1
theorem t_ix_l0 {x : D} {xs : List D} : dIx (.lst (x :: xs)) (.int 0) = .ok x := q_ix rfl (by omega) rfl
theorem t_ix_t0 {x : D} {xs : List D} : dIx (.tup (x :: xs)) (.int 0) = .ok x := q_ix rfl (by omega) rfl
/-- what stands at a place, or nothing -/
def R.opt {α : Type} (o : Option α) : R α := match o with
  | some x => .ok x
  | none => .bad
theorem q_opt {α : Type} {x : α} : R.opt (some x) = .ok x := id rfl
theorem at_nat {α : Type} {xs : List α} {i : Int} (h0 : 0 ≤ i) : L2.atI xs i = xs[i.toNat]? := by
  unfold L2.atI L2.ixN
  rw [if_pos h0]
  by_cases h : i < (xs.length : Int)
  · rw [if_pos h]
    rfl
  · rw [if_neg h]
    have : xs.length ≤ i.toNat := by omega
    rw [List.getElem?_eq_none this]
    rfl
theorem t_ixl {xs : List D} {i : Int} (h0 : 0 ≤ i) : dIx (.lst xs) (.int i) = R.opt xs[i.toNat]? := by
  simp only [dIx, seqD, at_nat h0]
  cases xs[i.toNat]? <;> rfl
theorem t_ixt {xs : List D} {i : Int} (h0 : 0 ≤ i) : dIx (.tup xs) (.int i) = R.opt xs[i.toNat]? := by
  simp only [dIx, seqD, at_nat h0]
  cases xs[i.toNat]? <;> rfl
theorem t_ixs {xs : List D} {i : Int} (h0 : 0 ≤ i) : dIx (.slst xs) (.int i) = R.opt xs[i.toNat]? := by
  simp only [dIx, seqD, at_nat h0]
  cases xs[i.toNat]? <;> rfl
theorem t_ixL {xs : List D} {i : Int} (h0 : 0 ≤ i) : dIxL xs (.int i) = R.opt xs[i.toNat]? := by
  simp only [dIxL, at_nat h0]
  cases xs[i.toNat]? <;> rfl
/-- an own slot's thing -/
def ownC (i : Nat) (r : Sc) : Option Cell := match r[i]? with
  | some (some (.own c)) => some c
  | _ => none
def ownAt (i : Nat) (r : Sc) : Option (List D) := match r[i]? with
  | some (some (.own (.l xs))) => some xs
  | _ => none
theorem q_oc0 {c : Cell} {r : Sc} : ownC 0 (some (.own c) :: r) = some c := id rfl
theorem q_ocs {i : Nat} {x : Option EV} {r : Sc} : ownC (i + 1) (x :: r) = ownC i r := by simp [ownC]
theorem q_oa0 {xs : List D} {r : Sc} : ownAt 0 (some (.own (.l xs)) :: r) = some xs := id rfl
theorem q_oas {i : Nat} {x : Option EV} {r : Sc} : ownAt (i + 1) (x :: r) = ownAt i r := by simp [ownAt]
def appD (i : Nat) (r : Sc) (xs : List D) (d : D) : Fl := if xs.length < sizeLine then .nx (r.set i (some (.own (.l (xs ++ [d]))))) else .bad
theorem t_appd {i : Nat} {r : Sc} {xs : List D} {d : D} (hl : xs.length < 16777216) : appD i r xs d = .nx (r.set i (some (.own (.l (xs ++ [d]))))) := if_pos (Nat.lt_of_lt_of_le hl sizeLine_big)
theorem q_app {i : Nat} {me : ME} {r : Sc} : mApp i me r = toFl r (R.opt (ownAt i r)) fun xs => toFl r (me r) fun d => appD i r xs d := by
  unfold mApp ownAt
  cases e : r[i]? with
  | none => rfl
  | some x =>
    cases x with
    | none => rfl
    | some y =>
      cases y with
      | val _ => rfl
      | own c => cases c <;> rfl
def putD (i : Nat) (r : Sc) (xs : List D) (d : D) (j : D) : Fl := match j with
  | .int z => (match L2.ixN xs.length z with
    | some t => .nx (r.set i (some (.own (.l (xs.set t d)))))
    | none => .bad)
  | _ => .bad
theorem t_putd {i : Nat} {r : Sc} {xs : List D} {d : D} {z : Int} (h0 : 0 ≤ z) (h1 : z < (xs.length : Int)) : putD i r xs d (.int z) = .nx (r.set i (some (.own (.l (xs.set z.toNat d))))) := by
  have hx : L2.ixN xs.length z = some z.toNat := by
    unfold L2.ixN
    rw [if_pos h0, if_pos h1]
  unfold putD
  simp only [hx]
theorem q_six {i : Nat} {mb me : ME} {r : Sc} : mSetIx i mb me r = toFl r (me r) fun d => toFl r (R.opt (ownAt i r)) fun xs => toFl r (mb r) fun j => putD i r xs d j := by
  unfold mSetIx ownAt
  congr 1
  funext d
  cases e : r[i]? with
  | none => rfl
  | some x =>
    cases x with
    | none => rfl
    | some y =>
      cases y with
      | val _ => rfl
      | own c => cases c <;> rfl
def Fl.opt {α : Type} (o : Option α) (f : α → Fl) : Fl := match o with
  | some c => f c
  | none => .bad
theorem q_flopt {α : Type} {c : α} {f : α → Fl} : Fl.opt (some c) f = f c := id rfl
theorem q_frz {i : Nat} {ms : MS} {r : Sc} : mFrz i ms r = Fl.opt (ownC i r) fun c => ms (r.set i (some (.val (thawed c)))) := by
  unfold mFrz ownC
  cases e : r[i]? with
  | none => rfl
  | some x =>
    cases x with
    | none => rfl
    | some y => cases y <;> rfl
theorem q_ixo {i : Nat} {mb : ME} {r : Sc} : mIxO i mb r = (R.opt (ownAt i r)).bind fun xs => (mb r).bind (dIxL xs) := by
  unfold mIxO ownAt
  cases e : r[i]? with
  | none => rfl
  | some x =>
    cases x with
    | none => rfl
    | some y =>
      cases y with
      | val _ => rfl
      | own c => cases c <;> rfl
/-- one of a written list's ints -/
theorem pick_ok {L : List Int} {i : Int} (P : Int → Prop) (h0 : 0 ≤ i) (h1 : i < (L.length : Int)) (hP : ∀ z ∈ L, P z) : ∃ v, dIx (.lst (L.map D.int)) (.int i) = .ok (.int v) ∧ P v := by
  have hl : i.toNat < L.length := by omega
  refine ⟨L[i.toNat], ?_, hP _ (List.getElem_mem hl)⟩
  rw [t_ixl h0, List.getElem?_map, List.getElem?_eq_getElem hl]
  rfl
theorem t_ixo {xs : List D} {i : Int} {x : D} (h0 : 0 ≤ i) (h1 : xs[i.toNat]? = some x) : dIxL xs (.int i) = .ok x := by
  have := q_ix (d := .lst xs) (x := x) rfl h0 h1
  simp only [dIx, seqD] at this
  exact this
theorem t_ixom {i : Nat} {mb : ME} {r : Sc} {xs : List D} (h : r[i]? = some (some (.own (.l xs)))) : mIxO i mb r = (mb r).bind (dIxL xs) := by
  unfold mIxO
  rw [h]
theorem t_if {α : Type} {p : Prop} [Decidable p] {a b : α} (h : p) : (if p then a else b) = a := if_pos h
theorem t_lst {ms : MA} {r : Sc} {ds : List D} (h : ms r = .ok ds) (hl : ds.length ≤ 16777216) : mLst ms r = .ok (.l ds) := by
  rw [q_lst, h, q_rb_ok, if_pos (Nat.le_trans hl sizeLine_big)]
theorem t_tup {ms : MA} {r : Sc} {ds : List D} (h : ms r = .ok ds) (hl : ds.length ≤ 16777216) : mTup ms r = .ok (.tup ds) := by
  rw [q_tup, h, q_rb_ok, if_pos (Nat.le_trans hl sizeLine_big)]
theorem t_app {i : Nat} {me : ME} {r : Sc} {xs : List D} (h : r[i]? = some (some (.own (.l xs)))) (hl : xs.length < 16777216) : mApp i me r = toFl r (me r) fun d => .nx (r.set i (some (.own (.l (xs ++ [d]))))) := by
  unfold mApp
  rw [h]
  simp only [if_pos (Nat.lt_of_lt_of_le hl sizeLine_big)]
theorem t_six {i : Nat} {mb me : ME} {r : Sc} {xs : List D} {d : D} {z : Int} (h : r[i]? = some (some (.own (.l xs)))) (e : me r = .ok d) (eb : mb r = .ok (.int z)) (h0 : 0 ≤ z) (h1 : z < xs.length) : mSetIx i mb me r = .nx (r.set i (some (.own (.l (xs.set z.toNat d))))) := by
  unfold mSetIx
  have hx : L2.ixN xs.length z = some z.toNat := by
    unfold L2.ixN
    rw [if_pos h0, if_pos h1]
  simp only [e, q_tf_ok, h, eb, hx]
theorem t_frz {i : Nat} {ms : MS} {r : Sc} {c : Cell} (h : r[i]? = some (some (.own c))) : mFrz i ms r = ms (r.set i (some (.val (thawed c)))) := by
  unfold mFrz
  rw [h]
theorem t_szl {a : Nat} (h : a ≤ 16777216) : (a ≤ sizeLine) = True := eq_true (Nat.le_trans h sizeLine_big)
theorem t_tupc {d : D} {xs : List D} (h : seqD d = some xs) : dTupOf [d] = .ok (.tup xs) := by
  unfold dTupOf
  simp only [h]
/-! ### a comprehension that takes every item -/
theorem lc_all {vs : List Nat} {mi : MA} {tb : D → Sc → Option Sc} {me : ME} {r : Sc} {ds : List D} {f : Nat → D} (h0 : notOwn r vs = true) (h1 : mi r = .ok ds) (hl : ds.length < 10000000) (h2 : ∀ (j : Nat) (d : D), ds[j]? = some d → ∃ r1, tb d (wipeS r vs) = some r1 ∧ me r1 = .ok (f j)) :
    mLC vs mi tb mYes me r = .ok (.l ((List.range ds.length).map f)) := by
  have key : ∀ (es : List D) (i : Nat) (acc : List D), (∀ (j : Nat) (d : D), es[j]? = some d → ∃ r1, tb d (wipeS r vs) = some r1 ∧ me r1 = .ok (f (i + j))) → acc.length + es.length < 16777216 → compL tb mYes me (wipeS r vs) es acc = .ok (.l (acc ++ (List.range es.length).map fun j => f (i + j))) := by
    intro es
    induction es with
    | nil =>
      intro i acc _ _
      simp [compL]
    | cons d es ih =>
      intro i acc h hl
      obtain ⟨r1, e1, e2⟩ := h 0 d rfl
      rw [List.length_cons] at hl
      have hs : acc.length < sizeLine := Nat.lt_of_lt_of_le (by omega) sizeLine_big
      simp only [compL, e1, mYes, R.ne, q_rb_ok, e2, if_pos hs]
      rw [ih (i + 1) (acc ++ [f (i + 0)]) (fun j d' hd => by
        have := h (j + 1) d' (by simpa using hd)
        rw [show i + (j + 1) = i + 1 + j by omega] at this
        exact this) (by rw [List.length_append]; simp; omega)]
      rw [List.length_cons, List.range_succ_eq_map, List.map_cons, List.map_map, List.append_assoc]
      congr 3
      simp only [List.singleton_append]
      congr 1
      apply List.map_congr_left
      intro j _
      show f (i + 1 + j) = f (i + (j + 1))
      congr 1
      omega
  unfold mLC
  simp only [h0, h1, q_rb_ok]
  rw [key ds 0 [] (fun j d hd => by rw [Nat.zero_add]; exact h2 j d hd) (by simp; omega)]
  simp
end QB

namespace QB
open PySem
open Builtin.Int (intBits)
/-! ### the row of a cell -/
def digitsM : List D → R D := mDef 8 (mSeq (mSetO 2 (mLst mNil)) (mSeq (mSet 3 (mCallB dInt (mCons (mVar 0) mNil))) (mSeq (mIf (mTB (mBin dGe (mVar 3) (mBin dPow (mC (.int 10)) (mC (.int 18))))) (mSeq (mSet 3 (mBin dSub (mVar 3) (mBin dPow (mC (.int 10)) (mC (.int 18))))) (mSeq (mFor (mItems (mVar 1)) (bName 4) (mSeq (mApp 2 (mBin dMod (mCallB dInt (mCons (mVar 3) mNil)) (mVar 4))) (mSet 3 (mBin dDiv (mCallB dInt (mCons (mVar 3) mNil)) (mVar 4))))) (mRet (mVarW 2)))) mNx) (mSeq (mSet 5 (mBin dMod (mCallB dInt (mCons (mVar 3) mNil)) (mC (.int 2147483629)))) (mSeq (mFor (mRg (mCons (mCallB dLen (mCons (mVar 1) mNil)) mNil)) (bName 6) (mSeq (mSet 5 (mBin dMod (mCallB dInt (mCons (mBin dAdd (mBin dAdd (mBin dMul (mVar 5) (mC (.int 48271))) (mBin dMul (mC (.int 974711)) (mVar 6))) (mC (.int 12345))) mNil)) (mC (.int 2147483647)))) (mSeq (mSet 7 (mBin dMod (mCallB dInt (mCons (mBin dMul (mVar 5) (mBin dAdd (mBin dDiv (mVar 5) (mC (.int 65537))) (mC (.int 3)))) mNil)) (mC (.int 2147483629)))) (mApp 2 (mBin dMod (mBin dDiv (mVar 7) (mC (.int 19))) (mBin dIx (mVar 1) (mVar 6))))))) (mRet (mVarW 2)))))))
def DigOk : List Int → List Int → Prop
  | [], [] => True
  | s :: ss, x :: xs => (0 ≤ x ∧ x < s) ∧ DigOk ss xs
  | _, _ => False
theorem DigOk.nil {row : List Int} (h : DigOk [] row) : row = [] := by
  cases row with
  | nil => rfl
  | cons x xs => exact h.elim
theorem DigOk.cons {s : Int} {ss row : List Int} (h : DigOk (s :: ss) row) : ∃ x xs, row = x :: xs ∧ 0 ≤ x ∧ x < s ∧ DigOk ss xs := by
  cases row with
  | nil => exact h.elim
  | cons x xs => exact ⟨x, xs, rfl, h.1.1, h.1.2, h.2⟩
theorem DigOk.snoc {s x : Int} (h0 : 0 ≤ x) (h1 : x < s) : ∀ {ss xs : List Int}, DigOk ss xs → DigOk (ss ++ [s]) (xs ++ [x])
  | [], [], _ => ⟨⟨h0, h1⟩, trivial⟩
  | _ :: _, _ :: _, h => ⟨h.1, DigOk.snoc h0 h1 h.2⟩
  | [], _ :: _, h => h.elim
  | _ :: _, [], h => h.elim
theorem DigOk.len : ∀ {ss xs : List Int}, DigOk ss xs → xs.length = ss.length
  | [], [], _ => rfl
  | _ :: _, _ :: _, h => congrArg (· + 1) (DigOk.len h.2)
  | [], _ :: _, h => h.elim
  | _ :: _, [], h => h.elim
theorem DigOk.get : ∀ {ss xs : List Int}, DigOk ss xs → ∀ {i : Nat} {s : Int}, ss[i]? = some s → ∃ x, xs[i]? = some x ∧ 0 ≤ x ∧ x < s
  | _ :: _, x :: _, h, 0, s, e => by
    cases e
    exact ⟨x, rfl, h.1.1, h.1.2⟩
  | _ :: _, _ :: _, h, i + 1, s, e => DigOk.get h.2 (by simpa using e)
  | [], [], _, i, s, e => by simp at e
  | [], _ :: _, h, _, _, _ => h.elim
  | _ :: _, [], h, _, _, _ => h.elim
theorem pow_10_18 : dPow (.int 10) (.int 18) = .ok (.int 1000000000000000000) := by
  unfold dPow
  simp only []
  rw [if_pos (by decide)]
  rfl
theorem digits_ok (c : Int) (sz : List Int) (hs : ∀ s ∈ sz, 0 < s ∧ s < 1000000000000) (hl : sz.length < 10000) : ∃ row : List Int, digitsM [.int c, .lst (sz.map D.int)] = .ok (.lst (row.map D.int)) ∧ DigOk sz row := by
  have take1 : ∀ (j : Nat) (s : Int), sz[j]? = some s → sz.take (j + 1) = sz.take j ++ [s] := fun j s e => by
    rw [List.take_succ, e]
    rfl
  by_cases hc : 1000000000000000000 ≤ c
  · obtain ⟨r2, e2, row, rest, x4, hr, hd⟩ := for_inv (i := 4) (body := (mSeq (mApp 2 (mBin dMod (mCallB dInt (mCons (mVar 3) mNil)) (mVar 4))) (mSet 3 (mBin dDiv (mCallB dInt (mCons (mVar 3) mNil)) (mVar 4)))))
      (fun j r => ∃ (row : List Int) (rest : Int) (x4 : Option EV), r = [some (.val (.int c)), some (.val (.lst (sz.map D.int))), some (.own (.l (row.map D.int))), some (.val (.int rest)), x4, none, none, none] ∧ DigOk (sz.take j) row) (ds := sz.map D.int)
      (r := [some (.val (.int c)), some (.val (.lst (sz.map D.int))), some (.own (.l (([] : List Int).map D.int))), some (.val (.int (c - 1000000000000000000))), none, none, none, none]) ⟨[], _, _, rfl, by rw [List.take_zero]; trivial⟩ (fun j d r hd ⟨row, rest, x4, hr, hD⟩ => by
        subst hr
        rw [List.getElem?_map] at hd
        obtain ⟨s, hs1, rfl⟩ := Option.map_eq_some_iff.mp hd
        obtain ⟨p0, p1⟩ := hs s (List.mem_of_getElem? hs1)
        have hj : j < sz.length := (List.getElem?_eq_some_iff.mp hs1).1
        have lr : row.length ≤ 10000 := by
          rw [hD.len, List.length_take]
          omega
        refine ⟨[some (.val (.int c)), some (.val (.lst (sz.map D.int))), some (.own (.l ((row ++ [rest % s]).map D.int))), some (.val (.int (rest / s))), some (.val (.int s)), none, none, none], ?_, row ++ [rest % s], rest / s, _, rfl, ?_⟩
        · simp only [List.set_cons_succ, List.set_cons_zero]
          rw [seq_nx (a := mApp _ _) (by rw [t_app (xs := row.map D.int) rfl (by rw [List.length_map]; omega)]; simp (disch := omega) only [q_df, q_st, q_sq, q_at_nx, q_at_rt, q_at_bk, q_at_ct, q_at_ex, q_mi, q_sel_t, q_sel_f, q_out_rt, q_out_nx, q_out_ex, q_rb_ok, q_rb_bad, q_rb_exc, q_tf_ok, q_v0, q_vs, q_w0, q_w0o, q_ws, q_tbq, q_asb, q_nt, q_rsel_t, q_rsel_f, q_ta, q_to, q_va, q_vo, q_vn, q_sett, q_seto, q_bin, q_c, q_callb, q_cons, q_nil, q_tup, q_lst, q_celle, q_ret, q_nx, q_thl, q_thd, q_isi, q_neg, q_neg_i, q_callk, q_drop, q_retn, q_brk, q_cnt, q_ife, q_add_i, q_sub_i, List.map_cons, List.map_nil, List.length_cons, List.length_nil, List.replicate, List.append_nil, List.nil_append, List.cons_append, Nat.reduceAdd, Nat.reduceSub, List.getElem?_cons_zero, List.getElem?_cons_succ, List.set_cons_zero, List.set_cons_succ, Bool.not_true, Bool.not_false, decide_true, decide_false, if_true, if_false, t_lt_t, t_lt_f, t_le_t, t_le_f, t_gt_t, t_gt_f, t_ge_t, t_ge_f, t_eq_t, t_eq_f, t_ne_t, t_ne_f, t_is_b, t_isn_b, t_is_i, t_is_n, t_isn_i, t_isn_n, t_abs_n, t_abs_p, t_min, t_max, t_ixl, t_ixt, t_ixs, t_ixL, q_opt, q_ixo, q_oc0, q_ocs, q_oa0, q_oas, t_appd, q_app, t_putd, q_six, q_flopt, q_frz, q_int_i, q_mul_s, q_mod_i, q_div_i, q_len_s, q_len_l, q_len_t, q_items_s, q_items_l, q_items_t, t_szl, Int.reduceToNat, Int.reduceNeg, permL, List.filterMap_cons, List.filterMap_nil, eq_self, if_true, if_false, ite_true, ite_false, Bool.true_eq_false, Bool.false_eq_true]; rfl)]
          simp (disch := omega) only [q_df, q_st, q_sq, q_at_nx, q_at_rt, q_at_bk, q_at_ct, q_at_ex, q_mi, q_sel_t, q_sel_f, q_out_rt, q_out_nx, q_out_ex, q_rb_ok, q_rb_bad, q_rb_exc, q_tf_ok, q_v0, q_vs, q_w0, q_w0o, q_ws, q_tbq, q_asb, q_nt, q_rsel_t, q_rsel_f, q_ta, q_to, q_va, q_vo, q_vn, q_sett, q_seto, q_bin, q_c, q_callb, q_cons, q_nil, q_tup, q_lst, q_celle, q_ret, q_nx, q_thl, q_thd, q_isi, q_neg, q_neg_i, q_callk, q_drop, q_retn, q_brk, q_cnt, q_ife, q_add_i, q_sub_i, List.map_cons, List.map_nil, List.length_cons, List.length_nil, List.replicate, List.append_nil, List.nil_append, List.cons_append, Nat.reduceAdd, Nat.reduceSub, List.getElem?_cons_zero, List.getElem?_cons_succ, List.set_cons_zero, List.set_cons_succ, Bool.not_true, Bool.not_false, decide_true, decide_false, if_true, if_false, t_lt_t, t_lt_f, t_le_t, t_le_f, t_gt_t, t_gt_f, t_ge_t, t_ge_f, t_eq_t, t_eq_f, t_ne_t, t_ne_f, t_is_b, t_isn_b, t_is_i, t_is_n, t_isn_i, t_isn_n, t_abs_n, t_abs_p, t_min, t_max, t_ixl, t_ixt, t_ixs, t_ixL, q_opt, q_ixo, q_oc0, q_ocs, q_oa0, q_oas, t_appd, q_app, t_putd, q_six, q_flopt, q_frz, q_int_i, q_mul_s, q_mod_i, q_div_i, q_len_s, q_len_l, q_len_t, q_items_s, q_items_l, q_items_t, t_szl, Int.reduceToNat, Int.reduceNeg, permL, List.filterMap_cons, List.filterMap_nil, eq_self, if_true, if_false, ite_true, ite_false, Bool.true_eq_false, Bool.false_eq_true, List.map_append]
        · rw [take1 j s hs1]
          exact hD.snoc (Int.emod_nonneg _ (by omega)) (Int.emod_lt_of_pos _ p0))
    subst hr
    rw [List.map_nil] at e2
    refine ⟨row, ?_, by rw [List.length_map, List.take_length] at hd; exact hd⟩
    refine def_of ?_
    rw [show mStart 8 [D.int c, D.lst (sz.map D.int)] = [some (.val (.int c)), some (.val (.lst (sz.map D.int))), none, none, none, none, none, none] from rfl]
    rw [seq_nx (r' := [some (.val (.int c)), some (.val (.lst (sz.map D.int))), some (.own (.l [])), none, none, none, none, none]) (by simp (disch := omega) only [q_df, q_st, q_sq, q_at_nx, q_at_rt, q_at_bk, q_at_ct, q_at_ex, q_mi, q_sel_t, q_sel_f, q_out_rt, q_out_nx, q_out_ex, q_rb_ok, q_rb_bad, q_rb_exc, q_tf_ok, q_v0, q_vs, q_w0, q_w0o, q_ws, q_tbq, q_asb, q_nt, q_rsel_t, q_rsel_f, q_ta, q_to, q_va, q_vo, q_vn, q_sett, q_seto, q_bin, q_c, q_callb, q_cons, q_nil, q_tup, q_lst, q_celle, q_ret, q_nx, q_thl, q_thd, q_isi, q_neg, q_neg_i, q_callk, q_drop, q_retn, q_brk, q_cnt, q_ife, q_add_i, q_sub_i, List.map_cons, List.map_nil, List.length_cons, List.length_nil, List.replicate, List.append_nil, List.nil_append, List.cons_append, Nat.reduceAdd, Nat.reduceSub, List.getElem?_cons_zero, List.getElem?_cons_succ, List.set_cons_zero, List.set_cons_succ, Bool.not_true, Bool.not_false, decide_true, decide_false, if_true, if_false, t_lt_t, t_lt_f, t_le_t, t_le_f, t_gt_t, t_gt_f, t_ge_t, t_ge_f, t_eq_t, t_eq_f, t_ne_t, t_ne_f, t_is_b, t_isn_b, t_is_i, t_is_n, t_isn_i, t_isn_n, t_abs_n, t_abs_p, t_min, t_max, t_ixl, t_ixt, t_ixs, t_ixL, q_opt, q_ixo, q_oc0, q_ocs, q_oa0, q_oas, t_appd, q_app, t_putd, q_six, q_flopt, q_frz, q_int_i, q_mul_s, q_mod_i, q_div_i, q_len_s, q_len_l, q_len_t, q_items_s, q_items_l, q_items_t, t_szl, Int.reduceToNat, Int.reduceNeg, permL, List.filterMap_cons, List.filterMap_nil, eq_self, if_true, if_false, ite_true, ite_false, Bool.true_eq_false, Bool.false_eq_true])]
    rw [seq_nx (r' := [some (.val (.int c)), some (.val (.lst (sz.map D.int))), some (.own (.l [])), some (.val (.int c)), none, none, none, none]) (by simp (disch := omega) only [q_df, q_st, q_sq, q_at_nx, q_at_rt, q_at_bk, q_at_ct, q_at_ex, q_mi, q_sel_t, q_sel_f, q_out_rt, q_out_nx, q_out_ex, q_rb_ok, q_rb_bad, q_rb_exc, q_tf_ok, q_v0, q_vs, q_w0, q_w0o, q_ws, q_tbq, q_asb, q_nt, q_rsel_t, q_rsel_f, q_ta, q_to, q_va, q_vo, q_vn, q_sett, q_seto, q_bin, q_c, q_callb, q_cons, q_nil, q_tup, q_lst, q_celle, q_ret, q_nx, q_thl, q_thd, q_isi, q_neg, q_neg_i, q_callk, q_drop, q_retn, q_brk, q_cnt, q_ife, q_add_i, q_sub_i, List.map_cons, List.map_nil, List.length_cons, List.length_nil, List.replicate, List.append_nil, List.nil_append, List.cons_append, Nat.reduceAdd, Nat.reduceSub, List.getElem?_cons_zero, List.getElem?_cons_succ, List.set_cons_zero, List.set_cons_succ, Bool.not_true, Bool.not_false, decide_true, decide_false, if_true, if_false, t_lt_t, t_lt_f, t_le_t, t_le_f, t_gt_t, t_gt_f, t_ge_t, t_ge_f, t_eq_t, t_eq_f, t_ne_t, t_ne_f, t_is_b, t_isn_b, t_is_i, t_is_n, t_isn_i, t_isn_n, t_abs_n, t_abs_p, t_min, t_max, t_ixl, t_ixt, t_ixs, t_ixL, q_opt, q_ixo, q_oc0, q_ocs, q_oa0, q_oas, t_appd, q_app, t_putd, q_six, q_flopt, q_frz, q_int_i, q_mul_s, q_mod_i, q_div_i, q_len_s, q_len_l, q_len_t, q_items_s, q_items_l, q_items_t, t_szl, Int.reduceToNat, Int.reduceNeg, permL, List.filterMap_cons, List.filterMap_nil, eq_self, if_true, if_false, ite_true, ite_false, Bool.true_eq_false, Bool.false_eq_true])]
    refine seq_rt ?_
    rw [q_mi]
    simp (disch := omega) only [q_tbq, q_bin, q_vs, q_v0, q_c, q_rb_ok, pow_10_18, t_ge_t, q_asb, q_tf_ok, q_sel_t]
    rw [seq_nx (r' := [some (.val (.int c)), some (.val (.lst (sz.map D.int))), some (.own (.l [])), some (.val (.int (c - 1000000000000000000))), none, none, none, none]) (by simp (disch := omega) only [q_df, q_st, q_sq, q_at_nx, q_at_rt, q_at_bk, q_at_ct, q_at_ex, q_mi, q_sel_t, q_sel_f, q_out_rt, q_out_nx, q_out_ex, q_rb_ok, q_rb_bad, q_rb_exc, q_tf_ok, q_v0, q_vs, q_w0, q_w0o, q_ws, q_tbq, q_asb, q_nt, q_rsel_t, q_rsel_f, q_ta, q_to, q_va, q_vo, q_vn, q_sett, q_seto, q_bin, q_c, q_callb, q_cons, q_nil, q_tup, q_lst, q_celle, q_ret, q_nx, q_thl, q_thd, q_isi, q_neg, q_neg_i, q_callk, q_drop, q_retn, q_brk, q_cnt, q_ife, q_add_i, q_sub_i, List.map_cons, List.map_nil, List.length_cons, List.length_nil, List.replicate, List.append_nil, List.nil_append, List.cons_append, Nat.reduceAdd, Nat.reduceSub, List.getElem?_cons_zero, List.getElem?_cons_succ, List.set_cons_zero, List.set_cons_succ, Bool.not_true, Bool.not_false, decide_true, decide_false, if_true, if_false, t_lt_t, t_lt_f, t_le_t, t_le_f, t_gt_t, t_gt_f, t_ge_t, t_ge_f, t_eq_t, t_eq_f, t_ne_t, t_ne_f, t_is_b, t_isn_b, t_is_i, t_is_n, t_isn_i, t_isn_n, t_abs_n, t_abs_p, t_min, t_max, t_ixl, t_ixt, t_ixs, t_ixL, q_opt, q_ixo, q_oc0, q_ocs, q_oa0, q_oas, t_appd, q_app, t_putd, q_six, q_flopt, q_frz, q_int_i, q_mul_s, q_mod_i, q_div_i, q_len_s, q_len_l, q_len_t, q_items_s, q_items_l, q_items_t, t_szl, Int.reduceToNat, Int.reduceNeg, permL, List.filterMap_cons, List.filterMap_nil, eq_self, if_true, if_false, ite_true, ite_false, Bool.true_eq_false, Bool.false_eq_true, pow_10_18])]
    rw [seq_nx (for_nx (by simp only [q_df, q_st, q_sq, q_at_nx, q_at_rt, q_at_bk, q_at_ct, q_at_ex, q_mi, q_sel_t, q_sel_f, q_out_rt, q_out_nx, q_out_ex, q_rb_ok, q_rb_bad, q_rb_exc, q_tf_ok, q_v0, q_vs, q_w0, q_w0o, q_ws, q_tbq, q_asb, q_nt, q_rsel_t, q_rsel_f, q_ta, q_to, q_va, q_vo, q_vn, q_sett, q_seto, q_bin, q_c, q_callb, q_cons, q_nil, q_tup, q_lst, q_celle, q_ret, q_nx, q_thl, q_thd, q_isi, q_neg, q_neg_i, q_callk, q_drop, q_retn, q_brk, q_cnt, q_ife, q_add_i, q_sub_i, q_lt_i, q_le_i, q_gt_i, q_ge_i, q_eq_i, q_ne_i, List.map_cons, List.map_nil, List.length_cons, List.length_nil, List.replicate, List.append_nil, List.nil_append, List.cons_append, Nat.reduceAdd, Nat.reduceSub, List.getElem?_cons_zero, List.getElem?_cons_succ, List.set_cons_zero, List.set_cons_succ, Bool.not_true, Bool.not_false, decide_true, decide_false, if_true, if_false, q_it, q_items_l]) e2)]
    rfl
  · have m0 : 0 ≤ c % 2147483629 := Int.emod_nonneg _ (by omega)
    have m1 : c % 2147483629 < 2147483629 := Int.emod_lt_of_pos _ (by omega)
    obtain ⟨r2, e2, row, seed, x4, x6, x7, hr, hd, s0, s1⟩ := for_inv (i := 6) (body := (mSeq (mSet 5 (mBin dMod (mCallB dInt (mCons (mBin dAdd (mBin dAdd (mBin dMul (mVar 5) (mC (.int 48271))) (mBin dMul (mC (.int 974711)) (mVar 6))) (mC (.int 12345))) mNil)) (mC (.int 2147483647)))) (mSeq (mSet 7 (mBin dMod (mCallB dInt (mCons (mBin dMul (mVar 5) (mBin dAdd (mBin dDiv (mVar 5) (mC (.int 65537))) (mC (.int 3)))) mNil)) (mC (.int 2147483629)))) (mApp 2 (mBin dMod (mBin dDiv (mVar 7) (mC (.int 19))) (mBin dIx (mVar 1) (mVar 6)))))))
      (fun j r => ∃ (row : List Int) (seed : Int) (x4 x6 x7 : Option EV), r = [some (.val (.int c)), some (.val (.lst (sz.map D.int))), some (.own (.l (row.map D.int))), some (.val (.int c)), x4, some (.val (.int seed)), x6, x7] ∧ DigOk (sz.take j) row ∧ 0 ≤ seed ∧ seed < 2147483647) (ds := rgD 0 (((sz.map D.int).length : Int)).toNat)
      (r := [some (.val (.int c)), some (.val (.lst (sz.map D.int))), some (.own (.l (([] : List Int).map D.int))), some (.val (.int c)), none, some (.val (.int (c % 2147483629))), none, none]) ⟨[], _, _, _, _, rfl, by rw [List.take_zero]; trivial, m0, by omega⟩ (fun j d r hd ⟨row, seed, x4, x6, x7, hr, hD, s0, s1⟩ => by
        subst hr
        obtain ⟨hj, rfl⟩ := rgD_get hd
        rw [List.length_map] at hj
        have hj' : j < sz.length := by omega
        have hs1 : sz[j]? = some sz[j] := List.getElem?_eq_getElem hj'
        generalize sz[j] = s at hs1
        obtain ⟨p0, p1⟩ := hs s (List.mem_of_getElem? hs1)
        have lr : row.length ≤ 10000 := by
          rw [hD.len, List.length_take]
          omega
        have hx : (sz.map D.int)[(0 + (j : Int)).toNat]? = some (.int s) := by
          rw [List.getElem?_map, show (0 + (j : Int)).toNat = j by omega, hs1]
          rfl
        have hj2 : (j : Int) < 10000 := by omega
        have k0 := Int.emod_nonneg (seed * 48271 + 974711 * (0 + (j : Int)) + 12345) (show (2147483647 : Int) ≠ 0 by omega)
        have k1 := Int.emod_lt_of_pos (seed * 48271 + 974711 * (0 + (j : Int)) + 12345) (show (0 : Int) < 2147483647 by omega)
        have st1 : mSet 5 (mBin dMod (mCallB dInt (mCons (mBin dAdd (mBin dAdd (mBin dMul (mVar 5) (mC (.int 48271))) (mBin dMul (mC (.int 974711)) (mVar 6))) (mC (.int 12345))) mNil)) (mC (.int 2147483647))) [some (.val (.int c)), some (.val (.lst (sz.map D.int))), some (.own (.l (row.map D.int))), some (.val (.int c)), x4, some (.val (.int seed)), some (.val (.int (0 + (j : Int)))), x7]
          = .nx [some (.val (.int c)), some (.val (.lst (sz.map D.int))), some (.own (.l (row.map D.int))), some (.val (.int c)), x4, some (.val (.int ((seed * 48271 + 974711 * (0 + (j : Int)) + 12345) % 2147483647))), some (.val (.int (0 + (j : Int)))), x7] := by
          simp (disch := omega) only [q_df, q_st, q_sq, q_at_nx, q_at_rt, q_at_bk, q_at_ct, q_at_ex, q_mi, q_sel_t, q_sel_f, q_out_rt, q_out_nx, q_out_ex, q_rb_ok, q_rb_bad, q_rb_exc, q_tf_ok, q_v0, q_vs, q_w0, q_w0o, q_ws, q_tbq, q_asb, q_nt, q_rsel_t, q_rsel_f, q_ta, q_to, q_va, q_vo, q_vn, q_sett, q_seto, q_bin, q_c, q_callb, q_cons, q_nil, q_tup, q_lst, q_celle, q_ret, q_nx, q_thl, q_thd, q_isi, q_neg, q_neg_i, q_callk, q_drop, q_retn, q_brk, q_cnt, q_ife, q_add_i, q_sub_i, List.map_cons, List.map_nil, List.length_cons, List.length_nil, List.replicate, List.append_nil, List.nil_append, List.cons_append, Nat.reduceAdd, Nat.reduceSub, List.getElem?_cons_zero, List.getElem?_cons_succ, List.set_cons_zero, List.set_cons_succ, Bool.not_true, Bool.not_false, decide_true, decide_false, if_true, if_false, t_lt_t, t_lt_f, t_le_t, t_le_f, t_gt_t, t_gt_f, t_ge_t, t_ge_f, t_eq_t, t_eq_f, t_ne_t, t_ne_f, t_is_b, t_isn_b, t_is_i, t_is_n, t_isn_i, t_isn_n, t_abs_n, t_abs_p, t_min, t_max, t_ixl, t_ixt, t_ixs, t_ixL, q_opt, q_ixo, q_oc0, q_ocs, q_oa0, q_oas, t_appd, q_app, t_putd, q_six, q_flopt, q_frz, q_int_i, q_mul_s, q_mod_i, q_div_i, q_len_s, q_len_l, q_len_t, q_items_s, q_items_l, q_items_t, t_szl, Int.reduceToNat, Int.reduceNeg, permL, List.filterMap_cons, List.filterMap_nil, eq_self, if_true, if_false, ite_true, ite_false, Bool.true_eq_false, Bool.false_eq_true]
        generalize (seed * 48271 + 974711 * (0 + (j : Int)) + 12345) % 2147483647 = t at k0 k1 st1
        have st2 : mSet 7 (mBin dMod (mCallB dInt (mCons (mBin dMul (mVar 5) (mBin dAdd (mBin dDiv (mVar 5) (mC (.int 65537))) (mC (.int 3)))) mNil)) (mC (.int 2147483629))) [some (.val (.int c)), some (.val (.lst (sz.map D.int))), some (.own (.l (row.map D.int))), some (.val (.int c)), x4, some (.val (.int t)), some (.val (.int (0 + (j : Int)))), x7]
          = .nx [some (.val (.int c)), some (.val (.lst (sz.map D.int))), some (.own (.l (row.map D.int))), some (.val (.int c)), x4, some (.val (.int t)), some (.val (.int (0 + (j : Int)))), some (.val (.int (t * (t / 65537 + 3) % 2147483629)))] := by
          simp (disch := omega) only [q_df, q_st, q_sq, q_at_nx, q_at_rt, q_at_bk, q_at_ct, q_at_ex, q_mi, q_sel_t, q_sel_f, q_out_rt, q_out_nx, q_out_ex, q_rb_ok, q_rb_bad, q_rb_exc, q_tf_ok, q_v0, q_vs, q_w0, q_w0o, q_ws, q_tbq, q_asb, q_nt, q_rsel_t, q_rsel_f, q_ta, q_to, q_va, q_vo, q_vn, q_sett, q_seto, q_bin, q_c, q_callb, q_cons, q_nil, q_tup, q_lst, q_celle, q_ret, q_nx, q_thl, q_thd, q_isi, q_neg, q_neg_i, q_callk, q_drop, q_retn, q_brk, q_cnt, q_ife, q_add_i, q_sub_i, List.map_cons, List.map_nil, List.length_cons, List.length_nil, List.replicate, List.append_nil, List.nil_append, List.cons_append, Nat.reduceAdd, Nat.reduceSub, List.getElem?_cons_zero, List.getElem?_cons_succ, List.set_cons_zero, List.set_cons_succ, Bool.not_true, Bool.not_false, decide_true, decide_false, if_true, if_false, t_lt_t, t_lt_f, t_le_t, t_le_f, t_gt_t, t_gt_f, t_ge_t, t_ge_f, t_eq_t, t_eq_f, t_ne_t, t_ne_f, t_is_b, t_isn_b, t_is_i, t_is_n, t_isn_i, t_isn_n, t_abs_n, t_abs_p, t_min, t_max, t_ixl, t_ixt, t_ixs, t_ixL, q_opt, q_ixo, q_oc0, q_ocs, q_oa0, q_oas, t_appd, q_app, t_putd, q_six, q_flopt, q_frz, q_int_i, q_mul_s, q_mod_i, q_div_i, q_len_s, q_len_l, q_len_t, q_items_s, q_items_l, q_items_t, t_szl, Int.reduceToNat, Int.reduceNeg, permL, List.filterMap_cons, List.filterMap_nil, eq_self, if_true, if_false, ite_true, ite_false, Bool.true_eq_false, Bool.false_eq_true]
        refine ⟨[some (.val (.int c)), some (.val (.lst (sz.map D.int))), some (.own (.l ((row ++ [t * (t / 65537 + 3) % 2147483629 / 19 % s]).map D.int))), some (.val (.int c)), x4, some (.val (.int t)), some (.val (.int (0 + (j : Int)))), some (.val (.int (t * (t / 65537 + 3) % 2147483629)))], ?_, row ++ [t * (t / 65537 + 3) % 2147483629 / 19 % s], t, _, _, _, rfl, ?_, k0, k1⟩
        · simp only [List.set_cons_succ, List.set_cons_zero]
          rw [seq_nx st1, seq_nx st2, t_app (xs := row.map D.int) rfl (by rw [List.length_map]; omega)]
          simp (disch := omega) only [q_df, q_st, q_sq, q_at_nx, q_at_rt, q_at_bk, q_at_ct, q_at_ex, q_mi, q_sel_t, q_sel_f, q_out_rt, q_out_nx, q_out_ex, q_rb_ok, q_rb_bad, q_rb_exc, q_tf_ok, q_v0, q_vs, q_w0, q_w0o, q_ws, q_tbq, q_asb, q_nt, q_rsel_t, q_rsel_f, q_ta, q_to, q_va, q_vo, q_vn, q_sett, q_seto, q_bin, q_c, q_callb, q_cons, q_nil, q_tup, q_lst, q_celle, q_ret, q_nx, q_thl, q_thd, q_isi, q_neg, q_neg_i, q_callk, q_drop, q_retn, q_brk, q_cnt, q_ife, q_add_i, q_sub_i, List.map_cons, List.map_nil, List.length_cons, List.length_nil, List.replicate, List.append_nil, List.nil_append, List.cons_append, Nat.reduceAdd, Nat.reduceSub, List.getElem?_cons_zero, List.getElem?_cons_succ, List.set_cons_zero, List.set_cons_succ, Bool.not_true, Bool.not_false, decide_true, decide_false, if_true, if_false, t_lt_t, t_lt_f, t_le_t, t_le_f, t_gt_t, t_gt_f, t_ge_t, t_ge_f, t_eq_t, t_eq_f, t_ne_t, t_ne_f, t_is_b, t_isn_b, t_is_i, t_is_n, t_isn_i, t_isn_n, t_abs_n, t_abs_p, t_min, t_max, t_ixl, t_ixt, t_ixs, t_ixL, q_opt, q_ixo, q_oc0, q_ocs, q_oa0, q_oas, t_appd, q_app, t_putd, q_six, q_flopt, q_frz, q_int_i, q_mul_s, q_mod_i, q_div_i, q_len_s, q_len_l, q_len_t, q_items_s, q_items_l, q_items_t, t_szl, Int.reduceToNat, Int.reduceNeg, permL, List.filterMap_cons, List.filterMap_nil, eq_self, if_true, if_false, ite_true, ite_false, Bool.true_eq_false, Bool.false_eq_true, hx, List.map_append]
        · rw [take1 j s hs1]
          exact hD.snoc (Int.emod_nonneg _ (by omega)) (Int.emod_lt_of_pos _ p0))
    subst hr
    rw [List.map_nil] at e2
    refine ⟨row, ?_, ?_⟩
    · refine def_of ?_
      rw [show mStart 8 [D.int c, D.lst (sz.map D.int)] = [some (.val (.int c)), some (.val (.lst (sz.map D.int))), none, none, none, none, none, none] from rfl]
      rw [seq_nx (r' := [some (.val (.int c)), some (.val (.lst (sz.map D.int))), some (.own (.l [])), none, none, none, none, none]) (by simp (disch := omega) only [q_df, q_st, q_sq, q_at_nx, q_at_rt, q_at_bk, q_at_ct, q_at_ex, q_mi, q_sel_t, q_sel_f, q_out_rt, q_out_nx, q_out_ex, q_rb_ok, q_rb_bad, q_rb_exc, q_tf_ok, q_v0, q_vs, q_w0, q_w0o, q_ws, q_tbq, q_asb, q_nt, q_rsel_t, q_rsel_f, q_ta, q_to, q_va, q_vo, q_vn, q_sett, q_seto, q_bin, q_c, q_callb, q_cons, q_nil, q_tup, q_lst, q_celle, q_ret, q_nx, q_thl, q_thd, q_isi, q_neg, q_neg_i, q_callk, q_drop, q_retn, q_brk, q_cnt, q_ife, q_add_i, q_sub_i, List.map_cons, List.map_nil, List.length_cons, List.length_nil, List.replicate, List.append_nil, List.nil_append, List.cons_append, Nat.reduceAdd, Nat.reduceSub, List.getElem?_cons_zero, List.getElem?_cons_succ, List.set_cons_zero, List.set_cons_succ, Bool.not_true, Bool.not_false, decide_true, decide_false, if_true, if_false, t_lt_t, t_lt_f, t_le_t, t_le_f, t_gt_t, t_gt_f, t_ge_t, t_ge_f, t_eq_t, t_eq_f, t_ne_t, t_ne_f, t_is_b, t_isn_b, t_is_i, t_is_n, t_isn_i, t_isn_n, t_abs_n, t_abs_p, t_min, t_max, t_ixl, t_ixt, t_ixs, t_ixL, q_opt, q_ixo, q_oc0, q_ocs, q_oa0, q_oas, t_appd, q_app, t_putd, q_six, q_flopt, q_frz, q_int_i, q_mul_s, q_mod_i, q_div_i, q_len_s, q_len_l, q_len_t, q_items_s, q_items_l, q_items_t, t_szl, Int.reduceToNat, Int.reduceNeg, permL, List.filterMap_cons, List.filterMap_nil, eq_self, if_true, if_false, ite_true, ite_false, Bool.true_eq_false, Bool.false_eq_true])]
      rw [seq_nx (r' := [some (.val (.int c)), some (.val (.lst (sz.map D.int))), some (.own (.l [])), some (.val (.int c)), none, none, none, none]) (by simp (disch := omega) only [q_df, q_st, q_sq, q_at_nx, q_at_rt, q_at_bk, q_at_ct, q_at_ex, q_mi, q_sel_t, q_sel_f, q_out_rt, q_out_nx, q_out_ex, q_rb_ok, q_rb_bad, q_rb_exc, q_tf_ok, q_v0, q_vs, q_w0, q_w0o, q_ws, q_tbq, q_asb, q_nt, q_rsel_t, q_rsel_f, q_ta, q_to, q_va, q_vo, q_vn, q_sett, q_seto, q_bin, q_c, q_callb, q_cons, q_nil, q_tup, q_lst, q_celle, q_ret, q_nx, q_thl, q_thd, q_isi, q_neg, q_neg_i, q_callk, q_drop, q_retn, q_brk, q_cnt, q_ife, q_add_i, q_sub_i, List.map_cons, List.map_nil, List.length_cons, List.length_nil, List.replicate, List.append_nil, List.nil_append, List.cons_append, Nat.reduceAdd, Nat.reduceSub, List.getElem?_cons_zero, List.getElem?_cons_succ, List.set_cons_zero, List.set_cons_succ, Bool.not_true, Bool.not_false, decide_true, decide_false, if_true, if_false, t_lt_t, t_lt_f, t_le_t, t_le_f, t_gt_t, t_gt_f, t_ge_t, t_ge_f, t_eq_t, t_eq_f, t_ne_t, t_ne_f, t_is_b, t_isn_b, t_is_i, t_is_n, t_isn_i, t_isn_n, t_abs_n, t_abs_p, t_min, t_max, t_ixl, t_ixt, t_ixs, t_ixL, q_opt, q_ixo, q_oc0, q_ocs, q_oa0, q_oas, t_appd, q_app, t_putd, q_six, q_flopt, q_frz, q_int_i, q_mul_s, q_mod_i, q_div_i, q_len_s, q_len_l, q_len_t, q_items_s, q_items_l, q_items_t, t_szl, Int.reduceToNat, Int.reduceNeg, permL, List.filterMap_cons, List.filterMap_nil, eq_self, if_true, if_false, ite_true, ite_false, Bool.true_eq_false, Bool.false_eq_true])]
      rw [seq_nx (a := mIf _ _ _) (r' := [some (.val (.int c)), some (.val (.lst (sz.map D.int))), some (.own (.l [])), some (.val (.int c)), none, none, none, none]) (by
        rw [q_mi]
        simp (disch := omega) only [q_tbq, q_bin, q_vs, q_v0, q_c, q_rb_ok, pow_10_18, t_ge_f, q_asb, q_tf_ok, q_sel_f, q_nx])]
      rw [seq_nx (r' := [some (.val (.int c)), some (.val (.lst (sz.map D.int))), some (.own (.l [])), some (.val (.int c)), none, some (.val (.int (c % 2147483629))), none, none]) (by simp (disch := omega) only [q_df, q_st, q_sq, q_at_nx, q_at_rt, q_at_bk, q_at_ct, q_at_ex, q_mi, q_sel_t, q_sel_f, q_out_rt, q_out_nx, q_out_ex, q_rb_ok, q_rb_bad, q_rb_exc, q_tf_ok, q_v0, q_vs, q_w0, q_w0o, q_ws, q_tbq, q_asb, q_nt, q_rsel_t, q_rsel_f, q_ta, q_to, q_va, q_vo, q_vn, q_sett, q_seto, q_bin, q_c, q_callb, q_cons, q_nil, q_tup, q_lst, q_celle, q_ret, q_nx, q_thl, q_thd, q_isi, q_neg, q_neg_i, q_callk, q_drop, q_retn, q_brk, q_cnt, q_ife, q_add_i, q_sub_i, List.map_cons, List.map_nil, List.length_cons, List.length_nil, List.replicate, List.append_nil, List.nil_append, List.cons_append, Nat.reduceAdd, Nat.reduceSub, List.getElem?_cons_zero, List.getElem?_cons_succ, List.set_cons_zero, List.set_cons_succ, Bool.not_true, Bool.not_false, decide_true, decide_false, if_true, if_false, t_lt_t, t_lt_f, t_le_t, t_le_f, t_gt_t, t_gt_f, t_ge_t, t_ge_f, t_eq_t, t_eq_f, t_ne_t, t_ne_f, t_is_b, t_isn_b, t_is_i, t_is_n, t_isn_i, t_isn_n, t_abs_n, t_abs_p, t_min, t_max, t_ixl, t_ixt, t_ixs, t_ixL, q_opt, q_ixo, q_oc0, q_ocs, q_oa0, q_oas, t_appd, q_app, t_putd, q_six, q_flopt, q_frz, q_int_i, q_mul_s, q_mod_i, q_div_i, q_len_s, q_len_l, q_len_t, q_items_s, q_items_l, q_items_t, t_szl, Int.reduceToNat, Int.reduceNeg, permL, List.filterMap_cons, List.filterMap_nil, eq_self, if_true, if_false, ite_true, ite_false, Bool.true_eq_false, Bool.false_eq_true])]
      have hlm : (sz.map D.int).length < 10000 := by rw [List.length_map]; exact hl
      rw [seq_nx (for_nx (by simp only [q_df, q_st, q_sq, q_at_nx, q_at_rt, q_at_bk, q_at_ct, q_at_ex, q_mi, q_sel_t, q_sel_f, q_out_rt, q_out_nx, q_out_ex, q_rb_ok, q_rb_bad, q_rb_exc, q_tf_ok, q_v0, q_vs, q_w0, q_w0o, q_ws, q_tbq, q_asb, q_nt, q_rsel_t, q_rsel_f, q_ta, q_to, q_va, q_vo, q_vn, q_sett, q_seto, q_bin, q_c, q_callb, q_cons, q_nil, q_tup, q_lst, q_celle, q_ret, q_nx, q_thl, q_thd, q_isi, q_neg, q_neg_i, q_callk, q_drop, q_retn, q_brk, q_cnt, q_ife, q_add_i, q_sub_i, q_lt_i, q_le_i, q_gt_i, q_ge_i, q_eq_i, q_ne_i, List.map_cons, List.map_nil, List.length_cons, List.length_nil, List.replicate, List.append_nil, List.nil_append, List.cons_append, Nat.reduceAdd, Nat.reduceSub, List.getElem?_cons_zero, List.getElem?_cons_succ, List.set_cons_zero, List.set_cons_succ, Bool.not_true, Bool.not_false, decide_true, decide_false, if_true, if_false, q_rg, q_len_l, q_rg1 (show -1000000000 ≤ ((sz.map D.int).length : Int) by omega) (show ((sz.map D.int).length : Int) < 1000000000 by omega)]) e2)]
      rfl
    · rw [rgD_len, List.length_map, show ((sz.length : Int)).toNat = sz.length by omega, List.take_length] at hd
      exact hd
end QB

namespace QB
open PySem
/-! ### == of plain data, by = -/
mutual
def clean (b : Bool) : D → Bool
  | .non => true
  | .bl _ => b
  | .int _ => !b
  | .str s => PyData.strOk s
  | .tup xs => cleanL b xs
  | .lst xs => cleanL b xs
  | .slst _ => false
  | .ins _ _ _ => false
  | .dct _ _ => false
def cleanL (b : Bool) : List D → Bool
  | [] => true
  | d :: ds => clean b d && cleanL b ds
end
mutual
def depD : D → Nat
  | .tup xs => depL xs + 1
  | .lst xs => depL xs + 1
  | _ => 0
def depL : List D → Nat
  | [] => 0
  | d :: ds => max (depD d) (depL ds)
end
mutual
theorem clean_py {b : Bool} : ∀ d : D, clean b d = true → ∃ p, toPy d = some p ∧ p.canLay0 = true ∧ p.depth = depD d
  | .non, _ => ⟨_, rfl, rfl, rfl⟩
  | .bl _, _ => ⟨_, rfl, rfl, rfl⟩
  | .int _, _ => ⟨_, rfl, rfl, rfl⟩
  | .str s, h => ⟨_, rfl, by simp only [clean] at h; simp only [PyData.canLay0, h], rfl⟩
  | .tup xs, h => by
    simp only [clean] at h
    obtain ⟨ps, h1, h2, h3⟩ := clean_pyL xs h
    exact ⟨.tuple ps, by simp only [toPy, h1, Option.map_some], by simp only [PyData.canLay0, h2], by simp only [PyData.depth, depD, h3]⟩
  | .lst xs, h => by
    simp only [clean] at h
    obtain ⟨ps, h1, h2, h3⟩ := clean_pyL xs h
    exact ⟨.list ps, by simp only [toPy, h1, Option.map_some], by simp only [PyData.canLay0, h2], by simp only [PyData.depth, depD, h3]⟩
  | .slst _, h => by simp [clean] at h
  | .ins _ _ _, h => by simp [clean] at h
  | .dct _ _, h => by simp [clean] at h
theorem clean_pyL {b : Bool} : ∀ ds : List D, cleanL b ds = true → ∃ ps, toPyL ds = some ps ∧ PyData.canLayAll0 ps = true ∧ PyData.depthAll ps = depL ds
  | [], _ => ⟨[], rfl, rfl, rfl⟩
  | d :: ds, h => by
    simp only [cleanL, Bool.and_eq_true] at h
    obtain ⟨p, h1, h2, h3⟩ := clean_py d h.1
    obtain ⟨ps, g1, g2, g3⟩ := clean_pyL ds h.2
    exact ⟨p :: ps, by simp only [toPyL, h1, g1, Option.bind_some, Option.map_some], by simp only [PyData.canLayAll0, h2, g2, Bool.and_self], by simp only [PyData.depthAll, depL, h3, g3]⟩
end
mutual
theorem eqv_clean {b : Bool} : ∀ (d e : D) (p q : PyData), clean b d = true → clean b e = true → toPy d = some p → toPy e = some q → (PyData.eqv p q = true ↔ d = e)
  | .non, e, p, q, h, g, hp, hq => by
    cases e <;> simp only [clean, toPy, Option.some.injEq, Option.map_eq_some_iff, Bool.not_eq_true', Bool.false_eq_true, reduceCtorEq] at h g hp hq <;> first | (obtain ⟨_, _, rfl⟩ := hq; subst hp; simp [PyData.eqv]) | (subst hp hq; simp [PyData.eqv]) | (cases hq)
  | .bl x, e, p, q, h, g, hp, hq => by
    cases e <;> simp only [clean, toPy, Option.some.injEq, Option.map_eq_some_iff, Bool.not_eq_true', Bool.false_eq_true, reduceCtorEq] at h g hp hq <;> first | (exact absurd (h.symm.trans g) (by decide)) | (obtain ⟨_, _, rfl⟩ := hq; subst hp; simp [PyData.eqv]) | (subst hp hq; simp [PyData.eqv]) | (cases hq)
  | .int x, e, p, q, h, g, hp, hq => by
    cases e <;> simp only [clean, toPy, Option.some.injEq, Option.map_eq_some_iff, Bool.not_eq_true', Bool.false_eq_true, reduceCtorEq] at h g hp hq <;> first | (exact absurd (h.symm.trans g) (by decide)) | (obtain ⟨_, _, rfl⟩ := hq; subst hp; simp [PyData.eqv]) | (subst hp hq; simp [PyData.eqv]) | (cases hq)
  | .str x, e, p, q, h, g, hp, hq => by
    cases e <;> simp only [clean, toPy, Option.some.injEq, Option.map_eq_some_iff, Bool.not_eq_true', Bool.false_eq_true, reduceCtorEq] at h g hp hq <;> first | (obtain ⟨_, _, rfl⟩ := hq; subst hp; simp [PyData.eqv]) | (subst hp hq; simp [PyData.eqv]) | (cases hq)
  | .tup xs, e, p, q, h, g, hp, hq => by
    cases e <;> simp only [clean, toPy, Option.some.injEq, Option.map_eq_some_iff, Bool.not_eq_true', Bool.false_eq_true, reduceCtorEq] at h g hp hq <;> obtain ⟨ps, e1, rfl⟩ := hp
    case tup ys =>
      obtain ⟨qs, e2, rfl⟩ := hq
      simp only [PyData.eqv, D.tup.injEq]
      exact eqv_cleanL xs ys ps qs h g e1 e2
    all_goals first | (obtain ⟨_, _, rfl⟩ := hq; simp [PyData.eqv]) | (subst hq; simp [PyData.eqv])
  | .lst xs, e, p, q, h, g, hp, hq => by
    cases e <;> simp only [clean, toPy, Option.some.injEq, Option.map_eq_some_iff, Bool.not_eq_true', Bool.false_eq_true, reduceCtorEq] at h g hp hq <;> obtain ⟨ps, e1, rfl⟩ := hp
    case lst ys =>
      obtain ⟨qs, e2, rfl⟩ := hq
      simp only [PyData.eqv, D.lst.injEq]
      exact eqv_cleanL xs ys ps qs h g e1 e2
    all_goals first | (obtain ⟨_, _, rfl⟩ := hq; simp [PyData.eqv]) | (subst hq; simp [PyData.eqv])
  | .slst _, _, _, _, h, _, _, _ => by simp [clean] at h
  | .ins _ _ _, _, _, _, h, _, _, _ => by simp [clean] at h
  | .dct _ _, _, _, _, h, _, _, _ => by simp [clean] at h
theorem eqv_cleanL {b : Bool} : ∀ (ds es : List D) (ps qs : List PyData), cleanL b ds = true → cleanL b es = true → toPyL ds = some ps → toPyL es = some qs → (PyData.eqvAll ps qs = true ↔ ds = es)
  | [], [], ps, qs, _, _, hp, hq => by
    simp only [toPyL, Option.some.injEq] at hp hq
    subst hp hq
    simp [PyData.eqvAll]
  | [], e :: es, ps, qs, _, g, hp, hq => by
    simp only [toPyL, Option.some.injEq, Option.bind_eq_some_iff, Option.map_eq_some_iff] at hp hq
    obtain ⟨_, _, _, _, rfl⟩ := hq
    subst hp
    simp [PyData.eqvAll]
  | d :: ds, [], ps, qs, _, g, hp, hq => by
    simp only [toPyL, Option.some.injEq, Option.bind_eq_some_iff, Option.map_eq_some_iff] at hp hq
    obtain ⟨_, _, _, _, rfl⟩ := hp
    subst hq
    simp [PyData.eqvAll]
  | d :: ds, e :: es, ps, qs, h, g, hp, hq => by
    simp only [toPyL, Option.some.injEq, Option.bind_eq_some_iff, Option.map_eq_some_iff] at hp hq
    obtain ⟨p, e1, ps', e2, rfl⟩ := hp
    obtain ⟨q, e3, qs', e4, rfl⟩ := hq
    simp only [cleanL, Bool.and_eq_true] at h g
    simp only [PyData.eqvAll, Bool.and_eq_true, eqv_clean d e p q h.1 g.1 e1 e3, eqv_cleanL ds es ps' qs' h.2 g.2 e2 e4, List.cons.injEq]
end
theorem eqB_clean {b : Bool} {d e : D} (h : clean b d = true) (g : clean b e = true) (h1 : depD d ≤ 64) (g1 : depD e ≤ 64) : ∃ k, dEqB d e = .ok k ∧ (k = true ↔ d = e) := by
  obtain ⟨p, p1, p2, p3⟩ := clean_py d h
  obtain ⟨q, q1, q2, q3⟩ := clean_py e g
  have sp : SeqAt.shaped p = true := by unfold SeqAt.shaped; rw [p2, p3, decide_eq_true h1]; rfl
  have sq : SeqAt.shaped q = true := by unfold SeqAt.shaped; rw [q2, q3, decide_eq_true g1]; rfl
  have gen : ∃ k, (match toPy d, toPy e with
    | some p, some q => if SeqAt.shaped p = true ∧ SeqAt.shaped q = true then R.ok (PyData.eqv p q) else .bad
    | _, _ => .bad) = .ok k ∧ (k = true ↔ d = e) := by
    rw [p1, q1]
    simp only
    rw [if_pos ⟨sp, sq⟩]
    exact ⟨_, rfl, eqv_clean d e p q h g p1 q1⟩
  by_cases hf : (∃ x, flatD d = some x) ∧ ∃ y, flatD e = some y
  · obtain ⟨⟨x, hx⟩, y, hy⟩ := hf
    have hs : L2.scal x y = true ∧ (x = y ↔ d = e) := by
      cases d <;> simp only [flatD, Option.some.injEq, reduceCtorEq] at hx <;> cases e <;> simp only [flatD, Option.some.injEq, reduceCtorEq] at hy <;> subst hx hy <;> simp only [clean, Bool.not_eq_true'] at h g <;> first | (exact absurd (h.symm.trans g) (by decide)) | (refine ⟨rfl, ?_⟩; simp)
    unfold dEqB
    rw [hx, hy]
    simp only
    rw [if_pos hs.1]
    refine ⟨_, rfl, ?_⟩
    rw [decide_eq_true_iff]
    exact hs.2
  · have e1 : dEqB d e = (match toPy d, toPy e with
    | some p, some q => if SeqAt.shaped p = true ∧ SeqAt.shaped q = true then R.ok (PyData.eqv p q) else .bad
    | _, _ => .bad) := by
      unfold dEqB
      cases hx : flatD d with
      | none => rfl
      | some x =>
        cases hy : flatD e with
        | none => rfl
        | some y => exact absurd ⟨⟨x, hx⟩, y, hy⟩ hf
    rw [e1]
    exact gen
theorem eq_t {b : Bool} {d : D} (h : clean b d = true) (h1 : depD d ≤ 64) : dEq d d = .ok (.bl true) := by
  obtain ⟨k, e1, e2⟩ := eqB_clean h h h1 h1
  unfold dEq
  rw [e1, e2.mpr rfl]
  rfl
theorem eq_f {b : Bool} {d e : D} (h : clean b d = true) (g : clean b e = true) (h1 : depD d ≤ 64) (g1 : depD e ≤ 64) (n : d ≠ e) : dEq d e = .ok (.bl false) := by
  obtain ⟨k, e1, e2⟩ := eqB_clean h g h1 g1
  unfold dEq
  rw [e1, Bool.eq_false_iff.mpr fun z => n (e2.mp z)]
  rfl
theorem ne_f {b : Bool} {d : D} (h : clean b d = true) (h1 : depD d ≤ 64) : dNe d d = .ok (.bl false) := by
  obtain ⟨k, e1, e2⟩ := eqB_clean h h h1 h1
  unfold dNe
  rw [e1, e2.mpr rfl]
  rfl
theorem ne_t {b : Bool} {d e : D} (h : clean b d = true) (g : clean b e = true) (h1 : depD d ≤ 64) (g1 : depD e ≤ 64) (n : d ≠ e) : dNe d e = .ok (.bl true) := by
  obtain ⟨k, e1, e2⟩ := eqB_clean h g h1 g1
  unfold dNe
  rw [e1, Bool.eq_false_iff.mpr fun z => n (e2.mp z)]
  rfl
/-! texts -/
theorem eqB_s {a b : Str} : dEqB (.str a) (.str b) = .ok (decide (a = b)) := by
  have : decide (L2.V.str a = L2.V.str b) = decide (a = b) := by
    by_cases h : a = b
    · subst h; simp
    · rw [decide_eq_false h, decide_eq_false fun e => h (L2.V.str.inj e)]
  unfold dEqB
  simp only [flatD]
  rw [if_pos (show L2.scal (L2.V.str a) (L2.V.str b) = true from rfl), this]
theorem q_eq_s {a b : Str} : dEq (.str a) (.str b) = .ok (.bl (decide (a = b))) := by unfold dEq; rw [eqB_s]; rfl
theorem q_ne_s {a b : Str} : dNe (.str a) (.str b) = .ok (.bl (!decide (a = b))) := by unfold dNe; rw [eqB_s]; rfl
theorem q_ne_b {a b : Bool} : dNe (.bl a) (.bl b) = .ok (.bl (!decide (a = b))) := by cases a <;> cases b <;> rfl
theorem q_eq_b {a b : Bool} : dEq (.bl a) (.bl b) = .ok (.bl (decide (a = b))) := by cases a <;> cases b <;> rfl
theorem clean_strs {b : Bool} : ∀ {xs : List Str}, (∀ x ∈ xs, PyData.strOk x = true) → cleanL b (xs.map D.str) = true
  | [], _ => rfl
  | x :: xs, h => by
    simp only [List.map_cons, cleanL, clean, h x List.mem_cons_self, clean_strs fun y hy => h y (List.mem_cons_of_mem _ hy), Bool.and_self]
theorem dep_strs : ∀ {xs : List Str}, depL (xs.map D.str) = 0
  | [] => rfl
  | x :: xs => by
    simp only [List.map_cons, depL, depD, dep_strs, Nat.max_self]
theorem clean_ints : ∀ {xs : List Int}, cleanL false (xs.map D.int) = true
  | [] => rfl
  | x :: xs => by
    simp only [List.map_cons, cleanL, clean, Bool.not_false, clean_ints, Bool.and_self]
theorem dep_ints : ∀ {xs : List Int}, depL (xs.map D.int) = 0
  | [] => rfl
  | x :: xs => by
    simp only [List.map_cons, depL, depD, dep_ints, Nat.max_self]
end QB

namespace QB
open PySem
open Builtin.Int (intBits)
/-! ### more rows -/
def lstOfD : List D → R Cell
  | [d] => (match seqD d with
    | some xs => .ok (.l xs)
    | none => .bad)
  | _ => .bad
theorem q_lstof {ms : MA} {r : Sc} : mLstOf ms r = (ms r).bind lstOfD := by
  unfold mLstOf
  congr 1
theorem q_lstof_t {xs : List D} : lstOfD [.tup xs] = .ok (.l xs) := id rfl
theorem q_lstof_l {xs : List D} : lstOfD [.lst xs] = .ok (.l xs) := id rfl
theorem q_tupof_t {xs : List D} : dTupOf [.tup xs] = .ok (.tup xs) := id rfl
theorem q_tupof_l {xs : List D} : dTupOf [.lst xs] = .ok (.tup xs) := id rfl
theorem q_tupo {i : Nat} {r : Sc} : mTupO i r = (R.opt (ownAt i r)).bind fun xs => .ok (.tup xs) := by
  unfold mTupO ownL ownAt
  cases e : r[i]? with
  | none => rfl
  | some x =>
    cases x with
    | none => rfl
    | some y =>
      cases y with
      | val _ => rfl
      | own c => cases c <;> rfl
theorem q_lsto {i : Nat} {r : Sc} : mLstO i r = (R.opt (ownAt i r)).bind fun xs => .ok (.l xs) := by
  unfold mLstO ownL ownAt
  cases e : r[i]? with
  | none => rfl
  | some x =>
    cases x with
    | none => rfl
    | some y =>
      cases y with
      | val _ => rfl
      | own c => cases c <;> rfl
theorem q_int_b {b : Bool} : dInt [.bl b] = .ok (.int (if b then 1 else 0)) := id rfl
theorem q_ixsc {me : ME} {r : Sc} : mScal me r = (me r).bind fun d => match d with
  | .non => .ok .non
  | .bl b => .ok (.bl b)
  | .int i => .ok (.int i)
  | .str s => .ok (.str s)
  | _ => .bad := id rfl
/-- what int(b) picks of two -/
theorem pick2 {x y : D} {b : Bool} : (if (b = true) then (.int 1 : D) else .int 0) = (if b then .int 1 else .int 0) := rfl
/-! ### loops that may answer False -/
theorem for_all {i : Nat} {body : MS} (I : Nat → Sc → Prop) (c : Nat → Bool) {ds : List D} {r : Sc} (h0 : I 0 r) (st : ∀ (j : Nat) (d : D) (r : Sc), ds[j]? = some d → I j r → (c j = true → ∃ r2, body (r.set i (some (.val d))) = .nx r2 ∧ I (j + 1) r2) ∧ (c j = false → body (r.set i (some (.val d))) = .rt (.bl false))) :
    ((List.range ds.length).all c = true → ∃ r', loopL (bName i) body ds r = .nx r' ∧ I ds.length r') ∧ ((List.range ds.length).all c = false → loopL (bName i) body ds r = .rt (.bl false)) := by
  have key : ∀ (es : List D) (k : Nat) (r : Sc), I k r → (∀ (j : Nat) (d : D) (r : Sc), es[j]? = some d → I (k + j) r → (c (k + j) = true → ∃ r2, body (r.set i (some (.val d))) = .nx r2 ∧ I (k + j + 1) r2) ∧ (c (k + j) = false → body (r.set i (some (.val d))) = .rt (.bl false))) →
      ((List.range es.length).all (fun j => c (k + j)) = true → ∃ r', loopL (bName i) body es r = .nx r' ∧ I (k + es.length) r') ∧ ((List.range es.length).all (fun j => c (k + j)) = false → loopL (bName i) body es r = .rt (.bl false)) := by
    intro es
    induction es with
    | nil =>
      intro k r h _
      exact ⟨fun _ => ⟨r, rfl, h⟩, fun z => by simp at z⟩
    | cons d es ih =>
      intro k r h st
      obtain ⟨s1, s2⟩ := st 0 d r rfl h
      rw [List.length_cons, List.range_succ_eq_map, List.all_cons, List.all_map]
      have ec : ((fun j => c (k + j)) ∘ Nat.succ) = fun j => c (k + 1 + j) := by
        funext j
        show c (k + (j + 1)) = c (k + 1 + j)
        congr 1
        omega
      rw [ec]
      simp only [loopL, bName]
      cases e : c (k + 0) with
      | false =>
        refine ⟨fun z => by simp at z, fun _ => ?_⟩
        rw [s2 e]
      | true =>
        obtain ⟨r2, e2, h2⟩ := s1 e
        obtain ⟨i1, i2⟩ := ih (k + 1) r2 h2 (fun j d' r' hd hI => by
          have := st (j + 1) d' r' (by simpa using hd) (by rw [show k + (j + 1) = k + 1 + j by omega]; exact hI)
          rw [show k + (j + 1) = k + 1 + j by omega] at this
          exact this)
        rw [e2]
        simp only [Bool.true_and]
        refine ⟨fun z => ?_, i2⟩
        obtain ⟨r', g1, g2⟩ := i1 z
        exact ⟨r', g1, by rw [show k + (es.length + 1) = k + 1 + es.length by omega]; exact g2⟩
  have := key ds 0 r h0 (fun j d r hd h => by
    rw [Nat.zero_add] at h ⊢
    exact st j d r hd h)
  simpa only [Nat.zero_add] using this
theorem loop_cons {i : Nat} {body : MS} {d : D} {ds : List D} {r r2 : Sc} (h : body (r.set i (some (.val d))) = .nx r2) : loopL (bName i) body (d :: ds) r = loopL (bName i) body ds r2 := by
  simp only [loopL, bName, h]
theorem loop_nil {i : Nat} {body : MS} {r : Sc} : loopL (bName i) body [] r = .nx r := by simp only [loopL]
theorem range_map_zip {α β γ : Type} (a0 : α) (b0 : β) (g : α → β → γ) : ∀ (xs : List α) (ys : List β), xs.length = ys.length → (List.range xs.length).map (fun j => g (xs.getD j a0) (ys.getD j b0)) = List.zipWith g xs ys
  | [], [], _ => rfl
  | x :: xs, y :: ys, h => by
    rw [List.length_cons, List.range_succ_eq_map, List.map_cons, List.map_map, List.zipWith_cons_cons]
    have := range_map_zip a0 b0 g xs ys (by simpa using h)
    rw [← this]
    rfl
  | [], _ :: _, h => by simp at h
  | _ :: _, [], h => by simp at h
theorem range_all_zip {α β : Type} (a0 : α) (b0 : β) (g : α → β → Bool) (xs : List α) (ys : List β) (h : xs.length = ys.length) : (List.range xs.length).all (fun j => g (xs.getD j a0) (ys.getD j b0)) = (List.zipWith g xs ys).all id := by
  rw [← range_map_zip a0 b0 g xs ys h, List.all_map]
  rfl
theorem gets {xs : List Str} {j : Nat} (h : j < xs.length) : (xs.map D.str)[j]? = some (.str (xs.getD j Str.empty)) := by
  rw [List.getElem?_map, List.getElem?_eq_getElem h, List.getD_eq_getElem?_getD, List.getElem?_eq_getElem h]
  rfl
theorem blsD_map (bs : List Bool) : blsD (bs.map D.bl) = some bs := by
  induction bs with
  | nil => rfl
  | cons b bs ih => simp only [List.map_cons, blsD, ih, Option.map_some]
theorem q_all_l {bs : List Bool} : dAll [.lst (bs.map D.bl)] = .ok (.bl (bs.all id)) := by
  unfold dAll
  simp only [lstD, blsD_map]
theorem cut_map {α β : Type} (f : α → β) (xs : List α) (lo hi : Option Int) : cutD (xs.map f) lo hi = (cutD xs lo hi).map f := by
  unfold cutD
  rw [List.length_map, List.map_take, List.map_drop]
theorem cut_mem {α : Type} {xs : List α} {lo hi : Option Int} {x : α} (h : x ∈ cutD xs lo hi) : x ∈ xs := List.mem_of_mem_drop (List.mem_of_mem_take h)
theorem q_cut {me : ME} {lo hi : Option ME} {r : Sc} : mCut me lo hi r = (me r).bind fun d => (mPart lo r).bind fun l => (mPart hi r).bind fun h => dCut d l h := id rfl
theorem q_part0 {r : Sc} : mPart none r = .ok none := id rfl
def asIO : D → R (Option Int)
  | .int i => .ok (some i)
  | _ => .bad
theorem q_part1 {me : ME} {r : Sc} : mPart (some me) r = (me r).bind asIO := by
  unfold mPart
  simp only
  congr 1
theorem q_asio {i : Int} : asIO (.int i) = .ok (some i) := id rfl
theorem q_cut_t {xs : List D} {l h : Option Int} : dCut (.tup xs) l h = .ok (.tup (cutD xs l h)) := id rfl
theorem q_cut_l {xs : List D} {l h : Option Int} : dCut (.lst xs) l h = .ok (.lst (cutD xs l h)) := id rfl
theorem t_addt {xs ys : List D} (h : xs.length + ys.length ≤ 16777216) : dAdd (.tup xs) (.tup ys) = .ok (.tup (xs ++ ys)) := if_pos (Nat.le_trans h sizeLine_big)
end QB

namespace LK
open PySem PySem.Spec PyProof.Rows L2 QB
/-! ### the text -/
def topS (i : Nat) : Stmt := PySem.Challenge.pw_quietbroom_k18_successors.main.body.getD i (.Pass ⟨0, 0, 0, 0⟩)
abbrev s_targets : Stmt := topS 2
abbrev s_successors : Stmt := topS 3
abbrev s_runs_off : Stmt := topS 4
abbrev s_is_name : Stmt := topS 17
abbrev s_is_integer : Stmt := topS 20
abbrev s_counts_why : Stmt := topS 21
abbrev s_name_why : Stmt := topS 22
abbrev s_record_names_fit : Stmt := topS 23
abbrev s_fields_fit : Stmt := topS 24
abbrev s_shape_why : Stmt := topS 25
abbrev s_is_kind : Stmt := topS 26
abbrev s_kinds_why : Stmt := topS 27
abbrev s_static_why : Stmt := topS 28
abbrev s_entry_fits : Stmt := topS 29
abbrev s_function_why : Stmt := topS 30
abbrev s_form_of : Stmt := topS 31
abbrev s_field_names : Stmt := topS 32
abbrev s_integer_fits : Stmt := topS 33
abbrev s_name_fits : Stmt := topS 34
abbrev s_operand_fits : Stmt := topS 35
abbrev s_instruction_why : Stmt := topS 36
abbrev s_look_at_shapes : Stmt := topS 40
abbrev s_look_at_statics : Stmt := topS 41
abbrev s_look_at_functions : Stmt := topS 42
abbrev s_look_at_bodies : Stmt := topS 43
abbrev s_make_program : Stmt := topS 44
abbrev s_law_whole : Stmt := topS 46
abbrev s_law_cell : Stmt := topS 47
abbrev s_law_digits : Stmt := topS 48
abbrev s_law_ahead : Stmt := topS 49
abbrev s_law_small_shapes : Stmt := topS 50
abbrev s_law_any_deed : Stmt := topS 51
abbrev s_law_parts : Stmt := topS 52
abbrev s_law_unchanged : Stmt := topS 53
abbrev s_law_same_places : Stmt := topS 54
abbrev s_law_flow_body : Stmt := topS 55
abbrev s_law_flow_world : Stmt := topS 56
abbrev s_law : Stmt := topS 57
theorem sc_targets : FnScope ["function", "place", "instruction"] ["function", "place"] (defScope s_targets) := ⟨rfl, rfl, rfl, by decide +kernel, rfl, by decide +kernel, by decide +kernel⟩
theorem sc_successors : FnScope ["function", "place", "target"] ["function", "place"] (defScope s_successors) := ⟨rfl, rfl, rfl, by decide +kernel, rfl, by decide +kernel, by decide +kernel⟩
theorem sc_runs_off : FnScope ["function", "place"] ["function", "place"] (defScope s_runs_off) := ⟨rfl, rfl, rfl, by decide +kernel, rfl, by decide +kernel, by decide +kernel⟩
theorem sc_is_name : FnScope ["text", "char"] ["text"] (defScope s_is_name) := ⟨rfl, rfl, rfl, by decide +kernel, rfl, by decide +kernel, by decide +kernel⟩
theorem sc_is_integer : FnScope ["worth"] ["worth"] (defScope s_is_integer) := ⟨rfl, rfl, rfl, by decide +kernel, rfl, by decide +kernel, by decide +kernel⟩
theorem sc_counts_why : FnScope ["shapes", "statics", "functions"] ["shapes", "statics", "functions"] (defScope s_counts_why) := ⟨rfl, rfl, rfl, by decide +kernel, rfl, by decide +kernel, by decide +kernel⟩
theorem sc_name_why : FnScope ["rows", "number", "row"] ["rows", "number"] (defScope s_name_why) := ⟨rfl, rfl, rfl, by decide +kernel, rfl, by decide +kernel, by decide +kernel⟩
theorem sc_record_names_fit : FnScope ["names", "k"] ["names"] (defScope s_record_names_fit) := ⟨rfl, rfl, rfl, by decide +kernel, rfl, by decide +kernel, by decide +kernel⟩
theorem sc_fields_fit : FnScope ["form", "names"] ["form", "names"] (defScope s_fields_fit) := ⟨rfl, rfl, rfl, by decide +kernel, rfl, by decide +kernel, by decide +kernel⟩
theorem sc_shape_why : FnScope ["shapes", "number", "why", "form", "field"] ["shapes", "number"] (defScope s_shape_why) := ⟨rfl, rfl, rfl, by decide +kernel, rfl, by decide +kernel, by decide +kernel⟩
theorem sc_is_kind : FnScope ["shapes", "kind", "shape"] ["shapes", "kind"] (defScope s_is_kind) := ⟨rfl, rfl, rfl, by decide +kernel, rfl, by decide +kernel, by decide +kernel⟩
theorem sc_kinds_why : FnScope ["shapes", "number", "fields", "field"] ["shapes", "number"] (defScope s_kinds_why) := ⟨rfl, rfl, rfl, by decide +kernel, rfl, by decide +kernel, by decide +kernel⟩
theorem sc_static_why : FnScope ["shapes", "statics", "number", "why"] ["shapes", "statics", "number"] (defScope s_static_why) := ⟨rfl, rfl, rfl, by decide +kernel, rfl, by decide +kernel, by decide +kernel⟩
theorem sc_entry_fits : FnScope ["params", "result", "kind"] ["params", "result"] (defScope s_entry_fits) := ⟨rfl, rfl, rfl, by decide +kernel, rfl, by decide +kernel, by decide +kernel⟩
theorem sc_function_why : FnScope ["shapes", "functions", "number", "why", "params", "result", "slots", "kind"] ["shapes", "functions", "number"] (defScope s_function_why) := ⟨rfl, rfl, rfl, by decide +kernel, rfl, by decide +kernel, by decide +kernel⟩
theorem sc_form_of : FnScope ["shapes", "name", "shape"] ["shapes", "name"] (defScope s_form_of) := ⟨rfl, rfl, rfl, by decide +kernel, rfl, by decide +kernel, by decide +kernel⟩
theorem sc_field_names : FnScope ["shapes", "name", "shape", "field"] ["shapes", "name"] (defScope s_field_names) := ⟨rfl, rfl, rfl, by decide +kernel, rfl, by decide +kernel, by decide +kernel⟩
theorem sc_integer_fits : FnScope ["function", "sort", "operand"] ["function", "sort", "operand"] (defScope s_integer_fits) := ⟨rfl, rfl, rfl, by decide +kernel, rfl, by decide +kernel, by decide +kernel⟩
theorem sc_name_fits : FnScope ["parts", "sort", "operand", "before", "shapes", "statics", "functions", "static", "one", "form"] ["parts", "sort", "operand", "before"] (defScope s_name_fits) := ⟨rfl, rfl, rfl, by decide +kernel, rfl, by decide +kernel, by decide +kernel⟩
theorem sc_operand_fits : FnScope ["parts", "function", "sort", "operand", "before"] ["parts", "function", "sort", "operand", "before"] (defScope s_operand_fits) := ⟨rfl, rfl, rfl, by decide +kernel, rfl, by decide +kernel, by decide +kernel⟩
theorem sc_instruction_why : FnScope ["parts", "function", "instruction", "sorts", "k"] ["parts", "function", "instruction"] (defScope s_instruction_why) := ⟨rfl, rfl, rfl, by decide +kernel, rfl, by decide +kernel, by decide +kernel⟩
theorem sc_look_at_shapes : FnScope ["shapes", "number", "why"] ["shapes"] (defScope s_look_at_shapes) := ⟨rfl, rfl, rfl, by decide +kernel, rfl, by decide +kernel, by decide +kernel⟩
theorem sc_look_at_statics : FnScope ["shapes", "statics", "number", "why"] ["shapes", "statics"] (defScope s_look_at_statics) := ⟨rfl, rfl, rfl, by decide +kernel, rfl, by decide +kernel, by decide +kernel⟩
theorem sc_look_at_functions : FnScope ["shapes", "functions", "number", "why"] ["shapes", "functions"] (defScope s_look_at_functions) := ⟨rfl, rfl, rfl, by decide +kernel, rfl, by decide +kernel, by decide +kernel⟩
theorem sc_look_at_bodies : FnScope ["shapes", "statics", "functions", "number", "body", "place", "why"] ["shapes", "statics", "functions"] (defScope s_look_at_bodies) := ⟨rfl, rfl, rfl, by decide +kernel, rfl, by decide +kernel, by decide +kernel⟩
theorem sc_make_program : FnScope ["shapes", "statics", "functions", "why", "made", "name", "params", "result", "slots", "body", "form", "fields"] ["shapes", "statics", "functions"] (defScope s_make_program) := ⟨rfl, rfl, rfl, by decide +kernel, rfl, by decide +kernel, by decide +kernel⟩
theorem sc_law_whole : FnScope ["_law_value"] ["_law_value"] (defScope s_law_whole) := ⟨rfl, rfl, rfl, by decide +kernel, rfl, by decide +kernel, by decide +kernel⟩
theorem sc_law_cell : FnScope ["_law_script", "_law_k", "_law_seed", "_law_cell_here"] ["_law_script", "_law_k"] (defScope s_law_cell) := ⟨rfl, rfl, rfl, by decide +kernel, rfl, by decide +kernel, by decide +kernel⟩
theorem sc_law_digits : FnScope ["_law_cell_here", "_law_sizes", "_law_row", "_law_rest", "_law_size", "_law_seed", "_law_k", "_law_twice"] ["_law_cell_here", "_law_sizes"] (defScope s_law_digits) := ⟨rfl, rfl, rfl, by decide +kernel, rfl, by decide +kernel, by decide +kernel⟩
theorem sc_law_ahead : FnScope ["_law_body", "_law_place", "_law_word"] ["_law_body", "_law_place"] (defScope s_law_ahead) := ⟨rfl, rfl, rfl, by decide +kernel, rfl, by decide +kernel, by decide +kernel⟩
theorem sc_law_small_shapes : FnScope ["_law_row", "_law_menu", "_law_names", "_law_k", "_law_kinds"] ["_law_row"] (defScope s_law_small_shapes) := ⟨rfl, rfl, rfl, by decide +kernel, rfl, by decide +kernel, by decide +kernel⟩
theorem sc_law_any_deed : FnScope ["_law_world", "_law_function", "_law_row", "_law_words", "_law_word", "_law_form", "_law_found", "_law_shape"] ["_law_world", "_law_function", "_law_row"] (defScope s_law_any_deed) := ⟨rfl, rfl, rfl, by decide +kernel, rfl, by decide +kernel, by decide +kernel⟩
theorem sc_law_parts : FnScope ["_law_world", "_law_form", "_law_shapes", "_law_field", "_law_shape", "_law_functions", "_law_deed", "_law_one", "_law_pair"] ["_law_world", "_law_form"] (defScope s_law_parts) := ⟨rfl, rfl, rfl, by decide +kernel, rfl, by decide +kernel, by decide +kernel⟩
theorem sc_law_unchanged : FnScope ["_law_data", "_law_world"] ["_law_data", "_law_world"] (defScope s_law_unchanged) := ⟨rfl, rfl, rfl, by decide +kernel, rfl, by decide +kernel, by decide +kernel⟩
theorem sc_law_same_places : FnScope ["_law_told", "_law_due", "_law_k"] ["_law_told", "_law_due"] (defScope s_law_same_places) := ⟨rfl, rfl, rfl, by decide +kernel, rfl, by decide +kernel, by decide +kernel⟩
theorem sc_law_flow_body : FnScope ["_law_script", "_law_at", "_law_world", "_law_function", "_law_many", "_law_rows", "_law_c", "_law_digits_here", "_law_k", "_law_body", "_law_place", "_law_row", "_law_menu"] ["_law_script", "_law_at", "_law_world", "_law_function", "_law_many"] (defScope s_law_flow_body) := ⟨rfl, rfl, rfl, by decide +kernel, rfl, by decide +kernel, by decide +kernel⟩
theorem sc_law_flow_world : FnScope ["_law_script", "_law_at", "_law_sizes", "_law_shapes", "_law_heads", "_law_world", "_law_head", "_law_functions", "_law_f", "_law_blank"] ["_law_script", "_law_at", "_law_sizes"] (defScope s_law_flow_world) := ⟨rfl, rfl, rfl, by decide +kernel, rfl, by decide +kernel, by decide +kernel⟩
theorem sc_law : FnScope ["_law_script", "_law_row", "_law_sizes", "_law_worlds", "_law_at", "_law_parts_here", "_law_world", "_law_programs", "_law_part", "_law_turn", "_law_f", "_law_k", "_law_place", "_law_w", "_law_ahead_here", "_law_function", "_law_told", "_law_spot"] ["_law_script"] (defScope s_law) := ⟨rfl, rfl, rfl, by decide +kernel, rfl, by decide +kernel, by decide +kernel⟩
def clsS_BadProgram : Stmt := match topS 7 with | .ClassDef _ _ _ body _ _ _ _ _ _ _ => body.getD 0 (.Pass ⟨0, 0, 0, 0⟩) | s => s
theorem sc_x_BadProgram : FnScope ["self", "part", "number", "place", "why"] ["self", "part", "number", "place", "why"] (defScope clsS_BadProgram) := ⟨rfl, rfl, rfl, by decide +kernel, rfl, by decide +kernel, by decide +kernel⟩
def clsS_Function_0 : Stmt := match topS 38 with | .ClassDef _ _ _ body _ _ _ _ _ _ _ => body.getD 0 (.Pass ⟨0, 0, 0, 0⟩) | s => s
theorem sc_Function___init__ : FnScope ["self", "name", "params", "result", "slots", "body", "instruction"] ["self", "name", "params", "result", "slots", "body"] (defScope clsS_Function_0) := ⟨rfl, rfl, rfl, by decide +kernel, rfl, by decide +kernel, by decide +kernel⟩
def clsS_Program_0 : Stmt := match topS 39 with | .ClassDef _ _ _ body _ _ _ _ _ _ _ => body.getD 0 (.Pass ⟨0, 0, 0, 0⟩) | s => s
theorem sc_Program___init__ : FnScope ["self", "shapes", "statics", "functions", "static"] ["self", "shapes", "statics", "functions"] (defScope clsS_Program_0) := ⟨rfl, rfl, rfl, by decide +kernel, rfl, by decide +kernel, by decide +kernel⟩
def clsS_Shape_0 : Stmt := match topS 18 with | .ClassDef _ _ _ body _ _ _ _ _ _ _ => body.getD 0 (.Pass ⟨0, 0, 0, 0⟩) | s => s
theorem sc_Shape___init__ : FnScope ["self", "name", "form", "fields", "field"] ["self", "name", "form", "fields"] (defScope clsS_Shape_0) := ⟨rfl, rfl, rfl, by decide +kernel, rfl, by decide +kernel, by decide +kernel⟩
def clsS_Program_1 : Stmt := match topS 39 with | .ClassDef _ _ _ body _ _ _ _ _ _ _ => body.getD 1 (.Pass ⟨0, 0, 0, 0⟩) | s => s
theorem sc_Program_data : FnScope ["self", "shapes", "shape", "functions", "one"] ["self"] (defScope clsS_Program_1) := ⟨rfl, rfl, rfl, by decide +kernel, rfl, by decide +kernel, by decide +kernel⟩
def tab_OPERANDS : List (Str × List D) := [(("num" : Str), ([.str "number"] : List D)), (("add" : Str), ([] : List D)), (("sub" : Str), ([] : List D)), (("mul" : Str), ([] : List D)), (("div" : Str), ([] : List D)), (("mod" : Str), ([] : List D)), (("less" : Str), ([] : List D)), (("same" : Str), ([] : List D)), (("flip" : Str), ([] : List D)), (("drop" : Str), ([] : List D)), (("copy" : Str), ([] : List D)), (("swap" : Str), ([] : List D)), (("load" : Str), ([.str "slot"] : List D)), (("store" : Str), ([.str "slot"] : List D)), (("fetch" : Str), ([.str "static"] : List D)), (("keep" : Str), ([.str "static"] : List D)), (("jump" : Str), ([.str "place"] : List D)), (("when" : Str), ([.str "place"] : List D)), (("call" : Str), ([.str "function"] : List D)), (("back" : Str), ([] : List D)), (("halt" : Str), ([] : List D)), (("tell" : Str), ([] : List D)), (("nil" : Str), ([.str "shape"] : List D)), (("empty" : Str), ([.str "shape"] : List D)), (("twin" : Str), ([.str "shape"] : List D)), (("make" : Str), ([.str "record"] : List D)), (("get" : Str), ([.str "record", .str "field"] : List D)), (("put" : Str), ([.str "record", .str "field"] : List D)), (("array" : Str), ([.str "array"] : List D)), (("at" : Str), ([.str "array"] : List D)), (("set" : Str), ([.str "array"] : List D)), (("length" : Str), ([.str "array"] : List D)), (("weaken" : Str), ([.str "weak"] : List D)), (("peek" : Str), ([.str "weak"] : List D)), (("pair" : Str), ([.str "pair"] : List D)), (("key" : Str), ([.str "pair"] : List D)), (("value" : Str), ([.str "pair"] : List D)), (("watch" : Str), ([.str "shape"] : List D)), (("parted" : Str), ([.str "shape"] : List D)), (("settle" : Str), ([] : List D))]
/-! ### the mirrors -/
def b_law_digits_1 : MS := (mSeq (mApp 2 (mBin dMod (mCallB dInt (mCons (mVar 3) mNil)) (mVar 4))) (mSet 3 (mBin dDiv (mCallB dInt (mCons (mVar 3) mNil)) (mVar 4))))
def b_law_digits_2 : MS := (mSeq (mSet 5 (mBin dMod (mCallB dInt (mCons (mBin dAdd (mBin dAdd (mBin dMul (mVar 5) (mC (.int 48271))) (mBin dMul (mC (.int 974711)) (mVar 6))) (mC (.int 12345))) mNil)) (mC (.int 2147483647)))) (mSeq (mSet 7 (mBin dMod (mCallB dInt (mCons (mBin dMul (mVar 5) (mBin dAdd (mBin dDiv (mVar 5) (mC (.int 65537))) (mC (.int 3)))) mNil)) (mC (.int 2147483629)))) (mApp 2 (mBin dMod (mBin dDiv (mVar 7) (mC (.int 19))) (mBin dIx (mVar 1) (mVar 6))))))
def m_law_digits : List D → R D := mDef 8 (mSeq (mSetO 2 (mLst mNil)) (mSeq (mSet 3 (mCallB dInt (mCons (mVar 0) mNil))) (mSeq (mIf (mTB (mBin dGe (mVar 3) (mBin dPow (mC (.int 10)) (mC (.int 18))))) (mSeq (mSet 3 (mBin dSub (mVar 3) (mBin dPow (mC (.int 10)) (mC (.int 18))))) (mSeq (mFor (mItems (mVar 1)) (bName 4) b_law_digits_1) (mRet (mVarW 2)))) mNx) (mSeq (mSet 5 (mBin dMod (mCallB dInt (mCons (mVar 3) mNil)) (mC (.int 2147483629)))) (mSeq (mFor (mRg (mCons (mCallB dLen (mCons (mVar 1) mNil)) mNil)) (bName 6) b_law_digits_2) (mRet (mVarW 2)))))))
def b_law_cell_1 : MS := (mSet 2 (mBin dMod (mCallB dInt (mCons (mBin dAdd (mBin dMul (mVar 2) (mC (.int 31))) (mBin dMod (mCallB dInt (mCons (mVar 3) mNil)) (mC (.int 1000003)))) mNil)) (mC (.int 1000003))))
def m_law_cell : List D → R D := mDef 4 (mSeq (mIf (mTB (mBin dLt (mVar 1) (mCallB dLen (mCons (mVar 0) mNil)))) (mRet (mBin dIx (mVar 0) (mVar 1))) mNx) (mSeq (mSet 2 (mC (.int 17))) (mSeq (mFor (mItems (mVar 0)) (bName 3) b_law_cell_1) (mRet (mBin dMod (mCallB dInt (mCons (mBin dMul (mBin dMul (mBin dAdd (mVar 2) (mC (.int 7))) (mBin dAdd (mVar 1) (mC (.int 3)))) (mC (.int 69621))) mNil)) (mC (.int 2147483647)))))))
def e_law_small_shapes_1 : ME := (mBin dIx (mVar 1) (mBin dMod (mCallB dInt (mCons (mBin dAdd (mBin dIx (mVar 0) (mC (.int 0))) (mBin dMul (mC (.int 3)) (mVar 3))) mNil)) (mC (.int 13))))
def m_law_small_shapes : List D → R D := mDef 5 (mSeq (mSet 1 (mCellE (mLst (mCons (mC (.str "any")) (mCons (mC (.str "b")) (mCons (mC (.str "node")) (mCons (mC (.str "num1")) (mCons (mC (.str "mixed0")) (mCons (mC (.str "w")) (mCons (mC (.str "unset9")) (mCons (mC (.str "z")) (mCons (mC (.str "end")) (mCons (mC (.str "kind")) (mCons (mC (.str "i")) (mCons (mC (.str "walk")) (mCons (mC (.str "q7")) mNil)))))))))))))))) (mSeq (mSetO 2 (mLC [3] (mRg (mCons (mC (.int 8)) mNil)) (bName 3) mYes e_law_small_shapes_1)) (mSeq (mFrz 2 (mSet 4 (mBin dAdd (mCellE (mLst (mCons (mC (.str "num")) mNil))) (mVar 2)))) (mRet (mCellE (mLst (mCons (mTup (mCons (mBin dIx (mVar 2) (mC (.int 0))) (mCons (mC (.str "record")) (mCons (mTup (mCons (mTup (mCons (mC (.str "v")) (mCons (mC (.str "num")) mNil))) (mCons (mTup (mCons (mC (.str "n")) (mCons (mBin dIx (mVar 2) (mC (.int 0))) mNil))) (mCons (mTup (mCons (mC (.str "o")) (mCons (mBin dIx (mVar 4) (mBin dIx (mVar 0) (mC (.int 1)))) mNil))) mNil)))) mNil)))) (mCons (mTup (mCons (mBin dIx (mVar 2) (mC (.int 1))) (mCons (mC (.str "array")) (mCons (mTup (mCons (mTup (mCons (mC (.str "item")) (mCons (mBin dIx (mVar 4) (mBin dIx (mVar 0) (mC (.int 2)))) mNil))) mNil)) mNil)))) (mCons (mTup (mCons (mBin dIx (mVar 2) (mC (.int 2))) (mCons (mC (.str "weak")) (mCons (mTup (mCons (mTup (mCons (mC (.str "target")) (mCons (mBin dIx (mVar 2) (mBin dIx (mVar 0) (mC (.int 3)))) mNil))) mNil)) mNil)))) (mCons (mTup (mCons (mBin dIx (mVar 2) (mC (.int 3))) (mCons (mC (.str "pair")) (mCons (mTup (mCons (mTup (mCons (mC (.str "key")) (mCons (mBin dIx (mVar 2) (mBin dIx (mVar 0) (mC (.int 4)))) mNil))) (mCons (mTup (mCons (mC (.str "value")) (mCons (mBin dIx (mVar 4) (mBin dIx (mVar 0) (mC (.int 5)))) mNil))) mNil))) mNil)))) (mCons (mTup (mCons (mBin dIx (mVar 2) (mC (.int 4))) (mCons (mC (.str "record")) (mCons (mTup (mCons (mTup (mCons (mC (.str "o")) (mCons (mBin dIx (mVar 2) (mBin dIx (mVar 0) (mC (.int 3)))) mNil))) (mCons (mTup (mCons (mC (.str "key")) (mCons (mC (.str "num")) mNil))) (mCons (mTup (mCons (mC (.str "x")) (mCons (mBin dIx (mVar 4) (mBin dIx (mVar 0) (mC (.int 2)))) mNil))) (mCons (mTup (mCons (mC (.str "v")) (mCons (mBin dIx (mVar 4) (mBin dAdd (mC (.int 1)) (mBin dIx (mVar 0) (mC (.int 5))))) mNil))) (mCons (mTup (mCons (mC (.str "n")) (mCons (mC (.str "num")) mNil))) mNil)))))) mNil)))) (mCons (mTup (mCons (mBin dIx (mVar 2) (mC (.int 5))) (mCons (mC (.str "array")) (mCons (mTup (mCons (mTup (mCons (mC (.str "item")) (mCons (mBin dIx (mVar 4) (mBin dAdd (mBin dMod (mCallB dInt (mCons (mBin dAdd (mBin dIx (mVar 0) (mC (.int 2))) (mBin dIx (mVar 0) (mC (.int 5)))) mNil)) (mC (.int 8))) (mC (.int 1)))) mNil))) mNil)) mNil)))) (mCons (mTup (mCons (mBin dIx (mVar 2) (mC (.int 6))) (mCons (mC (.str "weak")) (mCons (mTup (mCons (mTup (mCons (mC (.str "target")) (mCons (mBin dIx (mVar 2) (mBin dAdd (mC (.int 4)) (mBin dIx (mVar 0) (mC (.int 4))))) mNil))) mNil)) mNil)))) (mCons (mTup (mCons (mBin dIx (mVar 2) (mC (.int 7))) (mCons (mC (.str "pair")) (mCons (mTup (mCons (mTup (mCons (mC (.str "key")) (mCons (mBin dIx (mVar 2) (mBin dSub (mC (.int 7)) (mBin dIx (mVar 0) (mC (.int 3))))) mNil))) (mCons (mTup (mCons (mC (.str "value")) (mCons (mBin dIx (mVar 4) (mBin dAdd (mBin dMod (mCallB dInt (mCons (mBin dAdd (mBin dIx (mVar 0) (mC (.int 5))) (mBin dIx (mVar 0) (mC (.int 1)))) mNil)) (mC (.int 8))) (mC (.int 1)))) mNil))) mNil))) mNil)))) mNil))))))))))))))
def e_law_any_deed_1 : ME := (mVar 7)
def m_law_any_deed : List D → R D := mDef 8 (mSeq (mSet 3 (mCellE (mLst (mCons (mC (.str "num")) (mCons (mC (.str "add")) (mCons (mC (.str "sub")) (mCons (mC (.str "mul")) (mCons (mC (.str "div")) (mCons (mC (.str "mod")) (mCons (mC (.str "less")) (mCons (mC (.str "same")) (mCons (mC (.str "flip")) (mCons (mC (.str "drop")) (mCons (mC (.str "copy")) (mCons (mC (.str "swap")) (mCons (mC (.str "load")) (mCons (mC (.str "store")) (mCons (mC (.str "fetch")) (mCons (mC (.str "keep")) (mCons (mC (.str "jump")) (mCons (mC (.str "when")) (mCons (mC (.str "call")) (mCons (mC (.str "back")) (mCons (mC (.str "halt")) (mCons (mC (.str "tell")) (mCons (mC (.str "nil")) (mCons (mC (.str "empty")) (mCons (mC (.str "twin")) (mCons (mC (.str "make")) (mCons (mC (.str "get")) (mCons (mC (.str "put")) (mCons (mC (.str "array")) (mCons (mC (.str "at")) (mCons (mC (.str "set")) (mCons (mC (.str "length")) (mCons (mC (.str "weaken")) (mCons (mC (.str "peek")) (mCons (mC (.str "pair")) (mCons (mC (.str "key")) (mCons (mC (.str "value")) (mCons (mC (.str "watch")) (mCons (mC (.str "parted")) (mCons (mC (.str "settle")) mNil))))))))))))))))))))))))))))))))))))))))))) (mSeq (mSet 4 (mBin dIx (mVar 3) (mBin dIx (mVar 2) (mC (.int 0))))) (mSeq (mSet 5 (mCellE (mDisp [(.inr "make"), (.inr "get"), (.inr "put"), (.inr "array"), (.inr "at"), (.inr "set"), (.inr "length"), (.inr "weaken"), (.inr "peek"), (.inr "pair"), (.inr "key"), (.inr "value")] (mCons (mC (.str "record")) (mCons (mC (.str "record")) (mCons (mC (.str "record")) (mCons (mC (.str "array")) (mCons (mC (.str "array")) (mCons (mC (.str "array")) (mCons (mC (.str "array")) (mCons (mC (.str "weak")) (mCons (mC (.str "weak")) (mCons (mC (.str "pair")) (mCons (mC (.str "pair")) (mCons (mC (.str "pair")) mNil))))))))))))))) (mSeq (mIf (mTB (mBin dEq (mVar 4) (mC (.str "num")))) (mRet (mTup (mCons (mC (.str "num")) (mCons (mBin dIx (mCellE (mLst (mCons (mC (.int 0)) (mCons (mC (.int 1)) (mCons (mNeg (mC (.int 1))) (mCons (mC (.int 2147483647)) (mCons (mNeg (mC (.int 2147483648))) (mCons (mC (.int 7)) mNil)))))))) (mBin dMod (mCallB dInt (mCons (mBin dIx (mVar 2) (mC (.int 1))) mNil)) (mC (.int 6)))) mNil)))) mNx) (mSeq (mIf (mTB (mBin dIn (mVar 4) (mCellE (mLst (mCons (mC (.str "load")) (mCons (mC (.str "store")) mNil)))))) (mRet (mBin dIx (mCellE (mLst (mCons (mTup (mCons (mC (.str "settle")) mNil)) (mCons (mTup (mCons (mVar 4) (mCons (mBin dMod (mCallB dInt (mCons (mBin dIx (mVar 2) (mC (.int 1))) mNil)) (mCallB dMax (mCons (mC (.int 1)) (mCons (mBin dIx (mVar 1) (mC (.int 3))) mNil)))) mNil))) mNil)))) (mCallB dInt (mCons (mBin dGt (mBin dIx (mVar 1) (mC (.int 3))) (mC (.int 0))) mNil)))) mNx) (mSeq (mIf (mTB (mBin dIn (mVar 4) (mCellE (mLst (mCons (mC (.str "fetch")) (mCons (mC (.str "keep")) mNil)))))) (mRet (mTup (mCons (mVar 4) (mCons (mBin dIx (mBin dIx (mBin dIx (mVar 0) (mC (.int 1))) (mBin dMod (mCallB dInt (mCons (mBin dIx (mVar 2) (mC (.int 1))) mNil)) (mCallB dLen (mCons (mBin dIx (mVar 0) (mC (.int 1))) mNil)))) (mC (.int 0))) mNil)))) mNx) (mSeq (mIf (mTB (mBin dIn (mVar 4) (mCellE (mLst (mCons (mC (.str "jump")) (mCons (mC (.str "when")) mNil)))))) (mRet (mTup (mCons (mVar 4) (mCons (mBin dMod (mCallB dInt (mCons (mBin dAdd (mBin dMul (mBin dIx (mVar 2) (mC (.int 1))) (mC (.int 60))) (mBin dIx (mVar 2) (mC (.int 2)))) mNil)) (mCallB dMax (mCons (mC (.int 1)) (mCons (mCallB dLen (mCons (mBin dIx (mVar 1) (mC (.int 4))) mNil)) mNil)))) mNil)))) mNx) (mSeq (mIf (mTB (mBin dEq (mVar 4) (mC (.str "call")))) (mRet (mTup (mCons (mC (.str "call")) (mCons (mBin dIx (mBin dIx (mBin dIx (mVar 0) (mC (.int 2))) (mBin dMod (mCallB dInt (mCons (mBin dIx (mVar 2) (mC (.int 1))) mNil)) (mCallB dLen (mCons (mBin dIx (mVar 0) (mC (.int 2))) mNil)))) (mC (.int 0))) mNil)))) mNx) (mSeq (mIf (mTB (mBin dIn (mVar 4) (mCellE (mLst (mCons (mC (.str "nil")) (mCons (mC (.str "empty")) (mCons (mC (.str "twin")) (mCons (mC (.str "watch")) (mCons (mC (.str "parted")) mNil))))))))) (mRet (mTup (mCons (mVar 4) (mCons (mBin dIx (mBin dIx (mBin dIx (mVar 0) (mC (.int 0))) (mBin dMod (mCallB dInt (mCons (mBin dIx (mVar 2) (mC (.int 1))) mNil)) (mCallB dLen (mCons (mBin dIx (mVar 0) (mC (.int 0))) mNil)))) (mC (.int 0))) mNil)))) mNx) (mSeq (mIf (mTB (mBin (dDin true) (mVar 4) (mVar 5))) (mRet (mTup (mCons (mVar 4) mNil))) mNx) (mSeq (mSetO 6 (mLC [7] (mItems (mBin dIx (mVar 0) (mC (.int 0)))) (bName 7) (mTAnd (mTB (mBin dEq (mBin dIx (mVar 7) (mC (.int 1))) (mBin dDget (mVar 5) (mVar 4)))) (mTB (mBin dGt (mCallB dLen (mCons (mBin dIx (mVar 7) (mC (.int 2))) mNil)) (mC (.int 0))))) e_law_any_deed_1)) (mSeq (mSet 7 (mIxO 6 (mBin dMod (mCallB dInt (mCons (mBin dIx (mVar 2) (mC (.int 1))) mNil)) (mCallB dLen (mCons (mVarW 6) mNil))))) (mSeq (mIf (mTB (mBin dIn (mVar 4) (mCellE (mLst (mCons (mC (.str "get")) (mCons (mC (.str "put")) mNil)))))) (mRet (mTup (mCons (mVar 4) (mCons (mBin dIx (mVar 7) (mC (.int 0))) (mCons (mBin dIx (mBin dIx (mBin dIx (mVar 7) (mC (.int 2))) (mBin dMod (mCallB dInt (mCons (mBin dIx (mVar 2) (mC (.int 2))) mNil)) (mCallB dLen (mCons (mBin dIx (mVar 7) (mC (.int 2))) mNil)))) (mC (.int 0))) mNil))))) mNx) (mRet (mTup (mCons (mVar 4) (mCons (mBin dIx (mVar 7) (mC (.int 0))) mNil)))))))))))))))))
def b_law_flow_body_1 : MS := (mApp 5 (mCut (mVar 7) (some (mBin dMul (mC (.int 4)) (mVar 8))) (some (mBin dAdd (mBin dMul (mC (.int 4)) (mVar 8)) (mC (.int 4))))))
def b_law_flow_body_2 : MS := (mSeq (mSet 7 (mCallB m_law_digits (mCons (mCallB m_law_cell (mCons (mVar 0) (mCons (mBin dAdd (mVar 1) (mVar 6)) mNil))) (mCons (mBin dMul (mCellE (mLst (mCons (mC (.int 24)) (mCons (mC (.int 40)) (mCons (mC (.int 60)) (mCons (mC (.int 60)) mNil)))))) (mC (.int 15))) mNil)))) (mFor (mRg (mCons (mC (.int 15)) mNil)) (bName 8) b_law_flow_body_1))
def b_law_flow_body_3 : MS := (mSeq (mSet 11 (mIxO 5 (mVar 10))) (mSeq (mSet 12 (mCellE (mLst (mCons (mCallB dMin (mCons (mBin dAdd (mVar 10) (mC (.int 1))) (mCons (mBin dSub (mVar 4) (mC (.int 1))) mNil))) (mCons (mVar 10) (mCons (mC (.int 0)) (mCons (mBin dSub (mVar 4) (mC (.int 1))) (mCons (mBin dMod (mCallB dInt (mCons (mBin dAdd (mBin dMul (mBin dIx (mVar 11) (mC (.int 2))) (mC (.int 60))) (mBin dIx (mVar 11) (mC (.int 3)))) mNil)) (mVar 4)) (mCons (mBin dMod (mCallB dInt (mCons (mBin dIx (mVar 11) (mC (.int 3))) mNil)) (mVar 4)) mNil))))))))) (mIf (mTB (mBin dLt (mBin dIx (mVar 11) (mC (.int 0))) (mC (.int 10)))) (mApp 9 (mTup (mCons (mBin dIx (mCellE (mLst (mCons (mC (.str "when")) (mCons (mC (.str "when")) (mCons (mC (.str "jump")) mNil))))) (mBin dMod (mCallB dInt (mCons (mBin dIx (mVar 11) (mC (.int 0))) mNil)) (mC (.int 3)))) (mCons (mBin dIx (mVar 12) (mBin dMod (mCallB dInt (mCons (mBin dIx (mVar 11) (mC (.int 1))) mNil)) (mC (.int 6)))) mNil)))) (mIf (mTB (mBin dLt (mBin dIx (mVar 11) (mC (.int 0))) (mC (.int 12)))) (mApp 9 (mTup (mCons (mBin dIx (mCellE (mLst (mCons (mC (.str "back")) (mCons (mC (.str "halt")) mNil)))) (mBin dMod (mCallB dInt (mCons (mBin dIx (mVar 11) (mC (.int 0))) mNil)) (mC (.int 2)))) mNil))) (mApp 9 (mCallB m_law_any_deed (mCons (mVar 2) (mCons (mVar 3) (mCons (mCut (mVar 11) (some (mC (.int 1))) none) mNil)))))))))
def m_law_flow_body : List D → R D := mDef 13 (mSeq (mSetO 5 (mLst mNil)) (mSeq (mFor (mRg (mCons (mBin dAdd (mC (.int 1)) (mBin dDiv (mVar 4) (mC (.int 15)))) mNil)) (bName 6) b_law_flow_body_2) (mSeq (mSetO 9 (mLst mNil)) (mSeq (mFor (mRg (mCons (mVar 4) mNil)) (bName 10) b_law_flow_body_3) (mRet (mTupO 9))))))
def e_law_flow_world_1 : ME := (mBin dAdd (mVar 6) (mTup (mCons (mTup mNil) mNil)))
def b_law_flow_world_2 : MS := (mSeq (mSet 9 (mBin dAdd (mBin dIx (mVar 4) (mVar 8)) (mTup (mCons (mBin dMul (mCellE (mLst (mCons (mC (.int 0)) mNil))) (mBin dIx (mVar 2) (mVar 8))) mNil)))) (mApp 7 (mBin dAdd (mBin dIx (mVar 4) (mVar 8)) (mTup (mCons (mCallB m_law_flow_body (mCons (mVar 0) (mCons (mBin dAdd (mVar 1) (mBin dIx (mCellE (mLst (mCons (mC (.int 1)) (mCons (mC (.int 16)) (mCons (mC (.int 22)) mNil))))) (mVar 8))) (mCons (mVar 5) (mCons (mVar 9) (mCons (mBin dIx (mVar 2) (mVar 8)) mNil)))))) mNil)))))
def m_law_flow_world : List D → R D := mDef 10 (mSeq (mSet 3 (mCallB m_law_small_shapes (mCons (mCallB m_law_digits (mCons (mCallB m_law_cell (mCons (mVar 0) (mCons (mVar 1) mNil))) (mCons (mCellE (mLst (mCons (mC (.int 8)) (mCons (mC (.int 5)) (mCons (mC (.int 5)) (mCons (mC (.int 4)) (mCons (mC (.int 4)) (mCons (mC (.int 5)) mNil)))))))) mNil))) mNil))) (mSeq (mSet 4 (mCut (mCellE (mLst (mCons (mTup (mCons (mC (.str "main")) (mCons (mTup (mCons (mC (.str "num")) mNil)) (mCons (mC .non) (mCons (mC (.int 2)) mNil))))) (mCons (mTup (mCons (mC (.str "f")) (mCons (mTup mNil) (mCons (mC (.str "num")) (mCons (mC (.int 3)) mNil))))) (mCons (mTup (mCons (mC (.str "g")) (mCons (mTup mNil) (mCons (mC .non) (mCons (mC (.int 0)) mNil))))) mNil))))) none (some (mCallB dLen (mCons (mVar 2) mNil))))) (mSeq (mSet 5 (mCellE (mLst (mCons (mVar 3) (mCons (mCellE (mLst (mCons (mTup (mCons (mC (.str "s")) (mCons (mC (.str "num")) mNil))) mNil))) (mCons (mCellE (mLC [6] (mItems (mVar 4)) (bName 6) mYes e_law_flow_world_1)) mNil)))))) (mSeq (mSetO 7 (mLst mNil)) (mSeq (mFor (mRg (mCons (mCallB dLen (mCons (mVar 4) mNil)) mNil)) (bName 8) b_law_flow_world_2) (mFrz 7 (mRet (mCellE (mLst (mCons (mVar 3) (mCons (mCellE (mLst (mCons (mTup (mCons (mC (.str "s")) (mCons (mC (.str "num")) mNil))) mNil))) (mCons (mVar 7) mNil))))))))))))
def e_law_parts_1 : ME := (mCellE (mLstOf (mCons (mVar 3) mNil)))
def e_law_parts_2 : ME := (mCellE (mLst (mCons (mBin dIx (mVar 4) (mC (.int 0))) (mCons (mBin dIx (mVar 4) (mC (.int 1))) (mCons (mCellE (mLC [3] (mItems (mBin dIx (mVar 4) (mC (.int 2)))) (bName 3) mYes e_law_parts_1)) mNil)))))
def e_law_parts_3 : ME := (mCellE (mLstOf (mCons (mVar 6) mNil)))
def e_law_parts_4 : ME := (mCellE (mLst (mCons (mBin dIx (mVar 7) (mC (.int 0))) (mCons (mCellE (mLstOf (mCons (mBin dIx (mVar 7) (mC (.int 1))) mNil))) (mCons (mBin dIx (mVar 7) (mC (.int 2))) (mCons (mBin dIx (mVar 7) (mC (.int 3))) (mCons (mCellE (mLC [6] (mItems (mBin dIx (mVar 7) (mC (.int 4)))) (bName 6) mYes e_law_parts_3)) mNil)))))))
def e_law_parts_5 : ME := (mCellE (mLstOf (mCons (mVar 8) mNil)))
def m_law_parts : List D → R D := mDef 9 (mSeq (mIf (mTB (mBin dEq (mVar 1) (mC (.int 0)))) (mRet (mTup (mCons (mCallB dTupOf (mCons (mBin dIx (mVar 0) (mC (.int 0))) mNil)) (mCons (mCallB dTupOf (mCons (mBin dIx (mVar 0) (mC (.int 1))) mNil)) (mCons (mCallB dTupOf (mCons (mBin dIx (mVar 0) (mC (.int 2))) mNil)) mNil))))) mNx) (mSeq (mSetO 2 (mLC [4] (mItems (mBin dIx (mVar 0) (mC (.int 0)))) (bName 4) mYes e_law_parts_2)) (mSeq (mSetO 5 (mLC [7] (mItems (mBin dIx (mVar 0) (mC (.int 2)))) (bName 7) mYes e_law_parts_4)) (mFrz 5 (mFrz 2 (mRet (mCellE (mLst (mCons (mVar 2) (mCons (mCellE (mLC [8] (mItems (mBin dIx (mVar 0) (mC (.int 1)))) (bName 8) mYes e_law_parts_5)) (mCons (mVar 5) mNil)))))))))))
def m_counts_why : List D → R D := mDef 3 (mSeq (mIf (mTOr (mTB (mBin dGt (mCallB dLen (mCons (mVar 0) mNil)) (mC (.int 40)))) (mTOr (mTB (mBin dGt (mCallB dLen (mCons (mVar 1) mNil)) (mC (.int 20)))) (mTB (mBin dGt (mCallB dLen (mCons (mVar 2) mNil)) (mC (.int 20)))))) (mRet (mC (.str "many"))) mNx) (mSeq (mIf (mTB (mBin dEq (mCallB dLen (mCons (mVar 2) mNil)) (mC (.int 0)))) (mRet (mC (.str "empty"))) mNx) (mRet (mC .non))))
def b_is_name_1 : MS := (mIf (mTAnd (mTB (mBin dNotIn (mVar 1) (mC (.str "abcdefghijklmnopqrstuvwxyz")))) (mTB (mBin dNotIn (mVar 1) (mC (.str "0123456789"))))) (mRet (mC (.bl false))) mNx)
def m_is_name : List D → R D := mDef 2 (mSeq (mIf (mTOr (mTB (mBin dLt (mCallB dLen (mCons (mVar 0) mNil)) (mC (.int 1)))) (mTOr (mTB (mBin dGt (mCallB dLen (mCons (mVar 0) mNil)) (mC (.int 16)))) (mTB (mBin dIn (mVar 0) (mC (.tup [.str "num", .str "mixed", .str "unset"])))))) (mRet (mC (.bl false))) mNx) (mSeq (mFor (mItems (mVar 0)) (bName 1) b_is_name_1) (mRet (mBin dIn (mBin dIx (mVar 0) (mC (.int 0))) (mC (.str "abcdefghijklmnopqrstuvwxyz"))))))
def b_name_why_1 : MS := (mIf (mTB (mBin dEq (mBin dIx (mVar 2) (mC (.int 0))) (mBin dIx (mBin dIx (mVar 0) (mVar 1)) (mC (.int 0))))) (mRet (mC (.str "twice"))) mNx)
def m_name_why : List D → R D := mDef 3 (mSeq (mIf (mTNot (mTB (mCallB m_is_name (mCons (mBin dIx (mBin dIx (mVar 0) (mVar 1)) (mC (.int 0))) mNil)))) (mRet (mC (.str "name"))) mNx) (mSeq (mFor (mItems (mCut (mVar 0) none (some (mVar 1)))) (bName 2) b_name_why_1) (mRet (mC .non))))
def b_record_names_fit_1 : MS := (mIf (mTOr (mTNot (mTB (mCallB m_is_name (mCons (mBin dIx (mVar 0) (mVar 1)) mNil)))) (mTB (mBin dIn (mBin dIx (mVar 0) (mVar 1)) (mCut (mVar 0) none (some (mVar 1)))))) (mRet (mC (.bl false))) mNx)
def m_record_names_fit : List D → R D := mDef 2 (mSeq (mIf (mTB (mBin dGt (mCallB dLen (mCons (mVar 0) mNil)) (mC (.int 8)))) (mRet (mC (.bl false))) mNx) (mSeq (mFor (mRg (mCons (mCallB dLen (mCons (mVar 0) mNil)) mNil)) (bName 1) b_record_names_fit_1) (mRet (mC (.bl true)))))
def m_fields_fit : List D → R D := mDef 2 (mSeq (mIf (mTB (mBin dEq (mVar 0) (mC (.str "array")))) (mRet (mBin dEq (mVar 1) (mCellE (mLst (mCons (mC (.str "item")) mNil))))) mNx) (mSeq (mIf (mTB (mBin dEq (mVar 0) (mC (.str "weak")))) (mRet (mBin dEq (mVar 1) (mCellE (mLst (mCons (mC (.str "target")) mNil))))) mNx) (mSeq (mIf (mTB (mBin dEq (mVar 0) (mC (.str "pair")))) (mRet (mBin dEq (mVar 1) (mCellE (mLst (mCons (mC (.str "key")) (mCons (mC (.str "value")) mNil)))))) mNx) (mRet (mCallB m_record_names_fit (mCons (mVar 1) mNil))))))
def e_shape_why_1 : ME := (mBin dIx (mVar 4) (mC (.int 0)))
def m_shape_why : List D → R D := mDef 5 (mSeq (mSet 2 (mCallB m_name_why (mCons (mVar 0) (mCons (mVar 1) mNil)))) (mSeq (mIf (mTB (mBin dIsNot (mVar 2) (mC .non))) (mRet (mVar 2)) mNx) (mSeq (mSet 3 (mBin dIx (mBin dIx (mVar 0) (mVar 1)) (mC (.int 1)))) (mSeq (mIf (mTB (mBin dNotIn (mVar 3) (mC (.tup [.str "record", .str "array", .str "weak", .str "pair"])))) (mRet (mC (.str "form"))) mNx) (mSeq (mIf (mTNot (mTB (mCallB m_fields_fit (mCons (mVar 3) (mCons (mCellE (mLC [4] (mItems (mBin dIx (mBin dIx (mVar 0) (mVar 1)) (mC (.int 2)))) (bName 4) mYes e_shape_why_1)) mNil))))) (mRet (mC (.str "fields"))) mNx) (mRet (mC .non)))))))
def e_is_kind_1 : ME := (mBin dIx (mVar 2) (mC (.int 0)))
def m_is_kind : List D → R D := mDef 3 (mRet (mOr (mBin dEq (mVar 1) (mC (.str "num"))) (mBin dIn (mVar 1) (mCellE (mLC [2] (mItems (mVar 0)) (bName 2) mYes e_is_kind_1)))))
def b_kinds_why_1 : MS := (mIf (mTNot (mTB (mCallB m_is_kind (mCons (mVar 0) (mCons (mBin dIx (mVar 3) (mC (.int 1))) mNil))))) (mRet (mC (.str "kind"))) mNx)
def m_kinds_why : List D → R D := mDef 4 (mSeq (mSet 2 (mBin dIx (mBin dIx (mVar 0) (mVar 1)) (mC (.int 2)))) (mSeq (mFor (mItems (mVar 2)) (bName 3) b_kinds_why_1) (mSeq (mIf (mTAnd (mTB (mBin dIn (mBin dIx (mBin dIx (mVar 0) (mVar 1)) (mC (.int 1))) (mTup (mCons (mC (.str "weak")) (mCons (mC (.str "pair")) mNil))))) (mTB (mBin dEq (mBin dIx (mBin dIx (mVar 2) (mC (.int 0))) (mC (.int 1))) (mC (.str "num"))))) (mRet (mC (.str "kind"))) mNx) (mRet (mC .non)))))
def b_look_at_shapes_1 : MS := (mSeq (mSet 2 (mCallB m_shape_why (mCons (mVar 0) (mCons (mVar 1) mNil)))) (mIf (mTB (mBin dIsNot (mVar 2) (mC .non))) (mRaise "BadProgram" ["part", "number", "place", "why"] (mCons (mC (.str "shape")) (mCons (mVar 1) (mCons (mNeg (mC (.int 1))) (mCons (mVar 2) mNil))))) mNx))
def b_look_at_shapes_2 : MS := (mSeq (mSet 2 (mCallB m_kinds_why (mCons (mVar 0) (mCons (mVar 1) mNil)))) (mIf (mTB (mBin dIsNot (mVar 2) (mC .non))) (mRaise "BadProgram" ["part", "number", "place", "why"] (mCons (mC (.str "shape")) (mCons (mVar 1) (mCons (mNeg (mC (.int 1))) (mCons (mVar 2) mNil))))) mNx))
def m_look_at_shapes : List D → R D := mDef 3 (mSeq (mFor (mRg (mCons (mCallB dLen (mCons (mVar 0) mNil)) mNil)) (bName 1) b_look_at_shapes_1) (mFor (mRg (mCons (mCallB dLen (mCons (mVar 0) mNil)) mNil)) (bName 1) b_look_at_shapes_2))
def m_static_why : List D → R D := mDef 4 (mSeq (mSet 3 (mCallB m_name_why (mCons (mVar 1) (mCons (mVar 2) mNil)))) (mSeq (mIf (mTB (mBin dIsNot (mVar 3) (mC .non))) (mRet (mVar 3)) mNx) (mSeq (mIf (mTNot (mTB (mCallB m_is_kind (mCons (mVar 0) (mCons (mBin dIx (mBin dIx (mVar 1) (mVar 2)) (mC (.int 1))) mNil))))) (mRet (mC (.str "kind"))) mNx) (mRet (mC .non)))))
def b_look_at_statics_1 : MS := (mSeq (mSet 3 (mCallB m_static_why (mCons (mVar 0) (mCons (mVar 1) (mCons (mVar 2) mNil))))) (mIf (mTB (mBin dIsNot (mVar 3) (mC .non))) (mRaise "BadProgram" ["part", "number", "place", "why"] (mCons (mC (.str "static")) (mCons (mVar 2) (mCons (mNeg (mC (.int 1))) (mCons (mVar 3) mNil))))) mNx))
def m_look_at_statics : List D → R D := mDef 4 (mFor (mRg (mCons (mCallB dLen (mCons (mVar 1) mNil)) mNil)) (bName 2) b_look_at_statics_1)
def b_entry_fits_1 : MS := (mIf (mTB (mBin dNe (mVar 2) (mC (.str "num")))) (mRet (mC (.bl false))) mNx)
def m_entry_fits : List D → R D := mDef 3 (mSeq (mFor (mItems (mVar 0)) (bName 2) b_entry_fits_1) (mRet (mBin dIs (mVar 1) (mC .non))))
def b_function_why_1 : MS := (mIf (mTNot (mTB (mCallB m_is_kind (mCons (mVar 0) (mCons (mVar 7) mNil))))) (mRet (mC (.str "kind"))) mNx)
def m_function_why : List D → R D := mDef 8 (mSeq (mSet 3 (mCallB m_name_why (mCons (mVar 1) (mCons (mVar 2) mNil)))) (mSeq (mIf (mTB (mBin dIsNot (mVar 3) (mC .non))) (mRet (mVar 3)) mNx) (mSeq (mSet 4 (mBin dIx (mBin dIx (mVar 1) (mVar 2)) (mC (.int 1)))) (mSeq (mSet 5 (mBin dIx (mBin dIx (mVar 1) (mVar 2)) (mC (.int 2)))) (mSeq (mSet 6 (mBin dIx (mBin dIx (mVar 1) (mVar 2)) (mC (.int 3)))) (mSeq (mFor (mItems (mVar 4)) (bName 7) b_function_why_1) (mSeq (mIf (mTAnd (mTB (mBin dIsNot (mVar 5) (mC .non))) (mTNot (mTB (mCallB m_is_kind (mCons (mVar 0) (mCons (mVar 5) mNil)))))) (mRet (mC (.str "kind"))) mNx) (mSeq (mIf (mTOr (mTB (mBin dGt (mCallB dLen (mCons (mVar 4) mNil)) (mC (.int 6)))) (mTOr (mTB (mBin dLt (mVar 6) (mCallB dLen (mCons (mVar 4) mNil)))) (mTB (mBin dGt (mVar 6) (mC (.int 16)))))) (mRet (mC (.str "slots"))) mNx) (mSeq (mIf (mTAnd (mTB (mBin dEq (mVar 2) (mC (.int 0)))) (mTNot (mTB (mCallB m_entry_fits (mCons (mVar 4) (mCons (mVar 5) mNil)))))) (mRet (mC (.str "entry"))) mNx) (mSeq (mIf (mTOr (mTB (mBin dLt (mCallB dLen (mCons (mBin dIx (mBin dIx (mVar 1) (mVar 2)) (mC (.int 4))) mNil)) (mC (.int 1)))) (mTB (mBin dGt (mCallB dLen (mCons (mBin dIx (mBin dIx (mVar 1) (mVar 2)) (mC (.int 4))) mNil)) (mC (.int 200))))) (mRet (mC (.str "body"))) mNx) (mRet (mC .non))))))))))))
def b_look_at_functions_1 : MS := (mSeq (mSet 3 (mCallB m_function_why (mCons (mVar 0) (mCons (mVar 1) (mCons (mVar 2) mNil))))) (mIf (mTB (mBin dIsNot (mVar 3) (mC .non))) (mRaise "BadProgram" ["part", "number", "place", "why"] (mCons (mC (.str "function")) (mCons (mVar 2) (mCons (mNeg (mC (.int 1))) (mCons (mVar 3) mNil))))) mNx))
def m_look_at_functions : List D → R D := mDef 4 (mFor (mRg (mCons (mCallB dLen (mCons (mVar 1) mNil)) mNil)) (bName 2) b_look_at_functions_1)
def m_integer_fits : List D → R D := mDef 3 (mSeq (mIf (mTB (mBin dEq (mVar 1) (mC (.str "number")))) (mRet (mChain dLe dLe (mC (.int (-2147483648))) (mVar 2) (mC (.int 2147483647)))) mNx) (mSeq (mIf (mTB (mBin dEq (mVar 1) (mC (.str "slot")))) (mRet (mChain dLe dLt (mC (.int 0)) (mVar 2) (mBin dIx (mVar 0) (mC (.int 3))))) mNx) (mRet (mChain dLe dLt (mC (.int 0)) (mVar 2) (mCallB dLen (mCons (mBin dIx (mVar 0) (mC (.int 4))) mNil))))))
def m_is_integer : List D → R D := mDef 1 (mRet (mAnd (mIsi "int" (mVar 0)) (mNot (mIsi "bool" (mVar 0)))))
def e_field_names_1 : ME := (mBin dIx (mVar 3) (mC (.int 0)))
def b_field_names_2 : MS := (mIf (mTB (mBin dEq (mBin dIx (mVar 2) (mC (.int 0))) (mVar 1))) (mRet (mCellE (mLC [3] (mItems (mBin dIx (mVar 2) (mC (.int 2)))) (bName 3) mYes e_field_names_1))) mNx)
def m_field_names : List D → R D := mDef 4 (mSeq (mFor (mItems (mVar 0)) (bName 2) b_field_names_2) (mRet (mCellE (mLst mNil))))
def b_form_of_1 : MS := (mIf (mTB (mBin dEq (mBin dIx (mVar 2) (mC (.int 0))) (mVar 1))) (mRet (mBin dIx (mVar 2) (mC (.int 1)))) mNx)
def m_form_of : List D → R D := mDef 3 (mSeq (mFor (mItems (mVar 0)) (bName 2) b_form_of_1) (mRet (mC .non)))
def e_name_fits_1 : ME := (mBin dIx (mVar 7) (mC (.int 0)))
def e_name_fits_2 : ME := (mBin dIx (mVar 8) (mC (.int 0)))
def m_name_fits : List D → R D := mDef 10 (mSeq (mAsg (bTup 3 (bsCons (bName 4) (bsCons (bName 5) (bsCons (bName 6) bsNil)))) (mVar 0)) (mSeq (mIf (mTB (mBin dEq (mVar 1) (mC (.str "static")))) (mRet (mBin dIn (mVar 2) (mCellE (mLC [7] (mItems (mVar 5)) (bName 7) mYes e_name_fits_1)))) mNx) (mSeq (mIf (mTB (mBin dEq (mVar 1) (mC (.str "function")))) (mRet (mBin dIn (mVar 2) (mCellE (mLC [8] (mItems (mVar 6)) (bName 8) mYes e_name_fits_2)))) mNx) (mSeq (mIf (mTB (mBin dEq (mVar 1) (mC (.str "field")))) (mRet (mBin dIn (mVar 2) (mCallB m_field_names (mCons (mVar 4) (mCons (mVar 3) mNil))))) mNx) (mSeq (mSet 9 (mCallB m_form_of (mCons (mVar 4) (mCons (mVar 2) mNil)))) (mRet (mAnd (mBin dIsNot (mVar 9) (mC .non)) (mBin dIn (mVar 1) (mTup (mCons (mC (.str "shape")) (mCons (mVar 9) mNil)))))))))))
def m_operand_fits : List D → R D := mDef 5 (mSeq (mIf (mTB (mBin dIn (mVar 2) (mTup (mCons (mC (.str "number")) (mCons (mC (.str "slot")) (mCons (mC (.str "place")) mNil)))))) (mRet (mAnd (mCallB m_is_integer (mCons (mVar 3) mNil)) (mCallB m_integer_fits (mCons (mVar 1) (mCons (mVar 2) (mCons (mVar 3) mNil)))))) mNx) (mRet (mAnd (mIsi "str" (mVar 3)) (mCallB m_name_fits (mCons (mVar 0) (mCons (mVar 2) (mCons (mVar 3) (mCons (mVar 4) mNil))))))))
def b_instruction_why_1 : MS := (mIf (mTNot (mTB (mCallB m_operand_fits (mCons (mVar 0) (mCons (mVar 1) (mCons (mBin dIx (mVar 3) (mVar 4)) (mCons (mBin dIx (mVar 2) (mBin dAdd (mVar 4) (mC (.int 1)))) (mCons (mBin dIx (mVar 2) (mVar 4)) mNil)))))))) (mRet (mC (.str "operand"))) mNx)
def m_instruction_why : List D → R D := mDef 5 (mSeq (mIf (mTOr (mTB (mBin dEq (mCallB dLen (mCons (mVar 2) mNil)) (mC (.int 0)))) (mTB (mBin dNotIn (mBin dIx (mVar 2) (mC (.int 0))) (mC (.tup [.str "num", .str "add", .str "sub", .str "mul", .str "div", .str "mod", .str "less", .str "same", .str "flip", .str "drop", .str "copy", .str "swap", .str "load", .str "store", .str "fetch", .str "keep", .str "jump", .str "when", .str "call", .str "back", .str "halt", .str "tell", .str "nil", .str "empty", .str "twin", .str "make", .str "get", .str "put", .str "array", .str "at", .str "set", .str "length", .str "weaken", .str "peek", .str "pair", .str "key", .str "value", .str "watch", .str "parted", .str "settle"]))))) (mRet (mC (.str "operation"))) mNx) (mSeq (mSet 3 (mKd tab_OPERANDS (mBin dIx (mVar 2) (mC (.int 0))))) (mSeq (mIf (mTB (mBin dNe (mCallB dLen (mCons (mVar 2) mNil)) (mBin dAdd (mCallB dLen (mCons (mVar 3) mNil)) (mC (.int 1))))) (mRet (mC (.str "operation"))) mNx) (mSeq (mFor (mRg (mCons (mCallB dLen (mCons (mVar 3) mNil)) mNil)) (bName 4) b_instruction_why_1) (mRet (mC .non))))))
def b_look_at_bodies_1 : MS := (mSeq (mSet 6 (mCallB m_instruction_why (mCons (mTup (mCons (mVar 0) (mCons (mVar 1) (mCons (mVar 2) mNil)))) (mCons (mBin dIx (mVar 2) (mVar 3)) (mCons (mBin dIx (mVar 4) (mVar 5)) mNil))))) (mIf (mTB (mBin dIsNot (mVar 6) (mC .non))) (mRaise "BadProgram" ["part", "number", "place", "why"] (mCons (mC (.str "body")) (mCons (mVar 3) (mCons (mVar 5) (mCons (mVar 6) mNil))))) mNx))
def b_look_at_bodies_2 : MS := (mSeq (mSet 4 (mBin dIx (mBin dIx (mVar 2) (mVar 3)) (mC (.int 4)))) (mFor (mRg (mCons (mCallB dLen (mCons (mVar 4) mNil)) mNil)) (bName 5) b_look_at_bodies_1))
def m_look_at_bodies : List D → R D := mDef 7 (mFor (mRg (mCons (mCallB dLen (mCons (mVar 2) mNil)) mNil)) (bName 3) b_look_at_bodies_2)
def e_Function___init___1 : ME := (mCallB dTupOf (mCons (mVar 6) mNil))
def mi_Function : List D → R (List D) := mInit 6 (mCons (mVar 1) (mCons (mCallB dTupOf (mCons (mVar 2) mNil)) (mCons (mVar 3) (mCons (mVar 4) (mCons (mCallB dTupOf (mCons (mCellE (mLC [6] (mItems (mVar 5)) (bName 6) mYes e_Function___init___1)) mNil)) mNil)))))
def e_Program___init___1 : ME := (mTup (mCons (mBin dIx (mVar 4) (mC (.int 0))) (mCons (mBin dIx (mVar 4) (mC (.int 1))) mNil)))
def mi_Program : List D → R (List D) := mInit 4 (mCons (mCallB dTupOf (mCons (mVar 1) mNil)) (mCons (mCallB dTupOf (mCons (mCellE (mLC [4] (mItems (mVar 2)) (bName 4) mYes e_Program___init___1)) mNil)) (mCons (mCallB dTupOf (mCons (mVar 3) mNil)) mNil)))
def e_Shape___init___1 : ME := (mTup (mCons (mBin dIx (mVar 4) (mC (.int 0))) (mCons (mBin dIx (mVar 4) (mC (.int 1))) mNil)))
def mi_Shape : List D → R (List D) := mInit 4 (mCons (mVar 1) (mCons (mVar 2) (mCons (mCallB dTupOf (mCons (mCellE (mLC [4] (mItems (mVar 3)) (bName 4) mYes e_Shape___init___1)) mNil)) mNil)))
def e_make_program_1 : ME := (mMake "Function" ["name", "params", "result", "slots", "body"] mi_Function (mCons (mVar 5) (mCons (mVar 6) (mCons (mVar 7) (mCons (mVar 8) (mCons (mVar 9) mNil))))))
def e_make_program_2 : ME := (mMake "Shape" ["name", "form", "fields"] mi_Shape (mCons (mVar 5) (mCons (mVar 10) (mCons (mVar 11) mNil))))
def m_make_program : List D → R D := mDef 12 (mSeq (mSet 3 (mCallB m_counts_why (mCons (mVar 0) (mCons (mVar 1) (mCons (mVar 2) mNil))))) (mSeq (mIf (mTB (mBin dIsNot (mVar 3) (mC .non))) (mRaise "BadProgram" ["part", "number", "place", "why"] (mCons (mC (.str "program")) (mCons (mC (.int 0)) (mCons (mNeg (mC (.int 1))) (mCons (mVar 3) mNil))))) mNx) (mSeq (mDrop (mCallB m_look_at_shapes (mCons (mVar 0) mNil))) (mSeq (mDrop (mCallB m_look_at_statics (mCons (mVar 0) (mCons (mVar 1) mNil)))) (mSeq (mDrop (mCallB m_look_at_functions (mCons (mVar 0) (mCons (mVar 2) mNil)))) (mSeq (mDrop (mCallB m_look_at_bodies (mCons (mVar 0) (mCons (mVar 1) (mCons (mVar 2) mNil))))) (mSeq (mSetO 4 (mLC [5, 6, 7, 8, 9] (mItems (mVar 2)) (bTup 5 (bsCons (bName 5) (bsCons (bName 6) (bsCons (bName 7) (bsCons (bName 8) (bsCons (bName 9) bsNil)))))) mYes e_make_program_1)) (mFrz 4 (mRet (mMake "Program" ["shapes", "statics", "functions"] mi_Program (mCons (mCellE (mLC [5, 10, 11] (mItems (mVar 0)) (bTup 3 (bsCons (bName 5) (bsCons (bName 10) (bsCons (bName 11) bsNil)))) mYes e_make_program_2)) (mCons (mVar 1) (mCons (mVar 4) mNil)))))))))))))
def m_law_ahead : List D → R D := mDef 3 (mSeq (mSet 2 (mBin dIx (mBin dIx (mVar 0) (mVar 1)) (mC (.int 0)))) (mSeq (mIf (mTB (mBin dIn (mVar 2) (mCellE (mLst (mCons (mC (.str "back")) (mCons (mC (.str "halt")) mNil)))))) (mRet (mCellE (mLst mNil))) mNx) (mSeq (mIf (mTB (mBin dEq (mVar 2) (mC (.str "jump")))) (mRet (mCellE (mLst (mCons (mBin dIx (mBin dIx (mVar 0) (mVar 1)) (mC (.int 1))) mNil)))) mNx) (mSeq (mIf (mTAnd (mTB (mBin dEq (mVar 2) (mC (.str "when")))) (mTB (mBin dNe (mBin dIx (mBin dIx (mVar 0) (mVar 1)) (mC (.int 1))) (mBin dAdd (mVar 1) (mC (.int 1)))))) (mRet (mCellE (mLst (mCons (mBin dAdd (mVar 1) (mC (.int 1))) (mCons (mBin dIx (mBin dIx (mVar 0) (mVar 1)) (mC (.int 1))) mNil))))) mNx) (mRet (mCellE (mLst (mCons (mBin dAdd (mVar 1) (mC (.int 1))) mNil))))))))
def m_targets : List D → R D := mDef 3 (mSeq (mSet 2 (mBin dIx (mFld ["Function"] "body" (mVar 0)) (mVar 1))) (mSeq (mIf (mTB (mBin dIn (mBin dIx (mVar 2) (mC (.int 0))) (mTup (mCons (mC (.str "back")) (mCons (mC (.str "halt")) mNil))))) (mRet (mTup mNil)) mNx) (mSeq (mIf (mTB (mBin dEq (mBin dIx (mVar 2) (mC (.int 0))) (mC (.str "jump")))) (mRet (mTup (mCons (mBin dIx (mVar 2) (mC (.int 1))) mNil))) mNx) (mSeq (mIf (mTAnd (mTB (mBin dEq (mBin dIx (mVar 2) (mC (.int 0))) (mC (.str "when")))) (mTB (mBin dNe (mBin dIx (mVar 2) (mC (.int 1))) (mBin dAdd (mVar 1) (mC (.int 1)))))) (mRet (mTup (mCons (mBin dAdd (mVar 1) (mC (.int 1))) (mCons (mBin dIx (mVar 2) (mC (.int 1))) mNil)))) mNx) (mRet (mTup (mCons (mBin dAdd (mVar 1) (mC (.int 1))) mNil)))))))
def e_successors_1 : ME := (mVar 2)
def m_successors : List D → R D := mDef 3 (mRet (mCallB dTupOf (mCons (mCellE (mLC [2] (mItems (mCallB m_targets (mCons (mVar 0) (mCons (mVar 1) mNil)))) (bName 2) (mTB (mBin dLt (mVar 2) (mCallB dLen (mCons (mFld ["Function"] "body" (mVar 0)) mNil)))) e_successors_1)) mNil)))
def m_runs_off : List D → R D := mDef 2 (mRet (mBin dIn (mCallB dLen (mCons (mFld ["Function"] "body" (mVar 0)) mNil)) (mCallB m_targets (mCons (mVar 0) (mCons (mVar 1) mNil)))))
def m_law_whole : List D → R D := mDef 1 (mRet (mAnd (mIsi "int" (mVar 0)) (mNot (mIsi "bool" (mVar 0)))))
def b_law_same_places_1 : MS := (mIf (mTOr (mTNot (mTB (mCallB m_law_whole (mCons (mBin dIx (mVar 0) (mVar 2)) mNil)))) (mTB (mBin dNe (mBin dIx (mVar 0) (mVar 2)) (mBin dIx (mVar 1) (mVar 2))))) (mRet (mC (.bl false))) mNx)
def m_law_same_places : List D → R D := mDef 3 (mSeq (mIf (mTOr (mTNot (mTB (mIsi "tuple" (mVar 0)))) (mTB (mBin dNe (mCallB dLen (mCons (mVar 0) mNil)) (mCallB dLen (mCons (mVar 1) mNil))))) (mRet (mC (.bl false))) mNx) (mSeq (mFor (mRg (mCons (mCallB dLen (mCons (mVar 1) mNil)) mNil)) (bName 2) b_law_same_places_1) (mRet (mC (.bl true)))))
def m_law_unchanged : List D → R D := mDef 2 (mRet (mBin dEq (mVar 0) (mTup (mCons (mCallB dTupOf (mCons (mBin dIx (mVar 1) (mC (.int 0))) mNil)) (mCons (mCallB dTupOf (mCons (mBin dIx (mVar 1) (mC (.int 1))) mNil)) (mCons (mCallB dTupOf (mCons (mBin dIx (mVar 1) (mC (.int 2))) mNil)) mNil))))))
def e_Program_data_1 : ME := (mTup (mCons (mFld ["Shape", "Function"] "name" (mVar 2)) (mCons (mFld ["Shape"] "form" (mVar 2)) (mCons (mFld ["Shape"] "fields" (mVar 2)) mNil))))
def e_Program_data_2 : ME := (mTup (mCons (mFld ["Shape", "Function"] "name" (mVar 4)) (mCons (mFld ["Function"] "params" (mVar 4)) (mCons (mFld ["Function"] "result" (mVar 4)) (mCons (mFld ["Function"] "slots" (mVar 4)) (mCons (mFld ["Function"] "body" (mVar 4)) mNil))))))
def m_Program_data : List D → R D := mDef 5 (mSeq (mSet 1 (mCallB dTupOf (mCons (mCellE (mLC [2] (mItems (mFld ["Program"] "shapes" (mVar 0))) (bName 2) mYes e_Program_data_1)) mNil))) (mSeq (mSet 3 (mCallB dTupOf (mCons (mCellE (mLC [4] (mItems (mFld ["Program"] "functions" (mVar 0))) (bName 4) mYes e_Program_data_2)) mNil))) (mRet (mTup (mCons (mVar 1) (mCons (mFld ["Program"] "statics" (mVar 0)) (mCons (mVar 3) mNil)))))))
def e_law_1 : ME := (mCallB m_law_flow_world (mCons (mVar 0) (mCons (mVar 4) (mCons (mCut (mVar 2) none (some (mBin dAdd (mC (.int 1)) (mBin dIx (mVar 1) (mC (.int 1)))))) mNil))))
def e_law_2 : ME := (mCallB m_law_parts (mCons (mVar 6) (mCons (mBin dIx (mVar 1) (mC (.int 4))) mNil)))
def e_law_3 : ME := (mCallB m_make_program (mCons (mBin dIx (mVar 8) (mC (.int 0))) (mCons (mBin dIx (mVar 8) (mC (.int 1))) (mCons (mBin dIx (mVar 8) (mC (.int 2))) mNil))))
def e_law_4 : ME := (mVar 17)
def b_law_5 : MS := (mSeq (mSet 14 (mCallB m_law_ahead (mCons (mBin dIx (mBin dIx (mBin dIx (mBin dIx (mVar 3) (mVar 13)) (mC (.int 2))) (mVar 10)) (mC (.int 4))) (mCons (mVar 12) mNil)))) (mSeq (mSet 15 (mBin dIx (mFld ["Program"] "functions" (mIxO 7 (mVar 13))) (mVar 10))) (mSeq (mSet 16 (mCellE (mLst (mCons (mCallB m_runs_off (mCons (mVar 15) (mCons (mVar 12) mNil))) (mCons (mCallB m_successors (mCons (mVar 15) (mCons (mVar 12) mNil))) mNil))))) (mSeq (mIf (mTB (mBin dEq (mVar 9) (mC (.int 1)))) (mSet 16 (mCellE (mLst (mCons (mCallK m_runs_off [1, 0] mNil (mCons (mVar 12) (mCons (mVar 15) mNil))) (mCons (mCallK m_successors [1, 0] mNil (mCons (mVar 12) (mCons (mVar 15) mNil))) mNil))))) mNx) (mSeq (mIf (mTOr (mTNot (mTB (mIsi "bool" (mBin dIx (mVar 16) (mC (.int 0)))))) (mTB (mBin dNe (mBin dIx (mVar 16) (mC (.int 0))) (mBin dIn (mBin dIx (mVar 2) (mVar 10)) (mVar 14))))) (mRet (mC (.bl false))) mNx) (mIf (mTNot (mTB (mCallB m_law_same_places (mCons (mBin dIx (mVar 16) (mC (.int 1))) (mCons (mCellE (mLC [17] (mItems (mVar 14)) (bName 17) (mTB (mBin dLt (mVar 17) (mBin dIx (mVar 2) (mVar 10)))) e_law_4)) mNil))))) (mRet (mC (.bl false))) mNx))))))
def b_law_6 : MS := (mSeq (mSet 12 (mBin dIx (mCellE (mLst (mCons (mVar 11) (mCons (mBin dSub (mBin dSub (mBin dIx (mVar 2) (mVar 10)) (mC (.int 1))) (mVar 11)) mNil)))) (mVar 9))) (mFor (mRg (mCons (mC (.int 2)) mNil)) (bName 13) b_law_5))
def b_law_7 : MS := (mFor (mRg (mCons (mBin dIx (mVar 2) (mVar 10)) mNil)) (bName 11) b_law_6)
def b_law_8 : MS := (mFor (mRg (mCons (mBin dAdd (mC (.int 1)) (mBin dIx (mVar 1) (mC (.int 1)))) mNil)) (bName 10) b_law_7)
def m_law : List D → R D := mDef 18 (mSeq (mSet 1 (mCallB m_law_digits (mCons (mCallB m_law_cell (mCons (mVar 0) (mCons (mC (.int 0)) mNil))) (mCons (mCellE (mLst (mCons (mC (.int 12)) (mCons (mC (.int 3)) (mCons (mC (.int 8)) (mCons (mC (.int 8)) (mCons (mC (.int 2)) mNil))))))) mNil)))) (mSeq (mSet 2 (mCellE (mLst (mCons (mBin dIx (mCellE (mLst (mCons (mC (.int 5)) (mCons (mC (.int 1)) (mCons (mC (.int 12)) (mCons (mC (.int 2)) (mCons (mC (.int 30)) (mCons (mC (.int 3)) (mCons (mC (.int 60)) (mCons (mC (.int 20)) (mCons (mC (.int 200)) (mCons (mC (.int 8)) (mCons (mC (.int 100)) (mCons (mC (.int 16)) mNil)))))))))))))) (mBin dIx (mVar 1) (mC (.int 0)))) (mCons (mBin dIx (mCellE (mLst (mCons (mC (.int 4)) (mCons (mC (.int 1)) (mCons (mC (.int 7)) (mCons (mC (.int 2)) (mCons (mC (.int 60)) (mCons (mC (.int 12)) (mCons (mC (.int 3)) (mCons (mC (.int 20)) mNil)))))))))) (mBin dIx (mVar 1) (mC (.int 2)))) (mCons (mBin dIx (mCellE (mLst (mCons (mC (.int 3)) (mCons (mC (.int 1)) (mCons (mC (.int 5)) (mCons (mC (.int 2)) (mCons (mC (.int 12)) (mCons (mC (.int 1)) (mCons (mC (.int 4)) (mCons (mC (.int 6)) mNil)))))))))) (mBin dIx (mVar 1) (mC (.int 3)))) mNil)))))) (mSeq (mSetO 3 (mLC [4] (mItems (mCellE (mLst (mCons (mC (.int 1)) (mCons (mC (.int 32)) mNil))))) (bName 4) mYes e_law_1)) (mSeq (mFrz 3 (mSetO 5 (mLC [6] (mItems (mVar 3)) (bName 6) mYes e_law_2))) (mSeq (mFrz 5 (mSetO 7 (mLC [8] (mItems (mVar 5)) (bName 8) mYes e_law_3))) (mSeq (mFor (mRg (mCons (mC (.int 2)) mNil)) (bName 9) b_law_8) (mRet (mAnd (mCallB m_law_unchanged (mCons (mMeth "Program" "data" m_Program_data (mIxO 7 (mC (.int 0))) mNil) (mCons (mBin dIx (mVar 3) (mC (.int 0))) mNil))) (mCallB m_law_unchanged (mCons (mMeth "Program" "data" m_Program_data (mIxO 7 (mC (.int 1))) mNil) (mCons (mBin dIx (mVar 3) (mC (.int 1))) mNil)))))))))))
/-! ### what the top has written -/
structure Tx (w : World) (K : PySem.W.Frag) (mg : Str → Option Value) : Prop where
  d_law_digits : ∃ (f : Addr) (fd : FuncData), Fun K "_law_digits" "_law_digits" s_law_digits f fd ∧ mg "_law_digits" = some (.ref f)
  d_law_cell : ∃ (f : Addr) (fd : FuncData), Fun K "_law_cell" "_law_cell" s_law_cell f fd ∧ mg "_law_cell" = some (.ref f)
  d_law_small_shapes : ∃ (f : Addr) (fd : FuncData), Fun K "_law_small_shapes" "_law_small_shapes" s_law_small_shapes f fd ∧ mg "_law_small_shapes" = some (.ref f)
  d_law_any_deed : ∃ (f : Addr) (fd : FuncData), Fun K "_law_any_deed" "_law_any_deed" s_law_any_deed f fd ∧ mg "_law_any_deed" = some (.ref f)
  d_law_flow_body : ∃ (f : Addr) (fd : FuncData), Fun K "_law_flow_body" "_law_flow_body" s_law_flow_body f fd ∧ mg "_law_flow_body" = some (.ref f)
  d_law_flow_world : ∃ (f : Addr) (fd : FuncData), Fun K "_law_flow_world" "_law_flow_world" s_law_flow_world f fd ∧ mg "_law_flow_world" = some (.ref f)
  d_law_parts : ∃ (f : Addr) (fd : FuncData), Fun K "_law_parts" "_law_parts" s_law_parts f fd ∧ mg "_law_parts" = some (.ref f)
  d_counts_why : ∃ (f : Addr) (fd : FuncData), Fun K "counts_why" "counts_why" s_counts_why f fd ∧ mg "counts_why" = some (.ref f)
  d_is_name : ∃ (f : Addr) (fd : FuncData), Fun K "is_name" "is_name" s_is_name f fd ∧ mg "is_name" = some (.ref f)
  d_name_why : ∃ (f : Addr) (fd : FuncData), Fun K "name_why" "name_why" s_name_why f fd ∧ mg "name_why" = some (.ref f)
  d_record_names_fit : ∃ (f : Addr) (fd : FuncData), Fun K "record_names_fit" "record_names_fit" s_record_names_fit f fd ∧ mg "record_names_fit" = some (.ref f)
  d_fields_fit : ∃ (f : Addr) (fd : FuncData), Fun K "fields_fit" "fields_fit" s_fields_fit f fd ∧ mg "fields_fit" = some (.ref f)
  d_shape_why : ∃ (f : Addr) (fd : FuncData), Fun K "shape_why" "shape_why" s_shape_why f fd ∧ mg "shape_why" = some (.ref f)
  d_is_kind : ∃ (f : Addr) (fd : FuncData), Fun K "is_kind" "is_kind" s_is_kind f fd ∧ mg "is_kind" = some (.ref f)
  d_kinds_why : ∃ (f : Addr) (fd : FuncData), Fun K "kinds_why" "kinds_why" s_kinds_why f fd ∧ mg "kinds_why" = some (.ref f)
  d_look_at_shapes : ∃ (f : Addr) (fd : FuncData), Fun K "look_at_shapes" "look_at_shapes" s_look_at_shapes f fd ∧ mg "look_at_shapes" = some (.ref f)
  d_static_why : ∃ (f : Addr) (fd : FuncData), Fun K "static_why" "static_why" s_static_why f fd ∧ mg "static_why" = some (.ref f)
  d_look_at_statics : ∃ (f : Addr) (fd : FuncData), Fun K "look_at_statics" "look_at_statics" s_look_at_statics f fd ∧ mg "look_at_statics" = some (.ref f)
  d_entry_fits : ∃ (f : Addr) (fd : FuncData), Fun K "entry_fits" "entry_fits" s_entry_fits f fd ∧ mg "entry_fits" = some (.ref f)
  d_function_why : ∃ (f : Addr) (fd : FuncData), Fun K "function_why" "function_why" s_function_why f fd ∧ mg "function_why" = some (.ref f)
  d_look_at_functions : ∃ (f : Addr) (fd : FuncData), Fun K "look_at_functions" "look_at_functions" s_look_at_functions f fd ∧ mg "look_at_functions" = some (.ref f)
  d_integer_fits : ∃ (f : Addr) (fd : FuncData), Fun K "integer_fits" "integer_fits" s_integer_fits f fd ∧ mg "integer_fits" = some (.ref f)
  d_is_integer : ∃ (f : Addr) (fd : FuncData), Fun K "is_integer" "is_integer" s_is_integer f fd ∧ mg "is_integer" = some (.ref f)
  d_field_names : ∃ (f : Addr) (fd : FuncData), Fun K "field_names" "field_names" s_field_names f fd ∧ mg "field_names" = some (.ref f)
  d_form_of : ∃ (f : Addr) (fd : FuncData), Fun K "form_of" "form_of" s_form_of f fd ∧ mg "form_of" = some (.ref f)
  d_name_fits : ∃ (f : Addr) (fd : FuncData), Fun K "name_fits" "name_fits" s_name_fits f fd ∧ mg "name_fits" = some (.ref f)
  d_operand_fits : ∃ (f : Addr) (fd : FuncData), Fun K "operand_fits" "operand_fits" s_operand_fits f fd ∧ mg "operand_fits" = some (.ref f)
  d_instruction_why : ∃ (f : Addr) (fd : FuncData), Fun K "instruction_why" "instruction_why" s_instruction_why f fd ∧ mg "instruction_why" = some (.ref f)
  d_look_at_bodies : ∃ (f : Addr) (fd : FuncData), Fun K "look_at_bodies" "look_at_bodies" s_look_at_bodies f fd ∧ mg "look_at_bodies" = some (.ref f)
  d_make_program : ∃ (f : Addr) (fd : FuncData), Fun K "make_program" "make_program" s_make_program f fd ∧ mg "make_program" = some (.ref f)
  d_law_ahead : ∃ (f : Addr) (fd : FuncData), Fun K "_law_ahead" "_law_ahead" s_law_ahead f fd ∧ mg "_law_ahead" = some (.ref f)
  d_targets : ∃ (f : Addr) (fd : FuncData), Fun K "targets" "targets" s_targets f fd ∧ mg "targets" = some (.ref f)
  d_successors : ∃ (f : Addr) (fd : FuncData), Fun K "successors" "successors" s_successors f fd ∧ mg "successors" = some (.ref f)
  d_runs_off : ∃ (f : Addr) (fd : FuncData), Fun K "runs_off" "runs_off" s_runs_off f fd ∧ mg "runs_off" = some (.ref f)
  d_law_whole : ∃ (f : Addr) (fd : FuncData), Fun K "_law_whole" "_law_whole" s_law_whole f fd ∧ mg "_law_whole" = some (.ref f)
  d_law_same_places : ∃ (f : Addr) (fd : FuncData), Fun K "_law_same_places" "_law_same_places" s_law_same_places f fd ∧ mg "_law_same_places" = some (.ref f)
  d_law_unchanged : ∃ (f : Addr) (fd : FuncData), Fun K "_law_unchanged" "_law_unchanged" s_law_unchanged f fd ∧ mg "_law_unchanged" = some (.ref f)
  d_law : ∃ (f : Addr) (fd : FuncData), Fun K "law" "law" s_law f fd ∧ mg "law" = some (.ref f)
  x_BadProgram : XcF K mg "BadProgram" ["part", "number", "place", "why"] "__init__" "BadProgram.__init__" clsS_BadProgram
  k_Shape : ClsF K mg "Shape" ["name", "form", "fields"] "__init__" "Shape.__init__" clsS_Shape_0
  k_Function : ClsF K mg "Function" ["name", "params", "result", "slots", "body"] "__init__" "Function.__init__" clsS_Function_0
  k_Program : ClsF K mg "Program" ["shapes", "statics", "functions"] "__init__" "Program.__init__" clsS_Program_0
  k_Program_data : MetF K mg "Program" "data" "Program.data" clsS_Program_1
  c_RESERVED : TupC K mg "RESERVED" [.str "num", .str "mixed", .str "unset"]
  c_DIGITS : ∃ t : Tok, mg "DIGITS" = some (.str "0123456789" t)
  c_LETTERS : ∃ t : Tok, mg "LETTERS" = some (.str "abcdefghijklmnopqrstuvwxyz" t)
  c_FORMS : TupC K mg "FORMS" [.str "record", .str "array", .str "weak", .str "pair"]
  c_MIN_NUMBER : ∃ t : Tok, mg "MIN_NUMBER" = some (.int (-2147483648) t)
  c_MAX_NUMBER : ∃ t : Tok, mg "MAX_NUMBER" = some (.int 2147483647 t)
  c_OPERATIONS : TupC K mg "OPERATIONS" [.str "num", .str "add", .str "sub", .str "mul", .str "div", .str "mod", .str "less", .str "same", .str "flip", .str "drop", .str "copy", .str "swap", .str "load", .str "store", .str "fetch", .str "keep", .str "jump", .str "when", .str "call", .str "back", .str "halt", .str "tell", .str "nil", .str "empty", .str "twin", .str "make", .str "get", .str "put", .str "array", .str "at", .str "set", .str "length", .str "weaken", .str "peek", .str "pair", .str "key", .str "value", .str "watch", .str "parted", .str "settle"]
  c_OPERANDS : DctC K w mg "OPERANDS" tab_OPERANDS
  z_bool : mg "bool" = none
  z_int : mg "int" = none
  z_isinstance : mg "isinstance" = none
  z_len : mg "len" = none
  z_list : mg "list" = none
  z_max : mg "max" = none
  z_min : mg "min" = none
  z_range : mg "range" = none
  z_str : mg "str" = none
  z_tuple : mg "tuple" = none
/-! ### each def keeps to its mirror -/
section
variable {P : Program} {w : World} {K : PySem.W.Frag} {mg : Str → Option Value} {base : Heap}
theorem xc_BadProgram (T : Tx w K mg) : XcTxt P w K mg base 1 "BadProgram" ["part", "number", "place", "why"] := xc_mk T.x_BadProgram (by decide) (fun F => F.binds fun _ _ _ _ _ _ us hl => match us, hl with | [_, _, _, _, _], _ => rfl) (fun F => init_ok F sc_x_BadProgram rfl (by simp) fun cdv A outer s H E => (ib_cons (ib_cons (ib_cons (ib_cons ib_nil rfl rfl (Or.inl rfl) (Or.inl rfl) (by decide) (by decide) (by decide) (by decide)) rfl rfl (Or.inl rfl) (Or.inl rfl) (by decide) (by decide) (by decide) (by decide)) rfl rfl (Or.inl rfl) (Or.inl rfl) (by decide) (by decide) (by decide) (by decide)) rfl rfl (Or.inl rfl) (Or.inl rfl) (by decide) (by decide) (by decide) (by decide)))
theorem fa_body (T : Tx w K mg) : ∀ c ∈ (["Function"] : List Str), ClsA K mg ["body"] c := (clsA_cons (T.k_Function.a.one (by decide)) clsA_nil)
theorem fa_functions (T : Tx w K mg) : ∀ c ∈ (["Program"] : List Str), ClsA K mg ["functions"] c := (clsA_cons (T.k_Program.a.one (by decide)) clsA_nil)
theorem fa_shapes (T : Tx w K mg) : ∀ c ∈ (["Program"] : List Str), ClsA K mg ["shapes"] c := (clsA_cons (T.k_Program.a.one (by decide)) clsA_nil)
theorem fa_fields (T : Tx w K mg) : ∀ c ∈ (["Shape"] : List Str), ClsA K mg ["fields"] c := (clsA_cons (T.k_Shape.a.one (by decide)) clsA_nil)
theorem fa_form (T : Tx w K mg) : ∀ c ∈ (["Shape"] : List Str), ClsA K mg ["form"] c := (clsA_cons (T.k_Shape.a.one (by decide)) clsA_nil)
theorem fa_name (T : Tx w K mg) : ∀ c ∈ (["Shape", "Function"] : List Str), ClsA K mg ["name"] c := (clsA_cons (T.k_Shape.a.one (by decide)) (clsA_cons (T.k_Function.a.one (by decide)) clsA_nil))
theorem fa_slots (T : Tx w K mg) : ∀ c ∈ (["Function"] : List Str), ClsA K mg ["slots"] c := (clsA_cons (T.k_Function.a.one (by decide)) clsA_nil)
theorem fa_result (T : Tx w K mg) : ∀ c ∈ (["Function"] : List Str), ClsA K mg ["result"] c := (clsA_cons (T.k_Function.a.one (by decide)) clsA_nil)
theorem fa_params (T : Tx w K mg) : ∀ c ∈ (["Function"] : List Str), ClsA K mg ["params"] c := (clsA_cons (T.k_Function.a.one (by decide)) clsA_nil)
theorem fa_statics (T : Tx w K mg) : ∀ c ∈ (["Program"] : List Str), ClsA K mg ["statics"] c := (clsA_cons (T.k_Program.a.one (by decide)) clsA_nil)
theorem fn_law_digits (T : Tx w K mg) {f : Addr} {fd : FuncData} (F : Fun K "_law_digits" "_law_digits" s_law_digits f fd) : FnOk P w K mg base (L2.CX P w) 1 f fd ["_law_cell_here", "_law_sizes"] (PF K mg 2 m_law_digits) := by
  have sc := sc_law_digits
  refine def_ok F sc_law_digits rfl (by decide) fun cdv A outer s H E hr tk po => ?_
  exact (eb_cons (es_seto (i := 2) (ef_lst ea_nil) sc.nd rfl (Or.inl rfl)) (eb_cons (es_set (i := 3) (ee_intc T.z_int rfl (eaw_cons (EE.w (ee_var 0)) eaw_nil)) sc.nd rfl (Or.inl rfl)) (eb_cons (es_if (et_cmpw op_ge opw_cmp (EE.w (ee_var 3)) (EE.w (ee_pow ee_int ee_int)) (nomark _)) (eb_cons (es_set (i := 3) (ee_sub (ee_var 3) (ee_pow ee_int ee_int)) sc.nd rfl (Or.inl rfl)) (eb_cons (es_for po rfl (ei_any (ee_var 1)) (eg_name (i := 4) sc.nd rfl (Or.inl rfl)) (eb_cons (es_app 2 (ee_mod (ee_intc T.z_int rfl (eaw_cons (EE.w (ee_var 3)) eaw_nil)) (ee_var 4))) (eb_one (es_set (i := 3) (ee_div (ee_intc T.z_int rfl (eaw_cons (EE.w (ee_var 3)) eaw_nil)) (ee_var 4)) sc.nd rfl (Or.inl rfl))))) (eb_one (es_ret (ew_var 2))))) eb_nil) (eb_cons (es_set (i := 5) (ee_mod (ee_intc T.z_int rfl (eaw_cons (EE.w (ee_var 3)) eaw_nil)) ee_int) sc.nd rfl (Or.inl rfl)) (eb_cons (es_for po rfl (ei_range1 T.z_range rfl (ea_cons (ee_len T.z_len rfl (eaw_cons (EE.w (ee_var 1)) eaw_nil)) ea_nil) (al_cons al_nil)) (eg_name (i := 6) sc.nd rfl (Or.inl rfl)) (eb_cons (es_set (i := 5) (ee_mod (ee_intc T.z_int rfl (eaw_cons (EE.w (ee_add (ee_add (ee_mul (ee_var 5) ee_int) (ee_mul ee_int (ee_var 6))) ee_int)) eaw_nil)) ee_int) sc.nd rfl (Or.inl rfl)) (eb_cons (es_set (i := 7) (ee_mod (ee_intc T.z_int rfl (eaw_cons (EE.w (ee_mul (ee_var 5) (ee_add (ee_div (ee_var 5) ee_int) ee_int))) eaw_nil)) ee_int) sc.nd rfl (Or.inl rfl)) (eb_one (es_app 2 (ee_mod (ee_div (ee_var 7) ee_int) (ee_ix (ee_var 1) (ee_var 6)))))))) (eb_one (es_ret (ew_var 2))))))))
theorem ok_law_digits (T : Tx w K mg) : Ok P w K mg base 1 "_law_digits" 2 m_law_digits := by
  obtain ⟨f, fd, F, g⟩ := T.d_law_digits
  exact ⟨f, fd, ["_law_cell_here", "_law_sizes"], g, F.kp, F.binds fun _ _ _ _ _ _ us hl => match us, hl with | [_, _], _ => rfl, fn_law_digits T F⟩
theorem fn_law_cell (T : Tx w K mg) {f : Addr} {fd : FuncData} (F : Fun K "_law_cell" "_law_cell" s_law_cell f fd) : FnOk P w K mg base (L2.CX P w) 1 f fd ["_law_script", "_law_k"] (PF K mg 2 m_law_cell) := by
  have sc := sc_law_cell
  refine def_ok F sc_law_cell rfl (by decide) fun cdv A outer s H E hr tk po => ?_
  exact (eb_cons (es_if (et_cmpw op_lt opw_cmp (EE.w (ee_var 1)) (EE.w (ee_len T.z_len rfl (eaw_cons (EE.w (ee_var 0)) eaw_nil))) (nomark _)) (eb_one (es_ret (EE.w (ee_ix (ee_var 0) (ee_var 1))))) eb_nil) (eb_cons (es_set (i := 2) ee_int sc.nd rfl (Or.inl rfl)) (eb_cons (es_for po rfl (ei_any (ee_var 0)) (eg_name (i := 3) sc.nd rfl (Or.inl rfl)) (eb_one (es_set (i := 2) (ee_mod (ee_intc T.z_int rfl (eaw_cons (EE.w (ee_add (ee_mul (ee_var 2) ee_int) (ee_mod (ee_intc T.z_int rfl (eaw_cons (EE.w (ee_var 3)) eaw_nil)) ee_int))) eaw_nil)) ee_int) sc.nd rfl (Or.inl rfl)))) (eb_one (es_ret (EE.w (ee_mod (ee_intc T.z_int rfl (eaw_cons (EE.w (ee_mul (ee_mul (ee_add (ee_var 2) ee_int) (ee_add (ee_var 1) ee_int)) ee_int)) eaw_nil)) ee_int)))))))
theorem ok_law_cell (T : Tx w K mg) : Ok P w K mg base 1 "_law_cell" 2 m_law_cell := by
  obtain ⟨f, fd, F, g⟩ := T.d_law_cell
  exact ⟨f, fd, ["_law_script", "_law_k"], g, F.kp, F.binds fun _ _ _ _ _ _ us hl => match us, hl with | [_, _], _ => rfl, fn_law_cell T F⟩
theorem fn_law_small_shapes (T : Tx w K mg) {f : Addr} {fd : FuncData} (F : Fun K "_law_small_shapes" "_law_small_shapes" s_law_small_shapes f fd) : FnOk P w K mg base (L2.CX P w) 1 f fd ["_law_row"] (PF K mg 1 m_law_small_shapes) := by
  have sc := sc_law_small_shapes
  refine def_ok F sc_law_small_shapes rfl (by decide) fun cdv A outer s H E hr tk po => ?_
  exact (eb_cons (es_set (i := 1) (EF.toE (ef_lst (ea_cons ee_str (ea_cons ee_str (ea_cons ee_str (ea_cons ee_str (ea_cons ee_str (ea_cons ee_str (ea_cons ee_str (ea_cons ee_str (ea_cons ee_str (ea_cons ee_str (ea_cons ee_str (ea_cons ee_str (ea_cons ee_str ea_nil))))))))))))))) sc.nd rfl (Or.inr rfl)) (eb_cons (es_setoLc (i := 2) rfl sc.nd rfl rfl (sw_true rfl rfl rfl (by decide +kernel)) (ei_range1 T.z_range rfl (ea_cons ee_int ea_nil) (al_cons al_nil)) (blkOk_by (N := ["_law_row", "_law_menu", "_law_names", "_law_k", "_law_kinds"]) (sc := defScope s_law_small_shapes) (own := [("_law_k", 3)]) (by decide +kernel)) rfl (fun _ => (cg_name (i := 3) sc.nd rfl (by first | exact .inl rfl | exact .inr rfl) (by decide))) (fun _ => ec_nil) (fun _ => (ee_ix (ee_var 1) (ee_mod (ee_intc T.z_int rfl (eaw_cons (EE.w (ee_add (ee_ix (ee_var 0) ee_int) (ee_mul ee_int (ee_var 3)))) eaw_nil)) ee_int)))) (eb_cons (es_frz 2 (es_set (i := 4) (ee_add (EF.toE (ef_lst (ea_cons ee_str ea_nil))) (ee_var 2)) sc.nd rfl (Or.inl rfl))) (eb_one (es_ret (EE.w (EF.toE (ef_lst (ea_cons (ee_tup (ea_cons (ee_ix (ee_var 2) ee_int) (ea_cons ee_str (ea_cons (ee_tup (ea_cons (ee_tup (ea_cons ee_str (ea_cons ee_str ea_nil))) (ea_cons (ee_tup (ea_cons ee_str (ea_cons (ee_ix (ee_var 2) ee_int) ea_nil))) (ea_cons (ee_tup (ea_cons ee_str (ea_cons (ee_ix (ee_var 4) (ee_ix (ee_var 0) ee_int)) ea_nil))) ea_nil)))) ea_nil)))) (ea_cons (ee_tup (ea_cons (ee_ix (ee_var 2) ee_int) (ea_cons ee_str (ea_cons (ee_tup (ea_cons (ee_tup (ea_cons ee_str (ea_cons (ee_ix (ee_var 4) (ee_ix (ee_var 0) ee_int)) ea_nil))) ea_nil)) ea_nil)))) (ea_cons (ee_tup (ea_cons (ee_ix (ee_var 2) ee_int) (ea_cons ee_str (ea_cons (ee_tup (ea_cons (ee_tup (ea_cons ee_str (ea_cons (ee_ix (ee_var 2) (ee_ix (ee_var 0) ee_int)) ea_nil))) ea_nil)) ea_nil)))) (ea_cons (ee_tup (ea_cons (ee_ix (ee_var 2) ee_int) (ea_cons ee_str (ea_cons (ee_tup (ea_cons (ee_tup (ea_cons ee_str (ea_cons (ee_ix (ee_var 2) (ee_ix (ee_var 0) ee_int)) ea_nil))) (ea_cons (ee_tup (ea_cons ee_str (ea_cons (ee_ix (ee_var 4) (ee_ix (ee_var 0) ee_int)) ea_nil))) ea_nil))) ea_nil)))) (ea_cons (ee_tup (ea_cons (ee_ix (ee_var 2) ee_int) (ea_cons ee_str (ea_cons (ee_tup (ea_cons (ee_tup (ea_cons ee_str (ea_cons (ee_ix (ee_var 2) (ee_ix (ee_var 0) ee_int)) ea_nil))) (ea_cons (ee_tup (ea_cons ee_str (ea_cons ee_str ea_nil))) (ea_cons (ee_tup (ea_cons ee_str (ea_cons (ee_ix (ee_var 4) (ee_ix (ee_var 0) ee_int)) ea_nil))) (ea_cons (ee_tup (ea_cons ee_str (ea_cons (ee_ix (ee_var 4) (ee_add ee_int (ee_ix (ee_var 0) ee_int))) ea_nil))) (ea_cons (ee_tup (ea_cons ee_str (ea_cons ee_str ea_nil))) ea_nil)))))) ea_nil)))) (ea_cons (ee_tup (ea_cons (ee_ix (ee_var 2) ee_int) (ea_cons ee_str (ea_cons (ee_tup (ea_cons (ee_tup (ea_cons ee_str (ea_cons (ee_ix (ee_var 4) (ee_add (ee_mod (ee_intc T.z_int rfl (eaw_cons (EE.w (ee_add (ee_ix (ee_var 0) ee_int) (ee_ix (ee_var 0) ee_int))) eaw_nil)) ee_int) ee_int)) ea_nil))) ea_nil)) ea_nil)))) (ea_cons (ee_tup (ea_cons (ee_ix (ee_var 2) ee_int) (ea_cons ee_str (ea_cons (ee_tup (ea_cons (ee_tup (ea_cons ee_str (ea_cons (ee_ix (ee_var 2) (ee_add ee_int (ee_ix (ee_var 0) ee_int))) ea_nil))) ea_nil)) ea_nil)))) (ea_cons (ee_tup (ea_cons (ee_ix (ee_var 2) ee_int) (ea_cons ee_str (ea_cons (ee_tup (ea_cons (ee_tup (ea_cons ee_str (ea_cons (ee_ix (ee_var 2) (ee_sub ee_int (ee_ix (ee_var 0) ee_int))) ea_nil))) (ea_cons (ee_tup (ea_cons ee_str (ea_cons (ee_ix (ee_var 4) (ee_add (ee_mod (ee_intc T.z_int rfl (eaw_cons (EE.w (ee_add (ee_ix (ee_var 0) ee_int) (ee_ix (ee_var 0) ee_int))) eaw_nil)) ee_int) ee_int)) ea_nil))) ea_nil))) ea_nil)))) ea_nil))))))))))))))))
theorem ok_law_small_shapes (T : Tx w K mg) : Ok P w K mg base 1 "_law_small_shapes" 1 m_law_small_shapes := by
  obtain ⟨f, fd, F, g⟩ := T.d_law_small_shapes
  exact ⟨f, fd, ["_law_row"], g, F.kp, F.binds fun _ _ _ _ _ _ us hl => match us, hl with | [_], _ => rfl, fn_law_small_shapes T F⟩
theorem fn_law_any_deed (T : Tx w K mg) {f : Addr} {fd : FuncData} (F : Fun K "_law_any_deed" "_law_any_deed" s_law_any_deed f fd) : FnOk P w K mg base (L2.CX P w) 1 f fd ["_law_world", "_law_function", "_law_row"] (PF K mg 3 m_law_any_deed) := by
  have sc := sc_law_any_deed
  refine def_ok F sc_law_any_deed rfl (by decide) fun cdv A outer s H E hr tk po => ?_
  exact (eb_cons (es_set (i := 3) (EF.toE (ef_lst (ea_cons ee_str (ea_cons ee_str (ea_cons ee_str (ea_cons ee_str (ea_cons ee_str (ea_cons ee_str (ea_cons ee_str (ea_cons ee_str (ea_cons ee_str (ea_cons ee_str (ea_cons ee_str (ea_cons ee_str (ea_cons ee_str (ea_cons ee_str (ea_cons ee_str (ea_cons ee_str (ea_cons ee_str (ea_cons ee_str (ea_cons ee_str (ea_cons ee_str (ea_cons ee_str (ea_cons ee_str (ea_cons ee_str (ea_cons ee_str (ea_cons ee_str (ea_cons ee_str (ea_cons ee_str (ea_cons ee_str (ea_cons ee_str (ea_cons ee_str (ea_cons ee_str (ea_cons ee_str (ea_cons ee_str (ea_cons ee_str (ea_cons ee_str (ea_cons ee_str (ea_cons ee_str (ea_cons ee_str (ea_cons ee_str (ea_cons ee_str ea_nil)))))))))))))))))))))))))))))))))))))))))) sc.nd rfl (Or.inl rfl)) (eb_cons (es_set (i := 4) (ee_ix (ee_var 3) (ee_ix (ee_var 2) ee_int)) sc.nd rfl (Or.inr rfl)) (eb_cons (es_set (i := 5) (EF.toE (ef_disp (ep_cons (kc := (.inr "make")) pe_str ee_str (ep_cons (kc := (.inr "get")) pe_str ee_str (ep_cons (kc := (.inr "put")) pe_str ee_str (ep_cons (kc := (.inr "array")) pe_str ee_str (ep_cons (kc := (.inr "at")) pe_str ee_str (ep_cons (kc := (.inr "set")) pe_str ee_str (ep_cons (kc := (.inr "length")) pe_str ee_str (ep_cons (kc := (.inr "weaken")) pe_str ee_str (ep_cons (kc := (.inr "peek")) pe_str ee_str (ep_cons (kc := (.inr "pair")) pe_str ee_str (ep_cons (kc := (.inr "key")) pe_str ee_str (ep_cons (kc := (.inr "value")) pe_str ee_str ep_nil)))))))))))) (by decide) (by decide))) sc.nd rfl (Or.inr rfl)) (eb_cons (es_if (et_cmpw (or_eq hr.units) opw_eq (EE.w (ee_var 4)) (EE.w ee_str) (nomark _)) (eb_one (es_ret (EE.w (ee_tup (ea_cons ee_str (ea_cons (ee_ix (EF.toE (ef_lst (ea_cons ee_int (ea_cons ee_int (ea_cons (ee_neg ee_int) (ea_cons ee_int (ea_cons (ee_neg ee_int) (ea_cons ee_int ea_nil)))))))) (ee_mod (ee_intc T.z_int rfl (eaw_cons (EE.w (ee_ix (ee_var 2) ee_int)) eaw_nil)) ee_int)) ea_nil)))))) eb_nil) (eb_cons (es_if (et_cmpw or_in opw_in (EE.w (ee_var 4)) (EE.w (EF.toE (ef_lst (ea_cons ee_str (ea_cons ee_str ea_nil))))) rfl) (eb_one (es_ret (EE.w (ee_ix (EF.toE (ef_lst (ea_cons (ee_tup (ea_cons ee_str ea_nil)) (ea_cons (ee_tup (ea_cons (ee_var 4) (ea_cons (ee_mod (ee_intc T.z_int rfl (eaw_cons (EE.w (ee_ix (ee_var 2) ee_int)) eaw_nil)) (ee_max rfl T.z_max rfl (eaw_cons (EE.w ee_int) (eaw_cons (EE.w (ee_ix (ee_var 1) ee_int)) eaw_nil)))) ea_nil))) ea_nil)))) (ee_intc T.z_int rfl (eaw_cons (EE.w (ee_cmpw op_gt opw_cmp (EE.w (ee_ix (ee_var 1) ee_int)) (EE.w ee_int) (nomark _))) eaw_nil)))))) eb_nil) (eb_cons (es_if (et_cmpw or_in opw_in (EE.w (ee_var 4)) (EE.w (EF.toE (ef_lst (ea_cons ee_str (ea_cons ee_str ea_nil))))) rfl) (eb_one (es_ret (EE.w (ee_tup (ea_cons (ee_var 4) (ea_cons (ee_ix (ee_ix (ee_ix (ee_var 0) ee_int) (ee_mod (ee_intc T.z_int rfl (eaw_cons (EE.w (ee_ix (ee_var 2) ee_int)) eaw_nil)) (ee_len T.z_len rfl (eaw_cons (EE.w (ee_ix (ee_var 0) ee_int)) eaw_nil)))) ee_int) ea_nil)))))) eb_nil) (eb_cons (es_if (et_cmpw or_in opw_in (EE.w (ee_var 4)) (EE.w (EF.toE (ef_lst (ea_cons ee_str (ea_cons ee_str ea_nil))))) rfl) (eb_one (es_ret (EE.w (ee_tup (ea_cons (ee_var 4) (ea_cons (ee_mod (ee_intc T.z_int rfl (eaw_cons (EE.w (ee_add (ee_mul (ee_ix (ee_var 2) ee_int) ee_int) (ee_ix (ee_var 2) ee_int))) eaw_nil)) (ee_max rfl T.z_max rfl (eaw_cons (EE.w ee_int) (eaw_cons (EE.w (ee_len T.z_len rfl (eaw_cons (EE.w (ee_ix (ee_var 1) ee_int)) eaw_nil))) eaw_nil)))) ea_nil)))))) eb_nil) (eb_cons (es_if (et_cmpw (or_eq hr.units) opw_eq (EE.w (ee_var 4)) (EE.w ee_str) (nomark _)) (eb_one (es_ret (EE.w (ee_tup (ea_cons ee_str (ea_cons (ee_ix (ee_ix (ee_ix (ee_var 0) ee_int) (ee_mod (ee_intc T.z_int rfl (eaw_cons (EE.w (ee_ix (ee_var 2) ee_int)) eaw_nil)) (ee_len T.z_len rfl (eaw_cons (EE.w (ee_ix (ee_var 0) ee_int)) eaw_nil)))) ee_int) ea_nil)))))) eb_nil) (eb_cons (es_if (et_cmpw or_in opw_in (EE.w (ee_var 4)) (EE.w (EF.toE (ef_lst (ea_cons ee_str (ea_cons ee_str (ea_cons ee_str (ea_cons ee_str (ea_cons ee_str ea_nil)))))))) rfl) (eb_one (es_ret (EE.w (ee_tup (ea_cons (ee_var 4) (ea_cons (ee_ix (ee_ix (ee_ix (ee_var 0) ee_int) (ee_mod (ee_intc T.z_int rfl (eaw_cons (EE.w (ee_ix (ee_var 2) ee_int)) eaw_nil)) (ee_len T.z_len rfl (eaw_cons (EE.w (ee_ix (ee_var 0) ee_int)) eaw_nil)))) ee_int) ea_nil)))))) eb_nil) (eb_cons (es_if (et_dnotin hr (ee_var 4) (ee_var 5)) (eb_one (es_ret (EE.w (ee_tup (ea_cons (ee_var 4) ea_nil))))) eb_nil) (eb_cons (es_setoLc (i := 6) rfl sc.nd rfl rfl (sw_true rfl rfl rfl (by decide +kernel)) (ei_any (ee_ix (ee_var 0) ee_int)) (blkOk_by (N := ["_law_world", "_law_function", "_law_row", "_law_words", "_law_word", "_law_form", "_law_found", "_law_shape"]) (sc := defScope s_law_any_deed) (own := [("_law_shape", 7)]) (by decide +kernel)) rfl (fun _ => (cg_name (i := 7) sc.nd rfl (by first | exact .inl rfl | exact .inr rfl) (by decide))) (fun _ => (ec_one (EV2.t (ev_and (et_cmpw (or_eq hr.units) opw_eq (EE.w (ee_ix (ee_var 7) ee_int)) (EE.w (ee_dget hr (ee_var 5) (ee_var 4))) (nomark _)) (ev_and1 (et_cmpw op_gt opw_cmp (EE.w (ee_len T.z_len rfl (eaw_cons (EE.w (ee_ix (ee_var 7) ee_int)) eaw_nil))) (EE.w ee_int) (nomark _))))))) (fun _ => (ee_var 7))) (eb_cons (es_set (i := 7) (ee_ixo 6 (ee_mod (ee_intc T.z_int rfl (eaw_cons (EE.w (ee_ix (ee_var 2) ee_int)) eaw_nil)) (ee_len T.z_len rfl (eaw_cons (ew_var 6) eaw_nil)))) sc.nd rfl (Or.inl rfl)) (eb_cons (es_if (et_cmpw or_in opw_in (EE.w (ee_var 4)) (EE.w (EF.toE (ef_lst (ea_cons ee_str (ea_cons ee_str ea_nil))))) rfl) (eb_one (es_ret (EE.w (ee_tup (ea_cons (ee_var 4) (ea_cons (ee_ix (ee_var 7) ee_int) (ea_cons (ee_ix (ee_ix (ee_ix (ee_var 7) ee_int) (ee_mod (ee_intc T.z_int rfl (eaw_cons (EE.w (ee_ix (ee_var 2) ee_int)) eaw_nil)) (ee_len T.z_len rfl (eaw_cons (EE.w (ee_ix (ee_var 7) ee_int)) eaw_nil)))) ee_int) ea_nil))))))) eb_nil) (eb_one (es_ret (EE.w (ee_tup (ea_cons (ee_var 4) (ea_cons (ee_ix (ee_var 7) ee_int) ea_nil)))))))))))))))))))
theorem ok_law_any_deed (T : Tx w K mg) : Ok P w K mg base 1 "_law_any_deed" 3 m_law_any_deed := by
  obtain ⟨f, fd, F, g⟩ := T.d_law_any_deed
  exact ⟨f, fd, ["_law_world", "_law_function", "_law_row"], g, F.kp, F.binds fun _ _ _ _ _ _ us hl => match us, hl with | [_, _, _], _ => rfl, fn_law_any_deed T F⟩
theorem fn_law_flow_body (T : Tx w K mg) {f : Addr} {fd : FuncData} (F : Fun K "_law_flow_body" "_law_flow_body" s_law_flow_body f fd) : FnOk P w K mg base (L2.CX P w) 2 f fd ["_law_script", "_law_at", "_law_world", "_law_function", "_law_many"] (PF K mg 5 m_law_flow_body) := by
  have sc := sc_law_flow_body
  refine def_ok F sc_law_flow_body rfl (by decide) fun cdv A outer s H E hr tk po => ?_
  exact (eb_cons (es_seto (i := 5) (ef_lst ea_nil) sc.nd rfl (Or.inl rfl)) (eb_cons (es_for po rfl (ei_range1 T.z_range rfl (ea_cons (ee_add ee_int (ee_div (ee_var 4) ee_int)) ea_nil) (al_cons al_nil)) (eg_name (i := 6) sc.nd rfl (Or.inl rfl)) (eb_cons (es_set (i := 7) (ee_callO tk (ok_law_digits T) hr (by decide) (ea_cons (ee_callO tk (ok_law_cell T) hr (by decide) (ea_cons (ee_var 0) (ea_cons (ee_add (ee_var 1) (ee_var 6)) ea_nil)) (al_cons (al_cons al_nil))) (ea_cons (ee_mul (EF.toE (ef_lst (ea_cons ee_int (ea_cons ee_int (ea_cons ee_int (ea_cons ee_int ea_nil)))))) ee_int) ea_nil)) (al_cons (al_cons al_nil))) sc.nd rfl (Or.inl rfl)) (eb_one (es_for po rfl (ei_range1 T.z_range rfl (ea_cons ee_int ea_nil) (al_cons al_nil)) (eg_name (i := 8) sc.nd rfl (Or.inl rfl)) (eb_one (es_app 5 (ee_cut (ee_var 7) (eo_some (ee_mul ee_int (ee_var 8))) (eo_some (ee_add (ee_mul ee_int (ee_var 8)) ee_int))))))))) (eb_cons (es_seto (i := 9) (ef_lst ea_nil) sc.nd rfl (Or.inl rfl)) (eb_cons (es_for po rfl (ei_range1 T.z_range rfl (ea_cons (ee_var 4) ea_nil) (al_cons al_nil)) (eg_name (i := 10) sc.nd rfl (Or.inl rfl)) (eb_cons (es_set (i := 11) (ee_ixo 5 (ee_var 10)) sc.nd rfl (Or.inl rfl)) (eb_cons (es_set (i := 12) (EF.toE (ef_lst (ea_cons (ee_min rfl T.z_min rfl (eaw_cons (EE.w (ee_add (ee_var 10) ee_int)) (eaw_cons (EE.w (ee_sub (ee_var 4) ee_int)) eaw_nil))) (ea_cons (ee_var 10) (ea_cons ee_int (ea_cons (ee_sub (ee_var 4) ee_int) (ea_cons (ee_mod (ee_intc T.z_int rfl (eaw_cons (EE.w (ee_add (ee_mul (ee_ix (ee_var 11) ee_int) ee_int) (ee_ix (ee_var 11) ee_int))) eaw_nil)) (ee_var 4)) (ea_cons (ee_mod (ee_intc T.z_int rfl (eaw_cons (EE.w (ee_ix (ee_var 11) ee_int)) eaw_nil)) (ee_var 4)) ea_nil)))))))) sc.nd rfl (Or.inl rfl)) (eb_one (es_if (et_cmpw op_lt opw_cmp (EE.w (ee_ix (ee_var 11) ee_int)) (EE.w ee_int) (nomark _)) (eb_one (es_app 9 (ee_tup (ea_cons (ee_ix (EF.toE (ef_lst (ea_cons ee_str (ea_cons ee_str (ea_cons ee_str ea_nil))))) (ee_mod (ee_intc T.z_int rfl (eaw_cons (EE.w (ee_ix (ee_var 11) ee_int)) eaw_nil)) ee_int)) (ea_cons (ee_ix (ee_var 12) (ee_mod (ee_intc T.z_int rfl (eaw_cons (EE.w (ee_ix (ee_var 11) ee_int)) eaw_nil)) ee_int)) ea_nil))))) (eb_one (es_if (et_cmpw op_lt opw_cmp (EE.w (ee_ix (ee_var 11) ee_int)) (EE.w ee_int) (nomark _)) (eb_one (es_app 9 (ee_tup (ea_cons (ee_ix (EF.toE (ef_lst (ea_cons ee_str (ea_cons ee_str ea_nil)))) (ee_mod (ee_intc T.z_int rfl (eaw_cons (EE.w (ee_ix (ee_var 11) ee_int)) eaw_nil)) ee_int)) ea_nil)))) (eb_one (es_app 9 (ee_callO tk (ok_law_any_deed T) hr (by decide) (ea_cons (ee_var 2) (ea_cons (ee_var 3) (ea_cons (ee_cut (ee_var 11) (eo_some ee_int) eo_none) ea_nil))) (al_cons (al_cons (al_cons al_nil))))))))))))) (eb_one (es_ret (EE.w (ee_tupO 9 T.z_tuple rfl))))))))
theorem ok_law_flow_body (T : Tx w K mg) : Ok P w K mg base 2 "_law_flow_body" 5 m_law_flow_body := by
  obtain ⟨f, fd, F, g⟩ := T.d_law_flow_body
  exact ⟨f, fd, ["_law_script", "_law_at", "_law_world", "_law_function", "_law_many"], g, F.kp, F.binds fun _ _ _ _ _ _ us hl => match us, hl with | [_, _, _, _, _], _ => rfl, fn_law_flow_body T F⟩
theorem fn_law_flow_world (T : Tx w K mg) {f : Addr} {fd : FuncData} (F : Fun K "_law_flow_world" "_law_flow_world" s_law_flow_world f fd) : FnOk P w K mg base (L2.CX P w) 3 f fd ["_law_script", "_law_at", "_law_sizes"] (PF K mg 3 m_law_flow_world) := by
  have sc := sc_law_flow_world
  refine def_ok F sc_law_flow_world rfl (by decide) fun cdv A outer s H E hr tk po => ?_
  exact (eb_cons (es_set (i := 3) (ee_callO tk (ok_law_small_shapes T) hr (by decide) (ea_cons (ee_callO tk (ok_law_digits T) hr (by decide) (ea_cons (ee_callO tk (ok_law_cell T) hr (by decide) (ea_cons (ee_var 0) (ea_cons (ee_var 1) ea_nil)) (al_cons (al_cons al_nil))) (ea_cons (EF.toE (ef_lst (ea_cons ee_int (ea_cons ee_int (ea_cons ee_int (ea_cons ee_int (ea_cons ee_int (ea_cons ee_int ea_nil)))))))) ea_nil)) (al_cons (al_cons al_nil))) ea_nil) (al_cons al_nil)) sc.nd rfl (Or.inl rfl)) (eb_cons (es_set (i := 4) (ee_cut (EF.toE (ef_lst (ea_cons (ee_tup (ea_cons ee_str (ea_cons (ee_tup (ea_cons ee_str ea_nil)) (ea_cons ee_non (ea_cons ee_int ea_nil))))) (ea_cons (ee_tup (ea_cons ee_str (ea_cons (ee_tup ea_nil) (ea_cons ee_str (ea_cons ee_int ea_nil))))) (ea_cons (ee_tup (ea_cons ee_str (ea_cons (ee_tup ea_nil) (ea_cons ee_non (ea_cons ee_int ea_nil))))) ea_nil))))) eo_none (eo_some (ee_len T.z_len rfl (eaw_cons (EE.w (ee_var 2)) eaw_nil)))) sc.nd rfl (Or.inl rfl)) (eb_cons (es_set (i := 5) (EF.toE (ef_lst (ea_cons (ee_var 3) (ea_cons (EF.toE (ef_lst (ea_cons (ee_tup (ea_cons ee_str (ea_cons ee_str ea_nil))) ea_nil))) (ea_cons (EF.toE (ef_lc rfl sc.nd (ei_any (ee_var 4)) (blkOk_by (N := ["_law_script", "_law_at", "_law_sizes", "_law_shapes", "_law_heads", "_law_world", "_law_head", "_law_functions", "_law_f", "_law_blank"]) (sc := defScope s_law_flow_world) (own := [("_law_head", 6)]) (by decide +kernel)) rfl (fun _ => (cg_name (i := 6) sc.nd rfl (by first | exact .inl rfl | exact .inr rfl) (by decide))) (fun _ => ec_nil) (fun _ => (ee_add (ee_var 6) (ee_tup (ea_cons (ee_tup ea_nil) ea_nil)))))) ea_nil))))) sc.nd rfl (Or.inl rfl)) (eb_cons (es_seto (i := 7) (ef_lst ea_nil) sc.nd rfl (Or.inl rfl)) (eb_cons (es_for po rfl (ei_range1 T.z_range rfl (ea_cons (ee_len T.z_len rfl (eaw_cons (EE.w (ee_var 4)) eaw_nil)) ea_nil) (al_cons al_nil)) (eg_name (i := 8) sc.nd rfl (Or.inl rfl)) (eb_cons (es_set (i := 9) (ee_add (ee_ix (ee_var 4) (ee_var 8)) (ee_tup (ea_cons (ee_mul (EF.toE (ef_lst (ea_cons ee_int ea_nil))) (ee_ix (ee_var 2) (ee_var 8))) ea_nil))) sc.nd rfl (Or.inl rfl)) (eb_one (es_app 7 (ee_add (ee_ix (ee_var 4) (ee_var 8)) (ee_tup (ea_cons (ee_callO tk (ok_law_flow_body T) hr (by decide) (ea_cons (ee_var 0) (ea_cons (ee_add (ee_var 1) (ee_ix (EF.toE (ef_lst (ea_cons ee_int (ea_cons ee_int (ea_cons ee_int ea_nil))))) (ee_var 8))) (ea_cons (ee_var 5) (ea_cons (ee_var 9) (ea_cons (ee_ix (ee_var 2) (ee_var 8)) ea_nil))))) (al_cons (al_cons (al_cons (al_cons (al_cons al_nil)))))) ea_nil))))))) (eb_one (es_frz 7 (es_ret (EE.w (EF.toE (ef_lst (ea_cons (ee_var 3) (ea_cons (EF.toE (ef_lst (ea_cons (ee_tup (ea_cons ee_str (ea_cons ee_str ea_nil))) ea_nil))) (ea_cons (ee_var 7) ea_nil))))))))))))))
theorem ok_law_flow_world (T : Tx w K mg) : Ok P w K mg base 3 "_law_flow_world" 3 m_law_flow_world := by
  obtain ⟨f, fd, F, g⟩ := T.d_law_flow_world
  exact ⟨f, fd, ["_law_script", "_law_at", "_law_sizes"], g, F.kp, F.binds fun _ _ _ _ _ _ us hl => match us, hl with | [_, _, _], _ => rfl, fn_law_flow_world T F⟩
theorem fn_law_parts (T : Tx w K mg) {f : Addr} {fd : FuncData} (F : Fun K "_law_parts" "_law_parts" s_law_parts f fd) : FnOk P w K mg base (L2.CX P w) 1 f fd ["_law_world", "_law_form"] (PF K mg 2 m_law_parts) := by
  have sc := sc_law_parts
  refine def_ok F sc_law_parts rfl (by decide) fun cdv A outer s H E hr tk po => ?_
  exact (eb_cons (es_if (et_cmpw (or_eq hr.units) opw_eq (EE.w (ee_var 1)) (EE.w ee_int) (nomark _)) (eb_one (es_ret (EE.w (ee_tup (ea_cons (ee_tupc T.z_tuple rfl (ea_cons (ee_ix (ee_var 0) ee_int) ea_nil)) (ea_cons (ee_tupc T.z_tuple rfl (ea_cons (ee_ix (ee_var 0) ee_int) ea_nil)) (ea_cons (ee_tupc T.z_tuple rfl (ea_cons (ee_ix (ee_var 0) ee_int) ea_nil)) ea_nil))))))) eb_nil) (eb_cons (es_setoLc (i := 2) rfl sc.nd rfl rfl (sw_true rfl rfl rfl (by decide +kernel)) (ei_any (ee_ix (ee_var 0) ee_int)) (blkOk_by (N := ["_law_world", "_law_form", "_law_shapes", "_law_field", "_law_shape", "_law_functions", "_law_deed", "_law_one", "_law_pair"]) (sc := defScope s_law_parts) (own := [("_law_shape", 4)]) (by decide +kernel)) rfl (fun _ => (cg_name (i := 4) sc.nd rfl (by first | exact .inl rfl | exact .inr rfl) (by decide))) (fun _ => ec_nil) (fun _ => (EF.toE (ef_lst (ea_cons (ee_ix (ee_var 4) ee_int) (ea_cons (ee_ix (ee_var 4) ee_int) (ea_cons (EF.toE (ef_lc rfl sc.nd (ei_any (ee_ix (ee_var 4) ee_int)) (blkOk_by (N := ["_law_world", "_law_form", "_law_shapes", "_law_field", "_law_shape", "_law_functions", "_law_deed", "_law_one", "_law_pair"]) (own := [("_law_field", 3)]) (by rfl)) rfl (fun _ => (cg_name (i := 3) sc.nd rfl (by first | exact .inl rfl | exact .inr rfl) (by decide))) (fun _ => ec_nil) (fun _ => (EF.toE (ef_listc T.z_list rfl (ea_cons (ee_var 3) ea_nil)))))) ea_nil))))))) (eb_cons (es_setoLc (i := 5) rfl sc.nd rfl rfl (sw_true rfl rfl rfl (by decide +kernel)) (ei_any (ee_ix (ee_var 0) ee_int)) (blkOk_by (N := ["_law_world", "_law_form", "_law_shapes", "_law_field", "_law_shape", "_law_functions", "_law_deed", "_law_one", "_law_pair"]) (sc := defScope s_law_parts) (own := [("_law_one", 7)]) (by decide +kernel)) rfl (fun _ => (cg_name (i := 7) sc.nd rfl (by first | exact .inl rfl | exact .inr rfl) (by decide))) (fun _ => ec_nil) (fun _ => (EF.toE (ef_lst (ea_cons (ee_ix (ee_var 7) ee_int) (ea_cons (EF.toE (ef_listc T.z_list rfl (ea_cons (ee_ix (ee_var 7) ee_int) ea_nil))) (ea_cons (ee_ix (ee_var 7) ee_int) (ea_cons (ee_ix (ee_var 7) ee_int) (ea_cons (EF.toE (ef_lc rfl sc.nd (ei_any (ee_ix (ee_var 7) ee_int)) (blkOk_by (N := ["_law_world", "_law_form", "_law_shapes", "_law_field", "_law_shape", "_law_functions", "_law_deed", "_law_one", "_law_pair"]) (own := [("_law_deed", 6)]) (by rfl)) rfl (fun _ => (cg_name (i := 6) sc.nd rfl (by first | exact .inl rfl | exact .inr rfl) (by decide))) (fun _ => ec_nil) (fun _ => (EF.toE (ef_listc T.z_list rfl (ea_cons (ee_var 6) ea_nil)))))) ea_nil))))))))) (eb_one (es_frz 5 (es_frz 2 (es_ret (EE.w (EF.toE (ef_lst (ea_cons (ee_var 2) (ea_cons (EF.toE (ef_lc rfl sc.nd (ei_any (ee_ix (ee_var 0) ee_int)) (blkOk_by (N := ["_law_world", "_law_form", "_law_shapes", "_law_field", "_law_shape", "_law_functions", "_law_deed", "_law_one", "_law_pair"]) (sc := defScope s_law_parts) (own := [("_law_pair", 8)]) (by decide +kernel)) rfl (fun _ => (cg_name (i := 8) sc.nd rfl (by first | exact .inl rfl | exact .inr rfl) (by decide))) (fun _ => ec_nil) (fun _ => (EF.toE (ef_listc T.z_list rfl (ea_cons (ee_var 8) ea_nil)))))) (ea_cons (ee_var 5) ea_nil)))))))))))))
theorem ok_law_parts (T : Tx w K mg) : Ok P w K mg base 1 "_law_parts" 2 m_law_parts := by
  obtain ⟨f, fd, F, g⟩ := T.d_law_parts
  exact ⟨f, fd, ["_law_world", "_law_form"], g, F.kp, F.binds fun _ _ _ _ _ _ us hl => match us, hl with | [_, _], _ => rfl, fn_law_parts T F⟩
theorem fn_counts_why (T : Tx w K mg) {f : Addr} {fd : FuncData} (F : Fun K "counts_why" "counts_why" s_counts_why f fd) : FnOk P w K mg base (L2.CX P w) 1 f fd ["shapes", "statics", "functions"] (PF K mg 3 m_counts_why) := by
  have sc := sc_counts_why
  refine def_ok F sc_counts_why rfl (by decide) fun cdv A outer s H E hr tk po => ?_
  exact (eb_cons (es_if (EV2.t (ev_or (et_cmpw op_gt opw_cmp (EE.w (ee_len T.z_len rfl (eaw_cons (EE.w (ee_var 0)) eaw_nil))) (EE.w ee_int) (nomark _)) (ev_or (et_cmpw op_gt opw_cmp (EE.w (ee_len T.z_len rfl (eaw_cons (EE.w (ee_var 1)) eaw_nil))) (EE.w ee_int) (nomark _)) (ev_or1 (et_cmpw op_gt opw_cmp (EE.w (ee_len T.z_len rfl (eaw_cons (EE.w (ee_var 2)) eaw_nil))) (EE.w ee_int) (nomark _)))))) (eb_one (es_ret (EE.w ee_str))) eb_nil) (eb_cons (es_if (et_cmpw (or_eq hr.units) opw_eq (EE.w (ee_len T.z_len rfl (eaw_cons (EE.w (ee_var 2)) eaw_nil))) (EE.w ee_int) (nomark _)) (eb_one (es_ret (EE.w ee_str))) eb_nil) (eb_one (es_ret (EE.w ee_non)))))
theorem ok_counts_why (T : Tx w K mg) : Ok P w K mg base 1 "counts_why" 3 m_counts_why := by
  obtain ⟨f, fd, F, g⟩ := T.d_counts_why
  exact ⟨f, fd, ["shapes", "statics", "functions"], g, F.kp, F.binds fun _ _ _ _ _ _ us hl => match us, hl with | [_, _, _], _ => rfl, fn_counts_why T F⟩
theorem fn_is_name (T : Tx w K mg) {f : Addr} {fd : FuncData} (F : Fun K "is_name" "is_name" s_is_name f fd) : FnOk P w K mg base (L2.CX P w) 1 f fd ["text"] (PF K mg 1 m_is_name) := by
  obtain ⟨_, h_DIGITS⟩ := T.c_DIGITS
  obtain ⟨_, h_LETTERS⟩ := T.c_LETTERS
  have sc := sc_is_name
  refine def_ok F sc_is_name rfl (by decide) fun cdv A outer s H E hr tk po => ?_
  exact (eb_cons (es_if (EV2.t (ev_or (et_cmpw op_lt opw_cmp (EE.w (ee_len T.z_len rfl (eaw_cons (EE.w (ee_var 0)) eaw_nil))) (EE.w ee_int) (nomark _)) (ev_or (et_cmpw op_gt opw_cmp (EE.w (ee_len T.z_len rfl (eaw_cons (EE.w (ee_var 0)) eaw_nil))) (EE.w ee_int) (nomark _)) (ev_or1 (et_cmpw or_in opw_in (EE.w (ee_var 0)) (EE.w (ee_globT T.c_RESERVED rfl)) rfl))))) (eb_one (es_ret (EE.w ee_bl))) eb_nil) (eb_cons (es_for po rfl (ei_any (ee_var 0)) (eg_name (i := 1) sc.nd rfl (Or.inl rfl)) (eb_one (es_if (EV2.t (ev_and (et_cmpw or_notIn opw_notIn (EE.w (ee_var 1)) (EE.w (ee_globS h_LETTERS)) rfl) (ev_and1 (et_cmpw or_notIn opw_notIn (EE.w (ee_var 1)) (EE.w (ee_globS h_DIGITS)) rfl)))) (eb_one (es_ret (EE.w ee_bl))) eb_nil))) (eb_one (es_ret (EE.w (ee_cmpw or_in opw_in (EE.w (ee_ix (ee_var 0) ee_int)) (EE.w (ee_globS h_LETTERS)) rfl))))))
theorem ok_is_name (T : Tx w K mg) : Ok P w K mg base 1 "is_name" 1 m_is_name := by
  obtain ⟨f, fd, F, g⟩ := T.d_is_name
  exact ⟨f, fd, ["text"], g, F.kp, F.binds fun _ _ _ _ _ _ us hl => match us, hl with | [_], _ => rfl, fn_is_name T F⟩
theorem fn_name_why (T : Tx w K mg) {f : Addr} {fd : FuncData} (F : Fun K "name_why" "name_why" s_name_why f fd) : FnOk P w K mg base (L2.CX P w) 2 f fd ["rows", "number"] (PF K mg 2 m_name_why) := by
  have sc := sc_name_why
  refine def_ok F sc_name_why rfl (by decide) fun cdv A outer s H E hr tk po => ?_
  exact (eb_cons (es_if (et_not (et_val (ee_callO tk (ok_is_name T) hr (by decide) (ea_cons (ee_ix (ee_ix (ee_var 0) (ee_var 1)) ee_int) ea_nil) (al_cons al_nil)))) (eb_one (es_ret (EE.w ee_str))) eb_nil) (eb_cons (es_for po rfl (ei_any (ee_cut (ee_var 0) eo_none (eo_some (ee_var 1)))) (eg_name (i := 2) sc.nd rfl (Or.inl rfl)) (eb_one (es_if (et_cmpw (or_eq hr.units) opw_eq (EE.w (ee_ix (ee_var 2) ee_int)) (EE.w (ee_ix (ee_ix (ee_var 0) (ee_var 1)) ee_int)) (nomark _)) (eb_one (es_ret (EE.w ee_str))) eb_nil))) (eb_one (es_ret (EE.w ee_non)))))
theorem ok_name_why (T : Tx w K mg) : Ok P w K mg base 2 "name_why" 2 m_name_why := by
  obtain ⟨f, fd, F, g⟩ := T.d_name_why
  exact ⟨f, fd, ["rows", "number"], g, F.kp, F.binds fun _ _ _ _ _ _ us hl => match us, hl with | [_, _], _ => rfl, fn_name_why T F⟩
theorem fn_record_names_fit (T : Tx w K mg) {f : Addr} {fd : FuncData} (F : Fun K "record_names_fit" "record_names_fit" s_record_names_fit f fd) : FnOk P w K mg base (L2.CX P w) 2 f fd ["names"] (PF K mg 1 m_record_names_fit) := by
  have sc := sc_record_names_fit
  refine def_ok F sc_record_names_fit rfl (by decide) fun cdv A outer s H E hr tk po => ?_
  exact (eb_cons (es_if (et_cmpw op_gt opw_cmp (EE.w (ee_len T.z_len rfl (eaw_cons (EE.w (ee_var 0)) eaw_nil))) (EE.w ee_int) (nomark _)) (eb_one (es_ret (EE.w ee_bl))) eb_nil) (eb_cons (es_for po rfl (ei_range1 T.z_range rfl (ea_cons (ee_len T.z_len rfl (eaw_cons (EE.w (ee_var 0)) eaw_nil)) ea_nil) (al_cons al_nil)) (eg_name (i := 1) sc.nd rfl (Or.inl rfl)) (eb_one (es_if (EV2.t (ev_or (et_not (et_val (ee_callO tk (ok_is_name T) hr (by decide) (ea_cons (ee_ix (ee_var 0) (ee_var 1)) ea_nil) (al_cons al_nil)))) (ev_or1 (et_cmpw or_in opw_in (EE.w (ee_ix (ee_var 0) (ee_var 1))) (EE.w (ee_cut (ee_var 0) eo_none (eo_some (ee_var 1)))) rfl)))) (eb_one (es_ret (EE.w ee_bl))) eb_nil))) (eb_one (es_ret (EE.w ee_bl)))))
theorem ok_record_names_fit (T : Tx w K mg) : Ok P w K mg base 2 "record_names_fit" 1 m_record_names_fit := by
  obtain ⟨f, fd, F, g⟩ := T.d_record_names_fit
  exact ⟨f, fd, ["names"], g, F.kp, F.binds fun _ _ _ _ _ _ us hl => match us, hl with | [_], _ => rfl, fn_record_names_fit T F⟩
theorem fn_fields_fit (T : Tx w K mg) {f : Addr} {fd : FuncData} (F : Fun K "fields_fit" "fields_fit" s_fields_fit f fd) : FnOk P w K mg base (L2.CX P w) 3 f fd ["form", "names"] (PF K mg 2 m_fields_fit) := by
  have sc := sc_fields_fit
  refine def_ok F sc_fields_fit rfl (by decide) fun cdv A outer s H E hr tk po => ?_
  exact (eb_cons (es_if (et_cmpw (or_eq hr.units) opw_eq (EE.w (ee_var 0)) (EE.w ee_str) (nomark _)) (eb_one (es_ret (EE.w (ee_cmpw (or_eq hr.units) opw_eq (EE.w (ee_var 1)) (EE.w (EF.toE (ef_lst (ea_cons ee_str ea_nil)))) (nomark _))))) eb_nil) (eb_cons (es_if (et_cmpw (or_eq hr.units) opw_eq (EE.w (ee_var 0)) (EE.w ee_str) (nomark _)) (eb_one (es_ret (EE.w (ee_cmpw (or_eq hr.units) opw_eq (EE.w (ee_var 1)) (EE.w (EF.toE (ef_lst (ea_cons ee_str ea_nil)))) (nomark _))))) eb_nil) (eb_cons (es_if (et_cmpw (or_eq hr.units) opw_eq (EE.w (ee_var 0)) (EE.w ee_str) (nomark _)) (eb_one (es_ret (EE.w (ee_cmpw (or_eq hr.units) opw_eq (EE.w (ee_var 1)) (EE.w (EF.toE (ef_lst (ea_cons ee_str (ea_cons ee_str ea_nil))))) (nomark _))))) eb_nil) (eb_one (es_ret (EE.w (ee_callO tk (ok_record_names_fit T) hr (by decide) (ea_cons (ee_var 1) ea_nil) (al_cons al_nil))))))))
theorem ok_fields_fit (T : Tx w K mg) : Ok P w K mg base 3 "fields_fit" 2 m_fields_fit := by
  obtain ⟨f, fd, F, g⟩ := T.d_fields_fit
  exact ⟨f, fd, ["form", "names"], g, F.kp, F.binds fun _ _ _ _ _ _ us hl => match us, hl with | [_, _], _ => rfl, fn_fields_fit T F⟩
theorem fn_shape_why (T : Tx w K mg) {f : Addr} {fd : FuncData} (F : Fun K "shape_why" "shape_why" s_shape_why f fd) : FnOk P w K mg base (L2.CX P w) 4 f fd ["shapes", "number"] (PF K mg 2 m_shape_why) := by
  have sc := sc_shape_why
  refine def_ok F sc_shape_why rfl (by decide) fun cdv A outer s H E hr tk po => ?_
  exact (eb_cons (es_set (i := 2) (ee_callO tk (ok_name_why T) hr (by decide) (ea_cons (ee_var 0) (ea_cons (ee_var 1) ea_nil)) (al_cons (al_cons al_nil))) sc.nd rfl (Or.inl rfl)) (eb_cons (es_if (et_cmpw or_isNot opw_isNot (EE.w (ee_var 2)) (EE.w ee_non) rfl) (eb_one (es_ret (EE.w (ee_var 2)))) eb_nil) (eb_cons (es_set (i := 3) (ee_ix (ee_ix (ee_var 0) (ee_var 1)) ee_int) sc.nd rfl (Or.inl rfl)) (eb_cons (es_if (et_cmpw or_notIn opw_notIn (EE.w (ee_var 3)) (EE.w (ee_globT T.c_FORMS rfl)) rfl) (eb_one (es_ret (EE.w ee_str))) eb_nil) (eb_cons (es_if (et_not (et_val (ee_callO tk (ok_fields_fit T) hr (by decide) (ea_cons (ee_var 3) (ea_cons (EF.toE (ef_lc rfl sc.nd (ei_any (ee_ix (ee_ix (ee_var 0) (ee_var 1)) ee_int)) (blkOk_by (N := ["shapes", "number", "why", "form", "field"]) (sc := defScope s_shape_why) (own := [("field", 4)]) (by decide +kernel)) rfl (fun _ => (cg_name (i := 4) sc.nd rfl (by first | exact .inl rfl | exact .inr rfl) (by decide))) (fun _ => ec_nil) (fun _ => (ee_ix (ee_var 4) ee_int)))) ea_nil)) (al_cons (al_cons al_nil))))) (eb_one (es_ret (EE.w ee_str))) eb_nil) (eb_one (es_ret (EE.w ee_non))))))))
theorem ok_shape_why (T : Tx w K mg) : Ok P w K mg base 4 "shape_why" 2 m_shape_why := by
  obtain ⟨f, fd, F, g⟩ := T.d_shape_why
  exact ⟨f, fd, ["shapes", "number"], g, F.kp, F.binds fun _ _ _ _ _ _ us hl => match us, hl with | [_, _], _ => rfl, fn_shape_why T F⟩
theorem fn_is_kind (T : Tx w K mg) {f : Addr} {fd : FuncData} (F : Fun K "is_kind" "is_kind" s_is_kind f fd) : FnOk P w K mg base (L2.CX P w) 1 f fd ["shapes", "kind"] (PF K mg 2 m_is_kind) := by
  have sc := sc_is_kind
  refine def_ok F sc_is_kind rfl (by decide) fun cdv A outer s H E hr tk po => ?_
  exact (eb_one (es_ret (EE.w (ee_or (ee_cmpw (or_eq hr.units) opw_eq (EE.w (ee_var 1)) (EE.w ee_str) (nomark _)) (ee_one (ee_cmpw or_in opw_in (EE.w (ee_var 1)) (EE.w (EF.toE (ef_lc rfl sc.nd (ei_any (ee_var 0)) (blkOk_by (N := ["shapes", "kind", "shape"]) (sc := defScope s_is_kind) (own := [("shape", 2)]) (by decide +kernel)) rfl (fun _ => (cg_name (i := 2) sc.nd rfl (by first | exact .inl rfl | exact .inr rfl) (by decide))) (fun _ => ec_nil) (fun _ => (ee_ix (ee_var 2) ee_int))))) rfl))))))
theorem ok_is_kind (T : Tx w K mg) : Ok P w K mg base 1 "is_kind" 2 m_is_kind := by
  obtain ⟨f, fd, F, g⟩ := T.d_is_kind
  exact ⟨f, fd, ["shapes", "kind"], g, F.kp, F.binds fun _ _ _ _ _ _ us hl => match us, hl with | [_, _], _ => rfl, fn_is_kind T F⟩
theorem fn_kinds_why (T : Tx w K mg) {f : Addr} {fd : FuncData} (F : Fun K "kinds_why" "kinds_why" s_kinds_why f fd) : FnOk P w K mg base (L2.CX P w) 2 f fd ["shapes", "number"] (PF K mg 2 m_kinds_why) := by
  have sc := sc_kinds_why
  refine def_ok F sc_kinds_why rfl (by decide) fun cdv A outer s H E hr tk po => ?_
  exact (eb_cons (es_set (i := 2) (ee_ix (ee_ix (ee_var 0) (ee_var 1)) ee_int) sc.nd rfl (Or.inl rfl)) (eb_cons (es_for po rfl (ei_any (ee_var 2)) (eg_name (i := 3) sc.nd rfl (Or.inl rfl)) (eb_one (es_if (et_not (et_val (ee_callO tk (ok_is_kind T) hr (by decide) (ea_cons (ee_var 0) (ea_cons (ee_ix (ee_var 3) ee_int) ea_nil)) (al_cons (al_cons al_nil))))) (eb_one (es_ret (EE.w ee_str))) eb_nil))) (eb_cons (es_if (EV2.t (ev_and (et_cmpw or_in opw_in (EE.w (ee_ix (ee_ix (ee_var 0) (ee_var 1)) ee_int)) (EE.w (ee_tup (ea_cons ee_str (ea_cons ee_str ea_nil)))) rfl) (ev_and1 (et_cmpw (or_eq hr.units) opw_eq (EE.w (ee_ix (ee_ix (ee_var 2) ee_int) ee_int)) (EE.w ee_str) (nomark _))))) (eb_one (es_ret (EE.w ee_str))) eb_nil) (eb_one (es_ret (EE.w ee_non))))))
theorem ok_kinds_why (T : Tx w K mg) : Ok P w K mg base 2 "kinds_why" 2 m_kinds_why := by
  obtain ⟨f, fd, F, g⟩ := T.d_kinds_why
  exact ⟨f, fd, ["shapes", "number"], g, F.kp, F.binds fun _ _ _ _ _ _ us hl => match us, hl with | [_, _], _ => rfl, fn_kinds_why T F⟩
theorem fn_look_at_shapes (T : Tx w K mg) {f : Addr} {fd : FuncData} (F : Fun K "look_at_shapes" "look_at_shapes" s_look_at_shapes f fd) : FnOk P w K mg base (L2.CX P w) 5 f fd ["shapes"] (PF K mg 1 m_look_at_shapes) := by
  have sc := sc_look_at_shapes
  refine def_ok F sc_look_at_shapes rfl (by decide) fun cdv A outer s H E hr tk po => ?_
  exact (eb_cons (es_for po rfl (ei_range1 T.z_range rfl (ea_cons (ee_len T.z_len rfl (eaw_cons (EE.w (ee_var 0)) eaw_nil)) ea_nil) (al_cons al_nil)) (eg_name (i := 1) sc.nd rfl (Or.inl rfl)) (eb_cons (es_set (i := 2) (ee_callO tk (ok_shape_why T) hr (by decide) (ea_cons (ee_var 0) (ea_cons (ee_var 1) ea_nil)) (al_cons (al_cons al_nil))) sc.nd rfl (Or.inl rfl)) (eb_one (es_if (et_cmpw or_isNot opw_isNot (EE.w (ee_var 2)) (EE.w ee_non) rfl) (eb_one (es_raise rfl tk (xc_BadProgram T) hr (by decide) (ea_cons ee_str (ea_cons (ee_var 1) (ea_cons (ee_neg ee_int) (ea_cons (ee_var 2) ea_nil)))) (al_cons (al_cons (al_cons (al_cons al_nil)))))) eb_nil)))) (eb_one (es_for po rfl (ei_range1 T.z_range rfl (ea_cons (ee_len T.z_len rfl (eaw_cons (EE.w (ee_var 0)) eaw_nil)) ea_nil) (al_cons al_nil)) (eg_name (i := 1) sc.nd rfl (Or.inl rfl)) (eb_cons (es_set (i := 2) (ee_callO tk (ok_kinds_why T) hr (by decide) (ea_cons (ee_var 0) (ea_cons (ee_var 1) ea_nil)) (al_cons (al_cons al_nil))) sc.nd rfl (Or.inl rfl)) (eb_one (es_if (et_cmpw or_isNot opw_isNot (EE.w (ee_var 2)) (EE.w ee_non) rfl) (eb_one (es_raise rfl tk (xc_BadProgram T) hr (by decide) (ea_cons ee_str (ea_cons (ee_var 1) (ea_cons (ee_neg ee_int) (ea_cons (ee_var 2) ea_nil)))) (al_cons (al_cons (al_cons (al_cons al_nil)))))) eb_nil))))))
theorem ok_look_at_shapes (T : Tx w K mg) : Ok P w K mg base 5 "look_at_shapes" 1 m_look_at_shapes := by
  obtain ⟨f, fd, F, g⟩ := T.d_look_at_shapes
  exact ⟨f, fd, ["shapes"], g, F.kp, F.binds fun _ _ _ _ _ _ us hl => match us, hl with | [_], _ => rfl, fn_look_at_shapes T F⟩
theorem fn_static_why (T : Tx w K mg) {f : Addr} {fd : FuncData} (F : Fun K "static_why" "static_why" s_static_why f fd) : FnOk P w K mg base (L2.CX P w) 3 f fd ["shapes", "statics", "number"] (PF K mg 3 m_static_why) := by
  have sc := sc_static_why
  refine def_ok F sc_static_why rfl (by decide) fun cdv A outer s H E hr tk po => ?_
  exact (eb_cons (es_set (i := 3) (ee_callO tk (ok_name_why T) hr (by decide) (ea_cons (ee_var 1) (ea_cons (ee_var 2) ea_nil)) (al_cons (al_cons al_nil))) sc.nd rfl (Or.inl rfl)) (eb_cons (es_if (et_cmpw or_isNot opw_isNot (EE.w (ee_var 3)) (EE.w ee_non) rfl) (eb_one (es_ret (EE.w (ee_var 3)))) eb_nil) (eb_cons (es_if (et_not (et_val (ee_callO tk (ok_is_kind T) hr (by decide) (ea_cons (ee_var 0) (ea_cons (ee_ix (ee_ix (ee_var 1) (ee_var 2)) ee_int) ea_nil)) (al_cons (al_cons al_nil))))) (eb_one (es_ret (EE.w ee_str))) eb_nil) (eb_one (es_ret (EE.w ee_non))))))
theorem ok_static_why (T : Tx w K mg) : Ok P w K mg base 3 "static_why" 3 m_static_why := by
  obtain ⟨f, fd, F, g⟩ := T.d_static_why
  exact ⟨f, fd, ["shapes", "statics", "number"], g, F.kp, F.binds fun _ _ _ _ _ _ us hl => match us, hl with | [_, _, _], _ => rfl, fn_static_why T F⟩
theorem fn_look_at_statics (T : Tx w K mg) {f : Addr} {fd : FuncData} (F : Fun K "look_at_statics" "look_at_statics" s_look_at_statics f fd) : FnOk P w K mg base (L2.CX P w) 4 f fd ["shapes", "statics"] (PF K mg 2 m_look_at_statics) := by
  have sc := sc_look_at_statics
  refine def_ok F sc_look_at_statics rfl (by decide) fun cdv A outer s H E hr tk po => ?_
  exact (eb_one (es_for po rfl (ei_range1 T.z_range rfl (ea_cons (ee_len T.z_len rfl (eaw_cons (EE.w (ee_var 1)) eaw_nil)) ea_nil) (al_cons al_nil)) (eg_name (i := 2) sc.nd rfl (Or.inl rfl)) (eb_cons (es_set (i := 3) (ee_callO tk (ok_static_why T) hr (by decide) (ea_cons (ee_var 0) (ea_cons (ee_var 1) (ea_cons (ee_var 2) ea_nil))) (al_cons (al_cons (al_cons al_nil)))) sc.nd rfl (Or.inl rfl)) (eb_one (es_if (et_cmpw or_isNot opw_isNot (EE.w (ee_var 3)) (EE.w ee_non) rfl) (eb_one (es_raise rfl tk (xc_BadProgram T) hr (by decide) (ea_cons ee_str (ea_cons (ee_var 2) (ea_cons (ee_neg ee_int) (ea_cons (ee_var 3) ea_nil)))) (al_cons (al_cons (al_cons (al_cons al_nil)))))) eb_nil)))))
theorem ok_look_at_statics (T : Tx w K mg) : Ok P w K mg base 4 "look_at_statics" 2 m_look_at_statics := by
  obtain ⟨f, fd, F, g⟩ := T.d_look_at_statics
  exact ⟨f, fd, ["shapes", "statics"], g, F.kp, F.binds fun _ _ _ _ _ _ us hl => match us, hl with | [_, _], _ => rfl, fn_look_at_statics T F⟩
theorem fn_entry_fits (T : Tx w K mg) {f : Addr} {fd : FuncData} (F : Fun K "entry_fits" "entry_fits" s_entry_fits f fd) : FnOk P w K mg base (L2.CX P w) 1 f fd ["params", "result"] (PF K mg 2 m_entry_fits) := by
  have sc := sc_entry_fits
  refine def_ok F sc_entry_fits rfl (by decide) fun cdv A outer s H E hr tk po => ?_
  exact (eb_cons (es_for po rfl (ei_any (ee_var 0)) (eg_name (i := 2) sc.nd rfl (Or.inl rfl)) (eb_one (es_if (et_cmpw (or_ne hr.units) opw_ne (EE.w (ee_var 2)) (EE.w ee_str) (nomark _)) (eb_one (es_ret (EE.w ee_bl))) eb_nil))) (eb_one (es_ret (EE.w (ee_cmpw or_is opw_is (EE.w (ee_var 1)) (EE.w ee_non) rfl)))))
theorem ok_entry_fits (T : Tx w K mg) : Ok P w K mg base 1 "entry_fits" 2 m_entry_fits := by
  obtain ⟨f, fd, F, g⟩ := T.d_entry_fits
  exact ⟨f, fd, ["params", "result"], g, F.kp, F.binds fun _ _ _ _ _ _ us hl => match us, hl with | [_, _], _ => rfl, fn_entry_fits T F⟩
theorem fn_function_why (T : Tx w K mg) {f : Addr} {fd : FuncData} (F : Fun K "function_why" "function_why" s_function_why f fd) : FnOk P w K mg base (L2.CX P w) 3 f fd ["shapes", "functions", "number"] (PF K mg 3 m_function_why) := by
  have sc := sc_function_why
  refine def_ok F sc_function_why rfl (by decide) fun cdv A outer s H E hr tk po => ?_
  exact (eb_cons (es_set (i := 3) (ee_callO tk (ok_name_why T) hr (by decide) (ea_cons (ee_var 1) (ea_cons (ee_var 2) ea_nil)) (al_cons (al_cons al_nil))) sc.nd rfl (Or.inl rfl)) (eb_cons (es_if (et_cmpw or_isNot opw_isNot (EE.w (ee_var 3)) (EE.w ee_non) rfl) (eb_one (es_ret (EE.w (ee_var 3)))) eb_nil) (eb_cons (es_set (i := 4) (ee_ix (ee_ix (ee_var 1) (ee_var 2)) ee_int) sc.nd rfl (Or.inl rfl)) (eb_cons (es_set (i := 5) (ee_ix (ee_ix (ee_var 1) (ee_var 2)) ee_int) sc.nd rfl (Or.inl rfl)) (eb_cons (es_set (i := 6) (ee_ix (ee_ix (ee_var 1) (ee_var 2)) ee_int) sc.nd rfl (Or.inl rfl)) (eb_cons (es_for po rfl (ei_any (ee_var 4)) (eg_name (i := 7) sc.nd rfl (Or.inl rfl)) (eb_one (es_if (et_not (et_val (ee_callO tk (ok_is_kind T) hr (by decide) (ea_cons (ee_var 0) (ea_cons (ee_var 7) ea_nil)) (al_cons (al_cons al_nil))))) (eb_one (es_ret (EE.w ee_str))) eb_nil))) (eb_cons (es_if (EV2.t (ev_and (et_cmpw or_isNot opw_isNot (EE.w (ee_var 5)) (EE.w ee_non) rfl) (ev_and1 (et_not (et_val (ee_callO tk (ok_is_kind T) hr (by decide) (ea_cons (ee_var 0) (ea_cons (ee_var 5) ea_nil)) (al_cons (al_cons al_nil)))))))) (eb_one (es_ret (EE.w ee_str))) eb_nil) (eb_cons (es_if (EV2.t (ev_or (et_cmpw op_gt opw_cmp (EE.w (ee_len T.z_len rfl (eaw_cons (EE.w (ee_var 4)) eaw_nil))) (EE.w ee_int) (nomark _)) (ev_or (et_cmpw op_lt opw_cmp (EE.w (ee_var 6)) (EE.w (ee_len T.z_len rfl (eaw_cons (EE.w (ee_var 4)) eaw_nil))) (nomark _)) (ev_or1 (et_cmpw op_gt opw_cmp (EE.w (ee_var 6)) (EE.w ee_int) (nomark _)))))) (eb_one (es_ret (EE.w ee_str))) eb_nil) (eb_cons (es_if (EV2.t (ev_and (et_cmpw (or_eq hr.units) opw_eq (EE.w (ee_var 2)) (EE.w ee_int) (nomark _)) (ev_and1 (et_not (et_val (ee_callO tk (ok_entry_fits T) hr (by decide) (ea_cons (ee_var 4) (ea_cons (ee_var 5) ea_nil)) (al_cons (al_cons al_nil)))))))) (eb_one (es_ret (EE.w ee_str))) eb_nil) (eb_cons (es_if (EV2.t (ev_or (et_cmpw op_lt opw_cmp (EE.w (ee_len T.z_len rfl (eaw_cons (EE.w (ee_ix (ee_ix (ee_var 1) (ee_var 2)) ee_int)) eaw_nil))) (EE.w ee_int) (nomark _)) (ev_or1 (et_cmpw op_gt opw_cmp (EE.w (ee_len T.z_len rfl (eaw_cons (EE.w (ee_ix (ee_ix (ee_var 1) (ee_var 2)) ee_int)) eaw_nil))) (EE.w ee_int) (nomark _))))) (eb_one (es_ret (EE.w ee_str))) eb_nil) (eb_one (es_ret (EE.w ee_non)))))))))))))
theorem ok_function_why (T : Tx w K mg) : Ok P w K mg base 3 "function_why" 3 m_function_why := by
  obtain ⟨f, fd, F, g⟩ := T.d_function_why
  exact ⟨f, fd, ["shapes", "functions", "number"], g, F.kp, F.binds fun _ _ _ _ _ _ us hl => match us, hl with | [_, _, _], _ => rfl, fn_function_why T F⟩
theorem fn_look_at_functions (T : Tx w K mg) {f : Addr} {fd : FuncData} (F : Fun K "look_at_functions" "look_at_functions" s_look_at_functions f fd) : FnOk P w K mg base (L2.CX P w) 4 f fd ["shapes", "functions"] (PF K mg 2 m_look_at_functions) := by
  have sc := sc_look_at_functions
  refine def_ok F sc_look_at_functions rfl (by decide) fun cdv A outer s H E hr tk po => ?_
  exact (eb_one (es_for po rfl (ei_range1 T.z_range rfl (ea_cons (ee_len T.z_len rfl (eaw_cons (EE.w (ee_var 1)) eaw_nil)) ea_nil) (al_cons al_nil)) (eg_name (i := 2) sc.nd rfl (Or.inl rfl)) (eb_cons (es_set (i := 3) (ee_callO tk (ok_function_why T) hr (by decide) (ea_cons (ee_var 0) (ea_cons (ee_var 1) (ea_cons (ee_var 2) ea_nil))) (al_cons (al_cons (al_cons al_nil)))) sc.nd rfl (Or.inl rfl)) (eb_one (es_if (et_cmpw or_isNot opw_isNot (EE.w (ee_var 3)) (EE.w ee_non) rfl) (eb_one (es_raise rfl tk (xc_BadProgram T) hr (by decide) (ea_cons ee_str (ea_cons (ee_var 2) (ea_cons (ee_neg ee_int) (ea_cons (ee_var 3) ea_nil)))) (al_cons (al_cons (al_cons (al_cons al_nil)))))) eb_nil)))))
theorem ok_look_at_functions (T : Tx w K mg) : Ok P w K mg base 4 "look_at_functions" 2 m_look_at_functions := by
  obtain ⟨f, fd, F, g⟩ := T.d_look_at_functions
  exact ⟨f, fd, ["shapes", "functions"], g, F.kp, F.binds fun _ _ _ _ _ _ us hl => match us, hl with | [_, _], _ => rfl, fn_look_at_functions T F⟩
theorem fn_integer_fits (T : Tx w K mg) {f : Addr} {fd : FuncData} (F : Fun K "integer_fits" "integer_fits" s_integer_fits f fd) : FnOk P w K mg base (L2.CX P w) 1 f fd ["function", "sort", "operand"] (PF K mg 3 m_integer_fits) := by
  obtain ⟨_, h_MIN_NUMBER⟩ := T.c_MIN_NUMBER
  obtain ⟨_, h_MAX_NUMBER⟩ := T.c_MAX_NUMBER
  have sc := sc_integer_fits
  refine def_ok F sc_integer_fits rfl (by decide) fun cdv A outer s H E hr tk po => ?_
  exact (eb_cons (es_if (et_cmpw (or_eq hr.units) opw_eq (EE.w (ee_var 1)) (EE.w ee_str) (nomark _)) (eb_one (es_ret (EE.w (ee_chain op_le opw_cmp op_le opw_cmp (ee_globI h_MIN_NUMBER) (ee_var 2) (ee_globI h_MAX_NUMBER))))) eb_nil) (eb_cons (es_if (et_cmpw (or_eq hr.units) opw_eq (EE.w (ee_var 1)) (EE.w ee_str) (nomark _)) (eb_one (es_ret (EE.w (ee_chain op_le opw_cmp op_lt opw_cmp ee_int (ee_var 2) (ee_ix (ee_var 0) ee_int))))) eb_nil) (eb_one (es_ret (EE.w (ee_chain op_le opw_cmp op_lt opw_cmp ee_int (ee_var 2) (ee_len T.z_len rfl (eaw_cons (EE.w (ee_ix (ee_var 0) ee_int)) eaw_nil))))))))
theorem ok_integer_fits (T : Tx w K mg) : Ok P w K mg base 1 "integer_fits" 3 m_integer_fits := by
  obtain ⟨f, fd, F, g⟩ := T.d_integer_fits
  exact ⟨f, fd, ["function", "sort", "operand"], g, F.kp, F.binds fun _ _ _ _ _ _ us hl => match us, hl with | [_, _, _], _ => rfl, fn_integer_fits T F⟩
theorem fn_is_integer (T : Tx w K mg) {f : Addr} {fd : FuncData} (F : Fun K "is_integer" "is_integer" s_is_integer f fd) : FnOk P w K mg base (L2.CX P w) 1 f fd ["worth"] (PF K mg 1 m_is_integer) := by
  have sc := sc_is_integer
  refine def_ok F sc_is_integer rfl (by decide) fun cdv A outer s H E hr tk po => ?_
  exact (eb_one (es_ret (EE.w (ee_and (ee_isi T.z_isinstance rfl T.z_int rfl boot_int kit_int (EE.w (ee_var 0))) (ee_one (ee_not (ee_isi T.z_isinstance rfl T.z_bool rfl boot_bool kit_bool (EE.w (ee_var 0)))))))))
theorem ok_is_integer (T : Tx w K mg) : Ok P w K mg base 1 "is_integer" 1 m_is_integer := by
  obtain ⟨f, fd, F, g⟩ := T.d_is_integer
  exact ⟨f, fd, ["worth"], g, F.kp, F.binds fun _ _ _ _ _ _ us hl => match us, hl with | [_], _ => rfl, fn_is_integer T F⟩
theorem fn_field_names (T : Tx w K mg) {f : Addr} {fd : FuncData} (F : Fun K "field_names" "field_names" s_field_names f fd) : FnOk P w K mg base (L2.CX P w) 1 f fd ["shapes", "name"] (PF K mg 2 m_field_names) := by
  have sc := sc_field_names
  refine def_ok F sc_field_names rfl (by decide) fun cdv A outer s H E hr tk po => ?_
  exact (eb_cons (es_for po rfl (ei_any (ee_var 0)) (eg_name (i := 2) sc.nd rfl (Or.inl rfl)) (eb_one (es_if (et_cmpw (or_eq hr.units) opw_eq (EE.w (ee_ix (ee_var 2) ee_int)) (EE.w (ee_var 1)) (nomark _)) (eb_one (es_ret (EE.w (EF.toE (ef_lc rfl sc.nd (ei_any (ee_ix (ee_var 2) ee_int)) (blkOk_by (N := ["shapes", "name", "shape", "field"]) (sc := defScope s_field_names) (own := [("field", 3)]) (by decide +kernel)) rfl (fun _ => (cg_name (i := 3) sc.nd rfl (by first | exact .inl rfl | exact .inr rfl) (by decide))) (fun _ => ec_nil) (fun _ => (ee_ix (ee_var 3) ee_int))))))) eb_nil))) (eb_one (es_ret (EE.w (EF.toE (ef_lst ea_nil))))))
theorem ok_field_names (T : Tx w K mg) : Ok P w K mg base 1 "field_names" 2 m_field_names := by
  obtain ⟨f, fd, F, g⟩ := T.d_field_names
  exact ⟨f, fd, ["shapes", "name"], g, F.kp, F.binds fun _ _ _ _ _ _ us hl => match us, hl with | [_, _], _ => rfl, fn_field_names T F⟩
theorem fn_form_of (T : Tx w K mg) {f : Addr} {fd : FuncData} (F : Fun K "form_of" "form_of" s_form_of f fd) : FnOk P w K mg base (L2.CX P w) 1 f fd ["shapes", "name"] (PF K mg 2 m_form_of) := by
  have sc := sc_form_of
  refine def_ok F sc_form_of rfl (by decide) fun cdv A outer s H E hr tk po => ?_
  exact (eb_cons (es_for po rfl (ei_any (ee_var 0)) (eg_name (i := 2) sc.nd rfl (Or.inl rfl)) (eb_one (es_if (et_cmpw (or_eq hr.units) opw_eq (EE.w (ee_ix (ee_var 2) ee_int)) (EE.w (ee_var 1)) (nomark _)) (eb_one (es_ret (EE.w (ee_ix (ee_var 2) ee_int)))) eb_nil))) (eb_one (es_ret (EE.w ee_non))))
theorem ok_form_of (T : Tx w K mg) : Ok P w K mg base 1 "form_of" 2 m_form_of := by
  obtain ⟨f, fd, F, g⟩ := T.d_form_of
  exact ⟨f, fd, ["shapes", "name"], g, F.kp, F.binds fun _ _ _ _ _ _ us hl => match us, hl with | [_, _], _ => rfl, fn_form_of T F⟩
theorem fn_name_fits (T : Tx w K mg) {f : Addr} {fd : FuncData} (F : Fun K "name_fits" "name_fits" s_name_fits f fd) : FnOk P w K mg base (L2.CX P w) 2 f fd ["parts", "sort", "operand", "before"] (PF K mg 4 m_name_fits) := by
  have sc := sc_name_fits
  refine def_ok F sc_name_fits rfl (by decide) fun cdv A outer s H E hr tk po => ?_
  exact (eb_cons (es_asgT (ee_var 0) (eg_tup rfl (egs_cons (eg_name (i := 4) sc.nd rfl (Or.inl rfl)) (egs_cons (eg_name (i := 5) sc.nd rfl (Or.inl rfl)) (egs_cons (eg_name (i := 6) sc.nd rfl (Or.inl rfl)) egs_nil))))) (eb_cons (es_if (et_cmpw (or_eq hr.units) opw_eq (EE.w (ee_var 1)) (EE.w ee_str) (nomark _)) (eb_one (es_ret (EE.w (ee_cmpw or_in opw_in (EE.w (ee_var 2)) (EE.w (EF.toE (ef_lc rfl sc.nd (ei_any (ee_var 5)) (blkOk_by (N := ["parts", "sort", "operand", "before", "shapes", "statics", "functions", "static", "one", "form"]) (sc := defScope s_name_fits) (own := [("static", 7)]) (by decide +kernel)) rfl (fun _ => (cg_name (i := 7) sc.nd rfl (by first | exact .inl rfl | exact .inr rfl) (by decide))) (fun _ => ec_nil) (fun _ => (ee_ix (ee_var 7) ee_int))))) rfl)))) eb_nil) (eb_cons (es_if (et_cmpw (or_eq hr.units) opw_eq (EE.w (ee_var 1)) (EE.w ee_str) (nomark _)) (eb_one (es_ret (EE.w (ee_cmpw or_in opw_in (EE.w (ee_var 2)) (EE.w (EF.toE (ef_lc rfl sc.nd (ei_any (ee_var 6)) (blkOk_by (N := ["parts", "sort", "operand", "before", "shapes", "statics", "functions", "static", "one", "form"]) (sc := defScope s_name_fits) (own := [("one", 8)]) (by decide +kernel)) rfl (fun _ => (cg_name (i := 8) sc.nd rfl (by first | exact .inl rfl | exact .inr rfl) (by decide))) (fun _ => ec_nil) (fun _ => (ee_ix (ee_var 8) ee_int))))) rfl)))) eb_nil) (eb_cons (es_if (et_cmpw (or_eq hr.units) opw_eq (EE.w (ee_var 1)) (EE.w ee_str) (nomark _)) (eb_one (es_ret (EE.w (ee_cmpw or_in opw_in (EE.w (ee_var 2)) (EE.w (ee_callO tk (ok_field_names T) hr (by decide) (ea_cons (ee_var 4) (ea_cons (ee_var 3) ea_nil)) (al_cons (al_cons al_nil)))) rfl)))) eb_nil) (eb_cons (es_set (i := 9) (ee_callO tk (ok_form_of T) hr (by decide) (ea_cons (ee_var 4) (ea_cons (ee_var 2) ea_nil)) (al_cons (al_cons al_nil))) sc.nd rfl (Or.inl rfl)) (eb_one (es_ret (EE.w (ee_and (ee_cmpw or_isNot opw_isNot (EE.w (ee_var 9)) (EE.w ee_non) rfl) (ee_one (ee_cmpw or_in opw_in (EE.w (ee_var 1)) (EE.w (ee_tup (ea_cons ee_str (ea_cons (ee_var 9) ea_nil)))) rfl)))))))))))
theorem ok_name_fits (T : Tx w K mg) : Ok P w K mg base 2 "name_fits" 4 m_name_fits := by
  obtain ⟨f, fd, F, g⟩ := T.d_name_fits
  exact ⟨f, fd, ["parts", "sort", "operand", "before"], g, F.kp, F.binds fun _ _ _ _ _ _ us hl => match us, hl with | [_, _, _, _], _ => rfl, fn_name_fits T F⟩
theorem fn_operand_fits (T : Tx w K mg) {f : Addr} {fd : FuncData} (F : Fun K "operand_fits" "operand_fits" s_operand_fits f fd) : FnOk P w K mg base (L2.CX P w) 3 f fd ["parts", "function", "sort", "operand", "before"] (PF K mg 5 m_operand_fits) := by
  have sc := sc_operand_fits
  refine def_ok F sc_operand_fits rfl (by decide) fun cdv A outer s H E hr tk po => ?_
  exact (eb_cons (es_if (et_cmpw or_in opw_in (EE.w (ee_var 2)) (EE.w (ee_tup (ea_cons ee_str (ea_cons ee_str (ea_cons ee_str ea_nil))))) rfl) (eb_one (es_ret (EE.w (ee_and (ee_callO tk (ok_is_integer T) hr (by decide) (ea_cons (ee_var 3) ea_nil) (al_cons al_nil)) (ee_one (ee_callO tk (ok_integer_fits T) hr (by decide) (ea_cons (ee_var 1) (ea_cons (ee_var 2) (ea_cons (ee_var 3) ea_nil))) (al_cons (al_cons (al_cons al_nil))))))))) eb_nil) (eb_one (es_ret (EE.w (ee_and (ee_isi T.z_isinstance rfl T.z_str rfl boot_str kit_str (EE.w (ee_var 3))) (ee_one (ee_callO tk (ok_name_fits T) hr (by decide) (ea_cons (ee_var 0) (ea_cons (ee_var 2) (ea_cons (ee_var 3) (ea_cons (ee_var 4) ea_nil)))) (al_cons (al_cons (al_cons (al_cons al_nil)))))))))))
theorem ok_operand_fits (T : Tx w K mg) : Ok P w K mg base 3 "operand_fits" 5 m_operand_fits := by
  obtain ⟨f, fd, F, g⟩ := T.d_operand_fits
  exact ⟨f, fd, ["parts", "function", "sort", "operand", "before"], g, F.kp, F.binds fun _ _ _ _ _ _ us hl => match us, hl with | [_, _, _, _, _], _ => rfl, fn_operand_fits T F⟩
theorem fn_instruction_why (T : Tx w K mg) {f : Addr} {fd : FuncData} (F : Fun K "instruction_why" "instruction_why" s_instruction_why f fd) : FnOk P w K mg base (L2.CX P w) 4 f fd ["parts", "function", "instruction"] (PF K mg 3 m_instruction_why) := by
  have sc := sc_instruction_why
  refine def_ok F sc_instruction_why rfl (by decide) fun cdv A outer s H E hr tk po => ?_
  exact (eb_cons (es_if (EV2.t (ev_or (et_cmpw (or_eq hr.units) opw_eq (EE.w (ee_len T.z_len rfl (eaw_cons (EE.w (ee_var 2)) eaw_nil))) (EE.w ee_int) (nomark _)) (ev_or1 (et_cmpw or_notIn opw_notIn (EE.w (ee_ix (ee_var 2) ee_int)) (EE.w (ee_globT T.c_OPERATIONS rfl)) rfl)))) (eb_one (es_ret (EE.w ee_str))) eb_nil) (eb_cons (es_set (i := 3) (ee_kd T.c_OPERANDS (ee_ix (ee_var 2) ee_int)) sc.nd rfl (Or.inl rfl)) (eb_cons (es_if (et_cmpw (or_ne hr.units) opw_ne (EE.w (ee_len T.z_len rfl (eaw_cons (EE.w (ee_var 2)) eaw_nil))) (EE.w (ee_add (ee_len T.z_len rfl (eaw_cons (EE.w (ee_var 3)) eaw_nil)) ee_int)) (nomark _)) (eb_one (es_ret (EE.w ee_str))) eb_nil) (eb_cons (es_for po rfl (ei_range1 T.z_range rfl (ea_cons (ee_len T.z_len rfl (eaw_cons (EE.w (ee_var 3)) eaw_nil)) ea_nil) (al_cons al_nil)) (eg_name (i := 4) sc.nd rfl (Or.inl rfl)) (eb_one (es_if (et_not (et_val (ee_callO tk (ok_operand_fits T) hr (by decide) (ea_cons (ee_var 0) (ea_cons (ee_var 1) (ea_cons (ee_ix (ee_var 3) (ee_var 4)) (ea_cons (ee_ix (ee_var 2) (ee_add (ee_var 4) ee_int)) (ea_cons (ee_ix (ee_var 2) (ee_var 4)) ea_nil))))) (al_cons (al_cons (al_cons (al_cons (al_cons al_nil)))))))) (eb_one (es_ret (EE.w ee_str))) eb_nil))) (eb_one (es_ret (EE.w ee_non)))))))
theorem ok_instruction_why (T : Tx w K mg) : Ok P w K mg base 4 "instruction_why" 3 m_instruction_why := by
  obtain ⟨f, fd, F, g⟩ := T.d_instruction_why
  exact ⟨f, fd, ["parts", "function", "instruction"], g, F.kp, F.binds fun _ _ _ _ _ _ us hl => match us, hl with | [_, _, _], _ => rfl, fn_instruction_why T F⟩
theorem fn_look_at_bodies (T : Tx w K mg) {f : Addr} {fd : FuncData} (F : Fun K "look_at_bodies" "look_at_bodies" s_look_at_bodies f fd) : FnOk P w K mg base (L2.CX P w) 5 f fd ["shapes", "statics", "functions"] (PF K mg 3 m_look_at_bodies) := by
  have sc := sc_look_at_bodies
  refine def_ok F sc_look_at_bodies rfl (by decide) fun cdv A outer s H E hr tk po => ?_
  exact (eb_one (es_for po rfl (ei_range1 T.z_range rfl (ea_cons (ee_len T.z_len rfl (eaw_cons (EE.w (ee_var 2)) eaw_nil)) ea_nil) (al_cons al_nil)) (eg_name (i := 3) sc.nd rfl (Or.inl rfl)) (eb_cons (es_set (i := 4) (ee_ix (ee_ix (ee_var 2) (ee_var 3)) ee_int) sc.nd rfl (Or.inl rfl)) (eb_one (es_for po rfl (ei_range1 T.z_range rfl (ea_cons (ee_len T.z_len rfl (eaw_cons (EE.w (ee_var 4)) eaw_nil)) ea_nil) (al_cons al_nil)) (eg_name (i := 5) sc.nd rfl (Or.inl rfl)) (eb_cons (es_set (i := 6) (ee_callO tk (ok_instruction_why T) hr (by decide) (ea_cons (ee_tup (ea_cons (ee_var 0) (ea_cons (ee_var 1) (ea_cons (ee_var 2) ea_nil)))) (ea_cons (ee_ix (ee_var 2) (ee_var 3)) (ea_cons (ee_ix (ee_var 4) (ee_var 5)) ea_nil))) (al_cons (al_cons (al_cons al_nil)))) sc.nd rfl (Or.inl rfl)) (eb_one (es_if (et_cmpw or_isNot opw_isNot (EE.w (ee_var 6)) (EE.w ee_non) rfl) (eb_one (es_raise rfl tk (xc_BadProgram T) hr (by decide) (ea_cons ee_str (ea_cons (ee_var 3) (ea_cons (ee_var 5) (ea_cons (ee_var 6) ea_nil)))) (al_cons (al_cons (al_cons (al_cons al_nil)))))) eb_nil))))))))
theorem ok_look_at_bodies (T : Tx w K mg) : Ok P w K mg base 5 "look_at_bodies" 3 m_look_at_bodies := by
  obtain ⟨f, fd, F, g⟩ := T.d_look_at_bodies
  exact ⟨f, fd, ["shapes", "statics", "functions"], g, F.kp, F.binds fun _ _ _ _ _ _ us hl => match us, hl with | [_, _, _], _ => rfl, fn_look_at_bodies T F⟩
theorem cl_Function (T : Tx w K mg) : ClsT P w K mg base 1 "Function" ["name", "params", "result", "slots", "body"] 5 mi_Function := by
  have sc := sc_Function___init__
  refine cls_mk T.k_Function (fun F => F.binds fun _ _ _ _ _ _ us hl => match us, hl with | [_, _, _, _, _, _], _ => rfl) fun F => init_okC F sc_Function___init__ rfl rfl (by decide) (by decide) (by decide) fun cdv A outer s H E hr tk po => ?_
  exact (ic_cons (W := W0) (ee_var 1) (ic_cons (W := W0) (ee_tupc T.z_tuple rfl (ea_cons (ee_var 2) ea_nil)) (ic_cons (W := W0) (ee_var 3) (ic_cons (W := W0) (ee_var 4) (ic_cons (W := W0) (ee_tupc T.z_tuple rfl (ea_cons (EF.toE (ef_lc rfl sc.nd (ei_any (ee_var 5)) (blkOk_by (N := ["self", "name", "params", "result", "slots", "body", "instruction"]) (sc := defScope clsS_Function_0) (own := [("instruction", 6)]) (by decide +kernel)) rfl (fun _ => (cg_name (i := 6) sc.nd rfl (by first | exact .inl rfl | exact .inr rfl) (by decide))) (fun _ => ec_nil) (fun _ => (ee_tupc T.z_tuple rfl (ea_cons (ee_var 6) ea_nil))))) ea_nil)) ic_nil rfl (Or.inl rfl) (by decide) (by decide)) rfl (Or.inl rfl) (by decide) (by decide)) rfl (Or.inl rfl) (by decide) (by decide)) rfl (Or.inl rfl) (by decide) (by decide)) rfl (Or.inl rfl) (by decide) (by decide))
theorem cl_Program (T : Tx w K mg) : ClsT P w K mg base 1 "Program" ["shapes", "statics", "functions"] 3 mi_Program := by
  have sc := sc_Program___init__
  refine cls_mk T.k_Program (fun F => F.binds fun _ _ _ _ _ _ us hl => match us, hl with | [_, _, _, _], _ => rfl) fun F => init_okC F sc_Program___init__ rfl rfl (by decide) (by decide) (by decide) fun cdv A outer s H E hr tk po => ?_
  exact (ic_cons (W := W0) (ee_tupc T.z_tuple rfl (ea_cons (ee_var 1) ea_nil)) (ic_cons (W := W0) (ee_tupc T.z_tuple rfl (ea_cons (EF.toE (ef_lc rfl sc.nd (ei_any (ee_var 2)) (blkOk_by (N := ["self", "shapes", "statics", "functions", "static"]) (sc := defScope clsS_Program_0) (own := [("static", 4)]) (by decide +kernel)) rfl (fun _ => (cg_name (i := 4) sc.nd rfl (by first | exact .inl rfl | exact .inr rfl) (by decide))) (fun _ => ec_nil) (fun _ => (ee_tup (ea_cons (ee_ix (ee_var 4) ee_int) (ea_cons (ee_ix (ee_var 4) ee_int) ea_nil)))))) ea_nil)) (ic_cons (W := W0) (ee_tupc T.z_tuple rfl (ea_cons (ee_var 3) ea_nil)) ic_nil rfl (Or.inl rfl) (by decide) (by decide)) rfl (Or.inl rfl) (by decide) (by decide)) rfl (Or.inl rfl) (by decide) (by decide))
theorem cl_Shape (T : Tx w K mg) : ClsT P w K mg base 1 "Shape" ["name", "form", "fields"] 3 mi_Shape := by
  have sc := sc_Shape___init__
  refine cls_mk T.k_Shape (fun F => F.binds fun _ _ _ _ _ _ us hl => match us, hl with | [_, _, _, _], _ => rfl) fun F => init_okC F sc_Shape___init__ rfl rfl (by decide) (by decide) (by decide) fun cdv A outer s H E hr tk po => ?_
  exact (ic_cons (W := W0) (ee_var 1) (ic_cons (W := W0) (ee_var 2) (ic_cons (W := W0) (ee_tupc T.z_tuple rfl (ea_cons (EF.toE (ef_lc rfl sc.nd (ei_any (ee_var 3)) (blkOk_by (N := ["self", "name", "form", "fields", "field"]) (sc := defScope clsS_Shape_0) (own := [("field", 4)]) (by decide +kernel)) rfl (fun _ => (cg_name (i := 4) sc.nd rfl (by first | exact .inl rfl | exact .inr rfl) (by decide))) (fun _ => ec_nil) (fun _ => (ee_tup (ea_cons (ee_ix (ee_var 4) ee_int) (ea_cons (ee_ix (ee_var 4) ee_int) ea_nil)))))) ea_nil)) ic_nil rfl (Or.inl rfl) (by decide) (by decide)) rfl (Or.inl rfl) (by decide) (by decide)) rfl (Or.inl rfl) (by decide) (by decide))
theorem fn_make_program (T : Tx w K mg) {f : Addr} {fd : FuncData} (F : Fun K "make_program" "make_program" s_make_program f fd) : FnOk P w K mg base (L2.CX P w) 6 f fd ["shapes", "statics", "functions"] (PF K mg 3 m_make_program) := by
  have sc := sc_make_program
  refine def_ok F sc_make_program rfl (by decide) fun cdv A outer s H E hr tk po => ?_
  exact (eb_cons (es_set (i := 3) (ee_callO tk (ok_counts_why T) hr (by decide) (ea_cons (ee_var 0) (ea_cons (ee_var 1) (ea_cons (ee_var 2) ea_nil))) (al_cons (al_cons (al_cons al_nil)))) sc.nd rfl (Or.inl rfl)) (eb_cons (es_if (et_cmpw or_isNot opw_isNot (EE.w (ee_var 3)) (EE.w ee_non) rfl) (eb_one (es_raise rfl tk (xc_BadProgram T) hr (by decide) (ea_cons ee_str (ea_cons ee_int (ea_cons (ee_neg ee_int) (ea_cons (ee_var 3) ea_nil)))) (al_cons (al_cons (al_cons (al_cons al_nil)))))) eb_nil) (eb_cons (es_expr (EE.w (ee_callO tk (ok_look_at_shapes T) hr (by decide) (ea_cons (ee_var 0) ea_nil) (al_cons al_nil)))) (eb_cons (es_expr (EE.w (ee_callO tk (ok_look_at_statics T) hr (by decide) (ea_cons (ee_var 0) (ea_cons (ee_var 1) ea_nil)) (al_cons (al_cons al_nil))))) (eb_cons (es_expr (EE.w (ee_callO tk (ok_look_at_functions T) hr (by decide) (ea_cons (ee_var 0) (ea_cons (ee_var 2) ea_nil)) (al_cons (al_cons al_nil))))) (eb_cons (es_expr (EE.w (ee_callO tk (ok_look_at_bodies T) hr (by decide) (ea_cons (ee_var 0) (ea_cons (ee_var 1) (ea_cons (ee_var 2) ea_nil))) (al_cons (al_cons (al_cons al_nil)))))) (eb_cons (es_setoLc (i := 4) rfl sc.nd rfl rfl (sw_true rfl rfl rfl (by decide +kernel)) (ei_any (ee_var 2)) (blkOk_by (N := ["shapes", "statics", "functions", "why", "made", "name", "params", "result", "slots", "body", "form", "fields"]) (sc := defScope s_make_program) (own := [("name", 5), ("params", 6), ("result", 7), ("slots", 8), ("body", 9)]) (by decide +kernel)) rfl (fun _ => (cg_tup rfl (cgs_cons (cg_name (i := 5) sc.nd rfl (by first | exact .inl rfl | exact .inr rfl) (by decide)) (cgs_cons (cg_name (i := 6) sc.nd rfl (by first | exact .inl rfl | exact .inr rfl) (by decide)) (cgs_cons (cg_name (i := 7) sc.nd rfl (by first | exact .inl rfl | exact .inr rfl) (by decide)) (cgs_cons (cg_name (i := 8) sc.nd rfl (by first | exact .inl rfl | exact .inr rfl) (by decide)) (cgs_cons (cg_name (i := 9) sc.nd rfl (by first | exact .inl rfl | exact .inr rfl) (by decide)) cgs_nil))))))) (fun _ => ec_nil) (fun _ => (ee_make takes0 (cl_Function T) hr (by decide) (ea_cons (ee_var 5) (ea_cons (ee_var 6) (ea_cons (ee_var 7) (ea_cons (ee_var 8) (ea_cons (ee_var 9) ea_nil))))) (al_cons (al_cons (al_cons (al_cons (al_cons al_nil)))))))) (eb_one (es_frz 4 (es_ret (EE.w (ee_make tk (cl_Program T) hr (by decide) (ea_cons (EF.toE (ef_lc rfl sc.nd (ei_any (ee_var 0)) (blkOk_by (N := ["shapes", "statics", "functions", "why", "made", "name", "params", "result", "slots", "body", "form", "fields"]) (sc := defScope s_make_program) (own := [("name", 5), ("form", 10), ("fields", 11)]) (by decide +kernel)) rfl (fun _ => (cg_tup rfl (cgs_cons (cg_name (i := 5) sc.nd rfl (by first | exact .inl rfl | exact .inr rfl) (by decide)) (cgs_cons (cg_name (i := 10) sc.nd rfl (by first | exact .inl rfl | exact .inr rfl) (by decide)) (cgs_cons (cg_name (i := 11) sc.nd rfl (by first | exact .inl rfl | exact .inr rfl) (by decide)) cgs_nil))))) (fun _ => ec_nil) (fun _ => (ee_make takes0 (cl_Shape T) hr (by decide) (ea_cons (ee_var 5) (ea_cons (ee_var 10) (ea_cons (ee_var 11) ea_nil))) (al_cons (al_cons (al_cons al_nil))))))) (ea_cons (ee_var 1) (ea_cons (ee_var 4) ea_nil))) (al_cons (al_cons (al_cons al_nil)))))))))))))))
theorem ok_make_program (T : Tx w K mg) : Ok P w K mg base 6 "make_program" 3 m_make_program := by
  obtain ⟨f, fd, F, g⟩ := T.d_make_program
  exact ⟨f, fd, ["shapes", "statics", "functions"], g, F.kp, F.binds fun _ _ _ _ _ _ us hl => match us, hl with | [_, _, _], _ => rfl, fn_make_program T F⟩
theorem fn_law_ahead (T : Tx w K mg) {f : Addr} {fd : FuncData} (F : Fun K "_law_ahead" "_law_ahead" s_law_ahead f fd) : FnOk P w K mg base (L2.CX P w) 1 f fd ["_law_body", "_law_place"] (PF K mg 2 m_law_ahead) := by
  have sc := sc_law_ahead
  refine def_ok F sc_law_ahead rfl (by decide) fun cdv A outer s H E hr tk po => ?_
  exact (eb_cons (es_set (i := 2) (ee_ix (ee_ix (ee_var 0) (ee_var 1)) ee_int) sc.nd rfl (Or.inl rfl)) (eb_cons (es_if (et_cmpw or_in opw_in (EE.w (ee_var 2)) (EE.w (EF.toE (ef_lst (ea_cons ee_str (ea_cons ee_str ea_nil))))) rfl) (eb_one (es_ret (EE.w (EF.toE (ef_lst ea_nil))))) eb_nil) (eb_cons (es_if (et_cmpw (or_eq hr.units) opw_eq (EE.w (ee_var 2)) (EE.w ee_str) (nomark _)) (eb_one (es_ret (EE.w (EF.toE (ef_lst (ea_cons (ee_ix (ee_ix (ee_var 0) (ee_var 1)) ee_int) ea_nil)))))) eb_nil) (eb_cons (es_if (EV2.t (ev_and (et_cmpw (or_eq hr.units) opw_eq (EE.w (ee_var 2)) (EE.w ee_str) (nomark _)) (ev_and1 (et_cmpw (or_ne hr.units) opw_ne (EE.w (ee_ix (ee_ix (ee_var 0) (ee_var 1)) ee_int)) (EE.w (ee_add (ee_var 1) ee_int)) (nomark _))))) (eb_one (es_ret (EE.w (EF.toE (ef_lst (ea_cons (ee_add (ee_var 1) ee_int) (ea_cons (ee_ix (ee_ix (ee_var 0) (ee_var 1)) ee_int) ea_nil))))))) eb_nil) (eb_one (es_ret (EE.w (EF.toE (ef_lst (ea_cons (ee_add (ee_var 1) ee_int) ea_nil))))))))))
theorem ok_law_ahead (T : Tx w K mg) : Ok P w K mg base 1 "_law_ahead" 2 m_law_ahead := by
  obtain ⟨f, fd, F, g⟩ := T.d_law_ahead
  exact ⟨f, fd, ["_law_body", "_law_place"], g, F.kp, F.binds fun _ _ _ _ _ _ us hl => match us, hl with | [_, _], _ => rfl, fn_law_ahead T F⟩
theorem fn_targets (T : Tx w K mg) {f : Addr} {fd : FuncData} (F : Fun K "targets" "targets" s_targets f fd) : FnOk P w K mg base (L2.CX P w) 1 f fd ["function", "place"] (PF K mg 2 m_targets) := by
  have sc := sc_targets
  refine def_ok F sc_targets rfl (by decide) fun cdv A outer s H E hr tk po => ?_
  exact (eb_cons (es_set (i := 2) (ee_ix (ee_fld (ee_var 0) (fa_body T)) (ee_var 1)) sc.nd rfl (Or.inl rfl)) (eb_cons (es_if (et_cmpw or_in opw_in (EE.w (ee_ix (ee_var 2) ee_int)) (EE.w (ee_tup (ea_cons ee_str (ea_cons ee_str ea_nil)))) rfl) (eb_one (es_ret (EE.w (ee_tup ea_nil)))) eb_nil) (eb_cons (es_if (et_cmpw (or_eq hr.units) opw_eq (EE.w (ee_ix (ee_var 2) ee_int)) (EE.w ee_str) (nomark _)) (eb_one (es_ret (EE.w (ee_tup (ea_cons (ee_ix (ee_var 2) ee_int) ea_nil))))) eb_nil) (eb_cons (es_if (EV2.t (ev_and (et_cmpw (or_eq hr.units) opw_eq (EE.w (ee_ix (ee_var 2) ee_int)) (EE.w ee_str) (nomark _)) (ev_and1 (et_cmpw (or_ne hr.units) opw_ne (EE.w (ee_ix (ee_var 2) ee_int)) (EE.w (ee_add (ee_var 1) ee_int)) (nomark _))))) (eb_one (es_ret (EE.w (ee_tup (ea_cons (ee_add (ee_var 1) ee_int) (ea_cons (ee_ix (ee_var 2) ee_int) ea_nil)))))) eb_nil) (eb_one (es_ret (EE.w (ee_tup (ea_cons (ee_add (ee_var 1) ee_int) ea_nil)))))))))
theorem ok_targets (T : Tx w K mg) : Ok P w K mg base 1 "targets" 2 m_targets := by
  obtain ⟨f, fd, F, g⟩ := T.d_targets
  exact ⟨f, fd, ["function", "place"], g, F.kp, F.binds fun _ _ _ _ _ _ us hl => match us, hl with | [_, _], _ => rfl, fn_targets T F⟩
theorem fn_successors (T : Tx w K mg) {f : Addr} {fd : FuncData} (F : Fun K "successors" "successors" s_successors f fd) : FnOk P w K mg base (L2.CX P w) 2 f fd ["function", "place"] (PF K mg 2 m_successors) := by
  have sc := sc_successors
  refine def_ok F sc_successors rfl (by decide) fun cdv A outer s H E hr tk po => ?_
  exact (eb_one (es_ret (EE.w (ee_tupc T.z_tuple rfl (ea_cons (EF.toE (ef_lc rfl sc.nd (ei_any (ee_callO tk (ok_targets T) hr (by decide) (ea_cons (ee_var 0) (ea_cons (ee_var 1) ea_nil)) (al_cons (al_cons al_nil)))) (blkOk_by (N := ["function", "place", "target"]) (sc := defScope s_successors) (own := [("target", 2)]) (by decide +kernel)) rfl (fun _ => (cg_name (i := 2) sc.nd rfl (by first | exact .inl rfl | exact .inr rfl) (by decide))) (fun _ => (ec_one (et_cmpw op_lt opw_cmp (EE.w (ee_var 2)) (EE.w (ee_len T.z_len rfl (eaw_cons (EE.w (ee_fld (ee_var 0) (fa_body T))) eaw_nil))) (nomark _)))) (fun _ => (ee_var 2)))) ea_nil)))))
theorem ok_successors (T : Tx w K mg) : Ok P w K mg base 2 "successors" 2 m_successors := by
  obtain ⟨f, fd, F, g⟩ := T.d_successors
  exact ⟨f, fd, ["function", "place"], g, F.kp, F.binds fun _ _ _ _ _ _ us hl => match us, hl with | [_, _], _ => rfl, fn_successors T F⟩
theorem okk_successors_0_place_function (T : Tx w K mg) : OkK P w K mg base 2 "successors" 2 0 ["place", "function"] [1, 0] m_successors := by
  obtain ⟨f, fd, F, g⟩ := T.d_successors
  refine ⟨f, fd, ["function", "place"], g, F.kp, ?_, fn_successors T F⟩
  obtain ⟨oc, od, kV, doc, pm, an, cdv, ct, osl, rfl, lk, hcd⟩ := F.ex
  exact fun s us ws l1 l2 => match us, l1, ws, l2 with | [], _, [_, _], _ => .of_eq rfl
theorem fn_runs_off (T : Tx w K mg) {f : Addr} {fd : FuncData} (F : Fun K "runs_off" "runs_off" s_runs_off f fd) : FnOk P w K mg base (L2.CX P w) 2 f fd ["function", "place"] (PF K mg 2 m_runs_off) := by
  have sc := sc_runs_off
  refine def_ok F sc_runs_off rfl (by decide) fun cdv A outer s H E hr tk po => ?_
  exact (eb_one (es_ret (EE.w (ee_cmpw or_in opw_in (EE.w (ee_len T.z_len rfl (eaw_cons (EE.w (ee_fld (ee_var 0) (fa_body T))) eaw_nil))) (EE.w (ee_callO tk (ok_targets T) hr (by decide) (ea_cons (ee_var 0) (ea_cons (ee_var 1) ea_nil)) (al_cons (al_cons al_nil)))) rfl))))
theorem ok_runs_off (T : Tx w K mg) : Ok P w K mg base 2 "runs_off" 2 m_runs_off := by
  obtain ⟨f, fd, F, g⟩ := T.d_runs_off
  exact ⟨f, fd, ["function", "place"], g, F.kp, F.binds fun _ _ _ _ _ _ us hl => match us, hl with | [_, _], _ => rfl, fn_runs_off T F⟩
theorem okk_runs_off_0_place_function (T : Tx w K mg) : OkK P w K mg base 2 "runs_off" 2 0 ["place", "function"] [1, 0] m_runs_off := by
  obtain ⟨f, fd, F, g⟩ := T.d_runs_off
  refine ⟨f, fd, ["function", "place"], g, F.kp, ?_, fn_runs_off T F⟩
  obtain ⟨oc, od, kV, doc, pm, an, cdv, ct, osl, rfl, lk, hcd⟩ := F.ex
  exact fun s us ws l1 l2 => match us, l1, ws, l2 with | [], _, [_, _], _ => .of_eq rfl
theorem fn_law_whole (T : Tx w K mg) {f : Addr} {fd : FuncData} (F : Fun K "_law_whole" "_law_whole" s_law_whole f fd) : FnOk P w K mg base (L2.CX P w) 1 f fd ["_law_value"] (PF K mg 1 m_law_whole) := by
  have sc := sc_law_whole
  refine def_ok F sc_law_whole rfl (by decide) fun cdv A outer s H E hr tk po => ?_
  exact (eb_one (es_ret (EE.w (ee_and (ee_isi T.z_isinstance rfl T.z_int rfl boot_int kit_int (EE.w (ee_var 0))) (ee_one (ee_not (ee_isi T.z_isinstance rfl T.z_bool rfl boot_bool kit_bool (EE.w (ee_var 0)))))))))
theorem ok_law_whole (T : Tx w K mg) : Ok P w K mg base 1 "_law_whole" 1 m_law_whole := by
  obtain ⟨f, fd, F, g⟩ := T.d_law_whole
  exact ⟨f, fd, ["_law_value"], g, F.kp, F.binds fun _ _ _ _ _ _ us hl => match us, hl with | [_], _ => rfl, fn_law_whole T F⟩
theorem fn_law_same_places (T : Tx w K mg) {f : Addr} {fd : FuncData} (F : Fun K "_law_same_places" "_law_same_places" s_law_same_places f fd) : FnOk P w K mg base (L2.CX P w) 2 f fd ["_law_told", "_law_due"] (PF K mg 2 m_law_same_places) := by
  have sc := sc_law_same_places
  refine def_ok F sc_law_same_places rfl (by decide) fun cdv A outer s H E hr tk po => ?_
  exact (eb_cons (es_if (EV2.t (ev_or (et_not (et_val (ee_isi T.z_isinstance rfl T.z_tuple rfl boot_tuple kit_tuple (EE.w (ee_var 0))))) (ev_or1 (et_cmpw (or_ne hr.units) opw_ne (EE.w (ee_len T.z_len rfl (eaw_cons (EE.w (ee_var 0)) eaw_nil))) (EE.w (ee_len T.z_len rfl (eaw_cons (EE.w (ee_var 1)) eaw_nil))) (nomark _))))) (eb_one (es_ret (EE.w ee_bl))) eb_nil) (eb_cons (es_for po rfl (ei_range1 T.z_range rfl (ea_cons (ee_len T.z_len rfl (eaw_cons (EE.w (ee_var 1)) eaw_nil)) ea_nil) (al_cons al_nil)) (eg_name (i := 2) sc.nd rfl (Or.inl rfl)) (eb_one (es_if (EV2.t (ev_or (et_not (et_val (ee_callO tk (ok_law_whole T) hr (by decide) (ea_cons (ee_ix (ee_var 0) (ee_var 2)) ea_nil) (al_cons al_nil)))) (ev_or1 (et_cmpw (or_ne hr.units) opw_ne (EE.w (ee_ix (ee_var 0) (ee_var 2))) (EE.w (ee_ix (ee_var 1) (ee_var 2))) (nomark _))))) (eb_one (es_ret (EE.w ee_bl))) eb_nil))) (eb_one (es_ret (EE.w ee_bl)))))
theorem ok_law_same_places (T : Tx w K mg) : Ok P w K mg base 2 "_law_same_places" 2 m_law_same_places := by
  obtain ⟨f, fd, F, g⟩ := T.d_law_same_places
  exact ⟨f, fd, ["_law_told", "_law_due"], g, F.kp, F.binds fun _ _ _ _ _ _ us hl => match us, hl with | [_, _], _ => rfl, fn_law_same_places T F⟩
theorem fn_law_unchanged (T : Tx w K mg) {f : Addr} {fd : FuncData} (F : Fun K "_law_unchanged" "_law_unchanged" s_law_unchanged f fd) : FnOk P w K mg base (L2.CX P w) 1 f fd ["_law_data", "_law_world"] (PF K mg 2 m_law_unchanged) := by
  have sc := sc_law_unchanged
  refine def_ok F sc_law_unchanged rfl (by decide) fun cdv A outer s H E hr tk po => ?_
  exact (eb_one (es_ret (EE.w (ee_cmpw (or_eq hr.units) opw_eq (EE.w (ee_var 0)) (EE.w (ee_tup (ea_cons (ee_tupc T.z_tuple rfl (ea_cons (ee_ix (ee_var 1) ee_int) ea_nil)) (ea_cons (ee_tupc T.z_tuple rfl (ea_cons (ee_ix (ee_var 1) ee_int) ea_nil)) (ea_cons (ee_tupc T.z_tuple rfl (ea_cons (ee_ix (ee_var 1) ee_int) ea_nil)) ea_nil))))) (nomark _)))))
theorem ok_law_unchanged (T : Tx w K mg) : Ok P w K mg base 1 "_law_unchanged" 2 m_law_unchanged := by
  obtain ⟨f, fd, F, g⟩ := T.d_law_unchanged
  exact ⟨f, fd, ["_law_data", "_law_world"], g, F.kp, F.binds fun _ _ _ _ _ _ us hl => match us, hl with | [_, _], _ => rfl, fn_law_unchanged T F⟩
theorem mt_Program_data (T : Tx w K mg) : MetT P w K mg base 1 "Program" "data" 0 m_Program_data := by
  have sc := sc_Program_data
  refine met_mk T.k_Program_data (fun F => F.binds fun _ _ _ _ _ _ us hl => match us, hl with | [_], _ => rfl) fun F => def_ok F sc_Program_data rfl (by decide) fun cdv A outer s H E hr tk po => ?_
  exact (eb_cons (es_set (i := 1) (ee_tupc T.z_tuple rfl (ea_cons (EF.toE (ef_lc rfl sc.nd (ei_any (ee_fld (ee_var 0) (fa_shapes T))) (blkOk_by (N := ["self", "shapes", "shape", "functions", "one"]) (sc := defScope clsS_Program_1) (own := [("shape", 2)]) (by decide +kernel)) rfl (fun _ => (cg_name (i := 2) sc.nd rfl (by first | exact .inl rfl | exact .inr rfl) (by decide))) (fun _ => ec_nil) (fun _ => (ee_tup (ea_cons (ee_fld (ee_var 2) (fa_name T)) (ea_cons (ee_fld (ee_var 2) (fa_form T)) (ea_cons (ee_fld (ee_var 2) (fa_fields T)) ea_nil))))))) ea_nil)) sc.nd rfl (Or.inl rfl)) (eb_cons (es_set (i := 3) (ee_tupc T.z_tuple rfl (ea_cons (EF.toE (ef_lc rfl sc.nd (ei_any (ee_fld (ee_var 0) (fa_functions T))) (blkOk_by (N := ["self", "shapes", "shape", "functions", "one"]) (sc := defScope clsS_Program_1) (own := [("one", 4)]) (by decide +kernel)) rfl (fun _ => (cg_name (i := 4) sc.nd rfl (by first | exact .inl rfl | exact .inr rfl) (by decide))) (fun _ => ec_nil) (fun _ => (ee_tup (ea_cons (ee_fld (ee_var 4) (fa_name T)) (ea_cons (ee_fld (ee_var 4) (fa_params T)) (ea_cons (ee_fld (ee_var 4) (fa_result T)) (ea_cons (ee_fld (ee_var 4) (fa_slots T)) (ea_cons (ee_fld (ee_var 4) (fa_body T)) ea_nil))))))))) ea_nil)) sc.nd rfl (Or.inl rfl)) (eb_one (es_ret (EE.w (ee_tup (ea_cons (ee_var 1) (ea_cons (ee_fld (ee_var 0) (fa_statics T)) (ea_cons (ee_var 3) ea_nil)))))))))
theorem fn_law (T : Tx w K mg) {f : Addr} {fd : FuncData} (F : Fun K "law" "law" s_law f fd) : FnOk P w K mg base (L2.CX P w) 7 f fd ["_law_script"] (PF K mg 1 m_law) := by
  have sc := sc_law
  refine def_ok F sc_law rfl (by decide) fun cdv A outer s H E hr tk po => ?_
  exact (eb_cons (es_set (i := 1) (ee_callO tk (ok_law_digits T) hr (by decide) (ea_cons (ee_callO tk (ok_law_cell T) hr (by decide) (ea_cons (ee_var 0) (ea_cons ee_int ea_nil)) (al_cons (al_cons al_nil))) (ea_cons (EF.toE (ef_lst (ea_cons ee_int (ea_cons ee_int (ea_cons ee_int (ea_cons ee_int (ea_cons ee_int ea_nil))))))) ea_nil)) (al_cons (al_cons al_nil))) sc.nd rfl (Or.inr rfl)) (eb_cons (es_set (i := 2) (EF.toE (ef_lst (ea_cons (ee_ix (EF.toE (ef_lst (ea_cons ee_int (ea_cons ee_int (ea_cons ee_int (ea_cons ee_int (ea_cons ee_int (ea_cons ee_int (ea_cons ee_int (ea_cons ee_int (ea_cons ee_int (ea_cons ee_int (ea_cons ee_int (ea_cons ee_int ea_nil)))))))))))))) (ee_ix (ee_var 1) ee_int)) (ea_cons (ee_ix (EF.toE (ef_lst (ea_cons ee_int (ea_cons ee_int (ea_cons ee_int (ea_cons ee_int (ea_cons ee_int (ea_cons ee_int (ea_cons ee_int (ea_cons ee_int ea_nil)))))))))) (ee_ix (ee_var 1) ee_int)) (ea_cons (ee_ix (EF.toE (ef_lst (ea_cons ee_int (ea_cons ee_int (ea_cons ee_int (ea_cons ee_int (ea_cons ee_int (ea_cons ee_int (ea_cons ee_int (ea_cons ee_int ea_nil)))))))))) (ee_ix (ee_var 1) ee_int)) ea_nil))))) sc.nd rfl (Or.inr rfl)) (eb_cons (es_setoLc (i := 3) rfl sc.nd rfl rfl (sw_true rfl rfl rfl (by decide +kernel)) (ei_any (EF.toE (ef_lst (ea_cons ee_int (ea_cons ee_int ea_nil))))) (blkOk_by (N := ["_law_script", "_law_row", "_law_sizes", "_law_worlds", "_law_at", "_law_parts_here", "_law_world", "_law_programs", "_law_part", "_law_turn", "_law_f", "_law_k", "_law_place", "_law_w", "_law_ahead_here", "_law_function", "_law_told", "_law_spot"]) (sc := defScope s_law) (own := [("_law_at", 4)]) (by decide +kernel)) rfl (fun _ => (cg_name (i := 4) sc.nd rfl (by first | exact .inl rfl | exact .inr rfl) (by decide))) (fun _ => ec_nil) (fun _ => (ee_callO takes0 (ok_law_flow_world T) hr (by decide) (ea_cons (ee_var 0) (ea_cons (ee_var 4) (ea_cons (ee_cut (ee_var 2) eo_none (eo_some (ee_add ee_int (ee_ix (ee_var 1) ee_int)))) ea_nil))) (al_cons (al_cons (al_cons al_nil)))))) (eb_cons (es_frz 3 (es_setoLc (i := 5) rfl sc.nd rfl rfl (sw_true rfl rfl rfl (by decide +kernel)) (ei_any (ee_var 3)) (blkOk_by (N := ["_law_script", "_law_row", "_law_sizes", "_law_worlds", "_law_at", "_law_parts_here", "_law_world", "_law_programs", "_law_part", "_law_turn", "_law_f", "_law_k", "_law_place", "_law_w", "_law_ahead_here", "_law_function", "_law_told", "_law_spot"]) (sc := defScope s_law) (own := [("_law_world", 6)]) (by decide +kernel)) rfl (fun _ => (cg_name (i := 6) sc.nd rfl (by first | exact .inl rfl | exact .inr rfl) (by decide))) (fun _ => ec_nil) (fun _ => (ee_callO takes0 (ok_law_parts T) hr (by decide) (ea_cons (ee_var 6) (ea_cons (ee_ix (ee_var 1) ee_int) ea_nil)) (al_cons (al_cons al_nil)))))) (eb_cons (es_frz 5 (es_setoLc (i := 7) rfl sc.nd rfl rfl (sw_true rfl rfl rfl (by decide +kernel)) (ei_any (ee_var 5)) (blkOk_by (N := ["_law_script", "_law_row", "_law_sizes", "_law_worlds", "_law_at", "_law_parts_here", "_law_world", "_law_programs", "_law_part", "_law_turn", "_law_f", "_law_k", "_law_place", "_law_w", "_law_ahead_here", "_law_function", "_law_told", "_law_spot"]) (sc := defScope s_law) (own := [("_law_part", 8)]) (by decide +kernel)) rfl (fun _ => (cg_name (i := 8) sc.nd rfl (by first | exact .inl rfl | exact .inr rfl) (by decide))) (fun _ => ec_nil) (fun _ => (ee_callO takes0 (ok_make_program T) hr (by decide) (ea_cons (ee_ix (ee_var 8) ee_int) (ea_cons (ee_ix (ee_var 8) ee_int) (ea_cons (ee_ix (ee_var 8) ee_int) ea_nil))) (al_cons (al_cons (al_cons al_nil))))))) (eb_cons (es_for po rfl (ei_range1 T.z_range rfl (ea_cons ee_int ea_nil) (al_cons al_nil)) (eg_name (i := 9) sc.nd rfl (Or.inl rfl)) (eb_one (es_for po rfl (ei_range1 T.z_range rfl (ea_cons (ee_add ee_int (ee_ix (ee_var 1) ee_int)) ea_nil) (al_cons al_nil)) (eg_name (i := 10) sc.nd rfl (Or.inr rfl)) (eb_one (es_for po rfl (ei_range1 T.z_range rfl (ea_cons (ee_ix (ee_var 2) (ee_var 10)) ea_nil) (al_cons al_nil)) (eg_name (i := 11) sc.nd rfl (Or.inl rfl)) (eb_cons (es_set (i := 12) (ee_ix (EF.toE (ef_lst (ea_cons (ee_var 11) (ea_cons (ee_sub (ee_sub (ee_ix (ee_var 2) (ee_var 10)) ee_int) (ee_var 11)) ea_nil)))) (ee_var 9)) sc.nd rfl (Or.inl rfl)) (eb_one (es_for po rfl (ei_range1 T.z_range rfl (ea_cons ee_int ea_nil) (al_cons al_nil)) (eg_name (i := 13) sc.nd rfl (Or.inl rfl)) (eb_cons (es_set (i := 14) (ee_callO tk (ok_law_ahead T) hr (by decide) (ea_cons (ee_ix (ee_ix (ee_ix (ee_ix (ee_var 3) (ee_var 13)) ee_int) (ee_var 10)) ee_int) (ea_cons (ee_var 12) ea_nil)) (al_cons (al_cons al_nil))) sc.nd rfl (Or.inl rfl)) (eb_cons (es_set (i := 15) (ee_ix (ee_fld (ee_ixo 7 (ee_var 13)) (fa_functions T)) (ee_var 10)) sc.nd rfl (Or.inl rfl)) (eb_cons (es_set (i := 16) (EF.toE (ef_lst (ea_cons (ee_callO tk (ok_runs_off T) hr (by decide) (ea_cons (ee_var 15) (ea_cons (ee_var 12) ea_nil)) (al_cons (al_cons al_nil))) (ea_cons (ee_callO tk (ok_successors T) hr (by decide) (ea_cons (ee_var 15) (ea_cons (ee_var 12) ea_nil)) (al_cons (al_cons al_nil))) ea_nil)))) sc.nd rfl (Or.inl rfl)) (eb_cons (es_if (et_cmpw (or_eq hr.units) opw_eq (EE.w (ee_var 9)) (EE.w ee_int) (nomark _)) (eb_one (es_set (i := 16) (EF.toE (ef_lst (ea_cons (ee_kw0 tk (okk_runs_off_0_place_function T) hr (by decide) (ek_cons (ee_var 12) (ek_cons (ee_var 15) ek_nil)) (al_cons (al_cons al_nil)) (fun l hl => match l, hl with | [_, _], _ => rfl)) (ea_cons (ee_kw0 tk (okk_successors_0_place_function T) hr (by decide) (ek_cons (ee_var 12) (ek_cons (ee_var 15) ek_nil)) (al_cons (al_cons al_nil)) (fun l hl => match l, hl with | [_, _], _ => rfl)) ea_nil)))) sc.nd rfl (Or.inl rfl))) eb_nil) (eb_cons (es_if (EV2.t (ev_or (et_not (et_val (ee_isi T.z_isinstance rfl T.z_bool rfl boot_bool kit_bool (EE.w (ee_ix (ee_var 16) ee_int))))) (ev_or1 (et_cmpw (or_ne hr.units) opw_ne (EE.w (ee_ix (ee_var 16) ee_int)) (EE.w (ee_cmpw or_in opw_in (EE.w (ee_ix (ee_var 2) (ee_var 10))) (EE.w (ee_var 14)) rfl)) (nomark _))))) (eb_one (es_ret (EE.w ee_bl))) eb_nil) (eb_one (es_if (et_not (et_val (ee_callO tk (ok_law_same_places T) hr (by decide) (ea_cons (ee_ix (ee_var 16) ee_int) (ea_cons (EF.toE (ef_lc rfl sc.nd (ei_any (ee_var 14)) (blkOk_by (N := ["_law_script", "_law_row", "_law_sizes", "_law_worlds", "_law_at", "_law_parts_here", "_law_world", "_law_programs", "_law_part", "_law_turn", "_law_f", "_law_k", "_law_place", "_law_w", "_law_ahead_here", "_law_function", "_law_told", "_law_spot"]) (sc := defScope s_law) (own := [("_law_spot", 17)]) (by decide +kernel)) rfl (fun _ => (cg_name (i := 17) sc.nd rfl (by first | exact .inl rfl | exact .inr rfl) (by decide))) (fun _ => (ec_one (et_cmpw op_lt opw_cmp (EE.w (ee_var 17)) (EE.w (ee_ix (ee_var 2) (ee_var 10))) (nomark _)))) (fun _ => (ee_var 17)))) ea_nil)) (al_cons (al_cons al_nil))))) (eb_one (es_ret (EE.w ee_bl))) eb_nil))))))))))))))) (eb_one (es_ret (EE.w (ee_and (ee_callO tk (ok_law_unchanged T) hr (by decide) (ea_cons (ee_meth0 tk (mt_Program_data T) hr (by decide) (ee_ixo 7 ee_int)) (ea_cons (ee_ix (ee_var 3) ee_int) ea_nil)) (al_cons (al_cons al_nil))) (ee_one (ee_callO tk (ok_law_unchanged T) hr (by decide) (ea_cons (ee_meth0 tk (mt_Program_data T) hr (by decide) (ee_ixo 7 ee_int)) (ea_cons (ee_ix (ee_var 3) ee_int) ea_nil)) (al_cons (al_cons al_nil))))))))))))))
theorem ok_law (T : Tx w K mg) : Ok P w K mg base 7 "law" 1 m_law := by
  obtain ⟨f, fd, F, g⟩ := T.d_law
  exact ⟨f, fd, ["_law_script"], g, F.kp, F.binds fun _ _ _ _ _ _ us hl => match us, hl with | [_], _ => rfl, fn_law T F⟩
end
/-! ### the head's facts -/
theorem all_mk {w : World} {K : PySem.W.Frag} {h : Heap} {mg : Str → Option Value} (X : K.In h) (G : h.Ns mainGlobals mg) {f0 f1 f2 f3 f4 f5 f6 f7 f8 f9 f10 f11 f12 f13 f14 f15 f16 f17 f18 f19 f20 f21 f22 f23 f24 f25 f26 f27 f28 f29 f30 f31 f32 f33 f34 f35 f36 f37 : Addr}
    {od0 an0 : Option Addr} {sl0 : Array (Option Value)} {oc0 kV0 dc0 pm0 cd0 ct0 : Value}
    (a0 : PySem.W.nsIn K mainGlobals "_law_digits" = some (some (.ref f0))) (l0 : K.lookup f0 = some ⟨oc0, od0, .func (PySem.W.fnOf "_law_digits" "_law_digits" (defArgs s_law_digits) (defBody s_law_digits) (defScope s_law_digits) .none kV0 dc0 pm0 an0 cd0 ct0), sl0⟩) (c0 : PySem.W.codeIn K cd0 "_law_digits" = true) (k0 : PySem.W.keepIn K (.ref f0) = true)
    {od1 an1 : Option Addr} {sl1 : Array (Option Value)} {oc1 kV1 dc1 pm1 cd1 ct1 : Value}
    (a1 : PySem.W.nsIn K mainGlobals "_law_cell" = some (some (.ref f1))) (l1 : K.lookup f1 = some ⟨oc1, od1, .func (PySem.W.fnOf "_law_cell" "_law_cell" (defArgs s_law_cell) (defBody s_law_cell) (defScope s_law_cell) .none kV1 dc1 pm1 an1 cd1 ct1), sl1⟩) (c1 : PySem.W.codeIn K cd1 "_law_cell" = true) (k1 : PySem.W.keepIn K (.ref f1) = true)
    {od2 an2 : Option Addr} {sl2 : Array (Option Value)} {oc2 kV2 dc2 pm2 cd2 ct2 : Value}
    (a2 : PySem.W.nsIn K mainGlobals "_law_small_shapes" = some (some (.ref f2))) (l2 : K.lookup f2 = some ⟨oc2, od2, .func (PySem.W.fnOf "_law_small_shapes" "_law_small_shapes" (defArgs s_law_small_shapes) (defBody s_law_small_shapes) (defScope s_law_small_shapes) .none kV2 dc2 pm2 an2 cd2 ct2), sl2⟩) (c2 : PySem.W.codeIn K cd2 "_law_small_shapes" = true) (k2 : PySem.W.keepIn K (.ref f2) = true)
    {od3 an3 : Option Addr} {sl3 : Array (Option Value)} {oc3 kV3 dc3 pm3 cd3 ct3 : Value}
    (a3 : PySem.W.nsIn K mainGlobals "_law_any_deed" = some (some (.ref f3))) (l3 : K.lookup f3 = some ⟨oc3, od3, .func (PySem.W.fnOf "_law_any_deed" "_law_any_deed" (defArgs s_law_any_deed) (defBody s_law_any_deed) (defScope s_law_any_deed) .none kV3 dc3 pm3 an3 cd3 ct3), sl3⟩) (c3 : PySem.W.codeIn K cd3 "_law_any_deed" = true) (k3 : PySem.W.keepIn K (.ref f3) = true)
    {od4 an4 : Option Addr} {sl4 : Array (Option Value)} {oc4 kV4 dc4 pm4 cd4 ct4 : Value}
    (a4 : PySem.W.nsIn K mainGlobals "_law_flow_body" = some (some (.ref f4))) (l4 : K.lookup f4 = some ⟨oc4, od4, .func (PySem.W.fnOf "_law_flow_body" "_law_flow_body" (defArgs s_law_flow_body) (defBody s_law_flow_body) (defScope s_law_flow_body) .none kV4 dc4 pm4 an4 cd4 ct4), sl4⟩) (c4 : PySem.W.codeIn K cd4 "_law_flow_body" = true) (k4 : PySem.W.keepIn K (.ref f4) = true)
    {od5 an5 : Option Addr} {sl5 : Array (Option Value)} {oc5 kV5 dc5 pm5 cd5 ct5 : Value}
    (a5 : PySem.W.nsIn K mainGlobals "_law_flow_world" = some (some (.ref f5))) (l5 : K.lookup f5 = some ⟨oc5, od5, .func (PySem.W.fnOf "_law_flow_world" "_law_flow_world" (defArgs s_law_flow_world) (defBody s_law_flow_world) (defScope s_law_flow_world) .none kV5 dc5 pm5 an5 cd5 ct5), sl5⟩) (c5 : PySem.W.codeIn K cd5 "_law_flow_world" = true) (k5 : PySem.W.keepIn K (.ref f5) = true)
    {od6 an6 : Option Addr} {sl6 : Array (Option Value)} {oc6 kV6 dc6 pm6 cd6 ct6 : Value}
    (a6 : PySem.W.nsIn K mainGlobals "_law_parts" = some (some (.ref f6))) (l6 : K.lookup f6 = some ⟨oc6, od6, .func (PySem.W.fnOf "_law_parts" "_law_parts" (defArgs s_law_parts) (defBody s_law_parts) (defScope s_law_parts) .none kV6 dc6 pm6 an6 cd6 ct6), sl6⟩) (c6 : PySem.W.codeIn K cd6 "_law_parts" = true) (k6 : PySem.W.keepIn K (.ref f6) = true)
    {od7 an7 : Option Addr} {sl7 : Array (Option Value)} {oc7 kV7 dc7 pm7 cd7 ct7 : Value}
    (a7 : PySem.W.nsIn K mainGlobals "counts_why" = some (some (.ref f7))) (l7 : K.lookup f7 = some ⟨oc7, od7, .func (PySem.W.fnOf "counts_why" "counts_why" (defArgs s_counts_why) (defBody s_counts_why) (defScope s_counts_why) .none kV7 dc7 pm7 an7 cd7 ct7), sl7⟩) (c7 : PySem.W.codeIn K cd7 "counts_why" = true) (k7 : PySem.W.keepIn K (.ref f7) = true)
    {od8 an8 : Option Addr} {sl8 : Array (Option Value)} {oc8 kV8 dc8 pm8 cd8 ct8 : Value}
    (a8 : PySem.W.nsIn K mainGlobals "is_name" = some (some (.ref f8))) (l8 : K.lookup f8 = some ⟨oc8, od8, .func (PySem.W.fnOf "is_name" "is_name" (defArgs s_is_name) (defBody s_is_name) (defScope s_is_name) .none kV8 dc8 pm8 an8 cd8 ct8), sl8⟩) (c8 : PySem.W.codeIn K cd8 "is_name" = true) (k8 : PySem.W.keepIn K (.ref f8) = true)
    {od9 an9 : Option Addr} {sl9 : Array (Option Value)} {oc9 kV9 dc9 pm9 cd9 ct9 : Value}
    (a9 : PySem.W.nsIn K mainGlobals "name_why" = some (some (.ref f9))) (l9 : K.lookup f9 = some ⟨oc9, od9, .func (PySem.W.fnOf "name_why" "name_why" (defArgs s_name_why) (defBody s_name_why) (defScope s_name_why) .none kV9 dc9 pm9 an9 cd9 ct9), sl9⟩) (c9 : PySem.W.codeIn K cd9 "name_why" = true) (k9 : PySem.W.keepIn K (.ref f9) = true)
    {od10 an10 : Option Addr} {sl10 : Array (Option Value)} {oc10 kV10 dc10 pm10 cd10 ct10 : Value}
    (a10 : PySem.W.nsIn K mainGlobals "record_names_fit" = some (some (.ref f10))) (l10 : K.lookup f10 = some ⟨oc10, od10, .func (PySem.W.fnOf "record_names_fit" "record_names_fit" (defArgs s_record_names_fit) (defBody s_record_names_fit) (defScope s_record_names_fit) .none kV10 dc10 pm10 an10 cd10 ct10), sl10⟩) (c10 : PySem.W.codeIn K cd10 "record_names_fit" = true) (k10 : PySem.W.keepIn K (.ref f10) = true)
    {od11 an11 : Option Addr} {sl11 : Array (Option Value)} {oc11 kV11 dc11 pm11 cd11 ct11 : Value}
    (a11 : PySem.W.nsIn K mainGlobals "fields_fit" = some (some (.ref f11))) (l11 : K.lookup f11 = some ⟨oc11, od11, .func (PySem.W.fnOf "fields_fit" "fields_fit" (defArgs s_fields_fit) (defBody s_fields_fit) (defScope s_fields_fit) .none kV11 dc11 pm11 an11 cd11 ct11), sl11⟩) (c11 : PySem.W.codeIn K cd11 "fields_fit" = true) (k11 : PySem.W.keepIn K (.ref f11) = true)
    {od12 an12 : Option Addr} {sl12 : Array (Option Value)} {oc12 kV12 dc12 pm12 cd12 ct12 : Value}
    (a12 : PySem.W.nsIn K mainGlobals "shape_why" = some (some (.ref f12))) (l12 : K.lookup f12 = some ⟨oc12, od12, .func (PySem.W.fnOf "shape_why" "shape_why" (defArgs s_shape_why) (defBody s_shape_why) (defScope s_shape_why) .none kV12 dc12 pm12 an12 cd12 ct12), sl12⟩) (c12 : PySem.W.codeIn K cd12 "shape_why" = true) (k12 : PySem.W.keepIn K (.ref f12) = true)
    {od13 an13 : Option Addr} {sl13 : Array (Option Value)} {oc13 kV13 dc13 pm13 cd13 ct13 : Value}
    (a13 : PySem.W.nsIn K mainGlobals "is_kind" = some (some (.ref f13))) (l13 : K.lookup f13 = some ⟨oc13, od13, .func (PySem.W.fnOf "is_kind" "is_kind" (defArgs s_is_kind) (defBody s_is_kind) (defScope s_is_kind) .none kV13 dc13 pm13 an13 cd13 ct13), sl13⟩) (c13 : PySem.W.codeIn K cd13 "is_kind" = true) (k13 : PySem.W.keepIn K (.ref f13) = true)
    {od14 an14 : Option Addr} {sl14 : Array (Option Value)} {oc14 kV14 dc14 pm14 cd14 ct14 : Value}
    (a14 : PySem.W.nsIn K mainGlobals "kinds_why" = some (some (.ref f14))) (l14 : K.lookup f14 = some ⟨oc14, od14, .func (PySem.W.fnOf "kinds_why" "kinds_why" (defArgs s_kinds_why) (defBody s_kinds_why) (defScope s_kinds_why) .none kV14 dc14 pm14 an14 cd14 ct14), sl14⟩) (c14 : PySem.W.codeIn K cd14 "kinds_why" = true) (k14 : PySem.W.keepIn K (.ref f14) = true)
    {od15 an15 : Option Addr} {sl15 : Array (Option Value)} {oc15 kV15 dc15 pm15 cd15 ct15 : Value}
    (a15 : PySem.W.nsIn K mainGlobals "look_at_shapes" = some (some (.ref f15))) (l15 : K.lookup f15 = some ⟨oc15, od15, .func (PySem.W.fnOf "look_at_shapes" "look_at_shapes" (defArgs s_look_at_shapes) (defBody s_look_at_shapes) (defScope s_look_at_shapes) .none kV15 dc15 pm15 an15 cd15 ct15), sl15⟩) (c15 : PySem.W.codeIn K cd15 "look_at_shapes" = true) (k15 : PySem.W.keepIn K (.ref f15) = true)
    {od16 an16 : Option Addr} {sl16 : Array (Option Value)} {oc16 kV16 dc16 pm16 cd16 ct16 : Value}
    (a16 : PySem.W.nsIn K mainGlobals "static_why" = some (some (.ref f16))) (l16 : K.lookup f16 = some ⟨oc16, od16, .func (PySem.W.fnOf "static_why" "static_why" (defArgs s_static_why) (defBody s_static_why) (defScope s_static_why) .none kV16 dc16 pm16 an16 cd16 ct16), sl16⟩) (c16 : PySem.W.codeIn K cd16 "static_why" = true) (k16 : PySem.W.keepIn K (.ref f16) = true)
    {od17 an17 : Option Addr} {sl17 : Array (Option Value)} {oc17 kV17 dc17 pm17 cd17 ct17 : Value}
    (a17 : PySem.W.nsIn K mainGlobals "look_at_statics" = some (some (.ref f17))) (l17 : K.lookup f17 = some ⟨oc17, od17, .func (PySem.W.fnOf "look_at_statics" "look_at_statics" (defArgs s_look_at_statics) (defBody s_look_at_statics) (defScope s_look_at_statics) .none kV17 dc17 pm17 an17 cd17 ct17), sl17⟩) (c17 : PySem.W.codeIn K cd17 "look_at_statics" = true) (k17 : PySem.W.keepIn K (.ref f17) = true)
    {od18 an18 : Option Addr} {sl18 : Array (Option Value)} {oc18 kV18 dc18 pm18 cd18 ct18 : Value}
    (a18 : PySem.W.nsIn K mainGlobals "entry_fits" = some (some (.ref f18))) (l18 : K.lookup f18 = some ⟨oc18, od18, .func (PySem.W.fnOf "entry_fits" "entry_fits" (defArgs s_entry_fits) (defBody s_entry_fits) (defScope s_entry_fits) .none kV18 dc18 pm18 an18 cd18 ct18), sl18⟩) (c18 : PySem.W.codeIn K cd18 "entry_fits" = true) (k18 : PySem.W.keepIn K (.ref f18) = true)
    {od19 an19 : Option Addr} {sl19 : Array (Option Value)} {oc19 kV19 dc19 pm19 cd19 ct19 : Value}
    (a19 : PySem.W.nsIn K mainGlobals "function_why" = some (some (.ref f19))) (l19 : K.lookup f19 = some ⟨oc19, od19, .func (PySem.W.fnOf "function_why" "function_why" (defArgs s_function_why) (defBody s_function_why) (defScope s_function_why) .none kV19 dc19 pm19 an19 cd19 ct19), sl19⟩) (c19 : PySem.W.codeIn K cd19 "function_why" = true) (k19 : PySem.W.keepIn K (.ref f19) = true)
    {od20 an20 : Option Addr} {sl20 : Array (Option Value)} {oc20 kV20 dc20 pm20 cd20 ct20 : Value}
    (a20 : PySem.W.nsIn K mainGlobals "look_at_functions" = some (some (.ref f20))) (l20 : K.lookup f20 = some ⟨oc20, od20, .func (PySem.W.fnOf "look_at_functions" "look_at_functions" (defArgs s_look_at_functions) (defBody s_look_at_functions) (defScope s_look_at_functions) .none kV20 dc20 pm20 an20 cd20 ct20), sl20⟩) (c20 : PySem.W.codeIn K cd20 "look_at_functions" = true) (k20 : PySem.W.keepIn K (.ref f20) = true)
    {od21 an21 : Option Addr} {sl21 : Array (Option Value)} {oc21 kV21 dc21 pm21 cd21 ct21 : Value}
    (a21 : PySem.W.nsIn K mainGlobals "integer_fits" = some (some (.ref f21))) (l21 : K.lookup f21 = some ⟨oc21, od21, .func (PySem.W.fnOf "integer_fits" "integer_fits" (defArgs s_integer_fits) (defBody s_integer_fits) (defScope s_integer_fits) .none kV21 dc21 pm21 an21 cd21 ct21), sl21⟩) (c21 : PySem.W.codeIn K cd21 "integer_fits" = true) (k21 : PySem.W.keepIn K (.ref f21) = true)
    {od22 an22 : Option Addr} {sl22 : Array (Option Value)} {oc22 kV22 dc22 pm22 cd22 ct22 : Value}
    (a22 : PySem.W.nsIn K mainGlobals "is_integer" = some (some (.ref f22))) (l22 : K.lookup f22 = some ⟨oc22, od22, .func (PySem.W.fnOf "is_integer" "is_integer" (defArgs s_is_integer) (defBody s_is_integer) (defScope s_is_integer) .none kV22 dc22 pm22 an22 cd22 ct22), sl22⟩) (c22 : PySem.W.codeIn K cd22 "is_integer" = true) (k22 : PySem.W.keepIn K (.ref f22) = true)
    {od23 an23 : Option Addr} {sl23 : Array (Option Value)} {oc23 kV23 dc23 pm23 cd23 ct23 : Value}
    (a23 : PySem.W.nsIn K mainGlobals "field_names" = some (some (.ref f23))) (l23 : K.lookup f23 = some ⟨oc23, od23, .func (PySem.W.fnOf "field_names" "field_names" (defArgs s_field_names) (defBody s_field_names) (defScope s_field_names) .none kV23 dc23 pm23 an23 cd23 ct23), sl23⟩) (c23 : PySem.W.codeIn K cd23 "field_names" = true) (k23 : PySem.W.keepIn K (.ref f23) = true)
    {od24 an24 : Option Addr} {sl24 : Array (Option Value)} {oc24 kV24 dc24 pm24 cd24 ct24 : Value}
    (a24 : PySem.W.nsIn K mainGlobals "form_of" = some (some (.ref f24))) (l24 : K.lookup f24 = some ⟨oc24, od24, .func (PySem.W.fnOf "form_of" "form_of" (defArgs s_form_of) (defBody s_form_of) (defScope s_form_of) .none kV24 dc24 pm24 an24 cd24 ct24), sl24⟩) (c24 : PySem.W.codeIn K cd24 "form_of" = true) (k24 : PySem.W.keepIn K (.ref f24) = true)
    {od25 an25 : Option Addr} {sl25 : Array (Option Value)} {oc25 kV25 dc25 pm25 cd25 ct25 : Value}
    (a25 : PySem.W.nsIn K mainGlobals "name_fits" = some (some (.ref f25))) (l25 : K.lookup f25 = some ⟨oc25, od25, .func (PySem.W.fnOf "name_fits" "name_fits" (defArgs s_name_fits) (defBody s_name_fits) (defScope s_name_fits) .none kV25 dc25 pm25 an25 cd25 ct25), sl25⟩) (c25 : PySem.W.codeIn K cd25 "name_fits" = true) (k25 : PySem.W.keepIn K (.ref f25) = true)
    {od26 an26 : Option Addr} {sl26 : Array (Option Value)} {oc26 kV26 dc26 pm26 cd26 ct26 : Value}
    (a26 : PySem.W.nsIn K mainGlobals "operand_fits" = some (some (.ref f26))) (l26 : K.lookup f26 = some ⟨oc26, od26, .func (PySem.W.fnOf "operand_fits" "operand_fits" (defArgs s_operand_fits) (defBody s_operand_fits) (defScope s_operand_fits) .none kV26 dc26 pm26 an26 cd26 ct26), sl26⟩) (c26 : PySem.W.codeIn K cd26 "operand_fits" = true) (k26 : PySem.W.keepIn K (.ref f26) = true)
    {od27 an27 : Option Addr} {sl27 : Array (Option Value)} {oc27 kV27 dc27 pm27 cd27 ct27 : Value}
    (a27 : PySem.W.nsIn K mainGlobals "instruction_why" = some (some (.ref f27))) (l27 : K.lookup f27 = some ⟨oc27, od27, .func (PySem.W.fnOf "instruction_why" "instruction_why" (defArgs s_instruction_why) (defBody s_instruction_why) (defScope s_instruction_why) .none kV27 dc27 pm27 an27 cd27 ct27), sl27⟩) (c27 : PySem.W.codeIn K cd27 "instruction_why" = true) (k27 : PySem.W.keepIn K (.ref f27) = true)
    {od28 an28 : Option Addr} {sl28 : Array (Option Value)} {oc28 kV28 dc28 pm28 cd28 ct28 : Value}
    (a28 : PySem.W.nsIn K mainGlobals "look_at_bodies" = some (some (.ref f28))) (l28 : K.lookup f28 = some ⟨oc28, od28, .func (PySem.W.fnOf "look_at_bodies" "look_at_bodies" (defArgs s_look_at_bodies) (defBody s_look_at_bodies) (defScope s_look_at_bodies) .none kV28 dc28 pm28 an28 cd28 ct28), sl28⟩) (c28 : PySem.W.codeIn K cd28 "look_at_bodies" = true) (k28 : PySem.W.keepIn K (.ref f28) = true)
    {od29 an29 : Option Addr} {sl29 : Array (Option Value)} {oc29 kV29 dc29 pm29 cd29 ct29 : Value}
    (a29 : PySem.W.nsIn K mainGlobals "make_program" = some (some (.ref f29))) (l29 : K.lookup f29 = some ⟨oc29, od29, .func (PySem.W.fnOf "make_program" "make_program" (defArgs s_make_program) (defBody s_make_program) (defScope s_make_program) .none kV29 dc29 pm29 an29 cd29 ct29), sl29⟩) (c29 : PySem.W.codeIn K cd29 "make_program" = true) (k29 : PySem.W.keepIn K (.ref f29) = true)
    {od30 an30 : Option Addr} {sl30 : Array (Option Value)} {oc30 kV30 dc30 pm30 cd30 ct30 : Value}
    (a30 : PySem.W.nsIn K mainGlobals "_law_ahead" = some (some (.ref f30))) (l30 : K.lookup f30 = some ⟨oc30, od30, .func (PySem.W.fnOf "_law_ahead" "_law_ahead" (defArgs s_law_ahead) (defBody s_law_ahead) (defScope s_law_ahead) .none kV30 dc30 pm30 an30 cd30 ct30), sl30⟩) (c30 : PySem.W.codeIn K cd30 "_law_ahead" = true) (k30 : PySem.W.keepIn K (.ref f30) = true)
    {od31 an31 : Option Addr} {sl31 : Array (Option Value)} {oc31 kV31 dc31 pm31 cd31 ct31 : Value}
    (a31 : PySem.W.nsIn K mainGlobals "targets" = some (some (.ref f31))) (l31 : K.lookup f31 = some ⟨oc31, od31, .func (PySem.W.fnOf "targets" "targets" (defArgs s_targets) (defBody s_targets) (defScope s_targets) .none kV31 dc31 pm31 an31 cd31 ct31), sl31⟩) (c31 : PySem.W.codeIn K cd31 "targets" = true) (k31 : PySem.W.keepIn K (.ref f31) = true)
    {od32 an32 : Option Addr} {sl32 : Array (Option Value)} {oc32 kV32 dc32 pm32 cd32 ct32 : Value}
    (a32 : PySem.W.nsIn K mainGlobals "successors" = some (some (.ref f32))) (l32 : K.lookup f32 = some ⟨oc32, od32, .func (PySem.W.fnOf "successors" "successors" (defArgs s_successors) (defBody s_successors) (defScope s_successors) .none kV32 dc32 pm32 an32 cd32 ct32), sl32⟩) (c32 : PySem.W.codeIn K cd32 "successors" = true) (k32 : PySem.W.keepIn K (.ref f32) = true)
    {od33 an33 : Option Addr} {sl33 : Array (Option Value)} {oc33 kV33 dc33 pm33 cd33 ct33 : Value}
    (a33 : PySem.W.nsIn K mainGlobals "runs_off" = some (some (.ref f33))) (l33 : K.lookup f33 = some ⟨oc33, od33, .func (PySem.W.fnOf "runs_off" "runs_off" (defArgs s_runs_off) (defBody s_runs_off) (defScope s_runs_off) .none kV33 dc33 pm33 an33 cd33 ct33), sl33⟩) (c33 : PySem.W.codeIn K cd33 "runs_off" = true) (k33 : PySem.W.keepIn K (.ref f33) = true)
    {od34 an34 : Option Addr} {sl34 : Array (Option Value)} {oc34 kV34 dc34 pm34 cd34 ct34 : Value}
    (a34 : PySem.W.nsIn K mainGlobals "_law_whole" = some (some (.ref f34))) (l34 : K.lookup f34 = some ⟨oc34, od34, .func (PySem.W.fnOf "_law_whole" "_law_whole" (defArgs s_law_whole) (defBody s_law_whole) (defScope s_law_whole) .none kV34 dc34 pm34 an34 cd34 ct34), sl34⟩) (c34 : PySem.W.codeIn K cd34 "_law_whole" = true) (k34 : PySem.W.keepIn K (.ref f34) = true)
    {od35 an35 : Option Addr} {sl35 : Array (Option Value)} {oc35 kV35 dc35 pm35 cd35 ct35 : Value}
    (a35 : PySem.W.nsIn K mainGlobals "_law_same_places" = some (some (.ref f35))) (l35 : K.lookup f35 = some ⟨oc35, od35, .func (PySem.W.fnOf "_law_same_places" "_law_same_places" (defArgs s_law_same_places) (defBody s_law_same_places) (defScope s_law_same_places) .none kV35 dc35 pm35 an35 cd35 ct35), sl35⟩) (c35 : PySem.W.codeIn K cd35 "_law_same_places" = true) (k35 : PySem.W.keepIn K (.ref f35) = true)
    {od36 an36 : Option Addr} {sl36 : Array (Option Value)} {oc36 kV36 dc36 pm36 cd36 ct36 : Value}
    (a36 : PySem.W.nsIn K mainGlobals "_law_unchanged" = some (some (.ref f36))) (l36 : K.lookup f36 = some ⟨oc36, od36, .func (PySem.W.fnOf "_law_unchanged" "_law_unchanged" (defArgs s_law_unchanged) (defBody s_law_unchanged) (defScope s_law_unchanged) .none kV36 dc36 pm36 an36 cd36 ct36), sl36⟩) (c36 : PySem.W.codeIn K cd36 "_law_unchanged" = true) (k36 : PySem.W.keepIn K (.ref f36) = true)
    {od37 an37 : Option Addr} {sl37 : Array (Option Value)} {oc37 kV37 dc37 pm37 cd37 ct37 : Value}
    (a37 : PySem.W.nsIn K mainGlobals "law" = some (some (.ref f37))) (l37 : K.lookup f37 = some ⟨oc37, od37, .func (PySem.W.fnOf "law" "law" (defArgs s_law) (defBody s_law) (defScope s_law) .none kV37 dc37 pm37 an37 cd37 ct37), sl37⟩) (c37 : PySem.W.codeIn K cd37 "law" = true) (k37 : PySem.W.keepIn K (.ref f37) = true)
    {q0 : Addr} (aq0 : PySem.W.nsIn K mainGlobals "QuietError" = some (some (.ref q0)))
    {xC0 xI0 xN0 : Addr} {xnm0 xq0 : Str} {xbs0 : List Value} {xsn0 : List Str} {xsub0 : List Value} {xab0 : Bool} {xcol0 : Option Bool} {xdd0 xod0 xan0 : Option Addr} {xk00 xk10 xk20 xk30 xk50 : Option Value} {xsl0 : Array (Option Value)} {xoc0 xkV0 xdc0 xpm0 xcd0 xct0 : Value}
    (xa0 : PySem.W.nsIn K mainGlobals "BadProgram" = some (some (.ref xC0)))
    (xl0 : K.lookup xC0 = some (excClassObj xnm0 xq0 xC0 xN0 xbs0 [.ref q0, .type "ValueError", .type "Exception", .type "BaseException", .type "object"] true xsn0 xsub0 xab0 xcol0 xdd0 xk00 xk10 xk20 xk30 xk50 "ValueError.__new__"))
    (xs0 : PySem.W.findIn K (.ref xC0) "__setattr__" = some (some (.builtin "object.__setattr__"))) (xi0 : PySem.W.findIn K (.ref xC0) "__init__" = some (some (.ref xI0))) (xt0 : PySem.W.typeIn K (.ref xI0) = some (.type "function"))
    (xf0 : K.lookup xI0 = some ⟨xoc0, xod0, .func (PySem.W.fnOf "__init__" "BadProgram.__init__" (defArgs clsS_BadProgram) (defBody clsS_BadProgram) (defScope clsS_BadProgram) .none xkV0 xdc0 xpm0 xan0 xcd0 xct0), xsl0⟩) (xc0 : PySem.W.codeIn K xcd0 "BadProgram.__init__" = true) (xkI0 : PySem.W.keepIn K (.ref xI0) = true)
    (xkC0 : PySem.W.keepIn K (.ref xC0) = true) (xe0 : PySem.W.subIn K (.ref xC0) (.type "BaseException") = some true) (xT0 : PySem.W.typeIn K (.ref xC0) = some (.type "type"))
    (xn0_0 : PySem.W.findIn K (.ref xC0) "part" = some none)
    (xn0_1 : PySem.W.findIn K (.ref xC0) "number" = some none)
    (xn0_2 : PySem.W.findIn K (.ref xC0) "place" = some none)
    (xn0_3 : PySem.W.findIn K (.ref xC0) "why" = some none)
    {kC0 : Addr} (ka0 : PySem.W.nsIn K mainGlobals "Shape" = some (some (.ref kC0))) (kpg0 : PySem.W.plainGet K kC0 Str.empty = true) (khd0 : PySem.W.hasDictIn K kC0 = true) (kpo0 : PySem.W.plainOver K kC0 = true) (ksa0 : PySem.W.findIn K (.ref kC0) "__setattr__" = some (some (.builtin "object.__setattr__"))) (kmk0 : PySem.W.makesIn K kC0 = true) (kkc0 : PySem.W.keepIn K (.ref kC0) = true)
    (kn0_0 : PySem.W.findIn K (.ref kC0) "name" = some none)
    (kn0_1 : PySem.W.findIn K (.ref kC0) "form" = some none)
    (kn0_2 : PySem.W.findIn K (.ref kC0) "fields" = some none)
    {kf0_2 : Addr} {kod0_2 kan0_2 : Option Addr} {ksl0_2 : Array (Option Value)} {koc0_2 kkV0_2 kdc0_2 kpm0_2 kcd0_2 kct0_2 : Value} (kat0_2 : PySem.W.findIn K (.ref kC0) "__init__" = some (some (.ref kf0_2))) (kfn0_2 : PySem.W.isFn K (.ref kf0_2) = true)
    (kfl0_2 : K.lookup kf0_2 = some ⟨koc0_2, kod0_2, .func (PySem.W.fnOf "__init__" "Shape.__init__" (defArgs clsS_Shape_0) (defBody clsS_Shape_0) (defScope clsS_Shape_0) .none kkV0_2 kdc0_2 kpm0_2 kan0_2 kcd0_2 kct0_2), ksl0_2⟩) (kfc0_2 : PySem.W.codeIn K kcd0_2 "Shape.__init__" = true) (kfk0_2 : PySem.W.keepIn K (.ref kf0_2) = true)
    {kC1 : Addr} (ka1 : PySem.W.nsIn K mainGlobals "Function" = some (some (.ref kC1))) (kpg1 : PySem.W.plainGet K kC1 Str.empty = true) (khd1 : PySem.W.hasDictIn K kC1 = true) (kpo1 : PySem.W.plainOver K kC1 = true) (ksa1 : PySem.W.findIn K (.ref kC1) "__setattr__" = some (some (.builtin "object.__setattr__"))) (kmk1 : PySem.W.makesIn K kC1 = true) (kkc1 : PySem.W.keepIn K (.ref kC1) = true)
    (kn1_0 : PySem.W.findIn K (.ref kC1) "name" = some none)
    (kn1_1 : PySem.W.findIn K (.ref kC1) "params" = some none)
    (kn1_2 : PySem.W.findIn K (.ref kC1) "result" = some none)
    (kn1_3 : PySem.W.findIn K (.ref kC1) "slots" = some none)
    (kn1_4 : PySem.W.findIn K (.ref kC1) "body" = some none)
    {kf1_0 : Addr} {kod1_0 kan1_0 : Option Addr} {ksl1_0 : Array (Option Value)} {koc1_0 kkV1_0 kdc1_0 kpm1_0 kcd1_0 kct1_0 : Value} (kat1_0 : PySem.W.findIn K (.ref kC1) "__init__" = some (some (.ref kf1_0))) (kfn1_0 : PySem.W.isFn K (.ref kf1_0) = true)
    (kfl1_0 : K.lookup kf1_0 = some ⟨koc1_0, kod1_0, .func (PySem.W.fnOf "__init__" "Function.__init__" (defArgs clsS_Function_0) (defBody clsS_Function_0) (defScope clsS_Function_0) .none kkV1_0 kdc1_0 kpm1_0 kan1_0 kcd1_0 kct1_0), ksl1_0⟩) (kfc1_0 : PySem.W.codeIn K kcd1_0 "Function.__init__" = true) (kfk1_0 : PySem.W.keepIn K (.ref kf1_0) = true)
    {kC2 : Addr} (ka2 : PySem.W.nsIn K mainGlobals "Program" = some (some (.ref kC2))) (kpg2 : PySem.W.plainGet K kC2 Str.empty = true) (khd2 : PySem.W.hasDictIn K kC2 = true) (kpo2 : PySem.W.plainOver K kC2 = true) (ksa2 : PySem.W.findIn K (.ref kC2) "__setattr__" = some (some (.builtin "object.__setattr__"))) (kmk2 : PySem.W.makesIn K kC2 = true) (kkc2 : PySem.W.keepIn K (.ref kC2) = true)
    (kn2_0 : PySem.W.findIn K (.ref kC2) "shapes" = some none)
    (kn2_1 : PySem.W.findIn K (.ref kC2) "statics" = some none)
    (kn2_2 : PySem.W.findIn K (.ref kC2) "functions" = some none)
    {kf2_1 : Addr} {kod2_1 kan2_1 : Option Addr} {ksl2_1 : Array (Option Value)} {koc2_1 kkV2_1 kdc2_1 kpm2_1 kcd2_1 kct2_1 : Value} (kat2_1 : PySem.W.findIn K (.ref kC2) "__init__" = some (some (.ref kf2_1))) (kfn2_1 : PySem.W.isFn K (.ref kf2_1) = true)
    (kfl2_1 : K.lookup kf2_1 = some ⟨koc2_1, kod2_1, .func (PySem.W.fnOf "__init__" "Program.__init__" (defArgs clsS_Program_0) (defBody clsS_Program_0) (defScope clsS_Program_0) .none kkV2_1 kdc2_1 kpm2_1 kan2_1 kcd2_1 kct2_1), ksl2_1⟩) (kfc2_1 : PySem.W.codeIn K kcd2_1 "Program.__init__" = true) (kfk2_1 : PySem.W.keepIn K (.ref kf2_1) = true)
    {kf2_3 : Addr} {kod2_3 kan2_3 : Option Addr} {ksl2_3 : Array (Option Value)} {koc2_3 kkV2_3 kdc2_3 kpm2_3 kcd2_3 kct2_3 : Value} (kat2_3 : PySem.W.findIn K (.ref kC2) "data" = some (some (.ref kf2_3))) (kfn2_3 : PySem.W.isFn K (.ref kf2_3) = true)
    (kfl2_3 : K.lookup kf2_3 = some ⟨koc2_3, kod2_3, .func (PySem.W.fnOf "data" "Program.data" (defArgs clsS_Program_1) (defBody clsS_Program_1) (defScope clsS_Program_1) .none kkV2_3 kdc2_3 kpm2_3 kan2_3 kcd2_3 kct2_3), ksl2_3⟩) (kfc2_3 : PySem.W.codeIn K kcd2_3 "Program.data" = true) (kfk2_3 : PySem.W.keepIn K (.ref kf2_3) = true)
    {ta0 : Addr} {to0 : Option Addr} {tn0 : Nat} {ts0 : Array (Option Value)} {tt0_0 tt0_1 tt0_2 : Tok} (v0 : PySem.W.nsIn K mainGlobals "RESERVED" = some (some (.ref ta0))) (w0 : K.lookup ta0 = some ⟨.type "tuple", to0, .seq #[.str "num" tt0_0, .str "mixed" tt0_1, .str "unset" tt0_2] tn0, ts0⟩)
    {t1 : Tok} (v1 : PySem.W.nsIn K mainGlobals "DIGITS" = some (some (.str "0123456789" t1)))
    {t2 : Tok} (v2 : PySem.W.nsIn K mainGlobals "LETTERS" = some (some (.str "abcdefghijklmnopqrstuvwxyz" t2)))
    {ta3 : Addr} {to3 : Option Addr} {tn3 : Nat} {ts3 : Array (Option Value)} {tt3_0 tt3_1 tt3_2 tt3_3 : Tok} (v3 : PySem.W.nsIn K mainGlobals "FORMS" = some (some (.ref ta3))) (w3 : K.lookup ta3 = some ⟨.type "tuple", to3, .seq #[.str "record" tt3_0, .str "array" tt3_1, .str "weak" tt3_2, .str "pair" tt3_3] tn3, ts3⟩)
    {t4 : Tok} (v4 : PySem.W.nsIn K mainGlobals "MIN_NUMBER" = some (some (.int (-2147483648) t4)))
    {t5 : Tok} (v5 : PySem.W.nsIn K mainGlobals "MAX_NUMBER" = some (some (.int 2147483647 t5)))
    {ta6 : Addr} {to6 : Option Addr} {tn6 : Nat} {ts6 : Array (Option Value)} {tt6_0 tt6_1 tt6_2 tt6_3 tt6_4 tt6_5 tt6_6 tt6_7 tt6_8 tt6_9 tt6_10 tt6_11 tt6_12 tt6_13 tt6_14 tt6_15 tt6_16 tt6_17 tt6_18 tt6_19 tt6_20 tt6_21 tt6_22 tt6_23 tt6_24 tt6_25 tt6_26 tt6_27 tt6_28 tt6_29 tt6_30 tt6_31 tt6_32 tt6_33 tt6_34 tt6_35 tt6_36 tt6_37 tt6_38 tt6_39 : Tok} (v6 : PySem.W.nsIn K mainGlobals "OPERATIONS" = some (some (.ref ta6))) (w6 : K.lookup ta6 = some ⟨.type "tuple", to6, .seq #[.str "num" tt6_0, .str "add" tt6_1, .str "sub" tt6_2, .str "mul" tt6_3, .str "div" tt6_4, .str "mod" tt6_5, .str "less" tt6_6, .str "same" tt6_7, .str "flip" tt6_8, .str "drop" tt6_9, .str "copy" tt6_10, .str "swap" tt6_11, .str "load" tt6_12, .str "store" tt6_13, .str "fetch" tt6_14, .str "keep" tt6_15, .str "jump" tt6_16, .str "when" tt6_17, .str "call" tt6_18, .str "back" tt6_19, .str "halt" tt6_20, .str "tell" tt6_21, .str "nil" tt6_22, .str "empty" tt6_23, .str "twin" tt6_24, .str "make" tt6_25, .str "get" tt6_26, .str "put" tt6_27, .str "array" tt6_28, .str "at" tt6_29, .str "set" tt6_30, .str "length" tt6_31, .str "weaken" tt6_32, .str "peek" tt6_33, .str "pair" tt6_34, .str "key" tt6_35, .str "value" tt6_36, .str "watch" tt6_37, .str "parted" tt6_38, .str "settle" tt6_39] tn6, ts6⟩)
    {da7 : Addr} {de7 : Array DictEntry} {dn7 : Nat} (dv7 : PySem.W.nsIn K mainGlobals "OPERANDS" = some (some (.ref da7))) (dw7 : K.lookup da7 = some ⟨.type "dict", none, .dict de7 dn7, #[]⟩) (dl7 : PySem.W.KeysLit w.params de7.toList)
    {dt7_0 : Addr} {do7_0 : Option Addr} {dm7_0 : Nat} {ds7_0 : Array (Option Value)} {dk7_0_0 : Tok} (dx7_0 : PySem.W.nsIn K da7 "num" = some (some (.ref dt7_0))) (dy7_0 : K.lookup dt7_0 = some ⟨.type "tuple", do7_0, .seq #[.str "number" dk7_0_0] dm7_0, ds7_0⟩)
    {dt7_1 : Addr} {do7_1 : Option Addr} {dm7_1 : Nat} {ds7_1 : Array (Option Value)}  (dx7_1 : PySem.W.nsIn K da7 "add" = some (some (.ref dt7_1))) (dy7_1 : K.lookup dt7_1 = some ⟨.type "tuple", do7_1, .seq #[] dm7_1, ds7_1⟩)
    {dt7_2 : Addr} {do7_2 : Option Addr} {dm7_2 : Nat} {ds7_2 : Array (Option Value)}  (dx7_2 : PySem.W.nsIn K da7 "sub" = some (some (.ref dt7_2))) (dy7_2 : K.lookup dt7_2 = some ⟨.type "tuple", do7_2, .seq #[] dm7_2, ds7_2⟩)
    {dt7_3 : Addr} {do7_3 : Option Addr} {dm7_3 : Nat} {ds7_3 : Array (Option Value)}  (dx7_3 : PySem.W.nsIn K da7 "mul" = some (some (.ref dt7_3))) (dy7_3 : K.lookup dt7_3 = some ⟨.type "tuple", do7_3, .seq #[] dm7_3, ds7_3⟩)
    {dt7_4 : Addr} {do7_4 : Option Addr} {dm7_4 : Nat} {ds7_4 : Array (Option Value)}  (dx7_4 : PySem.W.nsIn K da7 "div" = some (some (.ref dt7_4))) (dy7_4 : K.lookup dt7_4 = some ⟨.type "tuple", do7_4, .seq #[] dm7_4, ds7_4⟩)
    {dt7_5 : Addr} {do7_5 : Option Addr} {dm7_5 : Nat} {ds7_5 : Array (Option Value)}  (dx7_5 : PySem.W.nsIn K da7 "mod" = some (some (.ref dt7_5))) (dy7_5 : K.lookup dt7_5 = some ⟨.type "tuple", do7_5, .seq #[] dm7_5, ds7_5⟩)
    {dt7_6 : Addr} {do7_6 : Option Addr} {dm7_6 : Nat} {ds7_6 : Array (Option Value)}  (dx7_6 : PySem.W.nsIn K da7 "less" = some (some (.ref dt7_6))) (dy7_6 : K.lookup dt7_6 = some ⟨.type "tuple", do7_6, .seq #[] dm7_6, ds7_6⟩)
    {dt7_7 : Addr} {do7_7 : Option Addr} {dm7_7 : Nat} {ds7_7 : Array (Option Value)}  (dx7_7 : PySem.W.nsIn K da7 "same" = some (some (.ref dt7_7))) (dy7_7 : K.lookup dt7_7 = some ⟨.type "tuple", do7_7, .seq #[] dm7_7, ds7_7⟩)
    {dt7_8 : Addr} {do7_8 : Option Addr} {dm7_8 : Nat} {ds7_8 : Array (Option Value)}  (dx7_8 : PySem.W.nsIn K da7 "flip" = some (some (.ref dt7_8))) (dy7_8 : K.lookup dt7_8 = some ⟨.type "tuple", do7_8, .seq #[] dm7_8, ds7_8⟩)
    {dt7_9 : Addr} {do7_9 : Option Addr} {dm7_9 : Nat} {ds7_9 : Array (Option Value)}  (dx7_9 : PySem.W.nsIn K da7 "drop" = some (some (.ref dt7_9))) (dy7_9 : K.lookup dt7_9 = some ⟨.type "tuple", do7_9, .seq #[] dm7_9, ds7_9⟩)
    {dt7_10 : Addr} {do7_10 : Option Addr} {dm7_10 : Nat} {ds7_10 : Array (Option Value)}  (dx7_10 : PySem.W.nsIn K da7 "copy" = some (some (.ref dt7_10))) (dy7_10 : K.lookup dt7_10 = some ⟨.type "tuple", do7_10, .seq #[] dm7_10, ds7_10⟩)
    {dt7_11 : Addr} {do7_11 : Option Addr} {dm7_11 : Nat} {ds7_11 : Array (Option Value)}  (dx7_11 : PySem.W.nsIn K da7 "swap" = some (some (.ref dt7_11))) (dy7_11 : K.lookup dt7_11 = some ⟨.type "tuple", do7_11, .seq #[] dm7_11, ds7_11⟩)
    {dt7_12 : Addr} {do7_12 : Option Addr} {dm7_12 : Nat} {ds7_12 : Array (Option Value)} {dk7_12_0 : Tok} (dx7_12 : PySem.W.nsIn K da7 "load" = some (some (.ref dt7_12))) (dy7_12 : K.lookup dt7_12 = some ⟨.type "tuple", do7_12, .seq #[.str "slot" dk7_12_0] dm7_12, ds7_12⟩)
    {dt7_13 : Addr} {do7_13 : Option Addr} {dm7_13 : Nat} {ds7_13 : Array (Option Value)} {dk7_13_0 : Tok} (dx7_13 : PySem.W.nsIn K da7 "store" = some (some (.ref dt7_13))) (dy7_13 : K.lookup dt7_13 = some ⟨.type "tuple", do7_13, .seq #[.str "slot" dk7_13_0] dm7_13, ds7_13⟩)
    {dt7_14 : Addr} {do7_14 : Option Addr} {dm7_14 : Nat} {ds7_14 : Array (Option Value)} {dk7_14_0 : Tok} (dx7_14 : PySem.W.nsIn K da7 "fetch" = some (some (.ref dt7_14))) (dy7_14 : K.lookup dt7_14 = some ⟨.type "tuple", do7_14, .seq #[.str "static" dk7_14_0] dm7_14, ds7_14⟩)
    {dt7_15 : Addr} {do7_15 : Option Addr} {dm7_15 : Nat} {ds7_15 : Array (Option Value)} {dk7_15_0 : Tok} (dx7_15 : PySem.W.nsIn K da7 "keep" = some (some (.ref dt7_15))) (dy7_15 : K.lookup dt7_15 = some ⟨.type "tuple", do7_15, .seq #[.str "static" dk7_15_0] dm7_15, ds7_15⟩)
    {dt7_16 : Addr} {do7_16 : Option Addr} {dm7_16 : Nat} {ds7_16 : Array (Option Value)} {dk7_16_0 : Tok} (dx7_16 : PySem.W.nsIn K da7 "jump" = some (some (.ref dt7_16))) (dy7_16 : K.lookup dt7_16 = some ⟨.type "tuple", do7_16, .seq #[.str "place" dk7_16_0] dm7_16, ds7_16⟩)
    {dt7_17 : Addr} {do7_17 : Option Addr} {dm7_17 : Nat} {ds7_17 : Array (Option Value)} {dk7_17_0 : Tok} (dx7_17 : PySem.W.nsIn K da7 "when" = some (some (.ref dt7_17))) (dy7_17 : K.lookup dt7_17 = some ⟨.type "tuple", do7_17, .seq #[.str "place" dk7_17_0] dm7_17, ds7_17⟩)
    {dt7_18 : Addr} {do7_18 : Option Addr} {dm7_18 : Nat} {ds7_18 : Array (Option Value)} {dk7_18_0 : Tok} (dx7_18 : PySem.W.nsIn K da7 "call" = some (some (.ref dt7_18))) (dy7_18 : K.lookup dt7_18 = some ⟨.type "tuple", do7_18, .seq #[.str "function" dk7_18_0] dm7_18, ds7_18⟩)
    {dt7_19 : Addr} {do7_19 : Option Addr} {dm7_19 : Nat} {ds7_19 : Array (Option Value)}  (dx7_19 : PySem.W.nsIn K da7 "back" = some (some (.ref dt7_19))) (dy7_19 : K.lookup dt7_19 = some ⟨.type "tuple", do7_19, .seq #[] dm7_19, ds7_19⟩)
    {dt7_20 : Addr} {do7_20 : Option Addr} {dm7_20 : Nat} {ds7_20 : Array (Option Value)}  (dx7_20 : PySem.W.nsIn K da7 "halt" = some (some (.ref dt7_20))) (dy7_20 : K.lookup dt7_20 = some ⟨.type "tuple", do7_20, .seq #[] dm7_20, ds7_20⟩)
    {dt7_21 : Addr} {do7_21 : Option Addr} {dm7_21 : Nat} {ds7_21 : Array (Option Value)}  (dx7_21 : PySem.W.nsIn K da7 "tell" = some (some (.ref dt7_21))) (dy7_21 : K.lookup dt7_21 = some ⟨.type "tuple", do7_21, .seq #[] dm7_21, ds7_21⟩)
    {dt7_22 : Addr} {do7_22 : Option Addr} {dm7_22 : Nat} {ds7_22 : Array (Option Value)} {dk7_22_0 : Tok} (dx7_22 : PySem.W.nsIn K da7 "nil" = some (some (.ref dt7_22))) (dy7_22 : K.lookup dt7_22 = some ⟨.type "tuple", do7_22, .seq #[.str "shape" dk7_22_0] dm7_22, ds7_22⟩)
    {dt7_23 : Addr} {do7_23 : Option Addr} {dm7_23 : Nat} {ds7_23 : Array (Option Value)} {dk7_23_0 : Tok} (dx7_23 : PySem.W.nsIn K da7 "empty" = some (some (.ref dt7_23))) (dy7_23 : K.lookup dt7_23 = some ⟨.type "tuple", do7_23, .seq #[.str "shape" dk7_23_0] dm7_23, ds7_23⟩)
    {dt7_24 : Addr} {do7_24 : Option Addr} {dm7_24 : Nat} {ds7_24 : Array (Option Value)} {dk7_24_0 : Tok} (dx7_24 : PySem.W.nsIn K da7 "twin" = some (some (.ref dt7_24))) (dy7_24 : K.lookup dt7_24 = some ⟨.type "tuple", do7_24, .seq #[.str "shape" dk7_24_0] dm7_24, ds7_24⟩)
    {dt7_25 : Addr} {do7_25 : Option Addr} {dm7_25 : Nat} {ds7_25 : Array (Option Value)} {dk7_25_0 : Tok} (dx7_25 : PySem.W.nsIn K da7 "make" = some (some (.ref dt7_25))) (dy7_25 : K.lookup dt7_25 = some ⟨.type "tuple", do7_25, .seq #[.str "record" dk7_25_0] dm7_25, ds7_25⟩)
    {dt7_26 : Addr} {do7_26 : Option Addr} {dm7_26 : Nat} {ds7_26 : Array (Option Value)} {dk7_26_0 dk7_26_1 : Tok} (dx7_26 : PySem.W.nsIn K da7 "get" = some (some (.ref dt7_26))) (dy7_26 : K.lookup dt7_26 = some ⟨.type "tuple", do7_26, .seq #[.str "record" dk7_26_0, .str "field" dk7_26_1] dm7_26, ds7_26⟩)
    {dt7_27 : Addr} {do7_27 : Option Addr} {dm7_27 : Nat} {ds7_27 : Array (Option Value)} {dk7_27_0 dk7_27_1 : Tok} (dx7_27 : PySem.W.nsIn K da7 "put" = some (some (.ref dt7_27))) (dy7_27 : K.lookup dt7_27 = some ⟨.type "tuple", do7_27, .seq #[.str "record" dk7_27_0, .str "field" dk7_27_1] dm7_27, ds7_27⟩)
    {dt7_28 : Addr} {do7_28 : Option Addr} {dm7_28 : Nat} {ds7_28 : Array (Option Value)} {dk7_28_0 : Tok} (dx7_28 : PySem.W.nsIn K da7 "array" = some (some (.ref dt7_28))) (dy7_28 : K.lookup dt7_28 = some ⟨.type "tuple", do7_28, .seq #[.str "array" dk7_28_0] dm7_28, ds7_28⟩)
    {dt7_29 : Addr} {do7_29 : Option Addr} {dm7_29 : Nat} {ds7_29 : Array (Option Value)} {dk7_29_0 : Tok} (dx7_29 : PySem.W.nsIn K da7 "at" = some (some (.ref dt7_29))) (dy7_29 : K.lookup dt7_29 = some ⟨.type "tuple", do7_29, .seq #[.str "array" dk7_29_0] dm7_29, ds7_29⟩)
    {dt7_30 : Addr} {do7_30 : Option Addr} {dm7_30 : Nat} {ds7_30 : Array (Option Value)} {dk7_30_0 : Tok} (dx7_30 : PySem.W.nsIn K da7 "set" = some (some (.ref dt7_30))) (dy7_30 : K.lookup dt7_30 = some ⟨.type "tuple", do7_30, .seq #[.str "array" dk7_30_0] dm7_30, ds7_30⟩)
    {dt7_31 : Addr} {do7_31 : Option Addr} {dm7_31 : Nat} {ds7_31 : Array (Option Value)} {dk7_31_0 : Tok} (dx7_31 : PySem.W.nsIn K da7 "length" = some (some (.ref dt7_31))) (dy7_31 : K.lookup dt7_31 = some ⟨.type "tuple", do7_31, .seq #[.str "array" dk7_31_0] dm7_31, ds7_31⟩)
    {dt7_32 : Addr} {do7_32 : Option Addr} {dm7_32 : Nat} {ds7_32 : Array (Option Value)} {dk7_32_0 : Tok} (dx7_32 : PySem.W.nsIn K da7 "weaken" = some (some (.ref dt7_32))) (dy7_32 : K.lookup dt7_32 = some ⟨.type "tuple", do7_32, .seq #[.str "weak" dk7_32_0] dm7_32, ds7_32⟩)
    {dt7_33 : Addr} {do7_33 : Option Addr} {dm7_33 : Nat} {ds7_33 : Array (Option Value)} {dk7_33_0 : Tok} (dx7_33 : PySem.W.nsIn K da7 "peek" = some (some (.ref dt7_33))) (dy7_33 : K.lookup dt7_33 = some ⟨.type "tuple", do7_33, .seq #[.str "weak" dk7_33_0] dm7_33, ds7_33⟩)
    {dt7_34 : Addr} {do7_34 : Option Addr} {dm7_34 : Nat} {ds7_34 : Array (Option Value)} {dk7_34_0 : Tok} (dx7_34 : PySem.W.nsIn K da7 "pair" = some (some (.ref dt7_34))) (dy7_34 : K.lookup dt7_34 = some ⟨.type "tuple", do7_34, .seq #[.str "pair" dk7_34_0] dm7_34, ds7_34⟩)
    {dt7_35 : Addr} {do7_35 : Option Addr} {dm7_35 : Nat} {ds7_35 : Array (Option Value)} {dk7_35_0 : Tok} (dx7_35 : PySem.W.nsIn K da7 "key" = some (some (.ref dt7_35))) (dy7_35 : K.lookup dt7_35 = some ⟨.type "tuple", do7_35, .seq #[.str "pair" dk7_35_0] dm7_35, ds7_35⟩)
    {dt7_36 : Addr} {do7_36 : Option Addr} {dm7_36 : Nat} {ds7_36 : Array (Option Value)} {dk7_36_0 : Tok} (dx7_36 : PySem.W.nsIn K da7 "value" = some (some (.ref dt7_36))) (dy7_36 : K.lookup dt7_36 = some ⟨.type "tuple", do7_36, .seq #[.str "pair" dk7_36_0] dm7_36, ds7_36⟩)
    {dt7_37 : Addr} {do7_37 : Option Addr} {dm7_37 : Nat} {ds7_37 : Array (Option Value)} {dk7_37_0 : Tok} (dx7_37 : PySem.W.nsIn K da7 "watch" = some (some (.ref dt7_37))) (dy7_37 : K.lookup dt7_37 = some ⟨.type "tuple", do7_37, .seq #[.str "shape" dk7_37_0] dm7_37, ds7_37⟩)
    {dt7_38 : Addr} {do7_38 : Option Addr} {dm7_38 : Nat} {ds7_38 : Array (Option Value)} {dk7_38_0 : Tok} (dx7_38 : PySem.W.nsIn K da7 "parted" = some (some (.ref dt7_38))) (dy7_38 : K.lookup dt7_38 = some ⟨.type "tuple", do7_38, .seq #[.str "shape" dk7_38_0] dm7_38, ds7_38⟩)
    {dt7_39 : Addr} {do7_39 : Option Addr} {dm7_39 : Nat} {ds7_39 : Array (Option Value)}  (dx7_39 : PySem.W.nsIn K da7 "settle" = some (some (.ref dt7_39))) (dy7_39 : K.lookup dt7_39 = some ⟨.type "tuple", do7_39, .seq #[] dm7_39, ds7_39⟩)
    (z0 : PySem.W.nsIn K mainGlobals "bool" = some none)
    (z1 : PySem.W.nsIn K mainGlobals "int" = some none)
    (z2 : PySem.W.nsIn K mainGlobals "isinstance" = some none)
    (z3 : PySem.W.nsIn K mainGlobals "len" = some none)
    (z4 : PySem.W.nsIn K mainGlobals "list" = some none)
    (z5 : PySem.W.nsIn K mainGlobals "max" = some none)
    (z6 : PySem.W.nsIn K mainGlobals "min" = some none)
    (z7 : PySem.W.nsIn K mainGlobals "range" = some none)
    (z8 : PySem.W.nsIn K mainGlobals "str" = some none)
    (z9 : PySem.W.nsIn K mainGlobals "tuple" = some none)
    : Tx w K mg :=
  { d_law_digits := ⟨f0, _, fun_mk (st := s_law_digits) l0 c0 k0, PySem.W.mg_of X G a0⟩
    d_law_cell := ⟨f1, _, fun_mk (st := s_law_cell) l1 c1 k1, PySem.W.mg_of X G a1⟩
    d_law_small_shapes := ⟨f2, _, fun_mk (st := s_law_small_shapes) l2 c2 k2, PySem.W.mg_of X G a2⟩
    d_law_any_deed := ⟨f3, _, fun_mk (st := s_law_any_deed) l3 c3 k3, PySem.W.mg_of X G a3⟩
    d_law_flow_body := ⟨f4, _, fun_mk (st := s_law_flow_body) l4 c4 k4, PySem.W.mg_of X G a4⟩
    d_law_flow_world := ⟨f5, _, fun_mk (st := s_law_flow_world) l5 c5 k5, PySem.W.mg_of X G a5⟩
    d_law_parts := ⟨f6, _, fun_mk (st := s_law_parts) l6 c6 k6, PySem.W.mg_of X G a6⟩
    d_counts_why := ⟨f7, _, fun_mk (st := s_counts_why) l7 c7 k7, PySem.W.mg_of X G a7⟩
    d_is_name := ⟨f8, _, fun_mk (st := s_is_name) l8 c8 k8, PySem.W.mg_of X G a8⟩
    d_name_why := ⟨f9, _, fun_mk (st := s_name_why) l9 c9 k9, PySem.W.mg_of X G a9⟩
    d_record_names_fit := ⟨f10, _, fun_mk (st := s_record_names_fit) l10 c10 k10, PySem.W.mg_of X G a10⟩
    d_fields_fit := ⟨f11, _, fun_mk (st := s_fields_fit) l11 c11 k11, PySem.W.mg_of X G a11⟩
    d_shape_why := ⟨f12, _, fun_mk (st := s_shape_why) l12 c12 k12, PySem.W.mg_of X G a12⟩
    d_is_kind := ⟨f13, _, fun_mk (st := s_is_kind) l13 c13 k13, PySem.W.mg_of X G a13⟩
    d_kinds_why := ⟨f14, _, fun_mk (st := s_kinds_why) l14 c14 k14, PySem.W.mg_of X G a14⟩
    d_look_at_shapes := ⟨f15, _, fun_mk (st := s_look_at_shapes) l15 c15 k15, PySem.W.mg_of X G a15⟩
    d_static_why := ⟨f16, _, fun_mk (st := s_static_why) l16 c16 k16, PySem.W.mg_of X G a16⟩
    d_look_at_statics := ⟨f17, _, fun_mk (st := s_look_at_statics) l17 c17 k17, PySem.W.mg_of X G a17⟩
    d_entry_fits := ⟨f18, _, fun_mk (st := s_entry_fits) l18 c18 k18, PySem.W.mg_of X G a18⟩
    d_function_why := ⟨f19, _, fun_mk (st := s_function_why) l19 c19 k19, PySem.W.mg_of X G a19⟩
    d_look_at_functions := ⟨f20, _, fun_mk (st := s_look_at_functions) l20 c20 k20, PySem.W.mg_of X G a20⟩
    d_integer_fits := ⟨f21, _, fun_mk (st := s_integer_fits) l21 c21 k21, PySem.W.mg_of X G a21⟩
    d_is_integer := ⟨f22, _, fun_mk (st := s_is_integer) l22 c22 k22, PySem.W.mg_of X G a22⟩
    d_field_names := ⟨f23, _, fun_mk (st := s_field_names) l23 c23 k23, PySem.W.mg_of X G a23⟩
    d_form_of := ⟨f24, _, fun_mk (st := s_form_of) l24 c24 k24, PySem.W.mg_of X G a24⟩
    d_name_fits := ⟨f25, _, fun_mk (st := s_name_fits) l25 c25 k25, PySem.W.mg_of X G a25⟩
    d_operand_fits := ⟨f26, _, fun_mk (st := s_operand_fits) l26 c26 k26, PySem.W.mg_of X G a26⟩
    d_instruction_why := ⟨f27, _, fun_mk (st := s_instruction_why) l27 c27 k27, PySem.W.mg_of X G a27⟩
    d_look_at_bodies := ⟨f28, _, fun_mk (st := s_look_at_bodies) l28 c28 k28, PySem.W.mg_of X G a28⟩
    d_make_program := ⟨f29, _, fun_mk (st := s_make_program) l29 c29 k29, PySem.W.mg_of X G a29⟩
    d_law_ahead := ⟨f30, _, fun_mk (st := s_law_ahead) l30 c30 k30, PySem.W.mg_of X G a30⟩
    d_targets := ⟨f31, _, fun_mk (st := s_targets) l31 c31 k31, PySem.W.mg_of X G a31⟩
    d_successors := ⟨f32, _, fun_mk (st := s_successors) l32 c32 k32, PySem.W.mg_of X G a32⟩
    d_runs_off := ⟨f33, _, fun_mk (st := s_runs_off) l33 c33 k33, PySem.W.mg_of X G a33⟩
    d_law_whole := ⟨f34, _, fun_mk (st := s_law_whole) l34 c34 k34, PySem.W.mg_of X G a34⟩
    d_law_same_places := ⟨f35, _, fun_mk (st := s_law_same_places) l35 c35 k35, PySem.W.mg_of X G a35⟩
    d_law_unchanged := ⟨f36, _, fun_mk (st := s_law_unchanged) l36 c36 k36, PySem.W.mg_of X G a36⟩
    d_law := ⟨f37, _, fun_mk (st := s_law) l37 c37 k37, PySem.W.mg_of X G a37⟩
    x_BadProgram := ⟨xC0, xI0, _, PySem.W.mg_of X G xa0, ⟨⟨_, _, _, _, _, _, _, _, _, _, _, _, _, _, _, xl0, rfl⟩, xs0, xe0, xT0, xkC0⟩, (all_cons xn0_0 (all_cons xn0_1 (all_cons xn0_2 (all_cons xn0_3 all_nil)))), xi0, xt0, fun_mk (st := clsS_BadProgram) xf0 xc0 xkI0⟩
    k_Shape := ⟨kC0, kf0_2, _, PySem.W.mg_of X G ka0, ⟨kpg0, khd0, kpo0, ksa0⟩, (all_cons kn0_0 (all_cons kn0_1 (all_cons kn0_2 all_nil))), ⟨kmk0, kat0_2, kfn0_2, kkc0⟩, fun_mk (st := clsS_Shape_0) kfl0_2 kfc0_2 kfk0_2⟩
    k_Function := ⟨kC1, kf1_0, _, PySem.W.mg_of X G ka1, ⟨kpg1, khd1, kpo1, ksa1⟩, (all_cons kn1_0 (all_cons kn1_1 (all_cons kn1_2 (all_cons kn1_3 (all_cons kn1_4 all_nil))))), ⟨kmk1, kat1_0, kfn1_0, kkc1⟩, fun_mk (st := clsS_Function_0) kfl1_0 kfc1_0 kfk1_0⟩
    k_Program := ⟨kC2, kf2_1, _, PySem.W.mg_of X G ka2, ⟨kpg2, khd2, kpo2, ksa2⟩, (all_cons kn2_0 (all_cons kn2_1 (all_cons kn2_2 all_nil))), ⟨kmk2, kat2_1, kfn2_1, kkc2⟩, fun_mk (st := clsS_Program_0) kfl2_1 kfc2_1 kfk2_1⟩
    k_Program_data := ⟨kC2, kf2_3, _, PySem.W.mg_of X G ka2, ⟨kpg2, khd2, kpo2, ksa2⟩, ⟨kat2_3, kfn2_3, kfk2_3⟩, fun_mk (st := clsS_Program_1) kfl2_3 kfc2_3 kfk2_3⟩
    c_RESERVED := ⟨ta0, _, _, tn0, PySem.W.mg_of X G v0, w0, rfl, rfl, (by show 3 ≤ sizeLine; decide), (.cons ⟨_, rfl⟩ (.cons ⟨_, rfl⟩ (.cons ⟨_, rfl⟩ .nil)))⟩
    c_DIGITS := ⟨t1, PySem.W.mg_of X G v1⟩
    c_LETTERS := ⟨t2, PySem.W.mg_of X G v2⟩
    c_FORMS := ⟨ta3, _, _, tn3, PySem.W.mg_of X G v3, w3, rfl, rfl, (by show 4 ≤ sizeLine; decide), (.cons ⟨_, rfl⟩ (.cons ⟨_, rfl⟩ (.cons ⟨_, rfl⟩ (.cons ⟨_, rfl⟩ .nil))))⟩
    c_MIN_NUMBER := ⟨t4, PySem.W.mg_of X G v4⟩
    c_MAX_NUMBER := ⟨t5, PySem.W.mg_of X G v5⟩
    c_OPERATIONS := ⟨ta6, _, _, tn6, PySem.W.mg_of X G v6, w6, rfl, rfl, (by show 40 ≤ sizeLine; decide), (.cons ⟨_, rfl⟩ (.cons ⟨_, rfl⟩ (.cons ⟨_, rfl⟩ (.cons ⟨_, rfl⟩ (.cons ⟨_, rfl⟩ (.cons ⟨_, rfl⟩ (.cons ⟨_, rfl⟩ (.cons ⟨_, rfl⟩ (.cons ⟨_, rfl⟩ (.cons ⟨_, rfl⟩ (.cons ⟨_, rfl⟩ (.cons ⟨_, rfl⟩ (.cons ⟨_, rfl⟩ (.cons ⟨_, rfl⟩ (.cons ⟨_, rfl⟩ (.cons ⟨_, rfl⟩ (.cons ⟨_, rfl⟩ (.cons ⟨_, rfl⟩ (.cons ⟨_, rfl⟩ (.cons ⟨_, rfl⟩ (.cons ⟨_, rfl⟩ (.cons ⟨_, rfl⟩ (.cons ⟨_, rfl⟩ (.cons ⟨_, rfl⟩ (.cons ⟨_, rfl⟩ (.cons ⟨_, rfl⟩ (.cons ⟨_, rfl⟩ (.cons ⟨_, rfl⟩ (.cons ⟨_, rfl⟩ (.cons ⟨_, rfl⟩ (.cons ⟨_, rfl⟩ (.cons ⟨_, rfl⟩ (.cons ⟨_, rfl⟩ (.cons ⟨_, rfl⟩ (.cons ⟨_, rfl⟩ (.cons ⟨_, rfl⟩ (.cons ⟨_, rfl⟩ (.cons ⟨_, rfl⟩ (.cons ⟨_, rfl⟩ (.cons ⟨_, rfl⟩ .nil))))))))))))))))))))))))))))))))))))))))⟩
    c_OPERANDS := ⟨da7, PySem.W.mg_of X G dv7, (dct_cons (vs := [.str "number"]) dw7 dl7 dx7_0 dy7_0 rfl rfl (by show 1 ≤ sizeLine; decide) (.cons ⟨_, rfl⟩ .nil) rfl (dct_cons (vs := []) dw7 dl7 dx7_1 dy7_1 rfl rfl (by show 0 ≤ sizeLine; decide) .nil rfl (dct_cons (vs := []) dw7 dl7 dx7_2 dy7_2 rfl rfl (by show 0 ≤ sizeLine; decide) .nil rfl (dct_cons (vs := []) dw7 dl7 dx7_3 dy7_3 rfl rfl (by show 0 ≤ sizeLine; decide) .nil rfl (dct_cons (vs := []) dw7 dl7 dx7_4 dy7_4 rfl rfl (by show 0 ≤ sizeLine; decide) .nil rfl (dct_cons (vs := []) dw7 dl7 dx7_5 dy7_5 rfl rfl (by show 0 ≤ sizeLine; decide) .nil rfl (dct_cons (vs := []) dw7 dl7 dx7_6 dy7_6 rfl rfl (by show 0 ≤ sizeLine; decide) .nil rfl (dct_cons (vs := []) dw7 dl7 dx7_7 dy7_7 rfl rfl (by show 0 ≤ sizeLine; decide) .nil rfl (dct_cons (vs := []) dw7 dl7 dx7_8 dy7_8 rfl rfl (by show 0 ≤ sizeLine; decide) .nil rfl (dct_cons (vs := []) dw7 dl7 dx7_9 dy7_9 rfl rfl (by show 0 ≤ sizeLine; decide) .nil rfl (dct_cons (vs := []) dw7 dl7 dx7_10 dy7_10 rfl rfl (by show 0 ≤ sizeLine; decide) .nil rfl (dct_cons (vs := []) dw7 dl7 dx7_11 dy7_11 rfl rfl (by show 0 ≤ sizeLine; decide) .nil rfl (dct_cons (vs := [.str "slot"]) dw7 dl7 dx7_12 dy7_12 rfl rfl (by show 1 ≤ sizeLine; decide) (.cons ⟨_, rfl⟩ .nil) rfl (dct_cons (vs := [.str "slot"]) dw7 dl7 dx7_13 dy7_13 rfl rfl (by show 1 ≤ sizeLine; decide) (.cons ⟨_, rfl⟩ .nil) rfl (dct_cons (vs := [.str "static"]) dw7 dl7 dx7_14 dy7_14 rfl rfl (by show 1 ≤ sizeLine; decide) (.cons ⟨_, rfl⟩ .nil) rfl (dct_cons (vs := [.str "static"]) dw7 dl7 dx7_15 dy7_15 rfl rfl (by show 1 ≤ sizeLine; decide) (.cons ⟨_, rfl⟩ .nil) rfl (dct_cons (vs := [.str "place"]) dw7 dl7 dx7_16 dy7_16 rfl rfl (by show 1 ≤ sizeLine; decide) (.cons ⟨_, rfl⟩ .nil) rfl (dct_cons (vs := [.str "place"]) dw7 dl7 dx7_17 dy7_17 rfl rfl (by show 1 ≤ sizeLine; decide) (.cons ⟨_, rfl⟩ .nil) rfl (dct_cons (vs := [.str "function"]) dw7 dl7 dx7_18 dy7_18 rfl rfl (by show 1 ≤ sizeLine; decide) (.cons ⟨_, rfl⟩ .nil) rfl (dct_cons (vs := []) dw7 dl7 dx7_19 dy7_19 rfl rfl (by show 0 ≤ sizeLine; decide) .nil rfl (dct_cons (vs := []) dw7 dl7 dx7_20 dy7_20 rfl rfl (by show 0 ≤ sizeLine; decide) .nil rfl (dct_cons (vs := []) dw7 dl7 dx7_21 dy7_21 rfl rfl (by show 0 ≤ sizeLine; decide) .nil rfl (dct_cons (vs := [.str "shape"]) dw7 dl7 dx7_22 dy7_22 rfl rfl (by show 1 ≤ sizeLine; decide) (.cons ⟨_, rfl⟩ .nil) rfl (dct_cons (vs := [.str "shape"]) dw7 dl7 dx7_23 dy7_23 rfl rfl (by show 1 ≤ sizeLine; decide) (.cons ⟨_, rfl⟩ .nil) rfl (dct_cons (vs := [.str "shape"]) dw7 dl7 dx7_24 dy7_24 rfl rfl (by show 1 ≤ sizeLine; decide) (.cons ⟨_, rfl⟩ .nil) rfl (dct_cons (vs := [.str "record"]) dw7 dl7 dx7_25 dy7_25 rfl rfl (by show 1 ≤ sizeLine; decide) (.cons ⟨_, rfl⟩ .nil) rfl (dct_cons (vs := [.str "record", .str "field"]) dw7 dl7 dx7_26 dy7_26 rfl rfl (by show 2 ≤ sizeLine; decide) (.cons ⟨_, rfl⟩ (.cons ⟨_, rfl⟩ .nil)) rfl (dct_cons (vs := [.str "record", .str "field"]) dw7 dl7 dx7_27 dy7_27 rfl rfl (by show 2 ≤ sizeLine; decide) (.cons ⟨_, rfl⟩ (.cons ⟨_, rfl⟩ .nil)) rfl (dct_cons (vs := [.str "array"]) dw7 dl7 dx7_28 dy7_28 rfl rfl (by show 1 ≤ sizeLine; decide) (.cons ⟨_, rfl⟩ .nil) rfl (dct_cons (vs := [.str "array"]) dw7 dl7 dx7_29 dy7_29 rfl rfl (by show 1 ≤ sizeLine; decide) (.cons ⟨_, rfl⟩ .nil) rfl (dct_cons (vs := [.str "array"]) dw7 dl7 dx7_30 dy7_30 rfl rfl (by show 1 ≤ sizeLine; decide) (.cons ⟨_, rfl⟩ .nil) rfl (dct_cons (vs := [.str "array"]) dw7 dl7 dx7_31 dy7_31 rfl rfl (by show 1 ≤ sizeLine; decide) (.cons ⟨_, rfl⟩ .nil) rfl (dct_cons (vs := [.str "weak"]) dw7 dl7 dx7_32 dy7_32 rfl rfl (by show 1 ≤ sizeLine; decide) (.cons ⟨_, rfl⟩ .nil) rfl (dct_cons (vs := [.str "weak"]) dw7 dl7 dx7_33 dy7_33 rfl rfl (by show 1 ≤ sizeLine; decide) (.cons ⟨_, rfl⟩ .nil) rfl (dct_cons (vs := [.str "pair"]) dw7 dl7 dx7_34 dy7_34 rfl rfl (by show 1 ≤ sizeLine; decide) (.cons ⟨_, rfl⟩ .nil) rfl (dct_cons (vs := [.str "pair"]) dw7 dl7 dx7_35 dy7_35 rfl rfl (by show 1 ≤ sizeLine; decide) (.cons ⟨_, rfl⟩ .nil) rfl (dct_cons (vs := [.str "pair"]) dw7 dl7 dx7_36 dy7_36 rfl rfl (by show 1 ≤ sizeLine; decide) (.cons ⟨_, rfl⟩ .nil) rfl (dct_cons (vs := [.str "shape"]) dw7 dl7 dx7_37 dy7_37 rfl rfl (by show 1 ≤ sizeLine; decide) (.cons ⟨_, rfl⟩ .nil) rfl (dct_cons (vs := [.str "shape"]) dw7 dl7 dx7_38 dy7_38 rfl rfl (by show 1 ≤ sizeLine; decide) (.cons ⟨_, rfl⟩ .nil) rfl (dct_cons (vs := []) dw7 dl7 dx7_39 dy7_39 rfl rfl (by show 0 ≤ sizeLine; decide) .nil rfl dct_nil))))))))))))))))))))))))))))))))))))))))⟩
    z_bool := PySem.W.mg_none_of X G z0
    z_int := PySem.W.mg_none_of X G z1
    z_isinstance := PySem.W.mg_none_of X G z2
    z_len := PySem.W.mg_none_of X G z3
    z_list := PySem.W.mg_none_of X G z4
    z_max := PySem.W.mg_none_of X G z5
    z_min := PySem.W.mg_none_of X G z6
    z_range := PySem.W.mg_none_of X G z7
    z_str := PySem.W.mg_none_of X G z8
    z_tuple := PySem.W.mg_none_of X G z9 }
/-! ### the law's own end -/
theorem law_bind {K : PySem.W.Frag} {f : Addr} {fd : FuncData} (F : Fun K "law" "law" s_law f fd) (s : Shared) (u : Value) : BindsTo s fd ⟨[u], []⟩ [("_law_script", u)] := by
  obtain ⟨oc, od, kV, doc, pm, an, cdv, ct, osl, rfl, lk, hcd⟩ := F.ex
  exact .of_eq rfl
theorem law_fn {P : Program} {w : World} {K : PySem.W.Frag} {mg : Str → Option Value} {base : Heap} (T : Tx w K mg) {f : Addr} {fd : FuncData} (F : Fun K "law" "law" s_law f fd) (hm : ∀ ns : List Int, ns.length ≤ 63 → (∀ z ∈ ns, Builtin.Int.intBits z ≤ 1048576) → m_law [.slst (ns.map D.int)] = .ok (.bl true)) :
    FnOk P w K mg base (L2.CX P w) 7 f fd ["_law_script"] (spLaw K) := (fn_law T F).imp fun vs H Q E h => law_imp hm h
end LK

namespace LK
open PySem QB
open Builtin.Int (intBits)
/-! ### sequences, told as tuples -/
mutual
def nrm : D → D
  | .lst xs => .tup (nrmL xs)
  | .tup xs => .tup (nrmL xs)
  | .non => .non
  | .bl b => .bl b
  | .int i => .int i
  | .str s => .str s
  | .slst xs => .slst xs
  | .ins c ns xs => .ins c ns xs
  | .dct ks xs => .dct ks xs
def nrmL : List D → List D
  | [] => []
  | d :: ds => nrm d :: nrmL ds
end
theorem nrmL_map : ∀ xs : List D, nrmL xs = xs.map nrm
  | [] => by rw [nrmL]; rfl
  | d :: ds => by rw [nrmL, nrmL_map ds]; rfl
theorem pres_tup {d : D} {ys : List D} (h : nrm d = .tup ys) : ∃ xs, (d = .lst xs ∨ d = .tup xs) ∧ xs.map nrm = ys := by
  cases d <;> simp only [nrm, reduceCtorEq, D.tup.injEq] at h
  · exact ⟨_, .inr rfl, by rw [← nrmL_map]; exact h⟩
  · exact ⟨_, .inl rfl, by rw [← nrmL_map]; exact h⟩
theorem pres_str {d : D} {s : Str} (h : nrm d = .str s) : d = .str s := by
  cases d <;> simp only [nrm, reduceCtorEq] at h
  exact h
theorem pres_int {d : D} {i : Int} (h : nrm d = .int i) : d = .int i := by
  cases d <;> simp only [nrm, reduceCtorEq] at h
  exact h
theorem pres_non {d : D} (h : nrm d = .non) : d = .non := by
  cases d <;> simp only [nrm, reduceCtorEq] at h
  rfl
theorem p_ix {d : D} {ys : List D} (h : nrm d = .tup ys) {i : Int} (h0 : 0 ≤ i) {y : D} (hy : ys[i.toNat]? = some y) : ∃ x, dIx d (.int i) = .ok x ∧ nrm x = y := by
  obtain ⟨xs, e, rfl⟩ := pres_tup h
  rw [List.getElem?_map] at hy
  obtain ⟨x, hx, rfl⟩ := Option.map_eq_some_iff.mp hy
  exact ⟨x, q_ix (by rcases e with rfl | rfl <;> rfl) h0 hx, rfl⟩
theorem p_ixs {d : D} {ys : List D} (h : nrm d = .tup ys) {i : Int} (h0 : 0 ≤ i) {s : Str} (hy : ys[i.toNat]? = some (.str s)) : dIx d (.int i) = .ok (.str s) := by
  obtain ⟨x, h1, h2⟩ := p_ix h h0 hy
  rw [h1, pres_str h2]
theorem p_ixi {d : D} {ys : List D} (h : nrm d = .tup ys) {i : Int} (h0 : 0 ≤ i) {s : Int} (hy : ys[i.toNat]? = some (.int s)) : dIx d (.int i) = .ok (.int s) := by
  obtain ⟨x, h1, h2⟩ := p_ix h h0 hy
  rw [h1, pres_int h2]
theorem p_len {d : D} {ys : List D} (h : nrm d = .tup ys) : dLen [d] = .ok (.int ys.length) := by
  obtain ⟨xs, e, rfl⟩ := pres_tup h
  rcases e with rfl | rfl
  · rw [q_len_l, List.length_map]
  · rw [q_len_t, List.length_map]
theorem p_items {d : D} {ys : List D} (h : nrm d = .tup ys) : ∃ xs, dItems d = .ok xs ∧ xs.map nrm = ys := by
  obtain ⟨xs, e, e2⟩ := pres_tup h
  exact ⟨xs, by rcases e with rfl | rfl <;> rfl, e2⟩
theorem p_tupof {d : D} {ys : List D} (h : nrm d = .tup ys) : ∃ xs, dTupOf [d] = .ok (.tup xs) ∧ xs.map nrm = ys := by
  obtain ⟨xs, e, e2⟩ := pres_tup h
  exact ⟨xs, by rcases e with rfl | rfl <;> rfl, e2⟩
theorem cut_take {α : Type} {xs : List α} {k : Nat} (h : k ≤ xs.length) : cutD xs none (some (k : Int)) = xs.take k := by
  unfold cutD
  rw [HT.sIx_nat, HT.sIx_none, List.drop_zero]
  congr 1
  omega
theorem p_cut {d : D} {ys : List D} (h : nrm d = .tup ys) {k : Nat} (hk : k ≤ ys.length) : ∃ e, dCut d none (some (k : Int)) = .ok e ∧ nrm e = .tup (ys.take k) := by
  obtain ⟨xs, e, rfl⟩ := pres_tup h
  rw [List.length_map] at hk
  rcases e with rfl | rfl
  · exact ⟨.lst (xs.take k), by rw [q_cut_l, cut_take hk], by rw [nrm, nrmL_map, List.map_take]⟩
  · exact ⟨.tup (xs.take k), by rw [q_cut_t, cut_take hk], by rw [nrm, nrmL_map, List.map_take]⟩
/-! strings among flat things -/
theorem flats_strs : ∀ xs : List Str, flatsD (xs.map D.str) = some (xs.map L2.V.str)
  | [] => rfl
  | x :: xs => by
    show (match flatD (.str x), flatsD (xs.map D.str) with | some w, some ws => some (w :: ws) | _, _ => none) = _
    rw [flats_strs xs]
    rfl
theorem q_is_ns {s : Str} : dIs (.str s) .non = .ok (.bl false) := id rfl
theorem q_isn_ns {s : Str} : dIsNot (.str s) .non = .ok (.bl true) := id rfl
theorem eqV_s {a b : Str} : L2.eqV (.str a) (.str b) = decide (a = b) := by
  by_cases h : a = b
  · subst h; simp [L2.eqV]
  · simp [L2.eqV, h]
theorem in_strs {s : Str} (xs : List Str) : dIn (.str s) (.lst (xs.map D.str)) = .ok (.bl (decide (s ∈ xs))) := by
  unfold dIn dInB
  simp only [flatD, seqD, flats_strs, R.bind]
  congr 2
  unfold L2.inV
  rw [List.any_map]
  induction xs with
  | nil => rfl
  | cons x xs ih =>
    rw [List.any_cons, ih]
    show (L2.eqV (.str x) (.str s) || _) = _
    rw [eqV_s]
    by_cases h : x = s
    · subst h; simp
    · simp [h, Ne.symm h]
/-- rows that begin with names -/
structure Rows (names : List Str) (ys : List D) : Prop where
  len : ys.length = names.length
  at_ : ∀ (i : Nat) (n : Str), names[i]? = some n → ∃ rest, ys[i]? = some (.tup (.str n :: rest))
theorem Rows.row {names : List Str} {ys : List D} (R : Rows names ys) {d : D} (h : nrm d = .tup ys) {k : Nat} {n : Str} (hn : names[k]? = some n) : ∃ x rest, dIx d (.int (k : Int)) = .ok x ∧ nrm x = .tup (.str n :: rest) ∧ dIx x (.int 0) = .ok (.str n) := by
  obtain ⟨rest, hy⟩ := R.at_ k n hn
  obtain ⟨x, h1, h2⟩ := p_ix h (i := (k : Int)) (by omega) (by rw [Int.toNat_natCast]; exact hy)
  exact ⟨x, rest, h1, h2, p_ixs h2 (by omega) rfl⟩
/-- the names of the rows, as a comprehension makes them -/
theorem names_lc {names : List Str} {ys : List D} (R : Rows names ys) {d : D} (h : nrm d = .tup ys) (hl : names.length < 1000000) {i : Nat} {mi : MA} {me : ME} {r : Sc} (h0 : notOwn r [i] = true) (hmi : mi r = (dItems d)) (hme : ∀ x, me ((wipeS r [i]).set i (some (.val x))) = dIx x (.int 0)) :
    mLC [i] mi (bName i) mYes me r = .ok (.l (names.map D.str)) := by
  obtain ⟨xs, e1, e2⟩ := p_items h
  have hlen : xs.length = names.length := by rw [← R.len, ← e2, List.length_map]
  rw [lc_all (ds := xs) (f := fun j => .str (names.getD j Str.empty)) h0 (by rw [hmi, e1]) (by omega) (fun j x hx => ?_)]
  · congr 2
    apply List.ext_getElem?
    intro j
    rw [List.getElem?_map, List.getElem?_map, hlen]
    by_cases hj : j < names.length
    · simp [hj, List.getD_eq_getElem?_getD]
    · simp [hj, Nat.le_of_not_lt hj]
  · have hj : j < names.length := by
      rw [← hlen]
      exact (List.getElem?_eq_some_iff.mp hx).1
    obtain ⟨rest, hy⟩ := R.at_ j names[j] (List.getElem?_eq_getElem hj)
    have : nrm x = .tup (.str names[j] :: rest) := by
      rw [← e2, List.getElem?_map, hx] at hy
      exact Option.some.inj hy
    refine ⟨_, rfl, ?_⟩
    rw [hme, p_ixs this (by omega) rfl, List.getD_eq_getElem?_getD, List.getElem?_eq_getElem hj]
    rfl
/-! ### names -/
def Nm (z : Str) : Prop := m_is_name [.str z] = .ok (.bl true)
theorem e_name_why {names : List Str} {ys : List D} (R : Rows names ys) (hn : names.Nodup) (hm : ∀ z ∈ names, Nm z) {d : D} (h : nrm d = .tup ys) {k : Nat} (hk : k < names.length) : m_name_why [d, .int (k : Int)] = .ok .non := by
  obtain ⟨x, rest, x1, x2, x3⟩ := R.row h (List.getElem?_eq_getElem hk)
  have hN : m_is_name [.str names[k]] = .ok (.bl true) := hm _ (List.getElem_mem hk)
  obtain ⟨e, c1, c2⟩ := p_cut h (k := k) (by rw [R.len]; omega)
  obtain ⟨xs, i1, i2⟩ := p_items c2
  obtain ⟨r2, e2, x2', hr⟩ := for_inv (i := 2) (body := b_name_why_1) (fun j r => ∃ x2, r = [some (.val d), some (.val (.int (k : Int))), x2]) (ds := xs) (r := [some (.val d), some (.val (.int (k : Int))), none]) ⟨_, rfl⟩ (fun j z r hz ⟨y2, hr⟩ => by
    subst hr
    have hj : j < k := by
      have := (List.getElem?_eq_some_iff.mp hz).1
      have h3 : xs.length = (ys.take k).length := by rw [← i2, List.length_map]
      rw [List.length_take] at h3
      omega
    have hjn : j < names.length := by omega
    obtain ⟨rest', hy⟩ := R.at_ j names[j] (List.getElem?_eq_getElem hjn)
    have hz2 : nrm z = .tup (.str names[j] :: rest') := by
      have : (xs.map nrm)[j]? = some (.tup (.str names[j] :: rest')) := by
        rw [i2, List.getElem?_take_of_lt hj]
        exact hy
      rw [List.getElem?_map, hz] at this
      exact Option.some.inj this
    have z0 := p_ixs hz2 (i := 0) (by omega) rfl
    have hne : names[j] ≠ names[k] := fun e => by
      have := (List.getElem_inj hn).mp e
      omega
    refine ⟨_, ?_, some (.val z), rfl⟩
    simp only [b_name_why_1, q_df, q_st, q_sq, q_at_nx, q_at_rt, q_at_bk, q_at_ct, q_at_ex, q_mi, q_sel_t, q_sel_f, q_out_rt, q_out_nx, q_out_ex, q_rb_ok, q_rb_bad, q_rb_exc, q_tf_ok, q_v0, q_vs, q_w0, q_w0o, q_ws, q_tbq, q_asb, q_nt, q_rsel_t, q_rsel_f, q_ta, q_to, q_va, q_vo, q_vn, q_sett, q_seto, q_bin, q_c, q_callb, q_cons, q_nil, q_tup, q_lst, q_celle, q_ret, q_nx, q_thl, q_thd, q_isi, q_neg, q_neg_i, q_callk, q_drop, q_retn, q_brk, q_cnt, q_ife, q_add_i, q_sub_i, q_lt_i, q_le_i, q_gt_i, q_ge_i, q_eq_i, q_ne_i, List.map_cons, List.map_nil, List.length_cons, List.length_nil, List.replicate, List.append_nil, List.nil_append, List.cons_append, Nat.reduceAdd, Nat.reduceSub, List.getElem?_cons_zero, List.getElem?_cons_succ, List.set_cons_zero, List.set_cons_succ, Bool.not_true, Bool.not_false, decide_true, decide_false, if_true, if_false, z0, x1, x3, q_eq_s, decide_eq_false hne])
  subst hr
  refine def_of ?_
  rw [show mStart 3 [d, D.int (k : Int)] = [some (.val d), some (.val (.int (k : Int))), none] from rfl]
  rw [seq_nx (r' := [some (.val d), some (.val (.int (k : Int))), none]) (by simp only [q_df, q_st, q_sq, q_at_nx, q_at_rt, q_at_bk, q_at_ct, q_at_ex, q_mi, q_sel_t, q_sel_f, q_out_rt, q_out_nx, q_out_ex, q_rb_ok, q_rb_bad, q_rb_exc, q_tf_ok, q_v0, q_vs, q_w0, q_w0o, q_ws, q_tbq, q_asb, q_nt, q_rsel_t, q_rsel_f, q_ta, q_to, q_va, q_vo, q_vn, q_sett, q_seto, q_bin, q_c, q_callb, q_cons, q_nil, q_tup, q_lst, q_celle, q_ret, q_nx, q_thl, q_thd, q_isi, q_neg, q_neg_i, q_callk, q_drop, q_retn, q_brk, q_cnt, q_ife, q_add_i, q_sub_i, q_lt_i, q_le_i, q_gt_i, q_ge_i, q_eq_i, q_ne_i, List.map_cons, List.map_nil, List.length_cons, List.length_nil, List.replicate, List.append_nil, List.nil_append, List.cons_append, Nat.reduceAdd, Nat.reduceSub, List.getElem?_cons_zero, List.getElem?_cons_succ, List.set_cons_zero, List.set_cons_succ, Bool.not_true, Bool.not_false, decide_true, decide_false, if_true, if_false, x1, x3, hN])]
  rw [seq_nx (for_nx (by simp only [q_df, q_st, q_sq, q_at_nx, q_at_rt, q_at_bk, q_at_ct, q_at_ex, q_mi, q_sel_t, q_sel_f, q_out_rt, q_out_nx, q_out_ex, q_rb_ok, q_rb_bad, q_rb_exc, q_tf_ok, q_v0, q_vs, q_w0, q_w0o, q_ws, q_tbq, q_asb, q_nt, q_rsel_t, q_rsel_f, q_ta, q_to, q_va, q_vo, q_vn, q_sett, q_seto, q_bin, q_c, q_callb, q_cons, q_nil, q_tup, q_lst, q_celle, q_ret, q_nx, q_thl, q_thd, q_isi, q_neg, q_neg_i, q_callk, q_drop, q_retn, q_brk, q_cnt, q_ife, q_add_i, q_sub_i, q_lt_i, q_le_i, q_gt_i, q_ge_i, q_eq_i, q_ne_i, List.map_cons, List.map_nil, List.length_cons, List.length_nil, List.replicate, List.append_nil, List.nil_append, List.cons_append, Nat.reduceAdd, Nat.reduceSub, List.getElem?_cons_zero, List.getElem?_cons_succ, List.set_cons_zero, List.set_cons_succ, Bool.not_true, Bool.not_false, decide_true, decide_false, if_true, if_false, q_it, q_cut, q_part0, q_part1, q_asio, c1, i1]) e2)]
  rfl
/-! ### kinds -/
def KindOk (names : List Str) (k : Str) : Prop := k = "num" ∨ k ∈ names
theorem e_is_kind {names : List Str} {ys : List D} (R : Rows names ys) (hl : names.length < 1000000) {d : D} (h : nrm d = .tup ys) {k : Str} (hk : KindOk names k) : m_is_kind [d, .str k] = .ok (.bl true) := by
  refine def_of ?_
  rw [show mStart 3 [d, D.str k] = [some (.val d), some (.val (.str k)), none] from rfl]
  have lc : mLC [2] (mItems (mVar 0)) (bName 2) mYes e_is_kind_1 [some (.val d), some (.val (.str k)), none] = .ok (.l (names.map D.str)) := names_lc R h hl rfl (by simp only [q_df, q_st, q_sq, q_at_nx, q_at_rt, q_at_bk, q_at_ct, q_at_ex, q_mi, q_sel_t, q_sel_f, q_out_rt, q_out_nx, q_out_ex, q_rb_ok, q_rb_bad, q_rb_exc, q_tf_ok, q_v0, q_vs, q_w0, q_w0o, q_ws, q_tbq, q_asb, q_nt, q_rsel_t, q_rsel_f, q_ta, q_to, q_va, q_vo, q_vn, q_sett, q_seto, q_bin, q_c, q_callb, q_cons, q_nil, q_tup, q_lst, q_celle, q_ret, q_nx, q_thl, q_thd, q_isi, q_neg, q_neg_i, q_callk, q_drop, q_retn, q_brk, q_cnt, q_ife, q_add_i, q_sub_i, q_lt_i, q_le_i, q_gt_i, q_ge_i, q_eq_i, q_ne_i, List.map_cons, List.map_nil, List.length_cons, List.length_nil, List.replicate, List.append_nil, List.nil_append, List.cons_append, Nat.reduceAdd, Nat.reduceSub, List.getElem?_cons_zero, List.getElem?_cons_succ, List.set_cons_zero, List.set_cons_succ, Bool.not_true, Bool.not_false, decide_true, decide_false, if_true, if_false, q_it]) (fun x => by
    show e_is_kind_1 [some (.val d), some (.val (.str k)), some (.val x)] = _
    simp only [e_is_kind_1, q_df, q_st, q_sq, q_at_nx, q_at_rt, q_at_bk, q_at_ct, q_at_ex, q_mi, q_sel_t, q_sel_f, q_out_rt, q_out_nx, q_out_ex, q_rb_ok, q_rb_bad, q_rb_exc, q_tf_ok, q_v0, q_vs, q_w0, q_w0o, q_ws, q_tbq, q_asb, q_nt, q_rsel_t, q_rsel_f, q_ta, q_to, q_va, q_vo, q_vn, q_sett, q_seto, q_bin, q_c, q_callb, q_cons, q_nil, q_tup, q_lst, q_celle, q_ret, q_nx, q_thl, q_thd, q_isi, q_neg, q_neg_i, q_callk, q_drop, q_retn, q_brk, q_cnt, q_ife, q_add_i, q_sub_i, q_lt_i, q_le_i, q_gt_i, q_ge_i, q_eq_i, q_ne_i, List.map_cons, List.map_nil, List.length_cons, List.length_nil, List.replicate, List.append_nil, List.nil_append, List.cons_append, Nat.reduceAdd, Nat.reduceSub, List.getElem?_cons_zero, List.getElem?_cons_succ, List.set_cons_zero, List.set_cons_succ, Bool.not_true, Bool.not_false, decide_true, decide_false, if_true, if_false])
  simp only [q_df, q_st, q_sq, q_at_nx, q_at_rt, q_at_bk, q_at_ct, q_at_ex, q_mi, q_sel_t, q_sel_f, q_out_rt, q_out_nx, q_out_ex, q_rb_ok, q_rb_bad, q_rb_exc, q_tf_ok, q_v0, q_vs, q_w0, q_w0o, q_ws, q_tbq, q_asb, q_nt, q_rsel_t, q_rsel_f, q_ta, q_to, q_va, q_vo, q_vn, q_sett, q_seto, q_bin, q_c, q_callb, q_cons, q_nil, q_tup, q_lst, q_celle, q_ret, q_nx, q_thl, q_thd, q_isi, q_neg, q_neg_i, q_callk, q_drop, q_retn, q_brk, q_cnt, q_ife, q_add_i, q_sub_i, q_lt_i, q_le_i, q_gt_i, q_ge_i, q_eq_i, q_ne_i, List.map_cons, List.map_nil, List.length_cons, List.length_nil, List.replicate, List.append_nil, List.nil_append, List.cons_append, Nat.reduceAdd, Nat.reduceSub, List.getElem?_cons_zero, List.getElem?_cons_succ, List.set_cons_zero, List.set_cons_succ, Bool.not_true, Bool.not_false, decide_true, decide_false, if_true, if_false, lc, q_eq_s, in_strs]
  by_cases e : k = "num"
  · rw [decide_eq_true e]
    rfl
  · rw [decide_eq_false e, decide_eq_true (hk.resolve_left e)]
    rfl
/-! ### shapes -/
structure Sh where
  name : Str
  form : Str
  fields : List (Str × Str)
def pairD (p : Str × Str) : D := .tup [.str p.1, .str p.2]
def shD (s : Sh) : D := .tup [.str s.name, .str s.form, .tup (s.fields.map pairD)]
structure ShOk (names : List Str) (s : Sh) : Prop where
  form : dNotIn (.str s.form) (.tup [.str "record", .str "array", .str "weak", .str "pair"]) = .ok (.bl false)
  fit : m_fields_fit [.str s.form, .lst ((s.fields.map (·.1)).map D.str)] = .ok (.bl true)
  kinds : ∀ p ∈ s.fields, KindOk names p.2
  first : dIn (.str s.form) (.tup [.str "weak", .str "pair"]) = .ok (.bl false) ∨ (dIn (.str s.form) (.tup [.str "weak", .str "pair"]) = .ok (.bl true) ∧ ∃ p rest, s.fields = p :: rest ∧ p.2 ≠ "num")
  many : s.fields.length < 1000
theorem rows_map {α : Type} (f : α → Str) (g : α → D) (hg : ∀ a, ∃ rest, g a = .tup (.str (f a) :: rest)) (xs : List α) : Rows (xs.map f) (xs.map g) := by
  refine ⟨by rw [List.length_map, List.length_map], fun i n h => ?_⟩
  rw [List.getElem?_map] at h
  obtain ⟨a, ha, rfl⟩ := Option.map_eq_some_iff.mp h
  obtain ⟨rest, e⟩ := hg a
  exact ⟨rest, by rw [List.getElem?_map, ha, ← e]; rfl⟩
theorem rows_sh (S : List Sh) : Rows (S.map (·.name)) (S.map shD) := rows_map _ _ (fun s => ⟨_, rfl⟩) S
theorem rows_pair (S : List (Str × Str)) : Rows (S.map (·.1)) (S.map pairD) := rows_map _ _ (fun s => ⟨_, rfl⟩) S
structure ShsOk (S : List Sh) : Prop where
  nodup : (S.map (·.name)).Nodup
  nm : ∀ z ∈ S.map (·.name), Nm z
  all : ∀ s ∈ S, ShOk (S.map (·.name)) s
  many : S.length < 1000
theorem sh_row {S : List Sh} {d : D} (h : nrm d = .tup (S.map shD)) {k : Nat} (hk : k < S.length) : ∃ x, dIx d (.int (k : Int)) = .ok x ∧ nrm x = shD S[k] := by
  refine p_ix h (by omega) ?_
  rw [Int.toNat_natCast, List.getElem?_map, List.getElem?_eq_getElem hk]
  rfl
theorem e_shape_why {S : List Sh} (H : ShsOk S) {d : D} (h : nrm d = .tup (S.map shD)) {k : Nat} (hk : k < S.length) : m_shape_why [d, .int (k : Int)] = .ok .non := by
  have nw := e_name_why (rows_sh S) H.nodup H.nm h (k := k) (by rw [List.length_map]; exact hk)
  obtain ⟨x, x1, x2⟩ := sh_row h hk
  have so := H.all _ (List.getElem_mem hk)
  generalize S[k] = s at *
  have f1 := p_ixs x2 (i := 1) (by omega) rfl
  obtain ⟨fd, f2, f3⟩ := p_ix x2 (i := 2) (by omega) rfl
  refine def_of ?_
  rw [show mStart 5 [d, D.int (k : Int)] = [some (.val d), some (.val (.int (k : Int))), none, none, none] from rfl]
  rw [seq_nx (r' := [some (.val d), some (.val (.int (k : Int))), some (.val .non), none, none]) (by simp only [q_df, q_st, q_sq, q_at_nx, q_at_rt, q_at_bk, q_at_ct, q_at_ex, q_mi, q_sel_t, q_sel_f, q_out_rt, q_out_nx, q_out_ex, q_rb_ok, q_rb_bad, q_rb_exc, q_tf_ok, q_v0, q_vs, q_w0, q_w0o, q_ws, q_tbq, q_asb, q_nt, q_rsel_t, q_rsel_f, q_ta, q_to, q_va, q_vo, q_vn, q_sett, q_seto, q_bin, q_c, q_callb, q_cons, q_nil, q_tup, q_lst, q_celle, q_ret, q_nx, q_thl, q_thd, q_isi, q_neg, q_neg_i, q_callk, q_drop, q_retn, q_brk, q_cnt, q_ife, q_add_i, q_sub_i, q_lt_i, q_le_i, q_gt_i, q_ge_i, q_eq_i, q_ne_i, List.map_cons, List.map_nil, List.length_cons, List.length_nil, List.replicate, List.append_nil, List.nil_append, List.cons_append, Nat.reduceAdd, Nat.reduceSub, List.getElem?_cons_zero, List.getElem?_cons_succ, List.set_cons_zero, List.set_cons_succ, Bool.not_true, Bool.not_false, decide_true, decide_false, if_true, if_false, nw])]
  rw [seq_nx (r' := [some (.val d), some (.val (.int (k : Int))), some (.val .non), none, none]) (by simp only [q_df, q_st, q_sq, q_at_nx, q_at_rt, q_at_bk, q_at_ct, q_at_ex, q_mi, q_sel_t, q_sel_f, q_out_rt, q_out_nx, q_out_ex, q_rb_ok, q_rb_bad, q_rb_exc, q_tf_ok, q_v0, q_vs, q_w0, q_w0o, q_ws, q_tbq, q_asb, q_nt, q_rsel_t, q_rsel_f, q_ta, q_to, q_va, q_vo, q_vn, q_sett, q_seto, q_bin, q_c, q_callb, q_cons, q_nil, q_tup, q_lst, q_celle, q_ret, q_nx, q_thl, q_thd, q_isi, q_neg, q_neg_i, q_callk, q_drop, q_retn, q_brk, q_cnt, q_ife, q_add_i, q_sub_i, q_lt_i, q_le_i, q_gt_i, q_ge_i, q_eq_i, q_ne_i, List.map_cons, List.map_nil, List.length_cons, List.length_nil, List.replicate, List.append_nil, List.nil_append, List.cons_append, Nat.reduceAdd, Nat.reduceSub, List.getElem?_cons_zero, List.getElem?_cons_succ, List.set_cons_zero, List.set_cons_succ, Bool.not_true, Bool.not_false, decide_true, decide_false, if_true, if_false, t_isn_n])]
  rw [seq_nx (r' := [some (.val d), some (.val (.int (k : Int))), some (.val .non), some (.val (.str s.form)), none]) (by simp only [q_df, q_st, q_sq, q_at_nx, q_at_rt, q_at_bk, q_at_ct, q_at_ex, q_mi, q_sel_t, q_sel_f, q_out_rt, q_out_nx, q_out_ex, q_rb_ok, q_rb_bad, q_rb_exc, q_tf_ok, q_v0, q_vs, q_w0, q_w0o, q_ws, q_tbq, q_asb, q_nt, q_rsel_t, q_rsel_f, q_ta, q_to, q_va, q_vo, q_vn, q_sett, q_seto, q_bin, q_c, q_callb, q_cons, q_nil, q_tup, q_lst, q_celle, q_ret, q_nx, q_thl, q_thd, q_isi, q_neg, q_neg_i, q_callk, q_drop, q_retn, q_brk, q_cnt, q_ife, q_add_i, q_sub_i, q_lt_i, q_le_i, q_gt_i, q_ge_i, q_eq_i, q_ne_i, List.map_cons, List.map_nil, List.length_cons, List.length_nil, List.replicate, List.append_nil, List.nil_append, List.cons_append, Nat.reduceAdd, Nat.reduceSub, List.getElem?_cons_zero, List.getElem?_cons_succ, List.set_cons_zero, List.set_cons_succ, Bool.not_true, Bool.not_false, decide_true, decide_false, if_true, if_false, x1, f1])]
  rw [seq_nx (r' := [some (.val d), some (.val (.int (k : Int))), some (.val .non), some (.val (.str s.form)), none]) (by simp only [q_df, q_st, q_sq, q_at_nx, q_at_rt, q_at_bk, q_at_ct, q_at_ex, q_mi, q_sel_t, q_sel_f, q_out_rt, q_out_nx, q_out_ex, q_rb_ok, q_rb_bad, q_rb_exc, q_tf_ok, q_v0, q_vs, q_w0, q_w0o, q_ws, q_tbq, q_asb, q_nt, q_rsel_t, q_rsel_f, q_ta, q_to, q_va, q_vo, q_vn, q_sett, q_seto, q_bin, q_c, q_callb, q_cons, q_nil, q_tup, q_lst, q_celle, q_ret, q_nx, q_thl, q_thd, q_isi, q_neg, q_neg_i, q_callk, q_drop, q_retn, q_brk, q_cnt, q_ife, q_add_i, q_sub_i, q_lt_i, q_le_i, q_gt_i, q_ge_i, q_eq_i, q_ne_i, List.map_cons, List.map_nil, List.length_cons, List.length_nil, List.replicate, List.append_nil, List.nil_append, List.cons_append, Nat.reduceAdd, Nat.reduceSub, List.getElem?_cons_zero, List.getElem?_cons_succ, List.set_cons_zero, List.set_cons_succ, Bool.not_true, Bool.not_false, decide_true, decide_false, if_true, if_false, so.form])]
  have lc : mLC [4] (mItems (mBin dIx (mBin dIx (mVar 0) (mVar 1)) (mC (.int 2)))) (bName 4) mYes e_shape_why_1 [some (.val d), some (.val (.int (k : Int))), some (.val .non), some (.val (.str s.form)), none] = .ok (.l ((s.fields.map (·.1)).map D.str)) := names_lc (rows_pair s.fields) f3 (by rw [List.length_map]; have := so.many; omega) rfl (by simp only [q_df, q_st, q_sq, q_at_nx, q_at_rt, q_at_bk, q_at_ct, q_at_ex, q_mi, q_sel_t, q_sel_f, q_out_rt, q_out_nx, q_out_ex, q_rb_ok, q_rb_bad, q_rb_exc, q_tf_ok, q_v0, q_vs, q_w0, q_w0o, q_ws, q_tbq, q_asb, q_nt, q_rsel_t, q_rsel_f, q_ta, q_to, q_va, q_vo, q_vn, q_sett, q_seto, q_bin, q_c, q_callb, q_cons, q_nil, q_tup, q_lst, q_celle, q_ret, q_nx, q_thl, q_thd, q_isi, q_neg, q_neg_i, q_callk, q_drop, q_retn, q_brk, q_cnt, q_ife, q_add_i, q_sub_i, q_lt_i, q_le_i, q_gt_i, q_ge_i, q_eq_i, q_ne_i, List.map_cons, List.map_nil, List.length_cons, List.length_nil, List.replicate, List.append_nil, List.nil_append, List.cons_append, Nat.reduceAdd, Nat.reduceSub, List.getElem?_cons_zero, List.getElem?_cons_succ, List.set_cons_zero, List.set_cons_succ, Bool.not_true, Bool.not_false, decide_true, decide_false, if_true, if_false, q_it, x1, f2]) (fun x => by
    show e_shape_why_1 [some (.val d), some (.val (.int (k : Int))), some (.val .non), some (.val (.str s.form)), some (.val x)] = _
    simp only [e_shape_why_1, q_df, q_st, q_sq, q_at_nx, q_at_rt, q_at_bk, q_at_ct, q_at_ex, q_mi, q_sel_t, q_sel_f, q_out_rt, q_out_nx, q_out_ex, q_rb_ok, q_rb_bad, q_rb_exc, q_tf_ok, q_v0, q_vs, q_w0, q_w0o, q_ws, q_tbq, q_asb, q_nt, q_rsel_t, q_rsel_f, q_ta, q_to, q_va, q_vo, q_vn, q_sett, q_seto, q_bin, q_c, q_callb, q_cons, q_nil, q_tup, q_lst, q_celle, q_ret, q_nx, q_thl, q_thd, q_isi, q_neg, q_neg_i, q_callk, q_drop, q_retn, q_brk, q_cnt, q_ife, q_add_i, q_sub_i, q_lt_i, q_le_i, q_gt_i, q_ge_i, q_eq_i, q_ne_i, List.map_cons, List.map_nil, List.length_cons, List.length_nil, List.replicate, List.append_nil, List.nil_append, List.cons_append, Nat.reduceAdd, Nat.reduceSub, List.getElem?_cons_zero, List.getElem?_cons_succ, List.set_cons_zero, List.set_cons_succ, Bool.not_true, Bool.not_false, decide_true, decide_false, if_true, if_false])
  rw [seq_nx (r' := [some (.val d), some (.val (.int (k : Int))), some (.val .non), some (.val (.str s.form)), none]) (by simp only [q_df, q_st, q_sq, q_at_nx, q_at_rt, q_at_bk, q_at_ct, q_at_ex, q_mi, q_sel_t, q_sel_f, q_out_rt, q_out_nx, q_out_ex, q_rb_ok, q_rb_bad, q_rb_exc, q_tf_ok, q_v0, q_vs, q_w0, q_w0o, q_ws, q_tbq, q_asb, q_nt, q_rsel_t, q_rsel_f, q_ta, q_to, q_va, q_vo, q_vn, q_sett, q_seto, q_bin, q_c, q_callb, q_cons, q_nil, q_tup, q_lst, q_celle, q_ret, q_nx, q_thl, q_thd, q_isi, q_neg, q_neg_i, q_callk, q_drop, q_retn, q_brk, q_cnt, q_ife, q_add_i, q_sub_i, q_lt_i, q_le_i, q_gt_i, q_ge_i, q_eq_i, q_ne_i, List.map_cons, List.map_nil, List.length_cons, List.length_nil, List.replicate, List.append_nil, List.nil_append, List.cons_append, Nat.reduceAdd, Nat.reduceSub, List.getElem?_cons_zero, List.getElem?_cons_succ, List.set_cons_zero, List.set_cons_succ, Bool.not_true, Bool.not_false, decide_true, decide_false, if_true, if_false, lc, so.fit])]
  rfl
theorem e_kinds_why {S : List Sh} (H : ShsOk S) {d : D} (h : nrm d = .tup (S.map shD)) {k : Nat} (hk : k < S.length) : m_kinds_why [d, .int (k : Int)] = .ok .non := by
  obtain ⟨x, x1, x2⟩ := sh_row h hk
  have so := H.all _ (List.getElem_mem hk)
  generalize S[k] = s at *
  have f1 := p_ixs x2 (i := 1) (by omega) rfl
  obtain ⟨fd, f2, f3⟩ := p_ix x2 (i := 2) (by omega) rfl
  obtain ⟨xs, i1, i2⟩ := p_items f3
  have hS := H.many
  obtain ⟨r2, e2, y3, hr⟩ := for_inv (i := 3) (body := b_kinds_why_1) (fun j r => ∃ y3, r = [some (.val d), some (.val (.int (k : Int))), some (.val fd), y3]) (ds := xs) (r := [some (.val d), some (.val (.int (k : Int))), some (.val fd), none]) ⟨_, rfl⟩ (fun j z r hz ⟨y3, hr⟩ => by
    subst hr
    have hz2 : (s.fields.map pairD)[j]? = some (nrm z) := by rw [← i2, List.getElem?_map, hz]; rfl
    rw [List.getElem?_map] at hz2
    obtain ⟨p, hp, ep⟩ := Option.map_eq_some_iff.mp hz2
    have z1 := p_ixs ep.symm (i := 1) (by omega) rfl
    have kk := e_is_kind (rows_sh S) (by rw [List.length_map]; omega) h (so.kinds p (List.mem_of_getElem? hp))
    refine ⟨_, ?_, some (.val z), rfl⟩
    simp only [b_kinds_why_1, q_df, q_st, q_sq, q_at_nx, q_at_rt, q_at_bk, q_at_ct, q_at_ex, q_mi, q_sel_t, q_sel_f, q_out_rt, q_out_nx, q_out_ex, q_rb_ok, q_rb_bad, q_rb_exc, q_tf_ok, q_v0, q_vs, q_w0, q_w0o, q_ws, q_tbq, q_asb, q_nt, q_rsel_t, q_rsel_f, q_ta, q_to, q_va, q_vo, q_vn, q_sett, q_seto, q_bin, q_c, q_callb, q_cons, q_nil, q_tup, q_lst, q_celle, q_ret, q_nx, q_thl, q_thd, q_isi, q_neg, q_neg_i, q_callk, q_drop, q_retn, q_brk, q_cnt, q_ife, q_add_i, q_sub_i, q_lt_i, q_le_i, q_gt_i, q_ge_i, q_eq_i, q_ne_i, List.map_cons, List.map_nil, List.length_cons, List.length_nil, List.replicate, List.append_nil, List.nil_append, List.cons_append, Nat.reduceAdd, Nat.reduceSub, List.getElem?_cons_zero, List.getElem?_cons_succ, List.set_cons_zero, List.set_cons_succ, Bool.not_true, Bool.not_false, decide_true, decide_false, if_true, if_false, z1, kk])
  subst hr
  refine def_of ?_
  rw [show mStart 4 [d, D.int (k : Int)] = [some (.val d), some (.val (.int (k : Int))), none, none] from rfl]
  rw [seq_nx (r' := [some (.val d), some (.val (.int (k : Int))), some (.val fd), none]) (by simp only [q_df, q_st, q_sq, q_at_nx, q_at_rt, q_at_bk, q_at_ct, q_at_ex, q_mi, q_sel_t, q_sel_f, q_out_rt, q_out_nx, q_out_ex, q_rb_ok, q_rb_bad, q_rb_exc, q_tf_ok, q_v0, q_vs, q_w0, q_w0o, q_ws, q_tbq, q_asb, q_nt, q_rsel_t, q_rsel_f, q_ta, q_to, q_va, q_vo, q_vn, q_sett, q_seto, q_bin, q_c, q_callb, q_cons, q_nil, q_tup, q_lst, q_celle, q_ret, q_nx, q_thl, q_thd, q_isi, q_neg, q_neg_i, q_callk, q_drop, q_retn, q_brk, q_cnt, q_ife, q_add_i, q_sub_i, q_lt_i, q_le_i, q_gt_i, q_ge_i, q_eq_i, q_ne_i, List.map_cons, List.map_nil, List.length_cons, List.length_nil, List.replicate, List.append_nil, List.nil_append, List.cons_append, Nat.reduceAdd, Nat.reduceSub, List.getElem?_cons_zero, List.getElem?_cons_succ, List.set_cons_zero, List.set_cons_succ, Bool.not_true, Bool.not_false, decide_true, decide_false, if_true, if_false, x1, f2])]
  rw [seq_nx (for_nx (by simp only [q_df, q_st, q_sq, q_at_nx, q_at_rt, q_at_bk, q_at_ct, q_at_ex, q_mi, q_sel_t, q_sel_f, q_out_rt, q_out_nx, q_out_ex, q_rb_ok, q_rb_bad, q_rb_exc, q_tf_ok, q_v0, q_vs, q_w0, q_w0o, q_ws, q_tbq, q_asb, q_nt, q_rsel_t, q_rsel_f, q_ta, q_to, q_va, q_vo, q_vn, q_sett, q_seto, q_bin, q_c, q_callb, q_cons, q_nil, q_tup, q_lst, q_celle, q_ret, q_nx, q_thl, q_thd, q_isi, q_neg, q_neg_i, q_callk, q_drop, q_retn, q_brk, q_cnt, q_ife, q_add_i, q_sub_i, q_lt_i, q_le_i, q_gt_i, q_ge_i, q_eq_i, q_ne_i, List.map_cons, List.map_nil, List.length_cons, List.length_nil, List.replicate, List.append_nil, List.nil_append, List.cons_append, Nat.reduceAdd, Nat.reduceSub, List.getElem?_cons_zero, List.getElem?_cons_succ, List.set_cons_zero, List.set_cons_succ, Bool.not_true, Bool.not_false, decide_true, decide_false, if_true, if_false, q_it, i1]) e2)]
  have s2 : (2 : Nat) ≤ sizeLine := by decide
  rw [seq_nx (r' := [some (.val d), some (.val (.int (k : Int))), some (.val fd), y3]) (by
    rcases so.first with hf | ⟨hf, p, rest, hp, hne⟩
    · simp only [q_df, q_st, q_sq, q_at_nx, q_at_rt, q_at_bk, q_at_ct, q_at_ex, q_mi, q_sel_t, q_sel_f, q_out_rt, q_out_nx, q_out_ex, q_rb_ok, q_rb_bad, q_rb_exc, q_tf_ok, q_v0, q_vs, q_w0, q_w0o, q_ws, q_tbq, q_asb, q_nt, q_rsel_t, q_rsel_f, q_ta, q_to, q_va, q_vo, q_vn, q_sett, q_seto, q_bin, q_c, q_callb, q_cons, q_nil, q_tup, q_lst, q_celle, q_ret, q_nx, q_thl, q_thd, q_isi, q_neg, q_neg_i, q_callk, q_drop, q_retn, q_brk, q_cnt, q_ife, q_add_i, q_sub_i, q_lt_i, q_le_i, q_gt_i, q_ge_i, q_eq_i, q_ne_i, List.map_cons, List.map_nil, List.length_cons, List.length_nil, List.replicate, List.append_nil, List.nil_append, List.cons_append, Nat.reduceAdd, Nat.reduceSub, List.getElem?_cons_zero, List.getElem?_cons_succ, List.set_cons_zero, List.set_cons_succ, Bool.not_true, Bool.not_false, decide_true, decide_false, if_true, if_false, x1, f1, s2, hf]
    · obtain ⟨z, z1, z2⟩ := p_ix f3 (i := 0) (by omega) (y := pairD p) (by rw [hp]; rfl)
      have z3 := p_ixs z2 (i := 1) (by omega) rfl
      simp only [q_df, q_st, q_sq, q_at_nx, q_at_rt, q_at_bk, q_at_ct, q_at_ex, q_mi, q_sel_t, q_sel_f, q_out_rt, q_out_nx, q_out_ex, q_rb_ok, q_rb_bad, q_rb_exc, q_tf_ok, q_v0, q_vs, q_w0, q_w0o, q_ws, q_tbq, q_asb, q_nt, q_rsel_t, q_rsel_f, q_ta, q_to, q_va, q_vo, q_vn, q_sett, q_seto, q_bin, q_c, q_callb, q_cons, q_nil, q_tup, q_lst, q_celle, q_ret, q_nx, q_thl, q_thd, q_isi, q_neg, q_neg_i, q_callk, q_drop, q_retn, q_brk, q_cnt, q_ife, q_add_i, q_sub_i, q_lt_i, q_le_i, q_gt_i, q_ge_i, q_eq_i, q_ne_i, List.map_cons, List.map_nil, List.length_cons, List.length_nil, List.replicate, List.append_nil, List.nil_append, List.cons_append, Nat.reduceAdd, Nat.reduceSub, List.getElem?_cons_zero, List.getElem?_cons_succ, List.set_cons_zero, List.set_cons_succ, Bool.not_true, Bool.not_false, decide_true, decide_false, if_true, if_false, x1, f1, s2, hf, z1, z3, q_eq_s, decide_eq_false hne])]
  rfl
theorem rg_len {d : D} {ys : List D} (h : nrm d = .tup ys) (hl : ys.length < 1000000) {r : Sc} {i : Nat} (hv : mVar i r = .ok d) : mRg (mCons (mCallB dLen (mCons (mVar i) mNil)) mNil) r = .ok (rgD 0 ys.length) := by
  rw [q_rg, q_cons, q_callb, q_cons, hv, q_rb_ok, q_nil, q_rb_ok, q_rb_ok, p_len h, q_rb_ok, q_rb_ok, q_rb_ok, q_rg1 (by omega) (by omega), Int.toNat_natCast]
theorem e_look_shapes {S : List Sh} (H : ShsOk S) {d : D} (h : nrm d = .tup (S.map shD)) : m_look_at_shapes [d] = .ok .non := by
  have hS := H.many
  have hl : (S.map shD).length < 1000000 := by rw [List.length_map]; omega
  obtain ⟨r2, e2, y1, y2, hr⟩ := for_inv (i := 1) (body := b_look_at_shapes_1) (fun j r => ∃ y1 y2, r = [some (.val d), y1, y2]) (ds := rgD 0 (S.map shD).length) (r := [some (.val d), none, none]) ⟨_, _, rfl⟩ (fun j z r hz ⟨y1, y2, hr⟩ => by
    subst hr
    obtain ⟨hj, rfl⟩ := rgD_get hz
    rw [List.length_map] at hj
    have w := e_shape_why H h hj
    rw [show (0 : Int) + (j : Int) = (j : Int) by omega]
    refine ⟨_, ?_, some (.val (.int (j : Int))), some (.val .non), rfl⟩
    simp only [b_look_at_shapes_1, q_df, q_st, q_sq, q_at_nx, q_at_rt, q_at_bk, q_at_ct, q_at_ex, q_mi, q_sel_t, q_sel_f, q_out_rt, q_out_nx, q_out_ex, q_rb_ok, q_rb_bad, q_rb_exc, q_tf_ok, q_v0, q_vs, q_w0, q_w0o, q_ws, q_tbq, q_asb, q_nt, q_rsel_t, q_rsel_f, q_ta, q_to, q_va, q_vo, q_vn, q_sett, q_seto, q_bin, q_c, q_callb, q_cons, q_nil, q_tup, q_lst, q_celle, q_ret, q_nx, q_thl, q_thd, q_isi, q_neg, q_neg_i, q_callk, q_drop, q_retn, q_brk, q_cnt, q_ife, q_add_i, q_sub_i, q_lt_i, q_le_i, q_gt_i, q_ge_i, q_eq_i, q_ne_i, List.map_cons, List.map_nil, List.length_cons, List.length_nil, List.replicate, List.append_nil, List.nil_append, List.cons_append, Nat.reduceAdd, Nat.reduceSub, List.getElem?_cons_zero, List.getElem?_cons_succ, List.set_cons_zero, List.set_cons_succ, Bool.not_true, Bool.not_false, decide_true, decide_false, if_true, if_false, w, t_isn_n])
  subst hr
  obtain ⟨r3, e3, z1, z2, hr⟩ := for_inv (i := 1) (body := b_look_at_shapes_2) (fun j r => ∃ y1 y2, r = [some (.val d), y1, y2]) (ds := rgD 0 (S.map shD).length) (r := [some (.val d), y1, y2]) ⟨_, _, rfl⟩ (fun j z r hz ⟨y1, y2, hr⟩ => by
    subst hr
    obtain ⟨hj, rfl⟩ := rgD_get hz
    rw [List.length_map] at hj
    have w := e_kinds_why H h hj
    rw [show (0 : Int) + (j : Int) = (j : Int) by omega]
    refine ⟨_, ?_, some (.val (.int (j : Int))), some (.val .non), rfl⟩
    simp only [b_look_at_shapes_2, q_df, q_st, q_sq, q_at_nx, q_at_rt, q_at_bk, q_at_ct, q_at_ex, q_mi, q_sel_t, q_sel_f, q_out_rt, q_out_nx, q_out_ex, q_rb_ok, q_rb_bad, q_rb_exc, q_tf_ok, q_v0, q_vs, q_w0, q_w0o, q_ws, q_tbq, q_asb, q_nt, q_rsel_t, q_rsel_f, q_ta, q_to, q_va, q_vo, q_vn, q_sett, q_seto, q_bin, q_c, q_callb, q_cons, q_nil, q_tup, q_lst, q_celle, q_ret, q_nx, q_thl, q_thd, q_isi, q_neg, q_neg_i, q_callk, q_drop, q_retn, q_brk, q_cnt, q_ife, q_add_i, q_sub_i, q_lt_i, q_le_i, q_gt_i, q_ge_i, q_eq_i, q_ne_i, List.map_cons, List.map_nil, List.length_cons, List.length_nil, List.replicate, List.append_nil, List.nil_append, List.cons_append, Nat.reduceAdd, Nat.reduceSub, List.getElem?_cons_zero, List.getElem?_cons_succ, List.set_cons_zero, List.set_cons_succ, Bool.not_true, Bool.not_false, decide_true, decide_false, if_true, if_false, w, t_isn_n])
  subst hr
  unfold m_look_at_shapes
  rw [q_df, show mStart 3 [d] = [some (.val d), none, none] from rfl]
  rw [seq_nx (for_nx (rg_len h hl rfl) e2), for_nx (rg_len h hl rfl) e3]
  rfl
/-! ### statics -/
structure StsOk (names : List Str) (T : List (Str × Str)) : Prop where
  nodup : (T.map (·.1)).Nodup
  nm : ∀ z ∈ T.map (·.1), Nm z
  kinds : ∀ p ∈ T, KindOk names p.2
  many : T.length < 1000
theorem e_look_statics {S : List Sh} {T : List (Str × Str)} (hS : S.length < 1000) (H : StsOk (S.map (·.name)) T) {d e : D} (h : nrm d = .tup (S.map shD)) (g : nrm e = .tup (T.map pairD)) : m_look_at_statics [d, e] = .ok .non := by
  have hT := H.many
  obtain ⟨r2, e2, y1, y2, hr⟩ := for_inv (i := 2) (body := b_look_at_statics_1) (fun j r => ∃ y1 y2, r = [some (.val d), some (.val e), y1, y2]) (ds := rgD 0 (T.map pairD).length) (r := [some (.val d), some (.val e), none, none]) ⟨_, _, rfl⟩ (fun j z r hz ⟨y1, y2, hr⟩ => by
    subst hr
    obtain ⟨hj, rfl⟩ := rgD_get hz
    rw [List.length_map] at hj
    have nw := e_name_why (rows_pair T) H.nodup H.nm g (k := j) (by rw [List.length_map]; exact hj)
    obtain ⟨x, x1, x2⟩ := p_ix g (i := (j : Int)) (by omega) (y := pairD T[j]) (by rw [Int.toNat_natCast, List.getElem?_map, List.getElem?_eq_getElem hj]; rfl)
    have x3 := p_ixs x2 (i := 1) (by omega) rfl
    have kk := e_is_kind (rows_sh S) (by rw [List.length_map]; omega) h (H.kinds _ (List.getElem_mem hj))
    have w : m_static_why [d, e, .int (j : Int)] = .ok .non := by
      simp only [m_static_why, q_df, q_st, q_sq, q_at_nx, q_at_rt, q_at_bk, q_at_ct, q_at_ex, q_mi, q_sel_t, q_sel_f, q_out_rt, q_out_nx, q_out_ex, q_rb_ok, q_rb_bad, q_rb_exc, q_tf_ok, q_v0, q_vs, q_w0, q_w0o, q_ws, q_tbq, q_asb, q_nt, q_rsel_t, q_rsel_f, q_ta, q_to, q_va, q_vo, q_vn, q_sett, q_seto, q_bin, q_c, q_callb, q_cons, q_nil, q_tup, q_lst, q_celle, q_ret, q_nx, q_thl, q_thd, q_isi, q_neg, q_neg_i, q_callk, q_drop, q_retn, q_brk, q_cnt, q_ife, q_add_i, q_sub_i, q_lt_i, q_le_i, q_gt_i, q_ge_i, q_eq_i, q_ne_i, List.map_cons, List.map_nil, List.length_cons, List.length_nil, List.replicate, List.append_nil, List.nil_append, List.cons_append, Nat.reduceAdd, Nat.reduceSub, List.getElem?_cons_zero, List.getElem?_cons_succ, List.set_cons_zero, List.set_cons_succ, Bool.not_true, Bool.not_false, decide_true, decide_false, if_true, if_false, nw, t_isn_n, x1, x3, kk]
    rw [show (0 : Int) + (j : Int) = (j : Int) by omega]
    refine ⟨_, ?_, some (.val (.int (j : Int))), some (.val .non), rfl⟩
    simp only [b_look_at_statics_1, q_df, q_st, q_sq, q_at_nx, q_at_rt, q_at_bk, q_at_ct, q_at_ex, q_mi, q_sel_t, q_sel_f, q_out_rt, q_out_nx, q_out_ex, q_rb_ok, q_rb_bad, q_rb_exc, q_tf_ok, q_v0, q_vs, q_w0, q_w0o, q_ws, q_tbq, q_asb, q_nt, q_rsel_t, q_rsel_f, q_ta, q_to, q_va, q_vo, q_vn, q_sett, q_seto, q_bin, q_c, q_callb, q_cons, q_nil, q_tup, q_lst, q_celle, q_ret, q_nx, q_thl, q_thd, q_isi, q_neg, q_neg_i, q_callk, q_drop, q_retn, q_brk, q_cnt, q_ife, q_add_i, q_sub_i, q_lt_i, q_le_i, q_gt_i, q_ge_i, q_eq_i, q_ne_i, List.map_cons, List.map_nil, List.length_cons, List.length_nil, List.replicate, List.append_nil, List.nil_append, List.cons_append, Nat.reduceAdd, Nat.reduceSub, List.getElem?_cons_zero, List.getElem?_cons_succ, List.set_cons_zero, List.set_cons_succ, Bool.not_true, Bool.not_false, decide_true, decide_false, if_true, if_false, w, t_isn_n])
  subst hr
  unfold m_look_at_statics
  rw [q_df, show mStart 4 [d, e] = [some (.val d), some (.val e), none, none] from rfl]
  rw [for_nx (rg_len g (by rw [List.length_map]; omega) rfl) e2]
  rfl
/-! ### functions -/
structure Fu where
  name : Str
  params : List Str
  result : Option Str
  slots : Int
  body : List (Str × List D)
def resD : Option Str → D
  | none => .non
  | some s => .str s
def deedD (p : Str × List D) : D := .tup (.str p.1 :: p.2)
def fuD (f : Fu) : D := .tup [.str f.name, .tup (f.params.map D.str), resD f.result, .int f.slots, .tup (f.body.map deedD)]
theorem rows_fu (F : List Fu) : Rows (F.map (·.name)) (F.map fuD) := rows_map _ _ (fun s => ⟨_, rfl⟩) F
structure FuOk (names : List Str) (k : Nat) (f : Fu) : Prop where
  params : ∀ p ∈ f.params, KindOk names p
  result : ∀ s, f.result = some s → KindOk names s
  few : f.params.length ≤ 6
  slots0 : (f.params.length : Int) ≤ f.slots
  slots1 : f.slots ≤ 16
  entry : k = 0 → (∀ p ∈ f.params, p = "num") ∧ f.result = none
  body0 : 1 ≤ f.body.length
  body1 : f.body.length ≤ 200
structure FusOk (names : List Str) (F : List Fu) : Prop where
  nodup : (F.map (·.name)).Nodup
  nm : ∀ z ∈ F.map (·.name), Nm z
  all : ∀ (k : Nat) (f : Fu), F[k]? = some f → FuOk names k f
  many : F.length ≤ 20
  some_ : 1 ≤ F.length
theorem fu_row {F : List Fu} {e : D} (h : nrm e = .tup (F.map fuD)) {k : Nat} (hk : k < F.length) : ∃ x, dIx e (.int (k : Int)) = .ok x ∧ nrm x = fuD F[k] := by
  refine p_ix h (by omega) ?_
  rw [Int.toNat_natCast, List.getElem?_map, List.getElem?_eq_getElem hk]
  rfl
theorem items_str {d : D} {ss : List Str} (h : nrm d = .tup (ss.map D.str)) : dItems d = .ok (ss.map D.str) := by
  obtain ⟨xs, e1, e2⟩ := p_items h
  have key : ∀ (xs : List D) (ss : List Str), xs.map nrm = ss.map D.str → xs = ss.map D.str := by
    intro xs
    induction xs with
    | nil =>
      intro ss h
      rw [← h]
      rfl
    | cons x xs ih =>
      intro ss h
      cases ss with
      | nil => simp at h
      | cons s ss =>
        simp only [List.map_cons, List.cons.injEq] at h
        rw [pres_str h.1, ih ss h.2]
        rfl
  rw [e1, key xs ss e2]
theorem e_entry {d : D} {ss : List Str} (h : nrm d = .tup (ss.map D.str)) (ha : ∀ p ∈ ss, p = "num") : m_entry_fits [d, .non] = .ok (.bl true) := by
  obtain ⟨r2, e2, y3, hr⟩ := for_inv (i := 2) (body := b_entry_fits_1) (fun j r => ∃ y3, r = [some (.val d), some (.val .non), y3]) (ds := ss.map D.str) (r := [some (.val d), some (.val .non), none]) ⟨_, rfl⟩ (fun j z r hz ⟨y3, hr⟩ => by
    subst hr
    rw [List.getElem?_map] at hz
    obtain ⟨s, hs, rfl⟩ := Option.map_eq_some_iff.mp hz
    have := ha s (List.mem_of_getElem? hs)
    refine ⟨_, ?_, some (.val (.str s)), rfl⟩
    simp only [b_entry_fits_1, q_df, q_st, q_sq, q_at_nx, q_at_rt, q_at_bk, q_at_ct, q_at_ex, q_mi, q_sel_t, q_sel_f, q_out_rt, q_out_nx, q_out_ex, q_rb_ok, q_rb_bad, q_rb_exc, q_tf_ok, q_v0, q_vs, q_w0, q_w0o, q_ws, q_tbq, q_asb, q_nt, q_rsel_t, q_rsel_f, q_ta, q_to, q_va, q_vo, q_vn, q_sett, q_seto, q_bin, q_c, q_callb, q_cons, q_nil, q_tup, q_lst, q_celle, q_ret, q_nx, q_thl, q_thd, q_isi, q_neg, q_neg_i, q_callk, q_drop, q_retn, q_brk, q_cnt, q_ife, q_add_i, q_sub_i, q_lt_i, q_le_i, q_gt_i, q_ge_i, q_eq_i, q_ne_i, List.map_cons, List.map_nil, List.length_cons, List.length_nil, List.replicate, List.append_nil, List.nil_append, List.cons_append, Nat.reduceAdd, Nat.reduceSub, List.getElem?_cons_zero, List.getElem?_cons_succ, List.set_cons_zero, List.set_cons_succ, Bool.not_true, Bool.not_false, decide_true, decide_false, if_true, if_false, q_ne_s, decide_eq_true this])
  subst hr
  refine def_of ?_
  rw [show mStart 3 [d, D.non] = [some (.val d), some (.val .non), none] from rfl]
  rw [seq_nx (for_nx (by simp only [q_df, q_st, q_sq, q_at_nx, q_at_rt, q_at_bk, q_at_ct, q_at_ex, q_mi, q_sel_t, q_sel_f, q_out_rt, q_out_nx, q_out_ex, q_rb_ok, q_rb_bad, q_rb_exc, q_tf_ok, q_v0, q_vs, q_w0, q_w0o, q_ws, q_tbq, q_asb, q_nt, q_rsel_t, q_rsel_f, q_ta, q_to, q_va, q_vo, q_vn, q_sett, q_seto, q_bin, q_c, q_callb, q_cons, q_nil, q_tup, q_lst, q_celle, q_ret, q_nx, q_thl, q_thd, q_isi, q_neg, q_neg_i, q_callk, q_drop, q_retn, q_brk, q_cnt, q_ife, q_add_i, q_sub_i, q_lt_i, q_le_i, q_gt_i, q_ge_i, q_eq_i, q_ne_i, List.map_cons, List.map_nil, List.length_cons, List.length_nil, List.replicate, List.append_nil, List.nil_append, List.cons_append, Nat.reduceAdd, Nat.reduceSub, List.getElem?_cons_zero, List.getElem?_cons_succ, List.set_cons_zero, List.set_cons_succ, Bool.not_true, Bool.not_false, decide_true, decide_false, if_true, if_false, q_it, items_str h]) e2)]
  rfl
theorem e_function_why {S : List Sh} {F : List Fu} (hS : S.length < 1000) (H : FusOk (S.map (·.name)) F) {d e : D} (h : nrm d = .tup (S.map shD)) (g : nrm e = .tup (F.map fuD)) {k : Nat} (hk : k < F.length) : m_function_why [d, e, .int (k : Int)] = .ok .non := by
  have nw := e_name_why (rows_fu F) H.nodup H.nm g (k := k) (by rw [List.length_map]; exact hk)
  obtain ⟨x, x1, x2⟩ := fu_row g hk
  have fo := H.all k F[k] (List.getElem?_eq_getElem hk)
  generalize F[k] = f at *
  obtain ⟨pd, f1, f2⟩ := p_ix x2 (i := 1) (by omega) rfl
  obtain ⟨rd, f3, f4⟩ := p_ix x2 (i := 2) (by omega) rfl
  have f5 := p_ixi x2 (i := 3) (by omega) rfl
  obtain ⟨bd, f6, f7⟩ := p_ix x2 (i := 4) (by omega) rfl
  have hres : (f.result = none ∧ rd = .non) ∨ ∃ s, f.result = some s ∧ rd = .str s := by
    cases er : f.result with
    | none =>
      rw [er] at f4
      exact .inl ⟨rfl, pres_non f4⟩
    | some s =>
      rw [er] at f4
      exact .inr ⟨s, rfl, pres_str f4⟩
  have lp := p_len f2
  rw [List.length_map] at lp
  have lb := p_len f7
  rw [List.length_map] at lb
  have kk := fun p hp => e_is_kind (rows_sh S) (by rw [List.length_map]; omega) h (fo.params p hp)
  obtain ⟨r2, e2, y7, hr⟩ := for_inv (i := 7) (body := b_function_why_1) (fun j r => ∃ y7, r = [some (.val d), some (.val e), some (.val (.int (k : Int))), some (.val .non), some (.val pd), some (.val rd), some (.val (.int f.slots)), y7]) (ds := f.params.map D.str) (r := [some (.val d), some (.val e), some (.val (.int (k : Int))), some (.val .non), some (.val pd), some (.val rd), some (.val (.int f.slots)), none]) ⟨_, rfl⟩ (fun j z r hz ⟨y3, hr⟩ => by
    subst hr
    rw [List.getElem?_map] at hz
    obtain ⟨s, hs, rfl⟩ := Option.map_eq_some_iff.mp hz
    have w := kk s (List.mem_of_getElem? hs)
    refine ⟨_, ?_, some (.val (.str s)), rfl⟩
    simp only [b_function_why_1, q_df, q_st, q_sq, q_at_nx, q_at_rt, q_at_bk, q_at_ct, q_at_ex, q_mi, q_sel_t, q_sel_f, q_out_rt, q_out_nx, q_out_ex, q_rb_ok, q_rb_bad, q_rb_exc, q_tf_ok, q_v0, q_vs, q_w0, q_w0o, q_ws, q_tbq, q_asb, q_nt, q_rsel_t, q_rsel_f, q_ta, q_to, q_va, q_vo, q_vn, q_sett, q_seto, q_bin, q_c, q_callb, q_cons, q_nil, q_tup, q_lst, q_celle, q_ret, q_nx, q_thl, q_thd, q_isi, q_neg, q_neg_i, q_callk, q_drop, q_retn, q_brk, q_cnt, q_ife, q_add_i, q_sub_i, q_lt_i, q_le_i, q_gt_i, q_ge_i, q_eq_i, q_ne_i, List.map_cons, List.map_nil, List.length_cons, List.length_nil, List.replicate, List.append_nil, List.nil_append, List.cons_append, Nat.reduceAdd, Nat.reduceSub, List.getElem?_cons_zero, List.getElem?_cons_succ, List.set_cons_zero, List.set_cons_succ, Bool.not_true, Bool.not_false, decide_true, decide_false, if_true, if_false, w])
  subst hr
  have b0 := fo.body0
  have b1 := fo.body1
  have s0 := fo.slots0
  have s1 := fo.slots1
  have fw := fo.few
  unfold m_function_why
  refine def_of ?_
  rw [show mStart 8 [d, e, D.int (k : Int)] = [some (.val d), some (.val e), some (.val (.int (k : Int))), none, none, none, none, none] from rfl]
  rw [seq_nx (r' := [some (.val d), some (.val e), some (.val (.int (k : Int))), some (.val .non), none, none, none, none]) (by simp only [q_df, q_st, q_sq, q_at_nx, q_at_rt, q_at_bk, q_at_ct, q_at_ex, q_mi, q_sel_t, q_sel_f, q_out_rt, q_out_nx, q_out_ex, q_rb_ok, q_rb_bad, q_rb_exc, q_tf_ok, q_v0, q_vs, q_w0, q_w0o, q_ws, q_tbq, q_asb, q_nt, q_rsel_t, q_rsel_f, q_ta, q_to, q_va, q_vo, q_vn, q_sett, q_seto, q_bin, q_c, q_callb, q_cons, q_nil, q_tup, q_lst, q_celle, q_ret, q_nx, q_thl, q_thd, q_isi, q_neg, q_neg_i, q_callk, q_drop, q_retn, q_brk, q_cnt, q_ife, q_add_i, q_sub_i, q_lt_i, q_le_i, q_gt_i, q_ge_i, q_eq_i, q_ne_i, List.map_cons, List.map_nil, List.length_cons, List.length_nil, List.replicate, List.append_nil, List.nil_append, List.cons_append, Nat.reduceAdd, Nat.reduceSub, List.getElem?_cons_zero, List.getElem?_cons_succ, List.set_cons_zero, List.set_cons_succ, Bool.not_true, Bool.not_false, decide_true, decide_false, if_true, if_false, nw])]
  rw [seq_nx (r' := [some (.val d), some (.val e), some (.val (.int (k : Int))), some (.val .non), none, none, none, none]) (by simp only [q_df, q_st, q_sq, q_at_nx, q_at_rt, q_at_bk, q_at_ct, q_at_ex, q_mi, q_sel_t, q_sel_f, q_out_rt, q_out_nx, q_out_ex, q_rb_ok, q_rb_bad, q_rb_exc, q_tf_ok, q_v0, q_vs, q_w0, q_w0o, q_ws, q_tbq, q_asb, q_nt, q_rsel_t, q_rsel_f, q_ta, q_to, q_va, q_vo, q_vn, q_sett, q_seto, q_bin, q_c, q_callb, q_cons, q_nil, q_tup, q_lst, q_celle, q_ret, q_nx, q_thl, q_thd, q_isi, q_neg, q_neg_i, q_callk, q_drop, q_retn, q_brk, q_cnt, q_ife, q_add_i, q_sub_i, q_lt_i, q_le_i, q_gt_i, q_ge_i, q_eq_i, q_ne_i, List.map_cons, List.map_nil, List.length_cons, List.length_nil, List.replicate, List.append_nil, List.nil_append, List.cons_append, Nat.reduceAdd, Nat.reduceSub, List.getElem?_cons_zero, List.getElem?_cons_succ, List.set_cons_zero, List.set_cons_succ, Bool.not_true, Bool.not_false, decide_true, decide_false, if_true, if_false, t_isn_n])]
  rw [seq_nx (r' := [some (.val d), some (.val e), some (.val (.int (k : Int))), some (.val .non), some (.val pd), none, none, none]) (by simp only [q_df, q_st, q_sq, q_at_nx, q_at_rt, q_at_bk, q_at_ct, q_at_ex, q_mi, q_sel_t, q_sel_f, q_out_rt, q_out_nx, q_out_ex, q_rb_ok, q_rb_bad, q_rb_exc, q_tf_ok, q_v0, q_vs, q_w0, q_w0o, q_ws, q_tbq, q_asb, q_nt, q_rsel_t, q_rsel_f, q_ta, q_to, q_va, q_vo, q_vn, q_sett, q_seto, q_bin, q_c, q_callb, q_cons, q_nil, q_tup, q_lst, q_celle, q_ret, q_nx, q_thl, q_thd, q_isi, q_neg, q_neg_i, q_callk, q_drop, q_retn, q_brk, q_cnt, q_ife, q_add_i, q_sub_i, q_lt_i, q_le_i, q_gt_i, q_ge_i, q_eq_i, q_ne_i, List.map_cons, List.map_nil, List.length_cons, List.length_nil, List.replicate, List.append_nil, List.nil_append, List.cons_append, Nat.reduceAdd, Nat.reduceSub, List.getElem?_cons_zero, List.getElem?_cons_succ, List.set_cons_zero, List.set_cons_succ, Bool.not_true, Bool.not_false, decide_true, decide_false, if_true, if_false, x1, f1])]
  rw [seq_nx (r' := [some (.val d), some (.val e), some (.val (.int (k : Int))), some (.val .non), some (.val pd), some (.val rd), none, none]) (by simp only [q_df, q_st, q_sq, q_at_nx, q_at_rt, q_at_bk, q_at_ct, q_at_ex, q_mi, q_sel_t, q_sel_f, q_out_rt, q_out_nx, q_out_ex, q_rb_ok, q_rb_bad, q_rb_exc, q_tf_ok, q_v0, q_vs, q_w0, q_w0o, q_ws, q_tbq, q_asb, q_nt, q_rsel_t, q_rsel_f, q_ta, q_to, q_va, q_vo, q_vn, q_sett, q_seto, q_bin, q_c, q_callb, q_cons, q_nil, q_tup, q_lst, q_celle, q_ret, q_nx, q_thl, q_thd, q_isi, q_neg, q_neg_i, q_callk, q_drop, q_retn, q_brk, q_cnt, q_ife, q_add_i, q_sub_i, q_lt_i, q_le_i, q_gt_i, q_ge_i, q_eq_i, q_ne_i, List.map_cons, List.map_nil, List.length_cons, List.length_nil, List.replicate, List.append_nil, List.nil_append, List.cons_append, Nat.reduceAdd, Nat.reduceSub, List.getElem?_cons_zero, List.getElem?_cons_succ, List.set_cons_zero, List.set_cons_succ, Bool.not_true, Bool.not_false, decide_true, decide_false, if_true, if_false, x1, f3])]
  rw [seq_nx (r' := [some (.val d), some (.val e), some (.val (.int (k : Int))), some (.val .non), some (.val pd), some (.val rd), some (.val (.int f.slots)), none]) (by simp only [q_df, q_st, q_sq, q_at_nx, q_at_rt, q_at_bk, q_at_ct, q_at_ex, q_mi, q_sel_t, q_sel_f, q_out_rt, q_out_nx, q_out_ex, q_rb_ok, q_rb_bad, q_rb_exc, q_tf_ok, q_v0, q_vs, q_w0, q_w0o, q_ws, q_tbq, q_asb, q_nt, q_rsel_t, q_rsel_f, q_ta, q_to, q_va, q_vo, q_vn, q_sett, q_seto, q_bin, q_c, q_callb, q_cons, q_nil, q_tup, q_lst, q_celle, q_ret, q_nx, q_thl, q_thd, q_isi, q_neg, q_neg_i, q_callk, q_drop, q_retn, q_brk, q_cnt, q_ife, q_add_i, q_sub_i, q_lt_i, q_le_i, q_gt_i, q_ge_i, q_eq_i, q_ne_i, List.map_cons, List.map_nil, List.length_cons, List.length_nil, List.replicate, List.append_nil, List.nil_append, List.cons_append, Nat.reduceAdd, Nat.reduceSub, List.getElem?_cons_zero, List.getElem?_cons_succ, List.set_cons_zero, List.set_cons_succ, Bool.not_true, Bool.not_false, decide_true, decide_false, if_true, if_false, x1, f5])]
  rw [seq_nx (for_nx (by simp only [q_df, q_st, q_sq, q_at_nx, q_at_rt, q_at_bk, q_at_ct, q_at_ex, q_mi, q_sel_t, q_sel_f, q_out_rt, q_out_nx, q_out_ex, q_rb_ok, q_rb_bad, q_rb_exc, q_tf_ok, q_v0, q_vs, q_w0, q_w0o, q_ws, q_tbq, q_asb, q_nt, q_rsel_t, q_rsel_f, q_ta, q_to, q_va, q_vo, q_vn, q_sett, q_seto, q_bin, q_c, q_callb, q_cons, q_nil, q_tup, q_lst, q_celle, q_ret, q_nx, q_thl, q_thd, q_isi, q_neg, q_neg_i, q_callk, q_drop, q_retn, q_brk, q_cnt, q_ife, q_add_i, q_sub_i, q_lt_i, q_le_i, q_gt_i, q_ge_i, q_eq_i, q_ne_i, List.map_cons, List.map_nil, List.length_cons, List.length_nil, List.replicate, List.append_nil, List.nil_append, List.cons_append, Nat.reduceAdd, Nat.reduceSub, List.getElem?_cons_zero, List.getElem?_cons_succ, List.set_cons_zero, List.set_cons_succ, Bool.not_true, Bool.not_false, decide_true, decide_false, if_true, if_false, q_it, items_str f2]) e2)]
  rw [seq_nx (r' := [some (.val d), some (.val e), some (.val (.int (k : Int))), some (.val .non), some (.val pd), some (.val rd), some (.val (.int f.slots)), y7]) (by
    rcases hres with ⟨_, rfl⟩ | ⟨s, hs, rfl⟩
    · simp only [q_df, q_st, q_sq, q_at_nx, q_at_rt, q_at_bk, q_at_ct, q_at_ex, q_mi, q_sel_t, q_sel_f, q_out_rt, q_out_nx, q_out_ex, q_rb_ok, q_rb_bad, q_rb_exc, q_tf_ok, q_v0, q_vs, q_w0, q_w0o, q_ws, q_tbq, q_asb, q_nt, q_rsel_t, q_rsel_f, q_ta, q_to, q_va, q_vo, q_vn, q_sett, q_seto, q_bin, q_c, q_callb, q_cons, q_nil, q_tup, q_lst, q_celle, q_ret, q_nx, q_thl, q_thd, q_isi, q_neg, q_neg_i, q_callk, q_drop, q_retn, q_brk, q_cnt, q_ife, q_add_i, q_sub_i, q_lt_i, q_le_i, q_gt_i, q_ge_i, q_eq_i, q_ne_i, List.map_cons, List.map_nil, List.length_cons, List.length_nil, List.replicate, List.append_nil, List.nil_append, List.cons_append, Nat.reduceAdd, Nat.reduceSub, List.getElem?_cons_zero, List.getElem?_cons_succ, List.set_cons_zero, List.set_cons_succ, Bool.not_true, Bool.not_false, decide_true, decide_false, if_true, if_false, t_isn_n]
    · have w := e_is_kind (rows_sh S) (by rw [List.length_map]; omega) h (fo.result s hs)
      simp only [q_df, q_st, q_sq, q_at_nx, q_at_rt, q_at_bk, q_at_ct, q_at_ex, q_mi, q_sel_t, q_sel_f, q_out_rt, q_out_nx, q_out_ex, q_rb_ok, q_rb_bad, q_rb_exc, q_tf_ok, q_v0, q_vs, q_w0, q_w0o, q_ws, q_tbq, q_asb, q_nt, q_rsel_t, q_rsel_f, q_ta, q_to, q_va, q_vo, q_vn, q_sett, q_seto, q_bin, q_c, q_callb, q_cons, q_nil, q_tup, q_lst, q_celle, q_ret, q_nx, q_thl, q_thd, q_isi, q_neg, q_neg_i, q_callk, q_drop, q_retn, q_brk, q_cnt, q_ife, q_add_i, q_sub_i, q_lt_i, q_le_i, q_gt_i, q_ge_i, q_eq_i, q_ne_i, List.map_cons, List.map_nil, List.length_cons, List.length_nil, List.replicate, List.append_nil, List.nil_append, List.cons_append, Nat.reduceAdd, Nat.reduceSub, List.getElem?_cons_zero, List.getElem?_cons_succ, List.set_cons_zero, List.set_cons_succ, Bool.not_true, Bool.not_false, decide_true, decide_false, if_true, if_false, q_isn_ns, w])]
  rw [seq_nx (r' := [some (.val d), some (.val e), some (.val (.int (k : Int))), some (.val .non), some (.val pd), some (.val rd), some (.val (.int f.slots)), y7]) (by simp (disch := omega) only [q_df, q_st, q_sq, q_at_nx, q_at_rt, q_at_bk, q_at_ct, q_at_ex, q_mi, q_sel_t, q_sel_f, q_out_rt, q_out_nx, q_out_ex, q_rb_ok, q_rb_bad, q_rb_exc, q_tf_ok, q_v0, q_vs, q_w0, q_w0o, q_ws, q_tbq, q_asb, q_nt, q_rsel_t, q_rsel_f, q_ta, q_to, q_va, q_vo, q_vn, q_sett, q_seto, q_bin, q_c, q_callb, q_cons, q_nil, q_tup, q_lst, q_celle, q_ret, q_nx, q_thl, q_thd, q_isi, q_neg, q_neg_i, q_callk, q_drop, q_retn, q_brk, q_cnt, q_ife, q_add_i, q_sub_i, List.map_cons, List.map_nil, List.length_cons, List.length_nil, List.replicate, List.append_nil, List.nil_append, List.cons_append, Nat.reduceAdd, Nat.reduceSub, List.getElem?_cons_zero, List.getElem?_cons_succ, List.set_cons_zero, List.set_cons_succ, Bool.not_true, Bool.not_false, decide_true, decide_false, if_true, if_false, t_lt_t, t_lt_f, t_le_t, t_le_f, t_gt_t, t_gt_f, t_ge_t, t_ge_f, t_eq_t, t_eq_f, t_ne_t, t_ne_f, t_is_b, t_isn_b, t_is_i, t_is_n, t_isn_i, t_isn_n, t_abs_n, t_abs_p, t_min, t_max, t_ixl, t_ixt, t_ixs, t_ixL, q_opt, q_ixo, q_oc0, q_ocs, q_oa0, q_oas, t_appd, q_app, t_putd, q_six, q_flopt, q_frz, q_int_i, q_mul_s, q_mod_i, q_div_i, q_len_s, q_len_l, q_len_t, q_items_s, q_items_l, q_items_t, t_szl, Int.reduceToNat, Int.reduceNeg, permL, List.filterMap_cons, List.filterMap_nil, eq_self, if_true, if_false, ite_true, ite_false, Bool.true_eq_false, Bool.false_eq_true, lp])]
  rw [seq_nx (r' := [some (.val d), some (.val e), some (.val (.int (k : Int))), some (.val .non), some (.val pd), some (.val rd), some (.val (.int f.slots)), y7]) (by
    by_cases hk0 : k = 0
    · obtain ⟨g1, g2⟩ := fo.entry hk0
      rcases hres with ⟨_, rfl⟩ | ⟨s, hs, rfl⟩
      · have w := e_entry f2 g1
        simp (disch := omega) only [q_df, q_st, q_sq, q_at_nx, q_at_rt, q_at_bk, q_at_ct, q_at_ex, q_mi, q_sel_t, q_sel_f, q_out_rt, q_out_nx, q_out_ex, q_rb_ok, q_rb_bad, q_rb_exc, q_tf_ok, q_v0, q_vs, q_w0, q_w0o, q_ws, q_tbq, q_asb, q_nt, q_rsel_t, q_rsel_f, q_ta, q_to, q_va, q_vo, q_vn, q_sett, q_seto, q_bin, q_c, q_callb, q_cons, q_nil, q_tup, q_lst, q_celle, q_ret, q_nx, q_thl, q_thd, q_isi, q_neg, q_neg_i, q_callk, q_drop, q_retn, q_brk, q_cnt, q_ife, q_add_i, q_sub_i, List.map_cons, List.map_nil, List.length_cons, List.length_nil, List.replicate, List.append_nil, List.nil_append, List.cons_append, Nat.reduceAdd, Nat.reduceSub, List.getElem?_cons_zero, List.getElem?_cons_succ, List.set_cons_zero, List.set_cons_succ, Bool.not_true, Bool.not_false, decide_true, decide_false, if_true, if_false, t_lt_t, t_lt_f, t_le_t, t_le_f, t_gt_t, t_gt_f, t_ge_t, t_ge_f, t_eq_t, t_eq_f, t_ne_t, t_ne_f, t_is_b, t_isn_b, t_is_i, t_is_n, t_isn_i, t_isn_n, t_abs_n, t_abs_p, t_min, t_max, t_ixl, t_ixt, t_ixs, t_ixL, q_opt, q_ixo, q_oc0, q_ocs, q_oa0, q_oas, t_appd, q_app, t_putd, q_six, q_flopt, q_frz, q_int_i, q_mul_s, q_mod_i, q_div_i, q_len_s, q_len_l, q_len_t, q_items_s, q_items_l, q_items_t, t_szl, Int.reduceToNat, Int.reduceNeg, permL, List.filterMap_cons, List.filterMap_nil, eq_self, if_true, if_false, ite_true, ite_false, Bool.true_eq_false, Bool.false_eq_true, w]
      · rw [g2] at hs
        cases hs
    · simp (disch := omega) only [q_df, q_st, q_sq, q_at_nx, q_at_rt, q_at_bk, q_at_ct, q_at_ex, q_mi, q_sel_t, q_sel_f, q_out_rt, q_out_nx, q_out_ex, q_rb_ok, q_rb_bad, q_rb_exc, q_tf_ok, q_v0, q_vs, q_w0, q_w0o, q_ws, q_tbq, q_asb, q_nt, q_rsel_t, q_rsel_f, q_ta, q_to, q_va, q_vo, q_vn, q_sett, q_seto, q_bin, q_c, q_callb, q_cons, q_nil, q_tup, q_lst, q_celle, q_ret, q_nx, q_thl, q_thd, q_isi, q_neg, q_neg_i, q_callk, q_drop, q_retn, q_brk, q_cnt, q_ife, q_add_i, q_sub_i, List.map_cons, List.map_nil, List.length_cons, List.length_nil, List.replicate, List.append_nil, List.nil_append, List.cons_append, Nat.reduceAdd, Nat.reduceSub, List.getElem?_cons_zero, List.getElem?_cons_succ, List.set_cons_zero, List.set_cons_succ, Bool.not_true, Bool.not_false, decide_true, decide_false, if_true, if_false, t_lt_t, t_lt_f, t_le_t, t_le_f, t_gt_t, t_gt_f, t_ge_t, t_ge_f, t_eq_t, t_eq_f, t_ne_t, t_ne_f, t_is_b, t_isn_b, t_is_i, t_is_n, t_isn_i, t_isn_n, t_abs_n, t_abs_p, t_min, t_max, t_ixl, t_ixt, t_ixs, t_ixL, q_opt, q_ixo, q_oc0, q_ocs, q_oa0, q_oas, t_appd, q_app, t_putd, q_six, q_flopt, q_frz, q_int_i, q_mul_s, q_mod_i, q_div_i, q_len_s, q_len_l, q_len_t, q_items_s, q_items_l, q_items_t, t_szl, Int.reduceToNat, Int.reduceNeg, permL, List.filterMap_cons, List.filterMap_nil, eq_self, if_true, if_false, ite_true, ite_false, Bool.true_eq_false, Bool.false_eq_true])]
  rw [seq_nx (r' := [some (.val d), some (.val e), some (.val (.int (k : Int))), some (.val .non), some (.val pd), some (.val rd), some (.val (.int f.slots)), y7]) (by simp (disch := omega) only [q_df, q_st, q_sq, q_at_nx, q_at_rt, q_at_bk, q_at_ct, q_at_ex, q_mi, q_sel_t, q_sel_f, q_out_rt, q_out_nx, q_out_ex, q_rb_ok, q_rb_bad, q_rb_exc, q_tf_ok, q_v0, q_vs, q_w0, q_w0o, q_ws, q_tbq, q_asb, q_nt, q_rsel_t, q_rsel_f, q_ta, q_to, q_va, q_vo, q_vn, q_sett, q_seto, q_bin, q_c, q_callb, q_cons, q_nil, q_tup, q_lst, q_celle, q_ret, q_nx, q_thl, q_thd, q_isi, q_neg, q_neg_i, q_callk, q_drop, q_retn, q_brk, q_cnt, q_ife, q_add_i, q_sub_i, List.map_cons, List.map_nil, List.length_cons, List.length_nil, List.replicate, List.append_nil, List.nil_append, List.cons_append, Nat.reduceAdd, Nat.reduceSub, List.getElem?_cons_zero, List.getElem?_cons_succ, List.set_cons_zero, List.set_cons_succ, Bool.not_true, Bool.not_false, decide_true, decide_false, if_true, if_false, t_lt_t, t_lt_f, t_le_t, t_le_f, t_gt_t, t_gt_f, t_ge_t, t_ge_f, t_eq_t, t_eq_f, t_ne_t, t_ne_f, t_is_b, t_isn_b, t_is_i, t_is_n, t_isn_i, t_isn_n, t_abs_n, t_abs_p, t_min, t_max, t_ixl, t_ixt, t_ixs, t_ixL, q_opt, q_ixo, q_oc0, q_ocs, q_oa0, q_oas, t_appd, q_app, t_putd, q_six, q_flopt, q_frz, q_int_i, q_mul_s, q_mod_i, q_div_i, q_len_s, q_len_l, q_len_t, q_items_s, q_items_l, q_items_t, t_szl, Int.reduceToNat, Int.reduceNeg, permL, List.filterMap_cons, List.filterMap_nil, eq_self, if_true, if_false, ite_true, ite_false, Bool.true_eq_false, Bool.false_eq_true, x1, f6, lb])]
  rfl
theorem e_look_functions {S : List Sh} {F : List Fu} (hS : S.length < 1000) (H : FusOk (S.map (·.name)) F) {d e : D} (h : nrm d = .tup (S.map shD)) (g : nrm e = .tup (F.map fuD)) : m_look_at_functions [d, e] = .ok .non := by
  have hF := H.many
  obtain ⟨r2, e2, y1, y2, hr⟩ := for_inv (i := 2) (body := b_look_at_functions_1) (fun j r => ∃ y1 y2, r = [some (.val d), some (.val e), y1, y2]) (ds := rgD 0 (F.map fuD).length) (r := [some (.val d), some (.val e), none, none]) ⟨_, _, rfl⟩ (fun j z r hz ⟨y1, y2, hr⟩ => by
    subst hr
    obtain ⟨hj, rfl⟩ := rgD_get hz
    rw [List.length_map] at hj
    have w := e_function_why hS H h g hj
    rw [show (0 : Int) + (j : Int) = (j : Int) by omega]
    refine ⟨_, ?_, some (.val (.int (j : Int))), some (.val .non), rfl⟩
    simp only [b_look_at_functions_1, q_df, q_st, q_sq, q_at_nx, q_at_rt, q_at_bk, q_at_ct, q_at_ex, q_mi, q_sel_t, q_sel_f, q_out_rt, q_out_nx, q_out_ex, q_rb_ok, q_rb_bad, q_rb_exc, q_tf_ok, q_v0, q_vs, q_w0, q_w0o, q_ws, q_tbq, q_asb, q_nt, q_rsel_t, q_rsel_f, q_ta, q_to, q_va, q_vo, q_vn, q_sett, q_seto, q_bin, q_c, q_callb, q_cons, q_nil, q_tup, q_lst, q_celle, q_ret, q_nx, q_thl, q_thd, q_isi, q_neg, q_neg_i, q_callk, q_drop, q_retn, q_brk, q_cnt, q_ife, q_add_i, q_sub_i, q_lt_i, q_le_i, q_gt_i, q_ge_i, q_eq_i, q_ne_i, List.map_cons, List.map_nil, List.length_cons, List.length_nil, List.replicate, List.append_nil, List.nil_append, List.cons_append, Nat.reduceAdd, Nat.reduceSub, List.getElem?_cons_zero, List.getElem?_cons_succ, List.set_cons_zero, List.set_cons_succ, Bool.not_true, Bool.not_false, decide_true, decide_false, if_true, if_false, w, t_isn_n])
  subst hr
  unfold m_look_at_functions
  rw [q_df, show mStart 4 [d, e] = [some (.val d), some (.val e), none, none] from rfl]
  rw [for_nx (rg_len g (by rw [List.length_map]; omega) rfl) e2]
  rfl
/-! ### operands -/
theorem for_find {i : Nat} {body : MS} {v : D} (I : Sc → Prop) : ∀ (n : Nat) (ds : List D) (r : Sc), n < ds.length → I r → (∀ (j : Nat) (d : D) (r : Sc), j < n → ds[j]? = some d → I r → ∃ r2, body (r.set i (some (.val d))) = .nx r2 ∧ I r2) → (∀ (d : D) (r : Sc), ds[n]? = some d → I r → body (r.set i (some (.val d))) = .rt v) → loopL (bName i) body ds r = .rt v
  | 0, [], r, h, _, _, _ => by simp at h
  | 0, d :: ds, r, _, h0, _, fin => by
    simp only [loopL, bName, fin d r rfl h0]
  | n + 1, [], r, h, _, _, _ => by simp at h
  | n + 1, d :: ds, r, h, h0, st, fin => by
    obtain ⟨r2, e, h2⟩ := st 0 d r (by omega) rfl h0
    rw [loop_cons e]
    exact for_find I n ds r2 (by simpa using h) h2 (fun j d' r' hj hd => st (j + 1) d' r' (by omega) (by simpa using hd)) (fun d' r' hd => fin d' r' (by simpa using hd))
theorem sh_item {S : List Sh} {xs : List D} (e : xs.map nrm = S.map shD) {j : Nat} {z : D} (hz : xs[j]? = some z) : ∃ s, S[j]? = some s ∧ nrm z = shD s := by
  have : (S.map shD)[j]? = some (nrm z) := by rw [← e, List.getElem?_map, hz]; rfl
  rw [List.getElem?_map] at this
  obtain ⟨s, h1, h2⟩ := Option.map_eq_some_iff.mp this
  exact ⟨s, h1, h2.symm⟩
theorem nodup_at {S : List Sh} (hn : (S.map (·.name)).Nodup) {j n : Nat} {s t : Sh} (hj : S[j]? = some s) (h : S[n]? = some t) (ne : j ≠ n) : s.name ≠ t.name := by
  intro e
  obtain ⟨a1, a2⟩ := List.getElem?_eq_some_iff.mp hj
  obtain ⟨b1, b2⟩ := List.getElem?_eq_some_iff.mp h
  have l1 : j < (S.map (·.name)).length := by rw [List.length_map]; exact a1
  have l2 : n < (S.map (·.name)).length := by rw [List.length_map]; exact b1
  refine ne ((List.getElem_inj (h₀ := l1) (h₁ := l2) hn).mp ?_)
  rw [List.getElem_map, List.getElem_map, a2, b2, e]
theorem e_form_of {S : List Sh} (hn : (S.map (·.name)).Nodup) {d : D} (h : nrm d = .tup (S.map shD)) {n : Nat} {s : Sh} (hs : S[n]? = some s) : m_form_of [d, .str s.name] = .ok (.str s.form) := by
  obtain ⟨xs, i1, i2⟩ := p_items h
  have hl : n < xs.length := by
    have := congrArg List.length i2
    rw [List.length_map, List.length_map] at this
    rw [this]
    exact (List.getElem?_eq_some_iff.mp hs).1
  refine def_of ?_
  rw [show mStart 3 [d, D.str s.name] = [some (.val d), some (.val (.str s.name)), none] from rfl]
  refine seq_rt (for_rt (by simp only [q_df, q_st, q_sq, q_at_nx, q_at_rt, q_at_bk, q_at_ct, q_at_ex, q_mi, q_sel_t, q_sel_f, q_out_rt, q_out_nx, q_out_ex, q_rb_ok, q_rb_bad, q_rb_exc, q_tf_ok, q_v0, q_vs, q_w0, q_w0o, q_ws, q_tbq, q_asb, q_nt, q_rsel_t, q_rsel_f, q_ta, q_to, q_va, q_vo, q_vn, q_sett, q_seto, q_bin, q_c, q_callb, q_cons, q_nil, q_tup, q_lst, q_celle, q_ret, q_nx, q_thl, q_thd, q_isi, q_neg, q_neg_i, q_callk, q_drop, q_retn, q_brk, q_cnt, q_ife, q_add_i, q_sub_i, q_lt_i, q_le_i, q_gt_i, q_ge_i, q_eq_i, q_ne_i, List.map_cons, List.map_nil, List.length_cons, List.length_nil, List.replicate, List.append_nil, List.nil_append, List.cons_append, Nat.reduceAdd, Nat.reduceSub, List.getElem?_cons_zero, List.getElem?_cons_succ, List.set_cons_zero, List.set_cons_succ, Bool.not_true, Bool.not_false, decide_true, decide_false, if_true, if_false, q_it, i1]) (for_find (fun r => ∃ y, r = [some (.val d), some (.val (.str s.name)), y]) n xs _ hl ⟨_, rfl⟩ (fun j z r hj hz ⟨y, hr⟩ => ?_) (fun z r hz ⟨y, hr⟩ => ?_)))
  · subst hr
    obtain ⟨t, t1, t2⟩ := sh_item i2 hz
    have z0 := p_ixs t2 (i := 0) (by omega) rfl
    have ne := nodup_at hn t1 hs (by omega)
    refine ⟨_, ?_, some (.val z), rfl⟩
    simp only [b_form_of_1, q_df, q_st, q_sq, q_at_nx, q_at_rt, q_at_bk, q_at_ct, q_at_ex, q_mi, q_sel_t, q_sel_f, q_out_rt, q_out_nx, q_out_ex, q_rb_ok, q_rb_bad, q_rb_exc, q_tf_ok, q_v0, q_vs, q_w0, q_w0o, q_ws, q_tbq, q_asb, q_nt, q_rsel_t, q_rsel_f, q_ta, q_to, q_va, q_vo, q_vn, q_sett, q_seto, q_bin, q_c, q_callb, q_cons, q_nil, q_tup, q_lst, q_celle, q_ret, q_nx, q_thl, q_thd, q_isi, q_neg, q_neg_i, q_callk, q_drop, q_retn, q_brk, q_cnt, q_ife, q_add_i, q_sub_i, q_lt_i, q_le_i, q_gt_i, q_ge_i, q_eq_i, q_ne_i, List.map_cons, List.map_nil, List.length_cons, List.length_nil, List.replicate, List.append_nil, List.nil_append, List.cons_append, Nat.reduceAdd, Nat.reduceSub, List.getElem?_cons_zero, List.getElem?_cons_succ, List.set_cons_zero, List.set_cons_succ, Bool.not_true, Bool.not_false, decide_true, decide_false, if_true, if_false, z0, q_eq_s, decide_eq_false ne]
  · subst hr
    obtain ⟨t, t1, t2⟩ := sh_item i2 hz
    rw [hs] at t1
    cases t1
    have z0 := p_ixs t2 (i := 0) (by omega) rfl
    have z1 := p_ixs t2 (i := 1) (by omega) rfl
    simp only [b_form_of_1, q_df, q_st, q_sq, q_at_nx, q_at_rt, q_at_bk, q_at_ct, q_at_ex, q_mi, q_sel_t, q_sel_f, q_out_rt, q_out_nx, q_out_ex, q_rb_ok, q_rb_bad, q_rb_exc, q_tf_ok, q_v0, q_vs, q_w0, q_w0o, q_ws, q_tbq, q_asb, q_nt, q_rsel_t, q_rsel_f, q_ta, q_to, q_va, q_vo, q_vn, q_sett, q_seto, q_bin, q_c, q_callb, q_cons, q_nil, q_tup, q_lst, q_celle, q_ret, q_nx, q_thl, q_thd, q_isi, q_neg, q_neg_i, q_callk, q_drop, q_retn, q_brk, q_cnt, q_ife, q_add_i, q_sub_i, q_lt_i, q_le_i, q_gt_i, q_ge_i, q_eq_i, q_ne_i, List.map_cons, List.map_nil, List.length_cons, List.length_nil, List.replicate, List.append_nil, List.nil_append, List.cons_append, Nat.reduceAdd, Nat.reduceSub, List.getElem?_cons_zero, List.getElem?_cons_succ, List.set_cons_zero, List.set_cons_succ, Bool.not_true, Bool.not_false, decide_true, decide_false, if_true, if_false, z0, z1, q_eq_s]
theorem e_field_names {S : List Sh} (hn : (S.map (·.name)).Nodup) {d : D} (h : nrm d = .tup (S.map shD)) {n : Nat} {s : Sh} (hs : S[n]? = some s) (hm : s.fields.length < 1000) : m_field_names [d, .str s.name] = .ok (.lst ((s.fields.map (·.1)).map D.str)) := by
  obtain ⟨xs, i1, i2⟩ := p_items h
  have hl : n < xs.length := by
    have := congrArg List.length i2
    rw [List.length_map, List.length_map] at this
    rw [this]
    exact (List.getElem?_eq_some_iff.mp hs).1
  refine def_of ?_
  rw [show mStart 4 [d, D.str s.name] = [some (.val d), some (.val (.str s.name)), none, none] from rfl]
  refine seq_rt (for_rt (by simp only [q_df, q_st, q_sq, q_at_nx, q_at_rt, q_at_bk, q_at_ct, q_at_ex, q_mi, q_sel_t, q_sel_f, q_out_rt, q_out_nx, q_out_ex, q_rb_ok, q_rb_bad, q_rb_exc, q_tf_ok, q_v0, q_vs, q_w0, q_w0o, q_ws, q_tbq, q_asb, q_nt, q_rsel_t, q_rsel_f, q_ta, q_to, q_va, q_vo, q_vn, q_sett, q_seto, q_bin, q_c, q_callb, q_cons, q_nil, q_tup, q_lst, q_celle, q_ret, q_nx, q_thl, q_thd, q_isi, q_neg, q_neg_i, q_callk, q_drop, q_retn, q_brk, q_cnt, q_ife, q_add_i, q_sub_i, q_lt_i, q_le_i, q_gt_i, q_ge_i, q_eq_i, q_ne_i, List.map_cons, List.map_nil, List.length_cons, List.length_nil, List.replicate, List.append_nil, List.nil_append, List.cons_append, Nat.reduceAdd, Nat.reduceSub, List.getElem?_cons_zero, List.getElem?_cons_succ, List.set_cons_zero, List.set_cons_succ, Bool.not_true, Bool.not_false, decide_true, decide_false, if_true, if_false, q_it, i1]) (for_find (fun r => ∃ y, r = [some (.val d), some (.val (.str s.name)), y, none]) n xs _ hl ⟨_, rfl⟩ (fun j z r hj hz ⟨y, hr⟩ => ?_) (fun z r hz ⟨y, hr⟩ => ?_)))
  · subst hr
    obtain ⟨t, t1, t2⟩ := sh_item i2 hz
    have z0 := p_ixs t2 (i := 0) (by omega) rfl
    have ne := nodup_at hn t1 hs (by omega)
    refine ⟨_, ?_, some (.val z), rfl⟩
    simp only [b_field_names_2, q_df, q_st, q_sq, q_at_nx, q_at_rt, q_at_bk, q_at_ct, q_at_ex, q_mi, q_sel_t, q_sel_f, q_out_rt, q_out_nx, q_out_ex, q_rb_ok, q_rb_bad, q_rb_exc, q_tf_ok, q_v0, q_vs, q_w0, q_w0o, q_ws, q_tbq, q_asb, q_nt, q_rsel_t, q_rsel_f, q_ta, q_to, q_va, q_vo, q_vn, q_sett, q_seto, q_bin, q_c, q_callb, q_cons, q_nil, q_tup, q_lst, q_celle, q_ret, q_nx, q_thl, q_thd, q_isi, q_neg, q_neg_i, q_callk, q_drop, q_retn, q_brk, q_cnt, q_ife, q_add_i, q_sub_i, q_lt_i, q_le_i, q_gt_i, q_ge_i, q_eq_i, q_ne_i, List.map_cons, List.map_nil, List.length_cons, List.length_nil, List.replicate, List.append_nil, List.nil_append, List.cons_append, Nat.reduceAdd, Nat.reduceSub, List.getElem?_cons_zero, List.getElem?_cons_succ, List.set_cons_zero, List.set_cons_succ, Bool.not_true, Bool.not_false, decide_true, decide_false, if_true, if_false, z0, q_eq_s, decide_eq_false ne]
  · subst hr
    obtain ⟨t, t1, t2⟩ := sh_item i2 hz
    rw [hs] at t1
    cases t1
    have z0 := p_ixs t2 (i := 0) (by omega) rfl
    obtain ⟨fd, f2, f3⟩ := p_ix t2 (i := 2) (by omega) rfl
    have lc : mLC [3] (mItems (mBin dIx (mVar 2) (mC (.int 2)))) (bName 3) mYes e_field_names_1 [some (.val d), some (.val (.str s.name)), some (.val z), none] = .ok (.l ((s.fields.map (·.1)).map D.str)) := names_lc (rows_pair s.fields) f3 (by rw [List.length_map]; omega) rfl (by simp only [q_df, q_st, q_sq, q_at_nx, q_at_rt, q_at_bk, q_at_ct, q_at_ex, q_mi, q_sel_t, q_sel_f, q_out_rt, q_out_nx, q_out_ex, q_rb_ok, q_rb_bad, q_rb_exc, q_tf_ok, q_v0, q_vs, q_w0, q_w0o, q_ws, q_tbq, q_asb, q_nt, q_rsel_t, q_rsel_f, q_ta, q_to, q_va, q_vo, q_vn, q_sett, q_seto, q_bin, q_c, q_callb, q_cons, q_nil, q_tup, q_lst, q_celle, q_ret, q_nx, q_thl, q_thd, q_isi, q_neg, q_neg_i, q_callk, q_drop, q_retn, q_brk, q_cnt, q_ife, q_add_i, q_sub_i, q_lt_i, q_le_i, q_gt_i, q_ge_i, q_eq_i, q_ne_i, List.map_cons, List.map_nil, List.length_cons, List.length_nil, List.replicate, List.append_nil, List.nil_append, List.cons_append, Nat.reduceAdd, Nat.reduceSub, List.getElem?_cons_zero, List.getElem?_cons_succ, List.set_cons_zero, List.set_cons_succ, Bool.not_true, Bool.not_false, decide_true, decide_false, if_true, if_false, q_it, f2]) (fun x => by
      show e_field_names_1 [some (.val d), some (.val (.str s.name)), some (.val z), some (.val x)] = _
      simp only [e_field_names_1, q_df, q_st, q_sq, q_at_nx, q_at_rt, q_at_bk, q_at_ct, q_at_ex, q_mi, q_sel_t, q_sel_f, q_out_rt, q_out_nx, q_out_ex, q_rb_ok, q_rb_bad, q_rb_exc, q_tf_ok, q_v0, q_vs, q_w0, q_w0o, q_ws, q_tbq, q_asb, q_nt, q_rsel_t, q_rsel_f, q_ta, q_to, q_va, q_vo, q_vn, q_sett, q_seto, q_bin, q_c, q_callb, q_cons, q_nil, q_tup, q_lst, q_celle, q_ret, q_nx, q_thl, q_thd, q_isi, q_neg, q_neg_i, q_callk, q_drop, q_retn, q_brk, q_cnt, q_ife, q_add_i, q_sub_i, q_lt_i, q_le_i, q_gt_i, q_ge_i, q_eq_i, q_ne_i, List.map_cons, List.map_nil, List.length_cons, List.length_nil, List.replicate, List.append_nil, List.nil_append, List.cons_append, Nat.reduceAdd, Nat.reduceSub, List.getElem?_cons_zero, List.getElem?_cons_succ, List.set_cons_zero, List.set_cons_succ, Bool.not_true, Bool.not_false, decide_true, decide_false, if_true, if_false])
    show b_field_names_2 [some (.val d), some (.val (.str s.name)), some (.val z), none] = _
    simp only [b_field_names_2, q_df, q_st, q_sq, q_at_nx, q_at_rt, q_at_bk, q_at_ct, q_at_ex, q_mi, q_sel_t, q_sel_f, q_out_rt, q_out_nx, q_out_ex, q_rb_ok, q_rb_bad, q_rb_exc, q_tf_ok, q_v0, q_vs, q_w0, q_w0o, q_ws, q_tbq, q_asb, q_nt, q_rsel_t, q_rsel_f, q_ta, q_to, q_va, q_vo, q_vn, q_sett, q_seto, q_bin, q_c, q_callb, q_cons, q_nil, q_tup, q_lst, q_celle, q_ret, q_nx, q_thl, q_thd, q_isi, q_neg, q_neg_i, q_callk, q_drop, q_retn, q_brk, q_cnt, q_ife, q_add_i, q_sub_i, q_lt_i, q_le_i, q_gt_i, q_ge_i, q_eq_i, q_ne_i, List.map_cons, List.map_nil, List.length_cons, List.length_nil, List.replicate, List.append_nil, List.nil_append, List.cons_append, Nat.reduceAdd, Nat.reduceSub, List.getElem?_cons_zero, List.getElem?_cons_succ, List.set_cons_zero, List.set_cons_succ, Bool.not_true, Bool.not_false, decide_true, decide_false, if_true, if_false, z0, q_eq_s, lc]
/-! ### instructions -/
abbrev OPSL : List D := [.str "num", .str "add", .str "sub", .str "mul", .str "div", .str "mod", .str "less", .str "same", .str "flip", .str "drop", .str "copy", .str "swap", .str "load", .str "store", .str "fetch", .str "keep", .str "jump", .str "when", .str "call", .str "back", .str "halt", .str "tell", .str "nil", .str "empty", .str "twin", .str "make", .str "get", .str "put", .str "array", .str "at", .str "set", .str "length", .str "weaken", .str "peek", .str "pair", .str "key", .str "value", .str "watch", .str "parted", .str "settle"]
def WordOk (w : Str) (sorts : List Str) : Prop := dNotIn (.str w) (.tup OPSL) = .ok (.bl false) ∧ tab_OPERANDS.lookup w = some (sorts.map D.str)
/-- an operand of a sort -/
inductive OpOk (S : List Sh) (tn fn : List Str) (slots len : Int) : D → Str → D → Prop
  | num {b : D} {i : Int} (h0 : -2147483648 ≤ i) (h1 : i ≤ 2147483647) : OpOk S tn fn slots len b "number" (.int i)
  | slot {b : D} {i : Int} (h0 : 0 ≤ i) (h1 : i < slots) : OpOk S tn fn slots len b "slot" (.int i)
  | place {b : D} {i : Int} (h0 : 0 ≤ i) (h1 : i < len) : OpOk S tn fn slots len b "place" (.int i)
  | static {b : D} {z : Str} (h : z ∈ tn) : OpOk S tn fn slots len b "static" (.str z)
  | func {b : D} {z : Str} (h : z ∈ fn) : OpOk S tn fn slots len b "function" (.str z)
  | field {n : Nat} {s : Sh} {z : Str} (h : S[n]? = some s) (hz : z ∈ s.fields.map (·.1)) : OpOk S tn fn slots len (.str s.name) "field" (.str z)
  | shape {b : D} {n : Nat} {s : Sh} (h : S[n]? = some s) (hf : s.form ∈ (["record", "array", "weak", "pair"] : List Str)) : OpOk S tn fn slots len b "shape" (.str s.name)
  | form {b : D} {n : Nat} {s : Sh} {f : Str} (h : S[n]? = some s) (hf : f ∈ (["record", "array", "weak", "pair"] : List Str)) (e : f = s.form) : OpOk S tn fn slots len b f (.str s.name)
theorem in_lstn {s : Str} (xs : List Str) : dIn (.str s) (.tup (xs.map D.str)) = .ok (.bl (decide (s ∈ xs))) := in_strs xs
theorem names_in {names : List Str} {ys : List D} (R : Rows names ys) {d : D} (h : nrm d = .tup ys) (hl : names.length < 1000000) {z : Str} (hz : z ∈ names) : dIn (.str z) (.lst (names.map D.str)) = .ok (.bl true) := by
  rw [in_strs, decide_eq_true hz]
theorem e_operand {S : List Sh} {T : List (Str × Str)} {F : List Fu} (HS : ShsOk S) (hT : T.length < 1000) (hF : F.length ≤ 20) {d t e fx : D} (h : nrm d = .tup (S.map shD)) (ht : nrm t = .tup (T.map pairD)) (he : nrm e = .tup (F.map fuD)) {f : Fu} (hfx : nrm fx = fuD f) {b : D} {sort : Str} {o : D}
    (H : OpOk S (T.map (·.1)) (F.map (·.name)) f.slots (f.body.length : Int) b sort o) : m_operand_fits [.tup [d, t, e], fx, .str sort, o, b] = .ok (.bl true) := by
  have s3 : (3 : Nat) ≤ sizeLine := by decide
  have s2 : (2 : Nat) ≤ sizeLine := by decide
  have f5 := p_ixi hfx (i := 3) (by omega) rfl
  obtain ⟨bd, f6, f7⟩ := p_ix hfx (i := 4) (by omega) rfl
  have lb := p_len f7
  rw [List.length_map] at lb
  have isi : ∀ i : Int, m_is_integer [.int i] = .ok (.bl true) := fun _ => rfl
  have iss : ∀ z : Str, dIsi "str" (.str z) = .ok (.bl true) := fun _ => rfl
  have c1 : ∀ (f g : D → D → R D) (a b c : ME) (r : Sc), mChain f g a b c r = (a r).bind fun x => (b r).bind fun y => (f x y).bind fun k => match k with
    | .bl true => (c r).bind fun z => g y z
    | .bl false => .ok (.bl false)
    | _ => .bad := fun _ _ _ _ _ _ => rfl
  have frm : ∀ {n : Nat} {s : Sh} {q : Str}, S[n]? = some s → (dIn (.str q) (.tup [.str "shape", .str s.form]) = .ok (.bl true)) → (decide (q = "static") = false) → (decide (q = "function") = false) → (decide (q = "field") = false) → m_name_fits [.tup [d, t, e], .str q, .str s.name, b] = .ok (.bl true) := fun {n s q} hs hq q1 q2 q3 => by
    have fo := e_form_of HS.nodup h hs
    have s2 : (2 : Nat) ≤ sizeLine := by decide
    simp only [m_name_fits, q_df, q_st, q_sq, q_at_nx, q_at_rt, q_at_bk, q_at_ct, q_at_ex, q_mi, q_sel_t, q_sel_f, q_out_rt, q_out_nx, q_out_ex, q_rb_ok, q_rb_bad, q_rb_exc, q_tf_ok, q_v0, q_vs, q_w0, q_w0o, q_ws, q_tbq, q_asb, q_nt, q_rsel_t, q_rsel_f, q_ta, q_to, q_va, q_vo, q_vn, q_sett, q_seto, q_bin, q_c, q_callb, q_cons, q_nil, q_tup, q_lst, q_celle, q_ret, q_nx, q_thl, q_thd, q_isi, q_neg, q_neg_i, q_callk, q_drop, q_retn, q_brk, q_cnt, q_ife, q_add_i, q_sub_i, q_lt_i, q_le_i, q_gt_i, q_ge_i, q_eq_i, q_ne_i, List.map_cons, List.map_nil, List.length_cons, List.length_nil, List.replicate, List.append_nil, List.nil_append, List.cons_append, Nat.reduceAdd, Nat.reduceSub, List.getElem?_cons_zero, List.getElem?_cons_succ, List.set_cons_zero, List.set_cons_succ, Bool.not_true, Bool.not_false, decide_true, decide_false, if_true, if_false, mAsg, bTup, seqD, bsCons, bsNil, bName, q_eq_s, q1, q2, q3, fo, q_isn_ns, s2, hq]
  cases H with
  | @num b i h0 h1 =>
    have k1 : dIn (.str "number") (.tup [.str "number", .str "slot", .str "place"]) = .ok (.bl true) := by rfl
    have w : m_integer_fits [fx, .str "number", .int i] = .ok (.bl true) := by
      simp (disch := omega) only [m_integer_fits, q_df, q_st, q_sq, q_at_nx, q_at_rt, q_at_bk, q_at_ct, q_at_ex, q_mi, q_sel_t, q_sel_f, q_out_rt, q_out_nx, q_out_ex, q_rb_ok, q_rb_bad, q_rb_exc, q_tf_ok, q_v0, q_vs, q_w0, q_w0o, q_ws, q_tbq, q_asb, q_nt, q_rsel_t, q_rsel_f, q_ta, q_to, q_va, q_vo, q_vn, q_sett, q_seto, q_bin, q_c, q_callb, q_cons, q_nil, q_tup, q_lst, q_celle, q_ret, q_nx, q_thl, q_thd, q_isi, q_neg, q_neg_i, q_callk, q_drop, q_retn, q_brk, q_cnt, q_ife, q_add_i, q_sub_i, List.map_cons, List.map_nil, List.length_cons, List.length_nil, List.replicate, List.append_nil, List.nil_append, List.cons_append, Nat.reduceAdd, Nat.reduceSub, List.getElem?_cons_zero, List.getElem?_cons_succ, List.set_cons_zero, List.set_cons_succ, Bool.not_true, Bool.not_false, decide_true, decide_false, if_true, if_false, t_lt_t, t_lt_f, t_le_t, t_le_f, t_gt_t, t_gt_f, t_ge_t, t_ge_f, t_eq_t, t_eq_f, t_ne_t, t_ne_f, t_is_b, t_isn_b, t_is_i, t_is_n, t_isn_i, t_isn_n, t_abs_n, t_abs_p, t_min, t_max, t_ixl, t_ixt, t_ixs, t_ixL, q_opt, q_ixo, q_oc0, q_ocs, q_oa0, q_oas, t_appd, q_app, t_putd, q_six, q_flopt, q_frz, q_int_i, q_mul_s, q_mod_i, q_div_i, q_len_s, q_len_l, q_len_t, q_items_s, q_items_l, q_items_t, t_szl, Int.reduceToNat, Int.reduceNeg, permL, List.filterMap_cons, List.filterMap_nil, eq_self, if_true, if_false, ite_true, ite_false, Bool.true_eq_false, Bool.false_eq_true, q_eq_s, c1, decide_true, t_le_t h0, t_le_t h1]
    simp only [m_operand_fits, q_df, q_st, q_sq, q_at_nx, q_at_rt, q_at_bk, q_at_ct, q_at_ex, q_mi, q_sel_t, q_sel_f, q_out_rt, q_out_nx, q_out_ex, q_rb_ok, q_rb_bad, q_rb_exc, q_tf_ok, q_v0, q_vs, q_w0, q_w0o, q_ws, q_tbq, q_asb, q_nt, q_rsel_t, q_rsel_f, q_ta, q_to, q_va, q_vo, q_vn, q_sett, q_seto, q_bin, q_c, q_callb, q_cons, q_nil, q_tup, q_lst, q_celle, q_ret, q_nx, q_thl, q_thd, q_isi, q_neg, q_neg_i, q_callk, q_drop, q_retn, q_brk, q_cnt, q_ife, q_add_i, q_sub_i, q_lt_i, q_le_i, q_gt_i, q_ge_i, q_eq_i, q_ne_i, List.map_cons, List.map_nil, List.length_cons, List.length_nil, List.replicate, List.append_nil, List.nil_append, List.cons_append, Nat.reduceAdd, Nat.reduceSub, List.getElem?_cons_zero, List.getElem?_cons_succ, List.set_cons_zero, List.set_cons_succ, Bool.not_true, Bool.not_false, decide_true, decide_false, if_true, if_false, s3, k1, isi, w]
  | @slot b i h0 h1 =>
    have k1 : dIn (.str "slot") (.tup [.str "number", .str "slot", .str "place"]) = .ok (.bl true) := by rfl
    have k2 : dEq (.str "slot") (.str "number") = .ok (.bl false) := by rfl
    have k3 : dEq (.str "slot") (.str "slot") = .ok (.bl true) := by rfl
    have w : m_integer_fits [fx, .str "slot", .int i] = .ok (.bl true) := by
      simp only [m_integer_fits, q_df, q_st, q_sq, q_at_nx, q_at_rt, q_at_bk, q_at_ct, q_at_ex, q_mi, q_sel_t, q_sel_f, q_out_rt, q_out_nx, q_out_ex, q_rb_ok, q_rb_bad, q_rb_exc, q_tf_ok, q_v0, q_vs, q_w0, q_w0o, q_ws, q_tbq, q_asb, q_nt, q_rsel_t, q_rsel_f, q_ta, q_to, q_va, q_vo, q_vn, q_sett, q_seto, q_bin, q_c, q_callb, q_cons, q_nil, q_tup, q_lst, q_celle, q_ret, q_nx, q_thl, q_thd, q_isi, q_neg, q_neg_i, q_callk, q_drop, q_retn, q_brk, q_cnt, q_ife, q_add_i, q_sub_i, q_lt_i, q_le_i, q_gt_i, q_ge_i, q_eq_i, q_ne_i, List.map_cons, List.map_nil, List.length_cons, List.length_nil, List.replicate, List.append_nil, List.nil_append, List.cons_append, Nat.reduceAdd, Nat.reduceSub, List.getElem?_cons_zero, List.getElem?_cons_succ, List.set_cons_zero, List.set_cons_succ, Bool.not_true, Bool.not_false, decide_true, decide_false, if_true, if_false, k2, k3, c1, f5, decide_eq_true h0, decide_eq_true h1]
    simp only [m_operand_fits, q_df, q_st, q_sq, q_at_nx, q_at_rt, q_at_bk, q_at_ct, q_at_ex, q_mi, q_sel_t, q_sel_f, q_out_rt, q_out_nx, q_out_ex, q_rb_ok, q_rb_bad, q_rb_exc, q_tf_ok, q_v0, q_vs, q_w0, q_w0o, q_ws, q_tbq, q_asb, q_nt, q_rsel_t, q_rsel_f, q_ta, q_to, q_va, q_vo, q_vn, q_sett, q_seto, q_bin, q_c, q_callb, q_cons, q_nil, q_tup, q_lst, q_celle, q_ret, q_nx, q_thl, q_thd, q_isi, q_neg, q_neg_i, q_callk, q_drop, q_retn, q_brk, q_cnt, q_ife, q_add_i, q_sub_i, q_lt_i, q_le_i, q_gt_i, q_ge_i, q_eq_i, q_ne_i, List.map_cons, List.map_nil, List.length_cons, List.length_nil, List.replicate, List.append_nil, List.nil_append, List.cons_append, Nat.reduceAdd, Nat.reduceSub, List.getElem?_cons_zero, List.getElem?_cons_succ, List.set_cons_zero, List.set_cons_succ, Bool.not_true, Bool.not_false, decide_true, decide_false, if_true, if_false, s3, k1, isi, w]
  | @place b i h0 h1 =>
    have k1 : dIn (.str "place") (.tup [.str "number", .str "slot", .str "place"]) = .ok (.bl true) := by rfl
    have k2 : dEq (.str "place") (.str "number") = .ok (.bl false) := by rfl
    have k3 : dEq (.str "place") (.str "slot") = .ok (.bl false) := by rfl
    have w : m_integer_fits [fx, .str "place", .int i] = .ok (.bl true) := by
      simp only [m_integer_fits, q_df, q_st, q_sq, q_at_nx, q_at_rt, q_at_bk, q_at_ct, q_at_ex, q_mi, q_sel_t, q_sel_f, q_out_rt, q_out_nx, q_out_ex, q_rb_ok, q_rb_bad, q_rb_exc, q_tf_ok, q_v0, q_vs, q_w0, q_w0o, q_ws, q_tbq, q_asb, q_nt, q_rsel_t, q_rsel_f, q_ta, q_to, q_va, q_vo, q_vn, q_sett, q_seto, q_bin, q_c, q_callb, q_cons, q_nil, q_tup, q_lst, q_celle, q_ret, q_nx, q_thl, q_thd, q_isi, q_neg, q_neg_i, q_callk, q_drop, q_retn, q_brk, q_cnt, q_ife, q_add_i, q_sub_i, q_lt_i, q_le_i, q_gt_i, q_ge_i, q_eq_i, q_ne_i, List.map_cons, List.map_nil, List.length_cons, List.length_nil, List.replicate, List.append_nil, List.nil_append, List.cons_append, Nat.reduceAdd, Nat.reduceSub, List.getElem?_cons_zero, List.getElem?_cons_succ, List.set_cons_zero, List.set_cons_succ, Bool.not_true, Bool.not_false, decide_true, decide_false, if_true, if_false, k2, k3, c1, f6, lb, decide_eq_true h0, decide_eq_true h1]
    simp only [m_operand_fits, q_df, q_st, q_sq, q_at_nx, q_at_rt, q_at_bk, q_at_ct, q_at_ex, q_mi, q_sel_t, q_sel_f, q_out_rt, q_out_nx, q_out_ex, q_rb_ok, q_rb_bad, q_rb_exc, q_tf_ok, q_v0, q_vs, q_w0, q_w0o, q_ws, q_tbq, q_asb, q_nt, q_rsel_t, q_rsel_f, q_ta, q_to, q_va, q_vo, q_vn, q_sett, q_seto, q_bin, q_c, q_callb, q_cons, q_nil, q_tup, q_lst, q_celle, q_ret, q_nx, q_thl, q_thd, q_isi, q_neg, q_neg_i, q_callk, q_drop, q_retn, q_brk, q_cnt, q_ife, q_add_i, q_sub_i, q_lt_i, q_le_i, q_gt_i, q_ge_i, q_eq_i, q_ne_i, List.map_cons, List.map_nil, List.length_cons, List.length_nil, List.replicate, List.append_nil, List.nil_append, List.cons_append, Nat.reduceAdd, Nat.reduceSub, List.getElem?_cons_zero, List.getElem?_cons_succ, List.set_cons_zero, List.set_cons_succ, Bool.not_true, Bool.not_false, decide_true, decide_false, if_true, if_false, s3, k1, isi, w]
  | @static b z hz =>
    have k1 : dIn (.str "static") (.tup [.str "number", .str "slot", .str "place"]) = .ok (.bl false) := by rfl
    have k2 : dEq (.str "static") (.str "static") = .ok (.bl true) := by rfl
    have lc : mLC [7] (mItems (mVar 5)) (bName 7) mYes e_name_fits_1 [some (.val (.tup [d, t, e])), some (.val (.str "static")), some (.val (.str z)), some (.val b), some (.val d), some (.val t), some (.val e), none, none, none] = .ok (.l ((T.map (·.1)).map D.str)) := names_lc (rows_pair T) ht (by rw [List.length_map]; omega) rfl (by simp only [q_df, q_st, q_sq, q_at_nx, q_at_rt, q_at_bk, q_at_ct, q_at_ex, q_mi, q_sel_t, q_sel_f, q_out_rt, q_out_nx, q_out_ex, q_rb_ok, q_rb_bad, q_rb_exc, q_tf_ok, q_v0, q_vs, q_w0, q_w0o, q_ws, q_tbq, q_asb, q_nt, q_rsel_t, q_rsel_f, q_ta, q_to, q_va, q_vo, q_vn, q_sett, q_seto, q_bin, q_c, q_callb, q_cons, q_nil, q_tup, q_lst, q_celle, q_ret, q_nx, q_thl, q_thd, q_isi, q_neg, q_neg_i, q_callk, q_drop, q_retn, q_brk, q_cnt, q_ife, q_add_i, q_sub_i, q_lt_i, q_le_i, q_gt_i, q_ge_i, q_eq_i, q_ne_i, List.map_cons, List.map_nil, List.length_cons, List.length_nil, List.replicate, List.append_nil, List.nil_append, List.cons_append, Nat.reduceAdd, Nat.reduceSub, List.getElem?_cons_zero, List.getElem?_cons_succ, List.set_cons_zero, List.set_cons_succ, Bool.not_true, Bool.not_false, decide_true, decide_false, if_true, if_false, q_it]) (fun x => by
      show e_name_fits_1 [some (.val (.tup [d, t, e])), some (.val (.str "static")), some (.val (.str z)), some (.val b), some (.val d), some (.val t), some (.val e), some (.val x), none, none] = _
      simp only [e_name_fits_1, q_df, q_st, q_sq, q_at_nx, q_at_rt, q_at_bk, q_at_ct, q_at_ex, q_mi, q_sel_t, q_sel_f, q_out_rt, q_out_nx, q_out_ex, q_rb_ok, q_rb_bad, q_rb_exc, q_tf_ok, q_v0, q_vs, q_w0, q_w0o, q_ws, q_tbq, q_asb, q_nt, q_rsel_t, q_rsel_f, q_ta, q_to, q_va, q_vo, q_vn, q_sett, q_seto, q_bin, q_c, q_callb, q_cons, q_nil, q_tup, q_lst, q_celle, q_ret, q_nx, q_thl, q_thd, q_isi, q_neg, q_neg_i, q_callk, q_drop, q_retn, q_brk, q_cnt, q_ife, q_add_i, q_sub_i, q_lt_i, q_le_i, q_gt_i, q_ge_i, q_eq_i, q_ne_i, List.map_cons, List.map_nil, List.length_cons, List.length_nil, List.replicate, List.append_nil, List.nil_append, List.cons_append, Nat.reduceAdd, Nat.reduceSub, List.getElem?_cons_zero, List.getElem?_cons_succ, List.set_cons_zero, List.set_cons_succ, Bool.not_true, Bool.not_false, decide_true, decide_false, if_true, if_false])
    have w : m_name_fits [.tup [d, t, e], .str "static", .str z, b] = .ok (.bl true) := by
      simp only [m_name_fits, q_df, q_st, q_sq, q_at_nx, q_at_rt, q_at_bk, q_at_ct, q_at_ex, q_mi, q_sel_t, q_sel_f, q_out_rt, q_out_nx, q_out_ex, q_rb_ok, q_rb_bad, q_rb_exc, q_tf_ok, q_v0, q_vs, q_w0, q_w0o, q_ws, q_tbq, q_asb, q_nt, q_rsel_t, q_rsel_f, q_ta, q_to, q_va, q_vo, q_vn, q_sett, q_seto, q_bin, q_c, q_callb, q_cons, q_nil, q_tup, q_lst, q_celle, q_ret, q_nx, q_thl, q_thd, q_isi, q_neg, q_neg_i, q_callk, q_drop, q_retn, q_brk, q_cnt, q_ife, q_add_i, q_sub_i, q_lt_i, q_le_i, q_gt_i, q_ge_i, q_eq_i, q_ne_i, List.map_cons, List.map_nil, List.length_cons, List.length_nil, List.replicate, List.append_nil, List.nil_append, List.cons_append, Nat.reduceAdd, Nat.reduceSub, List.getElem?_cons_zero, List.getElem?_cons_succ, List.set_cons_zero, List.set_cons_succ, Bool.not_true, Bool.not_false, decide_true, decide_false, if_true, if_false, mAsg, bTup, seqD, bsCons, bsNil, bName, k2, lc, in_strs, decide_eq_true hz]
    simp only [m_operand_fits, q_df, q_st, q_sq, q_at_nx, q_at_rt, q_at_bk, q_at_ct, q_at_ex, q_mi, q_sel_t, q_sel_f, q_out_rt, q_out_nx, q_out_ex, q_rb_ok, q_rb_bad, q_rb_exc, q_tf_ok, q_v0, q_vs, q_w0, q_w0o, q_ws, q_tbq, q_asb, q_nt, q_rsel_t, q_rsel_f, q_ta, q_to, q_va, q_vo, q_vn, q_sett, q_seto, q_bin, q_c, q_callb, q_cons, q_nil, q_tup, q_lst, q_celle, q_ret, q_nx, q_thl, q_thd, q_isi, q_neg, q_neg_i, q_callk, q_drop, q_retn, q_brk, q_cnt, q_ife, q_add_i, q_sub_i, q_lt_i, q_le_i, q_gt_i, q_ge_i, q_eq_i, q_ne_i, List.map_cons, List.map_nil, List.length_cons, List.length_nil, List.replicate, List.append_nil, List.nil_append, List.cons_append, Nat.reduceAdd, Nat.reduceSub, List.getElem?_cons_zero, List.getElem?_cons_succ, List.set_cons_zero, List.set_cons_succ, Bool.not_true, Bool.not_false, decide_true, decide_false, if_true, if_false, s3, k1, iss, w]
  | @func b z hz =>
    have k1 : dIn (.str "function") (.tup [.str "number", .str "slot", .str "place"]) = .ok (.bl false) := by rfl
    have k2 : dEq (.str "function") (.str "static") = .ok (.bl false) := by rfl
    have k3 : dEq (.str "function") (.str "function") = .ok (.bl true) := by rfl
    have lc : mLC [8] (mItems (mVar 6)) (bName 8) mYes e_name_fits_2 [some (.val (.tup [d, t, e])), some (.val (.str "function")), some (.val (.str z)), some (.val b), some (.val d), some (.val t), some (.val e), none, none, none] = .ok (.l ((F.map (·.name)).map D.str)) := names_lc (rows_fu F) he (by rw [List.length_map]; omega) rfl (by simp only [q_df, q_st, q_sq, q_at_nx, q_at_rt, q_at_bk, q_at_ct, q_at_ex, q_mi, q_sel_t, q_sel_f, q_out_rt, q_out_nx, q_out_ex, q_rb_ok, q_rb_bad, q_rb_exc, q_tf_ok, q_v0, q_vs, q_w0, q_w0o, q_ws, q_tbq, q_asb, q_nt, q_rsel_t, q_rsel_f, q_ta, q_to, q_va, q_vo, q_vn, q_sett, q_seto, q_bin, q_c, q_callb, q_cons, q_nil, q_tup, q_lst, q_celle, q_ret, q_nx, q_thl, q_thd, q_isi, q_neg, q_neg_i, q_callk, q_drop, q_retn, q_brk, q_cnt, q_ife, q_add_i, q_sub_i, q_lt_i, q_le_i, q_gt_i, q_ge_i, q_eq_i, q_ne_i, List.map_cons, List.map_nil, List.length_cons, List.length_nil, List.replicate, List.append_nil, List.nil_append, List.cons_append, Nat.reduceAdd, Nat.reduceSub, List.getElem?_cons_zero, List.getElem?_cons_succ, List.set_cons_zero, List.set_cons_succ, Bool.not_true, Bool.not_false, decide_true, decide_false, if_true, if_false, q_it]) (fun x => by
      show e_name_fits_2 [some (.val (.tup [d, t, e])), some (.val (.str "function")), some (.val (.str z)), some (.val b), some (.val d), some (.val t), some (.val e), none, some (.val x), none] = _
      simp only [e_name_fits_2, q_df, q_st, q_sq, q_at_nx, q_at_rt, q_at_bk, q_at_ct, q_at_ex, q_mi, q_sel_t, q_sel_f, q_out_rt, q_out_nx, q_out_ex, q_rb_ok, q_rb_bad, q_rb_exc, q_tf_ok, q_v0, q_vs, q_w0, q_w0o, q_ws, q_tbq, q_asb, q_nt, q_rsel_t, q_rsel_f, q_ta, q_to, q_va, q_vo, q_vn, q_sett, q_seto, q_bin, q_c, q_callb, q_cons, q_nil, q_tup, q_lst, q_celle, q_ret, q_nx, q_thl, q_thd, q_isi, q_neg, q_neg_i, q_callk, q_drop, q_retn, q_brk, q_cnt, q_ife, q_add_i, q_sub_i, q_lt_i, q_le_i, q_gt_i, q_ge_i, q_eq_i, q_ne_i, List.map_cons, List.map_nil, List.length_cons, List.length_nil, List.replicate, List.append_nil, List.nil_append, List.cons_append, Nat.reduceAdd, Nat.reduceSub, List.getElem?_cons_zero, List.getElem?_cons_succ, List.set_cons_zero, List.set_cons_succ, Bool.not_true, Bool.not_false, decide_true, decide_false, if_true, if_false])
    have w : m_name_fits [.tup [d, t, e], .str "function", .str z, b] = .ok (.bl true) := by
      simp only [m_name_fits, q_df, q_st, q_sq, q_at_nx, q_at_rt, q_at_bk, q_at_ct, q_at_ex, q_mi, q_sel_t, q_sel_f, q_out_rt, q_out_nx, q_out_ex, q_rb_ok, q_rb_bad, q_rb_exc, q_tf_ok, q_v0, q_vs, q_w0, q_w0o, q_ws, q_tbq, q_asb, q_nt, q_rsel_t, q_rsel_f, q_ta, q_to, q_va, q_vo, q_vn, q_sett, q_seto, q_bin, q_c, q_callb, q_cons, q_nil, q_tup, q_lst, q_celle, q_ret, q_nx, q_thl, q_thd, q_isi, q_neg, q_neg_i, q_callk, q_drop, q_retn, q_brk, q_cnt, q_ife, q_add_i, q_sub_i, q_lt_i, q_le_i, q_gt_i, q_ge_i, q_eq_i, q_ne_i, List.map_cons, List.map_nil, List.length_cons, List.length_nil, List.replicate, List.append_nil, List.nil_append, List.cons_append, Nat.reduceAdd, Nat.reduceSub, List.getElem?_cons_zero, List.getElem?_cons_succ, List.set_cons_zero, List.set_cons_succ, Bool.not_true, Bool.not_false, decide_true, decide_false, if_true, if_false, mAsg, bTup, seqD, bsCons, bsNil, bName, k2, k3, lc, in_strs, decide_eq_true hz]
    simp only [m_operand_fits, q_df, q_st, q_sq, q_at_nx, q_at_rt, q_at_bk, q_at_ct, q_at_ex, q_mi, q_sel_t, q_sel_f, q_out_rt, q_out_nx, q_out_ex, q_rb_ok, q_rb_bad, q_rb_exc, q_tf_ok, q_v0, q_vs, q_w0, q_w0o, q_ws, q_tbq, q_asb, q_nt, q_rsel_t, q_rsel_f, q_ta, q_to, q_va, q_vo, q_vn, q_sett, q_seto, q_bin, q_c, q_callb, q_cons, q_nil, q_tup, q_lst, q_celle, q_ret, q_nx, q_thl, q_thd, q_isi, q_neg, q_neg_i, q_callk, q_drop, q_retn, q_brk, q_cnt, q_ife, q_add_i, q_sub_i, q_lt_i, q_le_i, q_gt_i, q_ge_i, q_eq_i, q_ne_i, List.map_cons, List.map_nil, List.length_cons, List.length_nil, List.replicate, List.append_nil, List.nil_append, List.cons_append, Nat.reduceAdd, Nat.reduceSub, List.getElem?_cons_zero, List.getElem?_cons_succ, List.set_cons_zero, List.set_cons_succ, Bool.not_true, Bool.not_false, decide_true, decide_false, if_true, if_false, s3, k1, iss, w]
  | @field n s z hs hz =>
    have k1 : dIn (.str "field") (.tup [.str "number", .str "slot", .str "place"]) = .ok (.bl false) := by rfl
    have k2 : dEq (.str "field") (.str "static") = .ok (.bl false) := by rfl
    have k3 : dEq (.str "field") (.str "function") = .ok (.bl false) := by rfl
    have k4 : dEq (.str "field") (.str "field") = .ok (.bl true) := by rfl
    have fo := e_field_names HS.nodup h hs (HS.all s (List.mem_of_getElem? hs)).many
    have w : m_name_fits [.tup [d, t, e], .str "field", .str z, .str s.name] = .ok (.bl true) := by
      simp only [m_name_fits, q_df, q_st, q_sq, q_at_nx, q_at_rt, q_at_bk, q_at_ct, q_at_ex, q_mi, q_sel_t, q_sel_f, q_out_rt, q_out_nx, q_out_ex, q_rb_ok, q_rb_bad, q_rb_exc, q_tf_ok, q_v0, q_vs, q_w0, q_w0o, q_ws, q_tbq, q_asb, q_nt, q_rsel_t, q_rsel_f, q_ta, q_to, q_va, q_vo, q_vn, q_sett, q_seto, q_bin, q_c, q_callb, q_cons, q_nil, q_tup, q_lst, q_celle, q_ret, q_nx, q_thl, q_thd, q_isi, q_neg, q_neg_i, q_callk, q_drop, q_retn, q_brk, q_cnt, q_ife, q_add_i, q_sub_i, q_lt_i, q_le_i, q_gt_i, q_ge_i, q_eq_i, q_ne_i, List.map_cons, List.map_nil, List.length_cons, List.length_nil, List.replicate, List.append_nil, List.nil_append, List.cons_append, Nat.reduceAdd, Nat.reduceSub, List.getElem?_cons_zero, List.getElem?_cons_succ, List.set_cons_zero, List.set_cons_succ, Bool.not_true, Bool.not_false, decide_true, decide_false, if_true, if_false, mAsg, bTup, seqD, bsCons, bsNil, bName, k2, k3, k4, fo, in_strs, decide_eq_true hz]
    simp only [m_operand_fits, q_df, q_st, q_sq, q_at_nx, q_at_rt, q_at_bk, q_at_ct, q_at_ex, q_mi, q_sel_t, q_sel_f, q_out_rt, q_out_nx, q_out_ex, q_rb_ok, q_rb_bad, q_rb_exc, q_tf_ok, q_v0, q_vs, q_w0, q_w0o, q_ws, q_tbq, q_asb, q_nt, q_rsel_t, q_rsel_f, q_ta, q_to, q_va, q_vo, q_vn, q_sett, q_seto, q_bin, q_c, q_callb, q_cons, q_nil, q_tup, q_lst, q_celle, q_ret, q_nx, q_thl, q_thd, q_isi, q_neg, q_neg_i, q_callk, q_drop, q_retn, q_brk, q_cnt, q_ife, q_add_i, q_sub_i, q_lt_i, q_le_i, q_gt_i, q_ge_i, q_eq_i, q_ne_i, List.map_cons, List.map_nil, List.length_cons, List.length_nil, List.replicate, List.append_nil, List.nil_append, List.cons_append, Nat.reduceAdd, Nat.reduceSub, List.getElem?_cons_zero, List.getElem?_cons_succ, List.set_cons_zero, List.set_cons_succ, Bool.not_true, Bool.not_false, decide_true, decide_false, if_true, if_false, s3, k1, iss, w]
  | @shape b n s hs hf =>
    have k1 : dIn (.str "shape") (.tup [.str "number", .str "slot", .str "place"]) = .ok (.bl false) := by rfl
    have w := frm (q := "shape") hs (by
      have : dIn (.str "shape") (.tup ([("shape" : Str), s.form].map D.str)) = _ := in_lstn _
      rw [List.map_cons, List.map_cons, List.map_nil] at this
      rw [this]
      simp) (by decide) (by decide) (by decide)
    simp only [m_operand_fits, q_df, q_st, q_sq, q_at_nx, q_at_rt, q_at_bk, q_at_ct, q_at_ex, q_mi, q_sel_t, q_sel_f, q_out_rt, q_out_nx, q_out_ex, q_rb_ok, q_rb_bad, q_rb_exc, q_tf_ok, q_v0, q_vs, q_w0, q_w0o, q_ws, q_tbq, q_asb, q_nt, q_rsel_t, q_rsel_f, q_ta, q_to, q_va, q_vo, q_vn, q_sett, q_seto, q_bin, q_c, q_callb, q_cons, q_nil, q_tup, q_lst, q_celle, q_ret, q_nx, q_thl, q_thd, q_isi, q_neg, q_neg_i, q_callk, q_drop, q_retn, q_brk, q_cnt, q_ife, q_add_i, q_sub_i, q_lt_i, q_le_i, q_gt_i, q_ge_i, q_eq_i, q_ne_i, List.map_cons, List.map_nil, List.length_cons, List.length_nil, List.replicate, List.append_nil, List.nil_append, List.cons_append, Nat.reduceAdd, Nat.reduceSub, List.getElem?_cons_zero, List.getElem?_cons_succ, List.set_cons_zero, List.set_cons_succ, Bool.not_true, Bool.not_false, decide_true, decide_false, if_true, if_false, s3, k1, iss, w]
  | @form b n s q hs hf eq =>
    subst eq
    simp only [List.mem_cons, List.not_mem_nil, or_false] at hf
    have w : ∀ (q1 : decide (s.form = "static") = false) (q2 : decide (s.form = "function") = false) (q3 : decide (s.form = "field") = false), _ := fun q1 q2 q3 => frm (q := s.form) hs (by
      have : dIn (.str s.form) (.tup ([("shape" : Str), s.form].map D.str)) = _ := in_lstn _
      rw [List.map_cons, List.map_cons, List.map_nil] at this
      rw [this]
      simp) q1 q2 q3
    have k1 : dIn (.str s.form) (.tup [.str "number", .str "slot", .str "place"]) = .ok (.bl false) := by
      rcases hf with hf | hf | hf | hf <;> rw [hf] <;> rfl
    have w2 := w (by rcases hf with hf | hf | hf | hf <;> rw [hf] <;> decide) (by rcases hf with hf | hf | hf | hf <;> rw [hf] <;> decide) (by rcases hf with hf | hf | hf | hf <;> rw [hf] <;> decide)
    simp only [m_operand_fits, q_df, q_st, q_sq, q_at_nx, q_at_rt, q_at_bk, q_at_ct, q_at_ex, q_mi, q_sel_t, q_sel_f, q_out_rt, q_out_nx, q_out_ex, q_rb_ok, q_rb_bad, q_rb_exc, q_tf_ok, q_v0, q_vs, q_w0, q_w0o, q_ws, q_tbq, q_asb, q_nt, q_rsel_t, q_rsel_f, q_ta, q_to, q_va, q_vo, q_vn, q_sett, q_seto, q_bin, q_c, q_callb, q_cons, q_nil, q_tup, q_lst, q_celle, q_ret, q_nx, q_thl, q_thd, q_isi, q_neg, q_neg_i, q_callk, q_drop, q_retn, q_brk, q_cnt, q_ife, q_add_i, q_sub_i, q_lt_i, q_le_i, q_gt_i, q_ge_i, q_eq_i, q_ne_i, List.map_cons, List.map_nil, List.length_cons, List.length_nil, List.replicate, List.append_nil, List.nil_append, List.cons_append, Nat.reduceAdd, Nat.reduceSub, List.getElem?_cons_zero, List.getElem?_cons_succ, List.set_cons_zero, List.set_cons_succ, Bool.not_true, Bool.not_false, decide_true, decide_false, if_true, if_false, s3, k1, iss, w2]
/-- an instruction that is let -/
structure DeedOk (S : List Sh) (tn fn : List Str) (slots ln : Int) (p : Str × List D) (sorts : List Str) : Prop where
  word : WordOk p.1 sorts
  cnt : p.2.length = sorts.length
  ops : ∀ (k : Nat) (s : Str), sorts[k]? = some s → ∃ o b, p.2[k]? = some o ∧ (D.str p.1 :: p.2)[k]? = some b ∧ OpOk S tn fn slots ln b s o
  flat : ∀ o ∈ p.2, nrm o = o ∧ ∀ y, nrm y = o → y = o
theorem e_instr {S : List Sh} {T : List (Str × Str)} {F : List Fu} (HS : ShsOk S) (hT : T.length < 1000) (hF : F.length ≤ 20) {d t e fx y : D} (h : nrm d = .tup (S.map shD)) (ht : nrm t = .tup (T.map pairD)) (he : nrm e = .tup (F.map fuD)) {f : Fu} (hfx : nrm fx = fuD f) {p : Str × List D} {sorts : List Str} (hy : nrm y = deedD p)
    (H : DeedOk S (T.map (·.1)) (F.map (·.name)) f.slots (f.body.length : Int) p sorts) (hl : sorts.length < 1000) : m_instruction_why [.tup [d, t, e], fx, y] = .ok .non := by
  obtain ⟨⟨w1, w2⟩, hlen, hops, hflat⟩ := H
  have ly := p_len hy
  rw [List.length_cons] at ly
  have y0 := p_ixs hy (i := 0) (by omega) rfl
  have item : ∀ (k : Nat) (o : D), (D.str p.1 :: p.2)[k]? = some o → dIx y (.int (k : Int)) = .ok o := fun k o ho => by
    obtain ⟨x, x1, x2⟩ := p_ix hy (i := (k : Int)) (by omega) (by rw [Int.toNat_natCast]; exact ho)
    cases k with
    | zero =>
      cases ho
      rw [x1, pres_str x2]
    | succ k =>
      have hm : o ∈ p.2 := List.mem_of_getElem? (by simpa using ho)
      rw [x1, (hflat o hm).2 x x2]
  obtain ⟨r2, e2, x4, hr⟩ := for_inv (i := 4) (body := b_instruction_why_1) (fun j r => ∃ x4, r = [some (.val (.tup [d, t, e])), some (.val fx), some (.val y), some (.val (.tup (sorts.map D.str))), x4]) (ds := rgD 0 sorts.length)
    (r := [some (.val (.tup [d, t, e])), some (.val fx), some (.val y), some (.val (.tup (sorts.map D.str))), none]) ⟨_, rfl⟩ (fun j z r hz ⟨x4, hr⟩ => by
    subst hr
    obtain ⟨hj, rfl⟩ := rgD_get hz
    obtain ⟨o, b, o1, o2, o3⟩ := hops j sorts[j] (List.getElem?_eq_getElem hj)
    have i1 := item j b o2
    have i2 := item (j + 1) o (by simpa using o1)
    have i3 : dIx (.tup (sorts.map D.str)) (.int (j : Int)) = .ok (.str sorts[j]) := q_ix rfl (by omega) (by rw [Int.toNat_natCast, List.getElem?_map, List.getElem?_eq_getElem hj]; rfl)
    have og := e_operand HS hT hF h ht he hfx o3
    rw [show (0 : Int) + (j : Int) = (j : Int) by omega]
    refine ⟨_, ?_, some (.val (.int (j : Int))), rfl⟩
    have c : ((j + 1 : Nat) : Int) = (j : Int) + 1 := by omega
    rw [c] at i2
    simp only [b_instruction_why_1, q_df, q_st, q_sq, q_at_nx, q_at_rt, q_at_bk, q_at_ct, q_at_ex, q_mi, q_sel_t, q_sel_f, q_out_rt, q_out_nx, q_out_ex, q_rb_ok, q_rb_bad, q_rb_exc, q_tf_ok, q_v0, q_vs, q_w0, q_w0o, q_ws, q_tbq, q_asb, q_nt, q_rsel_t, q_rsel_f, q_ta, q_to, q_va, q_vo, q_vn, q_sett, q_seto, q_bin, q_c, q_callb, q_cons, q_nil, q_tup, q_lst, q_celle, q_ret, q_nx, q_thl, q_thd, q_isi, q_neg, q_neg_i, q_callk, q_drop, q_retn, q_brk, q_cnt, q_ife, q_add_i, q_sub_i, q_lt_i, q_le_i, q_gt_i, q_ge_i, q_eq_i, q_ne_i, List.map_cons, List.map_nil, List.length_cons, List.length_nil, List.replicate, List.append_nil, List.nil_append, List.cons_append, Nat.reduceAdd, Nat.reduceSub, List.getElem?_cons_zero, List.getElem?_cons_succ, List.set_cons_zero, List.set_cons_succ, Bool.not_true, Bool.not_false, decide_true, decide_false, if_true, if_false, i1, i2, i3, og])
  subst hr
  unfold m_instruction_why
  refine def_of ?_
  rw [show mStart 5 [.tup [d, t, e], fx, y] = [some (.val (.tup [d, t, e])), some (.val fx), some (.val y), none, none] from rfl]
  rw [seq_nx (r' := [some (.val (.tup [d, t, e])), some (.val fx), some (.val y), none, none]) (by
    unfold OPSL at w1
    simp (disch := omega) only [q_df, q_st, q_sq, q_at_nx, q_at_rt, q_at_bk, q_at_ct, q_at_ex, q_mi, q_sel_t, q_sel_f, q_out_rt, q_out_nx, q_out_ex, q_rb_ok, q_rb_bad, q_rb_exc, q_tf_ok, q_v0, q_vs, q_w0, q_w0o, q_ws, q_tbq, q_asb, q_nt, q_rsel_t, q_rsel_f, q_ta, q_to, q_va, q_vo, q_vn, q_sett, q_seto, q_bin, q_c, q_callb, q_cons, q_nil, q_tup, q_lst, q_celle, q_ret, q_nx, q_thl, q_thd, q_isi, q_neg, q_neg_i, q_callk, q_drop, q_retn, q_brk, q_cnt, q_ife, q_add_i, q_sub_i, List.map_cons, List.map_nil, List.length_cons, List.length_nil, List.replicate, List.append_nil, List.nil_append, List.cons_append, Nat.reduceAdd, Nat.reduceSub, List.getElem?_cons_zero, List.getElem?_cons_succ, List.set_cons_zero, List.set_cons_succ, Bool.not_true, Bool.not_false, decide_true, decide_false, if_true, if_false, t_lt_t, t_lt_f, t_le_t, t_le_f, t_gt_t, t_gt_f, t_ge_t, t_ge_f, t_eq_t, t_eq_f, t_ne_t, t_ne_f, t_is_b, t_isn_b, t_is_i, t_is_n, t_isn_i, t_isn_n, t_abs_n, t_abs_p, t_min, t_max, t_ixl, t_ixt, t_ixs, t_ixL, q_opt, q_ixo, q_oc0, q_ocs, q_oa0, q_oas, t_appd, q_app, t_putd, q_six, q_flopt, q_frz, q_int_i, q_mul_s, q_mod_i, q_div_i, q_len_s, q_len_l, q_len_t, q_items_s, q_items_l, q_items_t, t_szl, Int.reduceToNat, Int.reduceNeg, permL, List.filterMap_cons, List.filterMap_nil, eq_self, if_true, if_false, ite_true, ite_false, Bool.true_eq_false, Bool.false_eq_true, ly, y0, w1])]
  rw [seq_nx (r' := [some (.val (.tup [d, t, e])), some (.val fx), some (.val y), some (.val (.tup (sorts.map D.str))), none]) (by
    unfold mKd
    simp only [q_df, q_st, q_sq, q_at_nx, q_at_rt, q_at_bk, q_at_ct, q_at_ex, q_mi, q_sel_t, q_sel_f, q_out_rt, q_out_nx, q_out_ex, q_rb_ok, q_rb_bad, q_rb_exc, q_tf_ok, q_v0, q_vs, q_w0, q_w0o, q_ws, q_tbq, q_asb, q_nt, q_rsel_t, q_rsel_f, q_ta, q_to, q_va, q_vo, q_vn, q_sett, q_seto, q_bin, q_c, q_callb, q_cons, q_nil, q_tup, q_lst, q_celle, q_ret, q_nx, q_thl, q_thd, q_isi, q_neg, q_neg_i, q_callk, q_drop, q_retn, q_brk, q_cnt, q_ife, q_add_i, q_sub_i, q_lt_i, q_le_i, q_gt_i, q_ge_i, q_eq_i, q_ne_i, List.map_cons, List.map_nil, List.length_cons, List.length_nil, List.replicate, List.append_nil, List.nil_append, List.cons_append, Nat.reduceAdd, Nat.reduceSub, List.getElem?_cons_zero, List.getElem?_cons_succ, List.set_cons_zero, List.set_cons_succ, Bool.not_true, Bool.not_false, decide_true, decide_false, if_true, if_false, y0, w2])]
  rw [seq_nx (r' := [some (.val (.tup [d, t, e])), some (.val fx), some (.val y), some (.val (.tup (sorts.map D.str))), none]) (by
    simp (disch := (rw [List.length_map]; omega)) only [q_df, q_st, q_sq, q_at_nx, q_at_rt, q_at_bk, q_at_ct, q_at_ex, q_mi, q_sel_t, q_sel_f, q_out_rt, q_out_nx, q_out_ex, q_rb_ok, q_rb_bad, q_rb_exc, q_tf_ok, q_v0, q_vs, q_w0, q_w0o, q_ws, q_tbq, q_asb, q_nt, q_rsel_t, q_rsel_f, q_ta, q_to, q_va, q_vo, q_vn, q_sett, q_seto, q_bin, q_c, q_callb, q_cons, q_nil, q_tup, q_lst, q_celle, q_ret, q_nx, q_thl, q_thd, q_isi, q_neg, q_neg_i, q_callk, q_drop, q_retn, q_brk, q_cnt, q_ife, q_add_i, q_sub_i, List.map_cons, List.map_nil, List.length_cons, List.length_nil, List.replicate, List.append_nil, List.nil_append, List.cons_append, Nat.reduceAdd, Nat.reduceSub, List.getElem?_cons_zero, List.getElem?_cons_succ, List.set_cons_zero, List.set_cons_succ, Bool.not_true, Bool.not_false, decide_true, decide_false, if_true, if_false, t_lt_t, t_lt_f, t_le_t, t_le_f, t_gt_t, t_gt_f, t_ge_t, t_ge_f, t_eq_t, t_eq_f, t_ne_t, t_ne_f, t_is_b, t_isn_b, t_is_i, t_is_n, t_isn_i, t_isn_n, t_abs_n, t_abs_p, t_min, t_max, t_ixl, t_ixt, t_ixs, t_ixL, q_opt, q_ixo, q_oc0, q_ocs, q_oa0, q_oas, t_appd, q_app, t_putd, q_six, q_flopt, q_frz, q_int_i, q_mul_s, q_mod_i, q_div_i, q_len_s, q_len_l, q_len_t, q_items_s, q_items_l, q_items_t, t_szl, Int.reduceToNat, Int.reduceNeg, permL, List.filterMap_cons, List.filterMap_nil, eq_self, if_true, if_false, ite_true, ite_false, Bool.true_eq_false, Bool.false_eq_true, ly])]
  rw [seq_nx (for_nx (by simp only [q_df, q_st, q_sq, q_at_nx, q_at_rt, q_at_bk, q_at_ct, q_at_ex, q_mi, q_sel_t, q_sel_f, q_out_rt, q_out_nx, q_out_ex, q_rb_ok, q_rb_bad, q_rb_exc, q_tf_ok, q_v0, q_vs, q_w0, q_w0o, q_ws, q_tbq, q_asb, q_nt, q_rsel_t, q_rsel_f, q_ta, q_to, q_va, q_vo, q_vn, q_sett, q_seto, q_bin, q_c, q_callb, q_cons, q_nil, q_tup, q_lst, q_celle, q_ret, q_nx, q_thl, q_thd, q_isi, q_neg, q_neg_i, q_callk, q_drop, q_retn, q_brk, q_cnt, q_ife, q_add_i, q_sub_i, q_lt_i, q_le_i, q_gt_i, q_ge_i, q_eq_i, q_ne_i, List.map_cons, List.map_nil, List.length_cons, List.length_nil, List.replicate, List.append_nil, List.nil_append, List.cons_append, Nat.reduceAdd, Nat.reduceSub, List.getElem?_cons_zero, List.getElem?_cons_succ, List.set_cons_zero, List.set_cons_succ, Bool.not_true, Bool.not_false, decide_true, decide_false, if_true, if_false, q_rg, q_len_t, List.length_map]; rw [q_rg1 (by omega) (by omega), Int.toNat_natCast]) e2)]
  rfl
theorem e_look_bodies {S : List Sh} {T : List (Str × Str)} {F : List Fu} (HS : ShsOk S) (hT : T.length < 1000) (hF : F.length ≤ 20) {d t e : D} (h : nrm d = .tup (S.map shD)) (ht : nrm t = .tup (T.map pairD)) (he : nrm e = .tup (F.map fuD)) (hb1 : ∀ f ∈ F, f.body.length ≤ 200)
    (H : ∀ f ∈ F, ∀ p ∈ f.body, ∃ sorts, DeedOk S (T.map (·.1)) (F.map (·.name)) f.slots (f.body.length : Int) p sorts ∧ sorts.length < 1000) : m_look_at_bodies [d, t, e] = .ok .non := by
  have s3 : (3 : Nat) ≤ sizeLine := by decide
  obtain ⟨r2, e2, y1, y2, y3, y4, hr⟩ := for_inv (i := 3) (body := b_look_at_bodies_2) (fun j r => ∃ y1 y2 y3 y4, r = [some (.val d), some (.val t), some (.val e), y1, y2, y3, y4]) (ds := rgD 0 (F.map fuD).length) (r := [some (.val d), some (.val t), some (.val e), none, none, none, none]) ⟨_, _, _, _, rfl⟩ (fun j z r hz ⟨y1, y2, y3, y4, hr⟩ => by
    subst hr
    obtain ⟨hj, rfl⟩ := rgD_get hz
    rw [List.length_map] at hj
    rw [show (0 : Int) + (j : Int) = (j : Int) by omega]
    obtain ⟨fx, x1, x2⟩ := fu_row he hj
    have Hf := H _ (List.getElem_mem hj)
    have hb := hb1 _ (List.getElem_mem hj)
    generalize F[j] = f at *
    obtain ⟨bd, f6, f7⟩ := p_ix x2 (i := 4) (by omega) rfl
    obtain ⟨r3, e3, z5, z6, hr3⟩ := for_inv (i := 5) (body := b_look_at_bodies_1) (fun k r => ∃ z5 z6, r = [some (.val d), some (.val t), some (.val e), some (.val (.int (j : Int))), some (.val bd), z5, z6]) (ds := rgD 0 (f.body.map deedD).length) (r := [some (.val d), some (.val t), some (.val e), some (.val (.int (j : Int))), some (.val bd), y3, y4]) ⟨_, _, rfl⟩ (fun k z r hz ⟨z5, z6, hr⟩ => by
      subst hr
      obtain ⟨hk, rfl⟩ := rgD_get hz
      rw [List.length_map] at hk
      rw [show (0 : Int) + (k : Int) = (k : Int) by omega]
      obtain ⟨sorts, dk, hs⟩ := Hf _ (List.getElem_mem hk)
      obtain ⟨y, v1, v2⟩ := p_ix f7 (i := (k : Int)) (by omega) (y := deedD f.body[k]) (by rw [Int.toNat_natCast, List.getElem?_map, List.getElem?_eq_getElem hk]; rfl)
      have w := e_instr HS hT hF h ht he x2 v2 dk hs
      refine ⟨_, ?_, some (.val (.int (k : Int))), some (.val .non), rfl⟩
      simp only [b_look_at_bodies_1, q_df, q_st, q_sq, q_at_nx, q_at_rt, q_at_bk, q_at_ct, q_at_ex, q_mi, q_sel_t, q_sel_f, q_out_rt, q_out_nx, q_out_ex, q_rb_ok, q_rb_bad, q_rb_exc, q_tf_ok, q_v0, q_vs, q_w0, q_w0o, q_ws, q_tbq, q_asb, q_nt, q_rsel_t, q_rsel_f, q_ta, q_to, q_va, q_vo, q_vn, q_sett, q_seto, q_bin, q_c, q_callb, q_cons, q_nil, q_tup, q_lst, q_celle, q_ret, q_nx, q_thl, q_thd, q_isi, q_neg, q_neg_i, q_callk, q_drop, q_retn, q_brk, q_cnt, q_ife, q_add_i, q_sub_i, q_lt_i, q_le_i, q_gt_i, q_ge_i, q_eq_i, q_ne_i, List.map_cons, List.map_nil, List.length_cons, List.length_nil, List.replicate, List.append_nil, List.nil_append, List.cons_append, Nat.reduceAdd, Nat.reduceSub, List.getElem?_cons_zero, List.getElem?_cons_succ, List.set_cons_zero, List.set_cons_succ, Bool.not_true, Bool.not_false, decide_true, decide_false, if_true, if_false, s3, x1, v1, w, t_isn_n])
    subst hr3
    refine ⟨_, ?_, some (.val (.int (j : Int))), some (.val bd), z5, z6, rfl⟩
    show b_look_at_bodies_2 [some (.val d), some (.val t), some (.val e), some (.val (.int (j : Int))), y2, y3, y4] = _
    unfold b_look_at_bodies_2
    rw [seq_nx (r' := [some (.val d), some (.val t), some (.val e), some (.val (.int (j : Int))), some (.val bd), y3, y4]) (by simp only [q_df, q_st, q_sq, q_at_nx, q_at_rt, q_at_bk, q_at_ct, q_at_ex, q_mi, q_sel_t, q_sel_f, q_out_rt, q_out_nx, q_out_ex, q_rb_ok, q_rb_bad, q_rb_exc, q_tf_ok, q_v0, q_vs, q_w0, q_w0o, q_ws, q_tbq, q_asb, q_nt, q_rsel_t, q_rsel_f, q_ta, q_to, q_va, q_vo, q_vn, q_sett, q_seto, q_bin, q_c, q_callb, q_cons, q_nil, q_tup, q_lst, q_celle, q_ret, q_nx, q_thl, q_thd, q_isi, q_neg, q_neg_i, q_callk, q_drop, q_retn, q_brk, q_cnt, q_ife, q_add_i, q_sub_i, q_lt_i, q_le_i, q_gt_i, q_ge_i, q_eq_i, q_ne_i, List.map_cons, List.map_nil, List.length_cons, List.length_nil, List.replicate, List.append_nil, List.nil_append, List.cons_append, Nat.reduceAdd, Nat.reduceSub, List.getElem?_cons_zero, List.getElem?_cons_succ, List.set_cons_zero, List.set_cons_succ, Bool.not_true, Bool.not_false, decide_true, decide_false, if_true, if_false, x1, f6])]
    rw [for_nx (rg_len f7 (by rw [List.length_map]; omega) rfl) e3])
  subst hr
  unfold m_look_at_bodies
  rw [q_df, show mStart 7 [d, t, e] = [some (.val d), some (.val t), some (.val e), none, none, none, none] from rfl]
  rw [for_nx (rg_len he (by rw [List.length_map]; omega) rfl) e2]
  rfl
/-! ### comprehensions over what is told -/
theorem lc_exact {α : Type} {g h : α → D} {as : List α} {vs : List Nat} {mi : MA} {tb : D → Sc → Option Sc} {me : ME} {r : Sc} (h0 : notOwn r vs = true) (hl : as.length < 1000000) {ds : List D} (hmi : mi r = .ok ds) (hd : ds.length = as.length)
    (hme : ∀ (j : Nat) (a : α) (x : D), as[j]? = some a → ds[j]? = some x → ∃ r1, tb x (wipeS r vs) = some r1 ∧ me r1 = .ok (h a)) : mLC vs mi tb mYes me r = .ok (.l (as.map h)) := by
  rw [lc_all (ds := ds) (f := fun j => match as[j]? with
    | some a => h a
    | none => .non) h0 hmi (by omega) (fun j x hx => ?_)]
  · congr 2
    apply List.ext_getElem?
    intro j
    rw [List.getElem?_map, List.getElem?_map, hd]
    by_cases hj : j < as.length
    · simp [hj]
    · simp [hj, Nat.le_of_not_lt hj]
  · have hj : j < as.length := by
      rw [← hd]
      exact (List.getElem?_eq_some_iff.mp hx).1
    obtain ⟨r1, e1, e2⟩ := hme j as[j] x (List.getElem?_eq_getElem hj) hx
    exact ⟨r1, e1, by rw [e2, List.getElem?_eq_getElem hj]⟩
theorem lc_pres {α : Type} {g h : α → D} {as : List α} {d : D} (hd : nrm d = .tup (as.map g)) {vs : List Nat} {mi : MA} {tb : D → Sc → Option Sc} {me : ME} {r : Sc} (h0 : notOwn r vs = true) (hl : as.length < 1000000) (hmi : mi r = dItems d)
    (hme : ∀ a ∈ as, ∀ x, nrm x = g a → ∃ r1, tb x (wipeS r vs) = some r1 ∧ me r1 = .ok (h a)) : mLC vs mi tb mYes me r = .ok (.l (as.map h)) := by
  obtain ⟨xs, i1, i2⟩ := p_items hd
  have hlen : xs.length = as.length := by
    have := congrArg List.length i2
    rwa [List.length_map, List.length_map] at this
  refine lc_exact (g := g) h0 hl (by rw [hmi, i1]) hlen fun j a x ha hx => hme a (List.mem_of_getElem? ha) x ?_
  have : (xs.map nrm)[j]? = some (g a) := by rw [i2, List.getElem?_map, ha]; rfl
  rw [List.getElem?_map, hx] at this
  exact Option.some.inj this
theorem lc_same {α : Type} {g h : α → D} {as : List α} {vs : List Nat} {mi : MA} {tb : D → Sc → Option Sc} {me : ME} {r : Sc} (h0 : notOwn r vs = true) (hl : as.length < 1000000) (hmi : mi r = .ok (as.map g))
    (hme : ∀ a ∈ as, ∃ r1, tb (g a) (wipeS r vs) = some r1 ∧ me r1 = .ok (h a)) : mLC vs mi tb mYes me r = .ok (.l (as.map h)) :=
  lc_exact (g := g) h0 hl hmi (by rw [List.length_map]) fun j a x ha hx => by
    rw [List.getElem?_map, ha] at hx
    cases hx
    exact hme a (List.mem_of_getElem? ha)
/-! ### the program that is made -/
def insSh (s : Sh) : D := .ins "Shape" ["name", "form", "fields"] [.str s.name, .str s.form, .tup (s.fields.map pairD)]
def insFu (f : Fu) : D := .ins "Function" ["name", "params", "result", "slots", "body"] [.str f.name, .tup (f.params.map D.str), resD f.result, .int f.slots, .tup (f.body.map deedD)]
def insPr (S : List Sh) (T : List (Str × Str)) (F : List Fu) : D := .ins "Program" ["shapes", "statics", "functions"] [.tup (S.map insSh), .tup (T.map pairD), .tup (F.map insFu)]
theorem pres_pair {x : D} {p : Str × Str} (h : nrm x = pairD p) : dIx x (.int 0) = .ok (.str p.1) ∧ dIx x (.int 1) = .ok (.str p.2) := ⟨p_ixs h (by omega) rfl, p_ixs h (by omega) rfl⟩
theorem mi_shape {n f : D} {d : D} {s : Sh} (h : nrm d = .tup (s.fields.map pairD)) (hm : s.fields.length < 1000) (hn : n = .str s.name) (hf : f = .str s.form) : mi_Shape [n, f, d] = .ok [.str s.name, .str s.form, .tup (s.fields.map pairD)] := by
  subst hn hf
  have s2 : (2 : Nat) ≤ sizeLine := by decide
  have lc : mLC [4] (mItems (mVar 3)) (bName 4) mYes e_Shape___init___1 [none, some (.val (.str s.name)), some (.val (.str s.form)), some (.val d), none] = .ok (.l (s.fields.map pairD)) := lc_pres h rfl (by omega) (by simp only [q_df, q_st, q_sq, q_at_nx, q_at_rt, q_at_bk, q_at_ct, q_at_ex, q_mi, q_sel_t, q_sel_f, q_out_rt, q_out_nx, q_out_ex, q_rb_ok, q_rb_bad, q_rb_exc, q_tf_ok, q_v0, q_vs, q_w0, q_w0o, q_ws, q_tbq, q_asb, q_nt, q_rsel_t, q_rsel_f, q_ta, q_to, q_va, q_vo, q_vn, q_sett, q_seto, q_bin, q_c, q_callb, q_cons, q_nil, q_tup, q_lst, q_celle, q_ret, q_nx, q_thl, q_thd, q_isi, q_neg, q_neg_i, q_callk, q_drop, q_retn, q_brk, q_cnt, q_ife, q_add_i, q_sub_i, q_lt_i, q_le_i, q_gt_i, q_ge_i, q_eq_i, q_ne_i, List.map_cons, List.map_nil, List.length_cons, List.length_nil, List.replicate, List.append_nil, List.nil_append, List.cons_append, Nat.reduceAdd, Nat.reduceSub, List.getElem?_cons_zero, List.getElem?_cons_succ, List.set_cons_zero, List.set_cons_succ, Bool.not_true, Bool.not_false, decide_true, decide_false, if_true, if_false, q_it]) (fun p hp x hx => by
    obtain ⟨a, b⟩ := pres_pair hx
    refine ⟨_, rfl, ?_⟩
    show e_Shape___init___1 [none, some (.val (.str s.name)), some (.val (.str s.form)), some (.val d), some (.val x)] = _
    simp only [e_Shape___init___1, q_df, q_st, q_sq, q_at_nx, q_at_rt, q_at_bk, q_at_ct, q_at_ex, q_mi, q_sel_t, q_sel_f, q_out_rt, q_out_nx, q_out_ex, q_rb_ok, q_rb_bad, q_rb_exc, q_tf_ok, q_v0, q_vs, q_w0, q_w0o, q_ws, q_tbq, q_asb, q_nt, q_rsel_t, q_rsel_f, q_ta, q_to, q_va, q_vo, q_vn, q_sett, q_seto, q_bin, q_c, q_callb, q_cons, q_nil, q_tup, q_lst, q_celle, q_ret, q_nx, q_thl, q_thd, q_isi, q_neg, q_neg_i, q_callk, q_drop, q_retn, q_brk, q_cnt, q_ife, q_add_i, q_sub_i, q_lt_i, q_le_i, q_gt_i, q_ge_i, q_eq_i, q_ne_i, List.map_cons, List.map_nil, List.length_cons, List.length_nil, List.replicate, List.append_nil, List.nil_append, List.cons_append, Nat.reduceAdd, Nat.reduceSub, List.getElem?_cons_zero, List.getElem?_cons_succ, List.set_cons_zero, List.set_cons_succ, Bool.not_true, Bool.not_false, decide_true, decide_false, if_true, if_false, a, b, s2]
    rfl)
  unfold mi_Shape mInit
  rw [show (none :: mStart 4 [D.str s.name, D.str s.form, d]) = [none, some (.val (.str s.name)), some (.val (.str s.form)), some (.val d), none] from rfl]
  simp only [q_df, q_st, q_sq, q_at_nx, q_at_rt, q_at_bk, q_at_ct, q_at_ex, q_mi, q_sel_t, q_sel_f, q_out_rt, q_out_nx, q_out_ex, q_rb_ok, q_rb_bad, q_rb_exc, q_tf_ok, q_v0, q_vs, q_w0, q_w0o, q_ws, q_tbq, q_asb, q_nt, q_rsel_t, q_rsel_f, q_ta, q_to, q_va, q_vo, q_vn, q_sett, q_seto, q_bin, q_c, q_callb, q_cons, q_nil, q_tup, q_lst, q_celle, q_ret, q_nx, q_thl, q_thd, q_isi, q_neg, q_neg_i, q_callk, q_drop, q_retn, q_brk, q_cnt, q_ife, q_add_i, q_sub_i, q_lt_i, q_le_i, q_gt_i, q_ge_i, q_eq_i, q_ne_i, List.map_cons, List.map_nil, List.length_cons, List.length_nil, List.replicate, List.append_nil, List.nil_append, List.cons_append, Nat.reduceAdd, Nat.reduceSub, List.getElem?_cons_zero, List.getElem?_cons_succ, List.set_cons_zero, List.set_cons_succ, Bool.not_true, Bool.not_false, decide_true, decide_false, if_true, if_false, lc, q_tupof_l]
def DeedFlat (p : Str × List D) : Prop := ∀ o ∈ p.2, nrm o = o ∧ ∀ y, nrm y = o → y = o
theorem pres_flat {xs ys : List D} (h : xs.map nrm = ys) (hf : ∀ o ∈ ys, ∀ y, nrm y = o → y = o) : xs = ys := by
  induction xs generalizing ys with
  | nil => exact h
  | cons x xs ih =>
    cases ys with
    | nil => simp at h
    | cons y ys =>
      simp only [List.map_cons, List.cons.injEq] at h
      rw [hf y List.mem_cons_self x h.1, ih h.2 fun o ho => hf o (List.mem_cons_of_mem _ ho)]
theorem pres_deed {x : D} {p : Str × List D} (h : nrm x = deedD p) (hf : DeedFlat p) : dTupOf [x] = .ok (deedD p) := by
  obtain ⟨xs, e1, e2⟩ := p_tupof h
  rw [e1, pres_flat e2 fun o ho y hy => ?_]
  · rfl
  · rcases List.mem_cons.mp ho with rfl | ho
    · exact pres_str hy
    · exact (hf o ho).2 y hy
theorem pres_strs {x : D} {ss : List Str} (h : nrm x = .tup (ss.map D.str)) : dTupOf [x] = .ok (.tup (ss.map D.str)) := by
  obtain ⟨xs, e1, e2⟩ := p_tupof h
  rw [e1, pres_flat e2 fun o ho y hy => ?_]
  obtain ⟨s, _, rfl⟩ := List.mem_map.mp ho
  exact pres_str hy
theorem pres_res {x : D} {r : Option Str} (h : nrm x = resD r) : x = resD r := by
  cases r with
  | none => exact pres_non h
  | some s => exact pres_str h
theorem mi_function {n p r sl b : D} {f : Fu} (hn : nrm n = .str f.name) (hp : nrm p = .tup (f.params.map D.str)) (hr : nrm r = resD f.result) (hs : nrm sl = .int f.slots) (hb : nrm b = .tup (f.body.map deedD)) (hm : f.body.length ≤ 200) (hfl : ∀ q ∈ f.body, DeedFlat q) :
    mi_Function [n, p, r, sl, b] = .ok [.str f.name, .tup (f.params.map D.str), resD f.result, .int f.slots, .tup (f.body.map deedD)] := by
  have en := pres_str hn
  have es := pres_int hs
  have er := pres_res hr
  subst en es er
  have pp := pres_strs hp
  have lc : mLC [6] (mItems (mVar 5)) (bName 6) mYes e_Function___init___1 [none, some (.val (.str f.name)), some (.val p), some (.val (resD f.result)), some (.val (.int f.slots)), some (.val b), none] = .ok (.l (f.body.map deedD)) := lc_pres hb rfl (by omega) (by simp only [q_df, q_st, q_sq, q_at_nx, q_at_rt, q_at_bk, q_at_ct, q_at_ex, q_mi, q_sel_t, q_sel_f, q_out_rt, q_out_nx, q_out_ex, q_rb_ok, q_rb_bad, q_rb_exc, q_tf_ok, q_v0, q_vs, q_w0, q_w0o, q_ws, q_tbq, q_asb, q_nt, q_rsel_t, q_rsel_f, q_ta, q_to, q_va, q_vo, q_vn, q_sett, q_seto, q_bin, q_c, q_callb, q_cons, q_nil, q_tup, q_lst, q_celle, q_ret, q_nx, q_thl, q_thd, q_isi, q_neg, q_neg_i, q_callk, q_drop, q_retn, q_brk, q_cnt, q_ife, q_add_i, q_sub_i, q_lt_i, q_le_i, q_gt_i, q_ge_i, q_eq_i, q_ne_i, List.map_cons, List.map_nil, List.length_cons, List.length_nil, List.replicate, List.append_nil, List.nil_append, List.cons_append, Nat.reduceAdd, Nat.reduceSub, List.getElem?_cons_zero, List.getElem?_cons_succ, List.set_cons_zero, List.set_cons_succ, Bool.not_true, Bool.not_false, decide_true, decide_false, if_true, if_false, q_it]) (fun q hq x hx => by
    have a := pres_deed hx (hfl q hq)
    refine ⟨_, rfl, ?_⟩
    show e_Function___init___1 [none, some (.val (.str f.name)), some (.val p), some (.val (resD f.result)), some (.val (.int f.slots)), some (.val b), some (.val x)] = _
    simp only [e_Function___init___1, q_df, q_st, q_sq, q_at_nx, q_at_rt, q_at_bk, q_at_ct, q_at_ex, q_mi, q_sel_t, q_sel_f, q_out_rt, q_out_nx, q_out_ex, q_rb_ok, q_rb_bad, q_rb_exc, q_tf_ok, q_v0, q_vs, q_w0, q_w0o, q_ws, q_tbq, q_asb, q_nt, q_rsel_t, q_rsel_f, q_ta, q_to, q_va, q_vo, q_vn, q_sett, q_seto, q_bin, q_c, q_callb, q_cons, q_nil, q_tup, q_lst, q_celle, q_ret, q_nx, q_thl, q_thd, q_isi, q_neg, q_neg_i, q_callk, q_drop, q_retn, q_brk, q_cnt, q_ife, q_add_i, q_sub_i, q_lt_i, q_le_i, q_gt_i, q_ge_i, q_eq_i, q_ne_i, List.map_cons, List.map_nil, List.length_cons, List.length_nil, List.replicate, List.append_nil, List.nil_append, List.cons_append, Nat.reduceAdd, Nat.reduceSub, List.getElem?_cons_zero, List.getElem?_cons_succ, List.set_cons_zero, List.set_cons_succ, Bool.not_true, Bool.not_false, decide_true, decide_false, if_true, if_false, a])
  unfold mi_Function mInit
  rw [show (none :: mStart 6 [D.str f.name, p, resD f.result, D.int f.slots, b]) = [none, some (.val (.str f.name)), some (.val p), some (.val (resD f.result)), some (.val (.int f.slots)), some (.val b), none] from rfl]
  simp only [q_df, q_st, q_sq, q_at_nx, q_at_rt, q_at_bk, q_at_ct, q_at_ex, q_mi, q_sel_t, q_sel_f, q_out_rt, q_out_nx, q_out_ex, q_rb_ok, q_rb_bad, q_rb_exc, q_tf_ok, q_v0, q_vs, q_w0, q_w0o, q_ws, q_tbq, q_asb, q_nt, q_rsel_t, q_rsel_f, q_ta, q_to, q_va, q_vo, q_vn, q_sett, q_seto, q_bin, q_c, q_callb, q_cons, q_nil, q_tup, q_lst, q_celle, q_ret, q_nx, q_thl, q_thd, q_isi, q_neg, q_neg_i, q_callk, q_drop, q_retn, q_brk, q_cnt, q_ife, q_add_i, q_sub_i, q_lt_i, q_le_i, q_gt_i, q_ge_i, q_eq_i, q_ne_i, List.map_cons, List.map_nil, List.length_cons, List.length_nil, List.replicate, List.append_nil, List.nil_append, List.cons_append, Nat.reduceAdd, Nat.reduceSub, List.getElem?_cons_zero, List.getElem?_cons_succ, List.set_cons_zero, List.set_cons_succ, Bool.not_true, Bool.not_false, decide_true, decide_false, if_true, if_false, lc, pp, q_tupof_l]
theorem mi_program {S : List Sh} {T : List (Str × Str)} {F : List Fu} {t : D} (ht : nrm t = .tup (T.map pairD)) (hm : T.length < 1000) : mi_Program [.lst (S.map insSh), t, .lst (F.map insFu)] = .ok [.tup (S.map insSh), .tup (T.map pairD), .tup (F.map insFu)] := by
  have s2 : (2 : Nat) ≤ sizeLine := by decide
  have lc : mLC [4] (mItems (mVar 2)) (bName 4) mYes e_Program___init___1 [none, some (.val (.lst (S.map insSh))), some (.val t), some (.val (.lst (F.map insFu))), none] = .ok (.l (T.map pairD)) := lc_pres ht rfl (by omega) (by simp only [q_df, q_st, q_sq, q_at_nx, q_at_rt, q_at_bk, q_at_ct, q_at_ex, q_mi, q_sel_t, q_sel_f, q_out_rt, q_out_nx, q_out_ex, q_rb_ok, q_rb_bad, q_rb_exc, q_tf_ok, q_v0, q_vs, q_w0, q_w0o, q_ws, q_tbq, q_asb, q_nt, q_rsel_t, q_rsel_f, q_ta, q_to, q_va, q_vo, q_vn, q_sett, q_seto, q_bin, q_c, q_callb, q_cons, q_nil, q_tup, q_lst, q_celle, q_ret, q_nx, q_thl, q_thd, q_isi, q_neg, q_neg_i, q_callk, q_drop, q_retn, q_brk, q_cnt, q_ife, q_add_i, q_sub_i, q_lt_i, q_le_i, q_gt_i, q_ge_i, q_eq_i, q_ne_i, List.map_cons, List.map_nil, List.length_cons, List.length_nil, List.replicate, List.append_nil, List.nil_append, List.cons_append, Nat.reduceAdd, Nat.reduceSub, List.getElem?_cons_zero, List.getElem?_cons_succ, List.set_cons_zero, List.set_cons_succ, Bool.not_true, Bool.not_false, decide_true, decide_false, if_true, if_false, q_it]) (fun p hp x hx => by
    obtain ⟨a, b⟩ := pres_pair hx
    refine ⟨_, rfl, ?_⟩
    show e_Program___init___1 [none, some (.val (.lst (S.map insSh))), some (.val t), some (.val (.lst (F.map insFu))), some (.val x)] = _
    simp only [e_Program___init___1, q_df, q_st, q_sq, q_at_nx, q_at_rt, q_at_bk, q_at_ct, q_at_ex, q_mi, q_sel_t, q_sel_f, q_out_rt, q_out_nx, q_out_ex, q_rb_ok, q_rb_bad, q_rb_exc, q_tf_ok, q_v0, q_vs, q_w0, q_w0o, q_ws, q_tbq, q_asb, q_nt, q_rsel_t, q_rsel_f, q_ta, q_to, q_va, q_vo, q_vn, q_sett, q_seto, q_bin, q_c, q_callb, q_cons, q_nil, q_tup, q_lst, q_celle, q_ret, q_nx, q_thl, q_thd, q_isi, q_neg, q_neg_i, q_callk, q_drop, q_retn, q_brk, q_cnt, q_ife, q_add_i, q_sub_i, q_lt_i, q_le_i, q_gt_i, q_ge_i, q_eq_i, q_ne_i, List.map_cons, List.map_nil, List.length_cons, List.length_nil, List.replicate, List.append_nil, List.nil_append, List.cons_append, Nat.reduceAdd, Nat.reduceSub, List.getElem?_cons_zero, List.getElem?_cons_succ, List.set_cons_zero, List.set_cons_succ, Bool.not_true, Bool.not_false, decide_true, decide_false, if_true, if_false, a, b, s2]
    rfl)
  unfold mi_Program mInit
  rw [show (none :: mStart 4 [D.lst (S.map insSh), t, D.lst (F.map insFu)]) = [none, some (.val (.lst (S.map insSh))), some (.val t), some (.val (.lst (F.map insFu))), none] from rfl]
  simp only [q_df, q_st, q_sq, q_at_nx, q_at_rt, q_at_bk, q_at_ct, q_at_ex, q_mi, q_sel_t, q_sel_f, q_out_rt, q_out_nx, q_out_ex, q_rb_ok, q_rb_bad, q_rb_exc, q_tf_ok, q_v0, q_vs, q_w0, q_w0o, q_ws, q_tbq, q_asb, q_nt, q_rsel_t, q_rsel_f, q_ta, q_to, q_va, q_vo, q_vn, q_sett, q_seto, q_bin, q_c, q_callb, q_cons, q_nil, q_tup, q_lst, q_celle, q_ret, q_nx, q_thl, q_thd, q_isi, q_neg, q_neg_i, q_callk, q_drop, q_retn, q_brk, q_cnt, q_ife, q_add_i, q_sub_i, q_lt_i, q_le_i, q_gt_i, q_ge_i, q_eq_i, q_ne_i, List.map_cons, List.map_nil, List.length_cons, List.length_nil, List.replicate, List.append_nil, List.nil_append, List.cons_append, Nat.reduceAdd, Nat.reduceSub, List.getElem?_cons_zero, List.getElem?_cons_succ, List.set_cons_zero, List.set_cons_succ, Bool.not_true, Bool.not_false, decide_true, decide_false, if_true, if_false, lc, q_tupof_l]
structure PrOk (S : List Sh) (T : List (Str × Str)) (F : List Fu) : Prop where
  sh : ShsOk S
  st : StsOk (S.map (·.name)) T
  fu : FusOk (S.map (·.name)) F
  deeds : ∀ f ∈ F, ∀ p ∈ f.body, ∃ sorts, DeedOk S (T.map (·.1)) (F.map (·.name)) f.slots (f.body.length : Int) p sorts ∧ sorts.length < 1000
  s40 : S.length ≤ 40
  t20 : T.length ≤ 20
theorem seq5 {x : D} {a b c d e : D} (h : nrm x = .tup [a, b, c, d, e]) : ∃ a' b' c' d' e', seqD x = some [a', b', c', d', e'] ∧ nrm a' = a ∧ nrm b' = b ∧ nrm c' = c ∧ nrm d' = d ∧ nrm e' = e := by
  obtain ⟨xs, e1, e2⟩ := pres_tup h
  match xs, e2 with
  | [a', b', c', d', e'], e2 =>
    simp only [List.map_cons, List.map_nil, List.cons.injEq, and_true] at e2
    exact ⟨a', b', c', d', e', by rcases e1 with rfl | rfl <;> rfl, e2.1, e2.2.1, e2.2.2.1, e2.2.2.2.1, e2.2.2.2.2⟩
theorem seq3 {x : D} {a b c : D} (h : nrm x = .tup [a, b, c]) : ∃ a' b' c', seqD x = some [a', b', c'] ∧ nrm a' = a ∧ nrm b' = b ∧ nrm c' = c := by
  obtain ⟨xs, e1, e2⟩ := pres_tup h
  match xs, e2 with
  | [a', b', c'], e2 =>
    simp only [List.map_cons, List.map_nil, List.cons.injEq, and_true] at e2
    exact ⟨a', b', c', by rcases e1 with rfl | rfl <;> rfl, e2.1, e2.2.1, e2.2.2⟩
theorem e_make {S : List Sh} {T : List (Str × Str)} {F : List Fu} (H : PrOk S T F) {d t e : D} (h : nrm d = .tup (S.map shD)) (ht : nrm t = .tup (T.map pairD)) (he : nrm e = .tup (F.map fuD)) : m_make_program [d, t, e] = .ok (insPr S T F) := by
  have s40 := H.s40
  have t20 := H.t20
  have f20 := H.fu.many
  have f1 := H.fu.some_
  have ld := p_len h
  rw [List.length_map] at ld
  have lt := p_len ht
  rw [List.length_map] at lt
  have le := p_len he
  rw [List.length_map] at le
  have w1 : m_counts_why [d, t, e] = .ok .non := by
    simp (disch := omega) only [m_counts_why, q_df, q_st, q_sq, q_at_nx, q_at_rt, q_at_bk, q_at_ct, q_at_ex, q_mi, q_sel_t, q_sel_f, q_out_rt, q_out_nx, q_out_ex, q_rb_ok, q_rb_bad, q_rb_exc, q_tf_ok, q_v0, q_vs, q_w0, q_w0o, q_ws, q_tbq, q_asb, q_nt, q_rsel_t, q_rsel_f, q_ta, q_to, q_va, q_vo, q_vn, q_sett, q_seto, q_bin, q_c, q_callb, q_cons, q_nil, q_tup, q_lst, q_celle, q_ret, q_nx, q_thl, q_thd, q_isi, q_neg, q_neg_i, q_callk, q_drop, q_retn, q_brk, q_cnt, q_ife, q_add_i, q_sub_i, List.map_cons, List.map_nil, List.length_cons, List.length_nil, List.replicate, List.append_nil, List.nil_append, List.cons_append, Nat.reduceAdd, Nat.reduceSub, List.getElem?_cons_zero, List.getElem?_cons_succ, List.set_cons_zero, List.set_cons_succ, Bool.not_true, Bool.not_false, decide_true, decide_false, if_true, if_false, t_lt_t, t_lt_f, t_le_t, t_le_f, t_gt_t, t_gt_f, t_ge_t, t_ge_f, t_eq_t, t_eq_f, t_ne_t, t_ne_f, t_is_b, t_isn_b, t_is_i, t_is_n, t_isn_i, t_isn_n, t_abs_n, t_abs_p, t_min, t_max, t_ixl, t_ixt, t_ixs, t_ixL, q_opt, q_ixo, q_oc0, q_ocs, q_oa0, q_oas, t_appd, q_app, t_putd, q_six, q_flopt, q_frz, q_int_i, q_mul_s, q_mod_i, q_div_i, q_len_s, q_len_l, q_len_t, q_items_s, q_items_l, q_items_t, t_szl, Int.reduceToNat, Int.reduceNeg, permL, List.filterMap_cons, List.filterMap_nil, eq_self, if_true, if_false, ite_true, ite_false, Bool.true_eq_false, Bool.false_eq_true, ld, lt, le]
  have w2 := e_look_shapes H.sh h
  have w3 := e_look_statics (by omega) H.st h ht
  have w4 := e_look_functions (by omega) H.fu h he
  have w5 := e_look_bodies H.sh (by omega) f20 h ht he (fun f hf => by
    obtain ⟨k, hk⟩ := List.getElem?_of_mem hf
    exact (H.fu.all k f hk).body1) H.deeds
  unfold m_make_program
  refine def_of ?_
  rw [show mStart 12 [d, t, e] = [some (.val d), some (.val t), some (.val e), none, none, none, none, none, none, none, none, none] from rfl]
  rw [seq_nx (r' := [some (.val d), some (.val t), some (.val e), some (.val .non), none, none, none, none, none, none, none, none]) (by simp only [q_df, q_st, q_sq, q_at_nx, q_at_rt, q_at_bk, q_at_ct, q_at_ex, q_mi, q_sel_t, q_sel_f, q_out_rt, q_out_nx, q_out_ex, q_rb_ok, q_rb_bad, q_rb_exc, q_tf_ok, q_v0, q_vs, q_w0, q_w0o, q_ws, q_tbq, q_asb, q_nt, q_rsel_t, q_rsel_f, q_ta, q_to, q_va, q_vo, q_vn, q_sett, q_seto, q_bin, q_c, q_callb, q_cons, q_nil, q_tup, q_lst, q_celle, q_ret, q_nx, q_thl, q_thd, q_isi, q_neg, q_neg_i, q_callk, q_drop, q_retn, q_brk, q_cnt, q_ife, q_add_i, q_sub_i, q_lt_i, q_le_i, q_gt_i, q_ge_i, q_eq_i, q_ne_i, List.map_cons, List.map_nil, List.length_cons, List.length_nil, List.replicate, List.append_nil, List.nil_append, List.cons_append, Nat.reduceAdd, Nat.reduceSub, List.getElem?_cons_zero, List.getElem?_cons_succ, List.set_cons_zero, List.set_cons_succ, Bool.not_true, Bool.not_false, decide_true, decide_false, if_true, if_false, w1])]
  rw [seq_nx (r' := [some (.val d), some (.val t), some (.val e), some (.val .non), none, none, none, none, none, none, none, none]) (by simp only [q_df, q_st, q_sq, q_at_nx, q_at_rt, q_at_bk, q_at_ct, q_at_ex, q_mi, q_sel_t, q_sel_f, q_out_rt, q_out_nx, q_out_ex, q_rb_ok, q_rb_bad, q_rb_exc, q_tf_ok, q_v0, q_vs, q_w0, q_w0o, q_ws, q_tbq, q_asb, q_nt, q_rsel_t, q_rsel_f, q_ta, q_to, q_va, q_vo, q_vn, q_sett, q_seto, q_bin, q_c, q_callb, q_cons, q_nil, q_tup, q_lst, q_celle, q_ret, q_nx, q_thl, q_thd, q_isi, q_neg, q_neg_i, q_callk, q_drop, q_retn, q_brk, q_cnt, q_ife, q_add_i, q_sub_i, q_lt_i, q_le_i, q_gt_i, q_ge_i, q_eq_i, q_ne_i, List.map_cons, List.map_nil, List.length_cons, List.length_nil, List.replicate, List.append_nil, List.nil_append, List.cons_append, Nat.reduceAdd, Nat.reduceSub, List.getElem?_cons_zero, List.getElem?_cons_succ, List.set_cons_zero, List.set_cons_succ, Bool.not_true, Bool.not_false, decide_true, decide_false, if_true, if_false, t_isn_n])]
  rw [seq_nx (r' := [some (.val d), some (.val t), some (.val e), some (.val .non), none, none, none, none, none, none, none, none]) (by simp only [q_df, q_st, q_sq, q_at_nx, q_at_rt, q_at_bk, q_at_ct, q_at_ex, q_mi, q_sel_t, q_sel_f, q_out_rt, q_out_nx, q_out_ex, q_rb_ok, q_rb_bad, q_rb_exc, q_tf_ok, q_v0, q_vs, q_w0, q_w0o, q_ws, q_tbq, q_asb, q_nt, q_rsel_t, q_rsel_f, q_ta, q_to, q_va, q_vo, q_vn, q_sett, q_seto, q_bin, q_c, q_callb, q_cons, q_nil, q_tup, q_lst, q_celle, q_ret, q_nx, q_thl, q_thd, q_isi, q_neg, q_neg_i, q_callk, q_drop, q_retn, q_brk, q_cnt, q_ife, q_add_i, q_sub_i, q_lt_i, q_le_i, q_gt_i, q_ge_i, q_eq_i, q_ne_i, List.map_cons, List.map_nil, List.length_cons, List.length_nil, List.replicate, List.append_nil, List.nil_append, List.cons_append, Nat.reduceAdd, Nat.reduceSub, List.getElem?_cons_zero, List.getElem?_cons_succ, List.set_cons_zero, List.set_cons_succ, Bool.not_true, Bool.not_false, decide_true, decide_false, if_true, if_false, w2])]
  rw [seq_nx (r' := [some (.val d), some (.val t), some (.val e), some (.val .non), none, none, none, none, none, none, none, none]) (by simp only [q_df, q_st, q_sq, q_at_nx, q_at_rt, q_at_bk, q_at_ct, q_at_ex, q_mi, q_sel_t, q_sel_f, q_out_rt, q_out_nx, q_out_ex, q_rb_ok, q_rb_bad, q_rb_exc, q_tf_ok, q_v0, q_vs, q_w0, q_w0o, q_ws, q_tbq, q_asb, q_nt, q_rsel_t, q_rsel_f, q_ta, q_to, q_va, q_vo, q_vn, q_sett, q_seto, q_bin, q_c, q_callb, q_cons, q_nil, q_tup, q_lst, q_celle, q_ret, q_nx, q_thl, q_thd, q_isi, q_neg, q_neg_i, q_callk, q_drop, q_retn, q_brk, q_cnt, q_ife, q_add_i, q_sub_i, q_lt_i, q_le_i, q_gt_i, q_ge_i, q_eq_i, q_ne_i, List.map_cons, List.map_nil, List.length_cons, List.length_nil, List.replicate, List.append_nil, List.nil_append, List.cons_append, Nat.reduceAdd, Nat.reduceSub, List.getElem?_cons_zero, List.getElem?_cons_succ, List.set_cons_zero, List.set_cons_succ, Bool.not_true, Bool.not_false, decide_true, decide_false, if_true, if_false, w3])]
  rw [seq_nx (r' := [some (.val d), some (.val t), some (.val e), some (.val .non), none, none, none, none, none, none, none, none]) (by simp only [q_df, q_st, q_sq, q_at_nx, q_at_rt, q_at_bk, q_at_ct, q_at_ex, q_mi, q_sel_t, q_sel_f, q_out_rt, q_out_nx, q_out_ex, q_rb_ok, q_rb_bad, q_rb_exc, q_tf_ok, q_v0, q_vs, q_w0, q_w0o, q_ws, q_tbq, q_asb, q_nt, q_rsel_t, q_rsel_f, q_ta, q_to, q_va, q_vo, q_vn, q_sett, q_seto, q_bin, q_c, q_callb, q_cons, q_nil, q_tup, q_lst, q_celle, q_ret, q_nx, q_thl, q_thd, q_isi, q_neg, q_neg_i, q_callk, q_drop, q_retn, q_brk, q_cnt, q_ife, q_add_i, q_sub_i, q_lt_i, q_le_i, q_gt_i, q_ge_i, q_eq_i, q_ne_i, List.map_cons, List.map_nil, List.length_cons, List.length_nil, List.replicate, List.append_nil, List.nil_append, List.cons_append, Nat.reduceAdd, Nat.reduceSub, List.getElem?_cons_zero, List.getElem?_cons_succ, List.set_cons_zero, List.set_cons_succ, Bool.not_true, Bool.not_false, decide_true, decide_false, if_true, if_false, w4])]
  rw [seq_nx (r' := [some (.val d), some (.val t), some (.val e), some (.val .non), none, none, none, none, none, none, none, none]) (by simp only [q_df, q_st, q_sq, q_at_nx, q_at_rt, q_at_bk, q_at_ct, q_at_ex, q_mi, q_sel_t, q_sel_f, q_out_rt, q_out_nx, q_out_ex, q_rb_ok, q_rb_bad, q_rb_exc, q_tf_ok, q_v0, q_vs, q_w0, q_w0o, q_ws, q_tbq, q_asb, q_nt, q_rsel_t, q_rsel_f, q_ta, q_to, q_va, q_vo, q_vn, q_sett, q_seto, q_bin, q_c, q_callb, q_cons, q_nil, q_tup, q_lst, q_celle, q_ret, q_nx, q_thl, q_thd, q_isi, q_neg, q_neg_i, q_callk, q_drop, q_retn, q_brk, q_cnt, q_ife, q_add_i, q_sub_i, q_lt_i, q_le_i, q_gt_i, q_ge_i, q_eq_i, q_ne_i, List.map_cons, List.map_nil, List.length_cons, List.length_nil, List.replicate, List.append_nil, List.nil_append, List.cons_append, Nat.reduceAdd, Nat.reduceSub, List.getElem?_cons_zero, List.getElem?_cons_succ, List.set_cons_zero, List.set_cons_succ, Bool.not_true, Bool.not_false, decide_true, decide_false, if_true, if_false, w5])]
  have lc1 : mLC [5, 6, 7, 8, 9] (mItems (mVar 2)) (bTup 5 (bsCons (bName 5) (bsCons (bName 6) (bsCons (bName 7) (bsCons (bName 8) (bsCons (bName 9) bsNil)))))) mYes e_make_program_1 [some (.val d), some (.val t), some (.val e), some (.val .non), none, none, none, none, none, none, none, none] = .ok (.l (F.map insFu)) := lc_pres he rfl (by omega) (by simp only [q_df, q_st, q_sq, q_at_nx, q_at_rt, q_at_bk, q_at_ct, q_at_ex, q_mi, q_sel_t, q_sel_f, q_out_rt, q_out_nx, q_out_ex, q_rb_ok, q_rb_bad, q_rb_exc, q_tf_ok, q_v0, q_vs, q_w0, q_w0o, q_ws, q_tbq, q_asb, q_nt, q_rsel_t, q_rsel_f, q_ta, q_to, q_va, q_vo, q_vn, q_sett, q_seto, q_bin, q_c, q_callb, q_cons, q_nil, q_tup, q_lst, q_celle, q_ret, q_nx, q_thl, q_thd, q_isi, q_neg, q_neg_i, q_callk, q_drop, q_retn, q_brk, q_cnt, q_ife, q_add_i, q_sub_i, q_lt_i, q_le_i, q_gt_i, q_ge_i, q_eq_i, q_ne_i, List.map_cons, List.map_nil, List.length_cons, List.length_nil, List.replicate, List.append_nil, List.nil_append, List.cons_append, Nat.reduceAdd, Nat.reduceSub, List.getElem?_cons_zero, List.getElem?_cons_succ, List.set_cons_zero, List.set_cons_succ, Bool.not_true, Bool.not_false, decide_true, decide_false, if_true, if_false, q_it]) (fun f hf x hx => by
    obtain ⟨k, hk⟩ := List.getElem?_of_mem hf
    obtain ⟨n, p, r, s, b, g0, g1, g2, g3, g4, g5⟩ := seq5 hx
    have w := mi_function g1 g2 g3 g4 g5 (H.fu.all k f hk).body1 (fun q hq => by
      obtain ⟨sorts, dk, _⟩ := H.deeds f hf q hq
      exact dk.flat)
    refine ⟨[some (.val d), some (.val t), some (.val e), some (.val .non), none, some (.val n), some (.val p), some (.val r), some (.val s), some (.val b), none, none], ?_, ?_⟩
    · simp only [bTup, g0, List.length_cons, List.length_nil, if_true, bsCons, bsNil, bName]
      rfl
    · simp only [e_make_program_1, mMake, q_df, q_st, q_sq, q_at_nx, q_at_rt, q_at_bk, q_at_ct, q_at_ex, q_mi, q_sel_t, q_sel_f, q_out_rt, q_out_nx, q_out_ex, q_rb_ok, q_rb_bad, q_rb_exc, q_tf_ok, q_v0, q_vs, q_w0, q_w0o, q_ws, q_tbq, q_asb, q_nt, q_rsel_t, q_rsel_f, q_ta, q_to, q_va, q_vo, q_vn, q_sett, q_seto, q_bin, q_c, q_callb, q_cons, q_nil, q_tup, q_lst, q_celle, q_ret, q_nx, q_thl, q_thd, q_isi, q_neg, q_neg_i, q_callk, q_drop, q_retn, q_brk, q_cnt, q_ife, q_add_i, q_sub_i, q_lt_i, q_le_i, q_gt_i, q_ge_i, q_eq_i, q_ne_i, List.map_cons, List.map_nil, List.length_cons, List.length_nil, List.replicate, List.append_nil, List.nil_append, List.cons_append, Nat.reduceAdd, Nat.reduceSub, List.getElem?_cons_zero, List.getElem?_cons_succ, List.set_cons_zero, List.set_cons_succ, Bool.not_true, Bool.not_false, decide_true, decide_false, if_true, if_false, w]
      rfl)
  have lc2 : mLC [5, 10, 11] (mItems (mVar 0)) (bTup 3 (bsCons (bName 5) (bsCons (bName 10) (bsCons (bName 11) bsNil)))) mYes e_make_program_2 [some (.val d), some (.val t), some (.val e), some (.val .non), some (.val (.lst (F.map insFu))), none, none, none, none, none, none, none] = .ok (.l (S.map insSh)) := lc_pres h rfl (by omega) (by simp only [q_df, q_st, q_sq, q_at_nx, q_at_rt, q_at_bk, q_at_ct, q_at_ex, q_mi, q_sel_t, q_sel_f, q_out_rt, q_out_nx, q_out_ex, q_rb_ok, q_rb_bad, q_rb_exc, q_tf_ok, q_v0, q_vs, q_w0, q_w0o, q_ws, q_tbq, q_asb, q_nt, q_rsel_t, q_rsel_f, q_ta, q_to, q_va, q_vo, q_vn, q_sett, q_seto, q_bin, q_c, q_callb, q_cons, q_nil, q_tup, q_lst, q_celle, q_ret, q_nx, q_thl, q_thd, q_isi, q_neg, q_neg_i, q_callk, q_drop, q_retn, q_brk, q_cnt, q_ife, q_add_i, q_sub_i, q_lt_i, q_le_i, q_gt_i, q_ge_i, q_eq_i, q_ne_i, List.map_cons, List.map_nil, List.length_cons, List.length_nil, List.replicate, List.append_nil, List.nil_append, List.cons_append, Nat.reduceAdd, Nat.reduceSub, List.getElem?_cons_zero, List.getElem?_cons_succ, List.set_cons_zero, List.set_cons_succ, Bool.not_true, Bool.not_false, decide_true, decide_false, if_true, if_false, q_it]) (fun s hs x hx => by
    obtain ⟨n, p, r, g0, g1, g2, g3⟩ := seq3 hx
    have w := mi_shape g3 (H.sh.all s hs).many (pres_str g1) (pres_str g2)
    refine ⟨[some (.val d), some (.val t), some (.val e), some (.val .non), some (.val (.lst (F.map insFu))), some (.val n), none, none, none, none, some (.val p), some (.val r)], ?_, ?_⟩
    · simp only [bTup, g0, List.length_cons, List.length_nil, if_true, bsCons, bsNil, bName]
      rfl
    · simp only [e_make_program_2, mMake, q_df, q_st, q_sq, q_at_nx, q_at_rt, q_at_bk, q_at_ct, q_at_ex, q_mi, q_sel_t, q_sel_f, q_out_rt, q_out_nx, q_out_ex, q_rb_ok, q_rb_bad, q_rb_exc, q_tf_ok, q_v0, q_vs, q_w0, q_w0o, q_ws, q_tbq, q_asb, q_nt, q_rsel_t, q_rsel_f, q_ta, q_to, q_va, q_vo, q_vn, q_sett, q_seto, q_bin, q_c, q_callb, q_cons, q_nil, q_tup, q_lst, q_celle, q_ret, q_nx, q_thl, q_thd, q_isi, q_neg, q_neg_i, q_callk, q_drop, q_retn, q_brk, q_cnt, q_ife, q_add_i, q_sub_i, q_lt_i, q_le_i, q_gt_i, q_ge_i, q_eq_i, q_ne_i, List.map_cons, List.map_nil, List.length_cons, List.length_nil, List.replicate, List.append_nil, List.nil_append, List.cons_append, Nat.reduceAdd, Nat.reduceSub, List.getElem?_cons_zero, List.getElem?_cons_succ, List.set_cons_zero, List.set_cons_succ, Bool.not_true, Bool.not_false, decide_true, decide_false, if_true, if_false, w]
      rfl)
  rw [seq_nx (r' := [some (.val d), some (.val t), some (.val e), some (.val .non), some (.own (.l (F.map insFu))), none, none, none, none, none, none, none]) (by rw [q_seto, lc1]; rfl)]
  have w6 := mi_program (S := S) (T := T) (F := F) ht (by omega)
  rw [q_frz]
  simp only [q_df, q_st, q_sq, q_at_nx, q_at_rt, q_at_bk, q_at_ct, q_at_ex, q_mi, q_sel_t, q_sel_f, q_out_rt, q_out_nx, q_out_ex, q_rb_ok, q_rb_bad, q_rb_exc, q_tf_ok, q_v0, q_vs, q_w0, q_w0o, q_ws, q_tbq, q_asb, q_nt, q_rsel_t, q_rsel_f, q_ta, q_to, q_va, q_vo, q_vn, q_sett, q_seto, q_bin, q_c, q_callb, q_cons, q_nil, q_tup, q_lst, q_celle, q_ret, q_nx, q_thl, q_thd, q_isi, q_neg, q_neg_i, q_callk, q_drop, q_retn, q_brk, q_cnt, q_ife, q_add_i, q_sub_i, q_lt_i, q_le_i, q_gt_i, q_ge_i, q_eq_i, q_ne_i, List.map_cons, List.map_nil, List.length_cons, List.length_nil, List.replicate, List.append_nil, List.nil_append, List.cons_append, Nat.reduceAdd, Nat.reduceSub, List.getElem?_cons_zero, List.getElem?_cons_succ, List.set_cons_zero, List.set_cons_succ, Bool.not_true, Bool.not_false, decide_true, decide_false, if_true, if_false, q_ocs, q_oc0, q_flopt, mMake, lc2, w6]
  rfl
/-! what it tells -/
theorem e_data {S : List Sh} {T : List (Str × Str)} {F : List Fu} (hS : S.length < 1000) (hF : F.length < 1000) : m_Program_data [insPr S T F] = .ok (.tup [.tup (S.map shD), .tup (T.map pairD), .tup (F.map fuD)]) := by
  have s3 : (3 : Nat) ≤ sizeLine := by decide
  have s5 : (5 : Nat) ≤ sizeLine := by decide
  have p0 : ∀ r : Sc, mVar 0 r = .ok (insPr S T F) → mFld ["Program"] "shapes" (mVar 0) r = .ok (.tup (S.map insSh)) ∧ mFld ["Program"] "functions" (mVar 0) r = .ok (.tup (F.map insFu)) ∧ mFld ["Program"] "statics" (mVar 0) r = .ok (.tup (T.map pairD)) := fun r h => by
    refine ⟨?_, ?_, ?_⟩ <;> (unfold mFld; rw [h]; rfl)
  have lc1 : mLC [2] (mItems (mFld ["Program"] "shapes" (mVar 0))) (bName 2) mYes e_Program_data_1 [some (.val (insPr S T F)), none, none, none, none] = .ok (.l (S.map shD)) := lc_same (g := insSh) rfl (by omega) (by rw [q_it, (p0 _ rfl).1]; rfl) (fun s hs => ⟨_, rfl, by
    show e_Program_data_1 [some (.val (insPr S T F)), none, some (.val (insSh s)), none, none] = _
    have a1 : mFld ["Shape", "Function"] "name" (mVar 2) [some (.val (insPr S T F)), none, some (.val (insSh s)), none, none] = .ok (.str s.name) := rfl
    have a2 : mFld ["Shape"] "form" (mVar 2) [some (.val (insPr S T F)), none, some (.val (insSh s)), none, none] = .ok (.str s.form) := rfl
    have a3 : mFld ["Shape"] "fields" (mVar 2) [some (.val (insPr S T F)), none, some (.val (insSh s)), none, none] = .ok (.tup (s.fields.map pairD)) := rfl
    simp only [e_Program_data_1, q_df, q_st, q_sq, q_at_nx, q_at_rt, q_at_bk, q_at_ct, q_at_ex, q_mi, q_sel_t, q_sel_f, q_out_rt, q_out_nx, q_out_ex, q_rb_ok, q_rb_bad, q_rb_exc, q_tf_ok, q_v0, q_vs, q_w0, q_w0o, q_ws, q_tbq, q_asb, q_nt, q_rsel_t, q_rsel_f, q_ta, q_to, q_va, q_vo, q_vn, q_sett, q_seto, q_bin, q_c, q_callb, q_cons, q_nil, q_tup, q_lst, q_celle, q_ret, q_nx, q_thl, q_thd, q_isi, q_neg, q_neg_i, q_callk, q_drop, q_retn, q_brk, q_cnt, q_ife, q_add_i, q_sub_i, q_lt_i, q_le_i, q_gt_i, q_ge_i, q_eq_i, q_ne_i, List.map_cons, List.map_nil, List.length_cons, List.length_nil, List.replicate, List.append_nil, List.nil_append, List.cons_append, Nat.reduceAdd, Nat.reduceSub, List.getElem?_cons_zero, List.getElem?_cons_succ, List.set_cons_zero, List.set_cons_succ, Bool.not_true, Bool.not_false, decide_true, decide_false, if_true, if_false, a1, a2, a3, s3]
    rfl⟩)
  have lc2 : mLC [4] (mItems (mFld ["Program"] "functions" (mVar 0))) (bName 4) mYes e_Program_data_2 [some (.val (insPr S T F)), some (.val (.tup (S.map shD))), none, none, none] = .ok (.l (F.map fuD)) := lc_same (g := insFu) rfl (by omega) (by rw [q_it, (p0 _ rfl).2.1]; rfl) (fun f hf => ⟨_, rfl, by
    show e_Program_data_2 [some (.val (insPr S T F)), some (.val (.tup (S.map shD))), none, none, some (.val (insFu f))] = _
    have a1 : mFld ["Shape", "Function"] "name" (mVar 4) [some (.val (insPr S T F)), some (.val (.tup (S.map shD))), none, none, some (.val (insFu f))] = .ok (.str f.name) := rfl
    have a2 : mFld ["Function"] "params" (mVar 4) [some (.val (insPr S T F)), some (.val (.tup (S.map shD))), none, none, some (.val (insFu f))] = .ok (.tup (f.params.map D.str)) := rfl
    have a3 : mFld ["Function"] "result" (mVar 4) [some (.val (insPr S T F)), some (.val (.tup (S.map shD))), none, none, some (.val (insFu f))] = .ok (resD f.result) := rfl
    have a4 : mFld ["Function"] "slots" (mVar 4) [some (.val (insPr S T F)), some (.val (.tup (S.map shD))), none, none, some (.val (insFu f))] = .ok (.int f.slots) := rfl
    have a5 : mFld ["Function"] "body" (mVar 4) [some (.val (insPr S T F)), some (.val (.tup (S.map shD))), none, none, some (.val (insFu f))] = .ok (.tup (f.body.map deedD)) := rfl
    simp only [e_Program_data_2, q_df, q_st, q_sq, q_at_nx, q_at_rt, q_at_bk, q_at_ct, q_at_ex, q_mi, q_sel_t, q_sel_f, q_out_rt, q_out_nx, q_out_ex, q_rb_ok, q_rb_bad, q_rb_exc, q_tf_ok, q_v0, q_vs, q_w0, q_w0o, q_ws, q_tbq, q_asb, q_nt, q_rsel_t, q_rsel_f, q_ta, q_to, q_va, q_vo, q_vn, q_sett, q_seto, q_bin, q_c, q_callb, q_cons, q_nil, q_tup, q_lst, q_celle, q_ret, q_nx, q_thl, q_thd, q_isi, q_neg, q_neg_i, q_callk, q_drop, q_retn, q_brk, q_cnt, q_ife, q_add_i, q_sub_i, q_lt_i, q_le_i, q_gt_i, q_ge_i, q_eq_i, q_ne_i, List.map_cons, List.map_nil, List.length_cons, List.length_nil, List.replicate, List.append_nil, List.nil_append, List.cons_append, Nat.reduceAdd, Nat.reduceSub, List.getElem?_cons_zero, List.getElem?_cons_succ, List.set_cons_zero, List.set_cons_succ, Bool.not_true, Bool.not_false, decide_true, decide_false, if_true, if_false, a1, a2, a3, a4, a5, s5]
    rfl⟩)
  unfold m_Program_data
  refine def_of ?_
  rw [show mStart 5 [insPr S T F] = [some (.val (insPr S T F)), none, none, none, none] from rfl]
  rw [seq_nx (r' := [some (.val (insPr S T F)), some (.val (.tup (S.map shD))), none, none, none]) (by simp only [q_df, q_st, q_sq, q_at_nx, q_at_rt, q_at_bk, q_at_ct, q_at_ex, q_mi, q_sel_t, q_sel_f, q_out_rt, q_out_nx, q_out_ex, q_rb_ok, q_rb_bad, q_rb_exc, q_tf_ok, q_v0, q_vs, q_w0, q_w0o, q_ws, q_tbq, q_asb, q_nt, q_rsel_t, q_rsel_f, q_ta, q_to, q_va, q_vo, q_vn, q_sett, q_seto, q_bin, q_c, q_callb, q_cons, q_nil, q_tup, q_lst, q_celle, q_ret, q_nx, q_thl, q_thd, q_isi, q_neg, q_neg_i, q_callk, q_drop, q_retn, q_brk, q_cnt, q_ife, q_add_i, q_sub_i, q_lt_i, q_le_i, q_gt_i, q_ge_i, q_eq_i, q_ne_i, List.map_cons, List.map_nil, List.length_cons, List.length_nil, List.replicate, List.append_nil, List.nil_append, List.cons_append, Nat.reduceAdd, Nat.reduceSub, List.getElem?_cons_zero, List.getElem?_cons_succ, List.set_cons_zero, List.set_cons_succ, Bool.not_true, Bool.not_false, decide_true, decide_false, if_true, if_false, lc1, q_tupof_l])]
  rw [seq_nx (r' := [some (.val (insPr S T F)), some (.val (.tup (S.map shD))), none, some (.val (.tup (F.map fuD))), none]) (by simp only [q_df, q_st, q_sq, q_at_nx, q_at_rt, q_at_bk, q_at_ct, q_at_ex, q_mi, q_sel_t, q_sel_f, q_out_rt, q_out_nx, q_out_ex, q_rb_ok, q_rb_bad, q_rb_exc, q_tf_ok, q_v0, q_vs, q_w0, q_w0o, q_ws, q_tbq, q_asb, q_nt, q_rsel_t, q_rsel_f, q_ta, q_to, q_va, q_vo, q_vn, q_sett, q_seto, q_bin, q_c, q_callb, q_cons, q_nil, q_tup, q_lst, q_celle, q_ret, q_nx, q_thl, q_thd, q_isi, q_neg, q_neg_i, q_callk, q_drop, q_retn, q_brk, q_cnt, q_ife, q_add_i, q_sub_i, q_lt_i, q_le_i, q_gt_i, q_ge_i, q_eq_i, q_ne_i, List.map_cons, List.map_nil, List.length_cons, List.length_nil, List.replicate, List.append_nil, List.nil_append, List.cons_append, Nat.reduceAdd, Nat.reduceSub, List.getElem?_cons_zero, List.getElem?_cons_succ, List.set_cons_zero, List.set_cons_succ, Bool.not_true, Bool.not_false, decide_true, decide_false, if_true, if_false, lc2, q_tupof_l])]
  have a1 := (p0 [some (.val (insPr S T F)), some (.val (.tup (S.map shD))), none, some (.val (.tup (F.map fuD))), none] rfl).2.2
  simp only [q_df, q_st, q_sq, q_at_nx, q_at_rt, q_at_bk, q_at_ct, q_at_ex, q_mi, q_sel_t, q_sel_f, q_out_rt, q_out_nx, q_out_ex, q_rb_ok, q_rb_bad, q_rb_exc, q_tf_ok, q_v0, q_vs, q_w0, q_w0o, q_ws, q_tbq, q_asb, q_nt, q_rsel_t, q_rsel_f, q_ta, q_to, q_va, q_vo, q_vn, q_sett, q_seto, q_bin, q_c, q_callb, q_cons, q_nil, q_tup, q_lst, q_celle, q_ret, q_nx, q_thl, q_thd, q_isi, q_neg, q_neg_i, q_callk, q_drop, q_retn, q_brk, q_cnt, q_ife, q_add_i, q_sub_i, q_lt_i, q_le_i, q_gt_i, q_ge_i, q_eq_i, q_ne_i, List.map_cons, List.map_nil, List.length_cons, List.length_nil, List.replicate, List.append_nil, List.nil_append, List.cons_append, Nat.reduceAdd, Nat.reduceSub, List.getElem?_cons_zero, List.getElem?_cons_succ, List.set_cons_zero, List.set_cons_succ, Bool.not_true, Bool.not_false, decide_true, decide_false, if_true, if_false, a1, s3]
/-! ### where an instruction leads -/
def JOk (p : Str × List D) : Prop := (p.1 = "jump" ∨ p.1 = "when") → ∃ t : Int, p.2 = [.int t]
def jt (p : Str × List D) : Int := match p.2 with
  | [.int t] => t
  | _ => 0
def tgt (p : Str × List D) (k : Int) : List Int := if p.1 = "back" ∨ p.1 = "halt" then [] else if p.1 = "jump" then [jt p] else if p.1 = "when" ∧ jt p ≠ k + 1 then [k + 1, jt p] else [k + 1]
theorem deed_at {f : Fu} {k : Nat} {p : Str × List D} (h : f.body[k]? = some p) : dIx (.tup (f.body.map deedD)) (.int (k : Int)) = .ok (deedD p) := q_ix rfl (by omega) (by rw [Int.toNat_natCast, List.getElem?_map, h]; rfl)
theorem deed_w {p : Str × List D} : dIx (deedD p) (.int 0) = .ok (.str p.1) := q_ix rfl (by omega) rfl
theorem deed_j {p : Str × List D} (h : JOk p) (hj : p.1 = "jump" ∨ p.1 = "when") : dIx (deedD p) (.int 1) = .ok (.int (jt p)) := by
  obtain ⟨t, ht⟩ := h hj
  refine q_ix rfl (by omega) ?_
  show (D.str p.1 :: p.2)[1]? = some (.int (jt p))
  unfold jt
  rw [ht]
  rfl
theorem in_bh {w : Str} : dIn (.str w) (.tup [.str "back", .str "halt"]) = .ok (.bl (decide (w = "back" ∨ w = "halt"))) := by
  have : dIn (.str w) (.tup ([("back" : Str), "halt"].map D.str)) = _ := in_lstn _
  rw [List.map_cons, List.map_cons, List.map_nil] at this
  rw [this]
  congr 2
  simp
theorem in_bhl {w : Str} : dIn (.str w) (.lst [.str "back", .str "halt"]) = .ok (.bl (decide (w = "back" ∨ w = "halt"))) := in_bh
theorem fld_body {f : Fu} {i : Nat} {r : Sc} (h : mVar i r = .ok (insFu f)) : mFld ["Function"] "body" (mVar i) r = .ok (.tup (f.body.map deedD)) := by
  unfold mFld
  rw [h]
  rfl
theorem e_targets {f : Fu} {k : Nat} {p : Str × List D} (h : f.body[k]? = some p) (hj : JOk p) : m_targets [insFu f, .int (k : Int)] = .ok (.tup ((tgt p k).map D.int)) := by
  have s1 : (1 : Nat) ≤ sizeLine := by decide
  have s2 : (2 : Nat) ≤ sizeLine := by decide
  have s0 : (0 : Nat) ≤ sizeLine := by decide
  have fb := fld_body (f := f) (i := 0) (r := [some (.val (insFu f)), some (.val (.int (k : Int))), none]) rfl
  have da := deed_at h
  unfold m_targets
  refine def_of ?_
  rw [show mStart 3 [insFu f, .int (k : Int)] = [some (.val (insFu f)), some (.val (.int (k : Int))), none] from rfl]
  rw [seq_nx (r' := [some (.val (insFu f)), some (.val (.int (k : Int))), some (.val (deedD p))]) (by simp only [q_df, q_st, q_sq, q_at_nx, q_at_rt, q_at_bk, q_at_ct, q_at_ex, q_mi, q_sel_t, q_sel_f, q_out_rt, q_out_nx, q_out_ex, q_rb_ok, q_rb_bad, q_rb_exc, q_tf_ok, q_v0, q_vs, q_w0, q_w0o, q_ws, q_tbq, q_asb, q_nt, q_rsel_t, q_rsel_f, q_ta, q_to, q_va, q_vo, q_vn, q_sett, q_seto, q_bin, q_c, q_callb, q_cons, q_nil, q_tup, q_lst, q_celle, q_ret, q_nx, q_thl, q_thd, q_isi, q_neg, q_neg_i, q_callk, q_drop, q_retn, q_brk, q_cnt, q_ife, q_add_i, q_sub_i, q_lt_i, q_le_i, q_gt_i, q_ge_i, q_eq_i, q_ne_i, List.map_cons, List.map_nil, List.length_cons, List.length_nil, List.replicate, List.append_nil, List.nil_append, List.cons_append, Nat.reduceAdd, Nat.reduceSub, List.getElem?_cons_zero, List.getElem?_cons_succ, List.set_cons_zero, List.set_cons_succ, Bool.not_true, Bool.not_false, decide_true, decide_false, if_true, if_false, fb, da])]
  unfold tgt
  by_cases hb : p.1 = "back" ∨ p.1 = "halt"
  · rw [if_pos hb]
    refine seq_rt ?_
    simp only [q_df, q_st, q_sq, q_at_nx, q_at_rt, q_at_bk, q_at_ct, q_at_ex, q_mi, q_sel_t, q_sel_f, q_out_rt, q_out_nx, q_out_ex, q_rb_ok, q_rb_bad, q_rb_exc, q_tf_ok, q_v0, q_vs, q_w0, q_w0o, q_ws, q_tbq, q_asb, q_nt, q_rsel_t, q_rsel_f, q_ta, q_to, q_va, q_vo, q_vn, q_sett, q_seto, q_bin, q_c, q_callb, q_cons, q_nil, q_tup, q_lst, q_celle, q_ret, q_nx, q_thl, q_thd, q_isi, q_neg, q_neg_i, q_callk, q_drop, q_retn, q_brk, q_cnt, q_ife, q_add_i, q_sub_i, q_lt_i, q_le_i, q_gt_i, q_ge_i, q_eq_i, q_ne_i, List.map_cons, List.map_nil, List.length_cons, List.length_nil, List.replicate, List.append_nil, List.nil_append, List.cons_append, Nat.reduceAdd, Nat.reduceSub, List.getElem?_cons_zero, List.getElem?_cons_succ, List.set_cons_zero, List.set_cons_succ, Bool.not_true, Bool.not_false, decide_true, decide_false, if_true, if_false, deed_w, s2, s0, in_bh, decide_eq_true hb]
  · rw [if_neg hb]
    rw [seq_nx (r' := [some (.val (insFu f)), some (.val (.int (k : Int))), some (.val (deedD p))]) (by simp only [q_df, q_st, q_sq, q_at_nx, q_at_rt, q_at_bk, q_at_ct, q_at_ex, q_mi, q_sel_t, q_sel_f, q_out_rt, q_out_nx, q_out_ex, q_rb_ok, q_rb_bad, q_rb_exc, q_tf_ok, q_v0, q_vs, q_w0, q_w0o, q_ws, q_tbq, q_asb, q_nt, q_rsel_t, q_rsel_f, q_ta, q_to, q_va, q_vo, q_vn, q_sett, q_seto, q_bin, q_c, q_callb, q_cons, q_nil, q_tup, q_lst, q_celle, q_ret, q_nx, q_thl, q_thd, q_isi, q_neg, q_neg_i, q_callk, q_drop, q_retn, q_brk, q_cnt, q_ife, q_add_i, q_sub_i, q_lt_i, q_le_i, q_gt_i, q_ge_i, q_eq_i, q_ne_i, List.map_cons, List.map_nil, List.length_cons, List.length_nil, List.replicate, List.append_nil, List.nil_append, List.cons_append, Nat.reduceAdd, Nat.reduceSub, List.getElem?_cons_zero, List.getElem?_cons_succ, List.set_cons_zero, List.set_cons_succ, Bool.not_true, Bool.not_false, decide_true, decide_false, if_true, if_false, deed_w, s2, in_bh, decide_eq_false hb])]
    by_cases hq : p.1 = "jump"
    · rw [if_pos hq]
      have dj := deed_j hj (.inl hq)
      refine seq_rt ?_
      simp only [q_df, q_st, q_sq, q_at_nx, q_at_rt, q_at_bk, q_at_ct, q_at_ex, q_mi, q_sel_t, q_sel_f, q_out_rt, q_out_nx, q_out_ex, q_rb_ok, q_rb_bad, q_rb_exc, q_tf_ok, q_v0, q_vs, q_w0, q_w0o, q_ws, q_tbq, q_asb, q_nt, q_rsel_t, q_rsel_f, q_ta, q_to, q_va, q_vo, q_vn, q_sett, q_seto, q_bin, q_c, q_callb, q_cons, q_nil, q_tup, q_lst, q_celle, q_ret, q_nx, q_thl, q_thd, q_isi, q_neg, q_neg_i, q_callk, q_drop, q_retn, q_brk, q_cnt, q_ife, q_add_i, q_sub_i, q_lt_i, q_le_i, q_gt_i, q_ge_i, q_eq_i, q_ne_i, List.map_cons, List.map_nil, List.length_cons, List.length_nil, List.replicate, List.append_nil, List.nil_append, List.cons_append, Nat.reduceAdd, Nat.reduceSub, List.getElem?_cons_zero, List.getElem?_cons_succ, List.set_cons_zero, List.set_cons_succ, Bool.not_true, Bool.not_false, decide_true, decide_false, if_true, if_false, deed_w, q_eq_s, decide_eq_true hq, dj, s1]
    · rw [if_neg hq]
      rw [seq_nx (r' := [some (.val (insFu f)), some (.val (.int (k : Int))), some (.val (deedD p))]) (by simp only [q_df, q_st, q_sq, q_at_nx, q_at_rt, q_at_bk, q_at_ct, q_at_ex, q_mi, q_sel_t, q_sel_f, q_out_rt, q_out_nx, q_out_ex, q_rb_ok, q_rb_bad, q_rb_exc, q_tf_ok, q_v0, q_vs, q_w0, q_w0o, q_ws, q_tbq, q_asb, q_nt, q_rsel_t, q_rsel_f, q_ta, q_to, q_va, q_vo, q_vn, q_sett, q_seto, q_bin, q_c, q_callb, q_cons, q_nil, q_tup, q_lst, q_celle, q_ret, q_nx, q_thl, q_thd, q_isi, q_neg, q_neg_i, q_callk, q_drop, q_retn, q_brk, q_cnt, q_ife, q_add_i, q_sub_i, q_lt_i, q_le_i, q_gt_i, q_ge_i, q_eq_i, q_ne_i, List.map_cons, List.map_nil, List.length_cons, List.length_nil, List.replicate, List.append_nil, List.nil_append, List.cons_append, Nat.reduceAdd, Nat.reduceSub, List.getElem?_cons_zero, List.getElem?_cons_succ, List.set_cons_zero, List.set_cons_succ, Bool.not_true, Bool.not_false, decide_true, decide_false, if_true, if_false, deed_w, q_eq_s, decide_eq_false hq])]
      by_cases hw : p.1 = "when"
      · have dj := deed_j hj (.inr hw)
        by_cases ht : jt p = (k : Int) + 1
        · rw [if_neg (fun z => z.2 ht)]
          rw [seq_nx (r' := [some (.val (insFu f)), some (.val (.int (k : Int))), some (.val (deedD p))]) (by simp only [q_df, q_st, q_sq, q_at_nx, q_at_rt, q_at_bk, q_at_ct, q_at_ex, q_mi, q_sel_t, q_sel_f, q_out_rt, q_out_nx, q_out_ex, q_rb_ok, q_rb_bad, q_rb_exc, q_tf_ok, q_v0, q_vs, q_w0, q_w0o, q_ws, q_tbq, q_asb, q_nt, q_rsel_t, q_rsel_f, q_ta, q_to, q_va, q_vo, q_vn, q_sett, q_seto, q_bin, q_c, q_callb, q_cons, q_nil, q_tup, q_lst, q_celle, q_ret, q_nx, q_thl, q_thd, q_isi, q_neg, q_neg_i, q_callk, q_drop, q_retn, q_brk, q_cnt, q_ife, q_add_i, q_sub_i, q_lt_i, q_le_i, q_gt_i, q_ge_i, q_eq_i, q_ne_i, List.map_cons, List.map_nil, List.length_cons, List.length_nil, List.replicate, List.append_nil, List.nil_append, List.cons_append, Nat.reduceAdd, Nat.reduceSub, List.getElem?_cons_zero, List.getElem?_cons_succ, List.set_cons_zero, List.set_cons_succ, Bool.not_true, Bool.not_false, decide_true, decide_false, if_true, if_false, deed_w, q_eq_s, decide_eq_true hw, dj, decide_eq_true ht])]
          simp only [q_df, q_st, q_sq, q_at_nx, q_at_rt, q_at_bk, q_at_ct, q_at_ex, q_mi, q_sel_t, q_sel_f, q_out_rt, q_out_nx, q_out_ex, q_rb_ok, q_rb_bad, q_rb_exc, q_tf_ok, q_v0, q_vs, q_w0, q_w0o, q_ws, q_tbq, q_asb, q_nt, q_rsel_t, q_rsel_f, q_ta, q_to, q_va, q_vo, q_vn, q_sett, q_seto, q_bin, q_c, q_callb, q_cons, q_nil, q_tup, q_lst, q_celle, q_ret, q_nx, q_thl, q_thd, q_isi, q_neg, q_neg_i, q_callk, q_drop, q_retn, q_brk, q_cnt, q_ife, q_add_i, q_sub_i, q_lt_i, q_le_i, q_gt_i, q_ge_i, q_eq_i, q_ne_i, List.map_cons, List.map_nil, List.length_cons, List.length_nil, List.replicate, List.append_nil, List.nil_append, List.cons_append, Nat.reduceAdd, Nat.reduceSub, List.getElem?_cons_zero, List.getElem?_cons_succ, List.set_cons_zero, List.set_cons_succ, Bool.not_true, Bool.not_false, decide_true, decide_false, if_true, if_false, s1]
        · rw [if_pos ⟨hw, ht⟩]
          refine seq_rt ?_
          simp only [q_df, q_st, q_sq, q_at_nx, q_at_rt, q_at_bk, q_at_ct, q_at_ex, q_mi, q_sel_t, q_sel_f, q_out_rt, q_out_nx, q_out_ex, q_rb_ok, q_rb_bad, q_rb_exc, q_tf_ok, q_v0, q_vs, q_w0, q_w0o, q_ws, q_tbq, q_asb, q_nt, q_rsel_t, q_rsel_f, q_ta, q_to, q_va, q_vo, q_vn, q_sett, q_seto, q_bin, q_c, q_callb, q_cons, q_nil, q_tup, q_lst, q_celle, q_ret, q_nx, q_thl, q_thd, q_isi, q_neg, q_neg_i, q_callk, q_drop, q_retn, q_brk, q_cnt, q_ife, q_add_i, q_sub_i, q_lt_i, q_le_i, q_gt_i, q_ge_i, q_eq_i, q_ne_i, List.map_cons, List.map_nil, List.length_cons, List.length_nil, List.replicate, List.append_nil, List.nil_append, List.cons_append, Nat.reduceAdd, Nat.reduceSub, List.getElem?_cons_zero, List.getElem?_cons_succ, List.set_cons_zero, List.set_cons_succ, Bool.not_true, Bool.not_false, decide_true, decide_false, if_true, if_false, deed_w, q_eq_s, decide_eq_true hw, dj, decide_eq_false ht, s2]
      · rw [if_neg (fun z => hw z.1)]
        rw [seq_nx (r' := [some (.val (insFu f)), some (.val (.int (k : Int))), some (.val (deedD p))]) (by simp only [q_df, q_st, q_sq, q_at_nx, q_at_rt, q_at_bk, q_at_ct, q_at_ex, q_mi, q_sel_t, q_sel_f, q_out_rt, q_out_nx, q_out_ex, q_rb_ok, q_rb_bad, q_rb_exc, q_tf_ok, q_v0, q_vs, q_w0, q_w0o, q_ws, q_tbq, q_asb, q_nt, q_rsel_t, q_rsel_f, q_ta, q_to, q_va, q_vo, q_vn, q_sett, q_seto, q_bin, q_c, q_callb, q_cons, q_nil, q_tup, q_lst, q_celle, q_ret, q_nx, q_thl, q_thd, q_isi, q_neg, q_neg_i, q_callk, q_drop, q_retn, q_brk, q_cnt, q_ife, q_add_i, q_sub_i, q_lt_i, q_le_i, q_gt_i, q_ge_i, q_eq_i, q_ne_i, List.map_cons, List.map_nil, List.length_cons, List.length_nil, List.replicate, List.append_nil, List.nil_append, List.cons_append, Nat.reduceAdd, Nat.reduceSub, List.getElem?_cons_zero, List.getElem?_cons_succ, List.set_cons_zero, List.set_cons_succ, Bool.not_true, Bool.not_false, decide_true, decide_false, if_true, if_false, deed_w, q_eq_s, decide_eq_false hw])]
        simp only [q_df, q_st, q_sq, q_at_nx, q_at_rt, q_at_bk, q_at_ct, q_at_ex, q_mi, q_sel_t, q_sel_f, q_out_rt, q_out_nx, q_out_ex, q_rb_ok, q_rb_bad, q_rb_exc, q_tf_ok, q_v0, q_vs, q_w0, q_w0o, q_ws, q_tbq, q_asb, q_nt, q_rsel_t, q_rsel_f, q_ta, q_to, q_va, q_vo, q_vn, q_sett, q_seto, q_bin, q_c, q_callb, q_cons, q_nil, q_tup, q_lst, q_celle, q_ret, q_nx, q_thl, q_thd, q_isi, q_neg, q_neg_i, q_callk, q_drop, q_retn, q_brk, q_cnt, q_ife, q_add_i, q_sub_i, q_lt_i, q_le_i, q_gt_i, q_ge_i, q_eq_i, q_ne_i, List.map_cons, List.map_nil, List.length_cons, List.length_nil, List.replicate, List.append_nil, List.nil_append, List.cons_append, Nat.reduceAdd, Nat.reduceSub, List.getElem?_cons_zero, List.getElem?_cons_succ, List.set_cons_zero, List.set_cons_succ, Bool.not_true, Bool.not_false, decide_true, decide_false, if_true, if_false, s1]
theorem e_ahead {f : Fu} {k : Nat} {p : Str × List D} (h : f.body[k]? = some p) (hj : JOk p) : m_law_ahead [.tup (f.body.map deedD), .int (k : Int)] = .ok (.lst ((tgt p k).map D.int)) := by
  have s1 : (1 : Nat) ≤ sizeLine := by decide
  have s2 : (2 : Nat) ≤ sizeLine := by decide
  have s0 : (0 : Nat) ≤ sizeLine := by decide
  have da := deed_at h
  generalize D.tup (f.body.map deedD) = B at *
  unfold m_law_ahead
  refine def_of ?_
  rw [show mStart 3 [B, .int (k : Int)] = [some (.val B), some (.val (.int (k : Int))), none] from rfl]
  rw [seq_nx (r' := [some (.val B), some (.val (.int (k : Int))), some (.val (.str p.1))]) (by simp only [q_df, q_st, q_sq, q_at_nx, q_at_rt, q_at_bk, q_at_ct, q_at_ex, q_mi, q_sel_t, q_sel_f, q_out_rt, q_out_nx, q_out_ex, q_rb_ok, q_rb_bad, q_rb_exc, q_tf_ok, q_v0, q_vs, q_w0, q_w0o, q_ws, q_tbq, q_asb, q_nt, q_rsel_t, q_rsel_f, q_ta, q_to, q_va, q_vo, q_vn, q_sett, q_seto, q_bin, q_c, q_callb, q_cons, q_nil, q_tup, q_lst, q_celle, q_ret, q_nx, q_thl, q_thd, q_isi, q_neg, q_neg_i, q_callk, q_drop, q_retn, q_brk, q_cnt, q_ife, q_add_i, q_sub_i, q_lt_i, q_le_i, q_gt_i, q_ge_i, q_eq_i, q_ne_i, List.map_cons, List.map_nil, List.length_cons, List.length_nil, List.replicate, List.append_nil, List.nil_append, List.cons_append, Nat.reduceAdd, Nat.reduceSub, List.getElem?_cons_zero, List.getElem?_cons_succ, List.set_cons_zero, List.set_cons_succ, Bool.not_true, Bool.not_false, decide_true, decide_false, if_true, if_false, da, deed_w])]
  unfold tgt
  by_cases hb : p.1 = "back" ∨ p.1 = "halt"
  · rw [if_pos hb]
    refine seq_rt ?_
    simp only [q_df, q_st, q_sq, q_at_nx, q_at_rt, q_at_bk, q_at_ct, q_at_ex, q_mi, q_sel_t, q_sel_f, q_out_rt, q_out_nx, q_out_ex, q_rb_ok, q_rb_bad, q_rb_exc, q_tf_ok, q_v0, q_vs, q_w0, q_w0o, q_ws, q_tbq, q_asb, q_nt, q_rsel_t, q_rsel_f, q_ta, q_to, q_va, q_vo, q_vn, q_sett, q_seto, q_bin, q_c, q_callb, q_cons, q_nil, q_tup, q_lst, q_celle, q_ret, q_nx, q_thl, q_thd, q_isi, q_neg, q_neg_i, q_callk, q_drop, q_retn, q_brk, q_cnt, q_ife, q_add_i, q_sub_i, q_lt_i, q_le_i, q_gt_i, q_ge_i, q_eq_i, q_ne_i, List.map_cons, List.map_nil, List.length_cons, List.length_nil, List.replicate, List.append_nil, List.nil_append, List.cons_append, Nat.reduceAdd, Nat.reduceSub, List.getElem?_cons_zero, List.getElem?_cons_succ, List.set_cons_zero, List.set_cons_succ, Bool.not_true, Bool.not_false, decide_true, decide_false, if_true, if_false, s2, s0, in_bhl, decide_eq_true hb]
  · rw [if_neg hb]
    rw [seq_nx (r' := [some (.val B), some (.val (.int (k : Int))), some (.val (.str p.1))]) (by simp only [q_df, q_st, q_sq, q_at_nx, q_at_rt, q_at_bk, q_at_ct, q_at_ex, q_mi, q_sel_t, q_sel_f, q_out_rt, q_out_nx, q_out_ex, q_rb_ok, q_rb_bad, q_rb_exc, q_tf_ok, q_v0, q_vs, q_w0, q_w0o, q_ws, q_tbq, q_asb, q_nt, q_rsel_t, q_rsel_f, q_ta, q_to, q_va, q_vo, q_vn, q_sett, q_seto, q_bin, q_c, q_callb, q_cons, q_nil, q_tup, q_lst, q_celle, q_ret, q_nx, q_thl, q_thd, q_isi, q_neg, q_neg_i, q_callk, q_drop, q_retn, q_brk, q_cnt, q_ife, q_add_i, q_sub_i, q_lt_i, q_le_i, q_gt_i, q_ge_i, q_eq_i, q_ne_i, List.map_cons, List.map_nil, List.length_cons, List.length_nil, List.replicate, List.append_nil, List.nil_append, List.cons_append, Nat.reduceAdd, Nat.reduceSub, List.getElem?_cons_zero, List.getElem?_cons_succ, List.set_cons_zero, List.set_cons_succ, Bool.not_true, Bool.not_false, decide_true, decide_false, if_true, if_false, s2, in_bhl, decide_eq_false hb])]
    by_cases hq : p.1 = "jump"
    · rw [if_pos hq]
      have dj := deed_j hj (.inl hq)
      refine seq_rt ?_
      simp only [q_df, q_st, q_sq, q_at_nx, q_at_rt, q_at_bk, q_at_ct, q_at_ex, q_mi, q_sel_t, q_sel_f, q_out_rt, q_out_nx, q_out_ex, q_rb_ok, q_rb_bad, q_rb_exc, q_tf_ok, q_v0, q_vs, q_w0, q_w0o, q_ws, q_tbq, q_asb, q_nt, q_rsel_t, q_rsel_f, q_ta, q_to, q_va, q_vo, q_vn, q_sett, q_seto, q_bin, q_c, q_callb, q_cons, q_nil, q_tup, q_lst, q_celle, q_ret, q_nx, q_thl, q_thd, q_isi, q_neg, q_neg_i, q_callk, q_drop, q_retn, q_brk, q_cnt, q_ife, q_add_i, q_sub_i, q_lt_i, q_le_i, q_gt_i, q_ge_i, q_eq_i, q_ne_i, List.map_cons, List.map_nil, List.length_cons, List.length_nil, List.replicate, List.append_nil, List.nil_append, List.cons_append, Nat.reduceAdd, Nat.reduceSub, List.getElem?_cons_zero, List.getElem?_cons_succ, List.set_cons_zero, List.set_cons_succ, Bool.not_true, Bool.not_false, decide_true, decide_false, if_true, if_false, q_eq_s, decide_eq_true hq, da, dj, s1]
    · rw [if_neg hq]
      rw [seq_nx (r' := [some (.val B), some (.val (.int (k : Int))), some (.val (.str p.1))]) (by simp only [q_df, q_st, q_sq, q_at_nx, q_at_rt, q_at_bk, q_at_ct, q_at_ex, q_mi, q_sel_t, q_sel_f, q_out_rt, q_out_nx, q_out_ex, q_rb_ok, q_rb_bad, q_rb_exc, q_tf_ok, q_v0, q_vs, q_w0, q_w0o, q_ws, q_tbq, q_asb, q_nt, q_rsel_t, q_rsel_f, q_ta, q_to, q_va, q_vo, q_vn, q_sett, q_seto, q_bin, q_c, q_callb, q_cons, q_nil, q_tup, q_lst, q_celle, q_ret, q_nx, q_thl, q_thd, q_isi, q_neg, q_neg_i, q_callk, q_drop, q_retn, q_brk, q_cnt, q_ife, q_add_i, q_sub_i, q_lt_i, q_le_i, q_gt_i, q_ge_i, q_eq_i, q_ne_i, List.map_cons, List.map_nil, List.length_cons, List.length_nil, List.replicate, List.append_nil, List.nil_append, List.cons_append, Nat.reduceAdd, Nat.reduceSub, List.getElem?_cons_zero, List.getElem?_cons_succ, List.set_cons_zero, List.set_cons_succ, Bool.not_true, Bool.not_false, decide_true, decide_false, if_true, if_false, q_eq_s, decide_eq_false hq])]
      by_cases hw : p.1 = "when"
      · have dj := deed_j hj (.inr hw)
        by_cases ht : jt p = (k : Int) + 1
        · rw [if_neg (fun z => z.2 ht)]
          rw [seq_nx (r' := [some (.val B), some (.val (.int (k : Int))), some (.val (.str p.1))]) (by simp only [q_df, q_st, q_sq, q_at_nx, q_at_rt, q_at_bk, q_at_ct, q_at_ex, q_mi, q_sel_t, q_sel_f, q_out_rt, q_out_nx, q_out_ex, q_rb_ok, q_rb_bad, q_rb_exc, q_tf_ok, q_v0, q_vs, q_w0, q_w0o, q_ws, q_tbq, q_asb, q_nt, q_rsel_t, q_rsel_f, q_ta, q_to, q_va, q_vo, q_vn, q_sett, q_seto, q_bin, q_c, q_callb, q_cons, q_nil, q_tup, q_lst, q_celle, q_ret, q_nx, q_thl, q_thd, q_isi, q_neg, q_neg_i, q_callk, q_drop, q_retn, q_brk, q_cnt, q_ife, q_add_i, q_sub_i, q_lt_i, q_le_i, q_gt_i, q_ge_i, q_eq_i, q_ne_i, List.map_cons, List.map_nil, List.length_cons, List.length_nil, List.replicate, List.append_nil, List.nil_append, List.cons_append, Nat.reduceAdd, Nat.reduceSub, List.getElem?_cons_zero, List.getElem?_cons_succ, List.set_cons_zero, List.set_cons_succ, Bool.not_true, Bool.not_false, decide_true, decide_false, if_true, if_false, q_eq_s, decide_eq_true hw, da, dj, decide_eq_true ht])]
          simp only [q_df, q_st, q_sq, q_at_nx, q_at_rt, q_at_bk, q_at_ct, q_at_ex, q_mi, q_sel_t, q_sel_f, q_out_rt, q_out_nx, q_out_ex, q_rb_ok, q_rb_bad, q_rb_exc, q_tf_ok, q_v0, q_vs, q_w0, q_w0o, q_ws, q_tbq, q_asb, q_nt, q_rsel_t, q_rsel_f, q_ta, q_to, q_va, q_vo, q_vn, q_sett, q_seto, q_bin, q_c, q_callb, q_cons, q_nil, q_tup, q_lst, q_celle, q_ret, q_nx, q_thl, q_thd, q_isi, q_neg, q_neg_i, q_callk, q_drop, q_retn, q_brk, q_cnt, q_ife, q_add_i, q_sub_i, q_lt_i, q_le_i, q_gt_i, q_ge_i, q_eq_i, q_ne_i, List.map_cons, List.map_nil, List.length_cons, List.length_nil, List.replicate, List.append_nil, List.nil_append, List.cons_append, Nat.reduceAdd, Nat.reduceSub, List.getElem?_cons_zero, List.getElem?_cons_succ, List.set_cons_zero, List.set_cons_succ, Bool.not_true, Bool.not_false, decide_true, decide_false, if_true, if_false, s1]
        · rw [if_pos ⟨hw, ht⟩]
          refine seq_rt ?_
          simp only [q_df, q_st, q_sq, q_at_nx, q_at_rt, q_at_bk, q_at_ct, q_at_ex, q_mi, q_sel_t, q_sel_f, q_out_rt, q_out_nx, q_out_ex, q_rb_ok, q_rb_bad, q_rb_exc, q_tf_ok, q_v0, q_vs, q_w0, q_w0o, q_ws, q_tbq, q_asb, q_nt, q_rsel_t, q_rsel_f, q_ta, q_to, q_va, q_vo, q_vn, q_sett, q_seto, q_bin, q_c, q_callb, q_cons, q_nil, q_tup, q_lst, q_celle, q_ret, q_nx, q_thl, q_thd, q_isi, q_neg, q_neg_i, q_callk, q_drop, q_retn, q_brk, q_cnt, q_ife, q_add_i, q_sub_i, q_lt_i, q_le_i, q_gt_i, q_ge_i, q_eq_i, q_ne_i, List.map_cons, List.map_nil, List.length_cons, List.length_nil, List.replicate, List.append_nil, List.nil_append, List.cons_append, Nat.reduceAdd, Nat.reduceSub, List.getElem?_cons_zero, List.getElem?_cons_succ, List.set_cons_zero, List.set_cons_succ, Bool.not_true, Bool.not_false, decide_true, decide_false, if_true, if_false, q_eq_s, decide_eq_true hw, da, dj, decide_eq_false ht, s2]
      · rw [if_neg (fun z => hw z.1)]
        rw [seq_nx (r' := [some (.val B), some (.val (.int (k : Int))), some (.val (.str p.1))]) (by simp only [q_df, q_st, q_sq, q_at_nx, q_at_rt, q_at_bk, q_at_ct, q_at_ex, q_mi, q_sel_t, q_sel_f, q_out_rt, q_out_nx, q_out_ex, q_rb_ok, q_rb_bad, q_rb_exc, q_tf_ok, q_v0, q_vs, q_w0, q_w0o, q_ws, q_tbq, q_asb, q_nt, q_rsel_t, q_rsel_f, q_ta, q_to, q_va, q_vo, q_vn, q_sett, q_seto, q_bin, q_c, q_callb, q_cons, q_nil, q_tup, q_lst, q_celle, q_ret, q_nx, q_thl, q_thd, q_isi, q_neg, q_neg_i, q_callk, q_drop, q_retn, q_brk, q_cnt, q_ife, q_add_i, q_sub_i, q_lt_i, q_le_i, q_gt_i, q_ge_i, q_eq_i, q_ne_i, List.map_cons, List.map_nil, List.length_cons, List.length_nil, List.replicate, List.append_nil, List.nil_append, List.cons_append, Nat.reduceAdd, Nat.reduceSub, List.getElem?_cons_zero, List.getElem?_cons_succ, List.set_cons_zero, List.set_cons_succ, Bool.not_true, Bool.not_false, decide_true, decide_false, if_true, if_false, q_eq_s, decide_eq_false hw])]
        simp only [q_df, q_st, q_sq, q_at_nx, q_at_rt, q_at_bk, q_at_ct, q_at_ex, q_mi, q_sel_t, q_sel_f, q_out_rt, q_out_nx, q_out_ex, q_rb_ok, q_rb_bad, q_rb_exc, q_tf_ok, q_v0, q_vs, q_w0, q_w0o, q_ws, q_tbq, q_asb, q_nt, q_rsel_t, q_rsel_f, q_ta, q_to, q_va, q_vo, q_vn, q_sett, q_seto, q_bin, q_c, q_callb, q_cons, q_nil, q_tup, q_lst, q_celle, q_ret, q_nx, q_thl, q_thd, q_isi, q_neg, q_neg_i, q_callk, q_drop, q_retn, q_brk, q_cnt, q_ife, q_add_i, q_sub_i, q_lt_i, q_le_i, q_gt_i, q_ge_i, q_eq_i, q_ne_i, List.map_cons, List.map_nil, List.length_cons, List.length_nil, List.replicate, List.append_nil, List.nil_append, List.cons_append, Nat.reduceAdd, Nat.reduceSub, List.getElem?_cons_zero, List.getElem?_cons_succ, List.set_cons_zero, List.set_cons_succ, Bool.not_true, Bool.not_false, decide_true, decide_false, if_true, if_false, s1]
theorem flats_ints : ∀ xs : List Int, flatsD (xs.map D.int) = some (xs.map L2.V.int)
  | [] => rfl
  | x :: xs => by
    show (match flatD (.int x), flatsD (xs.map D.int) with | some w, some ws => some (w :: ws) | _, _ => none) = _
    rw [flats_ints xs]
    rfl
theorem eqV_i {a b : Int} : L2.eqV (.int a) (.int b) = decide (a = b) := by
  by_cases h : a = b
  · subst h; simp [L2.eqV]
  · simp [L2.eqV, h]
theorem in_intsV {s : Int} (xs : List Int) : L2.inV (.int s) (xs.map L2.V.int) = decide (s ∈ xs) := by
  unfold L2.inV
  rw [List.any_map]
  induction xs with
  | nil => rfl
  | cons x xs ih =>
    rw [List.any_cons, ih]
    show (L2.eqV (.int x) (.int s) || _) = _
    rw [eqV_i]
    by_cases h : x = s
    · subst h; simp
    · simp [h, Ne.symm h]
theorem in_ints {s : Int} (xs : List Int) : dIn (.int s) (.lst (xs.map D.int)) = .ok (.bl (decide (s ∈ xs))) ∧ dIn (.int s) (.tup (xs.map D.int)) = .ok (.bl (decide (s ∈ xs))) := by
  constructor <;>
  · unfold dIn dInB
    simp only [flatD, seqD, flats_ints, R.bind, in_intsV]
theorem e_runs {f : Fu} {k : Nat} {p : Str × List D} (h : f.body[k]? = some p) (hj : JOk p) : m_runs_off [insFu f, .int (k : Int)] = .ok (.bl (decide ((f.body.length : Int) ∈ tgt p k))) := by
  have fb := fld_body (f := f) (i := 0) (r := [some (.val (insFu f)), some (.val (.int (k : Int)))]) rfl
  have w := e_targets h hj
  simp only [m_runs_off, q_df, q_st, q_sq, q_at_nx, q_at_rt, q_at_bk, q_at_ct, q_at_ex, q_mi, q_sel_t, q_sel_f, q_out_rt, q_out_nx, q_out_ex, q_rb_ok, q_rb_bad, q_rb_exc, q_tf_ok, q_v0, q_vs, q_w0, q_w0o, q_ws, q_tbq, q_asb, q_nt, q_rsel_t, q_rsel_f, q_ta, q_to, q_va, q_vo, q_vn, q_sett, q_seto, q_bin, q_c, q_callb, q_cons, q_nil, q_tup, q_lst, q_celle, q_ret, q_nx, q_thl, q_thd, q_isi, q_neg, q_neg_i, q_callk, q_drop, q_retn, q_brk, q_cnt, q_ife, q_add_i, q_sub_i, q_lt_i, q_le_i, q_gt_i, q_ge_i, q_eq_i, q_ne_i, List.map_cons, List.map_nil, List.length_cons, List.length_nil, List.replicate, List.append_nil, List.nil_append, List.cons_append, Nat.reduceAdd, Nat.reduceSub, List.getElem?_cons_zero, List.getElem?_cons_succ, List.set_cons_zero, List.set_cons_succ, Bool.not_true, Bool.not_false, decide_true, decide_false, if_true, if_false, fb, w, q_len_t, List.length_map, (in_ints _).2]
theorem lc_filter {vs : List Nat} {mi : MA} {tb : D → Sc → Option Sc} {mt : MT} {me : ME} {r : Sc} {xs : List Int} (c : Int → Bool) (h0 : notOwn r vs = true) (h1 : mi r = .ok (xs.map D.int)) (hl : xs.length < 1000000) (h2 : ∀ z : Int, ∃ r1, tb (.int z) (wipeS r vs) = some r1 ∧ mt r1 = .ok (c z) ∧ me r1 = .ok (.int z)) : mLC vs mi tb mt me r = .ok (.l ((xs.filter c).map D.int)) := by
  unfold mLC
  rw [h0, h1]
  show compL tb mt me (wipeS r vs) (xs.map D.int) [] = _
  have key : ∀ (xs ac : List Int), xs.length + ac.length < 1000000 → compL tb mt me (wipeS r vs) (xs.map D.int) (ac.map D.int) = .ok (.l ((ac ++ xs.filter c).map D.int)) := by
    intro xs
    induction xs with
    | nil =>
      intro ac _
      simp [compL]
    | cons x xs ih =>
      intro ac hh
      obtain ⟨r1, g1, g2, g3⟩ := h2 x
      rw [List.length_cons] at hh
      have hs : (ac.map D.int).length < sizeLine := Nat.lt_of_lt_of_le (by rw [List.length_map]; omega) sizeLine_big
      simp only [List.map_cons, compL, g1, g2, R.ne, q_rb_ok]
      cases ec : c x with
      | true =>
        simp only [g3, R.ne, q_rb_ok, if_pos hs]
        have := ih (ac ++ [x]) (by rw [List.length_append]; simp; omega)
        rw [List.map_append, List.map_cons, List.map_nil] at this
        rw [this]
        simp [ec]
      | false =>
        rw [ih ac (by omega)]
        simp [ec]
  have := key xs [] (by simpa using hl)
  simpa using this
theorem tgt_len (p : Str × List D) (k : Int) : (tgt p k).length ≤ 2 := by
  unfold tgt
  split
  · simp
  · split
    · simp
    · split <;> simp
theorem e_succ {f : Fu} {k : Nat} {p : Str × List D} (h : f.body[k]? = some p) (hj : JOk p) : m_successors [insFu f, .int (k : Int)] = .ok (.tup (((tgt p k).filter fun z => decide (z < (f.body.length : Int))).map D.int)) := by
  have w := e_targets h hj
  have tl := tgt_len p k
  have lc : mLC [2] (mItems (mCallB m_targets (mCons (mVar 0) (mCons (mVar 1) mNil)))) (bName 2) (mTB (mBin dLt (mVar 2) (mCallB dLen (mCons (mFld ["Function"] "body" (mVar 0)) mNil)))) e_successors_1 [some (.val (insFu f)), some (.val (.int (k : Int))), none] = .ok (.l (((tgt p k).filter fun z => decide (z < (f.body.length : Int))).map D.int)) := lc_filter _ rfl (by simp only [q_df, q_st, q_sq, q_at_nx, q_at_rt, q_at_bk, q_at_ct, q_at_ex, q_mi, q_sel_t, q_sel_f, q_out_rt, q_out_nx, q_out_ex, q_rb_ok, q_rb_bad, q_rb_exc, q_tf_ok, q_v0, q_vs, q_w0, q_w0o, q_ws, q_tbq, q_asb, q_nt, q_rsel_t, q_rsel_f, q_ta, q_to, q_va, q_vo, q_vn, q_sett, q_seto, q_bin, q_c, q_callb, q_cons, q_nil, q_tup, q_lst, q_celle, q_ret, q_nx, q_thl, q_thd, q_isi, q_neg, q_neg_i, q_callk, q_drop, q_retn, q_brk, q_cnt, q_ife, q_add_i, q_sub_i, q_lt_i, q_le_i, q_gt_i, q_ge_i, q_eq_i, q_ne_i, List.map_cons, List.map_nil, List.length_cons, List.length_nil, List.replicate, List.append_nil, List.nil_append, List.cons_append, Nat.reduceAdd, Nat.reduceSub, List.getElem?_cons_zero, List.getElem?_cons_succ, List.set_cons_zero, List.set_cons_succ, Bool.not_true, Bool.not_false, decide_true, decide_false, if_true, if_false, q_it, w, q_items_t]) (by omega) (fun z => ⟨_, rfl, by
    have fb := fld_body (f := f) (i := 0) (r := [some (.val (insFu f)), some (.val (.int (k : Int))), some (.val (.int z))]) rfl
    show mTB (mBin dLt (mVar 2) (mCallB dLen (mCons (mFld ["Function"] "body" (mVar 0)) mNil))) [some (.val (insFu f)), some (.val (.int (k : Int))), some (.val (.int z))] = _
    simp only [q_df, q_st, q_sq, q_at_nx, q_at_rt, q_at_bk, q_at_ct, q_at_ex, q_mi, q_sel_t, q_sel_f, q_out_rt, q_out_nx, q_out_ex, q_rb_ok, q_rb_bad, q_rb_exc, q_tf_ok, q_v0, q_vs, q_w0, q_w0o, q_ws, q_tbq, q_asb, q_nt, q_rsel_t, q_rsel_f, q_ta, q_to, q_va, q_vo, q_vn, q_sett, q_seto, q_bin, q_c, q_callb, q_cons, q_nil, q_tup, q_lst, q_celle, q_ret, q_nx, q_thl, q_thd, q_isi, q_neg, q_neg_i, q_callk, q_drop, q_retn, q_brk, q_cnt, q_ife, q_add_i, q_sub_i, q_lt_i, q_le_i, q_gt_i, q_ge_i, q_eq_i, q_ne_i, List.map_cons, List.map_nil, List.length_cons, List.length_nil, List.replicate, List.append_nil, List.nil_append, List.cons_append, Nat.reduceAdd, Nat.reduceSub, List.getElem?_cons_zero, List.getElem?_cons_succ, List.set_cons_zero, List.set_cons_succ, Bool.not_true, Bool.not_false, decide_true, decide_false, if_true, if_false, fb, q_len_t, List.length_map], by
    show e_successors_1 [some (.val (insFu f)), some (.val (.int (k : Int))), some (.val (.int z))] = _
    simp only [e_successors_1, q_df, q_st, q_sq, q_at_nx, q_at_rt, q_at_bk, q_at_ct, q_at_ex, q_mi, q_sel_t, q_sel_f, q_out_rt, q_out_nx, q_out_ex, q_rb_ok, q_rb_bad, q_rb_exc, q_tf_ok, q_v0, q_vs, q_w0, q_w0o, q_ws, q_tbq, q_asb, q_nt, q_rsel_t, q_rsel_f, q_ta, q_to, q_va, q_vo, q_vn, q_sett, q_seto, q_bin, q_c, q_callb, q_cons, q_nil, q_tup, q_lst, q_celle, q_ret, q_nx, q_thl, q_thd, q_isi, q_neg, q_neg_i, q_callk, q_drop, q_retn, q_brk, q_cnt, q_ife, q_add_i, q_sub_i, q_lt_i, q_le_i, q_gt_i, q_ge_i, q_eq_i, q_ne_i, List.map_cons, List.map_nil, List.length_cons, List.length_nil, List.replicate, List.append_nil, List.nil_append, List.cons_append, Nat.reduceAdd, Nat.reduceSub, List.getElem?_cons_zero, List.getElem?_cons_succ, List.set_cons_zero, List.set_cons_succ, Bool.not_true, Bool.not_false, decide_true, decide_false, if_true, if_false]⟩)
  simp only [m_successors, q_df, q_st, q_sq, q_at_nx, q_at_rt, q_at_bk, q_at_ct, q_at_ex, q_mi, q_sel_t, q_sel_f, q_out_rt, q_out_nx, q_out_ex, q_rb_ok, q_rb_bad, q_rb_exc, q_tf_ok, q_v0, q_vs, q_w0, q_w0o, q_ws, q_tbq, q_asb, q_nt, q_rsel_t, q_rsel_f, q_ta, q_to, q_va, q_vo, q_vn, q_sett, q_seto, q_bin, q_c, q_callb, q_cons, q_nil, q_tup, q_lst, q_celle, q_ret, q_nx, q_thl, q_thd, q_isi, q_neg, q_neg_i, q_callk, q_drop, q_retn, q_brk, q_cnt, q_ife, q_add_i, q_sub_i, q_lt_i, q_le_i, q_gt_i, q_ge_i, q_eq_i, q_ne_i, List.map_cons, List.map_nil, List.length_cons, List.length_nil, List.replicate, List.append_nil, List.nil_append, List.cons_append, Nat.reduceAdd, Nat.reduceSub, List.getElem?_cons_zero, List.getElem?_cons_succ, List.set_cons_zero, List.set_cons_succ, Bool.not_true, Bool.not_false, decide_true, decide_false, if_true, if_false, lc, q_tupof_l]
theorem e_whole (n : Int) : m_law_whole [.int n] = .ok (.bl true) := rfl
theorem e_same (xs : List Int) (hl : xs.length < 1000) : m_law_same_places [.tup (xs.map D.int), .lst (xs.map D.int)] = .ok (.bl true) := by
  obtain ⟨r2, e2, y, hr⟩ := for_inv (i := 2) (body := b_law_same_places_1) (fun j r => ∃ y, r = [some (.val (.tup (xs.map D.int))), some (.val (.lst (xs.map D.int))), y]) (ds := rgD 0 xs.length) (r := [some (.val (.tup (xs.map D.int))), some (.val (.lst (xs.map D.int))), none]) ⟨_, rfl⟩ (fun j d r hd ⟨y, hr⟩ => by
    subst hr
    obtain ⟨hj, rfl⟩ := rgD_get hd
    rw [show (0 : Int) + (j : Int) = (j : Int) by omega]
    have i1 : dIx (.tup (xs.map D.int)) (.int (j : Int)) = .ok (.int xs[j]) := q_ix rfl (by omega) (by rw [Int.toNat_natCast, List.getElem?_map, List.getElem?_eq_getElem hj]; rfl)
    have i2 : dIx (.lst (xs.map D.int)) (.int (j : Int)) = .ok (.int xs[j]) := q_ix rfl (by omega) (by rw [Int.toNat_natCast, List.getElem?_map, List.getElem?_eq_getElem hj]; rfl)
    refine ⟨_, ?_, some (.val (.int (j : Int))), rfl⟩
    simp only [b_law_same_places_1, q_df, q_st, q_sq, q_at_nx, q_at_rt, q_at_bk, q_at_ct, q_at_ex, q_mi, q_sel_t, q_sel_f, q_out_rt, q_out_nx, q_out_ex, q_rb_ok, q_rb_bad, q_rb_exc, q_tf_ok, q_v0, q_vs, q_w0, q_w0o, q_ws, q_tbq, q_asb, q_nt, q_rsel_t, q_rsel_f, q_ta, q_to, q_va, q_vo, q_vn, q_sett, q_seto, q_bin, q_c, q_callb, q_cons, q_nil, q_tup, q_lst, q_celle, q_ret, q_nx, q_thl, q_thd, q_isi, q_neg, q_neg_i, q_callk, q_drop, q_retn, q_brk, q_cnt, q_ife, q_add_i, q_sub_i, q_lt_i, q_le_i, q_gt_i, q_ge_i, q_eq_i, q_ne_i, List.map_cons, List.map_nil, List.length_cons, List.length_nil, List.replicate, List.append_nil, List.nil_append, List.cons_append, Nat.reduceAdd, Nat.reduceSub, List.getElem?_cons_zero, List.getElem?_cons_succ, List.set_cons_zero, List.set_cons_succ, Bool.not_true, Bool.not_false, decide_true, decide_false, if_true, if_false, i1, i2, e_whole])
  subst hr
  have ei : dIsi "tuple" (.tup (xs.map D.int)) = .ok (.bl true) := rfl
  unfold m_law_same_places
  refine def_of ?_
  rw [show mStart 3 [D.tup (xs.map D.int), .lst (xs.map D.int)] = [some (.val (.tup (xs.map D.int))), some (.val (.lst (xs.map D.int))), none] from rfl]
  rw [seq_nx (r' := [some (.val (.tup (xs.map D.int))), some (.val (.lst (xs.map D.int))), none]) (by simp only [q_df, q_st, q_sq, q_at_nx, q_at_rt, q_at_bk, q_at_ct, q_at_ex, q_mi, q_sel_t, q_sel_f, q_out_rt, q_out_nx, q_out_ex, q_rb_ok, q_rb_bad, q_rb_exc, q_tf_ok, q_v0, q_vs, q_w0, q_w0o, q_ws, q_tbq, q_asb, q_nt, q_rsel_t, q_rsel_f, q_ta, q_to, q_va, q_vo, q_vn, q_sett, q_seto, q_bin, q_c, q_callb, q_cons, q_nil, q_tup, q_lst, q_celle, q_ret, q_nx, q_thl, q_thd, q_isi, q_neg, q_neg_i, q_callk, q_drop, q_retn, q_brk, q_cnt, q_ife, q_add_i, q_sub_i, q_lt_i, q_le_i, q_gt_i, q_ge_i, q_eq_i, q_ne_i, List.map_cons, List.map_nil, List.length_cons, List.length_nil, List.replicate, List.append_nil, List.nil_append, List.cons_append, Nat.reduceAdd, Nat.reduceSub, List.getElem?_cons_zero, List.getElem?_cons_succ, List.set_cons_zero, List.set_cons_succ, Bool.not_true, Bool.not_false, decide_true, decide_false, if_true, if_false, ei, q_len_t, q_len_l])]
  rw [seq_nx (for_nx (by simp only [q_df, q_st, q_sq, q_at_nx, q_at_rt, q_at_bk, q_at_ct, q_at_ex, q_mi, q_sel_t, q_sel_f, q_out_rt, q_out_nx, q_out_ex, q_rb_ok, q_rb_bad, q_rb_exc, q_tf_ok, q_v0, q_vs, q_w0, q_w0o, q_ws, q_tbq, q_asb, q_nt, q_rsel_t, q_rsel_f, q_ta, q_to, q_va, q_vo, q_vn, q_sett, q_seto, q_bin, q_c, q_callb, q_cons, q_nil, q_tup, q_lst, q_celle, q_ret, q_nx, q_thl, q_thd, q_isi, q_neg, q_neg_i, q_callk, q_drop, q_retn, q_brk, q_cnt, q_ife, q_add_i, q_sub_i, q_lt_i, q_le_i, q_gt_i, q_ge_i, q_eq_i, q_ne_i, List.map_cons, List.map_nil, List.length_cons, List.length_nil, List.replicate, List.append_nil, List.nil_append, List.cons_append, Nat.reduceAdd, Nat.reduceSub, List.getElem?_cons_zero, List.getElem?_cons_succ, List.set_cons_zero, List.set_cons_succ, Bool.not_true, Bool.not_false, decide_true, decide_false, if_true, if_false, q_rg, q_len_l, List.length_map]; rw [q_rg1 (by omega) (by omega), Int.toNat_natCast]) e2)]
  rfl
/-! ### the drawn shapes -/
theorem pick_str {L : List Str} {i : Int} (h0 : 0 ≤ i) (h1 : i < (L.length : Int)) : ∃ v, dIx (.lst (L.map D.str)) (.int i) = .ok (.str v) ∧ v ∈ L := by
  have hl : i.toNat < L.length := by omega
  refine ⟨L[i.toNat], ?_, List.getElem_mem hl⟩
  rw [t_ixl h0, List.getElem?_map, List.getElem?_eq_getElem hl]
  rfl
def menu : List Str := ["any", "b", "node", "num1", "mixed0", "w", "unset9", "z", "end", "kind", "i", "walk", "q7"]
def nmk (r : Nat) (k : Nat) : Str := menu.getD ((r + 3 * k) % 13) "any"
def namesOf (r : Nat) : List Str := (List.range 8).map (nmk r)
theorem menu_nm : ∀ z ∈ menu, Nm z := by
  intro z hz
  simp only [menu, List.mem_cons, List.not_mem_nil, or_false] at hz
  rcases hz with rfl | rfl | rfl | rfl | rfl | rfl | rfl | rfl | rfl | rfl | rfl | rfl | rfl <;> (unfold Nm; kernel_rfl)
theorem menu_ok : ∀ z ∈ menu, PyData.strOk z = true := by decide +kernel
theorem names_nodup : ∀ r : Fin 8, (namesOf r.val).Nodup := by decide +kernel
theorem names_menu (r : Nat) : ∀ z ∈ namesOf r, z ∈ menu := by
  intro z hz
  obtain ⟨k, hk, rfl⟩ := List.mem_map.mp hz
  unfold nmk
  have hl : (r + 3 * k) % 13 < menu.length := Nat.mod_lt _ (by decide)
  rw [List.getD_eq_getElem?_getD, List.getElem?_eq_getElem hl]
  exact List.getElem_mem hl
structure SFacts (S : List Sh) : Prop where
  ok : ShsOk S
  eight : S.length = 8
  forms : S.map (·.form) = (["record", "array", "weak", "pair", "record", "array", "weak", "pair"] : List Str)
  some_ : ∀ s ∈ S, 0 < s.fields.length
  txt : ∀ s ∈ S, PyData.strOk s.name = true ∧ PyData.strOk s.form = true ∧ ∀ p ∈ s.fields, PyData.strOk p.1 = true ∧ PyData.strOk p.2 = true
theorem fit_v : m_fields_fit [.str "record", .lst [.str "v", .str "n", .str "o"]] = .ok (.bl true) := by kernel_rfl
theorem fit_o : m_fields_fit [.str "record", .lst [.str "o", .str "key", .str "x", .str "v", .str "n"]] = .ok (.bl true) := by kernel_rfl
theorem fit_i : m_fields_fit [.str "array", .lst [.str "item"]] = .ok (.bl true) := by kernel_rfl
theorem fit_t : m_fields_fit [.str "weak", .lst [.str "target"]] = .ok (.bl true) := by kernel_rfl
theorem fit_k : m_fields_fit [.str "pair", .lst [.str "key", .str "value"]] = .ok (.bl true) := by kernel_rfl
theorem e_small (r0 r1 r2 r3 r4 r5 : Int) (a0 : 0 ≤ r0) (b0 : r0 < 8) (a1 : 0 ≤ r1) (b1 : r1 < 5) (a2 : 0 ≤ r2) (b2 : r2 < 5) (a3 : 0 ≤ r3) (b3 : r3 < 4) (a4 : 0 ≤ r4) (b4 : r4 < 4) (a5 : 0 ≤ r5) (b5 : r5 < 5) :
    ∃ S, m_law_small_shapes [.lst [.int r0, .int r1, .int r2, .int r3, .int r4, .int r5]] = .ok (.lst (S.map shD)) ∧ SFacts S := by
  have lc : mLC [3] (mRg (mCons (mC (.int 8)) mNil)) (bName 3) mYes e_law_small_shapes_1 [some (.val (.lst [.int r0, .int r1, .int r2, .int r3, .int r4, .int r5])), some (.val (.lst (menu.map D.str))), none, none, none] = .ok (.l ((namesOf r0.toNat).map D.str)) := by
    rw [lc_all (ds := rgD 0 8) (f := fun j => .str (nmk r0.toNat j)) rfl (by simp only [q_df, q_st, q_sq, q_at_nx, q_at_rt, q_at_bk, q_at_ct, q_at_ex, q_mi, q_sel_t, q_sel_f, q_out_rt, q_out_nx, q_out_ex, q_rb_ok, q_rb_bad, q_rb_exc, q_tf_ok, q_v0, q_vs, q_w0, q_w0o, q_ws, q_tbq, q_asb, q_nt, q_rsel_t, q_rsel_f, q_ta, q_to, q_va, q_vo, q_vn, q_sett, q_seto, q_bin, q_c, q_callb, q_cons, q_nil, q_tup, q_lst, q_celle, q_ret, q_nx, q_thl, q_thd, q_isi, q_neg, q_neg_i, q_callk, q_drop, q_retn, q_brk, q_cnt, q_ife, q_add_i, q_sub_i, q_lt_i, q_le_i, q_gt_i, q_ge_i, q_eq_i, q_ne_i, List.map_cons, List.map_nil, List.length_cons, List.length_nil, List.replicate, List.append_nil, List.nil_append, List.cons_append, Nat.reduceAdd, Nat.reduceSub, List.getElem?_cons_zero, List.getElem?_cons_succ, List.set_cons_zero, List.set_cons_succ, Bool.not_true, Bool.not_false, decide_true, decide_false, if_true, if_false, q_rg]; exact q_rg1 (by omega) (by omega)) (by rw [rgD_len]; omega) (fun j d hd => by
      obtain ⟨hj, rfl⟩ := rgD_get hd
      refine ⟨_, rfl, ?_⟩
      show e_law_small_shapes_1 [some (.val (.lst [.int r0, .int r1, .int r2, .int r3, .int r4, .int r5])), some (.val (.lst (menu.map D.str))), none, some (.val (.int (0 + (j : Int)))), none] = _
      have hi : dIx (.lst (menu.map D.str)) (.int ((r0 + 3 * (0 + (j : Int))) % 13)) = .ok (.str (nmk r0.toNat j)) := by
        have hl : (r0.toNat + 3 * j) % 13 < menu.length := Nat.mod_lt _ (by decide)
        rw [t_ixl (by omega), show ((r0 + 3 * (0 + (j : Int))) % 13).toNat = (r0.toNat + 3 * j) % 13 by omega, List.getElem?_map, List.getElem?_eq_getElem hl]
        unfold nmk
        rw [List.getD_eq_getElem?_getD, List.getElem?_eq_getElem hl]
        rfl
      simp (disch := omega) only [e_law_small_shapes_1, q_df, q_st, q_sq, q_at_nx, q_at_rt, q_at_bk, q_at_ct, q_at_ex, q_mi, q_sel_t, q_sel_f, q_out_rt, q_out_nx, q_out_ex, q_rb_ok, q_rb_bad, q_rb_exc, q_tf_ok, q_v0, q_vs, q_w0, q_w0o, q_ws, q_tbq, q_asb, q_nt, q_rsel_t, q_rsel_f, q_ta, q_to, q_va, q_vo, q_vn, q_sett, q_seto, q_bin, q_c, q_callb, q_cons, q_nil, q_tup, q_lst, q_celle, q_ret, q_nx, q_thl, q_thd, q_isi, q_neg, q_neg_i, q_callk, q_drop, q_retn, q_brk, q_cnt, q_ife, q_add_i, q_sub_i, List.map_cons, List.map_nil, List.length_cons, List.length_nil, List.replicate, List.append_nil, List.nil_append, List.cons_append, Nat.reduceAdd, Nat.reduceSub, List.getElem?_cons_zero, List.getElem?_cons_succ, List.set_cons_zero, List.set_cons_succ, Bool.not_true, Bool.not_false, decide_true, decide_false, if_true, if_false, t_lt_t, t_lt_f, t_le_t, t_le_f, t_gt_t, t_gt_f, t_ge_t, t_ge_f, t_eq_t, t_eq_f, t_ne_t, t_ne_f, t_is_b, t_isn_b, t_is_i, t_is_n, t_isn_i, t_isn_n, t_abs_n, t_abs_p, t_min, t_max, t_ixl, t_ixt, t_ixs, t_ixL, q_opt, q_ixo, q_oc0, q_ocs, q_oa0, q_oas, t_appd, q_app, t_putd, q_six, q_flopt, q_frz, q_int_i, q_mul_s, q_mod_i, q_div_i, q_len_s, q_len_l, q_len_t, q_items_s, q_items_l, q_items_t, t_szl, Int.reduceToNat, Int.reduceNeg, permL, List.filterMap_cons, List.filterMap_nil, eq_self, if_true, if_false, ite_true, ite_false, Bool.true_eq_false, Bool.false_eq_true, hi])]
    rw [rgD_len]
    simp only [namesOf, List.map_map]
    rfl
  have nd := names_nodup ⟨r0.toNat, by omega⟩
  have nm : ∀ z ∈ namesOf r0.toNat, Nm z := fun z hz => menu_nm z (names_menu _ z hz)
  have no : ∀ z ∈ namesOf r0.toNat, PyData.strOk z = true := fun z hz => menu_ok z (names_menu _ z hz)
  have nl : (namesOf r0.toNat).length = 8 := by simp [namesOf]
  have numOk : PyData.strOk "num" = true := by decide +kernel
  have notnum : ∀ z ∈ namesOf r0.toNat, z ≠ "num" := fun z hz e => by
    have := names_menu _ z hz
    rw [e] at this
    revert this
    decide +kernel
  simp only at nd
  generalize namesOf r0.toNat = L at *
  obtain ⟨n0, n1, n2, n3, n4, n5, n6, n7, rfl⟩ : ∃ n0 n1 n2 n3 n4 n5 n6 n7, L = [n0, n1, n2, n3, n4, n5, n6, n7] := by
    match L, nl with
    | [n0, n1, n2, n3, n4, n5, n6, n7], _ => exact ⟨_, _, _, _, _, _, _, _, rfl⟩
  have pn := fun (i : Int) (h0 : 0 ≤ i) (h1 : i < 8) => pick_str (L := [n0, n1, n2, n3, n4, n5, n6, n7]) h0 h1
  have pk := fun (i : Int) (h0 : 0 ≤ i) (h1 : i < 9) => pick_str (L := "num" :: [n0, n1, n2, n3, n4, n5, n6, n7]) h0 h1
  simp only [List.map_cons, List.map_nil] at pn pk lc
  obtain ⟨k1, k1e, k1m⟩ := pk r1 a1 (by omega)
  obtain ⟨k2, k2e, k2m⟩ := pk r2 a2 (by omega)
  obtain ⟨m3, m3e, m3m⟩ := pn r3 a3 (by omega)
  obtain ⟨m4, m4e, m4m⟩ := pn r4 a4 (by omega)
  obtain ⟨k5, k5e, k5m⟩ := pk r5 a5 (by omega)
  obtain ⟨k6, k6e, k6m⟩ := pk (1 + r5) (by omega) (by omega)
  obtain ⟨k7, k7e, k7m⟩ := pk ((r2 + r5) % 8 + 1) (by omega) (by omega)
  obtain ⟨m8, m8e, m8m⟩ := pn (4 + r4) (by omega) (by omega)
  obtain ⟨m9, m9e, m9m⟩ := pn (7 - r3) (by omega) (by omega)
  obtain ⟨k9, k9e, k9m⟩ := pk ((r5 + r1) % 8 + 1) (by omega) (by omega)
  have hS : ∃ S : List Sh, S = [⟨n0, "record", [("v", "num"), ("n", n0), ("o", k1)]⟩, ⟨n1, "array", [("item", k2)]⟩, ⟨n2, "weak", [("target", m3)]⟩, ⟨n3, "pair", [("key", m4), ("value", k5)]⟩,
    ⟨n4, "record", [("o", m3), ("key", "num"), ("x", k2), ("v", k6), ("n", "num")]⟩, ⟨n5, "array", [("item", k7)]⟩, ⟨n6, "weak", [("target", m8)]⟩, ⟨n7, "pair", [("key", m9), ("value", k9)]⟩] := ⟨_, rfl⟩
  obtain ⟨S, eS⟩ := hS
  have eN : S.map (·.name) = [n0, n1, n2, n3, n4, n5, n6, n7] := by rw [eS]; rfl
  have kk : ∀ z, z ∈ ("num" : Str) :: [n0, n1, n2, n3, n4, n5, n6, n7] → KindOk (S.map (·.name)) z := fun z hz => by
    rw [eN]
    rcases List.mem_cons.mp hz with h | h
    · exact .inl h
    · exact .inr h
  have kn : ∀ z, z ∈ [n0, n1, n2, n3, n4, n5, n6, n7] → KindOk (S.map (·.name)) z := fun z hz => by
    rw [eN]
    exact .inr hz
  have ko : ∀ z, z ∈ ("num" : Str) :: [n0, n1, n2, n3, n4, n5, n6, n7] → PyData.strOk z = true := fun z hz => by
    rcases List.mem_cons.mp hz with h | h
    · rw [h]
      exact numOk
    · exact no z h
  have wkp : ∀ {f : Str} {p : Str × Str} {rest : List (Str × Str)}, dIn (.str f) (.tup [.str "weak", .str "pair"]) = .ok (.bl true) → p.2 ∈ [n0, n1, n2, n3, n4, n5, n6, n7] → (dIn (.str f) (.tup [.str "weak", .str "pair"]) = .ok (.bl false) ∨ (dIn (.str f) (.tup [.str "weak", .str "pair"]) = .ok (.bl true) ∧ ∃ q r, p :: rest = q :: r ∧ q.2 ≠ "num")) := fun h1 h2 => .inr ⟨h1, _, _, rfl, notnum _ h2⟩
  refine ⟨S, ?_, ⟨⟨by rw [eN]; exact nd, by rw [eN]; exact nm, ?_, by rw [eS]; simp⟩, by rw [eS]; rfl, by rw [eS]; rfl, ?_, ?_⟩⟩
  · have s1 : (1 : Nat) ≤ sizeLine := by decide
    have s2 : (2 : Nat) ≤ sizeLine := by decide
    have s3 : (3 : Nat) ≤ sizeLine := by decide
    have s5 : (5 : Nat) ≤ sizeLine := by decide
    have s8 : (8 : Nat) ≤ sizeLine := by decide
    have s13 : (13 : Nat) ≤ sizeLine := by decide
    unfold m_law_small_shapes
    refine def_of ?_
    generalize hR : D.lst [.int r0, .int r1, .int r2, .int r3, .int r4, .int r5] = R at lc
    have i0 : dIx R (.int 0) = .ok (.int r0) := by rw [← hR]; rfl
    have i1 : dIx R (.int 1) = .ok (.int r1) := by rw [← hR]; rfl
    have i2 : dIx R (.int 2) = .ok (.int r2) := by rw [← hR]; rfl
    have i3 : dIx R (.int 3) = .ok (.int r3) := by rw [← hR]; rfl
    have i4 : dIx R (.int 4) = .ok (.int r4) := by rw [← hR]; rfl
    have i5 : dIx R (.int 5) = .ok (.int r5) := by rw [← hR]; rfl
    have em : menu.map D.str = [.str "any", .str "b", .str "node", .str "num1", .str "mixed0", .str "w", .str "unset9", .str "z", .str "end", .str "kind", .str "i", .str "walk", .str "q7"] := rfl
    rw [em] at lc
    rw [show mStart 5 [R] = [some (.val R), none, none, none, none] from rfl]
    rw [seq_nx (r' := [some (.val R), some (.val (.lst [.str "any", .str "b", .str "node", .str "num1", .str "mixed0", .str "w", .str "unset9", .str "z", .str "end", .str "kind", .str "i", .str "walk", .str "q7"])), none, none, none]) (by simp only [q_df, q_st, q_sq, q_at_nx, q_at_rt, q_at_bk, q_at_ct, q_at_ex, q_mi, q_sel_t, q_sel_f, q_out_rt, q_out_nx, q_out_ex, q_rb_ok, q_rb_bad, q_rb_exc, q_tf_ok, q_v0, q_vs, q_w0, q_w0o, q_ws, q_tbq, q_asb, q_nt, q_rsel_t, q_rsel_f, q_ta, q_to, q_va, q_vo, q_vn, q_sett, q_seto, q_bin, q_c, q_callb, q_cons, q_nil, q_tup, q_lst, q_celle, q_ret, q_nx, q_thl, q_thd, q_isi, q_neg, q_neg_i, q_callk, q_drop, q_retn, q_brk, q_cnt, q_ife, q_add_i, q_sub_i, q_lt_i, q_le_i, q_gt_i, q_ge_i, q_eq_i, q_ne_i, List.map_cons, List.map_nil, List.length_cons, List.length_nil, List.replicate, List.append_nil, List.nil_append, List.cons_append, Nat.reduceAdd, Nat.reduceSub, List.getElem?_cons_zero, List.getElem?_cons_succ, List.set_cons_zero, List.set_cons_succ, Bool.not_true, Bool.not_false, decide_true, decide_false, if_true, if_false, s13])]
    rw [seq_nx (r' := [some (.val R), some (.val (.lst [.str "any", .str "b", .str "node", .str "num1", .str "mixed0", .str "w", .str "unset9", .str "z", .str "end", .str "kind", .str "i", .str "walk", .str "q7"])), some (.own (.l [.str n0, .str n1, .str n2, .str n3, .str n4, .str n5, .str n6, .str n7])), none, none]) (by rw [q_seto, lc]; rfl)]
    generalize D.lst [.str "any", .str "b", .str "node", .str "num1", .str "mixed0", .str "w", .str "unset9", .str "z", .str "end", .str "kind", .str "i", .str "walk", .str "q7"] = M
    have ha : dAdd (.lst [.str "num"]) (.lst [.str n0, .str n1, .str n2, .str n3, .str n4, .str n5, .str n6, .str n7]) = .ok (.lst [.str "num", .str n0, .str n1, .str n2, .str n3, .str n4, .str n5, .str n6, .str n7]) := t_addl (by simp)
    rw [seq_nx (r' := [some (.val R), some (.val M), some (.val (.lst [.str n0, .str n1, .str n2, .str n3, .str n4, .str n5, .str n6, .str n7])), none, some (.val (.lst [.str "num", .str n0, .str n1, .str n2, .str n3, .str n4, .str n5, .str n6, .str n7]))]) (by
      rw [q_frz]
      simp only [q_df, q_st, q_sq, q_at_nx, q_at_rt, q_at_bk, q_at_ct, q_at_ex, q_mi, q_sel_t, q_sel_f, q_out_rt, q_out_nx, q_out_ex, q_rb_ok, q_rb_bad, q_rb_exc, q_tf_ok, q_v0, q_vs, q_w0, q_w0o, q_ws, q_tbq, q_asb, q_nt, q_rsel_t, q_rsel_f, q_ta, q_to, q_va, q_vo, q_vn, q_sett, q_seto, q_bin, q_c, q_callb, q_cons, q_nil, q_tup, q_lst, q_celle, q_ret, q_nx, q_thl, q_thd, q_isi, q_neg, q_neg_i, q_callk, q_drop, q_retn, q_brk, q_cnt, q_ife, q_add_i, q_sub_i, q_lt_i, q_le_i, q_gt_i, q_ge_i, q_eq_i, q_ne_i, List.map_cons, List.map_nil, List.length_cons, List.length_nil, List.replicate, List.append_nil, List.nil_append, List.cons_append, Nat.reduceAdd, Nat.reduceSub, List.getElem?_cons_zero, List.getElem?_cons_succ, List.set_cons_zero, List.set_cons_succ, Bool.not_true, Bool.not_false, decide_true, decide_false, if_true, if_false, q_ocs, q_oc0, q_flopt, s1, ha])]
    have x0 : dIx (.lst [.str n0, .str n1, .str n2, .str n3, .str n4, .str n5, .str n6, .str n7]) (.int 0) = .ok (.str n0) := rfl
    have x1 : dIx (.lst [.str n0, .str n1, .str n2, .str n3, .str n4, .str n5, .str n6, .str n7]) (.int 1) = .ok (.str n1) := rfl
    have x2 : dIx (.lst [.str n0, .str n1, .str n2, .str n3, .str n4, .str n5, .str n6, .str n7]) (.int 2) = .ok (.str n2) := rfl
    have x3 : dIx (.lst [.str n0, .str n1, .str n2, .str n3, .str n4, .str n5, .str n6, .str n7]) (.int 3) = .ok (.str n3) := rfl
    have x4 : dIx (.lst [.str n0, .str n1, .str n2, .str n3, .str n4, .str n5, .str n6, .str n7]) (.int 4) = .ok (.str n4) := rfl
    have x5 : dIx (.lst [.str n0, .str n1, .str n2, .str n3, .str n4, .str n5, .str n6, .str n7]) (.int 5) = .ok (.str n5) := rfl
    have x6 : dIx (.lst [.str n0, .str n1, .str n2, .str n3, .str n4, .str n5, .str n6, .str n7]) (.int 6) = .ok (.str n6) := rfl
    have x7 : dIx (.lst [.str n0, .str n1, .str n2, .str n3, .str n4, .str n5, .str n6, .str n7]) (.int 7) = .ok (.str n7) := rfl
    generalize D.lst [.str n0, .str n1, .str n2, .str n3, .str n4, .str n5, .str n6, .str n7] = LN at *
    generalize D.lst [.str "num", .str n0, .str n1, .str n2, .str n3, .str n4, .str n5, .str n6, .str n7] = LK at *
    simp only [q_df, q_st, q_sq, q_at_nx, q_at_rt, q_at_bk, q_at_ct, q_at_ex, q_mi, q_sel_t, q_sel_f, q_out_rt, q_out_nx, q_out_ex, q_rb_ok, q_rb_bad, q_rb_exc, q_tf_ok, q_v0, q_vs, q_w0, q_w0o, q_ws, q_tbq, q_asb, q_nt, q_rsel_t, q_rsel_f, q_ta, q_to, q_va, q_vo, q_vn, q_sett, q_seto, q_bin, q_c, q_callb, q_cons, q_nil, q_tup, q_lst, q_celle, q_ret, q_nx, q_thl, q_thd, q_isi, q_neg, q_neg_i, q_callk, q_drop, q_retn, q_brk, q_cnt, q_ife, q_add_i, q_sub_i, q_lt_i, q_le_i, q_gt_i, q_ge_i, q_eq_i, q_ne_i, List.map_cons, List.map_nil, List.length_cons, List.length_nil, List.replicate, List.append_nil, List.nil_append, List.cons_append, Nat.reduceAdd, Nat.reduceSub, List.getElem?_cons_zero, List.getElem?_cons_succ, List.set_cons_zero, List.set_cons_succ, Bool.not_true, Bool.not_false, decide_true, decide_false, if_true, if_false, s1, s2, s3, s5, s8, i0, i1, i2, i3, i4, i5, k1e, k2e, m3e, m4e, k5e, k6e, k7e, m8e, m9e, k9e, x0, x1, x2, x3, x4, x5, x6, x7, q_int_i, q_mod_i (show (0 : Int) < 8 by omega), eS]
    rfl
  · intro s hs
    rw [eS] at hs
    simp only [List.mem_cons, List.not_mem_nil, or_false] at hs
    rcases hs with rfl | rfl | rfl | rfl | rfl | rfl | rfl | rfl
    · exact ⟨by kernel_rfl, fit_v, by simp only [List.forall_mem_cons]; exact ⟨.inl rfl, kn _ (by simp), kk _ k1m, by simp⟩, .inl (by kernel_rfl), by simp⟩
    · exact ⟨by kernel_rfl, fit_i, by simp only [List.forall_mem_cons]; exact ⟨kk _ k2m, by simp⟩, .inl (by kernel_rfl), by simp⟩
    · exact ⟨by kernel_rfl, fit_t, by simp only [List.forall_mem_cons]; exact ⟨kn _ m3m, by simp⟩, wkp (by kernel_rfl) m3m, by simp⟩
    · exact ⟨by kernel_rfl, fit_k, by simp only [List.forall_mem_cons]; exact ⟨kn _ m4m, kk _ k5m, by simp⟩, wkp (by kernel_rfl) m4m, by simp⟩
    · exact ⟨by kernel_rfl, fit_o, by simp only [List.forall_mem_cons]; exact ⟨kn _ m3m, .inl rfl, kk _ k2m, kk _ k6m, .inl rfl, by simp⟩, .inl (by kernel_rfl), by simp⟩
    · exact ⟨by kernel_rfl, fit_i, by simp only [List.forall_mem_cons]; exact ⟨kk _ k7m, by simp⟩, .inl (by kernel_rfl), by simp⟩
    · exact ⟨by kernel_rfl, fit_t, by simp only [List.forall_mem_cons]; exact ⟨kn _ m8m, by simp⟩, wkp (by kernel_rfl) m8m, by simp⟩
    · exact ⟨by kernel_rfl, fit_k, by simp only [List.forall_mem_cons]; exact ⟨kn _ m9m, kk _ k9m, by simp⟩, wkp (by kernel_rfl) m9m, by simp⟩
  · rw [eS]
    intro s hs
    simp only [List.mem_cons, List.not_mem_nil, or_false] at hs
    rcases hs with rfl | rfl | rfl | rfl | rfl | rfl | rfl | rfl <;> simp
  · have o1 : PyData.strOk "v" = true := by decide +kernel
    have o2 : PyData.strOk "n" = true := by decide +kernel
    have o3 : PyData.strOk "o" = true := by decide +kernel
    have o4 : PyData.strOk "item" = true := by decide +kernel
    have o5 : PyData.strOk "target" = true := by decide +kernel
    have o6 : PyData.strOk "key" = true := by decide +kernel
    have o7 : PyData.strOk "value" = true := by decide +kernel
    have o8 : PyData.strOk "x" = true := by decide +kernel
    have p1 : PyData.strOk "record" = true := by decide +kernel
    have p2 : PyData.strOk "array" = true := by decide +kernel
    have p3 : PyData.strOk "weak" = true := by decide +kernel
    have p4 : PyData.strOk "pair" = true := by decide +kernel
    rw [eS]
    intro s hs
    simp only [List.mem_cons, List.not_mem_nil, or_false] at hs
    rcases hs with rfl | rfl | rfl | rfl | rfl | rfl | rfl | rfl
    · exact ⟨no _ (by simp), p1, by simp only [List.forall_mem_cons]; exact ⟨⟨o1, numOk⟩, ⟨o2, no _ (by simp)⟩, ⟨o3, ko _ k1m⟩, by simp⟩⟩
    · exact ⟨no _ (by simp), p2, by simp only [List.forall_mem_cons]; exact ⟨⟨o4, ko _ k2m⟩, by simp⟩⟩
    · exact ⟨no _ (by simp), p3, by simp only [List.forall_mem_cons]; exact ⟨⟨o5, no _ m3m⟩, by simp⟩⟩
    · exact ⟨no _ (by simp), p4, by simp only [List.forall_mem_cons]; exact ⟨⟨o6, no _ m4m⟩, ⟨o7, ko _ k5m⟩, by simp⟩⟩
    · exact ⟨no _ (by simp), p1, by simp only [List.forall_mem_cons]; exact ⟨⟨o3, no _ m3m⟩, ⟨o6, numOk⟩, ⟨o8, ko _ k2m⟩, ⟨o1, ko _ k6m⟩, ⟨o2, numOk⟩, by simp⟩⟩
    · exact ⟨no _ (by simp), p2, by simp only [List.forall_mem_cons]; exact ⟨⟨o4, ko _ k7m⟩, by simp⟩⟩
    · exact ⟨no _ (by simp), p3, by simp only [List.forall_mem_cons]; exact ⟨⟨o5, no _ m8m⟩, by simp⟩⟩
    · exact ⟨no _ (by simp), p4, by simp only [List.forall_mem_cons]; exact ⟨⟨o6, no _ m9m⟩, ⟨o7, ko _ k9m⟩, by simp⟩⟩
def dT3 : MS := (mSeq (mIf (mTB (mBin dEq (mVar 4) (mC (.str "num")))) (mRet (mTup (mCons (mC (.str "num")) (mCons (mBin dIx (mCellE (mLst (mCons (mC (.int 0)) (mCons (mC (.int 1)) (mCons (mNeg (mC (.int 1))) (mCons (mC (.int 2147483647)) (mCons (mNeg (mC (.int 2147483648))) (mCons (mC (.int 7)) mNil)))))))) (mBin dMod (mCallB dInt (mCons (mBin dIx (mVar 2) (mC (.int 1))) mNil)) (mC (.int 6)))) mNil)))) mNx) (mSeq (mIf (mTB (mBin dIn (mVar 4) (mCellE (mLst (mCons (mC (.str "load")) (mCons (mC (.str "store")) mNil)))))) (mRet (mBin dIx (mCellE (mLst (mCons (mTup (mCons (mC (.str "settle")) mNil)) (mCons (mTup (mCons (mVar 4) (mCons (mBin dMod (mCallB dInt (mCons (mBin dIx (mVar 2) (mC (.int 1))) mNil)) (mCallB dMax (mCons (mC (.int 1)) (mCons (mBin dIx (mVar 1) (mC (.int 3))) mNil)))) mNil))) mNil)))) (mCallB dInt (mCons (mBin dGt (mBin dIx (mVar 1) (mC (.int 3))) (mC (.int 0))) mNil)))) mNx) (mSeq (mIf (mTB (mBin dIn (mVar 4) (mCellE (mLst (mCons (mC (.str "fetch")) (mCons (mC (.str "keep")) mNil)))))) (mRet (mTup (mCons (mVar 4) (mCons (mBin dIx (mBin dIx (mBin dIx (mVar 0) (mC (.int 1))) (mBin dMod (mCallB dInt (mCons (mBin dIx (mVar 2) (mC (.int 1))) mNil)) (mCallB dLen (mCons (mBin dIx (mVar 0) (mC (.int 1))) mNil)))) (mC (.int 0))) mNil)))) mNx) (mSeq (mIf (mTB (mBin dIn (mVar 4) (mCellE (mLst (mCons (mC (.str "jump")) (mCons (mC (.str "when")) mNil)))))) (mRet (mTup (mCons (mVar 4) (mCons (mBin dMod (mCallB dInt (mCons (mBin dAdd (mBin dMul (mBin dIx (mVar 2) (mC (.int 1))) (mC (.int 60))) (mBin dIx (mVar 2) (mC (.int 2)))) mNil)) (mCallB dMax (mCons (mC (.int 1)) (mCons (mCallB dLen (mCons (mBin dIx (mVar 1) (mC (.int 4))) mNil)) mNil)))) mNil)))) mNx) (mSeq (mIf (mTB (mBin dEq (mVar 4) (mC (.str "call")))) (mRet (mTup (mCons (mC (.str "call")) (mCons (mBin dIx (mBin dIx (mBin dIx (mVar 0) (mC (.int 2))) (mBin dMod (mCallB dInt (mCons (mBin dIx (mVar 2) (mC (.int 1))) mNil)) (mCallB dLen (mCons (mBin dIx (mVar 0) (mC (.int 2))) mNil)))) (mC (.int 0))) mNil)))) mNx) (mSeq (mIf (mTB (mBin dIn (mVar 4) (mCellE (mLst (mCons (mC (.str "nil")) (mCons (mC (.str "empty")) (mCons (mC (.str "twin")) (mCons (mC (.str "watch")) (mCons (mC (.str "parted")) mNil))))))))) (mRet (mTup (mCons (mVar 4) (mCons (mBin dIx (mBin dIx (mBin dIx (mVar 0) (mC (.int 0))) (mBin dMod (mCallB dInt (mCons (mBin dIx (mVar 2) (mC (.int 1))) mNil)) (mCallB dLen (mCons (mBin dIx (mVar 0) (mC (.int 0))) mNil)))) (mC (.int 0))) mNil)))) mNx) (mSeq (mIf (mTB (mBin (dDin true) (mVar 4) (mVar 5))) (mRet (mTup (mCons (mVar 4) mNil))) mNx) (mSeq (mSetO 6 (mLC [7] (mItems (mBin dIx (mVar 0) (mC (.int 0)))) (bName 7) (mTAnd (mTB (mBin dEq (mBin dIx (mVar 7) (mC (.int 1))) (mBin dDget (mVar 5) (mVar 4)))) (mTB (mBin dGt (mCallB dLen (mCons (mBin dIx (mVar 7) (mC (.int 2))) mNil)) (mC (.int 0))))) e_law_any_deed_1)) (mSeq (mSet 7 (mIxO 6 (mBin dMod (mCallB dInt (mCons (mBin dIx (mVar 2) (mC (.int 1))) mNil)) (mCallB dLen (mCons (mVarW 6) mNil))))) (mSeq (mIf (mTB (mBin dIn (mVar 4) (mCellE (mLst (mCons (mC (.str "get")) (mCons (mC (.str "put")) mNil)))))) (mRet (mTup (mCons (mVar 4) (mCons (mBin dIx (mVar 7) (mC (.int 0))) (mCons (mBin dIx (mBin dIx (mBin dIx (mVar 7) (mC (.int 2))) (mBin dMod (mCallB dInt (mCons (mBin dIx (mVar 2) (mC (.int 2))) mNil)) (mCallB dLen (mCons (mBin dIx (mVar 7) (mC (.int 2))) mNil)))) (mC (.int 0))) mNil))))) mNx) (mRet (mTup (mCons (mVar 4) (mCons (mBin dIx (mVar 7) (mC (.int 0))) mNil))))))))))))))
def dT10 : MS := (mSeq (mSetO 6 (mLC [7] (mItems (mBin dIx (mVar 0) (mC (.int 0)))) (bName 7) (mTAnd (mTB (mBin dEq (mBin dIx (mVar 7) (mC (.int 1))) (mBin dDget (mVar 5) (mVar 4)))) (mTB (mBin dGt (mCallB dLen (mCons (mBin dIx (mVar 7) (mC (.int 2))) mNil)) (mC (.int 0))))) e_law_any_deed_1)) (mSeq (mSet 7 (mIxO 6 (mBin dMod (mCallB dInt (mCons (mBin dIx (mVar 2) (mC (.int 1))) mNil)) (mCallB dLen (mCons (mVarW 6) mNil))))) (mSeq (mIf (mTB (mBin dIn (mVar 4) (mCellE (mLst (mCons (mC (.str "get")) (mCons (mC (.str "put")) mNil)))))) (mRet (mTup (mCons (mVar 4) (mCons (mBin dIx (mVar 7) (mC (.int 0))) (mCons (mBin dIx (mBin dIx (mBin dIx (mVar 7) (mC (.int 2))) (mBin dMod (mCallB dInt (mCons (mBin dIx (mVar 2) (mC (.int 2))) mNil)) (mCallB dLen (mCons (mBin dIx (mVar 7) (mC (.int 2))) mNil)))) (mC (.int 0))) mNil))))) mNx) (mRet (mTup (mCons (mVar 4) (mCons (mBin dIx (mVar 7) (mC (.int 0))) mNil)))))))
def WL : List D := [.str "num", .str "add", .str "sub", .str "mul", .str "div", .str "mod", .str "less", .str "same", .str "flip", .str "drop", .str "copy", .str "swap", .str "load", .str "store", .str "fetch", .str "keep", .str "jump", .str "when", .str "call", .str "back", .str "halt", .str "tell", .str "nil", .str "empty", .str "twin", .str "make", .str "get", .str "put", .str "array", .str "at", .str "set", .str "length", .str "weaken", .str "peek", .str "pair", .str "key", .str "value", .str "watch", .str "parted", .str "settle"]
def DD : D := .dct [.inr "make", .inr "get", .inr "put", .inr "array", .inr "at", .inr "set", .inr "length", .inr "weaken", .inr "peek", .inr "pair", .inr "key", .inr "value"] [.str "record", .str "record", .str "record", .str "array", .str "array", .str "array", .str "array", .str "weak", .str "weak", .str "pair", .str "pair", .str "pair"]
/-! ### the drawn instructions -/
def DTxt (p : Str × List D) : Prop := PyData.strOk p.1 = true ∧ ∀ o ∈ p.2, (∃ i : Int, o = .int i) ∨ ∃ z : Str, o = .str z ∧ PyData.strOk z = true
theorem DTxt.flat {p : Str × List D} (h : DTxt p) : ∀ o ∈ p.2, nrm o = o ∧ ∀ y, nrm y = o → y = o := fun o ho => by
  rcases h.2 o ho with ⟨i, rfl⟩ | ⟨z, rfl, _⟩
  · exact ⟨by simp only [nrm], fun y hy => pres_int hy⟩
  · exact ⟨by simp only [nrm], fun y hy => pres_str hy⟩
def DeedG (S : List Sh) (fn : List Str) (slots ln : Int) (p : Str × List D) : Prop := (∃ sorts, DeedOk S ["s"] fn slots ln p sorts ∧ sorts.length < 1000) ∧ JOk p ∧ DTxt p
theorem g0 {S : List Sh} {fn : List Str} {slots ln : Int} {w : Str} (hw : WordOk w []) (ok : PyData.strOk w = true) (hj : ¬ (w = "jump" ∨ w = "when")) : DeedG S fn slots ln (w, []) := by
  have dt : DTxt (w, []) := ⟨ok, fun o ho => by cases ho⟩
  exact ⟨⟨[], ⟨hw, rfl, fun k s hs => by simp at hs, dt.flat⟩, by simp⟩, fun h => absurd h hj, dt⟩
theorem g1 {S : List Sh} {fn : List Str} {slots ln : Int} {w so : Str} {o : D} (hw : WordOk w [so]) (ok : PyData.strOk w = true) (hop : OpOk S ["s"] fn slots ln (.str w) so o) (ho : (∃ i : Int, o = .int i) ∨ ∃ z : Str, o = .str z ∧ PyData.strOk z = true) (hj : (w = "jump" ∨ w = "when") → ∃ t : Int, o = .int t) : DeedG S fn slots ln (w, [o]) := by
  have dt : DTxt (w, [o]) := ⟨ok, fun x hx => by
    rw [List.mem_singleton.mp hx]
    exact ho⟩
  refine ⟨⟨[so], ⟨hw, rfl, fun k s hs => ?_, dt.flat⟩, by simp⟩, fun h => ?_, dt⟩
  · cases k with
    | zero =>
      cases hs
      exact ⟨o, .str w, rfl, rfl, hop⟩
    | succ k => simp at hs
  · obtain ⟨t, e⟩ := hj h
    exact ⟨t, by rw [e]⟩
theorem g2 {S : List Sh} {fn : List Str} {slots ln : Int} {w so s2 : Str} {o q : D} (hw : WordOk w [so, s2]) (ok : PyData.strOk w = true) (hop : OpOk S ["s"] fn slots ln (.str w) so o) (hoq : OpOk S ["s"] fn slots ln o s2 q) (ho : ∃ z : Str, o = .str z ∧ PyData.strOk z = true) (hq : ∃ z : Str, q = .str z ∧ PyData.strOk z = true) (hj : ¬ (w = "jump" ∨ w = "when")) : DeedG S fn slots ln (w, [o, q]) := by
  have dt : DTxt (w, [o, q]) := ⟨ok, fun x hx => by
    simp only [List.mem_cons, List.not_mem_nil, or_false] at hx
    rcases hx with rfl | rfl
    · exact .inr ho
    · exact .inr hq⟩
  refine ⟨⟨[so, s2], ⟨hw, rfl, fun k s hs => ?_, dt.flat⟩, by simp⟩, fun h => absurd h hj, dt⟩
  match k, hs with
  | 0, hs =>
    cases hs
    exact ⟨o, .str w, rfl, rfl, hop⟩
  | 1, hs =>
    cases hs
    exact ⟨q, o, rfl, rfl, hoq⟩
  | k + 2, hs => simp at hs
def wD (S : List Sh) (hs : List D) : D := .lst [.lst (S.map shD), .lst [pairD ("s", "num")], .lst hs]
structure DIn (S : List Sh) (fn : List Str) (hs : List D) (slots : Int) (bl : List D) (b c : Int) : Prop where
  sf : SFacts S
  fl : hs.length = fn.length
  frow : ∀ (i : Nat) (n : Str), fn[i]? = some n → ∃ rest, hs[i]? = some (.tup (.str n :: rest))
  fpos : 0 < fn.length
  fok : ∀ z ∈ fn, PyData.strOk z = true
  sl0 : 0 ≤ slots
  sl1 : slots < 1000
  bl0 : 0 < bl.length
  bl1 : bl.length < 1000
  b0 : 0 ≤ b
  b1 : b < 60
  c0 : 0 ≤ c
  c1 : c < 60
section
variable {S : List Sh} {fn : List Str} {hs : List D} {nm ps rs : D} {slots : Int} {bl : List D} {b c : Int}
abbrev stD (S : List Sh) (hs : List D) (nm ps rs : D) (slots : Int) (bl : List D) (a b c : Int) (w : Str) : Sc := [some (.val (wD S hs)), some (.val (.tup [nm, ps, rs, .int slots, .lst bl])), some (.val (.lst [.int a, .int b, .int c])), some (.val (.lst WL)), some (.val (.str w)), some (.val DD), none, none]
theorem deed_go {a : Int} {P : Str × List D → Prop} (H : DIn S fn hs slots bl b c) (w : Str) (hw : dIx (.lst WL) (.int a) = .ok (.str w)) (h : ∃ p, dT3 (stD S hs nm ps rs slots bl a b c w) = .rt (deedD p) ∧ P p) : ∃ p, m_law_any_deed [wD S hs, .tup [nm, ps, rs, .int slots, .lst bl], .lst [.int a, .int b, .int c]] = .ok (deedD p) ∧ P p := by
  obtain ⟨p, h1, h2⟩ := h
  refine ⟨p, ?_, h2⟩
  unfold m_law_any_deed
  refine def_of ?_
  rw [show mStart 8 [wD S hs, .tup [nm, ps, rs, .int slots, .lst bl], .lst [.int a, .int b, .int c]] = [some (.val (wD S hs)), some (.val (.tup [nm, ps, rs, .int slots, .lst bl])), some (.val (.lst [.int a, .int b, .int c])), none, none, none, none, none] from rfl]
  rw [seq_nx (r' := [some (.val (wD S hs)), some (.val (.tup [nm, ps, rs, .int slots, .lst bl])), some (.val (.lst [.int a, .int b, .int c])), some (.val (.lst WL)), none, none, none, none]) (by rfl)]
  have ia : dIx (.lst [.int a, .int b, .int c]) (.int 0) = .ok (.int a) := rfl
  rw [seq_nx (r' := [some (.val (wD S hs)), some (.val (.tup [nm, ps, rs, .int slots, .lst bl])), some (.val (.lst [.int a, .int b, .int c])), some (.val (.lst WL)), some (.val (.str w)), none, none, none]) (by simp only [q_df, q_st, q_sq, q_at_nx, q_at_rt, q_at_bk, q_at_ct, q_at_ex, q_mi, q_sel_t, q_sel_f, q_out_rt, q_out_nx, q_out_ex, q_rb_ok, q_rb_bad, q_rb_exc, q_tf_ok, q_v0, q_vs, q_w0, q_w0o, q_ws, q_tbq, q_asb, q_nt, q_rsel_t, q_rsel_f, q_ta, q_to, q_va, q_vo, q_vn, q_sett, q_seto, q_bin, q_c, q_callb, q_cons, q_nil, q_tup, q_lst, q_celle, q_ret, q_nx, q_thl, q_thd, q_isi, q_neg, q_neg_i, q_callk, q_drop, q_retn, q_brk, q_cnt, q_ife, q_add_i, q_sub_i, q_lt_i, q_le_i, q_gt_i, q_ge_i, q_eq_i, q_ne_i, List.map_cons, List.map_nil, List.length_cons, List.length_nil, List.replicate, List.append_nil, List.nil_append, List.cons_append, Nat.reduceAdd, Nat.reduceSub, List.getElem?_cons_zero, List.getElem?_cons_succ, List.set_cons_zero, List.set_cons_succ, Bool.not_true, Bool.not_false, decide_true, decide_false, if_true, if_false, ia, hw])]
  rw [seq_nx (r' := stD S hs nm ps rs slots bl a b c w) (by rfl)]
  exact h1
variable {a : Int}
theorem i_b : dIx (.lst [.int a, .int b, .int c]) (.int 1) = .ok (.int b) := rfl
theorem i_c : dIx (.lst [.int a, .int b, .int c]) (.int 2) = .ok (.int c) := rfl
theorem i_slots : dIx (.tup [nm, ps, rs, .int slots, .lst bl]) (.int 3) = .ok (.int slots) := rfl
theorem i_bl : dIx (.tup [nm, ps, rs, .int slots, .lst bl]) (.int 4) = .ok (.lst bl) := rfl
theorem i_w0 : dIx (wD S hs) (.int 0) = .ok (.lst (S.map shD)) := rfl
theorem i_w1 : dIx (wD S hs) (.int 1) = .ok (.lst [pairD ("s", "num")]) := rfl
theorem i_w2 : dIx (wD S hs) (.int 2) = .ok (.lst hs) := rfl
theorem sz1 : (1 : Nat) ≤ sizeLine := by decide
theorem sz2 : (2 : Nat) ≤ sizeLine := by decide
theorem sz3 : (3 : Nat) ≤ sizeLine := by decide
theorem sz5 : (5 : Nat) ≤ sizeLine := by decide
theorem sz6 : (6 : Nat) ≤ sizeLine := by decide
theorem c_plain (H : DIn S fn hs slots bl b c) (w : Str) (e1 : dEq (.str w) (.str "num") = .ok (.bl false)) (e2 : dIn (.str w) (.lst [.str "load", .str "store"]) = .ok (.bl false)) (e3 : dIn (.str w) (.lst [.str "fetch", .str "keep"]) = .ok (.bl false)) (e4 : dIn (.str w) (.lst [.str "jump", .str "when"]) = .ok (.bl false)) (e5 : dEq (.str w) (.str "call") = .ok (.bl false)) (e6 : dIn (.str w) (.lst [.str "nil", .str "empty", .str "twin", .str "watch", .str "parted"]) = .ok (.bl false)) (e7 : dDin true (.str w) DD = .ok (.bl true))
    (hw : WordOk w []) (ok : PyData.strOk w = true) (hj : ¬ (w = "jump" ∨ w = "when")) : ∃ p, dT3 (stD S hs nm ps rs slots bl a b c w) = .rt (deedD p) ∧ DeedG S fn slots (bl.length : Int) p := by
  refine ⟨(w, []), ?_, g0 hw ok hj⟩
  simp only [dT3, q_df, q_st, q_sq, q_at_nx, q_at_rt, q_at_bk, q_at_ct, q_at_ex, q_mi, q_sel_t, q_sel_f, q_out_rt, q_out_nx, q_out_ex, q_rb_ok, q_rb_bad, q_rb_exc, q_tf_ok, q_v0, q_vs, q_w0, q_w0o, q_ws, q_tbq, q_asb, q_nt, q_rsel_t, q_rsel_f, q_ta, q_to, q_va, q_vo, q_vn, q_sett, q_seto, q_bin, q_c, q_callb, q_cons, q_nil, q_tup, q_lst, q_celle, q_ret, q_nx, q_thl, q_thd, q_isi, q_neg, q_neg_i, q_callk, q_drop, q_retn, q_brk, q_cnt, q_ife, q_add_i, q_sub_i, q_lt_i, q_le_i, q_gt_i, q_ge_i, q_eq_i, q_ne_i, List.map_cons, List.map_nil, List.length_cons, List.length_nil, List.replicate, List.append_nil, List.nil_append, List.cons_append, Nat.reduceAdd, Nat.reduceSub, List.getElem?_cons_zero, List.getElem?_cons_succ, List.set_cons_zero, List.set_cons_succ, Bool.not_true, Bool.not_false, decide_true, decide_false, if_true, if_false, e1, e2, e3, e4, e5, e6, e7, sz1, sz2, sz5]
  rfl
theorem c_num (H : DIn S fn hs slots bl b c) : ∃ p, dT3 (stD S hs nm ps rs slots bl a b c "num") = .rt (deedD p) ∧ DeedG S fn slots (bl.length : Int) p := by
  have b0 := H.b0
  obtain ⟨v, v1, v2⟩ := pick_ok (L := [0, 1, -1, 2147483647, -2147483648, 7]) (i := b % 6) (fun z => -2147483648 ≤ z ∧ z ≤ 2147483647) (Int.emod_nonneg _ (by omega)) (by have := Int.emod_lt_of_pos b (show (0 : Int) < 6 by omega); simpa using this) (by decide)
  simp only [List.map_cons, List.map_nil] at v1
  refine ⟨("num", [.int v]), ?_, g1 ⟨by kernel_rfl, by kernel_rfl⟩ (by decide +kernel) (.num v2.1 v2.2) (.inl ⟨v, rfl⟩) (fun _ => ⟨v, rfl⟩)⟩
  have e1 : dEq (.str "num") (.str "num") = .ok (.bl true) := by kernel_rfl
  simp only [dT3, q_df, q_st, q_sq, q_at_nx, q_at_rt, q_at_bk, q_at_ct, q_at_ex, q_mi, q_sel_t, q_sel_f, q_out_rt, q_out_nx, q_out_ex, q_rb_ok, q_rb_bad, q_rb_exc, q_tf_ok, q_v0, q_vs, q_w0, q_w0o, q_ws, q_tbq, q_asb, q_nt, q_rsel_t, q_rsel_f, q_ta, q_to, q_va, q_vo, q_vn, q_sett, q_seto, q_bin, q_c, q_callb, q_cons, q_nil, q_tup, q_lst, q_celle, q_ret, q_nx, q_thl, q_thd, q_isi, q_neg, q_neg_i, q_callk, q_drop, q_retn, q_brk, q_cnt, q_ife, q_add_i, q_sub_i, q_lt_i, q_le_i, q_gt_i, q_ge_i, q_eq_i, q_ne_i, List.map_cons, List.map_nil, List.length_cons, List.length_nil, List.replicate, List.append_nil, List.nil_append, List.cons_append, Nat.reduceAdd, Nat.reduceSub, List.getElem?_cons_zero, List.getElem?_cons_succ, List.set_cons_zero, List.set_cons_succ, Bool.not_true, Bool.not_false, decide_true, decide_false, if_true, if_false, e1, i_b, q_int_i, q_mod_i (show (0 : Int) < 6 by omega), v1, sz2, sz6]
  rfl
theorem c_slot (H : DIn S fn hs slots bl b c) (w : Str) (e1 : dEq (.str w) (.str "num") = .ok (.bl false)) (e2 : dIn (.str w) (.lst [.str "load", .str "store"]) = .ok (.bl true))
    (hw : WordOk w ["slot"]) (ok : PyData.strOk w = true) (hj : ¬ (w = "jump" ∨ w = "when")) : ∃ p, dT3 (stD S hs nm ps rs slots bl a b c w) = .rt (deedD p) ∧ DeedG S fn slots (bl.length : Int) p := by
  have b0 := H.b0
  have l0 := H.sl0
  by_cases hp : 0 < slots
  · have m : (if slots > 1 then slots else 1) = slots := by split <;> omega
    refine ⟨(w, [.int (b % slots)]), ?_, g1 hw ok (.slot (Int.emod_nonneg _ (by omega)) (Int.emod_lt_of_pos _ hp)) (.inl ⟨_, rfl⟩) (fun h => absurd h hj)⟩
    simp only [dT3, q_df, q_st, q_sq, q_at_nx, q_at_rt, q_at_bk, q_at_ct, q_at_ex, q_mi, q_sel_t, q_sel_f, q_out_rt, q_out_nx, q_out_ex, q_rb_ok, q_rb_bad, q_rb_exc, q_tf_ok, q_v0, q_vs, q_w0, q_w0o, q_ws, q_tbq, q_asb, q_nt, q_rsel_t, q_rsel_f, q_ta, q_to, q_va, q_vo, q_vn, q_sett, q_seto, q_bin, q_c, q_callb, q_cons, q_nil, q_tup, q_lst, q_celle, q_ret, q_nx, q_thl, q_thd, q_isi, q_neg, q_neg_i, q_callk, q_drop, q_retn, q_brk, q_cnt, q_ife, q_add_i, q_sub_i, q_lt_i, q_le_i, q_gt_i, q_ge_i, q_eq_i, q_ne_i, List.map_cons, List.map_nil, List.length_cons, List.length_nil, List.replicate, List.append_nil, List.nil_append, List.cons_append, Nat.reduceAdd, Nat.reduceSub, List.getElem?_cons_zero, List.getElem?_cons_succ, List.set_cons_zero, List.set_cons_succ, Bool.not_true, Bool.not_false, decide_true, decide_false, if_true, if_false, e1, e2, i_b, i_slots, q_int_i, t_max, m, q_mod_i hp, decide_eq_true hp, q_int_b, sz1, sz2]
    rfl
  · have z : slots = 0 := by omega
    have hm : (0 : Int) < (if slots > 1 then slots else 1) := by split <;> omega
    refine ⟨("settle", []), ?_, g0 ⟨by kernel_rfl, by kernel_rfl⟩ (by decide +kernel) (by decide)⟩
    simp only [dT3, q_df, q_st, q_sq, q_at_nx, q_at_rt, q_at_bk, q_at_ct, q_at_ex, q_mi, q_sel_t, q_sel_f, q_out_rt, q_out_nx, q_out_ex, q_rb_ok, q_rb_bad, q_rb_exc, q_tf_ok, q_v0, q_vs, q_w0, q_w0o, q_ws, q_tbq, q_asb, q_nt, q_rsel_t, q_rsel_f, q_ta, q_to, q_va, q_vo, q_vn, q_sett, q_seto, q_bin, q_c, q_callb, q_cons, q_nil, q_tup, q_lst, q_celle, q_ret, q_nx, q_thl, q_thd, q_isi, q_neg, q_neg_i, q_callk, q_drop, q_retn, q_brk, q_cnt, q_ife, q_add_i, q_sub_i, q_lt_i, q_le_i, q_gt_i, q_ge_i, q_eq_i, q_ne_i, List.map_cons, List.map_nil, List.length_cons, List.length_nil, List.replicate, List.append_nil, List.nil_append, List.cons_append, Nat.reduceAdd, Nat.reduceSub, List.getElem?_cons_zero, List.getElem?_cons_succ, List.set_cons_zero, List.set_cons_succ, Bool.not_true, Bool.not_false, decide_true, decide_false, if_true, if_false, e1, e2, i_b, i_slots, q_int_i, t_max, q_mod_i hm, decide_eq_false hp, q_int_b, sz1, sz2]
    rfl
theorem c_stat (H : DIn S fn hs slots bl b c) (w : Str) (e1 : dEq (.str w) (.str "num") = .ok (.bl false)) (e2 : dIn (.str w) (.lst [.str "load", .str "store"]) = .ok (.bl false)) (e3 : dIn (.str w) (.lst [.str "fetch", .str "keep"]) = .ok (.bl true))
    (hw : WordOk w ["static"]) (ok : PyData.strOk w = true) (hj : ¬ (w = "jump" ∨ w = "when")) : ∃ p, dT3 (stD S hs nm ps rs slots bl a b c w) = .rt (deedD p) ∧ DeedG S fn slots (bl.length : Int) p := by
  refine ⟨(w, [.str "s"]), ?_, g1 hw ok (.static (by simp)) (.inr ⟨_, rfl, by decide +kernel⟩) (fun h => absurd h hj)⟩
  have l1 : dLen [.lst [pairD ("s", "num")]] = .ok (.int 1) := rfl
  have x1 : dIx (.lst [pairD ("s", "num")]) (.int (b % 1)) = .ok (pairD ("s", "num")) := by rw [Int.emod_one]; rfl
  have x2 : dIx (pairD ("s", "num")) (.int 0) = .ok (.str "s") := rfl
  simp only [dT3, q_df, q_st, q_sq, q_at_nx, q_at_rt, q_at_bk, q_at_ct, q_at_ex, q_mi, q_sel_t, q_sel_f, q_out_rt, q_out_nx, q_out_ex, q_rb_ok, q_rb_bad, q_rb_exc, q_tf_ok, q_v0, q_vs, q_w0, q_w0o, q_ws, q_tbq, q_asb, q_nt, q_rsel_t, q_rsel_f, q_ta, q_to, q_va, q_vo, q_vn, q_sett, q_seto, q_bin, q_c, q_callb, q_cons, q_nil, q_tup, q_lst, q_celle, q_ret, q_nx, q_thl, q_thd, q_isi, q_neg, q_neg_i, q_callk, q_drop, q_retn, q_brk, q_cnt, q_ife, q_add_i, q_sub_i, q_lt_i, q_le_i, q_gt_i, q_ge_i, q_eq_i, q_ne_i, List.map_cons, List.map_nil, List.length_cons, List.length_nil, List.replicate, List.append_nil, List.nil_append, List.cons_append, Nat.reduceAdd, Nat.reduceSub, List.getElem?_cons_zero, List.getElem?_cons_succ, List.set_cons_zero, List.set_cons_succ, Bool.not_true, Bool.not_false, decide_true, decide_false, if_true, if_false, e1, e2, e3, i_b, i_w1, l1, q_int_i, q_mod_i (show (0 : Int) < 1 by omega), x1, x2, sz1, sz2]
  rfl
theorem c_jump (H : DIn S fn hs slots bl b c) (w : Str) (e1 : dEq (.str w) (.str "num") = .ok (.bl false)) (e2 : dIn (.str w) (.lst [.str "load", .str "store"]) = .ok (.bl false)) (e3 : dIn (.str w) (.lst [.str "fetch", .str "keep"]) = .ok (.bl false)) (e4 : dIn (.str w) (.lst [.str "jump", .str "when"]) = .ok (.bl true))
    (hw : WordOk w ["place"]) (ok : PyData.strOk w = true) : ∃ p, dT3 (stD S hs nm ps rs slots bl a b c w) = .rt (deedD p) ∧ DeedG S fn slots (bl.length : Int) p := by
  obtain ⟨sf, fl, frow, fpos, fok, sl0, sl1, bl0, bl1, b0, b1, c0, c1⟩ := H
  have hp : (0 : Int) < (bl.length : Int) := by omega
  have m : (if (bl.length : Int) > 1 then (bl.length : Int) else 1) = (bl.length : Int) := by split <;> omega
  refine ⟨(w, [.int ((b * 60 + c) % (bl.length : Int))]), ?_, g1 hw ok (.place (Int.emod_nonneg _ (by omega)) (Int.emod_lt_of_pos _ hp)) (.inl ⟨_, rfl⟩) (fun _ => ⟨_, rfl⟩)⟩
  simp only [dT3, q_df, q_st, q_sq, q_at_nx, q_at_rt, q_at_bk, q_at_ct, q_at_ex, q_mi, q_sel_t, q_sel_f, q_out_rt, q_out_nx, q_out_ex, q_rb_ok, q_rb_bad, q_rb_exc, q_tf_ok, q_v0, q_vs, q_w0, q_w0o, q_ws, q_tbq, q_asb, q_nt, q_rsel_t, q_rsel_f, q_ta, q_to, q_va, q_vo, q_vn, q_sett, q_seto, q_bin, q_c, q_callb, q_cons, q_nil, q_tup, q_lst, q_celle, q_ret, q_nx, q_thl, q_thd, q_isi, q_neg, q_neg_i, q_callk, q_drop, q_retn, q_brk, q_cnt, q_ife, q_add_i, q_sub_i, q_lt_i, q_le_i, q_gt_i, q_ge_i, q_eq_i, q_ne_i, List.map_cons, List.map_nil, List.length_cons, List.length_nil, List.replicate, List.append_nil, List.nil_append, List.cons_append, Nat.reduceAdd, Nat.reduceSub, List.getElem?_cons_zero, List.getElem?_cons_succ, List.set_cons_zero, List.set_cons_succ, Bool.not_true, Bool.not_false, decide_true, decide_false, if_true, if_false, e1, e2, e3, e4, i_b, i_c, i_bl, q_len_l, q_int_i, t_max, m, q_mul_s (show -1000000000000000000000000000000 < b by omega) (show b < 1000000000000000000000000000000 by omega) (show -1000000000000000000000000000000 < (60 : Int) by omega) (show (60 : Int) < 1000000000000000000000000000000 by omega), q_mod_i hp, sz2]
  rfl
theorem c_call (H : DIn S fn hs slots bl b c) : ∃ p, dT3 (stD S hs nm ps rs slots bl a b c "call") = .rt (deedD p) ∧ DeedG S fn slots (bl.length : Int) p := by
  obtain ⟨sf, fl, frow, fpos, fok, sl0, sl1, bl0, bl1, b0, b1, c0, c1⟩ := H
  have hp : (0 : Int) < (hs.length : Int) := by omega
  have h1 := Int.emod_nonneg b (show (hs.length : Int) ≠ 0 by omega)
  have h2 := Int.emod_lt_of_pos b hp
  have hi : (b % (hs.length : Int)).toNat < fn.length := by omega
  obtain ⟨rest, hr⟩ := frow _ _ (List.getElem?_eq_getElem hi)
  have x1 : dIx (.lst hs) (.int (b % (hs.length : Int))) = .ok (.tup (.str fn[(b % (hs.length : Int)).toNat] :: rest)) := q_ix rfl h1 hr
  have x2 : dIx (.tup (.str fn[(b % (hs.length : Int)).toNat] :: rest)) (.int 0) = .ok (.str fn[(b % (hs.length : Int)).toNat]) := q_ix rfl (by omega) rfl
  have hm := List.getElem_mem hi
  generalize fn[(b % (hs.length : Int)).toNat] = z at *
  refine ⟨("call", [.str z]), ?_, g1 ⟨by kernel_rfl, by kernel_rfl⟩ (by decide +kernel) (.func hm) (.inr ⟨_, rfl, fok z hm⟩) (fun h => absurd h (by decide))⟩
  have e1 : dEq (.str "call") (.str "num") = .ok (.bl false) := by kernel_rfl
  have e2 : dIn (.str "call") (.lst [.str "load", .str "store"]) = .ok (.bl false) := by kernel_rfl
  have e3 : dIn (.str "call") (.lst [.str "fetch", .str "keep"]) = .ok (.bl false) := by kernel_rfl
  have e4 : dIn (.str "call") (.lst [.str "jump", .str "when"]) = .ok (.bl false) := by kernel_rfl
  have e5 : dEq (.str "call") (.str "call") = .ok (.bl true) := by kernel_rfl
  simp only [dT3, q_df, q_st, q_sq, q_at_nx, q_at_rt, q_at_bk, q_at_ct, q_at_ex, q_mi, q_sel_t, q_sel_f, q_out_rt, q_out_nx, q_out_ex, q_rb_ok, q_rb_bad, q_rb_exc, q_tf_ok, q_v0, q_vs, q_w0, q_w0o, q_ws, q_tbq, q_asb, q_nt, q_rsel_t, q_rsel_f, q_ta, q_to, q_va, q_vo, q_vn, q_sett, q_seto, q_bin, q_c, q_callb, q_cons, q_nil, q_tup, q_lst, q_celle, q_ret, q_nx, q_thl, q_thd, q_isi, q_neg, q_neg_i, q_callk, q_drop, q_retn, q_brk, q_cnt, q_ife, q_add_i, q_sub_i, q_lt_i, q_le_i, q_gt_i, q_ge_i, q_eq_i, q_ne_i, List.map_cons, List.map_nil, List.length_cons, List.length_nil, List.replicate, List.append_nil, List.nil_append, List.cons_append, Nat.reduceAdd, Nat.reduceSub, List.getElem?_cons_zero, List.getElem?_cons_succ, List.set_cons_zero, List.set_cons_succ, Bool.not_true, Bool.not_false, decide_true, decide_false, if_true, if_false, e1, e2, e3, e4, e5, i_b, i_w2, q_len_l, q_int_i, q_mod_i hp, x1, x2, sz2]
  rfl
theorem c_shape (H : DIn S fn hs slots bl b c) (w : Str) (e1 : dEq (.str w) (.str "num") = .ok (.bl false)) (e2 : dIn (.str w) (.lst [.str "load", .str "store"]) = .ok (.bl false)) (e3 : dIn (.str w) (.lst [.str "fetch", .str "keep"]) = .ok (.bl false)) (e4 : dIn (.str w) (.lst [.str "jump", .str "when"]) = .ok (.bl false)) (e5 : dEq (.str w) (.str "call") = .ok (.bl false)) (e6 : dIn (.str w) (.lst [.str "nil", .str "empty", .str "twin", .str "watch", .str "parted"]) = .ok (.bl true))
    (hw : WordOk w ["shape"]) (ok : PyData.strOk w = true) (hj : ¬ (w = "jump" ∨ w = "when")) : ∃ p, dT3 (stD S hs nm ps rs slots bl a b c w) = .rt (deedD p) ∧ DeedG S fn slots (bl.length : Int) p := by
  obtain ⟨sf, fl, frow, fpos, fok, sl0, sl1, bl0, bl1, b0, b1, c0, c1⟩ := H
  have h8 := sf.eight
  have h1 := Int.emod_nonneg b (show (8 : Int) ≠ 0 by omega)
  have h2 := Int.emod_lt_of_pos b (show (0 : Int) < 8 by omega)
  have hi : (b % 8).toNat < S.length := by omega
  have x1 : dIx (.lst (S.map shD)) (.int (b % 8)) = .ok (shD S[(b % 8).toNat]) := q_ix rfl h1 (by rw [List.getElem?_map, List.getElem?_eq_getElem hi]; rfl)
  have x2 : dIx (shD S[(b % 8).toNat]) (.int 0) = .ok (.str S[(b % 8).toNat].name) := rfl
  have hl : dLen [.lst (S.map shD)] = .ok (.int 8) := by rw [q_len_l, List.length_map, h8]; rfl
  have hS := List.getElem?_eq_getElem hi
  have hm := List.getElem_mem hi
  have hf : S[(b % 8).toNat].form ∈ (["record", "array", "weak", "pair"] : List Str) := by
    have hm2 : S[(b % 8).toNat].form ∈ S.map (·.form) := List.mem_map.mpr ⟨_, hm, rfl⟩
    rw [sf.forms] at hm2
    revert hm2
    generalize S[(b % 8).toNat].form = q
    intro hq
    simp only [List.mem_cons, List.not_mem_nil, or_false] at hq ⊢
    rcases hq with h | h | h | h | h | h | h | h <;> simp [h]
  generalize S[(b % 8).toNat] = s at *
  refine ⟨(w, [.str s.name]), ?_, g1 hw ok (.shape hS hf) (.inr ⟨_, rfl, (sf.txt s hm).1⟩) (fun h => absurd h hj)⟩
  simp only [dT3, q_df, q_st, q_sq, q_at_nx, q_at_rt, q_at_bk, q_at_ct, q_at_ex, q_mi, q_sel_t, q_sel_f, q_out_rt, q_out_nx, q_out_ex, q_rb_ok, q_rb_bad, q_rb_exc, q_tf_ok, q_v0, q_vs, q_w0, q_w0o, q_ws, q_tbq, q_asb, q_nt, q_rsel_t, q_rsel_f, q_ta, q_to, q_va, q_vo, q_vn, q_sett, q_seto, q_bin, q_c, q_callb, q_cons, q_nil, q_tup, q_lst, q_celle, q_ret, q_nx, q_thl, q_thd, q_isi, q_neg, q_neg_i, q_callk, q_drop, q_retn, q_brk, q_cnt, q_ife, q_add_i, q_sub_i, q_lt_i, q_le_i, q_gt_i, q_ge_i, q_eq_i, q_ne_i, List.map_cons, List.map_nil, List.length_cons, List.length_nil, List.replicate, List.append_nil, List.nil_append, List.cons_append, Nat.reduceAdd, Nat.reduceSub, List.getElem?_cons_zero, List.getElem?_cons_succ, List.set_cons_zero, List.set_cons_succ, Bool.not_true, Bool.not_false, decide_true, decide_false, if_true, if_false, e1, e2, e3, e4, e5, e6, i_b, i_w0, hl, q_int_i, q_mod_i (show (0 : Int) < 8 by omega), x1, x2, sz2, sz5]
  rfl
theorem lc_filterG {α : Type} (g : α → D) (t : α → Bool) {as : List α} {vs : List Nat} {mi : MA} {tb : D → Sc → Option Sc} {mt : MT} {me : ME} {r : Sc} (h0 : notOwn r vs = true) (h1 : mi r = .ok (as.map g)) (hl : as.length < 1000000) (h2 : ∀ z ∈ as, ∃ r1, tb (g z) (wipeS r vs) = some r1 ∧ mt r1 = .ok (t z) ∧ me r1 = .ok (g z)) : mLC vs mi tb mt me r = .ok (.l ((as.filter t).map g)) := by
  unfold mLC
  rw [h0, h1]
  show compL tb mt me (wipeS r vs) (as.map g) [] = _
  have key : ∀ (xs ac : List α), (∀ z ∈ xs, z ∈ as) → xs.length + ac.length < 1000000 → compL tb mt me (wipeS r vs) (xs.map g) (ac.map g) = .ok (.l ((ac ++ xs.filter t).map g)) := by
    intro xs
    induction xs with
    | nil =>
      intro ac _ _
      simp [compL]
    | cons x xs ih =>
      intro ac hin hh
      obtain ⟨r1, g1, g2, g3⟩ := h2 x (hin x List.mem_cons_self)
      rw [List.length_cons] at hh
      have hs : (ac.map g).length < sizeLine := Nat.lt_of_lt_of_le (by rw [List.length_map]; omega) sizeLine_big
      simp only [List.map_cons, compL, g1, g2, R.ne, q_rb_ok]
      cases ec : t x with
      | true =>
        simp only [g3, R.ne, q_rb_ok, if_pos hs]
        have := ih (ac ++ [x]) (fun z hz => hin z (List.mem_cons_of_mem _ hz)) (by rw [List.length_append]; simp; omega)
        rw [List.map_append, List.map_cons, List.map_nil] at this
        rw [this]
        simp [ec]
      | false =>
        rw [ih ac (fun z hz => hin z (List.mem_cons_of_mem _ hz)) (by omega)]
        simp [ec]
  have := key as [] (fun z hz => hz) (by simpa using hl)
  simpa using this
theorem found_ok (H : DIn S fn hs slots bl b c) (w f : Str) (e8 : dDget DD (.str w) = .ok (.str f)) (hf : f ∈ (["record", "array", "weak", "pair"] : List Str)) : ∃ Fs : List Sh, (∀ s ∈ Fs, s ∈ S ∧ s.form = f) ∧ 0 < Fs.length ∧ Fs.length ≤ 8 ∧
    mLC [7] (mItems (mBin dIx (mVar 0) (mC (.int 0)))) (bName 7) (mTAnd (mTB (mBin dEq (mBin dIx (mVar 7) (mC (.int 1))) (mBin dDget (mVar 5) (mVar 4)))) (mTB (mBin dGt (mCallB dLen (mCons (mBin dIx (mVar 7) (mC (.int 2))) mNil)) (mC (.int 0))))) e_law_any_deed_1 (stD S hs nm ps rs slots bl a b c w) = .ok (.l (Fs.map shD)) := by
  obtain ⟨sf, fl, frow, fpos, fok, sl0, sl1, bl0, bl1, b0, b1, c0, c1⟩ := H
  have h8 := sf.eight
  refine ⟨S.filter fun s => decide (s.form = f), fun s hs => ?_, ?_, ?_, ?_⟩
  · have := List.mem_filter.mp hs
    exact ⟨this.1, of_decide_eq_true this.2⟩
  · obtain ⟨s, hs, he⟩ : ∃ s ∈ S, s.form = f := by
      have hm : f ∈ S.map (·.form) := by
        rw [sf.forms]
        simp only [List.mem_cons, List.not_mem_nil, or_false] at hf ⊢
        rcases hf with h | h | h | h <;> simp [h]
      obtain ⟨s, h1, h2⟩ := List.mem_map.mp hm
      exact ⟨s, h1, h2⟩
    exact List.length_pos_of_mem (List.mem_filter.mpr ⟨hs, decide_eq_true he⟩)
  · have := List.length_filter_le (fun s => decide (s.form = f)) S
    omega
  · refine lc_filterG shD _ rfl (by simp only [q_df, q_st, q_sq, q_at_nx, q_at_rt, q_at_bk, q_at_ct, q_at_ex, q_mi, q_sel_t, q_sel_f, q_out_rt, q_out_nx, q_out_ex, q_rb_ok, q_rb_bad, q_rb_exc, q_tf_ok, q_v0, q_vs, q_w0, q_w0o, q_ws, q_tbq, q_asb, q_nt, q_rsel_t, q_rsel_f, q_ta, q_to, q_va, q_vo, q_vn, q_sett, q_seto, q_bin, q_c, q_callb, q_cons, q_nil, q_tup, q_lst, q_celle, q_ret, q_nx, q_thl, q_thd, q_isi, q_neg, q_neg_i, q_callk, q_drop, q_retn, q_brk, q_cnt, q_ife, q_add_i, q_sub_i, q_lt_i, q_le_i, q_gt_i, q_ge_i, q_eq_i, q_ne_i, List.map_cons, List.map_nil, List.length_cons, List.length_nil, List.replicate, List.append_nil, List.nil_append, List.cons_append, Nat.reduceAdd, Nat.reduceSub, List.getElem?_cons_zero, List.getElem?_cons_succ, List.set_cons_zero, List.set_cons_succ, Bool.not_true, Bool.not_false, decide_true, decide_false, if_true, if_false, q_it, i_w0, q_items_l]) (by omega) (fun s hs' => ⟨_, rfl, ?_, ?_⟩)
    · show mTAnd _ _ [some (.val (wD S hs)), some (.val (.tup [nm, ps, rs, .int slots, .lst bl])), some (.val (.lst [.int a, .int b, .int c])), some (.val (.lst WL)), some (.val (.str w)), some (.val DD), none, some (.val (shD s))] = _
      have x1 : dIx (shD s) (.int 1) = .ok (.str s.form) := rfl
      have x2 : dIx (shD s) (.int 2) = .ok (.tup (s.fields.map pairD)) := rfl
      have hp := sf.some_ s hs'
      have hp' : (0 : Int) < (s.fields.length : Int) := by omega
      by_cases he : s.form = f
      · simp only [q_df, q_st, q_sq, q_at_nx, q_at_rt, q_at_bk, q_at_ct, q_at_ex, q_mi, q_sel_t, q_sel_f, q_out_rt, q_out_nx, q_out_ex, q_rb_ok, q_rb_bad, q_rb_exc, q_tf_ok, q_v0, q_vs, q_w0, q_w0o, q_ws, q_tbq, q_asb, q_nt, q_rsel_t, q_rsel_f, q_ta, q_to, q_va, q_vo, q_vn, q_sett, q_seto, q_bin, q_c, q_callb, q_cons, q_nil, q_tup, q_lst, q_celle, q_ret, q_nx, q_thl, q_thd, q_isi, q_neg, q_neg_i, q_callk, q_drop, q_retn, q_brk, q_cnt, q_ife, q_add_i, q_sub_i, q_lt_i, q_le_i, q_gt_i, q_ge_i, q_eq_i, q_ne_i, List.map_cons, List.map_nil, List.length_cons, List.length_nil, List.replicate, List.append_nil, List.nil_append, List.cons_append, Nat.reduceAdd, Nat.reduceSub, List.getElem?_cons_zero, List.getElem?_cons_succ, List.set_cons_zero, List.set_cons_succ, Bool.not_true, Bool.not_false, decide_true, decide_false, if_true, if_false, x1, x2, e8, q_eq_s, decide_eq_true he, q_len_t, List.length_map, decide_eq_true hp']
      · simp only [q_df, q_st, q_sq, q_at_nx, q_at_rt, q_at_bk, q_at_ct, q_at_ex, q_mi, q_sel_t, q_sel_f, q_out_rt, q_out_nx, q_out_ex, q_rb_ok, q_rb_bad, q_rb_exc, q_tf_ok, q_v0, q_vs, q_w0, q_w0o, q_ws, q_tbq, q_asb, q_nt, q_rsel_t, q_rsel_f, q_ta, q_to, q_va, q_vo, q_vn, q_sett, q_seto, q_bin, q_c, q_callb, q_cons, q_nil, q_tup, q_lst, q_celle, q_ret, q_nx, q_thl, q_thd, q_isi, q_neg, q_neg_i, q_callk, q_drop, q_retn, q_brk, q_cnt, q_ife, q_add_i, q_sub_i, q_lt_i, q_le_i, q_gt_i, q_ge_i, q_eq_i, q_ne_i, List.map_cons, List.map_nil, List.length_cons, List.length_nil, List.replicate, List.append_nil, List.nil_append, List.cons_append, Nat.reduceAdd, Nat.reduceSub, List.getElem?_cons_zero, List.getElem?_cons_succ, List.set_cons_zero, List.set_cons_succ, Bool.not_true, Bool.not_false, decide_true, decide_false, if_true, if_false, x1, x2, e8, q_eq_s, decide_eq_false he]
    · show e_law_any_deed_1 [some (.val (wD S hs)), some (.val (.tup [nm, ps, rs, .int slots, .lst bl])), some (.val (.lst [.int a, .int b, .int c])), some (.val (.lst WL)), some (.val (.str w)), some (.val DD), none, some (.val (shD s))] = _
      simp only [e_law_any_deed_1, q_df, q_st, q_sq, q_at_nx, q_at_rt, q_at_bk, q_at_ct, q_at_ex, q_mi, q_sel_t, q_sel_f, q_out_rt, q_out_nx, q_out_ex, q_rb_ok, q_rb_bad, q_rb_exc, q_tf_ok, q_v0, q_vs, q_w0, q_w0o, q_ws, q_tbq, q_asb, q_nt, q_rsel_t, q_rsel_f, q_ta, q_to, q_va, q_vo, q_vn, q_sett, q_seto, q_bin, q_c, q_callb, q_cons, q_nil, q_tup, q_lst, q_celle, q_ret, q_nx, q_thl, q_thd, q_isi, q_neg, q_neg_i, q_callk, q_drop, q_retn, q_brk, q_cnt, q_ife, q_add_i, q_sub_i, q_lt_i, q_le_i, q_gt_i, q_ge_i, q_eq_i, q_ne_i, List.map_cons, List.map_nil, List.length_cons, List.length_nil, List.replicate, List.append_nil, List.nil_append, List.cons_append, Nat.reduceAdd, Nat.reduceSub, List.getElem?_cons_zero, List.getElem?_cons_succ, List.set_cons_zero, List.set_cons_succ, Bool.not_true, Bool.not_false, decide_true, decide_false, if_true, if_false]
theorem to_T10 (w : Str) (e1 : dEq (.str w) (.str "num") = .ok (.bl false)) (e2 : dIn (.str w) (.lst [.str "load", .str "store"]) = .ok (.bl false)) (e3 : dIn (.str w) (.lst [.str "fetch", .str "keep"]) = .ok (.bl false)) (e4 : dIn (.str w) (.lst [.str "jump", .str "when"]) = .ok (.bl false)) (e5 : dEq (.str w) (.str "call") = .ok (.bl false)) (e6 : dIn (.str w) (.lst [.str "nil", .str "empty", .str "twin", .str "watch", .str "parted"]) = .ok (.bl false)) (e7 : dDin true (.str w) DD = .ok (.bl false)) :
    dT3 (stD S hs nm ps rs slots bl a b c w) = dT10 (stD S hs nm ps rs slots bl a b c w) := by
  unfold dT3
  rw [seq_nx (r' := stD S hs nm ps rs slots bl a b c w) (by simp only [q_df, q_st, q_sq, q_at_nx, q_at_rt, q_at_bk, q_at_ct, q_at_ex, q_mi, q_sel_t, q_sel_f, q_out_rt, q_out_nx, q_out_ex, q_rb_ok, q_rb_bad, q_rb_exc, q_tf_ok, q_v0, q_vs, q_w0, q_w0o, q_ws, q_tbq, q_asb, q_nt, q_rsel_t, q_rsel_f, q_ta, q_to, q_va, q_vo, q_vn, q_sett, q_seto, q_bin, q_c, q_callb, q_cons, q_nil, q_tup, q_lst, q_celle, q_ret, q_nx, q_thl, q_thd, q_isi, q_neg, q_neg_i, q_callk, q_drop, q_retn, q_brk, q_cnt, q_ife, q_add_i, q_sub_i, q_lt_i, q_le_i, q_gt_i, q_ge_i, q_eq_i, q_ne_i, List.map_cons, List.map_nil, List.length_cons, List.length_nil, List.replicate, List.append_nil, List.nil_append, List.cons_append, Nat.reduceAdd, Nat.reduceSub, List.getElem?_cons_zero, List.getElem?_cons_succ, List.set_cons_zero, List.set_cons_succ, Bool.not_true, Bool.not_false, decide_true, decide_false, if_true, if_false, e1])]
  rw [seq_nx (r' := stD S hs nm ps rs slots bl a b c w) (by simp only [q_df, q_st, q_sq, q_at_nx, q_at_rt, q_at_bk, q_at_ct, q_at_ex, q_mi, q_sel_t, q_sel_f, q_out_rt, q_out_nx, q_out_ex, q_rb_ok, q_rb_bad, q_rb_exc, q_tf_ok, q_v0, q_vs, q_w0, q_w0o, q_ws, q_tbq, q_asb, q_nt, q_rsel_t, q_rsel_f, q_ta, q_to, q_va, q_vo, q_vn, q_sett, q_seto, q_bin, q_c, q_callb, q_cons, q_nil, q_tup, q_lst, q_celle, q_ret, q_nx, q_thl, q_thd, q_isi, q_neg, q_neg_i, q_callk, q_drop, q_retn, q_brk, q_cnt, q_ife, q_add_i, q_sub_i, q_lt_i, q_le_i, q_gt_i, q_ge_i, q_eq_i, q_ne_i, List.map_cons, List.map_nil, List.length_cons, List.length_nil, List.replicate, List.append_nil, List.nil_append, List.cons_append, Nat.reduceAdd, Nat.reduceSub, List.getElem?_cons_zero, List.getElem?_cons_succ, List.set_cons_zero, List.set_cons_succ, Bool.not_true, Bool.not_false, decide_true, decide_false, if_true, if_false, e2, sz2])]
  rw [seq_nx (r' := stD S hs nm ps rs slots bl a b c w) (by simp only [q_df, q_st, q_sq, q_at_nx, q_at_rt, q_at_bk, q_at_ct, q_at_ex, q_mi, q_sel_t, q_sel_f, q_out_rt, q_out_nx, q_out_ex, q_rb_ok, q_rb_bad, q_rb_exc, q_tf_ok, q_v0, q_vs, q_w0, q_w0o, q_ws, q_tbq, q_asb, q_nt, q_rsel_t, q_rsel_f, q_ta, q_to, q_va, q_vo, q_vn, q_sett, q_seto, q_bin, q_c, q_callb, q_cons, q_nil, q_tup, q_lst, q_celle, q_ret, q_nx, q_thl, q_thd, q_isi, q_neg, q_neg_i, q_callk, q_drop, q_retn, q_brk, q_cnt, q_ife, q_add_i, q_sub_i, q_lt_i, q_le_i, q_gt_i, q_ge_i, q_eq_i, q_ne_i, List.map_cons, List.map_nil, List.length_cons, List.length_nil, List.replicate, List.append_nil, List.nil_append, List.cons_append, Nat.reduceAdd, Nat.reduceSub, List.getElem?_cons_zero, List.getElem?_cons_succ, List.set_cons_zero, List.set_cons_succ, Bool.not_true, Bool.not_false, decide_true, decide_false, if_true, if_false, e3, sz2])]
  rw [seq_nx (r' := stD S hs nm ps rs slots bl a b c w) (by simp only [q_df, q_st, q_sq, q_at_nx, q_at_rt, q_at_bk, q_at_ct, q_at_ex, q_mi, q_sel_t, q_sel_f, q_out_rt, q_out_nx, q_out_ex, q_rb_ok, q_rb_bad, q_rb_exc, q_tf_ok, q_v0, q_vs, q_w0, q_w0o, q_ws, q_tbq, q_asb, q_nt, q_rsel_t, q_rsel_f, q_ta, q_to, q_va, q_vo, q_vn, q_sett, q_seto, q_bin, q_c, q_callb, q_cons, q_nil, q_tup, q_lst, q_celle, q_ret, q_nx, q_thl, q_thd, q_isi, q_neg, q_neg_i, q_callk, q_drop, q_retn, q_brk, q_cnt, q_ife, q_add_i, q_sub_i, q_lt_i, q_le_i, q_gt_i, q_ge_i, q_eq_i, q_ne_i, List.map_cons, List.map_nil, List.length_cons, List.length_nil, List.replicate, List.append_nil, List.nil_append, List.cons_append, Nat.reduceAdd, Nat.reduceSub, List.getElem?_cons_zero, List.getElem?_cons_succ, List.set_cons_zero, List.set_cons_succ, Bool.not_true, Bool.not_false, decide_true, decide_false, if_true, if_false, e4, sz2])]
  rw [seq_nx (r' := stD S hs nm ps rs slots bl a b c w) (by simp only [q_df, q_st, q_sq, q_at_nx, q_at_rt, q_at_bk, q_at_ct, q_at_ex, q_mi, q_sel_t, q_sel_f, q_out_rt, q_out_nx, q_out_ex, q_rb_ok, q_rb_bad, q_rb_exc, q_tf_ok, q_v0, q_vs, q_w0, q_w0o, q_ws, q_tbq, q_asb, q_nt, q_rsel_t, q_rsel_f, q_ta, q_to, q_va, q_vo, q_vn, q_sett, q_seto, q_bin, q_c, q_callb, q_cons, q_nil, q_tup, q_lst, q_celle, q_ret, q_nx, q_thl, q_thd, q_isi, q_neg, q_neg_i, q_callk, q_drop, q_retn, q_brk, q_cnt, q_ife, q_add_i, q_sub_i, q_lt_i, q_le_i, q_gt_i, q_ge_i, q_eq_i, q_ne_i, List.map_cons, List.map_nil, List.length_cons, List.length_nil, List.replicate, List.append_nil, List.nil_append, List.cons_append, Nat.reduceAdd, Nat.reduceSub, List.getElem?_cons_zero, List.getElem?_cons_succ, List.set_cons_zero, List.set_cons_succ, Bool.not_true, Bool.not_false, decide_true, decide_false, if_true, if_false, e5])]
  rw [seq_nx (r' := stD S hs nm ps rs slots bl a b c w) (by simp only [q_df, q_st, q_sq, q_at_nx, q_at_rt, q_at_bk, q_at_ct, q_at_ex, q_mi, q_sel_t, q_sel_f, q_out_rt, q_out_nx, q_out_ex, q_rb_ok, q_rb_bad, q_rb_exc, q_tf_ok, q_v0, q_vs, q_w0, q_w0o, q_ws, q_tbq, q_asb, q_nt, q_rsel_t, q_rsel_f, q_ta, q_to, q_va, q_vo, q_vn, q_sett, q_seto, q_bin, q_c, q_callb, q_cons, q_nil, q_tup, q_lst, q_celle, q_ret, q_nx, q_thl, q_thd, q_isi, q_neg, q_neg_i, q_callk, q_drop, q_retn, q_brk, q_cnt, q_ife, q_add_i, q_sub_i, q_lt_i, q_le_i, q_gt_i, q_ge_i, q_eq_i, q_ne_i, List.map_cons, List.map_nil, List.length_cons, List.length_nil, List.replicate, List.append_nil, List.nil_append, List.cons_append, Nat.reduceAdd, Nat.reduceSub, List.getElem?_cons_zero, List.getElem?_cons_succ, List.set_cons_zero, List.set_cons_succ, Bool.not_true, Bool.not_false, decide_true, decide_false, if_true, if_false, e6, sz5])]
  rw [seq_nx (r' := stD S hs nm ps rs slots bl a b c w) (by simp only [q_df, q_st, q_sq, q_at_nx, q_at_rt, q_at_bk, q_at_ct, q_at_ex, q_mi, q_sel_t, q_sel_f, q_out_rt, q_out_nx, q_out_ex, q_rb_ok, q_rb_bad, q_rb_exc, q_tf_ok, q_v0, q_vs, q_w0, q_w0o, q_ws, q_tbq, q_asb, q_nt, q_rsel_t, q_rsel_f, q_ta, q_to, q_va, q_vo, q_vn, q_sett, q_seto, q_bin, q_c, q_callb, q_cons, q_nil, q_tup, q_lst, q_celle, q_ret, q_nx, q_thl, q_thd, q_isi, q_neg, q_neg_i, q_callk, q_drop, q_retn, q_brk, q_cnt, q_ife, q_add_i, q_sub_i, q_lt_i, q_le_i, q_gt_i, q_ge_i, q_eq_i, q_ne_i, List.map_cons, List.map_nil, List.length_cons, List.length_nil, List.replicate, List.append_nil, List.nil_append, List.cons_append, Nat.reduceAdd, Nat.reduceSub, List.getElem?_cons_zero, List.getElem?_cons_succ, List.set_cons_zero, List.set_cons_succ, Bool.not_true, Bool.not_false, decide_true, decide_false, if_true, if_false, e7])]
  rfl
theorem c_form (H : DIn S fn hs slots bl b c) (w f : Str) (e1 : dEq (.str w) (.str "num") = .ok (.bl false)) (e2 : dIn (.str w) (.lst [.str "load", .str "store"]) = .ok (.bl false)) (e3 : dIn (.str w) (.lst [.str "fetch", .str "keep"]) = .ok (.bl false)) (e4 : dIn (.str w) (.lst [.str "jump", .str "when"]) = .ok (.bl false)) (e5 : dEq (.str w) (.str "call") = .ok (.bl false)) (e6 : dIn (.str w) (.lst [.str "nil", .str "empty", .str "twin", .str "watch", .str "parted"]) = .ok (.bl false)) (e7 : dDin true (.str w) DD = .ok (.bl false)) (e8 : dDget DD (.str w) = .ok (.str f)) (e9 : dIn (.str w) (.lst [.str "get", .str "put"]) = .ok (.bl false))
    (hw : WordOk w [f]) (ok : PyData.strOk w = true) (hj : ¬ (w = "jump" ∨ w = "when")) (hf : f ∈ (["record", "array", "weak", "pair"] : List Str)) (_h : True) : ∃ p, dT3 (stD S hs nm ps rs slots bl a b c w) = .rt (deedD p) ∧ DeedG S fn slots (bl.length : Int) p := by
  rw [to_T10 w e1 e2 e3 e4 e5 e6 e7]
  obtain ⟨Fs, f1, f2, f3, f4⟩ := found_ok (nm := nm) (ps := ps) (rs := rs) (a := a) H w f e8 hf
  obtain ⟨sf, fl, frow, fpos, fok, sl0, sl1, bl0, bl1, b0, b1, c0, c1⟩ := H
  have hp : (0 : Int) < ((Fs.map shD).length : Int) := by rw [List.length_map]; omega
  have h1 := Int.emod_nonneg b (show ((Fs.map shD).length : Int) ≠ 0 by omega)
  have h2 := Int.emod_lt_of_pos b hp
  have hi : (b % ((Fs.map shD).length : Int)).toNat < Fs.length := by rw [List.length_map] at h2 ⊢; omega
  have x1 : dIxL (Fs.map shD) (.int (b % ((Fs.map shD).length : Int))) = .ok (shD Fs[(b % ((Fs.map shD).length : Int)).toNat]) := t_ixo h1 (by rw [List.getElem?_map, List.getElem?_eq_getElem hi]; rfl)
  obtain ⟨m1, m2⟩ := f1 _ (List.getElem_mem hi)
  generalize Fs[(b % ((Fs.map shD).length : Int)).toNat] = s at *
  have x2 : dIx (shD s) (.int 0) = .ok (.str s.name) := rfl
  obtain ⟨n, hn⟩ := List.getElem?_of_mem m1
  refine ⟨(w, [.str s.name]), ?_, g1 hw ok (.form hn hf m2.symm) (.inr ⟨_, rfl, (sf.txt s m1).1⟩) (fun h => absurd h hj)⟩
  unfold dT10
  rw [seq_nx (r' := [some (.val (wD S hs)), some (.val (.tup [nm, ps, rs, .int slots, .lst bl])), some (.val (.lst [.int a, .int b, .int c])), some (.val (.lst WL)), some (.val (.str w)), some (.val DD), some (.own (.l (Fs.map shD))), none]) (by rw [q_seto, f4]; rfl)]
  rw [seq_nx (r' := [some (.val (wD S hs)), some (.val (.tup [nm, ps, rs, .int slots, .lst bl])), some (.val (.lst [.int a, .int b, .int c])), some (.val (.lst WL)), some (.val (.str w)), some (.val DD), some (.own (.l (Fs.map shD))), some (.val (shD s))]) (by
    simp only [q_df, q_st, q_sq, q_at_nx, q_at_rt, q_at_bk, q_at_ct, q_at_ex, q_mi, q_sel_t, q_sel_f, q_out_rt, q_out_nx, q_out_ex, q_rb_ok, q_rb_bad, q_rb_exc, q_tf_ok, q_v0, q_vs, q_w0, q_w0o, q_ws, q_tbq, q_asb, q_nt, q_rsel_t, q_rsel_f, q_ta, q_to, q_va, q_vo, q_vn, q_sett, q_seto, q_bin, q_c, q_callb, q_cons, q_nil, q_tup, q_lst, q_celle, q_ret, q_nx, q_thl, q_thd, q_isi, q_neg, q_neg_i, q_callk, q_drop, q_retn, q_brk, q_cnt, q_ife, q_add_i, q_sub_i, q_lt_i, q_le_i, q_gt_i, q_ge_i, q_eq_i, q_ne_i, List.map_cons, List.map_nil, List.length_cons, List.length_nil, List.replicate, List.append_nil, List.nil_append, List.cons_append, Nat.reduceAdd, Nat.reduceSub, List.getElem?_cons_zero, List.getElem?_cons_succ, List.set_cons_zero, List.set_cons_succ, Bool.not_true, Bool.not_false, decide_true, decide_false, if_true, if_false, q_ixo, q_oas, q_oa0, q_opt, i_b, q_int_i, q_len_l, q_mod_i hp, x1])]
  simp only [q_df, q_st, q_sq, q_at_nx, q_at_rt, q_at_bk, q_at_ct, q_at_ex, q_mi, q_sel_t, q_sel_f, q_out_rt, q_out_nx, q_out_ex, q_rb_ok, q_rb_bad, q_rb_exc, q_tf_ok, q_v0, q_vs, q_w0, q_w0o, q_ws, q_tbq, q_asb, q_nt, q_rsel_t, q_rsel_f, q_ta, q_to, q_va, q_vo, q_vn, q_sett, q_seto, q_bin, q_c, q_callb, q_cons, q_nil, q_tup, q_lst, q_celle, q_ret, q_nx, q_thl, q_thd, q_isi, q_neg, q_neg_i, q_callk, q_drop, q_retn, q_brk, q_cnt, q_ife, q_add_i, q_sub_i, q_lt_i, q_le_i, q_gt_i, q_ge_i, q_eq_i, q_ne_i, List.map_cons, List.map_nil, List.length_cons, List.length_nil, List.replicate, List.append_nil, List.nil_append, List.cons_append, Nat.reduceAdd, Nat.reduceSub, List.getElem?_cons_zero, List.getElem?_cons_succ, List.set_cons_zero, List.set_cons_succ, Bool.not_true, Bool.not_false, decide_true, decide_false, if_true, if_false, e9, sz2, x2]
  rfl
theorem c_field (H : DIn S fn hs slots bl b c) (w : Str) (e1 : dEq (.str w) (.str "num") = .ok (.bl false)) (e2 : dIn (.str w) (.lst [.str "load", .str "store"]) = .ok (.bl false)) (e3 : dIn (.str w) (.lst [.str "fetch", .str "keep"]) = .ok (.bl false)) (e4 : dIn (.str w) (.lst [.str "jump", .str "when"]) = .ok (.bl false)) (e5 : dEq (.str w) (.str "call") = .ok (.bl false)) (e6 : dIn (.str w) (.lst [.str "nil", .str "empty", .str "twin", .str "watch", .str "parted"]) = .ok (.bl false)) (e7 : dDin true (.str w) DD = .ok (.bl false)) (e8 : dDget DD (.str w) = .ok (.str "record")) (e9 : dIn (.str w) (.lst [.str "get", .str "put"]) = .ok (.bl true))
    (hw : WordOk w ["record", "field"]) (ok : PyData.strOk w = true) (hj : ¬ (w = "jump" ∨ w = "when")) : ∃ p, dT3 (stD S hs nm ps rs slots bl a b c w) = .rt (deedD p) ∧ DeedG S fn slots (bl.length : Int) p := by
  rw [to_T10 w e1 e2 e3 e4 e5 e6 e7]
  obtain ⟨Fs, f1, f2, f3, f4⟩ := found_ok (nm := nm) (ps := ps) (rs := rs) (a := a) H w "record" e8 (by simp)
  obtain ⟨sf, fl, frow, fpos, fok, sl0, sl1, bl0, bl1, b0, b1, c0, c1⟩ := H
  have hp : (0 : Int) < ((Fs.map shD).length : Int) := by rw [List.length_map]; omega
  have h1 := Int.emod_nonneg b (show ((Fs.map shD).length : Int) ≠ 0 by omega)
  have h2 := Int.emod_lt_of_pos b hp
  have hi : (b % ((Fs.map shD).length : Int)).toNat < Fs.length := by rw [List.length_map] at h2 ⊢; omega
  have x1 : dIxL (Fs.map shD) (.int (b % ((Fs.map shD).length : Int))) = .ok (shD Fs[(b % ((Fs.map shD).length : Int)).toNat]) := t_ixo h1 (by rw [List.getElem?_map, List.getElem?_eq_getElem hi]; rfl)
  obtain ⟨m1, m2⟩ := f1 _ (List.getElem_mem hi)
  generalize Fs[(b % ((Fs.map shD).length : Int)).toNat] = s at *
  have x2 : dIx (shD s) (.int 0) = .ok (.str s.name) := rfl
  have x3 : dIx (shD s) (.int 2) = .ok (.tup (s.fields.map pairD)) := rfl
  have fp := sf.some_ s m1
  have hq : (0 : Int) < ((s.fields.map pairD).length : Int) := by rw [List.length_map]; omega
  have k1 := Int.emod_nonneg c (show ((s.fields.map pairD).length : Int) ≠ 0 by omega)
  have k2 := Int.emod_lt_of_pos c hq
  have hk : (c % ((s.fields.map pairD).length : Int)).toNat < s.fields.length := by rw [List.length_map] at k2 ⊢; omega
  have x4 : dIx (.tup (s.fields.map pairD)) (.int (c % ((s.fields.map pairD).length : Int))) = .ok (pairD s.fields[(c % ((s.fields.map pairD).length : Int)).toNat]) := q_ix rfl k1 (by rw [List.getElem?_map, List.getElem?_eq_getElem hk]; rfl)
  have mq := List.getElem_mem hk
  generalize s.fields[(c % ((s.fields.map pairD).length : Int)).toNat] = q at *
  have x5 : dIx (pairD q) (.int 0) = .ok (.str q.1) := rfl
  obtain ⟨n, hn⟩ := List.getElem?_of_mem m1
  refine ⟨(w, [.str s.name, .str q.1]), ?_, g2 hw ok (.form hn (by simp) m2.symm) (.field hn (List.mem_map.mpr ⟨q, mq, rfl⟩)) ⟨_, rfl, (sf.txt s m1).1⟩ ⟨_, rfl, ((sf.txt s m1).2.2 q mq).1⟩ hj⟩
  unfold dT10
  rw [seq_nx (r' := [some (.val (wD S hs)), some (.val (.tup [nm, ps, rs, .int slots, .lst bl])), some (.val (.lst [.int a, .int b, .int c])), some (.val (.lst WL)), some (.val (.str w)), some (.val DD), some (.own (.l (Fs.map shD))), none]) (by rw [q_seto, f4]; rfl)]
  rw [seq_nx (r' := [some (.val (wD S hs)), some (.val (.tup [nm, ps, rs, .int slots, .lst bl])), some (.val (.lst [.int a, .int b, .int c])), some (.val (.lst WL)), some (.val (.str w)), some (.val DD), some (.own (.l (Fs.map shD))), some (.val (shD s))]) (by
    simp only [q_df, q_st, q_sq, q_at_nx, q_at_rt, q_at_bk, q_at_ct, q_at_ex, q_mi, q_sel_t, q_sel_f, q_out_rt, q_out_nx, q_out_ex, q_rb_ok, q_rb_bad, q_rb_exc, q_tf_ok, q_v0, q_vs, q_w0, q_w0o, q_ws, q_tbq, q_asb, q_nt, q_rsel_t, q_rsel_f, q_ta, q_to, q_va, q_vo, q_vn, q_sett, q_seto, q_bin, q_c, q_callb, q_cons, q_nil, q_tup, q_lst, q_celle, q_ret, q_nx, q_thl, q_thd, q_isi, q_neg, q_neg_i, q_callk, q_drop, q_retn, q_brk, q_cnt, q_ife, q_add_i, q_sub_i, q_lt_i, q_le_i, q_gt_i, q_ge_i, q_eq_i, q_ne_i, List.map_cons, List.map_nil, List.length_cons, List.length_nil, List.replicate, List.append_nil, List.nil_append, List.cons_append, Nat.reduceAdd, Nat.reduceSub, List.getElem?_cons_zero, List.getElem?_cons_succ, List.set_cons_zero, List.set_cons_succ, Bool.not_true, Bool.not_false, decide_true, decide_false, if_true, if_false, q_ixo, q_oas, q_oa0, q_opt, i_b, q_int_i, q_len_l, q_mod_i hp, x1])]
  simp only [q_df, q_st, q_sq, q_at_nx, q_at_rt, q_at_bk, q_at_ct, q_at_ex, q_mi, q_sel_t, q_sel_f, q_out_rt, q_out_nx, q_out_ex, q_rb_ok, q_rb_bad, q_rb_exc, q_tf_ok, q_v0, q_vs, q_w0, q_w0o, q_ws, q_tbq, q_asb, q_nt, q_rsel_t, q_rsel_f, q_ta, q_to, q_va, q_vo, q_vn, q_sett, q_seto, q_bin, q_c, q_callb, q_cons, q_nil, q_tup, q_lst, q_celle, q_ret, q_nx, q_thl, q_thd, q_isi, q_neg, q_neg_i, q_callk, q_drop, q_retn, q_brk, q_cnt, q_ife, q_add_i, q_sub_i, q_lt_i, q_le_i, q_gt_i, q_ge_i, q_eq_i, q_ne_i, List.map_cons, List.map_nil, List.length_cons, List.length_nil, List.replicate, List.append_nil, List.nil_append, List.cons_append, Nat.reduceAdd, Nat.reduceSub, List.getElem?_cons_zero, List.getElem?_cons_succ, List.set_cons_zero, List.set_cons_succ, Bool.not_true, Bool.not_false, decide_true, decide_false, if_true, if_false, e9, sz2, sz3, x2, x3, x4, x5, i_c, q_len_t, q_int_i, q_mod_i hq]
  rfl
end

theorem e_deed {S : List Sh} {fn : List Str} {hs : List D} {nm ps rs : D} {slots : Int} {bl : List D} {a b c : Int} (H : DIn S fn hs slots bl b c) (a0 : 0 ≤ a) (a1 : a < 40) : ∃ p, m_law_any_deed [wD S hs, .tup [nm, ps, rs, .int slots, .lst bl], .lst [.int a, .int b, .int c]] = .ok (deedD p) ∧ DeedG S fn slots (bl.length : Int) p := by
  have hs : a = 0 ∨ a = 1 ∨ a = 2 ∨ a = 3 ∨ a = 4 ∨ a = 5 ∨ a = 6 ∨ a = 7 ∨ a = 8 ∨ a = 9 ∨ a = 10 ∨ a = 11 ∨ a = 12 ∨ a = 13 ∨ a = 14 ∨ a = 15 ∨ a = 16 ∨ a = 17 ∨ a = 18 ∨ a = 19 ∨ a = 20 ∨ a = 21 ∨ a = 22 ∨ a = 23 ∨ a = 24 ∨ a = 25 ∨ a = 26 ∨ a = 27 ∨ a = 28 ∨ a = 29 ∨ a = 30 ∨ a = 31 ∨ a = 32 ∨ a = 33 ∨ a = 34 ∨ a = 35 ∨ a = 36 ∨ a = 37 ∨ a = 38 ∨ a = 39 := by omega
  rcases hs with rfl | rfl | rfl | rfl | rfl | rfl | rfl | rfl | rfl | rfl | rfl | rfl | rfl | rfl | rfl | rfl | rfl | rfl | rfl | rfl | rfl | rfl | rfl | rfl | rfl | rfl | rfl | rfl | rfl | rfl | rfl | rfl | rfl | rfl | rfl | rfl | rfl | rfl | rfl | rfl
  · exact deed_go H "num" (by kernel_rfl) (c_num H)
  · exact deed_go H "add" (by kernel_rfl) (c_plain H "add" (by kernel_rfl) (by kernel_rfl) (by kernel_rfl) (by kernel_rfl) (by kernel_rfl) (by kernel_rfl) (by kernel_rfl) ⟨by kernel_rfl, by kernel_rfl⟩ (by decide +kernel) (by decide))
  · exact deed_go H "sub" (by kernel_rfl) (c_plain H "sub" (by kernel_rfl) (by kernel_rfl) (by kernel_rfl) (by kernel_rfl) (by kernel_rfl) (by kernel_rfl) (by kernel_rfl) ⟨by kernel_rfl, by kernel_rfl⟩ (by decide +kernel) (by decide))
  · exact deed_go H "mul" (by kernel_rfl) (c_plain H "mul" (by kernel_rfl) (by kernel_rfl) (by kernel_rfl) (by kernel_rfl) (by kernel_rfl) (by kernel_rfl) (by kernel_rfl) ⟨by kernel_rfl, by kernel_rfl⟩ (by decide +kernel) (by decide))
  · exact deed_go H "div" (by kernel_rfl) (c_plain H "div" (by kernel_rfl) (by kernel_rfl) (by kernel_rfl) (by kernel_rfl) (by kernel_rfl) (by kernel_rfl) (by kernel_rfl) ⟨by kernel_rfl, by kernel_rfl⟩ (by decide +kernel) (by decide))
  · exact deed_go H "mod" (by kernel_rfl) (c_plain H "mod" (by kernel_rfl) (by kernel_rfl) (by kernel_rfl) (by kernel_rfl) (by kernel_rfl) (by kernel_rfl) (by kernel_rfl) ⟨by kernel_rfl, by kernel_rfl⟩ (by decide +kernel) (by decide))
  · exact deed_go H "less" (by kernel_rfl) (c_plain H "less" (by kernel_rfl) (by kernel_rfl) (by kernel_rfl) (by kernel_rfl) (by kernel_rfl) (by kernel_rfl) (by kernel_rfl) ⟨by kernel_rfl, by kernel_rfl⟩ (by decide +kernel) (by decide))
  · exact deed_go H "same" (by kernel_rfl) (c_plain H "same" (by kernel_rfl) (by kernel_rfl) (by kernel_rfl) (by kernel_rfl) (by kernel_rfl) (by kernel_rfl) (by kernel_rfl) ⟨by kernel_rfl, by kernel_rfl⟩ (by decide +kernel) (by decide))
  · exact deed_go H "flip" (by kernel_rfl) (c_plain H "flip" (by kernel_rfl) (by kernel_rfl) (by kernel_rfl) (by kernel_rfl) (by kernel_rfl) (by kernel_rfl) (by kernel_rfl) ⟨by kernel_rfl, by kernel_rfl⟩ (by decide +kernel) (by decide))
  · exact deed_go H "drop" (by kernel_rfl) (c_plain H "drop" (by kernel_rfl) (by kernel_rfl) (by kernel_rfl) (by kernel_rfl) (by kernel_rfl) (by kernel_rfl) (by kernel_rfl) ⟨by kernel_rfl, by kernel_rfl⟩ (by decide +kernel) (by decide))
  · exact deed_go H "copy" (by kernel_rfl) (c_plain H "copy" (by kernel_rfl) (by kernel_rfl) (by kernel_rfl) (by kernel_rfl) (by kernel_rfl) (by kernel_rfl) (by kernel_rfl) ⟨by kernel_rfl, by kernel_rfl⟩ (by decide +kernel) (by decide))
  · exact deed_go H "swap" (by kernel_rfl) (c_plain H "swap" (by kernel_rfl) (by kernel_rfl) (by kernel_rfl) (by kernel_rfl) (by kernel_rfl) (by kernel_rfl) (by kernel_rfl) ⟨by kernel_rfl, by kernel_rfl⟩ (by decide +kernel) (by decide))
  · exact deed_go H "load" (by kernel_rfl) (c_slot H "load" (by kernel_rfl) (by kernel_rfl) ⟨by kernel_rfl, by kernel_rfl⟩ (by decide +kernel) (by decide))
  · exact deed_go H "store" (by kernel_rfl) (c_slot H "store" (by kernel_rfl) (by kernel_rfl) ⟨by kernel_rfl, by kernel_rfl⟩ (by decide +kernel) (by decide))
  · exact deed_go H "fetch" (by kernel_rfl) (c_stat H "fetch" (by kernel_rfl) (by kernel_rfl) (by kernel_rfl) ⟨by kernel_rfl, by kernel_rfl⟩ (by decide +kernel) (by decide))
  · exact deed_go H "keep" (by kernel_rfl) (c_stat H "keep" (by kernel_rfl) (by kernel_rfl) (by kernel_rfl) ⟨by kernel_rfl, by kernel_rfl⟩ (by decide +kernel) (by decide))
  · exact deed_go H "jump" (by kernel_rfl) (c_jump H "jump" (by kernel_rfl) (by kernel_rfl) (by kernel_rfl) (by kernel_rfl) ⟨by kernel_rfl, by kernel_rfl⟩ (by decide +kernel))
  · exact deed_go H "when" (by kernel_rfl) (c_jump H "when" (by kernel_rfl) (by kernel_rfl) (by kernel_rfl) (by kernel_rfl) ⟨by kernel_rfl, by kernel_rfl⟩ (by decide +kernel))
  · exact deed_go H "call" (by kernel_rfl) (c_call H)
  · exact deed_go H "back" (by kernel_rfl) (c_plain H "back" (by kernel_rfl) (by kernel_rfl) (by kernel_rfl) (by kernel_rfl) (by kernel_rfl) (by kernel_rfl) (by kernel_rfl) ⟨by kernel_rfl, by kernel_rfl⟩ (by decide +kernel) (by decide))
  · exact deed_go H "halt" (by kernel_rfl) (c_plain H "halt" (by kernel_rfl) (by kernel_rfl) (by kernel_rfl) (by kernel_rfl) (by kernel_rfl) (by kernel_rfl) (by kernel_rfl) ⟨by kernel_rfl, by kernel_rfl⟩ (by decide +kernel) (by decide))
  · exact deed_go H "tell" (by kernel_rfl) (c_plain H "tell" (by kernel_rfl) (by kernel_rfl) (by kernel_rfl) (by kernel_rfl) (by kernel_rfl) (by kernel_rfl) (by kernel_rfl) ⟨by kernel_rfl, by kernel_rfl⟩ (by decide +kernel) (by decide))
  · exact deed_go H "nil" (by kernel_rfl) (c_shape H "nil" (by kernel_rfl) (by kernel_rfl) (by kernel_rfl) (by kernel_rfl) (by kernel_rfl) (by kernel_rfl) ⟨by kernel_rfl, by kernel_rfl⟩ (by decide +kernel) (by decide))
  · exact deed_go H "empty" (by kernel_rfl) (c_shape H "empty" (by kernel_rfl) (by kernel_rfl) (by kernel_rfl) (by kernel_rfl) (by kernel_rfl) (by kernel_rfl) ⟨by kernel_rfl, by kernel_rfl⟩ (by decide +kernel) (by decide))
  · exact deed_go H "twin" (by kernel_rfl) (c_shape H "twin" (by kernel_rfl) (by kernel_rfl) (by kernel_rfl) (by kernel_rfl) (by kernel_rfl) (by kernel_rfl) ⟨by kernel_rfl, by kernel_rfl⟩ (by decide +kernel) (by decide))
  · exact deed_go H "make" (by kernel_rfl) (c_form H "make" "record" (by kernel_rfl) (by kernel_rfl) (by kernel_rfl) (by kernel_rfl) (by kernel_rfl) (by kernel_rfl) (by kernel_rfl) (by kernel_rfl) (by kernel_rfl) ⟨by kernel_rfl, by kernel_rfl⟩ (by decide +kernel) (by decide) (by decide) (by decide))
  · exact deed_go H "get" (by kernel_rfl) (c_field H "get" (by kernel_rfl) (by kernel_rfl) (by kernel_rfl) (by kernel_rfl) (by kernel_rfl) (by kernel_rfl) (by kernel_rfl) (by kernel_rfl) (by kernel_rfl) ⟨by kernel_rfl, by kernel_rfl⟩ (by decide +kernel) (by decide))
  · exact deed_go H "put" (by kernel_rfl) (c_field H "put" (by kernel_rfl) (by kernel_rfl) (by kernel_rfl) (by kernel_rfl) (by kernel_rfl) (by kernel_rfl) (by kernel_rfl) (by kernel_rfl) (by kernel_rfl) ⟨by kernel_rfl, by kernel_rfl⟩ (by decide +kernel) (by decide))
  · exact deed_go H "array" (by kernel_rfl) (c_form H "array" "array" (by kernel_rfl) (by kernel_rfl) (by kernel_rfl) (by kernel_rfl) (by kernel_rfl) (by kernel_rfl) (by kernel_rfl) (by kernel_rfl) (by kernel_rfl) ⟨by kernel_rfl, by kernel_rfl⟩ (by decide +kernel) (by decide) (by decide) (by decide))
  · exact deed_go H "at" (by kernel_rfl) (c_form H "at" "array" (by kernel_rfl) (by kernel_rfl) (by kernel_rfl) (by kernel_rfl) (by kernel_rfl) (by kernel_rfl) (by kernel_rfl) (by kernel_rfl) (by kernel_rfl) ⟨by kernel_rfl, by kernel_rfl⟩ (by decide +kernel) (by decide) (by decide) (by decide))
  · exact deed_go H "set" (by kernel_rfl) (c_form H "set" "array" (by kernel_rfl) (by kernel_rfl) (by kernel_rfl) (by kernel_rfl) (by kernel_rfl) (by kernel_rfl) (by kernel_rfl) (by kernel_rfl) (by kernel_rfl) ⟨by kernel_rfl, by kernel_rfl⟩ (by decide +kernel) (by decide) (by decide) (by decide))
  · exact deed_go H "length" (by kernel_rfl) (c_form H "length" "array" (by kernel_rfl) (by kernel_rfl) (by kernel_rfl) (by kernel_rfl) (by kernel_rfl) (by kernel_rfl) (by kernel_rfl) (by kernel_rfl) (by kernel_rfl) ⟨by kernel_rfl, by kernel_rfl⟩ (by decide +kernel) (by decide) (by decide) (by decide))
  · exact deed_go H "weaken" (by kernel_rfl) (c_form H "weaken" "weak" (by kernel_rfl) (by kernel_rfl) (by kernel_rfl) (by kernel_rfl) (by kernel_rfl) (by kernel_rfl) (by kernel_rfl) (by kernel_rfl) (by kernel_rfl) ⟨by kernel_rfl, by kernel_rfl⟩ (by decide +kernel) (by decide) (by decide) (by decide))
  · exact deed_go H "peek" (by kernel_rfl) (c_form H "peek" "weak" (by kernel_rfl) (by kernel_rfl) (by kernel_rfl) (by kernel_rfl) (by kernel_rfl) (by kernel_rfl) (by kernel_rfl) (by kernel_rfl) (by kernel_rfl) ⟨by kernel_rfl, by kernel_rfl⟩ (by decide +kernel) (by decide) (by decide) (by decide))
  · exact deed_go H "pair" (by kernel_rfl) (c_form H "pair" "pair" (by kernel_rfl) (by kernel_rfl) (by kernel_rfl) (by kernel_rfl) (by kernel_rfl) (by kernel_rfl) (by kernel_rfl) (by kernel_rfl) (by kernel_rfl) ⟨by kernel_rfl, by kernel_rfl⟩ (by decide +kernel) (by decide) (by decide) (by decide))
  · exact deed_go H "key" (by kernel_rfl) (c_form H "key" "pair" (by kernel_rfl) (by kernel_rfl) (by kernel_rfl) (by kernel_rfl) (by kernel_rfl) (by kernel_rfl) (by kernel_rfl) (by kernel_rfl) (by kernel_rfl) ⟨by kernel_rfl, by kernel_rfl⟩ (by decide +kernel) (by decide) (by decide) (by decide))
  · exact deed_go H "value" (by kernel_rfl) (c_form H "value" "pair" (by kernel_rfl) (by kernel_rfl) (by kernel_rfl) (by kernel_rfl) (by kernel_rfl) (by kernel_rfl) (by kernel_rfl) (by kernel_rfl) (by kernel_rfl) ⟨by kernel_rfl, by kernel_rfl⟩ (by decide +kernel) (by decide) (by decide) (by decide))
  · exact deed_go H "watch" (by kernel_rfl) (c_shape H "watch" (by kernel_rfl) (by kernel_rfl) (by kernel_rfl) (by kernel_rfl) (by kernel_rfl) (by kernel_rfl) ⟨by kernel_rfl, by kernel_rfl⟩ (by decide +kernel) (by decide))
  · exact deed_go H "parted" (by kernel_rfl) (c_shape H "parted" (by kernel_rfl) (by kernel_rfl) (by kernel_rfl) (by kernel_rfl) (by kernel_rfl) (by kernel_rfl) ⟨by kernel_rfl, by kernel_rfl⟩ (by decide +kernel) (by decide))
  · exact deed_go H "settle" (by kernel_rfl) (c_plain H "settle" (by kernel_rfl) (by kernel_rfl) (by kernel_rfl) (by kernel_rfl) (by kernel_rfl) (by kernel_rfl) (by kernel_rfl) ⟨by kernel_rfl, by kernel_rfl⟩ (by decide +kernel) (by decide))
/-! ### the drawn bodies -/
structure Qd where
  a : Int
  b : Int
  c : Int
  d : Int
def qdD (q : Qd) : D := .lst [.int q.a, .int q.b, .int q.c, .int q.d]
structure QOk (q : Qd) : Prop where
  a0 : 0 ≤ q.a
  a1 : q.a < 24
  b0 : 0 ≤ q.b
  b1 : q.b < 40
  c0 : 0 ≤ q.c
  c1 : q.c < 60
  d0 : 0 ≤ q.d
  d1 : q.d < 60
def SZ : List Int := (List.replicate 15 [24, 40, 60, 60]).flatten
theorem SZ_len : SZ.length = 60 := by decide
theorem SZ_at : ∀ k : Fin 15, SZ[4 * k.val]? = some 24 ∧ SZ[4 * k.val + 1]? = some 40 ∧ SZ[4 * k.val + 2]? = some 60 ∧ SZ[4 * k.val + 3]? = some 60 := by decide
theorem cut4 {α : Type} {xs : List α} {n : Nat} {a b c d : α} (h0 : xs[n]? = some a) (h1 : xs[n + 1]? = some b) (h2 : xs[n + 2]? = some c) (h3 : xs[n + 3]? = some d) : cutD xs (some ((n : Nat) : Int)) (some ((n + 4 : Nat) : Int)) = [a, b, c, d] := by
  have l3 := (List.getElem?_eq_some_iff.mp h3).1
  unfold cutD
  rw [HT.sIx_nat, HT.sIx_nat, show min n xs.length = n by omega, show min (n + 4) xs.length - n = 4 by omega]
  apply List.ext_getElem?
  intro j
  rw [List.getElem?_take, List.getElem?_drop]
  match j with
  | 0 => simpa using h0
  | 1 => simpa using h1
  | 2 => simpa using h2
  | 3 => simpa using h3
  | j + 4 =>
    rw [if_neg (by omega)]
    rfl
theorem e_fb1 {st at_ w fx m x6 : Option EV} {rows : List Qd} {row : List Int} (hd : DigOk SZ row) (hr : rows.length < 100000) {k : Nat} (hk : k < 15) (y9 y10 y11 y12 : Option EV) : ∃ q, QOk q ∧ b_law_flow_body_1 [st, at_, w, fx, m, some (.own (.l (rows.map qdD))), x6, some (.val (.lst (row.map D.int))), some (.val (.int (k : Int))), y9, y10, y11, y12] = .nx [st, at_, w, fx, m, some (.own (.l ((rows ++ [q]).map qdD))), x6, some (.val (.lst (row.map D.int))), some (.val (.int (k : Int))), y9, y10, y11, y12] := by
  obtain ⟨z0, z1, z2, z3⟩ := SZ_at ⟨k, hk⟩
  obtain ⟨a, g0, a0, a1⟩ := hd.get z0
  obtain ⟨b, g1, b0, b1⟩ := hd.get z1
  obtain ⟨c, g2, c0, c1⟩ := hd.get z2
  obtain ⟨d, g3, d0, d1⟩ := hd.get z3
  refine ⟨⟨a, b, c, d⟩, ⟨a0, a1, b0, b1, c0, c1, d0, d1⟩, ?_⟩
  have hc : cutD (row.map D.int) (some ((4 * k : Nat) : Int)) (some ((4 * k + 4 : Nat) : Int)) = [.int a, .int b, .int c, .int d] := cut4 (by rw [List.getElem?_map, g0]; rfl) (by rw [List.getElem?_map, g1]; rfl) (by rw [List.getElem?_map, g2]; rfl) (by rw [List.getElem?_map, g3]; rfl)
  rw [show ((4 * k : Nat) : Int) = 4 * (k : Int) by omega, show ((4 * k + 4 : Nat) : Int) = 4 * (k : Int) + 4 by omega] at hc
  unfold b_law_flow_body_1
  rw [t_app (xs := rows.map qdD) rfl (by rw [List.length_map]; omega)]
  simp only [q_df, q_st, q_sq, q_at_nx, q_at_rt, q_at_bk, q_at_ct, q_at_ex, q_mi, q_sel_t, q_sel_f, q_out_rt, q_out_nx, q_out_ex, q_rb_ok, q_rb_bad, q_rb_exc, q_tf_ok, q_v0, q_vs, q_w0, q_w0o, q_ws, q_tbq, q_asb, q_nt, q_rsel_t, q_rsel_f, q_ta, q_to, q_va, q_vo, q_vn, q_sett, q_seto, q_bin, q_c, q_callb, q_cons, q_nil, q_tup, q_lst, q_celle, q_ret, q_nx, q_thl, q_thd, q_isi, q_neg, q_neg_i, q_callk, q_drop, q_retn, q_brk, q_cnt, q_ife, q_add_i, q_sub_i, q_lt_i, q_le_i, q_gt_i, q_ge_i, q_eq_i, q_ne_i, List.map_cons, List.map_nil, List.length_cons, List.length_nil, List.replicate, List.append_nil, List.nil_append, List.cons_append, Nat.reduceAdd, Nat.reduceSub, List.getElem?_cons_zero, List.getElem?_cons_succ, List.set_cons_zero, List.set_cons_succ, Bool.not_true, Bool.not_false, decide_true, decide_false, if_true, if_false, q_cut, q_part1, q_asio, q_mul_s (show -1000000000000000000000000000000 < (4 : Int) by omega) (show (4 : Int) < 1000000000000000000000000000000 by omega) (show -1000000000000000000000000000000 < (k : Int) by omega) (show (k : Int) < 1000000000000000000000000000000 by omega), q_cut_l, hc, List.map_append]
  rfl
theorem e_fb2 {ns : List Int} (hb : ∀ z ∈ ns, intBits z ≤ 1048576) {at_ : Int} (p0 : 0 ≤ at_) (p1 : at_ < 1000) {w fx m : Option EV} {rows : List Qd} (ho : ∀ q ∈ rows, QOk q) {c : Nat} (hc : c < 1000) (hr : rows.length = 15 * c) (y7 y8 y9 y10 y11 y12 : Option EV) :
    ∃ (rows' : List Qd) (z7 z8 : Option EV), (∀ q ∈ rows', QOk q) ∧ rows'.length = 15 * (c + 1) ∧ b_law_flow_body_2 [some (.val (.slst (ns.map D.int))), some (.val (.int at_)), w, fx, m, some (.own (.l (rows.map qdD))), some (.val (.int (c : Int))), y7, y8, y9, y10, y11, y12] = .nx [some (.val (.slst (ns.map D.int))), some (.val (.int at_)), w, fx, m, some (.own (.l (rows'.map qdD))), some (.val (.int (c : Int))), z7, z8, y9, y10, y11, y12] := by
  obtain ⟨cl, ec, hcl⟩ := cell_ok ns hb (at_ + (c : Int)) (by omega) (by omega)
  have ec' : m_law_cell [.slst (ns.map D.int), .int (at_ + (c : Int))] = .ok (.int cl) := ec
  obtain ⟨row, ed, hd⟩ := digits_ok cl SZ (by decide) (by rw [SZ_len]; omega)
  have ed' : m_law_digits [.int cl, .lst (SZ.map D.int)] = .ok (.lst (row.map D.int)) := ed
  have em : mBin dMul (mCellE (mLst (mCons (mC (.int 24)) (mCons (mC (.int 40)) (mCons (mC (.int 60)) (mCons (mC (.int 60)) mNil)))))) (mC (.int 15)) [some (.val (.slst (ns.map D.int))), some (.val (.int at_)), w, fx, m, some (.own (.l (rows.map qdD))), some (.val (.int (c : Int))), y7, y8, y9, y10, y11, y12] = .ok (.lst (SZ.map D.int)) := by rfl
  have em3 : mCallB m_law_digits (mCons (mCallB m_law_cell (mCons (mVar 0) (mCons (mBin dAdd (mVar 1) (mVar 6)) mNil))) (mCons (mBin dMul (mCellE (mLst (mCons (mC (.int 24)) (mCons (mC (.int 40)) (mCons (mC (.int 60)) (mCons (mC (.int 60)) mNil)))))) (mC (.int 15))) mNil)) [some (.val (.slst (ns.map D.int))), some (.val (.int at_)), w, fx, m, some (.own (.l (rows.map qdD))), some (.val (.int (c : Int))), y7, y8, y9, y10, y11, y12] = .ok (.lst (row.map D.int)) := by
    have em1 : mCallB m_law_cell (mCons (mVar 0) (mCons (mBin dAdd (mVar 1) (mVar 6)) mNil)) [some (.val (.slst (ns.map D.int))), some (.val (.int at_)), w, fx, m, some (.own (.l (rows.map qdD))), some (.val (.int (c : Int))), y7, y8, y9, y10, y11, y12] = .ok (.int cl) := by simp only [q_df, q_st, q_sq, q_at_nx, q_at_rt, q_at_bk, q_at_ct, q_at_ex, q_mi, q_sel_t, q_sel_f, q_out_rt, q_out_nx, q_out_ex, q_rb_ok, q_rb_bad, q_rb_exc, q_tf_ok, q_v0, q_vs, q_w0, q_w0o, q_ws, q_tbq, q_asb, q_nt, q_rsel_t, q_rsel_f, q_ta, q_to, q_va, q_vo, q_vn, q_sett, q_seto, q_bin, q_c, q_callb, q_cons, q_nil, q_tup, q_lst, q_celle, q_ret, q_nx, q_thl, q_thd, q_isi, q_neg, q_neg_i, q_callk, q_drop, q_retn, q_brk, q_cnt, q_ife, q_add_i, q_sub_i, q_lt_i, q_le_i, q_gt_i, q_ge_i, q_eq_i, q_ne_i, List.map_cons, List.map_nil, List.length_cons, List.length_nil, List.replicate, List.append_nil, List.nil_append, List.cons_append, Nat.reduceAdd, Nat.reduceSub, List.getElem?_cons_zero, List.getElem?_cons_succ, List.set_cons_zero, List.set_cons_succ, Bool.not_true, Bool.not_false, decide_true, decide_false, if_true, if_false, ec']
    rw [q_callb, q_cons, em1, q_rb_ok, q_cons, em, q_rb_ok, q_nil, q_rb_ok, q_rb_ok, q_rb_ok]
    exact ed'
  obtain ⟨r2, e2, rows', x8, hr2, ho2, hl2⟩ := for_inv (i := 8) (body := b_law_flow_body_1) (fun k r => ∃ (rows' : List Qd) (x8 : Option EV), r = [some (.val (.slst (ns.map D.int))), some (.val (.int at_)), w, fx, m, some (.own (.l (rows'.map qdD))), some (.val (.int (c : Int))), some (.val (.lst (row.map D.int))), x8, y9, y10, y11, y12] ∧ (∀ q ∈ rows', QOk q) ∧ rows'.length = 15 * c + k) (ds := rgD 0 15)
    (r := [some (.val (.slst (ns.map D.int))), some (.val (.int at_)), w, fx, m, some (.own (.l (rows.map qdD))), some (.val (.int (c : Int))), some (.val (.lst (row.map D.int))), y8, y9, y10, y11, y12]) ⟨rows, y8, rfl, ho, by omega⟩ (fun k z r hz ⟨rows', x8, hr', ho', hl'⟩ => by
    subst hr'
    obtain ⟨hk, rfl⟩ := rgD_get hz
    rw [show (0 : Int) + (k : Int) = (k : Int) by omega]
    obtain ⟨q, hq, e⟩ := e_fb1 (st := some (.val (.slst (ns.map D.int)))) (at_ := some (.val (.int at_))) (w := w) (fx := fx) (m := m) (x6 := some (.val (.int (c : Int)))) hd (rows := rows') (by omega) hk y9 y10 y11 y12
    refine ⟨_, e, rows' ++ [q], _, rfl, fun z hz => ?_, by simp [hl']; omega⟩
    rcases List.mem_append.mp hz with hz | hz
    · exact ho' z hz
    · rw [List.mem_singleton.mp hz]
      exact hq)
  subst hr2
  rw [rgD_len] at hl2
  refine ⟨rows', some (.val (.lst (row.map D.int))), x8, ho2, by omega, ?_⟩
  unfold b_law_flow_body_2
  rw [seq_nx (r' := [some (.val (.slst (ns.map D.int))), some (.val (.int at_)), w, fx, m, some (.own (.l (rows.map qdD))), some (.val (.int (c : Int))), some (.val (.lst (row.map D.int))), y8, y9, y10, y11, y12]) (by
    rw [q_sett, em3]
    rfl)]
  exact for_nx (by simp only [q_df, q_st, q_sq, q_at_nx, q_at_rt, q_at_bk, q_at_ct, q_at_ex, q_mi, q_sel_t, q_sel_f, q_out_rt, q_out_nx, q_out_ex, q_rb_ok, q_rb_bad, q_rb_exc, q_tf_ok, q_v0, q_vs, q_w0, q_w0o, q_ws, q_tbq, q_asb, q_nt, q_rsel_t, q_rsel_f, q_ta, q_to, q_va, q_vo, q_vn, q_sett, q_seto, q_bin, q_c, q_callb, q_cons, q_nil, q_tup, q_lst, q_celle, q_ret, q_nx, q_thl, q_thd, q_isi, q_neg, q_neg_i, q_callk, q_drop, q_retn, q_brk, q_cnt, q_ife, q_add_i, q_sub_i, q_lt_i, q_le_i, q_gt_i, q_ge_i, q_eq_i, q_ne_i, List.map_cons, List.map_nil, List.length_cons, List.length_nil, List.replicate, List.append_nil, List.nil_append, List.cons_append, Nat.reduceAdd, Nat.reduceSub, List.getElem?_cons_zero, List.getElem?_cons_succ, List.set_cons_zero, List.set_cons_succ, Bool.not_true, Bool.not_false, decide_true, decide_false, if_true, if_false, q_rg]; exact q_rg1 (by omega) (by omega)) e2
theorem WhenOk : WordOk "when" ["place"] := ⟨by kernel_rfl, by kernel_rfl⟩
theorem JumpOk : WordOk "jump" ["place"] := ⟨by kernel_rfl, by kernel_rfl⟩
theorem BackOk : WordOk "back" [] := ⟨by kernel_rfl, by kernel_rfl⟩
theorem HaltOk : WordOk "halt" [] := ⟨by kernel_rfl, by kernel_rfl⟩
theorem e_fb3 {S : List Sh} {fn : List Str} {hs : List D} {nm ps rs : D} {slots : Int} {bl : List D} (H : ∀ b c : Int, 0 ≤ b → b < 60 → 0 ≤ c → c < 60 → DIn S fn hs slots bl b c) (hbl : bl.length ≤ 200) {st at_ x6 x7 x8 y11 y12 : Option EV} {rows : List Qd} (ho : ∀ q ∈ rows, QOk q) {P : List (Str × List D)} {k : Nat} (hk : k < bl.length) (hr : bl.length ≤ rows.length) (hP : P.length = k) (hG : ∀ p ∈ P, DeedG S fn slots (bl.length : Int) p) :
    ∃ (p : Str × List D) (z11 z12 : Option EV), DeedG S fn slots (bl.length : Int) p ∧ b_law_flow_body_3 [st, at_, some (.val (wD S hs)), some (.val (.tup [nm, ps, rs, .int slots, .lst bl])), some (.val (.int (bl.length : Int))), some (.own (.l (rows.map qdD))), x6, x7, x8, some (.own (.l (P.map deedD))), some (.val (.int (k : Int))), y11, y12]
      = .nx [st, at_, some (.val (wD S hs)), some (.val (.tup [nm, ps, rs, .int slots, .lst bl])), some (.val (.int (bl.length : Int))), some (.own (.l (rows.map qdD))), x6, x7, x8, some (.own (.l ((P ++ [p]).map deedD))), some (.val (.int (k : Int))), z11, z12] := by
  have hkr : k < rows.length := by omega
  obtain ⟨a0, a1, b0, b1, c0, c1, d0, d1⟩ := ho _ (List.getElem_mem hkr)
  have x1 : dIxL (rows.map qdD) (.int (k : Int)) = .ok (qdD rows[k]) := t_ixo (by omega) (by rw [Int.toNat_natCast, List.getElem?_map, List.getElem?_eq_getElem hkr]; rfl)
  generalize rows[k] = q at *
  obtain ⟨a, b, c, d⟩ := q
  simp only at a0 a1 b0 b1 c0 c1 d0 d1
  have q0 : dIx (qdD ⟨a, b, c, d⟩) (.int 0) = .ok (.int a) := rfl
  have q1 : dIx (qdD ⟨a, b, c, d⟩) (.int 1) = .ok (.int b) := rfl
  have q2 : dIx (qdD ⟨a, b, c, d⟩) (.int 2) = .ok (.int c) := rfl
  have q3 : dIx (qdD ⟨a, b, c, d⟩) (.int 3) = .ok (.int d) := rfl
  have qc : dCut (qdD ⟨a, b, c, d⟩) (some 1) none = .ok (.lst [.int b, .int c, .int d]) := rfl
  have hn : (0 : Int) < (bl.length : Int) := by omega
  generalize hN : (bl.length : Int) = n at *
  have ez1 := Int.emod_nonneg (c * 60 + d) (show n ≠ 0 by omega)
  have ez2 := Int.emod_lt_of_pos (c * 60 + d) hn
  have ez3 := Int.emod_nonneg d (show n ≠ 0 by omega)
  have ez4 := Int.emod_lt_of_pos d hn
  obtain ⟨v, v1, v2, v3⟩ := pick_ok (L := [if n - 1 < (k : Int) + 1 then n - 1 else (k : Int) + 1, (k : Int), 0, n - 1, (c * 60 + d) % n, d % n]) (i := b % 6) (fun z => 0 ≤ z ∧ z < n) (Int.emod_nonneg _ (by omega)) (by have := Int.emod_lt_of_pos b (show (0 : Int) < 6 by omega); simpa using this) (by
    intro z hz
    simp only [List.mem_cons, List.not_mem_nil, or_false] at hz
    rcases hz with rfl | rfl | rfl | rfl | rfl | rfl
    · split <;> omega
    · omega
    · omega
    · omega
    · exact ⟨ez1, ez2⟩
    · exact ⟨ez3, ez4⟩)
  simp only [List.map_cons, List.map_nil] at v1
  have start : ∀ r12 : Fl, (mIf (mTB (mBin dLt (mBin dIx (mVar 11) (mC (.int 0))) (mC (.int 10)))) (mApp 9 (mTup (mCons (mBin dIx (mCellE (mLst (mCons (mC (.str "when")) (mCons (mC (.str "when")) (mCons (mC (.str "jump")) mNil))))) (mBin dMod (mCallB dInt (mCons (mBin dIx (mVar 11) (mC (.int 0))) mNil)) (mC (.int 3)))) (mCons (mBin dIx (mVar 12) (mBin dMod (mCallB dInt (mCons (mBin dIx (mVar 11) (mC (.int 1))) mNil)) (mC (.int 6)))) mNil)))) (mIf (mTB (mBin dLt (mBin dIx (mVar 11) (mC (.int 0))) (mC (.int 12)))) (mApp 9 (mTup (mCons (mBin dIx (mCellE (mLst (mCons (mC (.str "back")) (mCons (mC (.str "halt")) mNil)))) (mBin dMod (mCallB dInt (mCons (mBin dIx (mVar 11) (mC (.int 0))) mNil)) (mC (.int 2)))) mNil))) (mApp 9 (mCallB m_law_any_deed (mCons (mVar 2) (mCons (mVar 3) (mCons (mCut (mVar 11) (some (mC (.int 1))) none) mNil))))))) [st, at_, some (.val (wD S hs)), some (.val (.tup [nm, ps, rs, .int slots, .lst bl])), some (.val (.int n)), some (.own (.l (rows.map qdD))), x6, x7, x8, some (.own (.l (P.map deedD))), some (.val (.int (k : Int))), some (.val (qdD ⟨a, b, c, d⟩)), some (.val (.lst [.int (if n - 1 < (k : Int) + 1 then n - 1 else (k : Int) + 1), .int (k : Int), .int 0, .int (n - 1), .int ((c * 60 + d) % n), .int (d % n)]))] = r12 →
      b_law_flow_body_3 [st, at_, some (.val (wD S hs)), some (.val (.tup [nm, ps, rs, .int slots, .lst bl])), some (.val (.int n)), some (.own (.l (rows.map qdD))), x6, x7, x8, some (.own (.l (P.map deedD))), some (.val (.int (k : Int))), y11, y12] = r12 := fun r12 h => by
    unfold b_law_flow_body_3
    rw [seq_nx (r' := [st, at_, some (.val (wD S hs)), some (.val (.tup [nm, ps, rs, .int slots, .lst bl])), some (.val (.int n)), some (.own (.l (rows.map qdD))), x6, x7, x8, some (.own (.l (P.map deedD))), some (.val (.int (k : Int))), some (.val (qdD ⟨a, b, c, d⟩)), y12]) (by simp only [q_df, q_st, q_sq, q_at_nx, q_at_rt, q_at_bk, q_at_ct, q_at_ex, q_mi, q_sel_t, q_sel_f, q_out_rt, q_out_nx, q_out_ex, q_rb_ok, q_rb_bad, q_rb_exc, q_tf_ok, q_v0, q_vs, q_w0, q_w0o, q_ws, q_tbq, q_asb, q_nt, q_rsel_t, q_rsel_f, q_ta, q_to, q_va, q_vo, q_vn, q_sett, q_seto, q_bin, q_c, q_callb, q_cons, q_nil, q_tup, q_lst, q_celle, q_ret, q_nx, q_thl, q_thd, q_isi, q_neg, q_neg_i, q_callk, q_drop, q_retn, q_brk, q_cnt, q_ife, q_add_i, q_sub_i, q_lt_i, q_le_i, q_gt_i, q_ge_i, q_eq_i, q_ne_i, List.map_cons, List.map_nil, List.length_cons, List.length_nil, List.replicate, List.append_nil, List.nil_append, List.cons_append, Nat.reduceAdd, Nat.reduceSub, List.getElem?_cons_zero, List.getElem?_cons_succ, List.set_cons_zero, List.set_cons_succ, Bool.not_true, Bool.not_false, decide_true, decide_false, if_true, if_false, q_ixo, q_oas, q_oa0, q_opt, x1])]
    rw [seq_nx (r' := [st, at_, some (.val (wD S hs)), some (.val (.tup [nm, ps, rs, .int slots, .lst bl])), some (.val (.int n)), some (.own (.l (rows.map qdD))), x6, x7, x8, some (.own (.l (P.map deedD))), some (.val (.int (k : Int))), some (.val (qdD ⟨a, b, c, d⟩)), some (.val (.lst [.int (if n - 1 < (k : Int) + 1 then n - 1 else (k : Int) + 1), .int (k : Int), .int 0, .int (n - 1), .int ((c * 60 + d) % n), .int (d % n)]))]) (by
      simp only [q_df, q_st, q_sq, q_at_nx, q_at_rt, q_at_bk, q_at_ct, q_at_ex, q_mi, q_sel_t, q_sel_f, q_out_rt, q_out_nx, q_out_ex, q_rb_ok, q_rb_bad, q_rb_exc, q_tf_ok, q_v0, q_vs, q_w0, q_w0o, q_ws, q_tbq, q_asb, q_nt, q_rsel_t, q_rsel_f, q_ta, q_to, q_va, q_vo, q_vn, q_sett, q_seto, q_bin, q_c, q_callb, q_cons, q_nil, q_tup, q_lst, q_celle, q_ret, q_nx, q_thl, q_thd, q_isi, q_neg, q_neg_i, q_callk, q_drop, q_retn, q_brk, q_cnt, q_ife, q_add_i, q_sub_i, q_lt_i, q_le_i, q_gt_i, q_ge_i, q_eq_i, q_ne_i, List.map_cons, List.map_nil, List.length_cons, List.length_nil, List.replicate, List.append_nil, List.nil_append, List.cons_append, Nat.reduceAdd, Nat.reduceSub, List.getElem?_cons_zero, List.getElem?_cons_succ, List.set_cons_zero, List.set_cons_succ, Bool.not_true, Bool.not_false, decide_true, decide_false, if_true, if_false, q2, q3, t_min, q_int_i, q_mul_s (show -1000000000000000000000000000000 < c by omega) (show c < 1000000000000000000000000000000 by omega) (show -1000000000000000000000000000000 < (60 : Int) by omega) (show (60 : Int) < 1000000000000000000000000000000 by omega), q_mod_i hn, sz6])]
    exact h
  by_cases ha : a < 10
  · obtain ⟨w, w1, w2, w3, w4⟩ : ∃ w : Str, dIx (.lst [.str "when", .str "when", .str "jump"]) (.int (a % 3)) = .ok (.str w) ∧ WordOk w ["place"] ∧ PyData.strOk w = true ∧ True := by
      have h3 : a % 3 = 0 ∨ a % 3 = 1 ∨ a % 3 = 2 := by omega
      rcases h3 with h | h | h <;> rw [h]
      · exact ⟨"when", rfl, WhenOk, by decide +kernel, trivial⟩
      · exact ⟨"when", rfl, WhenOk, by decide +kernel, trivial⟩
      · exact ⟨"jump", rfl, JumpOk, by decide +kernel, trivial⟩
    refine ⟨(w, [.int v]), some (.val (qdD ⟨a, b, c, d⟩)), some (.val (.lst [.int (if n - 1 < (k : Int) + 1 then n - 1 else (k : Int) + 1), .int (k : Int), .int 0, .int (n - 1), .int ((c * 60 + d) % n), .int (d % n)])), g1 w2 w3 (.place v2 v3) (.inl ⟨v, rfl⟩) (fun _ => ⟨v, rfl⟩), start _ ?_⟩
    rw [q_mi]
    simp only [q_tbq, q_bin, q_vs, q_v0, q_c, q_rb_ok, q0, q_lt_i, decide_eq_true ha, q_asb, q_tf_ok, q_sel_t]
    rw [t_app (xs := P.map deedD) rfl (by rw [List.length_map]; omega)]
    simp only [q_df, q_st, q_sq, q_at_nx, q_at_rt, q_at_bk, q_at_ct, q_at_ex, q_mi, q_sel_t, q_sel_f, q_out_rt, q_out_nx, q_out_ex, q_rb_ok, q_rb_bad, q_rb_exc, q_tf_ok, q_v0, q_vs, q_w0, q_w0o, q_ws, q_tbq, q_asb, q_nt, q_rsel_t, q_rsel_f, q_ta, q_to, q_va, q_vo, q_vn, q_sett, q_seto, q_bin, q_c, q_callb, q_cons, q_nil, q_tup, q_lst, q_celle, q_ret, q_nx, q_thl, q_thd, q_isi, q_neg, q_neg_i, q_callk, q_drop, q_retn, q_brk, q_cnt, q_ife, q_add_i, q_sub_i, q_lt_i, q_le_i, q_gt_i, q_ge_i, q_eq_i, q_ne_i, List.map_cons, List.map_nil, List.length_cons, List.length_nil, List.replicate, List.append_nil, List.nil_append, List.cons_append, Nat.reduceAdd, Nat.reduceSub, List.getElem?_cons_zero, List.getElem?_cons_succ, List.set_cons_zero, List.set_cons_succ, Bool.not_true, Bool.not_false, decide_true, decide_false, if_true, if_false, q0, q1, q_int_i, q_mod_i (show (0 : Int) < 3 by omega), q_mod_i (show (0 : Int) < 6 by omega), w1, v1, sz2, sz3, List.map_append]
    rfl
  · by_cases ha2 : a < 12
    · obtain ⟨w, w1, w2, w3, w4⟩ : ∃ w : Str, dIx (.lst [.str "back", .str "halt"]) (.int (a % 2)) = .ok (.str w) ∧ WordOk w [] ∧ PyData.strOk w = true ∧ ¬ (w = "jump" ∨ w = "when") := by
        have h3 : a % 2 = 0 ∨ a % 2 = 1 := by omega
        rcases h3 with h | h <;> rw [h]
        · exact ⟨"back", rfl, BackOk, by decide +kernel, by decide⟩
        · exact ⟨"halt", rfl, HaltOk, by decide +kernel, by decide⟩
      refine ⟨(w, []), some (.val (qdD ⟨a, b, c, d⟩)), some (.val (.lst [.int (if n - 1 < (k : Int) + 1 then n - 1 else (k : Int) + 1), .int (k : Int), .int 0, .int (n - 1), .int ((c * 60 + d) % n), .int (d % n)])), g0 w2 w3 w4, start _ ?_⟩
      rw [q_mi]
      simp only [q_tbq, q_bin, q_vs, q_v0, q_c, q_rb_ok, q0, q_lt_i, decide_eq_false ha, q_asb, q_tf_ok, q_sel_f]
      rw [q_mi]
      simp only [q_tbq, q_bin, q_vs, q_v0, q_c, q_rb_ok, q0, q_lt_i, decide_eq_true ha2, q_asb, q_tf_ok, q_sel_t]
      rw [t_app (xs := P.map deedD) rfl (by rw [List.length_map]; omega)]
      simp only [q_df, q_st, q_sq, q_at_nx, q_at_rt, q_at_bk, q_at_ct, q_at_ex, q_mi, q_sel_t, q_sel_f, q_out_rt, q_out_nx, q_out_ex, q_rb_ok, q_rb_bad, q_rb_exc, q_tf_ok, q_v0, q_vs, q_w0, q_w0o, q_ws, q_tbq, q_asb, q_nt, q_rsel_t, q_rsel_f, q_ta, q_to, q_va, q_vo, q_vn, q_sett, q_seto, q_bin, q_c, q_callb, q_cons, q_nil, q_tup, q_lst, q_celle, q_ret, q_nx, q_thl, q_thd, q_isi, q_neg, q_neg_i, q_callk, q_drop, q_retn, q_brk, q_cnt, q_ife, q_add_i, q_sub_i, q_lt_i, q_le_i, q_gt_i, q_ge_i, q_eq_i, q_ne_i, List.map_cons, List.map_nil, List.length_cons, List.length_nil, List.replicate, List.append_nil, List.nil_append, List.cons_append, Nat.reduceAdd, Nat.reduceSub, List.getElem?_cons_zero, List.getElem?_cons_succ, List.set_cons_zero, List.set_cons_succ, Bool.not_true, Bool.not_false, decide_true, decide_false, if_true, if_false, q0, q_int_i, q_mod_i (show (0 : Int) < 2 by omega), w1, sz1, sz2, List.map_append]
      rfl
    · obtain ⟨p, p1, p2⟩ := e_deed (nm := nm) (ps := ps) (rs := rs) (a := b) (H c d c0 c1 d0 d1) b0 b1
      rw [hN] at p2
      refine ⟨p, some (.val (qdD ⟨a, b, c, d⟩)), some (.val (.lst [.int (if n - 1 < (k : Int) + 1 then n - 1 else (k : Int) + 1), .int (k : Int), .int 0, .int (n - 1), .int ((c * 60 + d) % n), .int (d % n)])), p2, start _ ?_⟩
      rw [q_mi]
      simp only [q_tbq, q_bin, q_vs, q_v0, q_c, q_rb_ok, q0, q_lt_i, decide_eq_false ha, q_asb, q_tf_ok, q_sel_f]
      rw [q_mi]
      simp only [q_tbq, q_bin, q_vs, q_v0, q_c, q_rb_ok, q0, q_lt_i, decide_eq_false ha2, q_asb, q_tf_ok, q_sel_f]
      rw [t_app (xs := P.map deedD) rfl (by rw [List.length_map]; omega)]
      simp only [q_df, q_st, q_sq, q_at_nx, q_at_rt, q_at_bk, q_at_ct, q_at_ex, q_mi, q_sel_t, q_sel_f, q_out_rt, q_out_nx, q_out_ex, q_rb_ok, q_rb_bad, q_rb_exc, q_tf_ok, q_v0, q_vs, q_w0, q_w0o, q_ws, q_tbq, q_asb, q_nt, q_rsel_t, q_rsel_f, q_ta, q_to, q_va, q_vo, q_vn, q_sett, q_seto, q_bin, q_c, q_callb, q_cons, q_nil, q_tup, q_lst, q_celle, q_ret, q_nx, q_thl, q_thd, q_isi, q_neg, q_neg_i, q_callk, q_drop, q_retn, q_brk, q_cnt, q_ife, q_add_i, q_sub_i, q_lt_i, q_le_i, q_gt_i, q_ge_i, q_eq_i, q_ne_i, List.map_cons, List.map_nil, List.length_cons, List.length_nil, List.replicate, List.append_nil, List.nil_append, List.cons_append, Nat.reduceAdd, Nat.reduceSub, List.getElem?_cons_zero, List.getElem?_cons_succ, List.set_cons_zero, List.set_cons_succ, Bool.not_true, Bool.not_false, decide_true, decide_false, if_true, if_false, q_cut, q_part1, q_part0, q_asio, qc, p1, List.map_append]
theorem e_flow {ns : List Int} (hb : ∀ z ∈ ns, intBits z ≤ 1048576) {at_ : Int} (p0 : 0 ≤ at_) (p1 : at_ < 1000) {S : List Sh} {fn : List Str} {hs : List D} {nm ps rs : D} {slots : Int} {bl : List D} (H : ∀ b c : Int, 0 ≤ b → b < 60 → 0 ≤ c → c < 60 → DIn S fn hs slots bl b c) (hbl : bl.length ≤ 200) :
    ∃ P : List (Str × List D), P.length = bl.length ∧ (∀ p ∈ P, DeedG S fn slots (bl.length : Int) p) ∧ m_law_flow_body [.slst (ns.map D.int), .int at_, wD S hs, .tup [nm, ps, rs, .int slots, .lst bl], .int (bl.length : Int)] = .ok (.tup (P.map deedD)) := by
  have h0 := H 0 0 (by omega) (by omega) (by omega) (by omega)
  have hn := h0.bl0
  obtain ⟨n, hN⟩ : ∃ n : Int, (bl.length : Int) = n := ⟨_, rfl⟩
  obtain ⟨r2, e2, rows, x6, x7, x8, hr2, ho2, hl2⟩ := for_inv (i := 6) (body := b_law_flow_body_2) (fun c r => ∃ (rows : List Qd) (x6 x7 x8 : Option EV), r = [some (.val (.slst (ns.map D.int))), some (.val (.int at_)), some (.val (wD S hs)), some (.val (.tup [nm, ps, rs, .int slots, .lst bl])), some (.val (.int (bl.length : Int))), some (.own (.l (rows.map qdD))), x6, x7, x8, none, none, none, none] ∧ (∀ q ∈ rows, QOk q) ∧ rows.length = 15 * c) (ds := rgD 0 (1 + (bl.length : Int) / 15).toNat)
    (r := [some (.val (.slst (ns.map D.int))), some (.val (.int at_)), some (.val (wD S hs)), some (.val (.tup [nm, ps, rs, .int slots, .lst bl])), some (.val (.int (bl.length : Int))), some (.own (.l [])), none, none, none, none, none, none, none]) ⟨[], none, none, none, rfl, by simp, rfl⟩ (fun c z r hz ⟨rows, x6, x7, x8, hr, ho, hl⟩ => by
    subst hr
    obtain ⟨hc, rfl⟩ := rgD_get hz
    rw [show (0 : Int) + (c : Int) = (c : Int) by omega]
    obtain ⟨rows', y7, y8, g1, g2, g3⟩ := e_fb2 hb p0 p1 (w := some (.val (wD S hs))) (fx := some (.val (.tup [nm, ps, rs, .int slots, .lst bl]))) (m := some (.val (.int (bl.length : Int)))) ho (c := c) (by omega) hl x7 x8 none none none none
    exact ⟨_, g3, rows', _, y7, y8, rfl, g1, g2⟩)
  subst hr2
  rw [rgD_len] at hl2
  obtain ⟨r3, e3, P, x10, x11, x12, hr3, hG, hP⟩ := for_inv (i := 10) (body := b_law_flow_body_3) (fun k r => ∃ (P : List (Str × List D)) (x10 x11 x12 : Option EV), r = [some (.val (.slst (ns.map D.int))), some (.val (.int at_)), some (.val (wD S hs)), some (.val (.tup [nm, ps, rs, .int slots, .lst bl])), some (.val (.int (bl.length : Int))), some (.own (.l (rows.map qdD))), x6, x7, x8, some (.own (.l (P.map deedD))), x10, x11, x12] ∧ (∀ p ∈ P, DeedG S fn slots (bl.length : Int) p) ∧ P.length = k) (ds := rgD 0 (bl.length : Int).toNat)
    (r := [some (.val (.slst (ns.map D.int))), some (.val (.int at_)), some (.val (wD S hs)), some (.val (.tup [nm, ps, rs, .int slots, .lst bl])), some (.val (.int (bl.length : Int))), some (.own (.l (rows.map qdD))), x6, x7, x8, some (.own (.l [])), none, none, none]) ⟨[], none, none, none, rfl, by simp, rfl⟩ (fun k z r hz ⟨P, x10, x11, x12, hr, hG, hP⟩ => by
    subst hr
    obtain ⟨hk, rfl⟩ := rgD_get hz
    rw [show (0 : Int) + (k : Int) = (k : Int) by omega]
    obtain ⟨p, y11, y12, g1, g2⟩ := e_fb3 (nm := nm) (ps := ps) (rs := rs) H hbl (st := some (.val (.slst (ns.map D.int)))) (at_ := some (.val (.int at_))) (x6 := x6) (x7 := x7) (x8 := x8) (y11 := x11) (y12 := x12) ho2 (P := P) (k := k) (by omega) (by omega) hP hG
    refine ⟨_, g2, P ++ [p], _, y11, y12, rfl, fun z hz => ?_, by simp [hP]⟩
    rcases List.mem_append.mp hz with hz | hz
    · exact hG z hz
    · rw [List.mem_singleton.mp hz]
      exact g1)
  subst hr3
  rw [rgD_len] at hP
  refine ⟨P, by omega, hG, ?_⟩
  unfold m_law_flow_body
  refine def_of ?_
  rw [show mStart 13 [D.slst (ns.map D.int), .int at_, wD S hs, .tup [nm, ps, rs, .int slots, .lst bl], .int (bl.length : Int)] = [some (.val (.slst (ns.map D.int))), some (.val (.int at_)), some (.val (wD S hs)), some (.val (.tup [nm, ps, rs, .int slots, .lst bl])), some (.val (.int (bl.length : Int))), none, none, none, none, none, none, none, none] from rfl]
  rw [seq_nx (r' := [some (.val (.slst (ns.map D.int))), some (.val (.int at_)), some (.val (wD S hs)), some (.val (.tup [nm, ps, rs, .int slots, .lst bl])), some (.val (.int (bl.length : Int))), some (.own (.l [])), none, none, none, none, none, none, none]) (by rfl)]
  rw [seq_nx (for_nx (by
    simp only [q_df, q_st, q_sq, q_at_nx, q_at_rt, q_at_bk, q_at_ct, q_at_ex, q_mi, q_sel_t, q_sel_f, q_out_rt, q_out_nx, q_out_ex, q_rb_ok, q_rb_bad, q_rb_exc, q_tf_ok, q_v0, q_vs, q_w0, q_w0o, q_ws, q_tbq, q_asb, q_nt, q_rsel_t, q_rsel_f, q_ta, q_to, q_va, q_vo, q_vn, q_sett, q_seto, q_bin, q_c, q_callb, q_cons, q_nil, q_tup, q_lst, q_celle, q_ret, q_nx, q_thl, q_thd, q_isi, q_neg, q_neg_i, q_callk, q_drop, q_retn, q_brk, q_cnt, q_ife, q_add_i, q_sub_i, q_lt_i, q_le_i, q_gt_i, q_ge_i, q_eq_i, q_ne_i, List.map_cons, List.map_nil, List.length_cons, List.length_nil, List.replicate, List.append_nil, List.nil_append, List.cons_append, Nat.reduceAdd, Nat.reduceSub, List.getElem?_cons_zero, List.getElem?_cons_succ, List.set_cons_zero, List.set_cons_succ, Bool.not_true, Bool.not_false, decide_true, decide_false, if_true, if_false, q_rg, q_div_i (show (0 : Int) < 15 by omega) (show (15 : Int) < 1000000000000000000000000000000 by omega)]
    exact q_rg1 (by omega) (by omega)) e2)]
  rw [seq_nx (r' := [some (.val (.slst (ns.map D.int))), some (.val (.int at_)), some (.val (wD S hs)), some (.val (.tup [nm, ps, rs, .int slots, .lst bl])), some (.val (.int (bl.length : Int))), some (.own (.l (rows.map qdD))), x6, x7, x8, some (.own (.l [])), none, none, none]) (by rfl)]
  rw [seq_nx (for_nx (by
    simp only [q_df, q_st, q_sq, q_at_nx, q_at_rt, q_at_bk, q_at_ct, q_at_ex, q_mi, q_sel_t, q_sel_f, q_out_rt, q_out_nx, q_out_ex, q_rb_ok, q_rb_bad, q_rb_exc, q_tf_ok, q_v0, q_vs, q_w0, q_w0o, q_ws, q_tbq, q_asb, q_nt, q_rsel_t, q_rsel_f, q_ta, q_to, q_va, q_vo, q_vn, q_sett, q_seto, q_bin, q_c, q_callb, q_cons, q_nil, q_tup, q_lst, q_celle, q_ret, q_nx, q_thl, q_thd, q_isi, q_neg, q_neg_i, q_callk, q_drop, q_retn, q_brk, q_cnt, q_ife, q_add_i, q_sub_i, q_lt_i, q_le_i, q_gt_i, q_ge_i, q_eq_i, q_ne_i, List.map_cons, List.map_nil, List.length_cons, List.length_nil, List.replicate, List.append_nil, List.nil_append, List.cons_append, Nat.reduceAdd, Nat.reduceSub, List.getElem?_cons_zero, List.getElem?_cons_succ, List.set_cons_zero, List.set_cons_succ, Bool.not_true, Bool.not_false, decide_true, decide_false, if_true, if_false, q_rg]
    exact q_rg1 (by omega) (by omega)) e3)]
  simp only [q_df, q_st, q_sq, q_at_nx, q_at_rt, q_at_bk, q_at_ct, q_at_ex, q_mi, q_sel_t, q_sel_f, q_out_rt, q_out_nx, q_out_ex, q_rb_ok, q_rb_bad, q_rb_exc, q_tf_ok, q_v0, q_vs, q_w0, q_w0o, q_ws, q_tbq, q_asb, q_nt, q_rsel_t, q_rsel_f, q_ta, q_to, q_va, q_vo, q_vn, q_sett, q_seto, q_bin, q_c, q_callb, q_cons, q_nil, q_tup, q_lst, q_celle, q_ret, q_nx, q_thl, q_thd, q_isi, q_neg, q_neg_i, q_callk, q_drop, q_retn, q_brk, q_cnt, q_ife, q_add_i, q_sub_i, q_lt_i, q_le_i, q_gt_i, q_ge_i, q_eq_i, q_ne_i, List.map_cons, List.map_nil, List.length_cons, List.length_nil, List.replicate, List.append_nil, List.nil_append, List.cons_append, Nat.reduceAdd, Nat.reduceSub, List.getElem?_cons_zero, List.getElem?_cons_succ, List.set_cons_zero, List.set_cons_succ, Bool.not_true, Bool.not_false, decide_true, decide_false, if_true, if_false, q_tupo, q_oas, q_oa0, q_opt]
/-! ### the drawn world -/
structure Hd where
  name : Str
  params : List Str
  result : Option Str
  slots : Int
def HL : List Hd := [⟨"main", ["num"], none, 2⟩, ⟨"f", [], some "num", 3⟩, ⟨"g", [], none, 0⟩]
def hdD (h : Hd) : D := .tup [.str h.name, .tup (h.params.map D.str), resD h.result, .int h.slots]
def hsD (h : Hd) : D := .tup [.str h.name, .tup (h.params.map D.str), resD h.result, .int h.slots, .tup []]
theorem HL_ok : ∀ h ∈ HL, 0 ≤ h.slots ∧ h.slots < 1000 ∧ PyData.strOk h.name = true ∧ h.params.length ≤ 6 ∧ (h.params.length : Int) ≤ h.slots ∧ h.slots ≤ 16 ∧ (∀ p ∈ h.params, p = "num") ∧ (∀ s, h.result = some s → s = "num") := by
  intro h hh
  simp only [HL, List.mem_cons, List.not_mem_nil, or_false] at hh
  rcases hh with rfl | rfl | rfl
  · exact ⟨by decide, by decide, by decide +kernel, by decide, by decide, by decide, by simp, by simp⟩
  · exact ⟨by decide, by decide, by decide +kernel, by decide, by decide, by decide, by simp, by simp⟩
  · exact ⟨by decide, by decide, by decide +kernel, by decide, by decide, by decide, by simp, by simp⟩
theorem HL_nm : ∀ h ∈ HL, Nm h.name := by
  intro h hh
  simp only [HL, List.mem_cons, List.not_mem_nil, or_false] at hh
  rcases hh with rfl | rfl | rfl <;> (unfold Nm; kernel_rfl)
theorem HL_nodup : (HL.map (·.name)).Nodup := by decide +kernel
theorem HL_entry : ∀ h, HL[0]? = some h → h.result = none := by
  intro h hh
  cases hh
  rfl
theorem zeros {n : Int} (h0 : 0 ≤ n) (h1 : n ≤ 200) : ∃ bl : List D, dMul (.lst [.int 0]) (.int n) = .ok (.lst bl) ∧ (bl.length : Int) = n := by
  have hl : ((List.replicate n.toNat [D.int 0]).flatten.length : Int) = n := by
    rw [List.length_flatten]
    simp
    omega
  exact ⟨(List.replicate n.toNat [D.int 0]).flatten, if_pos ⟨by omega, by omega, Nat.le_trans (by simp; omega) sizeLine_big⟩, hl⟩
/-- what the first j functions are -/
def FIs (S : List Sh) (fn : List Str) (szs : List Int) (F : List Fu) : Prop := ∀ (i : Nat) (f : Fu), F[i]? = some f → ∃ h z, HL[i]? = some h ∧ szs[i]? = some z ∧ f.name = h.name ∧ f.params = h.params ∧ f.result = h.result ∧ f.slots = h.slots ∧ (f.body.length : Int) = z ∧ ∀ p ∈ f.body, DeedG S fn f.slots (f.body.length : Int) p
theorem e_fw2 {ns : List Int} (hb : ∀ z ∈ ns, intBits z ≤ 1048576) {at_ : Int} (p0 : 0 ≤ at_) (p1 : at_ < 900) {S : List Sh} (sf : SFacts S) {szs : List Int} (hz : ∀ z ∈ szs, 1 ≤ z ∧ z ≤ 200) (hn : szs.length ≤ 3) {F : List Fu} {j : Nat} (hj : j < szs.length) (hF : F.length = j) (hI : FIs S ((HL.take szs.length).map (·.name)) szs F) (x6 x9 : Option EV) :
    ∃ (f : Fu) (y9 : Option EV), FIs S ((HL.take szs.length).map (·.name)) szs (F ++ [f]) ∧ b_law_flow_world_2 [some (.val (.slst (ns.map D.int))), some (.val (.int at_)), some (.val (.lst (szs.map D.int))), some (.val (.lst (S.map shD))), some (.val (.lst ((HL.take szs.length).map hdD))), some (.val (wD S ((HL.take szs.length).map hsD))), x6, some (.own (.l (F.map fuD))), some (.val (.int (j : Int))), x9]
      = .nx [some (.val (.slst (ns.map D.int))), some (.val (.int at_)), some (.val (.lst (szs.map D.int))), some (.val (.lst (S.map shD))), some (.val (.lst ((HL.take szs.length).map hdD))), some (.val (wD S ((HL.take szs.length).map hsD))), x6, some (.own (.l ((F ++ [f]).map fuD))), some (.val (.int (j : Int))), y9] := by
  have hlen : HL.length = 3 := rfl
  have htl : (HL.take szs.length).length = szs.length := by rw [List.length_take]; omega
  have hjt : j < (HL.take szs.length).length := by omega
  have hjh : j < HL.length := by omega
  have hg : (HL.take szs.length)[j]? = HL[j]? := List.getElem?_take_of_lt hj
  have hh : HL[j]? = some HL[j] := List.getElem?_eq_getElem hjh
  have hm := List.getElem_mem hjh
  obtain ⟨s0, s1, _⟩ := HL_ok _ hm
  generalize hH : HL[j] = h at *
  obtain ⟨z0, z1⟩ := hz _ (List.getElem_mem hj)
  have hzs : szs[j]? = some szs[j] := List.getElem?_eq_getElem hj
  generalize szs[j] = z at *
  obtain ⟨bl, b1, b2⟩ := zeros (n := z) (by omega) z1
  have i1 : dIx (.lst ((HL.take szs.length).map hdD)) (.int (j : Int)) = .ok (hdD h) := q_ix rfl (by omega) (by rw [Int.toNat_natCast, List.getElem?_map, hg, hh]; rfl)
  have i2 : dIx (.lst (szs.map D.int)) (.int (j : Int)) = .ok (.int z) := q_ix rfl (by omega) (by rw [Int.toNat_natCast, List.getElem?_map, hzs]; rfl)
  obtain ⟨off, o1, o2, o3⟩ := pick_ok (L := [1, 16, 22]) (i := (j : Int)) (fun z => 0 ≤ z ∧ z < 30) (by omega) (by simp; omega) (by decide)
  simp only [List.map_cons, List.map_nil] at o1
  have ad : dAdd (hdD h) (.tup [.lst bl]) = .ok (.tup [.str h.name, .tup (h.params.map D.str), resD h.result, .int h.slots, .lst bl]) := t_addt (by simp)
  obtain ⟨P, P1, P2, P3⟩ := e_flow hb (at_ := at_ + off) (by omega) (by omega) (S := S) (fn := (HL.take szs.length).map (·.name)) (hs := (HL.take szs.length).map hsD) (nm := .str h.name) (ps := .tup (h.params.map D.str)) (rs := resD h.result) (slots := h.slots) (bl := bl) (fun b c b0 b1 c0 c1 => ⟨sf, by simp, fun i n hi => by
    rw [List.getElem?_map] at hi
    obtain ⟨h', hh', rfl⟩ := Option.map_eq_some_iff.mp hi
    exact ⟨_, by rw [List.getElem?_map, hh']; rfl⟩, by rw [List.length_map]; omega, fun z hz => by
    obtain ⟨h', hh', rfl⟩ := List.mem_map.mp hz
    exact (HL_ok h' (List.mem_of_mem_take hh')).2.2.1, s0, s1, by omega, by omega, b0, b1, c0, c1⟩) (by omega)
  rw [b2] at P3
  have ad2 : dAdd (hdD h) (.tup [.tup (P.map deedD)]) = .ok (fuD ⟨h.name, h.params, h.result, h.slots, P⟩) := t_addt (by simp)
  refine ⟨⟨h.name, h.params, h.result, h.slots, P⟩, some (.val (.tup [.str h.name, .tup (h.params.map D.str), resD h.result, .int h.slots, .lst bl])), fun i f hi => ?_, ?_⟩
  · by_cases e : i < F.length
    · rw [List.getElem?_append_left e] at hi
      exact hI i f hi
    · rw [List.getElem?_append_right (by omega)] at hi
      have ei : i - F.length = 0 := by
        have := (List.getElem?_eq_some_iff.mp hi).1
        simp at this
        omega
      rw [ei] at hi
      cases hi
      have : i = j := by omega
      subst this
      exact ⟨h, z, hh, hzs, rfl, rfl, rfl, rfl, by show (P.length : Int) = z; omega, fun p hp => by
        show DeedG S _ h.slots (P.length : Int) p
        rw [P1]
        exact P2 p hp⟩
  · unfold b_law_flow_world_2
    rw [seq_nx (r' := [some (.val (.slst (ns.map D.int))), some (.val (.int at_)), some (.val (.lst (szs.map D.int))), some (.val (.lst (S.map shD))), some (.val (.lst ((HL.take szs.length).map hdD))), some (.val (wD S ((HL.take szs.length).map hsD))), x6, some (.own (.l (F.map fuD))), some (.val (.int (j : Int))), some (.val (.tup [.str h.name, .tup (h.params.map D.str), resD h.result, .int h.slots, .lst bl]))]) (by simp only [q_df, q_st, q_sq, q_at_nx, q_at_rt, q_at_bk, q_at_ct, q_at_ex, q_mi, q_sel_t, q_sel_f, q_out_rt, q_out_nx, q_out_ex, q_rb_ok, q_rb_bad, q_rb_exc, q_tf_ok, q_v0, q_vs, q_w0, q_w0o, q_ws, q_tbq, q_asb, q_nt, q_rsel_t, q_rsel_f, q_ta, q_to, q_va, q_vo, q_vn, q_sett, q_seto, q_bin, q_c, q_callb, q_cons, q_nil, q_tup, q_lst, q_celle, q_ret, q_nx, q_thl, q_thd, q_isi, q_neg, q_neg_i, q_callk, q_drop, q_retn, q_brk, q_cnt, q_ife, q_add_i, q_sub_i, q_lt_i, q_le_i, q_gt_i, q_ge_i, q_eq_i, q_ne_i, List.map_cons, List.map_nil, List.length_cons, List.length_nil, List.replicate, List.append_nil, List.nil_append, List.cons_append, Nat.reduceAdd, Nat.reduceSub, List.getElem?_cons_zero, List.getElem?_cons_succ, List.set_cons_zero, List.set_cons_succ, Bool.not_true, Bool.not_false, decide_true, decide_false, if_true, if_false, i1, i2, b1, ad, sz1])]
    rw [t_app (xs := F.map fuD) rfl (by rw [List.length_map]; omega)]
    simp only [q_df, q_st, q_sq, q_at_nx, q_at_rt, q_at_bk, q_at_ct, q_at_ex, q_mi, q_sel_t, q_sel_f, q_out_rt, q_out_nx, q_out_ex, q_rb_ok, q_rb_bad, q_rb_exc, q_tf_ok, q_v0, q_vs, q_w0, q_w0o, q_ws, q_tbq, q_asb, q_nt, q_rsel_t, q_rsel_f, q_ta, q_to, q_va, q_vo, q_vn, q_sett, q_seto, q_bin, q_c, q_callb, q_cons, q_nil, q_tup, q_lst, q_celle, q_ret, q_nx, q_thl, q_thd, q_isi, q_neg, q_neg_i, q_callk, q_drop, q_retn, q_brk, q_cnt, q_ife, q_add_i, q_sub_i, q_lt_i, q_le_i, q_gt_i, q_ge_i, q_eq_i, q_ne_i, List.map_cons, List.map_nil, List.length_cons, List.length_nil, List.replicate, List.append_nil, List.nil_append, List.cons_append, Nat.reduceAdd, Nat.reduceSub, List.getElem?_cons_zero, List.getElem?_cons_succ, List.set_cons_zero, List.set_cons_succ, Bool.not_true, Bool.not_false, decide_true, decide_false, if_true, if_false, i1, i2, o1, P3, ad2, sz1, sz3, List.map_append]
theorem e_world {ns : List Int} (hb : ∀ z ∈ ns, intBits z ≤ 1048576) {at_ : Int} (p0 : 0 ≤ at_) (p1 : at_ < 900) {szs : List Int} (hz : ∀ z ∈ szs, 1 ≤ z ∧ z ≤ 200) (hn : szs.length ≤ 3) (hn0 : 1 ≤ szs.length) :
    ∃ (S : List Sh) (F : List Fu), m_law_flow_world [.slst (ns.map D.int), .int at_, .lst (szs.map D.int)] = .ok (wD S (F.map fuD)) ∧ SFacts S ∧ F.length = szs.length ∧ FIs S ((HL.take szs.length).map (·.name)) szs F := by
  obtain ⟨cl, ec, hcl⟩ := cell_ok ns hb at_ p0 (by omega)
  have ec' : m_law_cell [.slst (ns.map D.int), .int at_] = .ok (.int cl) := ec
  obtain ⟨row, ed, hd⟩ := digits_ok cl [8, 5, 5, 4, 4, 5] (by decide) (by simp)
  have ed' : m_law_digits [.int cl, .lst [.int 8, .int 5, .int 5, .int 4, .int 4, .int 5]] = .ok (.lst (row.map D.int)) := ed
  obtain ⟨r0, _, rfl, a0, b0, hd⟩ := hd.cons
  obtain ⟨r1, _, rfl, a1, b1, hd⟩ := hd.cons
  obtain ⟨r2, _, rfl, a2, b2, hd⟩ := hd.cons
  obtain ⟨r3, _, rfl, a3, b3, hd⟩ := hd.cons
  obtain ⟨r4, _, rfl, a4, b4, hd⟩ := hd.cons
  obtain ⟨r5, _, rfl, a5, b5, hd⟩ := hd.cons
  have := hd.nil
  subst this
  simp only [List.map_cons, List.map_nil] at ed'
  obtain ⟨S, eS, sf⟩ := e_small r0 r1 r2 r3 r4 r5 a0 b0 a1 b1 a2 b2 a3 b3 a4 b4 a5 b5
  have htl : (HL.take szs.length).length = szs.length := by rw [List.length_take]; show min szs.length 3 = _; omega
  obtain ⟨rr, e2, F, x6, x8, x9, hr, hI, hF⟩ := for_inv (i := 8) (body := b_law_flow_world_2) (fun j r => ∃ (F : List Fu) (x6 x8 x9 : Option EV), r = [some (.val (.slst (ns.map D.int))), some (.val (.int at_)), some (.val (.lst (szs.map D.int))), some (.val (.lst (S.map shD))), some (.val (.lst ((HL.take szs.length).map hdD))), some (.val (wD S ((HL.take szs.length).map hsD))), x6, some (.own (.l (F.map fuD))), x8, x9] ∧ FIs S ((HL.take szs.length).map (·.name)) szs F ∧ F.length = j) (ds := rgD 0 szs.length)
    (r := [some (.val (.slst (ns.map D.int))), some (.val (.int at_)), some (.val (.lst (szs.map D.int))), some (.val (.lst (S.map shD))), some (.val (.lst ((HL.take szs.length).map hdD))), some (.val (wD S ((HL.take szs.length).map hsD))), none, some (.own (.l [])), none, none]) ⟨[], none, none, none, rfl, fun i f hi => by simp at hi, rfl⟩ (fun j z r hz' ⟨F, x6, x8, x9, hr, hI, hF⟩ => by
    subst hr
    obtain ⟨hj, rfl⟩ := rgD_get hz'
    rw [show (0 : Int) + (j : Int) = (j : Int) by omega]
    obtain ⟨f, y9, g1, g2⟩ := e_fw2 hb p0 p1 sf hz hn hj hF hI x6 x9
    exact ⟨_, g2, F ++ [f], x6, _, y9, rfl, g1, by simp [hF]⟩)
  subst hr
  rw [rgD_len] at hF
  refine ⟨S, F, ?_, sf, hF, hI⟩
  have lc : mLC [6] (mItems (mVar 4)) (bName 6) mYes e_law_flow_world_1 [some (.val (.slst (ns.map D.int))), some (.val (.int at_)), some (.val (.lst (szs.map D.int))), some (.val (.lst (S.map shD))), some (.val (.lst ((HL.take szs.length).map hdD))), none, none, none, none, none] = .ok (.l ((HL.take szs.length).map hsD)) := lc_same (g := hdD) rfl (by omega) (by simp only [q_df, q_st, q_sq, q_at_nx, q_at_rt, q_at_bk, q_at_ct, q_at_ex, q_mi, q_sel_t, q_sel_f, q_out_rt, q_out_nx, q_out_ex, q_rb_ok, q_rb_bad, q_rb_exc, q_tf_ok, q_v0, q_vs, q_w0, q_w0o, q_ws, q_tbq, q_asb, q_nt, q_rsel_t, q_rsel_f, q_ta, q_to, q_va, q_vo, q_vn, q_sett, q_seto, q_bin, q_c, q_callb, q_cons, q_nil, q_tup, q_lst, q_celle, q_ret, q_nx, q_thl, q_thd, q_isi, q_neg, q_neg_i, q_callk, q_drop, q_retn, q_brk, q_cnt, q_ife, q_add_i, q_sub_i, q_lt_i, q_le_i, q_gt_i, q_ge_i, q_eq_i, q_ne_i, List.map_cons, List.map_nil, List.length_cons, List.length_nil, List.replicate, List.append_nil, List.nil_append, List.cons_append, Nat.reduceAdd, Nat.reduceSub, List.getElem?_cons_zero, List.getElem?_cons_succ, List.set_cons_zero, List.set_cons_succ, Bool.not_true, Bool.not_false, decide_true, decide_false, if_true, if_false, q_it, q_items_l]) (fun h hh => ⟨_, rfl, by
    show e_law_flow_world_1 [some (.val (.slst (ns.map D.int))), some (.val (.int at_)), some (.val (.lst (szs.map D.int))), some (.val (.lst (S.map shD))), some (.val (.lst ((HL.take szs.length).map hdD))), none, some (.val (hdD h)), none, none, none] = _
    have ad : dAdd (hdD h) (.tup [.tup []]) = .ok (hsD h) := t_addt (by simp)
    simp only [e_law_flow_world_1, q_df, q_st, q_sq, q_at_nx, q_at_rt, q_at_bk, q_at_ct, q_at_ex, q_mi, q_sel_t, q_sel_f, q_out_rt, q_out_nx, q_out_ex, q_rb_ok, q_rb_bad, q_rb_exc, q_tf_ok, q_v0, q_vs, q_w0, q_w0o, q_ws, q_tbq, q_asb, q_nt, q_rsel_t, q_rsel_f, q_ta, q_to, q_va, q_vo, q_vn, q_sett, q_seto, q_bin, q_c, q_callb, q_cons, q_nil, q_tup, q_lst, q_celle, q_ret, q_nx, q_thl, q_thd, q_isi, q_neg, q_neg_i, q_callk, q_drop, q_retn, q_brk, q_cnt, q_ife, q_add_i, q_sub_i, q_lt_i, q_le_i, q_gt_i, q_ge_i, q_eq_i, q_ne_i, List.map_cons, List.map_nil, List.length_cons, List.length_nil, List.replicate, List.append_nil, List.nil_append, List.cons_append, Nat.reduceAdd, Nat.reduceSub, List.getElem?_cons_zero, List.getElem?_cons_succ, List.set_cons_zero, List.set_cons_succ, Bool.not_true, Bool.not_false, decide_true, decide_false, if_true, if_false, sz1, Nat.zero_le, ad]⟩)
  unfold m_law_flow_world
  refine def_of ?_
  rw [show mStart 10 [D.slst (ns.map D.int), .int at_, .lst (szs.map D.int)] = [some (.val (.slst (ns.map D.int))), some (.val (.int at_)), some (.val (.lst (szs.map D.int))), none, none, none, none, none, none, none] from rfl]
  rw [seq_nx (r' := [some (.val (.slst (ns.map D.int))), some (.val (.int at_)), some (.val (.lst (szs.map D.int))), some (.val (.lst (S.map shD))), none, none, none, none, none, none]) (by simp only [q_df, q_st, q_sq, q_at_nx, q_at_rt, q_at_bk, q_at_ct, q_at_ex, q_mi, q_sel_t, q_sel_f, q_out_rt, q_out_nx, q_out_ex, q_rb_ok, q_rb_bad, q_rb_exc, q_tf_ok, q_v0, q_vs, q_w0, q_w0o, q_ws, q_tbq, q_asb, q_nt, q_rsel_t, q_rsel_f, q_ta, q_to, q_va, q_vo, q_vn, q_sett, q_seto, q_bin, q_c, q_callb, q_cons, q_nil, q_tup, q_lst, q_celle, q_ret, q_nx, q_thl, q_thd, q_isi, q_neg, q_neg_i, q_callk, q_drop, q_retn, q_brk, q_cnt, q_ife, q_add_i, q_sub_i, q_lt_i, q_le_i, q_gt_i, q_ge_i, q_eq_i, q_ne_i, List.map_cons, List.map_nil, List.length_cons, List.length_nil, List.replicate, List.append_nil, List.nil_append, List.cons_append, Nat.reduceAdd, Nat.reduceSub, List.getElem?_cons_zero, List.getElem?_cons_succ, List.set_cons_zero, List.set_cons_succ, Bool.not_true, Bool.not_false, decide_true, decide_false, if_true, if_false, sz6, ec', ed', eS])]
  have hcut : dCut (.lst [hdD ⟨"main", ["num"], none, 2⟩, hdD ⟨"f", [], some "num", 3⟩, hdD ⟨"g", [], none, 0⟩]) none (some (szs.length : Int)) = .ok (.lst ((HL.take szs.length).map hdD)) := by
    rw [q_cut_l, cut_take (by simpa using hn), List.map_take]
    rfl
  have hh1 : hdD ⟨"main", ["num"], none, 2⟩ = .tup [.str "main", .tup [.str "num"], .non, .int 2] := rfl
  have hh2 : hdD ⟨"f", [], some "num", 3⟩ = .tup [.str "f", .tup [], .str "num", .int 3] := rfl
  have hh3 : hdD ⟨"g", [], none, 0⟩ = .tup [.str "g", .tup [], .non, .int 0] := rfl
  rw [hh1, hh2, hh3] at hcut
  have sz4 : (4 : Nat) ≤ sizeLine := by decide
  rw [seq_nx (r' := [some (.val (.slst (ns.map D.int))), some (.val (.int at_)), some (.val (.lst (szs.map D.int))), some (.val (.lst (S.map shD))), some (.val (.lst ((HL.take szs.length).map hdD))), none, none, none, none, none]) (by simp only [q_df, q_st, q_sq, q_at_nx, q_at_rt, q_at_bk, q_at_ct, q_at_ex, q_mi, q_sel_t, q_sel_f, q_out_rt, q_out_nx, q_out_ex, q_rb_ok, q_rb_bad, q_rb_exc, q_tf_ok, q_v0, q_vs, q_w0, q_w0o, q_ws, q_tbq, q_asb, q_nt, q_rsel_t, q_rsel_f, q_ta, q_to, q_va, q_vo, q_vn, q_sett, q_seto, q_bin, q_c, q_callb, q_cons, q_nil, q_tup, q_lst, q_celle, q_ret, q_nx, q_thl, q_thd, q_isi, q_neg, q_neg_i, q_callk, q_drop, q_retn, q_brk, q_cnt, q_ife, q_add_i, q_sub_i, q_lt_i, q_le_i, q_gt_i, q_ge_i, q_eq_i, q_ne_i, List.map_cons, List.map_nil, List.length_cons, List.length_nil, List.replicate, List.append_nil, List.nil_append, List.cons_append, Nat.reduceAdd, Nat.reduceSub, List.getElem?_cons_zero, List.getElem?_cons_succ, List.set_cons_zero, List.set_cons_succ, Bool.not_true, Bool.not_false, decide_true, decide_false, if_true, if_false, sz1, sz3, sz4, Nat.zero_le, q_cut, q_part0, q_part1, q_asio, q_len_l, List.length_map, hcut])]
  rw [seq_nx (r' := [some (.val (.slst (ns.map D.int))), some (.val (.int at_)), some (.val (.lst (szs.map D.int))), some (.val (.lst (S.map shD))), some (.val (.lst ((HL.take szs.length).map hdD))), some (.val (wD S ((HL.take szs.length).map hsD))), none, none, none, none]) (by simp only [q_df, q_st, q_sq, q_at_nx, q_at_rt, q_at_bk, q_at_ct, q_at_ex, q_mi, q_sel_t, q_sel_f, q_out_rt, q_out_nx, q_out_ex, q_rb_ok, q_rb_bad, q_rb_exc, q_tf_ok, q_v0, q_vs, q_w0, q_w0o, q_ws, q_tbq, q_asb, q_nt, q_rsel_t, q_rsel_f, q_ta, q_to, q_va, q_vo, q_vn, q_sett, q_seto, q_bin, q_c, q_callb, q_cons, q_nil, q_tup, q_lst, q_celle, q_ret, q_nx, q_thl, q_thd, q_isi, q_neg, q_neg_i, q_callk, q_drop, q_retn, q_brk, q_cnt, q_ife, q_add_i, q_sub_i, q_lt_i, q_le_i, q_gt_i, q_ge_i, q_eq_i, q_ne_i, List.map_cons, List.map_nil, List.length_cons, List.length_nil, List.replicate, List.append_nil, List.nil_append, List.cons_append, Nat.reduceAdd, Nat.reduceSub, List.getElem?_cons_zero, List.getElem?_cons_succ, List.set_cons_zero, List.set_cons_succ, Bool.not_true, Bool.not_false, decide_true, decide_false, if_true, if_false, sz1, sz2, sz3, lc]; rfl)]
  rw [seq_nx (r' := [some (.val (.slst (ns.map D.int))), some (.val (.int at_)), some (.val (.lst (szs.map D.int))), some (.val (.lst (S.map shD))), some (.val (.lst ((HL.take szs.length).map hdD))), some (.val (wD S ((HL.take szs.length).map hsD))), none, some (.own (.l [])), none, none]) (by rfl)]
  rw [seq_nx (for_nx (by
    simp only [q_df, q_st, q_sq, q_at_nx, q_at_rt, q_at_bk, q_at_ct, q_at_ex, q_mi, q_sel_t, q_sel_f, q_out_rt, q_out_nx, q_out_ex, q_rb_ok, q_rb_bad, q_rb_exc, q_tf_ok, q_v0, q_vs, q_w0, q_w0o, q_ws, q_tbq, q_asb, q_nt, q_rsel_t, q_rsel_f, q_ta, q_to, q_va, q_vo, q_vn, q_sett, q_seto, q_bin, q_c, q_callb, q_cons, q_nil, q_tup, q_lst, q_celle, q_ret, q_nx, q_thl, q_thd, q_isi, q_neg, q_neg_i, q_callk, q_drop, q_retn, q_brk, q_cnt, q_ife, q_add_i, q_sub_i, q_lt_i, q_le_i, q_gt_i, q_ge_i, q_eq_i, q_ne_i, List.map_cons, List.map_nil, List.length_cons, List.length_nil, List.replicate, List.append_nil, List.nil_append, List.cons_append, Nat.reduceAdd, Nat.reduceSub, List.getElem?_cons_zero, List.getElem?_cons_succ, List.set_cons_zero, List.set_cons_succ, Bool.not_true, Bool.not_false, decide_true, decide_false, if_true, if_false, q_rg, q_len_l, List.length_map, htl]
    rw [q_rg1 (by omega) (by omega), Int.toNat_natCast]) e2)]
  rw [q_frz]
  simp only [q_df, q_st, q_sq, q_at_nx, q_at_rt, q_at_bk, q_at_ct, q_at_ex, q_mi, q_sel_t, q_sel_f, q_out_rt, q_out_nx, q_out_ex, q_rb_ok, q_rb_bad, q_rb_exc, q_tf_ok, q_v0, q_vs, q_w0, q_w0o, q_ws, q_tbq, q_asb, q_nt, q_rsel_t, q_rsel_f, q_ta, q_to, q_va, q_vo, q_vn, q_sett, q_seto, q_bin, q_c, q_callb, q_cons, q_nil, q_tup, q_lst, q_celle, q_ret, q_nx, q_thl, q_thd, q_isi, q_neg, q_neg_i, q_callk, q_drop, q_retn, q_brk, q_cnt, q_ife, q_add_i, q_sub_i, q_lt_i, q_le_i, q_gt_i, q_ge_i, q_eq_i, q_ne_i, List.map_cons, List.map_nil, List.length_cons, List.length_nil, List.replicate, List.append_nil, List.nil_append, List.cons_append, Nat.reduceAdd, Nat.reduceSub, List.getElem?_cons_zero, List.getElem?_cons_succ, List.set_cons_zero, List.set_cons_succ, Bool.not_true, Bool.not_false, decide_true, decide_false, if_true, if_false, q_ocs, q_oc0, q_flopt, sz1, sz2, sz3]
  rfl
/-- such a world is let -/
theorem world_ok {S : List Sh} {F : List Fu} {szs : List Int} (sf : SFacts S) (hn : szs.length ≤ 3) (hn0 : 1 ≤ szs.length) (hz : ∀ z ∈ szs, 1 ≤ z ∧ z ≤ 200) (hF : F.length = szs.length) (hI : FIs S ((HL.take szs.length).map (·.name)) szs F) : PrOk S [("s", "num")] F ∧ (∀ f ∈ F, ∀ p ∈ f.body, JOk p ∧ DTxt p) := by
  have hfn : F.map (·.name) = (HL.take szs.length).map (·.name) := by
    apply List.ext_getElem?
    intro i
    rw [List.getElem?_map, List.getElem?_map]
    by_cases hi : i < F.length
    · obtain ⟨h, z, h1, _, h3, _⟩ := hI i F[i] (List.getElem?_eq_getElem hi)
      rw [List.getElem?_eq_getElem hi, List.getElem?_take_of_lt (by omega), h1]
      show some F[i].name = some h.name
      rw [h3]
    · rw [List.getElem?_eq_none (by omega), List.getElem?_eq_none (by rw [List.length_take]; omega)]
      rfl
  have nd : ((HL.take szs.length).map (·.name)).Nodup := by
    rw [List.map_take]
    exact List.Nodup.sublist (List.take_sublist _ _) HL_nodup
  have mem : ∀ f ∈ F, ∃ i h z, F[i]? = some f ∧ HL[i]? = some h ∧ h ∈ HL ∧ z ∈ szs ∧ f.name = h.name ∧ f.params = h.params ∧ f.result = h.result ∧ f.slots = h.slots ∧ (f.body.length : Int) = z ∧ ∀ p ∈ f.body, DeedG S ((HL.take szs.length).map (·.name)) f.slots (f.body.length : Int) p := fun f hf => by
    obtain ⟨i, hi⟩ := List.getElem?_of_mem hf
    obtain ⟨h, z, h1, h2, h3⟩ := hI i f hi
    exact ⟨i, h, z, hi, h1, List.mem_of_getElem? h1, List.mem_of_getElem? h2, h3⟩
  refine ⟨⟨sf.ok, ⟨by decide, ?_, ?_, by simp⟩, ⟨by rw [hfn]; exact nd, ?_, fun k f hk => ?_, by omega, by omega⟩, fun f hf p hp => ?_, by rw [sf.eight]; omega, by simp⟩, fun f hf p hp => ?_⟩
  · intro z hz'
    simp only [List.map_cons, List.map_nil, List.mem_cons, List.not_mem_nil, or_false] at hz'
    subst hz'
    unfold Nm
    kernel_rfl
  · intro p hp
    simp only [List.mem_cons, List.not_mem_nil, or_false] at hp
    subst hp
    exact .inl rfl
  · intro z hz'
    obtain ⟨f, hf, rfl⟩ := List.mem_map.mp hz'
    obtain ⟨i, h, z, _, _, h3, _, h5, _⟩ := mem f hf
    rw [h5]
    exact HL_nm h h3
  · obtain ⟨h, z, h1, h2, h3, h4, h5, h6, h7, _⟩ := hI k f hk
    obtain ⟨k1, k2, k3, k4, k5, k6, k7, k8⟩ := HL_ok h (List.mem_of_getElem? h1)
    obtain ⟨z0, z1⟩ := hz z (List.mem_of_getElem? h2)
    refine ⟨fun p hp => .inl (k7 p (by rw [← h4]; exact hp)), fun s hs => .inl (k8 s (by rw [← h5]; exact hs)), by rw [h4]; exact k4, by rw [h4, h6]; exact k5, by rw [h6]; exact k6, fun hk0 => ⟨fun p hp => k7 p (by rw [← h4]; exact hp), ?_⟩, by omega, by omega⟩
    subst hk0
    rw [h5]
    exact HL_entry h h1
  · obtain ⟨i, h, z, _, _, _, _, _, _, _, _, _, hd⟩ := mem f hf
    obtain ⟨g1, _⟩ := hd p hp
    rw [hfn]
    exact g1
  · obtain ⟨i, h, z, _, _, _, _, _, _, _, _, _, hd⟩ := mem f hf
    obtain ⟨_, g2, g3⟩ := hd p hp
    exact ⟨g2, g3⟩
/-! ### how the parts are passed -/
theorem nrm_map {α : Type} {g h : α → D} {as : List α} (e : ∀ a ∈ as, nrm (g a) = h a) : (as.map g).map nrm = as.map h := by
  rw [List.map_map]
  exact List.map_congr_left e
theorem nrm_strs (ss : List Str) : (ss.map D.str).map nrm = ss.map D.str := nrm_map (fun s _ => by simp only [nrm])
theorem nrm_res (r : Option Str) : nrm (resD r) = resD r := by cases r <;> simp only [resD, nrm]
theorem nrm_ops {ds : List D} (h : ∀ o ∈ ds, nrm o = o) : ds.map nrm = ds := by
  induction ds with
  | nil => rfl
  | cons d ds ih => rw [List.map_cons, h d List.mem_cons_self, ih fun o ho => h o (List.mem_cons_of_mem _ ho)]
def pairL (p : Str × Str) : D := .lst [.str p.1, .str p.2]
def shL (s : Sh) : D := .lst [.str s.name, .str s.form, .lst (s.fields.map pairL)]
def deedL (p : Str × List D) : D := .lst (.str p.1 :: p.2)
def fuL (f : Fu) : D := .lst [.str f.name, .lst (f.params.map D.str), resD f.result, .int f.slots, .lst (f.body.map deedL)]
theorem nrm_pair (p : Str × Str) : nrm (pairD p) = pairD p ∧ nrm (pairL p) = pairD p := by
  constructor <;> simp only [pairD, pairL, nrm, nrmL]
theorem nrm_sh (s : Sh) : nrm (shD s) = shD s ∧ nrm (shL s) = shD s := by
  constructor
  · simp only [shD, nrm, nrmL]
    rw [nrmL_map, nrm_map (h := pairD) (fun p _ => (nrm_pair p).1)]
  · simp only [shD, shL, nrm, nrmL]
    rw [nrmL_map, nrm_map (h := pairD) (fun p _ => (nrm_pair p).2)]
theorem nrm_deed {p : Str × List D} (h : DTxt p) : nrm (deedD p) = deedD p ∧ nrm (deedL p) = deedD p := by
  have e := nrm_ops (fun o ho => (h.flat o ho).1)
  constructor <;> simp only [deedD, deedL, nrm, nrmL] <;> rw [nrmL_map, e]
theorem nrm_fu {f : Fu} (h : ∀ p ∈ f.body, DTxt p) : nrm (fuD f) = fuD f ∧ nrm (fuL f) = fuD f := by
  constructor
  · simp only [fuD, nrm, nrmL, nrm_res]
    rw [nrmL_map, nrmL_map, nrm_strs, nrm_map (h := deedD) (fun p hp => (nrm_deed (h p hp)).1)]
  · simp only [fuD, fuL, nrm, nrmL, nrm_res]
    rw [nrmL_map, nrmL_map, nrm_strs, nrm_map (h := deedD) (fun p hp => (nrm_deed (h p hp)).2)]
theorem e_parts {S : List Sh} {F : List Fu} (hS : S.length < 1000) (hSf : ∀ s ∈ S, s.fields.length < 1000) (hF : F.length < 1000) (hFb : ∀ f ∈ F, f.body.length < 1000) (hT : ∀ f ∈ F, ∀ p ∈ f.body, DTxt p) {m : Int} (m0 : 0 ≤ m) (m1 : m < 2) :
    ∃ pd d t e, m_law_parts [wD S (F.map fuD), .int m] = .ok pd ∧ dIx pd (.int 0) = .ok d ∧ dIx pd (.int 1) = .ok t ∧ dIx pd (.int 2) = .ok e ∧ nrm d = .tup (S.map shD) ∧ nrm t = .tup ([(("s" : Str), ("num" : Str))].map pairD) ∧ nrm e = .tup (F.map fuD) := by
  have n1 : nrm (.tup (S.map shD)) = .tup (S.map shD) := by
    simp only [nrm]
    rw [nrmL_map, nrm_map (h := shD) (fun s _ => (nrm_sh s).1)]
  have n2 : nrm (.tup (F.map fuD)) = .tup (F.map fuD) := by
    simp only [nrm]
    rw [nrmL_map, nrm_map (h := fuD) (fun f hf => (nrm_fu (hT f hf)).1)]
  have w0 : dIx (wD S (F.map fuD)) (.int 0) = .ok (.lst (S.map shD)) := rfl
  have w1 : dIx (wD S (F.map fuD)) (.int 1) = .ok (.lst [pairD ("s", "num")]) := rfl
  have w2 : dIx (wD S (F.map fuD)) (.int 2) = .ok (.lst (F.map fuD)) := rfl
  by_cases hm : m = 0
  · subst hm
    refine ⟨.tup [.tup (S.map shD), .tup [pairD ("s", "num")], .tup (F.map fuD)], _, _, _, ?_, rfl, rfl, rfl, n1, ?_, n2⟩
    · unfold m_law_parts
      refine def_of ?_
      rw [show mStart 9 [wD S (F.map fuD), D.int 0] = [some (.val (wD S (F.map fuD))), some (.val (.int 0)), none, none, none, none, none, none, none] from rfl]
      refine seq_rt ?_
      simp only [q_df, q_st, q_sq, q_at_nx, q_at_rt, q_at_bk, q_at_ct, q_at_ex, q_mi, q_sel_t, q_sel_f, q_out_rt, q_out_nx, q_out_ex, q_rb_ok, q_rb_bad, q_rb_exc, q_tf_ok, q_v0, q_vs, q_w0, q_w0o, q_ws, q_tbq, q_asb, q_nt, q_rsel_t, q_rsel_f, q_ta, q_to, q_va, q_vo, q_vn, q_sett, q_seto, q_bin, q_c, q_callb, q_cons, q_nil, q_tup, q_lst, q_celle, q_ret, q_nx, q_thl, q_thd, q_isi, q_neg, q_neg_i, q_callk, q_drop, q_retn, q_brk, q_cnt, q_ife, q_add_i, q_sub_i, q_lt_i, q_le_i, q_gt_i, q_ge_i, q_eq_i, q_ne_i, List.map_cons, List.map_nil, List.length_cons, List.length_nil, List.replicate, List.append_nil, List.nil_append, List.cons_append, Nat.reduceAdd, Nat.reduceSub, List.getElem?_cons_zero, List.getElem?_cons_succ, List.set_cons_zero, List.set_cons_succ, Bool.not_true, Bool.not_false, decide_true, decide_false, if_true, if_false, w0, w1, w2, q_tupof_l, sz3]
    · simp only [nrm, nrmL, pairD, List.map_cons, List.map_nil]
  · have l1 : nrm (.lst (S.map shL)) = .tup (S.map shD) := by
      simp only [nrm]
      rw [nrmL_map, nrm_map (h := shD) (fun s _ => (nrm_sh s).2)]
    have l2 : nrm (.lst (F.map fuL)) = .tup (F.map fuD) := by
      simp only [nrm]
      rw [nrmL_map, nrm_map (h := fuD) (fun f hf => (nrm_fu (hT f hf)).2)]
    refine ⟨.lst [.lst (S.map shL), .lst [pairL ("s", "num")], .lst (F.map fuL)], _, _, _, ?_, rfl, rfl, rfl, l1, ?_, l2⟩
    · have lc1 : mLC [4] (mItems (mBin dIx (mVar 0) (mC (.int 0)))) (bName 4) mYes e_law_parts_2 [some (.val (wD S (F.map fuD))), some (.val (.int m)), none, none, none, none, none, none, none] = .ok (.l (S.map shL)) := lc_same (g := shD) rfl (by omega) (by simp only [q_df, q_st, q_sq, q_at_nx, q_at_rt, q_at_bk, q_at_ct, q_at_ex, q_mi, q_sel_t, q_sel_f, q_out_rt, q_out_nx, q_out_ex, q_rb_ok, q_rb_bad, q_rb_exc, q_tf_ok, q_v0, q_vs, q_w0, q_w0o, q_ws, q_tbq, q_asb, q_nt, q_rsel_t, q_rsel_f, q_ta, q_to, q_va, q_vo, q_vn, q_sett, q_seto, q_bin, q_c, q_callb, q_cons, q_nil, q_tup, q_lst, q_celle, q_ret, q_nx, q_thl, q_thd, q_isi, q_neg, q_neg_i, q_callk, q_drop, q_retn, q_brk, q_cnt, q_ife, q_add_i, q_sub_i, q_lt_i, q_le_i, q_gt_i, q_ge_i, q_eq_i, q_ne_i, List.map_cons, List.map_nil, List.length_cons, List.length_nil, List.replicate, List.append_nil, List.nil_append, List.cons_append, Nat.reduceAdd, Nat.reduceSub, List.getElem?_cons_zero, List.getElem?_cons_succ, List.set_cons_zero, List.set_cons_succ, Bool.not_true, Bool.not_false, decide_true, decide_false, if_true, if_false, q_it, w0, q_items_l]) (fun s hs => ⟨_, rfl, by
        show e_law_parts_2 [some (.val (wD S (F.map fuD))), some (.val (.int m)), none, none, some (.val (shD s)), none, none, none, none] = _
        have x0 : dIx (shD s) (.int 0) = .ok (.str s.name) := rfl
        have x1 : dIx (shD s) (.int 1) = .ok (.str s.form) := rfl
        have x2 : dIx (shD s) (.int 2) = .ok (.tup (s.fields.map pairD)) := rfl
        have lc : mLC [3] (mItems (mBin dIx (mVar 4) (mC (.int 2)))) (bName 3) mYes e_law_parts_1 [some (.val (wD S (F.map fuD))), some (.val (.int m)), none, none, some (.val (shD s)), none, none, none, none] = .ok (.l (s.fields.map pairL)) := lc_same (g := pairD) rfl (by have := hSf s hs; omega) (by simp only [q_df, q_st, q_sq, q_at_nx, q_at_rt, q_at_bk, q_at_ct, q_at_ex, q_mi, q_sel_t, q_sel_f, q_out_rt, q_out_nx, q_out_ex, q_rb_ok, q_rb_bad, q_rb_exc, q_tf_ok, q_v0, q_vs, q_w0, q_w0o, q_ws, q_tbq, q_asb, q_nt, q_rsel_t, q_rsel_f, q_ta, q_to, q_va, q_vo, q_vn, q_sett, q_seto, q_bin, q_c, q_callb, q_cons, q_nil, q_tup, q_lst, q_celle, q_ret, q_nx, q_thl, q_thd, q_isi, q_neg, q_neg_i, q_callk, q_drop, q_retn, q_brk, q_cnt, q_ife, q_add_i, q_sub_i, q_lt_i, q_le_i, q_gt_i, q_ge_i, q_eq_i, q_ne_i, List.map_cons, List.map_nil, List.length_cons, List.length_nil, List.replicate, List.append_nil, List.nil_append, List.cons_append, Nat.reduceAdd, Nat.reduceSub, List.getElem?_cons_zero, List.getElem?_cons_succ, List.set_cons_zero, List.set_cons_succ, Bool.not_true, Bool.not_false, decide_true, decide_false, if_true, if_false, q_it, x2, q_items_t]) (fun p hp => ⟨_, rfl, rfl⟩)
        simp only [e_law_parts_2, q_df, q_st, q_sq, q_at_nx, q_at_rt, q_at_bk, q_at_ct, q_at_ex, q_mi, q_sel_t, q_sel_f, q_out_rt, q_out_nx, q_out_ex, q_rb_ok, q_rb_bad, q_rb_exc, q_tf_ok, q_v0, q_vs, q_w0, q_w0o, q_ws, q_tbq, q_asb, q_nt, q_rsel_t, q_rsel_f, q_ta, q_to, q_va, q_vo, q_vn, q_sett, q_seto, q_bin, q_c, q_callb, q_cons, q_nil, q_tup, q_lst, q_celle, q_ret, q_nx, q_thl, q_thd, q_isi, q_neg, q_neg_i, q_callk, q_drop, q_retn, q_brk, q_cnt, q_ife, q_add_i, q_sub_i, q_lt_i, q_le_i, q_gt_i, q_ge_i, q_eq_i, q_ne_i, List.map_cons, List.map_nil, List.length_cons, List.length_nil, List.replicate, List.append_nil, List.nil_append, List.cons_append, Nat.reduceAdd, Nat.reduceSub, List.getElem?_cons_zero, List.getElem?_cons_succ, List.set_cons_zero, List.set_cons_succ, Bool.not_true, Bool.not_false, decide_true, decide_false, if_true, if_false, x0, x1, lc, sz3]
        rfl⟩)
      have lc2 : mLC [7] (mItems (mBin dIx (mVar 0) (mC (.int 2)))) (bName 7) mYes e_law_parts_4 [some (.val (wD S (F.map fuD))), some (.val (.int m)), some (.own (.l (S.map shL))), none, none, none, none, none, none] = .ok (.l (F.map fuL)) := lc_same (g := fuD) rfl (by omega) (by simp only [q_df, q_st, q_sq, q_at_nx, q_at_rt, q_at_bk, q_at_ct, q_at_ex, q_mi, q_sel_t, q_sel_f, q_out_rt, q_out_nx, q_out_ex, q_rb_ok, q_rb_bad, q_rb_exc, q_tf_ok, q_v0, q_vs, q_w0, q_w0o, q_ws, q_tbq, q_asb, q_nt, q_rsel_t, q_rsel_f, q_ta, q_to, q_va, q_vo, q_vn, q_sett, q_seto, q_bin, q_c, q_callb, q_cons, q_nil, q_tup, q_lst, q_celle, q_ret, q_nx, q_thl, q_thd, q_isi, q_neg, q_neg_i, q_callk, q_drop, q_retn, q_brk, q_cnt, q_ife, q_add_i, q_sub_i, q_lt_i, q_le_i, q_gt_i, q_ge_i, q_eq_i, q_ne_i, List.map_cons, List.map_nil, List.length_cons, List.length_nil, List.replicate, List.append_nil, List.nil_append, List.cons_append, Nat.reduceAdd, Nat.reduceSub, List.getElem?_cons_zero, List.getElem?_cons_succ, List.set_cons_zero, List.set_cons_succ, Bool.not_true, Bool.not_false, decide_true, decide_false, if_true, if_false, q_it, w2, q_items_l]) (fun f hf => ⟨_, rfl, by
        show e_law_parts_4 [some (.val (wD S (F.map fuD))), some (.val (.int m)), some (.own (.l (S.map shL))), none, none, none, none, some (.val (fuD f)), none] = _
        have x0 : dIx (fuD f) (.int 0) = .ok (.str f.name) := rfl
        have x1 : dIx (fuD f) (.int 1) = .ok (.tup (f.params.map D.str)) := rfl
        have x2 : dIx (fuD f) (.int 2) = .ok (resD f.result) := rfl
        have x3 : dIx (fuD f) (.int 3) = .ok (.int f.slots) := rfl
        have x4 : dIx (fuD f) (.int 4) = .ok (.tup (f.body.map deedD)) := rfl
        have lc : mLC [6] (mItems (mBin dIx (mVar 7) (mC (.int 4)))) (bName 6) mYes e_law_parts_3 [some (.val (wD S (F.map fuD))), some (.val (.int m)), some (.own (.l (S.map shL))), none, none, none, none, some (.val (fuD f)), none] = .ok (.l (f.body.map deedL)) := lc_same (g := deedD) rfl (by have := hFb f hf; omega) (by simp only [q_df, q_st, q_sq, q_at_nx, q_at_rt, q_at_bk, q_at_ct, q_at_ex, q_mi, q_sel_t, q_sel_f, q_out_rt, q_out_nx, q_out_ex, q_rb_ok, q_rb_bad, q_rb_exc, q_tf_ok, q_v0, q_vs, q_w0, q_w0o, q_ws, q_tbq, q_asb, q_nt, q_rsel_t, q_rsel_f, q_ta, q_to, q_va, q_vo, q_vn, q_sett, q_seto, q_bin, q_c, q_callb, q_cons, q_nil, q_tup, q_lst, q_celle, q_ret, q_nx, q_thl, q_thd, q_isi, q_neg, q_neg_i, q_callk, q_drop, q_retn, q_brk, q_cnt, q_ife, q_add_i, q_sub_i, q_lt_i, q_le_i, q_gt_i, q_ge_i, q_eq_i, q_ne_i, List.map_cons, List.map_nil, List.length_cons, List.length_nil, List.replicate, List.append_nil, List.nil_append, List.cons_append, Nat.reduceAdd, Nat.reduceSub, List.getElem?_cons_zero, List.getElem?_cons_succ, List.set_cons_zero, List.set_cons_succ, Bool.not_true, Bool.not_false, decide_true, decide_false, if_true, if_false, q_it, x4, q_items_t]) (fun p hp => ⟨_, rfl, rfl⟩)
        simp only [e_law_parts_4, q_df, q_st, q_sq, q_at_nx, q_at_rt, q_at_bk, q_at_ct, q_at_ex, q_mi, q_sel_t, q_sel_f, q_out_rt, q_out_nx, q_out_ex, q_rb_ok, q_rb_bad, q_rb_exc, q_tf_ok, q_v0, q_vs, q_w0, q_w0o, q_ws, q_tbq, q_asb, q_nt, q_rsel_t, q_rsel_f, q_ta, q_to, q_va, q_vo, q_vn, q_sett, q_seto, q_bin, q_c, q_callb, q_cons, q_nil, q_tup, q_lst, q_celle, q_ret, q_nx, q_thl, q_thd, q_isi, q_neg, q_neg_i, q_callk, q_drop, q_retn, q_brk, q_cnt, q_ife, q_add_i, q_sub_i, q_lt_i, q_le_i, q_gt_i, q_ge_i, q_eq_i, q_ne_i, List.map_cons, List.map_nil, List.length_cons, List.length_nil, List.replicate, List.append_nil, List.nil_append, List.cons_append, Nat.reduceAdd, Nat.reduceSub, List.getElem?_cons_zero, List.getElem?_cons_succ, List.set_cons_zero, List.set_cons_succ, Bool.not_true, Bool.not_false, decide_true, decide_false, if_true, if_false, x0, x1, x2, x3, lc, q_lstof, q_lstof_t, sz5]
        rfl⟩)
      have lc3 : mLC [8] (mItems (mBin dIx (mVar 0) (mC (.int 1)))) (bName 8) mYes e_law_parts_5 [some (.val (wD S (F.map fuD))), some (.val (.int m)), some (.val (.lst (S.map shL))), none, none, some (.val (.lst (F.map fuL))), none, none, none] = .ok (.l [pairL ("s", "num")]) := lc_same (g := pairD) (h := pairL) (as := [("s", "num")]) rfl (by simp) (by simp only [q_df, q_st, q_sq, q_at_nx, q_at_rt, q_at_bk, q_at_ct, q_at_ex, q_mi, q_sel_t, q_sel_f, q_out_rt, q_out_nx, q_out_ex, q_rb_ok, q_rb_bad, q_rb_exc, q_tf_ok, q_v0, q_vs, q_w0, q_w0o, q_ws, q_tbq, q_asb, q_nt, q_rsel_t, q_rsel_f, q_ta, q_to, q_va, q_vo, q_vn, q_sett, q_seto, q_bin, q_c, q_callb, q_cons, q_nil, q_tup, q_lst, q_celle, q_ret, q_nx, q_thl, q_thd, q_isi, q_neg, q_neg_i, q_callk, q_drop, q_retn, q_brk, q_cnt, q_ife, q_add_i, q_sub_i, q_lt_i, q_le_i, q_gt_i, q_ge_i, q_eq_i, q_ne_i, List.map_cons, List.map_nil, List.length_cons, List.length_nil, List.replicate, List.append_nil, List.nil_append, List.cons_append, Nat.reduceAdd, Nat.reduceSub, List.getElem?_cons_zero, List.getElem?_cons_succ, List.set_cons_zero, List.set_cons_succ, Bool.not_true, Bool.not_false, decide_true, decide_false, if_true, if_false, q_it, w1, q_items_l]) (fun p hp => ⟨_, rfl, rfl⟩)
      unfold m_law_parts
      refine def_of ?_
      rw [show mStart 9 [wD S (F.map fuD), D.int m] = [some (.val (wD S (F.map fuD))), some (.val (.int m)), none, none, none, none, none, none, none] from rfl]
      rw [seq_nx (r' := [some (.val (wD S (F.map fuD))), some (.val (.int m)), none, none, none, none, none, none, none]) (by simp only [q_df, q_st, q_sq, q_at_nx, q_at_rt, q_at_bk, q_at_ct, q_at_ex, q_mi, q_sel_t, q_sel_f, q_out_rt, q_out_nx, q_out_ex, q_rb_ok, q_rb_bad, q_rb_exc, q_tf_ok, q_v0, q_vs, q_w0, q_w0o, q_ws, q_tbq, q_asb, q_nt, q_rsel_t, q_rsel_f, q_ta, q_to, q_va, q_vo, q_vn, q_sett, q_seto, q_bin, q_c, q_callb, q_cons, q_nil, q_tup, q_lst, q_celle, q_ret, q_nx, q_thl, q_thd, q_isi, q_neg, q_neg_i, q_callk, q_drop, q_retn, q_brk, q_cnt, q_ife, q_add_i, q_sub_i, q_lt_i, q_le_i, q_gt_i, q_ge_i, q_eq_i, q_ne_i, List.map_cons, List.map_nil, List.length_cons, List.length_nil, List.replicate, List.append_nil, List.nil_append, List.cons_append, Nat.reduceAdd, Nat.reduceSub, List.getElem?_cons_zero, List.getElem?_cons_succ, List.set_cons_zero, List.set_cons_succ, Bool.not_true, Bool.not_false, decide_true, decide_false, if_true, if_false, decide_eq_false hm])]
      rw [seq_nx (r' := [some (.val (wD S (F.map fuD))), some (.val (.int m)), some (.own (.l (S.map shL))), none, none, none, none, none, none]) (by rw [q_seto, lc1]; rfl)]
      rw [seq_nx (r' := [some (.val (wD S (F.map fuD))), some (.val (.int m)), some (.own (.l (S.map shL))), none, none, some (.own (.l (F.map fuL))), none, none, none]) (by rw [q_seto, lc2]; rfl)]
      rw [q_frz]
      simp only [q_ocs, q_oc0, q_flopt, List.set_cons_succ, List.set_cons_zero, q_thl]
      rw [q_frz]
      simp only [q_ocs, q_oc0, q_flopt, List.set_cons_succ, List.set_cons_zero, q_thl]
      simp only [q_df, q_st, q_sq, q_at_nx, q_at_rt, q_at_bk, q_at_ct, q_at_ex, q_mi, q_sel_t, q_sel_f, q_out_rt, q_out_nx, q_out_ex, q_rb_ok, q_rb_bad, q_rb_exc, q_tf_ok, q_v0, q_vs, q_w0, q_w0o, q_ws, q_tbq, q_asb, q_nt, q_rsel_t, q_rsel_f, q_ta, q_to, q_va, q_vo, q_vn, q_sett, q_seto, q_bin, q_c, q_callb, q_cons, q_nil, q_tup, q_lst, q_celle, q_ret, q_nx, q_thl, q_thd, q_isi, q_neg, q_neg_i, q_callk, q_drop, q_retn, q_brk, q_cnt, q_ife, q_add_i, q_sub_i, q_lt_i, q_le_i, q_gt_i, q_ge_i, q_eq_i, q_ne_i, List.map_cons, List.map_nil, List.length_cons, List.length_nil, List.replicate, List.append_nil, List.nil_append, List.cons_append, Nat.reduceAdd, Nat.reduceSub, List.getElem?_cons_zero, List.getElem?_cons_succ, List.set_cons_zero, List.set_cons_succ, Bool.not_true, Bool.not_false, decide_true, decide_false, if_true, if_false, lc3, sz3]
    · simp only [nrm, nrmL, pairD, pairL, List.map_cons, List.map_nil]
/-! ### equal data -/
theorem clean_map {α : Type} {b : Bool} {g : α → D} : ∀ {as : List α}, (∀ a ∈ as, clean b (g a) = true) → cleanL b (as.map g) = true
  | [], _ => rfl
  | a :: as, h => by
    rw [List.map_cons]
    simp only [cleanL, h a List.mem_cons_self, clean_map fun x hx => h x (List.mem_cons_of_mem _ hx), Bool.and_self]
theorem dep_map {α : Type} {n : Nat} {g : α → D} : ∀ {as : List α}, (∀ a ∈ as, depD (g a) ≤ n) → depL (as.map g) ≤ n
  | [], _ => Nat.zero_le _
  | a :: as, h => by
    rw [List.map_cons]
    simp only [depL]
    exact Nat.max_le.mpr ⟨h a List.mem_cons_self, dep_map fun x hx => h x (List.mem_cons_of_mem _ hx)⟩
theorem cl_pair {p : Str × Str} (h1 : PyData.strOk p.1 = true) (h2 : PyData.strOk p.2 = true) : clean false (pairD p) = true := by simp only [pairD, clean, cleanL, h1, h2, Bool.and_self]
theorem dp_pair (p : Str × Str) : depD (pairD p) ≤ 1 := by simp [pairD, depD, depL]
theorem cl_sh {s : Sh} (h : PyData.strOk s.name = true ∧ PyData.strOk s.form = true ∧ ∀ p ∈ s.fields, PyData.strOk p.1 = true ∧ PyData.strOk p.2 = true) : clean false (shD s) = true := by
  simp only [shD, clean, cleanL, h.1, h.2.1, clean_map fun p hp => cl_pair (h.2.2 p hp).1 (h.2.2 p hp).2, Bool.and_self]
theorem dp_sh (s : Sh) : depD (shD s) ≤ 3 := by
  have := dep_map (n := 1) (g := pairD) (as := s.fields) fun p _ => dp_pair p
  simp only [shD, depD, depL]
  omega
theorem cl_ops {ds : List D} (h : ∀ o ∈ ds, (∃ i : Int, o = .int i) ∨ ∃ z : Str, o = .str z ∧ PyData.strOk z = true) : cleanL false ds = true ∧ depL ds = 0 := by
  induction ds with
  | nil => exact ⟨rfl, rfl⟩
  | cons d ds ih =>
    obtain ⟨i1, i2⟩ := ih fun o ho => h o (List.mem_cons_of_mem _ ho)
    rcases h d List.mem_cons_self with ⟨i, rfl⟩ | ⟨z, rfl, hz⟩
    · exact ⟨by simp only [cleanL, clean, i1, Bool.not_false, Bool.and_self], by simp only [depL, depD, i2, Nat.max_self]⟩
    · exact ⟨by simp only [cleanL, clean, i1, hz, Bool.and_self], by simp only [depL, depD, i2, Nat.max_self]⟩
theorem cl_deed {p : Str × List D} (h : DTxt p) : clean false (deedD p) = true ∧ depD (deedD p) ≤ 1 := by
  obtain ⟨i1, i2⟩ := cl_ops h.2
  exact ⟨by simp only [deedD, clean, cleanL, h.1, i1, Bool.and_self], by simp only [deedD, depD, depL, i2]; omega⟩
theorem cl_fu {f : Fu} (hn : PyData.strOk f.name = true) (hp : ∀ s ∈ f.params, PyData.strOk s = true) (hr : ∀ s, f.result = some s → PyData.strOk s = true) (h : ∀ p ∈ f.body, DTxt p) : clean false (fuD f) = true ∧ depD (fuD f) ≤ 4 := by
  have c1 := clean_map (b := false) (g := deedD) (as := f.body) fun p hp => (cl_deed (h p hp)).1
  have c2 := dep_map (n := 1) (g := deedD) (as := f.body) fun p hp => (cl_deed (h p hp)).2
  have c3 := clean_strs (b := false) hp
  have c4 : depL (f.params.map D.str) = 0 := dep_strs
  have c5 : clean false (resD f.result) = true ∧ depD (resD f.result) = 0 := by
    cases er : f.result with
    | none => exact ⟨rfl, rfl⟩
    | some s => exact ⟨by simp only [resD, clean, hr s er], rfl⟩
  exact ⟨by simp only [fuD, clean, cleanL, hn, c1, c3, c5.1, Bool.not_false, Bool.and_self], by simp only [fuD, depD, depL, c4, c5.2]; omega⟩
theorem e_unch {S : List Sh} {F : List Fu} (hS : ∀ s ∈ S, PyData.strOk s.name = true ∧ PyData.strOk s.form = true ∧ ∀ p ∈ s.fields, PyData.strOk p.1 = true ∧ PyData.strOk p.2 = true) (hF : ∀ f ∈ F, clean false (fuD f) = true ∧ depD (fuD f) ≤ 4) :
    m_law_unchanged [.tup [.tup (S.map shD), .tup ([(("s" : Str), ("num" : Str))].map pairD), .tup (F.map fuD)], wD S (F.map fuD)] = .ok (.bl true) := by
  have w0 : dIx (wD S (F.map fuD)) (.int 0) = .ok (.lst (S.map shD)) := rfl
  have w1 : dIx (wD S (F.map fuD)) (.int 1) = .ok (.lst [pairD ("s", "num")]) := rfl
  have w2 : dIx (wD S (F.map fuD)) (.int 2) = .ok (.lst (F.map fuD)) := rfl
  have e : dEq (.tup [.tup (S.map shD), .tup [pairD ("s", "num")], .tup (F.map fuD)]) (.tup [.tup (S.map shD), .tup [pairD ("s", "num")], .tup (F.map fuD)]) = .ok (.bl true) := by
    have c1 := clean_map (b := false) (g := shD) (as := S) fun s hs => cl_sh (hS s hs)
    have c2 := clean_map (b := false) (g := fuD) (as := F) fun f hf => (hF f hf).1
    have c3 : clean false (pairD ("s", "num")) = true := cl_pair (by decide +kernel) (by decide +kernel)
    have d1 := dep_map (n := 3) (g := shD) (as := S) fun s _ => dp_sh s
    have d2 := dep_map (n := 4) (g := fuD) (as := F) fun f hf => (hF f hf).2
    have d3 := dp_pair ("s", "num")
    exact eq_t (b := false) (by simp only [clean, cleanL, c1, c2, c3, Bool.and_self]) (by simp only [depD, depL]; omega)
  simp only [m_law_unchanged, q_df, q_st, q_sq, q_at_nx, q_at_rt, q_at_bk, q_at_ct, q_at_ex, q_mi, q_sel_t, q_sel_f, q_out_rt, q_out_nx, q_out_ex, q_rb_ok, q_rb_bad, q_rb_exc, q_tf_ok, q_v0, q_vs, q_w0, q_w0o, q_ws, q_tbq, q_asb, q_nt, q_rsel_t, q_rsel_f, q_ta, q_to, q_va, q_vo, q_vn, q_sett, q_seto, q_bin, q_c, q_callb, q_cons, q_nil, q_tup, q_lst, q_celle, q_ret, q_nx, q_thl, q_thd, q_isi, q_neg, q_neg_i, q_callk, q_drop, q_retn, q_brk, q_cnt, q_ife, q_add_i, q_sub_i, q_lt_i, q_le_i, q_gt_i, q_ge_i, q_eq_i, q_ne_i, List.map_cons, List.map_nil, List.length_cons, List.length_nil, List.replicate, List.append_nil, List.nil_append, List.cons_append, Nat.reduceAdd, Nat.reduceSub, List.getElem?_cons_zero, List.getElem?_cons_succ, List.set_cons_zero, List.set_cons_succ, Bool.not_true, Bool.not_false, decide_true, decide_false, if_true, if_false, w0, w1, w2, q_tupof_l, sz3, e]
/-! ### the law -/
theorem fld_funs {S : List Sh} {T : List (Str × Str)} {F : List Fu} {me : ME} {r : Sc} (h : me r = .ok (insPr S T F)) : mFld ["Program"] "functions" me r = .ok (.tup (F.map insFu)) := by
  unfold mFld
  rw [h]
  rfl
theorem isi_b (b : Bool) : dIsi "bool" (.bl b) = .ok (.bl true) := id rfl
theorem e_b5 {S : List Sh} {F : List Fu} {x0 x1 x4 x5 x6 x8 x11 x14 x15 x16 : Option EV} {szs : List Int} {WS PS : List D} {t : Int} {j k w : Nat} {f : Fu} {p : Str × List D}
    (hW : WS[w]? = some (wD S (F.map fuD))) (hP : PS[w]? = some (insPr S [("s", "num")] F)) (hf : F[j]? = some f) (hs : szs[j]? = some (f.body.length : Int)) (hp : f.body[k]? = some p) (hj : JOk p) :
    ∃ y14 y15 y16 : Option EV, b_law_5 [x0, x1, some (.val (.lst (szs.map D.int))), some (.val (.lst WS)), x4, x5, x6, some (.own (.l PS)), x8, some (.val (.int t)), some (.val (.int (j : Int))), x11, some (.val (.int (k : Int))), some (.val (.int (w : Int))), x14, x15, x16, none]
      = .nx [x0, x1, some (.val (.lst (szs.map D.int))), some (.val (.lst WS)), x4, x5, x6, some (.own (.l PS)), x8, some (.val (.int t)), some (.val (.int (j : Int))), x11, some (.val (.int (k : Int))), some (.val (.int (w : Int))), y14, y15, y16, none] := by
  have i1 : dIx (.lst WS) (.int (w : Int)) = .ok (wD S (F.map fuD)) := q_ix rfl (by omega) (by rw [Int.toNat_natCast]; exact hW)
  have i2 : dIx (wD S (F.map fuD)) (.int 2) = .ok (.lst (F.map fuD)) := rfl
  have i3 : dIx (.lst (F.map fuD)) (.int (j : Int)) = .ok (fuD f) := q_ix rfl (by omega) (by rw [Int.toNat_natCast, List.getElem?_map, hf]; rfl)
  have i4 : dIx (fuD f) (.int 4) = .ok (.tup (f.body.map deedD)) := rfl
  have i5 : dIxL PS (.int (w : Int)) = .ok (insPr S [("s", "num")] F) := t_ixo (by omega) (by rw [Int.toNat_natCast]; exact hP)
  have i6 : dIx (.tup (F.map insFu)) (.int (j : Int)) = .ok (insFu f) := q_ix rfl (by omega) (by rw [Int.toNat_natCast, List.getElem?_map, hf]; rfl)
  have i7 : dIx (.lst (szs.map D.int)) (.int (j : Int)) = .ok (.int (f.body.length : Int)) := q_ix rfl (by omega) (by rw [Int.toNat_natCast, List.getElem?_map, hs]; rfl)
  have wa := e_ahead hp hj
  have wr := e_runs hp hj
  have wsu := e_succ hp hj
  have tl := tgt_len p k
  let told : D := .lst [.bl (decide ((f.body.length : Int) ∈ tgt p k)), .tup (((tgt p k).filter fun z => decide (z < (f.body.length : Int))).map D.int)]
  have s2 := sz2
  refine ⟨some (.val (.lst ((tgt p k).map D.int))), some (.val (insFu f)), some (.val told), ?_⟩
  unfold b_law_5
  rw [seq_nx (r' := [x0, x1, some (.val (.lst (szs.map D.int))), some (.val (.lst WS)), x4, x5, x6, some (.own (.l PS)), x8, some (.val (.int t)), some (.val (.int (j : Int))), x11, some (.val (.int (k : Int))), some (.val (.int (w : Int))), some (.val (.lst ((tgt p k).map D.int))), x15, x16, none]) (by simp only [q_df, q_st, q_sq, q_at_nx, q_at_rt, q_at_bk, q_at_ct, q_at_ex, q_mi, q_sel_t, q_sel_f, q_out_rt, q_out_nx, q_out_ex, q_rb_ok, q_rb_bad, q_rb_exc, q_tf_ok, q_v0, q_vs, q_w0, q_w0o, q_ws, q_tbq, q_asb, q_nt, q_rsel_t, q_rsel_f, q_ta, q_to, q_va, q_vo, q_vn, q_sett, q_seto, q_bin, q_c, q_callb, q_cons, q_nil, q_tup, q_lst, q_celle, q_ret, q_nx, q_thl, q_thd, q_isi, q_neg, q_neg_i, q_callk, q_drop, q_retn, q_brk, q_cnt, q_ife, q_add_i, q_sub_i, q_lt_i, q_le_i, q_gt_i, q_ge_i, q_eq_i, q_ne_i, List.map_cons, List.map_nil, List.length_cons, List.length_nil, List.replicate, List.append_nil, List.nil_append, List.cons_append, Nat.reduceAdd, Nat.reduceSub, List.getElem?_cons_zero, List.getElem?_cons_succ, List.set_cons_zero, List.set_cons_succ, Bool.not_true, Bool.not_false, decide_true, decide_false, if_true, if_false, i1, i2, i3, i4, wa])]
  have ff := fld_funs (S := S) (T := [("s", "num")]) (F := F) (me := mIxO 7 (mVar 13)) (r := [x0, x1, some (.val (.lst (szs.map D.int))), some (.val (.lst WS)), x4, x5, x6, some (.own (.l PS)), x8, some (.val (.int t)), some (.val (.int (j : Int))), x11, some (.val (.int (k : Int))), some (.val (.int (w : Int))), some (.val (.lst ((tgt p k).map D.int))), x15, x16, none]) (by simp only [q_df, q_st, q_sq, q_at_nx, q_at_rt, q_at_bk, q_at_ct, q_at_ex, q_mi, q_sel_t, q_sel_f, q_out_rt, q_out_nx, q_out_ex, q_rb_ok, q_rb_bad, q_rb_exc, q_tf_ok, q_v0, q_vs, q_w0, q_w0o, q_ws, q_tbq, q_asb, q_nt, q_rsel_t, q_rsel_f, q_ta, q_to, q_va, q_vo, q_vn, q_sett, q_seto, q_bin, q_c, q_callb, q_cons, q_nil, q_tup, q_lst, q_celle, q_ret, q_nx, q_thl, q_thd, q_isi, q_neg, q_neg_i, q_callk, q_drop, q_retn, q_brk, q_cnt, q_ife, q_add_i, q_sub_i, q_lt_i, q_le_i, q_gt_i, q_ge_i, q_eq_i, q_ne_i, List.map_cons, List.map_nil, List.length_cons, List.length_nil, List.replicate, List.append_nil, List.nil_append, List.cons_append, Nat.reduceAdd, Nat.reduceSub, List.getElem?_cons_zero, List.getElem?_cons_succ, List.set_cons_zero, List.set_cons_succ, Bool.not_true, Bool.not_false, decide_true, decide_false, if_true, if_false, q_ixo, q_oas, q_oa0, q_opt, i5])
  rw [seq_nx (r' := [x0, x1, some (.val (.lst (szs.map D.int))), some (.val (.lst WS)), x4, x5, x6, some (.own (.l PS)), x8, some (.val (.int t)), some (.val (.int (j : Int))), x11, some (.val (.int (k : Int))), some (.val (.int (w : Int))), some (.val (.lst ((tgt p k).map D.int))), some (.val (insFu f)), x16, none]) (by
    rw [q_sett, q_bin, ff]
    simp only [q_df, q_st, q_sq, q_at_nx, q_at_rt, q_at_bk, q_at_ct, q_at_ex, q_mi, q_sel_t, q_sel_f, q_out_rt, q_out_nx, q_out_ex, q_rb_ok, q_rb_bad, q_rb_exc, q_tf_ok, q_v0, q_vs, q_w0, q_w0o, q_ws, q_tbq, q_asb, q_nt, q_rsel_t, q_rsel_f, q_ta, q_to, q_va, q_vo, q_vn, q_sett, q_seto, q_bin, q_c, q_callb, q_cons, q_nil, q_tup, q_lst, q_celle, q_ret, q_nx, q_thl, q_thd, q_isi, q_neg, q_neg_i, q_callk, q_drop, q_retn, q_brk, q_cnt, q_ife, q_add_i, q_sub_i, q_lt_i, q_le_i, q_gt_i, q_ge_i, q_eq_i, q_ne_i, List.map_cons, List.map_nil, List.length_cons, List.length_nil, List.replicate, List.append_nil, List.nil_append, List.cons_append, Nat.reduceAdd, Nat.reduceSub, List.getElem?_cons_zero, List.getElem?_cons_succ, List.set_cons_zero, List.set_cons_succ, Bool.not_true, Bool.not_false, decide_true, decide_false, if_true, if_false, i6])]
  rw [seq_nx (r' := [x0, x1, some (.val (.lst (szs.map D.int))), some (.val (.lst WS)), x4, x5, x6, some (.own (.l PS)), x8, some (.val (.int t)), some (.val (.int (j : Int))), x11, some (.val (.int (k : Int))), some (.val (.int (w : Int))), some (.val (.lst ((tgt p k).map D.int))), some (.val (insFu f)), some (.val told), none]) (by simp only [q_df, q_st, q_sq, q_at_nx, q_at_rt, q_at_bk, q_at_ct, q_at_ex, q_mi, q_sel_t, q_sel_f, q_out_rt, q_out_nx, q_out_ex, q_rb_ok, q_rb_bad, q_rb_exc, q_tf_ok, q_v0, q_vs, q_w0, q_w0o, q_ws, q_tbq, q_asb, q_nt, q_rsel_t, q_rsel_f, q_ta, q_to, q_va, q_vo, q_vn, q_sett, q_seto, q_bin, q_c, q_callb, q_cons, q_nil, q_tup, q_lst, q_celle, q_ret, q_nx, q_thl, q_thd, q_isi, q_neg, q_neg_i, q_callk, q_drop, q_retn, q_brk, q_cnt, q_ife, q_add_i, q_sub_i, q_lt_i, q_le_i, q_gt_i, q_ge_i, q_eq_i, q_ne_i, List.map_cons, List.map_nil, List.length_cons, List.length_nil, List.replicate, List.append_nil, List.nil_append, List.cons_append, Nat.reduceAdd, Nat.reduceSub, List.getElem?_cons_zero, List.getElem?_cons_succ, List.set_cons_zero, List.set_cons_succ, Bool.not_true, Bool.not_false, decide_true, decide_false, if_true, if_false, wr, wsu, s2, told])]
  rw [seq_nx (r' := [x0, x1, some (.val (.lst (szs.map D.int))), some (.val (.lst WS)), x4, x5, x6, some (.own (.l PS)), x8, some (.val (.int t)), some (.val (.int (j : Int))), x11, some (.val (.int (k : Int))), some (.val (.int (w : Int))), some (.val (.lst ((tgt p k).map D.int))), some (.val (insFu f)), some (.val told), none]) (by
    by_cases ht : t = 1
    · simp only [q_df, q_st, q_sq, q_at_nx, q_at_rt, q_at_bk, q_at_ct, q_at_ex, q_mi, q_sel_t, q_sel_f, q_out_rt, q_out_nx, q_out_ex, q_rb_ok, q_rb_bad, q_rb_exc, q_tf_ok, q_v0, q_vs, q_w0, q_w0o, q_ws, q_tbq, q_asb, q_nt, q_rsel_t, q_rsel_f, q_ta, q_to, q_va, q_vo, q_vn, q_sett, q_seto, q_bin, q_c, q_callb, q_cons, q_nil, q_tup, q_lst, q_celle, q_ret, q_nx, q_thl, q_thd, q_isi, q_neg, q_neg_i, q_callk, q_drop, q_retn, q_brk, q_cnt, q_ife, q_add_i, q_sub_i, q_lt_i, q_le_i, q_gt_i, q_ge_i, q_eq_i, q_ne_i, List.map_cons, List.map_nil, List.length_cons, List.length_nil, List.replicate, List.append_nil, List.nil_append, List.cons_append, Nat.reduceAdd, Nat.reduceSub, List.getElem?_cons_zero, List.getElem?_cons_succ, List.set_cons_zero, List.set_cons_succ, Bool.not_true, Bool.not_false, decide_true, decide_false, if_true, if_false, decide_eq_true ht, permL, List.filterMap_cons, List.filterMap_nil, wr, wsu, s2, told]
    · simp only [q_df, q_st, q_sq, q_at_nx, q_at_rt, q_at_bk, q_at_ct, q_at_ex, q_mi, q_sel_t, q_sel_f, q_out_rt, q_out_nx, q_out_ex, q_rb_ok, q_rb_bad, q_rb_exc, q_tf_ok, q_v0, q_vs, q_w0, q_w0o, q_ws, q_tbq, q_asb, q_nt, q_rsel_t, q_rsel_f, q_ta, q_to, q_va, q_vo, q_vn, q_sett, q_seto, q_bin, q_c, q_callb, q_cons, q_nil, q_tup, q_lst, q_celle, q_ret, q_nx, q_thl, q_thd, q_isi, q_neg, q_neg_i, q_callk, q_drop, q_retn, q_brk, q_cnt, q_ife, q_add_i, q_sub_i, q_lt_i, q_le_i, q_gt_i, q_ge_i, q_eq_i, q_ne_i, List.map_cons, List.map_nil, List.length_cons, List.length_nil, List.replicate, List.append_nil, List.nil_append, List.cons_append, Nat.reduceAdd, Nat.reduceSub, List.getElem?_cons_zero, List.getElem?_cons_succ, List.set_cons_zero, List.set_cons_succ, Bool.not_true, Bool.not_false, decide_true, decide_false, if_true, if_false, decide_eq_false ht])]
  have t0 : dIx told (.int 0) = .ok (.bl (decide ((f.body.length : Int) ∈ tgt p k))) := rfl
  have t1 : dIx told (.int 1) = .ok (.tup (((tgt p k).filter fun z => decide (z < (f.body.length : Int))).map D.int)) := rfl
  generalize told = TD at *
  rw [seq_nx (r' := [x0, x1, some (.val (.lst (szs.map D.int))), some (.val (.lst WS)), x4, x5, x6, some (.own (.l PS)), x8, some (.val (.int t)), some (.val (.int (j : Int))), x11, some (.val (.int (k : Int))), some (.val (.int (w : Int))), some (.val (.lst ((tgt p k).map D.int))), some (.val (insFu f)), some (.val TD), none]) (by simp only [q_df, q_st, q_sq, q_at_nx, q_at_rt, q_at_bk, q_at_ct, q_at_ex, q_mi, q_sel_t, q_sel_f, q_out_rt, q_out_nx, q_out_ex, q_rb_ok, q_rb_bad, q_rb_exc, q_tf_ok, q_v0, q_vs, q_w0, q_w0o, q_ws, q_tbq, q_asb, q_nt, q_rsel_t, q_rsel_f, q_ta, q_to, q_va, q_vo, q_vn, q_sett, q_seto, q_bin, q_c, q_callb, q_cons, q_nil, q_tup, q_lst, q_celle, q_ret, q_nx, q_thl, q_thd, q_isi, q_neg, q_neg_i, q_callk, q_drop, q_retn, q_brk, q_cnt, q_ife, q_add_i, q_sub_i, q_lt_i, q_le_i, q_gt_i, q_ge_i, q_eq_i, q_ne_i, List.map_cons, List.map_nil, List.length_cons, List.length_nil, List.replicate, List.append_nil, List.nil_append, List.cons_append, Nat.reduceAdd, Nat.reduceSub, List.getElem?_cons_zero, List.getElem?_cons_succ, List.set_cons_zero, List.set_cons_succ, Bool.not_true, Bool.not_false, decide_true, decide_false, if_true, if_false, t0, isi_b, i7, (in_ints _).1, q_ne_b])]
  have lc : mLC [17] (mItems (mVar 14)) (bName 17) (mTB (mBin dLt (mVar 17) (mBin dIx (mVar 2) (mVar 10)))) e_law_4 [x0, x1, some (.val (.lst (szs.map D.int))), some (.val (.lst WS)), x4, x5, x6, some (.own (.l PS)), x8, some (.val (.int t)), some (.val (.int (j : Int))), x11, some (.val (.int (k : Int))), some (.val (.int (w : Int))), some (.val (.lst ((tgt p k).map D.int))), some (.val (insFu f)), some (.val TD), none] = .ok (.l (((tgt p k).filter fun z => decide (z < (f.body.length : Int))).map D.int)) := lc_filter _ rfl (by simp only [q_df, q_st, q_sq, q_at_nx, q_at_rt, q_at_bk, q_at_ct, q_at_ex, q_mi, q_sel_t, q_sel_f, q_out_rt, q_out_nx, q_out_ex, q_rb_ok, q_rb_bad, q_rb_exc, q_tf_ok, q_v0, q_vs, q_w0, q_w0o, q_ws, q_tbq, q_asb, q_nt, q_rsel_t, q_rsel_f, q_ta, q_to, q_va, q_vo, q_vn, q_sett, q_seto, q_bin, q_c, q_callb, q_cons, q_nil, q_tup, q_lst, q_celle, q_ret, q_nx, q_thl, q_thd, q_isi, q_neg, q_neg_i, q_callk, q_drop, q_retn, q_brk, q_cnt, q_ife, q_add_i, q_sub_i, q_lt_i, q_le_i, q_gt_i, q_ge_i, q_eq_i, q_ne_i, List.map_cons, List.map_nil, List.length_cons, List.length_nil, List.replicate, List.append_nil, List.nil_append, List.cons_append, Nat.reduceAdd, Nat.reduceSub, List.getElem?_cons_zero, List.getElem?_cons_succ, List.set_cons_zero, List.set_cons_succ, Bool.not_true, Bool.not_false, decide_true, decide_false, if_true, if_false, q_it, q_items_l]) (by omega) (fun z => ⟨_, rfl, by
    show mTB (mBin dLt (mVar 17) (mBin dIx (mVar 2) (mVar 10))) [x0, x1, some (.val (.lst (szs.map D.int))), some (.val (.lst WS)), x4, x5, x6, some (.own (.l PS)), x8, some (.val (.int t)), some (.val (.int (j : Int))), x11, some (.val (.int (k : Int))), some (.val (.int (w : Int))), some (.val (.lst ((tgt p k).map D.int))), some (.val (insFu f)), some (.val TD), some (.val (.int z))] = _
    simp only [q_df, q_st, q_sq, q_at_nx, q_at_rt, q_at_bk, q_at_ct, q_at_ex, q_mi, q_sel_t, q_sel_f, q_out_rt, q_out_nx, q_out_ex, q_rb_ok, q_rb_bad, q_rb_exc, q_tf_ok, q_v0, q_vs, q_w0, q_w0o, q_ws, q_tbq, q_asb, q_nt, q_rsel_t, q_rsel_f, q_ta, q_to, q_va, q_vo, q_vn, q_sett, q_seto, q_bin, q_c, q_callb, q_cons, q_nil, q_tup, q_lst, q_celle, q_ret, q_nx, q_thl, q_thd, q_isi, q_neg, q_neg_i, q_callk, q_drop, q_retn, q_brk, q_cnt, q_ife, q_add_i, q_sub_i, q_lt_i, q_le_i, q_gt_i, q_ge_i, q_eq_i, q_ne_i, List.map_cons, List.map_nil, List.length_cons, List.length_nil, List.replicate, List.append_nil, List.nil_append, List.cons_append, Nat.reduceAdd, Nat.reduceSub, List.getElem?_cons_zero, List.getElem?_cons_succ, List.set_cons_zero, List.set_cons_succ, Bool.not_true, Bool.not_false, decide_true, decide_false, if_true, if_false, i7], by
    show e_law_4 [x0, x1, some (.val (.lst (szs.map D.int))), some (.val (.lst WS)), x4, x5, x6, some (.own (.l PS)), x8, some (.val (.int t)), some (.val (.int (j : Int))), x11, some (.val (.int (k : Int))), some (.val (.int (w : Int))), some (.val (.lst ((tgt p k).map D.int))), some (.val (insFu f)), some (.val TD), some (.val (.int z))] = _
    simp only [e_law_4, q_df, q_st, q_sq, q_at_nx, q_at_rt, q_at_bk, q_at_ct, q_at_ex, q_mi, q_sel_t, q_sel_f, q_out_rt, q_out_nx, q_out_ex, q_rb_ok, q_rb_bad, q_rb_exc, q_tf_ok, q_v0, q_vs, q_w0, q_w0o, q_ws, q_tbq, q_asb, q_nt, q_rsel_t, q_rsel_f, q_ta, q_to, q_va, q_vo, q_vn, q_sett, q_seto, q_bin, q_c, q_callb, q_cons, q_nil, q_tup, q_lst, q_celle, q_ret, q_nx, q_thl, q_thd, q_isi, q_neg, q_neg_i, q_callk, q_drop, q_retn, q_brk, q_cnt, q_ife, q_add_i, q_sub_i, q_lt_i, q_le_i, q_gt_i, q_ge_i, q_eq_i, q_ne_i, List.map_cons, List.map_nil, List.length_cons, List.length_nil, List.replicate, List.append_nil, List.nil_append, List.cons_append, Nat.reduceAdd, Nat.reduceSub, List.getElem?_cons_zero, List.getElem?_cons_succ, List.set_cons_zero, List.set_cons_succ, Bool.not_true, Bool.not_false, decide_true, decide_false, if_true, if_false]⟩)
  have sm := e_same ((tgt p k).filter fun z => decide (z < (f.body.length : Int))) (by
    have := List.length_filter_le (fun z => decide (z < (f.body.length : Int))) (tgt p k)
    omega)
  simp only [q_df, q_st, q_sq, q_at_nx, q_at_rt, q_at_bk, q_at_ct, q_at_ex, q_mi, q_sel_t, q_sel_f, q_out_rt, q_out_nx, q_out_ex, q_rb_ok, q_rb_bad, q_rb_exc, q_tf_ok, q_v0, q_vs, q_w0, q_w0o, q_ws, q_tbq, q_asb, q_nt, q_rsel_t, q_rsel_f, q_ta, q_to, q_va, q_vo, q_vn, q_sett, q_seto, q_bin, q_c, q_callb, q_cons, q_nil, q_tup, q_lst, q_celle, q_ret, q_nx, q_thl, q_thd, q_isi, q_neg, q_neg_i, q_callk, q_drop, q_retn, q_brk, q_cnt, q_ife, q_add_i, q_sub_i, q_lt_i, q_le_i, q_gt_i, q_ge_i, q_eq_i, q_ne_i, List.map_cons, List.map_nil, List.length_cons, List.length_nil, List.replicate, List.append_nil, List.nil_append, List.cons_append, Nat.reduceAdd, Nat.reduceSub, List.getElem?_cons_zero, List.getElem?_cons_succ, List.set_cons_zero, List.set_cons_succ, Bool.not_true, Bool.not_false, decide_true, decide_false, if_true, if_false, t1, lc, sm]
/-- a world of the law's -/
structure WOk (szs : List Int) (S : List Sh) (F : List Fu) : Prop where
  len : F.length ≤ szs.length
  sz : ∀ (j : Nat) (f : Fu), F[j]? = some f → szs[j]? = some (f.body.length : Int) ∧ f.body.length ≤ 200 ∧ ∀ p ∈ f.body, JOk p
theorem e_b6 {S0 S1 : List Sh} {F0 F1 : List Fu} {x0 x1 x4 x5 x6 x8 : Option EV} {szs : List Int} {t : Int} (ht : t = 0 ∨ t = 1) (H0 : WOk szs S0 F0) (H1 : WOk szs S1 F1) {j k : Nat} {n : Nat} (h0 : j < F0.length) (h1 : j < F1.length) (hs : szs[j]? = some (n : Int)) (hk : k < n) (hn : n ≤ 200) (x12 x13 x14 x15 x16 : Option EV) :
    ∃ y12 y13 y14 y15 y16 : Option EV, b_law_6 [x0, x1, some (.val (.lst (szs.map D.int))), some (.val (.lst [wD S0 (F0.map fuD), wD S1 (F1.map fuD)])), x4, x5, x6, some (.own (.l [insPr S0 [("s", "num")] F0, insPr S1 [("s", "num")] F1])), x8, some (.val (.int t)), some (.val (.int (j : Int))), some (.val (.int (k : Int))), x12, x13, x14, x15, x16, none]
      = .nx [x0, x1, some (.val (.lst (szs.map D.int))), some (.val (.lst [wD S0 (F0.map fuD), wD S1 (F1.map fuD)])), x4, x5, x6, some (.own (.l [insPr S0 [("s", "num")] F0, insPr S1 [("s", "num")] F1])), x8, some (.val (.int t)), some (.val (.int (j : Int))), some (.val (.int (k : Int))), y12, y13, y14, y15, y16, none] := by
  obtain ⟨k', hk', ek⟩ : ∃ k' : Nat, k' < n ∧ dIx (.lst [.int (k : Int), .int ((n : Int) - 1 - (k : Int))]) (.int t) = .ok (.int (k' : Int)) := by
    rcases ht with rfl | rfl
    · exact ⟨k, hk, rfl⟩
    · refine ⟨n - 1 - k, by omega, ?_⟩
      have : dIx (.lst [.int (k : Int), .int ((n : Int) - 1 - (k : Int))]) (.int 1) = .ok (.int ((n : Int) - 1 - (k : Int))) := rfl
      rw [this]
      congr 2
      omega
  have i7 : dIx (.lst (szs.map D.int)) (.int (j : Int)) = .ok (.int (n : Int)) := q_ix rfl (by omega) (by rw [Int.toNat_natCast, List.getElem?_map, hs]; rfl)
  have one : ∀ (S : List Sh) (F : List Fu), WOk szs S F → j < F.length → ∃ f p, F[j]? = some f ∧ szs[j]? = some (f.body.length : Int) ∧ f.body[k']? = some p ∧ JOk p := fun S F H hj => by
    obtain ⟨g1, g2, g3⟩ := H.sz j F[j] (List.getElem?_eq_getElem hj)
    have hl : (F[j].body.length : Int) = (n : Int) := by
      rw [hs] at g1
      exact (Option.some.inj g1).symm
    have hk2 : k' < F[j].body.length := by omega
    exact ⟨F[j], F[j].body[k'], List.getElem?_eq_getElem hj, g1, List.getElem?_eq_getElem hk2, g3 _ (List.getElem_mem hk2)⟩
  obtain ⟨r2, e2, y13, y14, y15, y16, hr⟩ := for_inv (i := 13) (body := b_law_5) (fun w r => ∃ y13 y14 y15 y16 : Option EV, r = [x0, x1, some (.val (.lst (szs.map D.int))), some (.val (.lst [wD S0 (F0.map fuD), wD S1 (F1.map fuD)])), x4, x5, x6, some (.own (.l [insPr S0 [("s", "num")] F0, insPr S1 [("s", "num")] F1])), x8, some (.val (.int t)), some (.val (.int (j : Int))), some (.val (.int (k : Int))), some (.val (.int (k' : Int))), y13, y14, y15, y16, none]) (ds := rgD 0 2)
    (r := [x0, x1, some (.val (.lst (szs.map D.int))), some (.val (.lst [wD S0 (F0.map fuD), wD S1 (F1.map fuD)])), x4, x5, x6, some (.own (.l [insPr S0 [("s", "num")] F0, insPr S1 [("s", "num")] F1])), x8, some (.val (.int t)), some (.val (.int (j : Int))), some (.val (.int (k : Int))), some (.val (.int (k' : Int))), x13, x14, x15, x16, none]) ⟨_, _, _, _, rfl⟩ (fun w z r hz ⟨y13, y14, y15, y16, hr⟩ => by
    subst hr
    obtain ⟨hw, rfl⟩ := rgD_get hz
    rw [show (0 : Int) + (w : Int) = (w : Int) by omega]
    match w, hw with
    | 0, _ =>
      obtain ⟨f, p, f1, f2, f3, f4⟩ := one S0 F0 H0 h0
      obtain ⟨z14, z15, z16, e⟩ := e_b5 (S := S0) (F := F0) (x0 := x0) (x1 := x1) (x4 := x4) (x5 := x5) (x6 := x6) (x8 := x8) (x11 := some (.val (.int (k : Int)))) (x14 := y14) (x15 := y15) (x16 := y16) (szs := szs) (WS := [wD S0 (F0.map fuD), wD S1 (F1.map fuD)]) (PS := [insPr S0 [("s", "num")] F0, insPr S1 [("s", "num")] F1]) (t := t) (w := 0) rfl rfl f1 f2 f3 f4
      exact ⟨_, e, _, z14, z15, z16, rfl⟩
    | 1, _ =>
      obtain ⟨f, p, f1, f2, f3, f4⟩ := one S1 F1 H1 h1
      obtain ⟨z14, z15, z16, e⟩ := e_b5 (S := S1) (F := F1) (x0 := x0) (x1 := x1) (x4 := x4) (x5 := x5) (x6 := x6) (x8 := x8) (x11 := some (.val (.int (k : Int)))) (x14 := y14) (x15 := y15) (x16 := y16) (szs := szs) (WS := [wD S0 (F0.map fuD), wD S1 (F1.map fuD)]) (PS := [insPr S0 [("s", "num")] F0, insPr S1 [("s", "num")] F1]) (t := t) (w := 1) rfl rfl f1 f2 f3 f4
      exact ⟨_, e, _, z14, z15, z16, rfl⟩)
  subst hr
  refine ⟨some (.val (.int (k' : Int))), y13, y14, y15, y16, ?_⟩
  · unfold b_law_6
    rw [seq_nx (r' := [x0, x1, some (.val (.lst (szs.map D.int))), some (.val (.lst [wD S0 (F0.map fuD), wD S1 (F1.map fuD)])), x4, x5, x6, some (.own (.l [insPr S0 [("s", "num")] F0, insPr S1 [("s", "num")] F1])), x8, some (.val (.int t)), some (.val (.int (j : Int))), some (.val (.int (k : Int))), some (.val (.int (k' : Int))), x13, x14, x15, x16, none]) (by simp only [q_df, q_st, q_sq, q_at_nx, q_at_rt, q_at_bk, q_at_ct, q_at_ex, q_mi, q_sel_t, q_sel_f, q_out_rt, q_out_nx, q_out_ex, q_rb_ok, q_rb_bad, q_rb_exc, q_tf_ok, q_v0, q_vs, q_w0, q_w0o, q_ws, q_tbq, q_asb, q_nt, q_rsel_t, q_rsel_f, q_ta, q_to, q_va, q_vo, q_vn, q_sett, q_seto, q_bin, q_c, q_callb, q_cons, q_nil, q_tup, q_lst, q_celle, q_ret, q_nx, q_thl, q_thd, q_isi, q_neg, q_neg_i, q_callk, q_drop, q_retn, q_brk, q_cnt, q_ife, q_add_i, q_sub_i, q_lt_i, q_le_i, q_gt_i, q_ge_i, q_eq_i, q_ne_i, List.map_cons, List.map_nil, List.length_cons, List.length_nil, List.replicate, List.append_nil, List.nil_append, List.cons_append, Nat.reduceAdd, Nat.reduceSub, List.getElem?_cons_zero, List.getElem?_cons_succ, List.set_cons_zero, List.set_cons_succ, Bool.not_true, Bool.not_false, decide_true, decide_false, if_true, if_false, i7, ek, sz2])]
    exact for_nx (by simp only [q_df, q_st, q_sq, q_at_nx, q_at_rt, q_at_bk, q_at_ct, q_at_ex, q_mi, q_sel_t, q_sel_f, q_out_rt, q_out_nx, q_out_ex, q_rb_ok, q_rb_bad, q_rb_exc, q_tf_ok, q_v0, q_vs, q_w0, q_w0o, q_ws, q_tbq, q_asb, q_nt, q_rsel_t, q_rsel_f, q_ta, q_to, q_va, q_vo, q_vn, q_sett, q_seto, q_bin, q_c, q_callb, q_cons, q_nil, q_tup, q_lst, q_celle, q_ret, q_nx, q_thl, q_thd, q_isi, q_neg, q_neg_i, q_callk, q_drop, q_retn, q_brk, q_cnt, q_ife, q_add_i, q_sub_i, q_lt_i, q_le_i, q_gt_i, q_ge_i, q_eq_i, q_ne_i, List.map_cons, List.map_nil, List.length_cons, List.length_nil, List.replicate, List.append_nil, List.nil_append, List.cons_append, Nat.reduceAdd, Nat.reduceSub, List.getElem?_cons_zero, List.getElem?_cons_succ, List.set_cons_zero, List.set_cons_succ, Bool.not_true, Bool.not_false, decide_true, decide_false, if_true, if_false, q_rg]; exact q_rg1 (by omega) (by omega)) e2
theorem e_b7 {S0 S1 : List Sh} {F0 F1 : List Fu} {x0 x1 x4 x5 x6 x8 : Option EV} {szs : List Int} {t : Int} (ht : t = 0 ∨ t = 1) (H0 : WOk szs S0 F0) (H1 : WOk szs S1 F1) {j : Nat} {n : Nat} (h0 : j < F0.length) (h1 : j < F1.length) (hs : szs[j]? = some (n : Int)) (hn : n ≤ 200) (x11 x12 x13 x14 x15 x16 : Option EV) :
    ∃ y11 y12 y13 y14 y15 y16 : Option EV, b_law_7 [x0, x1, some (.val (.lst (szs.map D.int))), some (.val (.lst [wD S0 (F0.map fuD), wD S1 (F1.map fuD)])), x4, x5, x6, some (.own (.l [insPr S0 [("s", "num")] F0, insPr S1 [("s", "num")] F1])), x8, some (.val (.int t)), some (.val (.int (j : Int))), x11, x12, x13, x14, x15, x16, none]
      = .nx [x0, x1, some (.val (.lst (szs.map D.int))), some (.val (.lst [wD S0 (F0.map fuD), wD S1 (F1.map fuD)])), x4, x5, x6, some (.own (.l [insPr S0 [("s", "num")] F0, insPr S1 [("s", "num")] F1])), x8, some (.val (.int t)), some (.val (.int (j : Int))), y11, y12, y13, y14, y15, y16, none] := by
  have i7 : dIx (.lst (szs.map D.int)) (.int (j : Int)) = .ok (.int (n : Int)) := q_ix rfl (by omega) (by rw [Int.toNat_natCast, List.getElem?_map, hs]; rfl)
  obtain ⟨r2, e2, y11, y12, y13, y14, y15, y16, hr⟩ := for_inv (i := 11) (body := b_law_6) (fun k r => ∃ y11 y12 y13 y14 y15 y16 : Option EV, r = [x0, x1, some (.val (.lst (szs.map D.int))), some (.val (.lst [wD S0 (F0.map fuD), wD S1 (F1.map fuD)])), x4, x5, x6, some (.own (.l [insPr S0 [("s", "num")] F0, insPr S1 [("s", "num")] F1])), x8, some (.val (.int t)), some (.val (.int (j : Int))), y11, y12, y13, y14, y15, y16, none]) (ds := rgD 0 n)
    (r := [x0, x1, some (.val (.lst (szs.map D.int))), some (.val (.lst [wD S0 (F0.map fuD), wD S1 (F1.map fuD)])), x4, x5, x6, some (.own (.l [insPr S0 [("s", "num")] F0, insPr S1 [("s", "num")] F1])), x8, some (.val (.int t)), some (.val (.int (j : Int))), x11, x12, x13, x14, x15, x16, none]) ⟨_, _, _, _, _, _, rfl⟩ (fun k z r hz ⟨y11, y12, y13, y14, y15, y16, hr⟩ => by
    subst hr
    obtain ⟨hk, rfl⟩ := rgD_get hz
    rw [show (0 : Int) + (k : Int) = (k : Int) by omega]
    obtain ⟨z12, z13, z14, z15, z16, e⟩ := e_b6 (x0 := x0) (x1 := x1) (x4 := x4) (x5 := x5) (x6 := x6) (x8 := x8) ht H0 H1 h0 h1 hs hk hn y12 y13 y14 y15 y16
    exact ⟨_, e, _, z12, z13, z14, z15, z16, rfl⟩)
  subst hr
  refine ⟨y11, y12, y13, y14, y15, y16, ?_⟩
  exact for_nx (by simp only [q_df, q_st, q_sq, q_at_nx, q_at_rt, q_at_bk, q_at_ct, q_at_ex, q_mi, q_sel_t, q_sel_f, q_out_rt, q_out_nx, q_out_ex, q_rb_ok, q_rb_bad, q_rb_exc, q_tf_ok, q_v0, q_vs, q_w0, q_w0o, q_ws, q_tbq, q_asb, q_nt, q_rsel_t, q_rsel_f, q_ta, q_to, q_va, q_vo, q_vn, q_sett, q_seto, q_bin, q_c, q_callb, q_cons, q_nil, q_tup, q_lst, q_celle, q_ret, q_nx, q_thl, q_thd, q_isi, q_neg, q_neg_i, q_callk, q_drop, q_retn, q_brk, q_cnt, q_ife, q_add_i, q_sub_i, q_lt_i, q_le_i, q_gt_i, q_ge_i, q_eq_i, q_ne_i, List.map_cons, List.map_nil, List.length_cons, List.length_nil, List.replicate, List.append_nil, List.nil_append, List.cons_append, Nat.reduceAdd, Nat.reduceSub, List.getElem?_cons_zero, List.getElem?_cons_succ, List.set_cons_zero, List.set_cons_succ, Bool.not_true, Bool.not_false, decide_true, decide_false, if_true, if_false, q_rg, i7]; rw [q_rg1 (by omega) (by omega), Int.toNat_natCast]) e2
theorem e_b8 {S0 S1 : List Sh} {F0 F1 : List Fu} {x0 x4 x5 x6 x8 : Option EV} {r1 : D} {m : Int} (hr1 : dIx r1 (.int 1) = .ok (.int m)) (m0 : 0 ≤ m) (m1 : m < 3) {szs : List Int} {t : Int} (ht : t = 0 ∨ t = 1) (H0 : WOk szs S0 F0) (H1 : WOk szs S1 F1) (hf0 : (F0.length : Int) = 1 + m) (hf1 : (F1.length : Int) = 1 + m) (x10 x11 x12 x13 x14 x15 x16 : Option EV) :
    ∃ y10 y11 y12 y13 y14 y15 y16 : Option EV, b_law_8 [x0, some (.val r1), some (.val (.lst (szs.map D.int))), some (.val (.lst [wD S0 (F0.map fuD), wD S1 (F1.map fuD)])), x4, x5, x6, some (.own (.l [insPr S0 [("s", "num")] F0, insPr S1 [("s", "num")] F1])), x8, some (.val (.int t)), x10, x11, x12, x13, x14, x15, x16, none]
      = .nx [x0, some (.val r1), some (.val (.lst (szs.map D.int))), some (.val (.lst [wD S0 (F0.map fuD), wD S1 (F1.map fuD)])), x4, x5, x6, some (.own (.l [insPr S0 [("s", "num")] F0, insPr S1 [("s", "num")] F1])), x8, some (.val (.int t)), y10, y11, y12, y13, y14, y15, y16, none] := by
  obtain ⟨r2, e2, y10, y11, y12, y13, y14, y15, y16, hr⟩ := for_inv (i := 10) (body := b_law_7) (fun j r => ∃ y10 y11 y12 y13 y14 y15 y16 : Option EV, r = [x0, some (.val r1), some (.val (.lst (szs.map D.int))), some (.val (.lst [wD S0 (F0.map fuD), wD S1 (F1.map fuD)])), x4, x5, x6, some (.own (.l [insPr S0 [("s", "num")] F0, insPr S1 [("s", "num")] F1])), x8, some (.val (.int t)), y10, y11, y12, y13, y14, y15, y16, none]) (ds := rgD 0 (1 + m).toNat)
    (r := [x0, some (.val r1), some (.val (.lst (szs.map D.int))), some (.val (.lst [wD S0 (F0.map fuD), wD S1 (F1.map fuD)])), x4, x5, x6, some (.own (.l [insPr S0 [("s", "num")] F0, insPr S1 [("s", "num")] F1])), x8, some (.val (.int t)), x10, x11, x12, x13, x14, x15, x16, none]) ⟨_, _, _, _, _, _, _, rfl⟩ (fun j z r hz ⟨y10, y11, y12, y13, y14, y15, y16, hr⟩ => by
    subst hr
    obtain ⟨hj, rfl⟩ := rgD_get hz
    rw [show (0 : Int) + (j : Int) = (j : Int) by omega]
    have hj0 : j < F0.length := by omega
    obtain ⟨g1, g2, _⟩ := H0.sz j F0[j] (List.getElem?_eq_getElem hj0)
    obtain ⟨z11, z12, z13, z14, z15, z16, e⟩ := e_b7 (x0 := x0) (x1 := some (.val r1)) (x4 := x4) (x5 := x5) (x6 := x6) (x8 := x8) ht H0 H1 hj0 (by omega) g1 g2 y11 y12 y13 y14 y15 y16
    exact ⟨_, e, _, z11, z12, z13, z14, z15, z16, rfl⟩)
  subst hr
  refine ⟨y10, y11, y12, y13, y14, y15, y16, ?_⟩
  exact for_nx (by simp only [q_df, q_st, q_sq, q_at_nx, q_at_rt, q_at_bk, q_at_ct, q_at_ex, q_mi, q_sel_t, q_sel_f, q_out_rt, q_out_nx, q_out_ex, q_rb_ok, q_rb_bad, q_rb_exc, q_tf_ok, q_v0, q_vs, q_w0, q_w0o, q_ws, q_tbq, q_asb, q_nt, q_rsel_t, q_rsel_f, q_ta, q_to, q_va, q_vo, q_vn, q_sett, q_seto, q_bin, q_c, q_callb, q_cons, q_nil, q_tup, q_lst, q_celle, q_ret, q_nx, q_thl, q_thd, q_isi, q_neg, q_neg_i, q_callk, q_drop, q_retn, q_brk, q_cnt, q_ife, q_add_i, q_sub_i, q_lt_i, q_le_i, q_gt_i, q_ge_i, q_eq_i, q_ne_i, List.map_cons, List.map_nil, List.length_cons, List.length_nil, List.replicate, List.append_nil, List.nil_append, List.cons_append, Nat.reduceAdd, Nat.reduceSub, List.getElem?_cons_zero, List.getElem?_cons_succ, List.set_cons_zero, List.set_cons_succ, Bool.not_true, Bool.not_false, decide_true, decide_false, if_true, if_false, q_rg, hr1]; rw [q_rg1 (by omega) (by omega)]) e2
theorem meth_ok {cn mn : Str} {ns : List Str} {xs ds : List D} {mf : List D → QB.R D} {me : ME} {ms : MA} {r : Sc} {d : D} (hm : me r = .ok (.ins cn ns xs)) (hn : (ns.zip xs).lookup mn = none) (hs : ms r = .ok ds) (hd : mf (.ins cn ns xs :: ds) = .ok d) : mMeth cn mn mf me ms r = .ok d := by
  unfold mMeth
  rw [hm, q_rb_ok]
  show (if cn = cn ∧ (ns.zip xs).lookup mn = none then (ms r).bind (fun ds => mOk (mf (.ins cn ns xs :: ds))) else .bad) = _
  rw [if_pos ⟨rfl, hn⟩, hs, q_rb_ok, hd]
  rfl
theorem law_true (ns : List Int) (hl : ns.length ≤ 63) (hb : ∀ z ∈ ns, intBits z ≤ 1048576) : m_law [.slst (ns.map D.int)] = .ok (.bl true) := by
  obtain ⟨cl, ec, hcl⟩ := cell_ok ns hb 0 (by omega) (by omega)
  have ec' : m_law_cell [.slst (ns.map D.int), .int 0] = .ok (.int cl) := ec
  obtain ⟨row, ed, hd⟩ := digits_ok cl [12, 3, 8, 8, 2] (by decide) (by simp)
  have ed' : m_law_digits [.int cl, .lst [.int 12, .int 3, .int 8, .int 8, .int 2]] = .ok (.lst (row.map D.int)) := ed
  obtain ⟨r0, _, rfl, a0, b0, hd⟩ := hd.cons
  obtain ⟨r1, _, rfl, a1, b1, hd⟩ := hd.cons
  obtain ⟨r2, _, rfl, a2, b2, hd⟩ := hd.cons
  obtain ⟨r3, _, rfl, a3, b3, hd⟩ := hd.cons
  obtain ⟨r4, _, rfl, a4, b4, hd⟩ := hd.cons
  have := hd.nil
  subst this
  simp only [List.map_cons, List.map_nil] at ed'
  obtain ⟨z0, s0, p0⟩ := pick_ok (L := [5, 1, 12, 2, 30, 3, 60, 20, 200, 8, 100, 16]) (i := r0) (fun z => 1 ≤ z ∧ z ≤ 200) a0 b0 (by decide)
  obtain ⟨z1, s1, p1⟩ := pick_ok (L := [4, 1, 7, 2, 60, 12, 3, 20]) (i := r2) (fun z => 1 ≤ z ∧ z ≤ 200) a2 b2 (by decide)
  obtain ⟨z2, s2, p2⟩ := pick_ok (L := [3, 1, 5, 2, 12, 1, 4, 6]) (i := r3) (fun z => 1 ≤ z ∧ z ≤ 200) a3 b3 (by decide)
  simp only [List.map_cons, List.map_nil] at s0 s1 s2
  obtain ⟨szs, hszs⟩ : ∃ szs : List Int, szs = [z0, z1, z2].take (1 + r1).toNat := ⟨_, rfl⟩
  have szl : (szs.length : Int) = 1 + r1 := by rw [hszs, List.length_take]; simp; omega
  have szm : ∀ z ∈ szs, 1 ≤ z ∧ z ≤ 200 := fun z hz => by
    rw [hszs] at hz
    have := List.mem_of_mem_take hz
    simp only [List.mem_cons, List.not_mem_nil, or_false] at this
    rcases this with rfl | rfl | rfl
    · exact p0
    · exact p1
    · exact p2
  obtain ⟨S0, F0, eW0, sf0, fl0, fi0⟩ := e_world hb (at_ := 1) (by omega) (by omega) szm (by omega) (by omega)
  obtain ⟨S1, F1, eW1, sf1, fl1, fi1⟩ := e_world hb (at_ := 32) (by omega) (by omega) szm (by omega) (by omega)
  obtain ⟨ok0, dt0⟩ := world_ok sf0 (by omega) (by omega) szm fl0 fi0
  obtain ⟨ok1, dt1⟩ := world_ok sf1 (by omega) (by omega) szm fl1 fi1
  have body : ∀ {S : List Sh} {F : List Fu}, FIs S ((HL.take szs.length).map (·.name)) szs F → ∀ (j : Nat) (f : Fu), F[j]? = some f → szs[j]? = some (f.body.length : Int) ∧ f.body.length ≤ 200 := fun {S F} hI j f hf => by
    obtain ⟨h, z, h1, h2, h3, h4, h5, h6, h7, h8⟩ := hI j f hf
    have := szm z (List.mem_of_getElem? h2)
    exact ⟨by rw [h7]; exact h2, by omega⟩
  have bodyM : ∀ {S : List Sh} {F : List Fu}, FIs S ((HL.take szs.length).map (·.name)) szs F → ∀ f ∈ F, f.body.length ≤ 200 := fun {S F} hI f hf => by
    obtain ⟨j, hj⟩ := List.getElem?_of_mem hf
    exact (body hI j f hj).2
  have clF : ∀ {S : List Sh} {F : List Fu}, FIs S ((HL.take szs.length).map (·.name)) szs F → (∀ f ∈ F, ∀ p ∈ f.body, JOk p ∧ DTxt p) → ∀ f ∈ F, clean false (fuD f) = true ∧ depD (fuD f) ≤ 4 := fun {S F} hI hD f hf => by
    obtain ⟨j, hj⟩ := List.getElem?_of_mem hf
    obtain ⟨h, z, h1, h2, h3, h4, h5, h6, h7, h8⟩ := hI j f hj
    obtain ⟨k1, k2, k3, k4, k5, k6, k7, k8⟩ := HL_ok h (List.mem_of_getElem? h1)
    have num : PyData.strOk "num" = true := by decide +kernel
    exact cl_fu (by rw [h3]; exact k3) (fun s hs => by rw [h4] at hs; rw [k7 s hs]; exact num) (fun s hs => by rw [h5] at hs; rw [k8 s hs]; exact num) fun p hp => (hD f hf p hp).2
  have cutz : ∀ {xs : List Int}, xs = [z0, z1, z2] → dCut (.lst (xs.map D.int)) none (some (1 + r1)) = .ok (.lst (szs.map D.int)) := fun {xs} hx => by
    have h := cut_take (xs := xs.map D.int) (k := (1 + r1).toNat) (by rw [hx]; simp; omega)
    rw [show (((1 + r1).toNat : Nat) : Int) = 1 + r1 by omega] at h
    rw [q_cut_l, h, hszs, hx, List.map_take]
  have cut3 := cutz (xs := [z0, z1, z2]) rfl
  simp only [List.map_cons, List.map_nil] at cut3
  have w0 : WOk [z0, z1, z2] S0 F0 := ⟨by rw [fl0, hszs, List.length_take]; simp; omega, fun j f hf => by
    obtain ⟨g1, g2⟩ := body fi0 j f hf
    refine ⟨?_, g2, fun p hp => (dt0 f (List.mem_of_getElem? hf) p hp).1⟩
    rw [hszs] at g1
    have hj : j < (1 + r1).toNat := by
      have := (List.getElem?_eq_some_iff.mp g1).1
      rw [List.length_take] at this
      omega
    rwa [List.getElem?_take_of_lt hj] at g1⟩
  have w1 : WOk [z0, z1, z2] S1 F1 := ⟨by rw [fl1, hszs, List.length_take]; simp; omega, fun j f hf => by
    obtain ⟨g1, g2⟩ := body fi1 j f hf
    refine ⟨?_, g2, fun p hp => (dt1 f (List.mem_of_getElem? hf) p hp).1⟩
    rw [hszs] at g1
    have hj : j < (1 + r1).toNat := by
      have := (List.getElem?_eq_some_iff.mp g1).1
      rw [List.length_take] at this
      omega
    rwa [List.getElem?_take_of_lt hj] at g1⟩
  obtain ⟨pd0, d0, t0, e0, q0, q01, q02, q03, n01, n02, n03⟩ := e_parts (S := S0) (F := F0) (by rw [sf0.eight]; omega) (fun s hs => (sf0.ok.all s hs).many) (by omega) (fun f hf => by have := bodyM fi0 f hf; omega) (fun f hf p hp => (dt0 f hf p hp).2) a4 b4
  obtain ⟨pd1, d1, t1, e1, q1, q11, q12, q13, n11, n12, n13⟩ := e_parts (S := S1) (F := F1) (by rw [sf1.eight]; omega) (fun s hs => (sf1.ok.all s hs).many) (by omega) (fun f hf => by have := bodyM fi1 f hf; omega) (fun f hf p hp => (dt1 f hf p hp).2) a4 b4
  have mk0 := e_make ok0 n01 n02 n03
  have mk1 := e_make ok1 n11 n12 n13
  have da0 := e_data (S := S0) (T := [("s", "num")]) (F := F0) (by rw [sf0.eight]; omega) (by omega)
  have da1 := e_data (S := S1) (T := [("s", "num")]) (F := F1) (by rw [sf1.eight]; omega) (by omega)
  have un0 := e_unch sf0.txt (clF fi0 dt0)
  have un1 := e_unch sf1.txt (clF fi1 dt1)
  generalize hR : D.lst [.int r0, .int r1, .int r2, .int r3, .int r4] = R at ed'
  have i0 : dIx R (.int 0) = .ok (.int r0) := by rw [← hR]; rfl
  have i1 : dIx R (.int 1) = .ok (.int r1) := by rw [← hR]; rfl
  have i2 : dIx R (.int 2) = .ok (.int r2) := by rw [← hR]; rfl
  have i3 : dIx R (.int 3) = .ok (.int r3) := by rw [← hR]; rfl
  have i4 : dIx R (.int 4) = .ok (.int r4) := by rw [← hR]; rfl
  have sz12 : (12 : Nat) ≤ sizeLine := by decide
  have sz8 : (8 : Nat) ≤ sizeLine := by decide
  obtain ⟨rr, e2, y9, y10, y11, y12, y13, y14, y15, y16, hr⟩ := for_inv (i := 9) (body := b_law_8) (fun t r => ∃ y9 y10 y11 y12 y13 y14 y15 y16 : Option EV, r = [some (.val (.slst (ns.map D.int))), some (.val R), some (.val (.lst ([z0, z1, z2].map D.int))), some (.val (.lst [wD S0 (F0.map fuD), wD S1 (F1.map fuD)])), none, some (.val (.lst [pd0, pd1])), none, some (.own (.l [insPr S0 [("s", "num")] F0, insPr S1 [("s", "num")] F1])), none, y9, y10, y11, y12, y13, y14, y15, y16, none]) (ds := rgD 0 2)
    (r := [some (.val (.slst (ns.map D.int))), some (.val R), some (.val (.lst ([z0, z1, z2].map D.int))), some (.val (.lst [wD S0 (F0.map fuD), wD S1 (F1.map fuD)])), none, some (.val (.lst [pd0, pd1])), none, some (.own (.l [insPr S0 [("s", "num")] F0, insPr S1 [("s", "num")] F1])), none, none, none, none, none, none, none, none, none, none]) ⟨_, _, _, _, _, _, _, _, rfl⟩ (fun t z r hz ⟨y9, y10, y11, y12, y13, y14, y15, y16, hr⟩ => by
    subst hr
    obtain ⟨ht, rfl⟩ := rgD_get hz
    rw [show (0 : Int) + (t : Int) = (t : Int) by omega]
    obtain ⟨x10, x11, x12, x13, x14, x15, x16, e⟩ := e_b8 (x0 := some (.val (.slst (ns.map D.int)))) (x4 := none) (x5 := some (.val (.lst [pd0, pd1]))) (x6 := none) (x8 := none) i1 a1 b1 (t := (t : Int)) (by omega) w0 w1 (by omega) (by omega) y10 y11 y12 y13 y14 y15 y16
    exact ⟨_, e, _, x10, x11, x12, x13, x14, x15, x16, rfl⟩)
  subst hr
  refine def_of ?_
  rw [show mStart 18 [D.slst (ns.map D.int)] = [some (.val (.slst (ns.map D.int))), none, none, none, none, none, none, none, none, none, none, none, none, none, none, none, none, none] from rfl]
  rw [seq_nx (r' := [some (.val (.slst (ns.map D.int))), some (.val R), none, none, none, none, none, none, none, none, none, none, none, none, none, none, none, none]) (by simp only [q_df, q_st, q_sq, q_at_nx, q_at_rt, q_at_bk, q_at_ct, q_at_ex, q_mi, q_sel_t, q_sel_f, q_out_rt, q_out_nx, q_out_ex, q_rb_ok, q_rb_bad, q_rb_exc, q_tf_ok, q_v0, q_vs, q_w0, q_w0o, q_ws, q_tbq, q_asb, q_nt, q_rsel_t, q_rsel_f, q_ta, q_to, q_va, q_vo, q_vn, q_sett, q_seto, q_bin, q_c, q_callb, q_cons, q_nil, q_tup, q_lst, q_celle, q_ret, q_nx, q_thl, q_thd, q_isi, q_neg, q_neg_i, q_callk, q_drop, q_retn, q_brk, q_cnt, q_ife, q_add_i, q_sub_i, q_lt_i, q_le_i, q_gt_i, q_ge_i, q_eq_i, q_ne_i, List.map_cons, List.map_nil, List.length_cons, List.length_nil, List.replicate, List.append_nil, List.nil_append, List.cons_append, Nat.reduceAdd, Nat.reduceSub, List.getElem?_cons_zero, List.getElem?_cons_succ, List.set_cons_zero, List.set_cons_succ, Bool.not_true, Bool.not_false, decide_true, decide_false, if_true, if_false, ec', ed', sz5])]
  rw [seq_nx (r' := [some (.val (.slst (ns.map D.int))), some (.val R), some (.val (.lst ([z0, z1, z2].map D.int))), none, none, none, none, none, none, none, none, none, none, none, none, none, none, none]) (by simp only [q_df, q_st, q_sq, q_at_nx, q_at_rt, q_at_bk, q_at_ct, q_at_ex, q_mi, q_sel_t, q_sel_f, q_out_rt, q_out_nx, q_out_ex, q_rb_ok, q_rb_bad, q_rb_exc, q_tf_ok, q_v0, q_vs, q_w0, q_w0o, q_ws, q_tbq, q_asb, q_nt, q_rsel_t, q_rsel_f, q_ta, q_to, q_va, q_vo, q_vn, q_sett, q_seto, q_bin, q_c, q_callb, q_cons, q_nil, q_tup, q_lst, q_celle, q_ret, q_nx, q_thl, q_thd, q_isi, q_neg, q_neg_i, q_callk, q_drop, q_retn, q_brk, q_cnt, q_ife, q_add_i, q_sub_i, q_lt_i, q_le_i, q_gt_i, q_ge_i, q_eq_i, q_ne_i, List.map_cons, List.map_nil, List.length_cons, List.length_nil, List.replicate, List.append_nil, List.nil_append, List.cons_append, Nat.reduceAdd, Nat.reduceSub, List.getElem?_cons_zero, List.getElem?_cons_succ, List.set_cons_zero, List.set_cons_succ, Bool.not_true, Bool.not_false, decide_true, decide_false, if_true, if_false, i0, i2, i3, s0, s1, s2, sz3, sz8, sz12])]
  have lc1 : mLC [4] (mItems (mCellE (mLst (mCons (mC (.int 1)) (mCons (mC (.int 32)) mNil))))) (bName 4) mYes e_law_1 [some (.val (.slst (ns.map D.int))), some (.val R), some (.val (.lst ([z0, z1, z2].map D.int))), none, none, none, none, none, none, none, none, none, none, none, none, none, none, none] = .ok (.l [wD S0 (F0.map fuD), wD S1 (F1.map fuD)]) := lc_same (g := fun p : Int × D => D.int p.1) (h := fun p => p.2) (as := [(1, wD S0 (F0.map fuD)), (32, wD S1 (F1.map fuD))]) rfl (by simp) (by simp only [q_df, q_st, q_sq, q_at_nx, q_at_rt, q_at_bk, q_at_ct, q_at_ex, q_mi, q_sel_t, q_sel_f, q_out_rt, q_out_nx, q_out_ex, q_rb_ok, q_rb_bad, q_rb_exc, q_tf_ok, q_v0, q_vs, q_w0, q_w0o, q_ws, q_tbq, q_asb, q_nt, q_rsel_t, q_rsel_f, q_ta, q_to, q_va, q_vo, q_vn, q_sett, q_seto, q_bin, q_c, q_callb, q_cons, q_nil, q_tup, q_lst, q_celle, q_ret, q_nx, q_thl, q_thd, q_isi, q_neg, q_neg_i, q_callk, q_drop, q_retn, q_brk, q_cnt, q_ife, q_add_i, q_sub_i, q_lt_i, q_le_i, q_gt_i, q_ge_i, q_eq_i, q_ne_i, List.map_cons, List.map_nil, List.length_cons, List.length_nil, List.replicate, List.append_nil, List.nil_append, List.cons_append, Nat.reduceAdd, Nat.reduceSub, List.getElem?_cons_zero, List.getElem?_cons_succ, List.set_cons_zero, List.set_cons_succ, Bool.not_true, Bool.not_false, decide_true, decide_false, if_true, if_false, q_it, q_items_l, sz2]) (fun p hp => ⟨_, rfl, by
    show e_law_1 [some (.val (.slst (ns.map D.int))), some (.val R), some (.val (.lst ([z0, z1, z2].map D.int))), none, some (.val (.int p.1)), none, none, none, none, none, none, none, none, none, none, none, none, none] = _
    simp only [List.mem_cons, List.not_mem_nil, or_false] at hp
    rcases hp with rfl | rfl
    · simp only [e_law_1, q_df, q_st, q_sq, q_at_nx, q_at_rt, q_at_bk, q_at_ct, q_at_ex, q_mi, q_sel_t, q_sel_f, q_out_rt, q_out_nx, q_out_ex, q_rb_ok, q_rb_bad, q_rb_exc, q_tf_ok, q_v0, q_vs, q_w0, q_w0o, q_ws, q_tbq, q_asb, q_nt, q_rsel_t, q_rsel_f, q_ta, q_to, q_va, q_vo, q_vn, q_sett, q_seto, q_bin, q_c, q_callb, q_cons, q_nil, q_tup, q_lst, q_celle, q_ret, q_nx, q_thl, q_thd, q_isi, q_neg, q_neg_i, q_callk, q_drop, q_retn, q_brk, q_cnt, q_ife, q_add_i, q_sub_i, q_lt_i, q_le_i, q_gt_i, q_ge_i, q_eq_i, q_ne_i, List.map_cons, List.map_nil, List.length_cons, List.length_nil, List.replicate, List.append_nil, List.nil_append, List.cons_append, Nat.reduceAdd, Nat.reduceSub, List.getElem?_cons_zero, List.getElem?_cons_succ, List.set_cons_zero, List.set_cons_succ, Bool.not_true, Bool.not_false, decide_true, decide_false, if_true, if_false, i1, q_cut, q_part0, q_part1, q_asio, cut3, eW0]
    · simp only [e_law_1, q_df, q_st, q_sq, q_at_nx, q_at_rt, q_at_bk, q_at_ct, q_at_ex, q_mi, q_sel_t, q_sel_f, q_out_rt, q_out_nx, q_out_ex, q_rb_ok, q_rb_bad, q_rb_exc, q_tf_ok, q_v0, q_vs, q_w0, q_w0o, q_ws, q_tbq, q_asb, q_nt, q_rsel_t, q_rsel_f, q_ta, q_to, q_va, q_vo, q_vn, q_sett, q_seto, q_bin, q_c, q_callb, q_cons, q_nil, q_tup, q_lst, q_celle, q_ret, q_nx, q_thl, q_thd, q_isi, q_neg, q_neg_i, q_callk, q_drop, q_retn, q_brk, q_cnt, q_ife, q_add_i, q_sub_i, q_lt_i, q_le_i, q_gt_i, q_ge_i, q_eq_i, q_ne_i, List.map_cons, List.map_nil, List.length_cons, List.length_nil, List.replicate, List.append_nil, List.nil_append, List.cons_append, Nat.reduceAdd, Nat.reduceSub, List.getElem?_cons_zero, List.getElem?_cons_succ, List.set_cons_zero, List.set_cons_succ, Bool.not_true, Bool.not_false, decide_true, decide_false, if_true, if_false, i1, q_cut, q_part0, q_part1, q_asio, cut3, eW1]⟩)
  rw [seq_nx (r' := [some (.val (.slst (ns.map D.int))), some (.val R), some (.val (.lst ([z0, z1, z2].map D.int))), some (.own (.l [wD S0 (F0.map fuD), wD S1 (F1.map fuD)])), none, none, none, none, none, none, none, none, none, none, none, none, none, none]) (by rw [q_seto, lc1]; rfl)]
  have lc2 : mLC [6] (mItems (mVar 3)) (bName 6) mYes e_law_2 [some (.val (.slst (ns.map D.int))), some (.val R), some (.val (.lst ([z0, z1, z2].map D.int))), some (.val (.lst [wD S0 (F0.map fuD), wD S1 (F1.map fuD)])), none, none, none, none, none, none, none, none, none, none, none, none, none, none] = .ok (.l [pd0, pd1]) := lc_same (g := fun p : D × D => p.1) (h := fun p => p.2) (as := [(wD S0 (F0.map fuD), pd0), (wD S1 (F1.map fuD), pd1)]) rfl (by simp) (by simp only [q_df, q_st, q_sq, q_at_nx, q_at_rt, q_at_bk, q_at_ct, q_at_ex, q_mi, q_sel_t, q_sel_f, q_out_rt, q_out_nx, q_out_ex, q_rb_ok, q_rb_bad, q_rb_exc, q_tf_ok, q_v0, q_vs, q_w0, q_w0o, q_ws, q_tbq, q_asb, q_nt, q_rsel_t, q_rsel_f, q_ta, q_to, q_va, q_vo, q_vn, q_sett, q_seto, q_bin, q_c, q_callb, q_cons, q_nil, q_tup, q_lst, q_celle, q_ret, q_nx, q_thl, q_thd, q_isi, q_neg, q_neg_i, q_callk, q_drop, q_retn, q_brk, q_cnt, q_ife, q_add_i, q_sub_i, q_lt_i, q_le_i, q_gt_i, q_ge_i, q_eq_i, q_ne_i, List.map_cons, List.map_nil, List.length_cons, List.length_nil, List.replicate, List.append_nil, List.nil_append, List.cons_append, Nat.reduceAdd, Nat.reduceSub, List.getElem?_cons_zero, List.getElem?_cons_succ, List.set_cons_zero, List.set_cons_succ, Bool.not_true, Bool.not_false, decide_true, decide_false, if_true, if_false, q_it, q_items_l]) (fun p hp => ⟨_, rfl, by
    show e_law_2 [some (.val (.slst (ns.map D.int))), some (.val R), some (.val (.lst ([z0, z1, z2].map D.int))), some (.val (.lst [wD S0 (F0.map fuD), wD S1 (F1.map fuD)])), none, none, some (.val p.1), none, none, none, none, none, none, none, none, none, none, none] = _
    simp only [List.mem_cons, List.not_mem_nil, or_false] at hp
    rcases hp with rfl | rfl
    · simp only [e_law_2, q_df, q_st, q_sq, q_at_nx, q_at_rt, q_at_bk, q_at_ct, q_at_ex, q_mi, q_sel_t, q_sel_f, q_out_rt, q_out_nx, q_out_ex, q_rb_ok, q_rb_bad, q_rb_exc, q_tf_ok, q_v0, q_vs, q_w0, q_w0o, q_ws, q_tbq, q_asb, q_nt, q_rsel_t, q_rsel_f, q_ta, q_to, q_va, q_vo, q_vn, q_sett, q_seto, q_bin, q_c, q_callb, q_cons, q_nil, q_tup, q_lst, q_celle, q_ret, q_nx, q_thl, q_thd, q_isi, q_neg, q_neg_i, q_callk, q_drop, q_retn, q_brk, q_cnt, q_ife, q_add_i, q_sub_i, q_lt_i, q_le_i, q_gt_i, q_ge_i, q_eq_i, q_ne_i, List.map_cons, List.map_nil, List.length_cons, List.length_nil, List.replicate, List.append_nil, List.nil_append, List.cons_append, Nat.reduceAdd, Nat.reduceSub, List.getElem?_cons_zero, List.getElem?_cons_succ, List.set_cons_zero, List.set_cons_succ, Bool.not_true, Bool.not_false, decide_true, decide_false, if_true, if_false, i4, q0]
    · simp only [e_law_2, q_df, q_st, q_sq, q_at_nx, q_at_rt, q_at_bk, q_at_ct, q_at_ex, q_mi, q_sel_t, q_sel_f, q_out_rt, q_out_nx, q_out_ex, q_rb_ok, q_rb_bad, q_rb_exc, q_tf_ok, q_v0, q_vs, q_w0, q_w0o, q_ws, q_tbq, q_asb, q_nt, q_rsel_t, q_rsel_f, q_ta, q_to, q_va, q_vo, q_vn, q_sett, q_seto, q_bin, q_c, q_callb, q_cons, q_nil, q_tup, q_lst, q_celle, q_ret, q_nx, q_thl, q_thd, q_isi, q_neg, q_neg_i, q_callk, q_drop, q_retn, q_brk, q_cnt, q_ife, q_add_i, q_sub_i, q_lt_i, q_le_i, q_gt_i, q_ge_i, q_eq_i, q_ne_i, List.map_cons, List.map_nil, List.length_cons, List.length_nil, List.replicate, List.append_nil, List.nil_append, List.cons_append, Nat.reduceAdd, Nat.reduceSub, List.getElem?_cons_zero, List.getElem?_cons_succ, List.set_cons_zero, List.set_cons_succ, Bool.not_true, Bool.not_false, decide_true, decide_false, if_true, if_false, i4, q1]⟩)
  rw [seq_nx (r' := [some (.val (.slst (ns.map D.int))), some (.val R), some (.val (.lst ([z0, z1, z2].map D.int))), some (.val (.lst [wD S0 (F0.map fuD), wD S1 (F1.map fuD)])), none, some (.own (.l [pd0, pd1])), none, none, none, none, none, none, none, none, none, none, none, none]) (by
    refine frz_nx rfl ?_
    show mSetO 5 _ [some (.val (.slst (ns.map D.int))), some (.val R), some (.val (.lst ([z0, z1, z2].map D.int))), some (.val (.lst [wD S0 (F0.map fuD), wD S1 (F1.map fuD)])), none, none, none, none, none, none, none, none, none, none, none, none, none, none] = _
    rw [q_seto, lc2]
    rfl)]
  have lc3 : mLC [8] (mItems (mVar 5)) (bName 8) mYes e_law_3 [some (.val (.slst (ns.map D.int))), some (.val R), some (.val (.lst ([z0, z1, z2].map D.int))), some (.val (.lst [wD S0 (F0.map fuD), wD S1 (F1.map fuD)])), none, some (.val (.lst [pd0, pd1])), none, none, none, none, none, none, none, none, none, none, none, none] = .ok (.l [insPr S0 [("s", "num")] F0, insPr S1 [("s", "num")] F1]) := lc_same (g := fun p : D × D => p.1) (h := fun p => p.2) (as := [(pd0, insPr S0 [("s", "num")] F0), (pd1, insPr S1 [("s", "num")] F1)]) rfl (by simp) (by simp only [q_df, q_st, q_sq, q_at_nx, q_at_rt, q_at_bk, q_at_ct, q_at_ex, q_mi, q_sel_t, q_sel_f, q_out_rt, q_out_nx, q_out_ex, q_rb_ok, q_rb_bad, q_rb_exc, q_tf_ok, q_v0, q_vs, q_w0, q_w0o, q_ws, q_tbq, q_asb, q_nt, q_rsel_t, q_rsel_f, q_ta, q_to, q_va, q_vo, q_vn, q_sett, q_seto, q_bin, q_c, q_callb, q_cons, q_nil, q_tup, q_lst, q_celle, q_ret, q_nx, q_thl, q_thd, q_isi, q_neg, q_neg_i, q_callk, q_drop, q_retn, q_brk, q_cnt, q_ife, q_add_i, q_sub_i, q_lt_i, q_le_i, q_gt_i, q_ge_i, q_eq_i, q_ne_i, List.map_cons, List.map_nil, List.length_cons, List.length_nil, List.replicate, List.append_nil, List.nil_append, List.cons_append, Nat.reduceAdd, Nat.reduceSub, List.getElem?_cons_zero, List.getElem?_cons_succ, List.set_cons_zero, List.set_cons_succ, Bool.not_true, Bool.not_false, decide_true, decide_false, if_true, if_false, q_it, q_items_l]) (fun p hp => ⟨_, rfl, by
    show e_law_3 [some (.val (.slst (ns.map D.int))), some (.val R), some (.val (.lst ([z0, z1, z2].map D.int))), some (.val (.lst [wD S0 (F0.map fuD), wD S1 (F1.map fuD)])), none, some (.val (.lst [pd0, pd1])), none, none, some (.val p.1), none, none, none, none, none, none, none, none, none] = _
    simp only [List.mem_cons, List.not_mem_nil, or_false] at hp
    rcases hp with rfl | rfl
    · simp only [e_law_3, q_df, q_st, q_sq, q_at_nx, q_at_rt, q_at_bk, q_at_ct, q_at_ex, q_mi, q_sel_t, q_sel_f, q_out_rt, q_out_nx, q_out_ex, q_rb_ok, q_rb_bad, q_rb_exc, q_tf_ok, q_v0, q_vs, q_w0, q_w0o, q_ws, q_tbq, q_asb, q_nt, q_rsel_t, q_rsel_f, q_ta, q_to, q_va, q_vo, q_vn, q_sett, q_seto, q_bin, q_c, q_callb, q_cons, q_nil, q_tup, q_lst, q_celle, q_ret, q_nx, q_thl, q_thd, q_isi, q_neg, q_neg_i, q_callk, q_drop, q_retn, q_brk, q_cnt, q_ife, q_add_i, q_sub_i, q_lt_i, q_le_i, q_gt_i, q_ge_i, q_eq_i, q_ne_i, List.map_cons, List.map_nil, List.length_cons, List.length_nil, List.replicate, List.append_nil, List.nil_append, List.cons_append, Nat.reduceAdd, Nat.reduceSub, List.getElem?_cons_zero, List.getElem?_cons_succ, List.set_cons_zero, List.set_cons_succ, Bool.not_true, Bool.not_false, decide_true, decide_false, if_true, if_false, q01, q02, q03, mk0]
    · simp only [e_law_3, q_df, q_st, q_sq, q_at_nx, q_at_rt, q_at_bk, q_at_ct, q_at_ex, q_mi, q_sel_t, q_sel_f, q_out_rt, q_out_nx, q_out_ex, q_rb_ok, q_rb_bad, q_rb_exc, q_tf_ok, q_v0, q_vs, q_w0, q_w0o, q_ws, q_tbq, q_asb, q_nt, q_rsel_t, q_rsel_f, q_ta, q_to, q_va, q_vo, q_vn, q_sett, q_seto, q_bin, q_c, q_callb, q_cons, q_nil, q_tup, q_lst, q_celle, q_ret, q_nx, q_thl, q_thd, q_isi, q_neg, q_neg_i, q_callk, q_drop, q_retn, q_brk, q_cnt, q_ife, q_add_i, q_sub_i, q_lt_i, q_le_i, q_gt_i, q_ge_i, q_eq_i, q_ne_i, List.map_cons, List.map_nil, List.length_cons, List.length_nil, List.replicate, List.append_nil, List.nil_append, List.cons_append, Nat.reduceAdd, Nat.reduceSub, List.getElem?_cons_zero, List.getElem?_cons_succ, List.set_cons_zero, List.set_cons_succ, Bool.not_true, Bool.not_false, decide_true, decide_false, if_true, if_false, q11, q12, q13, mk1]⟩)
  rw [seq_nx (r' := [some (.val (.slst (ns.map D.int))), some (.val R), some (.val (.lst ([z0, z1, z2].map D.int))), some (.val (.lst [wD S0 (F0.map fuD), wD S1 (F1.map fuD)])), none, some (.val (.lst [pd0, pd1])), none, some (.own (.l [insPr S0 [("s", "num")] F0, insPr S1 [("s", "num")] F1])), none, none, none, none, none, none, none, none, none, none]) (by
    refine frz_nx rfl ?_
    show mSetO 7 _ [some (.val (.slst (ns.map D.int))), some (.val R), some (.val (.lst ([z0, z1, z2].map D.int))), some (.val (.lst [wD S0 (F0.map fuD), wD S1 (F1.map fuD)])), none, some (.val (.lst [pd0, pd1])), none, none, none, none, none, none, none, none, none, none, none, none] = _
    rw [q_seto, lc3]
    rfl)]
  rw [seq_nx (for_nx (by simp only [q_df, q_st, q_sq, q_at_nx, q_at_rt, q_at_bk, q_at_ct, q_at_ex, q_mi, q_sel_t, q_sel_f, q_out_rt, q_out_nx, q_out_ex, q_rb_ok, q_rb_bad, q_rb_exc, q_tf_ok, q_v0, q_vs, q_w0, q_w0o, q_ws, q_tbq, q_asb, q_nt, q_rsel_t, q_rsel_f, q_ta, q_to, q_va, q_vo, q_vn, q_sett, q_seto, q_bin, q_c, q_callb, q_cons, q_nil, q_tup, q_lst, q_celle, q_ret, q_nx, q_thl, q_thd, q_isi, q_neg, q_neg_i, q_callk, q_drop, q_retn, q_brk, q_cnt, q_ife, q_add_i, q_sub_i, q_lt_i, q_le_i, q_gt_i, q_ge_i, q_eq_i, q_ne_i, List.map_cons, List.map_nil, List.length_cons, List.length_nil, List.replicate, List.append_nil, List.nil_append, List.cons_append, Nat.reduceAdd, Nat.reduceSub, List.getElem?_cons_zero, List.getElem?_cons_succ, List.set_cons_zero, List.set_cons_succ, Bool.not_true, Bool.not_false, decide_true, decide_false, if_true, if_false, q_rg]; exact q_rg1 (by omega) (by omega)) e2)]
  have m0 : mMeth "Program" "data" m_Program_data (mIxO 7 (mC (.int 0))) mNil [some (.val (.slst (ns.map D.int))), some (.val R), some (.val (.lst ([z0, z1, z2].map D.int))), some (.val (.lst [wD S0 (F0.map fuD), wD S1 (F1.map fuD)])), none, some (.val (.lst [pd0, pd1])), none, some (.own (.l [insPr S0 [("s", "num")] F0, insPr S1 [("s", "num")] F1])), none, y9, y10, y11, y12, y13, y14, y15, y16, none] = .ok (.tup [.tup (S0.map shD), .tup ([(("s" : Str), ("num" : Str))].map pairD), .tup (F0.map fuD)]) := by
    have x : mIxO 7 (mC (.int 0)) [some (.val (.slst (ns.map D.int))), some (.val R), some (.val (.lst ([z0, z1, z2].map D.int))), some (.val (.lst [wD S0 (F0.map fuD), wD S1 (F1.map fuD)])), none, some (.val (.lst [pd0, pd1])), none, some (.own (.l [insPr S0 [("s", "num")] F0, insPr S1 [("s", "num")] F1])), none, y9, y10, y11, y12, y13, y14, y15, y16, none] = .ok (insPr S0 [("s", "num")] F0) := rfl
    exact meth_ok x rfl rfl da0
  have m1 : mMeth "Program" "data" m_Program_data (mIxO 7 (mC (.int 1))) mNil [some (.val (.slst (ns.map D.int))), some (.val R), some (.val (.lst ([z0, z1, z2].map D.int))), some (.val (.lst [wD S0 (F0.map fuD), wD S1 (F1.map fuD)])), none, some (.val (.lst [pd0, pd1])), none, some (.own (.l [insPr S0 [("s", "num")] F0, insPr S1 [("s", "num")] F1])), none, y9, y10, y11, y12, y13, y14, y15, y16, none] = .ok (.tup [.tup (S1.map shD), .tup ([(("s" : Str), ("num" : Str))].map pairD), .tup (F1.map fuD)]) := by
    have x : mIxO 7 (mC (.int 1)) [some (.val (.slst (ns.map D.int))), some (.val R), some (.val (.lst ([z0, z1, z2].map D.int))), some (.val (.lst [wD S0 (F0.map fuD), wD S1 (F1.map fuD)])), none, some (.val (.lst [pd0, pd1])), none, some (.own (.l [insPr S0 [("s", "num")] F0, insPr S1 [("s", "num")] F1])), none, y9, y10, y11, y12, y13, y14, y15, y16, none] = .ok (insPr S1 [("s", "num")] F1) := rfl
    exact meth_ok x rfl rfl da1
  have k0 : dIx (.lst [wD S0 (F0.map fuD), wD S1 (F1.map fuD)]) (.int 0) = .ok (wD S0 (F0.map fuD)) := rfl
  have k1 : dIx (.lst [wD S0 (F0.map fuD), wD S1 (F1.map fuD)]) (.int 1) = .ok (wD S1 (F1.map fuD)) := rfl
  rw [q_ret, q_va, q_callb, q_cons, m0, q_rb_ok]
  simp only [q_cons, q_bin, q_vs, q_v0, q_c, q_rb_ok, q_nil, k0, un0, q_asb, q_rsel_t, q_callb, m1, k1, un1, q_tf_ok]
end LK

namespace LK
open PySem PySem.Spec PyProof.Rows L2 QB
theorem all_end {P : Program} {w : World} {K : PySem.W.Frag} {h : Heap} {mg : Str → Option Value} {fa : Addr} (_X : K.In h) (hfa : mg "law" = some (.ref fa)) (T : Tx w K mg) :
    ∃ fd : FuncData, (∀ (s : Shared) (u : Value), BindsTo s fd ⟨[u], []⟩ [("_law_script", u)]) ∧ ∀ base : Heap, K.In base → base.Ns mainGlobals mg → FnOk P w K mg base (L2.CX P w) 7 fa fd ["_law_script"] (spLaw K) := by
  obtain ⟨f, fd, F, g⟩ := T.d_law
  have e := hfa.symm.trans g
  cases e
  exact ⟨fd, fun s u => law_bind F s u, fun base _ _ => law_fn T F law_true⟩
end LK
open PySem PySem.W PyProof.Rows in
set_option maxRecDepth 100000 in
set_option maxHeartbeats 0 in
theorem PySem.Challenge.cw_quietbroom_k18_successors_holds : PySem.Challenge.rw_quietbroom_k18_successors.Holds := by
  w_on; o_law; k_head; (case hw => w_witness2)
  k_fill
  refine L2.walk_ofB (l := PySem.Challenge.rw_quietbroom_k18_successors) (n := 63) (k := 7) (x := "_law_script") (CX := fun w => L2.CX (PySem.Challenge.rw_quietbroom_k18_successors).prog w) (sp := fun w => QB.spLaw _) rfl (by decide) rfl ⟨rfl, by decide, by decide⟩ (fun w h Y => PySem.W.kIn_of Y) ?F (fun w H a ns hl hb _ hS => ⟨a, ns, rfl, hS, hl, hb, fun _ => rfl⟩) (fun w H s e s' => QB.no_exc (P := (PySem.Challenge.rw_quietbroom_k18_successors).prog))
  case F =>
    intro w mg fa h KX G hmg
    refine' LK.all_end KX hmg (LK.all_mk KX G ?a0 ?l0 ?c0 ?k0 ?a1 ?l1 ?c1 ?k1 ?a2 ?l2 ?c2 ?k2 ?a3 ?l3 ?c3 ?k3 ?a4 ?l4 ?c4 ?k4 ?a5 ?l5 ?c5 ?k5 ?a6 ?l6 ?c6 ?k6 ?a7 ?l7 ?c7 ?k7 ?a8 ?l8 ?c8 ?k8 ?a9 ?l9 ?c9 ?k9 ?a10 ?l10 ?c10 ?k10 ?a11 ?l11 ?c11 ?k11 ?a12 ?l12 ?c12 ?k12 ?a13 ?l13 ?c13 ?k13 ?a14 ?l14 ?c14 ?k14 ?a15 ?l15 ?c15 ?k15 ?a16 ?l16 ?c16 ?k16 ?a17 ?l17 ?c17 ?k17 ?a18 ?l18 ?c18 ?k18 ?a19 ?l19 ?c19 ?k19 ?a20 ?l20 ?c20 ?k20 ?a21 ?l21 ?c21 ?k21 ?a22 ?l22 ?c22 ?k22 ?a23 ?l23 ?c23 ?k23 ?a24 ?l24 ?c24 ?k24 ?a25 ?l25 ?c25 ?k25 ?a26 ?l26 ?c26 ?k26 ?a27 ?l27 ?c27 ?k27 ?a28 ?l28 ?c28 ?k28 ?a29 ?l29 ?c29 ?k29 ?a30 ?l30 ?c30 ?k30 ?a31 ?l31 ?c31 ?k31 ?a32 ?l32 ?c32 ?k32 ?a33 ?l33 ?c33 ?k33 ?a34 ?l34 ?c34 ?k34 ?a35 ?l35 ?c35 ?k35 ?a36 ?l36 ?c36 ?k36 ?a37 ?l37 ?c37 ?k37 ?aq0 ?xa0 ?xl0 ?xs0 ?xi0 ?xt0 ?xf0 ?xc0 ?xkI0 ?xkC0 ?xe0 ?xT0 ?xn0_0 ?xn0_1 ?xn0_2 ?xn0_3 ?ka0 ?kpg0 ?khd0 ?kpo0 ?ksa0 ?kmk0 ?kkc0 ?kn0_0 ?kn0_1 ?kn0_2 ?kat0_2 ?kfn0_2 ?kfl0_2 ?kfc0_2 ?kfk0_2 ?ka1 ?kpg1 ?khd1 ?kpo1 ?ksa1 ?kmk1 ?kkc1 ?kn1_0 ?kn1_1 ?kn1_2 ?kn1_3 ?kn1_4 ?kat1_0 ?kfn1_0 ?kfl1_0 ?kfc1_0 ?kfk1_0 ?ka2 ?kpg2 ?khd2 ?kpo2 ?ksa2 ?kmk2 ?kkc2 ?kn2_0 ?kn2_1 ?kn2_2 ?kat2_1 ?kfn2_1 ?kfl2_1 ?kfc2_1 ?kfk2_1 ?kat2_3 ?kfn2_3 ?kfl2_3 ?kfc2_3 ?kfk2_3 ?v0 ?w0 ?v1 ?v2 ?v3 ?w3 ?v4 ?v5 ?v6 ?w6 ?dv7 ?dw7 ?dl7 ?dx7_0 ?dy7_0 ?dx7_1 ?dy7_1 ?dx7_2 ?dy7_2 ?dx7_3 ?dy7_3 ?dx7_4 ?dy7_4 ?dx7_5 ?dy7_5 ?dx7_6 ?dy7_6 ?dx7_7 ?dy7_7 ?dx7_8 ?dy7_8 ?dx7_9 ?dy7_9 ?dx7_10 ?dy7_10 ?dx7_11 ?dy7_11 ?dx7_12 ?dy7_12 ?dx7_13 ?dy7_13 ?dx7_14 ?dy7_14 ?dx7_15 ?dy7_15 ?dx7_16 ?dy7_16 ?dx7_17 ?dy7_17 ?dx7_18 ?dy7_18 ?dx7_19 ?dy7_19 ?dx7_20 ?dy7_20 ?dx7_21 ?dy7_21 ?dx7_22 ?dy7_22 ?dx7_23 ?dy7_23 ?dx7_24 ?dy7_24 ?dx7_25 ?dy7_25 ?dx7_26 ?dy7_26 ?dx7_27 ?dy7_27 ?dx7_28 ?dy7_28 ?dx7_29 ?dy7_29 ?dx7_30 ?dy7_30 ?dx7_31 ?dy7_31 ?dx7_32 ?dy7_32 ?dx7_33 ?dy7_33 ?dx7_34 ?dy7_34 ?dx7_35 ?dy7_35 ?dx7_36 ?dy7_36 ?dx7_37 ?dy7_37 ?dx7_38 ?dy7_38 ?dx7_39 ?dy7_39 ?z0 ?z1 ?z2 ?z3 ?z4 ?z5 ?z6 ?z7 ?z8 ?z9)
    (case a0 => first | k_is | rfl)
    (case l0 => first | k_is | rfl)
    (case c0 => first | k_is | rfl)
    (case k0 => first | k_is | rfl)
    (case a1 => first | k_is | rfl)
    (case l1 => first | k_is | rfl)
    (case c1 => first | k_is | rfl)
    (case k1 => first | k_is | rfl)
    (case a2 => first | k_is | rfl)
    (case l2 => first | k_is | rfl)
    (case c2 => first | k_is | rfl)
    (case k2 => first | k_is | rfl)
    (case a3 => first | k_is | rfl)
    (case l3 => first | k_is | rfl)
    (case c3 => first | k_is | rfl)
    (case k3 => first | k_is | rfl)
    (case a4 => first | k_is | rfl)
    (case l4 => first | k_is | rfl)
    (case c4 => first | k_is | rfl)
    (case k4 => first | k_is | rfl)
    (case a5 => first | k_is | rfl)
    (case l5 => first | k_is | rfl)
    (case c5 => first | k_is | rfl)
    (case k5 => first | k_is | rfl)
    (case a6 => first | k_is | rfl)
    (case l6 => first | k_is | rfl)
    (case c6 => first | k_is | rfl)
    (case k6 => first | k_is | rfl)
    (case a7 => first | k_is | rfl)
    (case l7 => first | k_is | rfl)
    (case c7 => first | k_is | rfl)
    (case k7 => first | k_is | rfl)
    (case a8 => first | k_is | rfl)
    (case l8 => first | k_is | rfl)
    (case c8 => first | k_is | rfl)
    (case k8 => first | k_is | rfl)
    (case a9 => first | k_is | rfl)
    (case l9 => first | k_is | rfl)
    (case c9 => first | k_is | rfl)
    (case k9 => first | k_is | rfl)
    (case a10 => first | k_is | rfl)
    (case l10 => first | k_is | rfl)
    (case c10 => first | k_is | rfl)
    (case k10 => first | k_is | rfl)
    (case a11 => first | k_is | rfl)
    (case l11 => first | k_is | rfl)
    (case c11 => first | k_is | rfl)
    (case k11 => first | k_is | rfl)
    (case a12 => first | k_is | rfl)
    (case l12 => first | k_is | rfl)
    (case c12 => first | k_is | rfl)
    (case k12 => first | k_is | rfl)
    (case a13 => first | k_is | rfl)
    (case l13 => first | k_is | rfl)
    (case c13 => first | k_is | rfl)
    (case k13 => first | k_is | rfl)
    (case a14 => first | k_is | rfl)
    (case l14 => first | k_is | rfl)
    (case c14 => first | k_is | rfl)
    (case k14 => first | k_is | rfl)
    (case a15 => first | k_is | rfl)
    (case l15 => first | k_is | rfl)
    (case c15 => first | k_is | rfl)
    (case k15 => first | k_is | rfl)
    (case a16 => first | k_is | rfl)
    (case l16 => first | k_is | rfl)
    (case c16 => first | k_is | rfl)
    (case k16 => first | k_is | rfl)
    (case a17 => first | k_is | rfl)
    (case l17 => first | k_is | rfl)
    (case c17 => first | k_is | rfl)
    (case k17 => first | k_is | rfl)
    (case a18 => first | k_is | rfl)
    (case l18 => first | k_is | rfl)
    (case c18 => first | k_is | rfl)
    (case k18 => first | k_is | rfl)
    (case a19 => first | k_is | rfl)
    (case l19 => first | k_is | rfl)
    (case c19 => first | k_is | rfl)
    (case k19 => first | k_is | rfl)
    (case a20 => first | k_is | rfl)
    (case l20 => first | k_is | rfl)
    (case c20 => first | k_is | rfl)
    (case k20 => first | k_is | rfl)
    (case a21 => first | k_is | rfl)
    (case l21 => first | k_is | rfl)
    (case c21 => first | k_is | rfl)
    (case k21 => first | k_is | rfl)
    (case a22 => first | k_is | rfl)
    (case l22 => first | k_is | rfl)
    (case c22 => first | k_is | rfl)
    (case k22 => first | k_is | rfl)
    (case a23 => first | k_is | rfl)
    (case l23 => first | k_is | rfl)
    (case c23 => first | k_is | rfl)
    (case k23 => first | k_is | rfl)
    (case a24 => first | k_is | rfl)
    (case l24 => first | k_is | rfl)
    (case c24 => first | k_is | rfl)
    (case k24 => first | k_is | rfl)
    (case a25 => first | k_is | rfl)
    (case l25 => first | k_is | rfl)
    (case c25 => first | k_is | rfl)
    (case k25 => first | k_is | rfl)
    (case a26 => first | k_is | rfl)
    (case l26 => first | k_is | rfl)
    (case c26 => first | k_is | rfl)
    (case k26 => first | k_is | rfl)
    (case a27 => first | k_is | rfl)
    (case l27 => first | k_is | rfl)
    (case c27 => first | k_is | rfl)
    (case k27 => first | k_is | rfl)
    (case a28 => first | k_is | rfl)
    (case l28 => first | k_is | rfl)
    (case c28 => first | k_is | rfl)
    (case k28 => first | k_is | rfl)
    (case a29 => first | k_is | rfl)
    (case l29 => first | k_is | rfl)
    (case c29 => first | k_is | rfl)
    (case k29 => first | k_is | rfl)
    (case a30 => first | k_is | rfl)
    (case l30 => first | k_is | rfl)
    (case c30 => first | k_is | rfl)
    (case k30 => first | k_is | rfl)
    (case a31 => first | k_is | rfl)
    (case l31 => first | k_is | rfl)
    (case c31 => first | k_is | rfl)
    (case k31 => first | k_is | rfl)
    (case a32 => first | k_is | rfl)
    (case l32 => first | k_is | rfl)
    (case c32 => first | k_is | rfl)
    (case k32 => first | k_is | rfl)
    (case a33 => first | k_is | rfl)
    (case l33 => first | k_is | rfl)
    (case c33 => first | k_is | rfl)
    (case k33 => first | k_is | rfl)
    (case a34 => first | k_is | rfl)
    (case l34 => first | k_is | rfl)
    (case c34 => first | k_is | rfl)
    (case k34 => first | k_is | rfl)
    (case a35 => first | k_is | rfl)
    (case l35 => first | k_is | rfl)
    (case c35 => first | k_is | rfl)
    (case k35 => first | k_is | rfl)
    (case a36 => first | k_is | rfl)
    (case l36 => first | k_is | rfl)
    (case c36 => first | k_is | rfl)
    (case k36 => first | k_is | rfl)
    (case a37 => first | k_is | rfl)
    (case l37 => first | k_is | rfl)
    (case c37 => first | k_is | rfl)
    (case k37 => first | k_is | rfl)
    (case aq0 => first | k_is | rfl)
    (case xa0 => first | k_is | rfl)
    (case xl0 => first | k_is | rfl)
    (case xs0 => first | k_is | rfl)
    (case xi0 => first | k_is | rfl)
    (case xt0 => first | k_is | rfl)
    (case xf0 => first | k_is | rfl)
    (case xc0 => first | k_is | rfl)
    (case xkI0 => first | k_is | rfl)
    (case xkC0 => first | k_is | rfl)
    (case xe0 => first | k_is | rfl)
    (case xT0 => first | k_is | rfl)
    (case xn0_0 => first | k_is | rfl)
    (case xn0_1 => first | k_is | rfl)
    (case xn0_2 => first | k_is | rfl)
    (case xn0_3 => first | k_is | rfl)
    (case ka0 => first | k_is | rfl)
    (case kpg0 => first | k_is | rfl)
    (case khd0 => first | k_is | rfl)
    (case kpo0 => first | k_is | rfl)
    (case ksa0 => first | k_is | rfl)
    (case kmk0 => first | k_is | rfl)
    (case kkc0 => first | k_is | rfl)
    (case kn0_0 => first | k_is | rfl)
    (case kn0_1 => first | k_is | rfl)
    (case kn0_2 => first | k_is | rfl)
    (case kat0_2 => first | k_is | rfl)
    (case kfn0_2 => first | k_is | rfl)
    (case kfl0_2 => first | k_is | rfl)
    (case kfc0_2 => first | k_is | rfl)
    (case kfk0_2 => first | k_is | rfl)
    (case ka1 => first | k_is | rfl)
    (case kpg1 => first | k_is | rfl)
    (case khd1 => first | k_is | rfl)
    (case kpo1 => first | k_is | rfl)
    (case ksa1 => first | k_is | rfl)
    (case kmk1 => first | k_is | rfl)
    (case kkc1 => first | k_is | rfl)
    (case kn1_0 => first | k_is | rfl)
    (case kn1_1 => first | k_is | rfl)
    (case kn1_2 => first | k_is | rfl)
    (case kn1_3 => first | k_is | rfl)
    (case kn1_4 => first | k_is | rfl)
    (case kat1_0 => first | k_is | rfl)
    (case kfn1_0 => first | k_is | rfl)
    (case kfl1_0 => first | k_is | rfl)
    (case kfc1_0 => first | k_is | rfl)
    (case kfk1_0 => first | k_is | rfl)
    (case ka2 => first | k_is | rfl)
    (case kpg2 => first | k_is | rfl)
    (case khd2 => first | k_is | rfl)
    (case kpo2 => first | k_is | rfl)
    (case ksa2 => first | k_is | rfl)
    (case kmk2 => first | k_is | rfl)
    (case kkc2 => first | k_is | rfl)
    (case kn2_0 => first | k_is | rfl)
    (case kn2_1 => first | k_is | rfl)
    (case kn2_2 => first | k_is | rfl)
    (case kat2_1 => first | k_is | rfl)
    (case kfn2_1 => first | k_is | rfl)
    (case kfl2_1 => first | k_is | rfl)
    (case kfc2_1 => first | k_is | rfl)
    (case kfk2_1 => first | k_is | rfl)
    (case kat2_3 => first | k_is | rfl)
    (case kfn2_3 => first | k_is | rfl)
    (case kfl2_3 => first | k_is | rfl)
    (case kfc2_3 => first | k_is | rfl)
    (case kfk2_3 => first | k_is | rfl)
    (case v0 => first | k_is | rfl)
    (case w0 => first | k_is | rfl)
    (case v1 => first | k_is | rfl)
    (case v2 => first | k_is | rfl)
    (case v3 => first | k_is | rfl)
    (case w3 => first | k_is | rfl)
    (case v4 => first | k_is | rfl)
    (case v5 => first | k_is | rfl)
    (case v6 => first | k_is | rfl)
    (case w6 => first | k_is | rfl)
    (case dv7 => first | k_is | rfl)
    (case dw7 => first | k_is | rfl)
    (case dl7 => first | (repeat (first | exact True.intro | refine ⟨⟨_, _, rfl, rfl⟩, ?_⟩)) | k_is)
    (case dx7_0 => first | k_is | rfl)
    (case dy7_0 => first | k_is | rfl)
    (case dx7_1 => first | k_is | rfl)
    (case dy7_1 => first | k_is | rfl)
    (case dx7_2 => first | k_is | rfl)
    (case dy7_2 => first | k_is | rfl)
    (case dx7_3 => first | k_is | rfl)
    (case dy7_3 => first | k_is | rfl)
    (case dx7_4 => first | k_is | rfl)
    (case dy7_4 => first | k_is | rfl)
    (case dx7_5 => first | k_is | rfl)
    (case dy7_5 => first | k_is | rfl)
    (case dx7_6 => first | k_is | rfl)
    (case dy7_6 => first | k_is | rfl)
    (case dx7_7 => first | k_is | rfl)
    (case dy7_7 => first | k_is | rfl)
    (case dx7_8 => first | k_is | rfl)
    (case dy7_8 => first | k_is | rfl)
    (case dx7_9 => first | k_is | rfl)
    (case dy7_9 => first | k_is | rfl)
    (case dx7_10 => first | k_is | rfl)
    (case dy7_10 => first | k_is | rfl)
    (case dx7_11 => first | k_is | rfl)
    (case dy7_11 => first | k_is | rfl)
    (case dx7_12 => first | k_is | rfl)
    (case dy7_12 => first | k_is | rfl)
    (case dx7_13 => first | k_is | rfl)
    (case dy7_13 => first | k_is | rfl)
    (case dx7_14 => first | k_is | rfl)
    (case dy7_14 => first | k_is | rfl)
    (case dx7_15 => first | k_is | rfl)
    (case dy7_15 => first | k_is | rfl)
    (case dx7_16 => first | k_is | rfl)
    (case dy7_16 => first | k_is | rfl)
    (case dx7_17 => first | k_is | rfl)
    (case dy7_17 => first | k_is | rfl)
    (case dx7_18 => first | k_is | rfl)
    (case dy7_18 => first | k_is | rfl)
    (case dx7_19 => first | k_is | rfl)
    (case dy7_19 => first | k_is | rfl)
    (case dx7_20 => first | k_is | rfl)
    (case dy7_20 => first | k_is | rfl)
    (case dx7_21 => first | k_is | rfl)
    (case dy7_21 => first | k_is | rfl)
    (case dx7_22 => first | k_is | rfl)
    (case dy7_22 => first | k_is | rfl)
    (case dx7_23 => first | k_is | rfl)
    (case dy7_23 => first | k_is | rfl)
    (case dx7_24 => first | k_is | rfl)
    (case dy7_24 => first | k_is | rfl)
    (case dx7_25 => first | k_is | rfl)
    (case dy7_25 => first | k_is | rfl)
    (case dx7_26 => first | k_is | rfl)
    (case dy7_26 => first | k_is | rfl)
    (case dx7_27 => first | k_is | rfl)
    (case dy7_27 => first | k_is | rfl)
    (case dx7_28 => first | k_is | rfl)
    (case dy7_28 => first | k_is | rfl)
    (case dx7_29 => first | k_is | rfl)
    (case dy7_29 => first | k_is | rfl)
    (case dx7_30 => first | k_is | rfl)
    (case dy7_30 => first | k_is | rfl)
    (case dx7_31 => first | k_is | rfl)
    (case dy7_31 => first | k_is | rfl)
    (case dx7_32 => first | k_is | rfl)
    (case dy7_32 => first | k_is | rfl)
    (case dx7_33 => first | k_is | rfl)
    (case dy7_33 => first | k_is | rfl)
    (case dx7_34 => first | k_is | rfl)
    (case dy7_34 => first | k_is | rfl)
    (case dx7_35 => first | k_is | rfl)
    (case dy7_35 => first | k_is | rfl)
    (case dx7_36 => first | k_is | rfl)
    (case dy7_36 => first | k_is | rfl)
    (case dx7_37 => first | k_is | rfl)
    (case dy7_37 => first | k_is | rfl)
    (case dx7_38 => first | k_is | rfl)
    (case dy7_38 => first | k_is | rfl)
    (case dx7_39 => first | k_is | rfl)
    (case dy7_39 => first | k_is | rfl)
    (case z0 => first | k_is | rfl)
    (case z1 => first | k_is | rfl)
    (case z2 => first | k_is | rfl)
    (case z3 => first | k_is | rfl)
    (case z4 => first | k_is | rfl)
    (case z5 => first | k_is | rfl)
    (case z6 => first | k_is | rfl)
    (case z7 => first | k_is | rfl)
    (case z8 => first | k_is | rfl)
    (case z9 => first | k_is | rfl)
