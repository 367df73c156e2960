import PyProof.Rows.All
import Wide.All
import OpenK.AllK
import Wide.FinOn
import HandS.ForMost
import HandS.ForExc
import HandS.Wide
import HandS.IsInst
import HandS.Deep
import HandS.TupAny
import HandS.Defaults
import HandS.WideBits
import HandS.TupLe
import HandS.Iter
import HandS.TryOnly
import HandS.EndBits
import HandS.Comp
import HandS.List
import HandS.Text
import HandS.RaiseMore
import PyProof.StrOps2
import HandS.Exc
import HandS.ExcInit
import PyProof.P3Eq
import PySem.Challenge.RW_quietbroom_k13_octet_numbers
set_option Elab.async false
set_option linter.all false
set_option maxRecDepth 100000
set_option maxHeartbeats 4000000
/-! QB: a functional mirror of Python over plain data, tied to the hand layer. -/
namespace QB
open PySem PySem.Spec PyProof.Rows L2

/-! ### data -/
/-- a value without a heap -/
inductive D where
  | non | bl (b : Bool) | int (i : Int) | str (s : Str) | tup (xs : List D) | lst (xs : List D) | slst (xs : List D)
  | ins (c : Str) (ns : List Str) (xs : List D) | dct (ks : List Key) (xs : List D)

/-- results: a value, a raised error (class, field names, fields), stuck -/
inductive R (α : Type) where
  | ok (a : α) | exc (c : Str) (ns : List Str) (xs : List D) | bad
@[simp] def R.bind {α β : Type} : R α → (α → R β) → R β
  | .ok a, f => f a
  | .exc c ns xs, _ => .exc c ns xs
  | .bad, _ => .bad
inductive Cell where
  | l (xs : List D) | d (ks : List Key) (xs : List D)
inductive EV where
  | val (d : D) | own (c : Cell)
abbrev Sc := List (Option EV)
inductive Fl where
  | nx (r : Sc) | rt (d : D) | rc (c : Cell) | bk (r : Sc) | ct (r : Sc) | ex (c : Str) (ns : List Str) (xs : List D) (r : Sc) | bad
abbrev ME := Sc → R D
abbrev MA := Sc → R (List D)
abbrev MT := Sc → R Bool
abbrev MF := Sc → R Cell
abbrev MS := Sc → Fl

/-! ### how a value stands in the heap -/
mutual
def Rep (K : PySem.W.Frag) (mg : Str → Option Value) (G : Hp) : D → V → Prop
  | .non, v => v = .non
  | .bl b, v => v = .bl b
  | .int i, v => v = .int i
  | .str s, v => v = .str s
  | .tup xs, v => ∃ (a : Addr) (vs : List V), v = .ref a ∧ SqT K G a vs ∧ RepL K mg G xs vs
  | .lst xs, v => ∃ (a : Addr) (vs : List V), v = .ref a ∧ G a = some (.lst vs) ∧ RepL K mg G xs vs
  | .slst xs, v => ∃ (a : Addr) (vs : List V), v = .ref a ∧ SqL K G a vs ∧ RepL K mg G xs vs
  | .ins c ns xs, v => ∃ (a C dx : Addr) (vs : List V), v = .ref a ∧ mg c = some (.ref C) ∧ G a = some (.ins C dx (ns.zip vs)) ∧ ns.length = xs.length ∧ RepL K mg G xs vs
  | .dct ks xs, v => ∃ (a : Addr) (vs : List V), v = .ref a ∧ G a = some (.dK (ks.zip vs)) ∧ ks.length = xs.length ∧ RepL K mg G xs vs
def RepL (K : PySem.W.Frag) (mg : Str → Option Value) (G : Hp) : List D → List V → Prop
  | [], vs => vs = []
  | d :: ds, vs => ∃ (v : V) (us : List V), vs = v :: us ∧ Rep K mg G d v ∧ RepL K mg G ds us
end
theorem Same.seqT {K : PySem.W.Frag} {H H' : Hp} {a : Addr} {xs : List V} (e : Same H H') (h : SqT K H a xs) : SqT K H' a xs := by
  rcases h with (h | ⟨o, h⟩) | h
  · exact .inl (.inl (e _ _ h))
  · exact .inl (.inr ⟨o, e _ _ h⟩)
  · exact .inr h
section
variable {K : PySem.W.Frag} {mg : Str → Option Value} {G G' : Hp}
mutual
theorem Rep.mono (s : Same G G') : ∀ (d : D) (v : V), Rep K mg G d v → Rep K mg G' d v
  | .non, v, h => by simpa [Rep] using h
  | .bl b, v, h => by simpa [Rep] using h
  | .int i, v, h => by simpa [Rep] using h
  | .str x, v, h => by simpa [Rep] using h
  | .tup xs, v, h => by
    simp only [Rep] at h ⊢
    obtain ⟨a, vs, e, q, r⟩ := h
    exact ⟨a, vs, e, Same.seqT s q, RepL.mono s xs vs r⟩
  | .lst xs, v, h => by
    simp only [Rep] at h ⊢
    obtain ⟨a, vs, e, q, r⟩ := h
    exact ⟨a, vs, e, s _ _ q, RepL.mono s xs vs r⟩
  | .slst xs, v, h => by
    simp only [Rep] at h ⊢
    obtain ⟨a, vs, e, q, r⟩ := h
    exact ⟨a, vs, e, Same.seq s q, RepL.mono s xs vs r⟩
  | .ins c ns xs, v, h => by
    simp only [Rep] at h ⊢
    obtain ⟨a, C, dx, vs, e, m, q, l, r⟩ := h
    exact ⟨a, C, dx, vs, e, m, s _ _ q, l, RepL.mono s xs vs r⟩
  | .dct ks xs, v, h => by
    simp only [Rep] at h ⊢
    obtain ⟨a, vs, e, q, l, r⟩ := h
    exact ⟨a, vs, e, s _ _ q, l, RepL.mono s xs vs r⟩
theorem RepL.mono (s : Same G G') : ∀ (ds : List D) (vs : List V), RepL K mg G ds vs → RepL K mg G' ds vs
  | [], vs, h => by simpa [RepL] using h
  | d :: ds, vs, h => by
    simp only [RepL] at h ⊢
    obtain ⟨v, us, e, r, t⟩ := h
    exact ⟨v, us, e, Rep.mono s d v r, RepL.mono s ds us t⟩
end
theorem RepL.nil : RepL K mg G [] [] := by simp [RepL]
theorem RepL.cons {d : D} {ds : List D} {v : V} {vs : List V} (h : Rep K mg G d v) (t : RepL K mg G ds vs) : RepL K mg G (d :: ds) (v :: vs) := by
  simp only [RepL]
  exact ⟨v, vs, rfl, h, t⟩
theorem RepL.length : ∀ {ds : List D} {vs : List V}, RepL K mg G ds vs → vs.length = ds.length
  | [], vs, h => by
    simp only [RepL] at h
    rw [h]
    rfl
  | d :: ds, vs, h => by
    simp only [RepL] at h
    obtain ⟨v, us, e, _, t⟩ := h
    rw [e, List.length_cons, List.length_cons, RepL.length t]
theorem RepL.get : ∀ {ds : List D} {vs : List V} {i : Nat} {d : D}, RepL K mg G ds vs → ds[i]? = some d → ∃ v, vs[i]? = some v ∧ Rep K mg G d v
  | [], _, i, d, _, h => by simp at h
  | x :: ds, vs, i, d, h, hi => by
    simp only [RepL] at h
    obtain ⟨v, us, e, r, t⟩ := h
    subst e
    cases i with
    | zero =>
      simp at hi
      subst hi
      exact ⟨v, rfl, r⟩
    | succ j =>
      simp at hi
      obtain ⟨w, hw, rw'⟩ := RepL.get (i := j) t hi
      exact ⟨w, by simpa using hw, rw'⟩
theorem RepL.getV : ∀ {ds : List D} {vs : List V} {i : Nat} {v : V}, RepL K mg G ds vs → vs[i]? = some v → ∃ d, ds[i]? = some d ∧ Rep K mg G d v := fun {ds vs i v} h hv => by
  have hl := h.length
  have hi : i < ds.length := by
    rw [← hl]
    exact (List.getElem?_eq_some_iff.mp hv).1
  obtain ⟨w, hw, r⟩ := h.get (List.getElem?_eq_getElem hi)
  rw [hv] at hw
  cases hw
  exact ⟨_, List.getElem?_eq_getElem hi, r⟩
theorem RepL.append : ∀ {ds es : List D} {vs us : List V}, RepL K mg G ds vs → RepL K mg G es us → RepL K mg G (ds ++ es) (vs ++ us)
  | [], es, vs, us, h, t => by
    simp only [RepL] at h
    subst h
    exact t
  | d :: ds, es, vs, us, h, t => by
    simp only [RepL] at h
    obtain ⟨v, ws, e, r, q⟩ := h
    subst e
    exact RepL.cons r (RepL.append q t)
theorem RepL.take : ∀ {ds : List D} {vs : List V} (n : Nat), RepL K mg G ds vs → RepL K mg G (ds.take n) (vs.take n)
  | [], vs, n, h => by
    simp only [RepL] at h
    subst h
    simp [RepL]
  | d :: ds, vs, 0, h => by simp [RepL]
  | d :: ds, vs, n + 1, h => by
    simp only [RepL] at h
    obtain ⟨v, ws, e, r, q⟩ := h
    subst e
    exact RepL.cons r (RepL.take n q)
theorem RepL.drop : ∀ {ds : List D} {vs : List V} (n : Nat), RepL K mg G ds vs → RepL K mg G (ds.drop n) (vs.drop n)
  | [], vs, n, h => by
    simp only [RepL] at h
    subst h
    simp [RepL]
  | d :: ds, vs, 0, h => h
  | d :: ds, vs, n + 1, h => by
    simp only [RepL] at h
    obtain ⟨v, ws, e, r, q⟩ := h
    subst e
    exact RepL.drop n q
theorem RepL.set : ∀ {ds : List D} {vs : List V} (i : Nat) {d : D} {v : V}, RepL K mg G ds vs → Rep K mg G d v → RepL K mg G (ds.set i d) (vs.set i v)
  | [], vs, i, d, v, h, r => by
    simp only [RepL] at h
    subst h
    simp [RepL]
  | x :: ds, vs, 0, d, v, h, r => by
    simp only [RepL] at h
    obtain ⟨w, ws, e, _, q⟩ := h
    subst e
    exact RepL.cons r q
  | x :: ds, vs, i + 1, d, v, h, r => by
    simp only [RepL] at h
    obtain ⟨w, ws, e, r0, q⟩ := h
    subst e
    exact RepL.cons r0 (RepL.set i q r)
end

/-! ### the heap without what is hidden: Z, a caller's own things; m, the things that the slots own -/
noncomputable def hid (Z : Addr → Prop) (m : Nat → Option Addr) (H : Hp) : Hp := fun b => open Classical in if Z b ∨ ∃ i, m i = some b then none else H b
abbrev nom : Nat → Option Addr := fun _ => none
section
variable {Z : Addr → Prop} {m : Nat → Option Addr} {H H' : Hp} {b : Addr} {o : HO}
theorem hid_of (h : H b = some o) (hz : ¬ Z b) (hm : ∀ i, m i ≠ some b) : hid Z m H b = some o := by
  unfold hid
  rw [if_neg (fun q => q.elim hz fun ⟨i, e⟩ => hm i e)]
  exact h
theorem of_hid (h : hid Z m H b = some o) : H b = some o ∧ ¬ Z b ∧ ∀ i, m i ≠ some b := by
  unfold hid at h
  split at h
  · cases h
  · rename_i q
    exact ⟨h, fun z => q (.inl z), fun i e => q (.inr ⟨i, e⟩)⟩
theorem hid_sub : Same (hid Z m H) H := fun _ _ h => (of_hid h).1
theorem hid_mono (s : Same H H') : Same (hid Z m H) (hid Z m H') := fun b o h => by
  obtain ⟨h1, h2, h3⟩ := of_hid h
  exact hid_of (s _ _ h1) h2 h3
theorem hid_less {m' : Nat → Option Addr} (hm : ∀ i a, m' i = some a → ∃ j, m j = some a) : Same (hid Z m H) (hid Z m' H) := fun b o h => by
  obtain ⟨h1, h2, h3⟩ := of_hid h
  exact hid_of h1 h2 fun i e => by
    obtain ⟨j, q⟩ := hm i b e
    exact h3 j q
theorem hid_nom : Same (hid Z m H) (hid Z nom H) := hid_less fun _ _ e => by cases e
end

def CellOk (K : PySem.W.Frag) (mg : Str → Option Value) (G : Hp) (o : HO) : Cell → Prop
  | .l xs => ∃ vs, o = .lst vs ∧ RepL K mg G xs vs
  | .d ks xs => ∃ vs, o = .dK (ks.zip vs) ∧ ks.length = xs.length ∧ RepL K mg G xs vs
theorem CellOk.mono {K : PySem.W.Frag} {mg : Str → Option Value} {G G' : Hp} {o : HO} {c : Cell} (s : Same G G') (h : CellOk K mg G o c) : CellOk K mg G' o c := by
  cases c with
  | l xs =>
    obtain ⟨vs, e, r⟩ := h
    exact ⟨vs, e, r.mono s⟩
  | d ks xs =>
    obtain ⟨vs, e, l, r⟩ := h
    exact ⟨vs, e, l, r.mono s⟩

/-- the slots of a body and its mirror -/
structure Rel (K : PySem.W.Frag) (mg : Str → Option Value) (n : Nat) (Z : Addr → Prop) (H0 : Hp) (m : Nat → Option Addr) (r : Sc) (σ : L2.St) (H : Hp) : Prop where
  lenr : r.length = n
  lens : σ.length = n
  val : ∀ (i : Nat) (d : D), r[i]? = some (some (.val d)) → ∃ v, σ[i]? = some (some v) ∧ Rep K mg (hid Z m H) d v
  own : ∀ (i : Nat) (c : Cell), r[i]? = some (some (.own c)) → ∃ a o, m i = some a ∧ σ[i]? = some (some (.ref a)) ∧ H a = some o ∧ CellOk K mg (hid Z m H) o c
  dom : ∀ (i : Nat) (a : Addr), m i = some a → ∃ c, r[i]? = some (some (.own c))
  inj : ∀ (i j : Nat) (a : Addr), m i = some a → m j = some a → i = j
  frs : ∀ (i : Nat) (a : Addr), m i = some a → H0 a = none ∧ ¬ Z a
  zed : ∀ b, Z b → H b ≠ none
  same : Same H0 H
section
variable {K : PySem.W.Frag} {mg : Str → Option Value} {n : Nat} {Z : Addr → Prop} {H0 : Hp} {m : Nat → Option Addr} {r : Sc} {σ : L2.St} {H H' : Hp}
theorem Rel.alive (q : Rel K mg n Z H0 m r σ H) {i : Nat} {a : Addr} (h : m i = some a) : ∃ o, H a = some o := by
  obtain ⟨c, hc⟩ := q.dom i a h
  obtain ⟨a', o, h1, _, h2, _⟩ := q.own i c hc
  rw [h] at h1
  cases h1
  exact ⟨o, h2⟩
theorem Rel.grow (q : Rel K mg n Z H0 m r σ H) (s : Same H H') : Rel K mg n Z H0 m r σ H' := by
  refine ⟨q.lenr, q.lens, fun i d h => ?_, fun i c h => ?_, q.dom, q.inj, q.frs, fun b hb e => ?_, q.same.trans s⟩
  · obtain ⟨v, h1, h2⟩ := q.val i d h
    exact ⟨v, h1, h2.mono (hid_mono s)⟩
  · obtain ⟨a, o, h1, h2, h3, h4⟩ := q.own i c h
    exact ⟨a, o, h1, h2, s _ _ h3, h4.mono (hid_mono s)⟩
  · cases e2 : H b with
    | none => exact q.zed b hb e2
    | some o =>
      rw [s _ _ e2] at e
      cases e
/-- a new address is not hidden -/
theorem Rel.new (q : Rel K mg n Z H0 m r σ H) {p : Addr} (h : H p = none) : ¬ Z p ∧ ∀ i, m i ≠ some p :=
  ⟨fun z => q.zed p z h, fun i e => by
    obtain ⟨o, ho⟩ := q.alive e
    rw [h] at ho
    cases ho⟩
theorem Rel.hidNew (q : Rel K mg n Z H0 m r σ H) {p : Addr} {o : HO} (h : H p = none) : hid Z m (upd H p o) p = some o :=
  hid_of upd_same (q.new h).1 (q.new h).2
theorem same_upd {H : Hp} {p : Addr} {o : HO} (h : H p = none) : Same H (upd H p o) := fun b x e => by
  rw [upd_ne (ne_of_none e h)]
  exact e
def drp (m : Nat → Option Addr) (i : Nat) : Nat → Option Addr := fun j => if j = i then none else m j
def put (m : Nat → Option Addr) (i : Nat) (p : Addr) : Nat → Option Addr := fun j => if j = i then some p else m j
theorem drp_less {i : Nat} : ∀ j a, drp m i j = some a → ∃ k, m k = some a := fun j a e => by
  unfold drp at e
  split at e
  · cases e
  · exact ⟨j, e⟩
theorem same_drp {i : Nat} : Same (hid Z m H) (hid Z (drp m i) H) := hid_less drp_less
theorem getset {α : Type} {l : List α} {i j : Nat} {x : α} {y : α} (h : (l.set i x)[j]? = some y) : (j = i ∧ y = x) ∨ (j ≠ i ∧ l[j]? = some y) := by
  by_cases e : j = i
  · subst e
    rw [List.getElem?_set_self'] at h
    cases q : l[j]? with
    | none =>
      rw [q] at h
      cases h
    | some z =>
      rw [q] at h
      exact .inl ⟨rfl, (Option.some.inj h).symm⟩
  · rw [List.getElem?_set_ne (Ne.symm e)] at h
    exact .inr ⟨e, h⟩
/-- a slot takes a value -/
theorem Rel.setv (q : Rel K mg n Z H0 m r σ H) {i : Nat} {d : D} {v : V} (hi : i < n) (h : Rep K mg (hid Z m H) d v) : Rel K mg n Z H0 (drp m i) (r.set i (some (.val d))) (σ.set i (some v)) H := by
  refine ⟨by rw [List.length_set, q.lenr], by rw [List.length_set, q.lens], fun j e hj => ?_, fun j c hj => ?_, fun j a hj => ?_, fun j k a h1 h2 => ?_, fun j a hj => ?_, q.zed, q.same⟩
  · rcases getset hj with ⟨e1, e2⟩ | ⟨e1, e2⟩
    · subst e1
      cases e2
      exact ⟨v, List.getElem?_set_self (by rw [q.lens]; exact hi), h.mono same_drp⟩
    · obtain ⟨w, h1, h2⟩ := q.val j e e2
      exact ⟨w, by rw [List.getElem?_set_ne (Ne.symm e1)]; exact h1, h2.mono same_drp⟩
  · rcases getset hj with ⟨e1, e2⟩ | ⟨e1, e2⟩
    · cases e2
    · obtain ⟨a, o, h1, h2, h3, h4⟩ := q.own j c e2
      exact ⟨a, o, by unfold drp; rw [if_neg e1]; exact h1, by rw [List.getElem?_set_ne (Ne.symm e1)]; exact h2, h3, h4.mono same_drp⟩
  · unfold drp at hj
    split at hj
    · cases hj
    · rename_i e1
      obtain ⟨c, hc⟩ := q.dom j a hj
      exact ⟨c, by rw [List.getElem?_set_ne (Ne.symm e1)]; exact hc⟩
  · unfold drp at h1 h2
    split at h1
    · cases h1
    · split at h2
      · cases h2
      · exact q.inj j k a h1 h2
  · unfold drp at hj
    split at hj
    · cases hj
    · exact q.frs j a hj
/-- a slot takes a new thing of its own -/
theorem Rel.seto (q : Rel K mg n Z H0 m r σ H) {i : Nat} {c : Cell} {p : Addr} {o : HO} (hi : i < n) (hp : H p = none) (h : CellOk K mg (hid Z m H) o c) :
    Rel K mg n Z H0 (put m i p) (r.set i (some (.own c))) (σ.set i (some (.ref p))) (upd H p o) ∧ Same (hid Z m H) (hid Z (put m i p) (upd H p o)) := by
  have sm : Same (hid Z m H) (hid Z (put m i p) (upd H p o)) := fun b x e => by
    obtain ⟨h1, h2, h3⟩ := of_hid e
    refine hid_of (same_upd hp _ _ h1) h2 fun j ej => ?_
    unfold put at ej
    split at ej
    · cases ej
      rw [hp] at h1
      cases h1
    · exact h3 j ej
  refine ⟨⟨by rw [List.length_set, q.lenr], by rw [List.length_set, q.lens], fun j e hj => ?_, fun j c' hj => ?_, fun j a hj => ?_, fun j k a h1 h2 => ?_, fun j a hj => ?_, fun b hb e => ?_, q.same.trans (same_upd hp)⟩, sm⟩
  · rcases getset hj with ⟨e1, e2⟩ | ⟨e1, e2⟩
    · cases e2
    · obtain ⟨w, h1, h2⟩ := q.val j e e2
      exact ⟨w, by rw [List.getElem?_set_ne (Ne.symm e1)]; exact h1, h2.mono sm⟩
  · rcases getset hj with ⟨e1, e2⟩ | ⟨e1, e2⟩
    · subst e1
      cases e2
      exact ⟨p, o, by unfold put; rw [if_pos rfl], List.getElem?_set_self (by rw [q.lens]; exact hi), upd_same, h.mono sm⟩
    · obtain ⟨a, o', h1, h2, h3, h4⟩ := q.own j c' e2
      exact ⟨a, o', by unfold put; rw [if_neg e1]; exact h1, by rw [List.getElem?_set_ne (Ne.symm e1)]; exact h2, same_upd hp _ _ h3, h4.mono sm⟩
  · unfold put at hj
    split at hj
    · rename_i e1
      subst e1
      exact ⟨c, List.getElem?_set_self (by rw [q.lenr]; exact hi)⟩
    · rename_i e1
      obtain ⟨c, hc⟩ := q.dom j a hj
      exact ⟨c, by rw [List.getElem?_set_ne (Ne.symm e1)]; exact hc⟩
  · unfold put at h1 h2
    split at h1
    · rename_i e1
      cases h1
      split at h2
      · rename_i e2
        rw [e1, e2]
      · exact absurd h2 ((q.new hp).2 k)
    · split at h2
      · cases h2
        exact absurd h1 ((q.new hp).2 j)
      · exact q.inj j k a h1 h2
  · unfold put at hj
    split at hj
    · cases hj
      exact ⟨q.same.free hp, (q.new hp).1⟩
    · exact q.frs j a hj
  · by_cases eb : b = p
    · subst eb
      rw [upd_same] at e
      cases e
    · rw [upd_ne eb] at e
      exact q.zed b hb e
/-- a slot's own thing is changed -/
theorem hid_upd {i : Nat} {a : Addr} {o : HO} (h : m i = some a) : hid Z m (upd H a o) = hid Z m H := by
  funext b
  unfold hid
  split
  · rfl
  · rename_i q
    rw [upd_ne fun e => q (.inr ⟨i, by rw [h, e]⟩)]
theorem Rel.chg (q : Rel K mg n Z H0 m r σ H) {i : Nat} {c c' : Cell} {a : Addr} {o' : HO} (hc : r[i]? = some (some (.own c))) (ha : m i = some a) (h : CellOk K mg (hid Z m H) o' c') :
    Rel K mg n Z H0 m (r.set i (some (.own c'))) σ (upd H a o') := by
  refine ⟨by rw [List.length_set, q.lenr], q.lens, fun j e hj => ?_, fun j c2 hj => ?_, fun j b hj => ?_, q.inj, q.frs, fun b hb e => ?_, fun b x e => ?_⟩
  · rw [hid_upd ha]
    rcases getset hj with ⟨e1, e2⟩ | ⟨e1, e2⟩
    · cases e2
    · exact q.val j e e2
  · rw [hid_upd ha]
    rcases getset hj with ⟨e1, e2⟩ | ⟨e1, e2⟩
    · subst e1
      cases e2
      obtain ⟨a', o, h1, h2, h3, h4⟩ := q.own j c hc
      rw [ha] at h1
      cases h1
      exact ⟨a, o', ha, h2, upd_same, h⟩
    · obtain ⟨b, o, h1, h2, h3, h4⟩ := q.own j c2 e2
      have nb : b ≠ a := fun e => by
        subst e
        exact e1 (q.inj j i b h1 ha)
      exact ⟨b, o, h1, h2, by rw [upd_ne nb]; exact h3, h4⟩
  · by_cases e1 : j = i
    · subst e1
      refine ⟨c', List.getElem?_set_self ?_⟩
      exact (List.getElem?_eq_some_iff.mp hc).1
    · obtain ⟨c2, h2⟩ := q.dom j b hj
      exact ⟨c2, by rw [List.getElem?_set_ne (Ne.symm e1)]; exact h2⟩
  · by_cases eb : b = a
    · subst eb
      exact (q.frs i b ha).2 hb
    · rw [upd_ne eb] at e
      exact q.zed b hb e
  · have nb : b ≠ a := fun z => by
      subst z
      rw [(q.frs i b ha).1] at e
      cases e
    rw [upd_ne nb]
    exact q.same _ _ e
/-- a slot's own thing becomes a plain value -/
def thawed : Cell → D
  | .l xs => .lst xs
  | .d ks xs => .dct ks xs
theorem Rel.frz (q : Rel K mg n Z H0 m r σ H) {i : Nat} {c : Cell} (hc : r[i]? = some (some (.own c))) : Rel K mg n Z H0 (drp m i) (r.set i (some (.val (thawed c)))) σ H := by
  have hi : i < n := by
    rw [← q.lenr]
    exact (List.getElem?_eq_some_iff.mp hc).1
  obtain ⟨a, o, h1, h2, h3, h4⟩ := q.own i c hc
  have hv : Rep K mg (hid Z (drp m i) H) (thawed c) (.ref a) := by
    have ha : hid Z (drp m i) H a = some o := hid_of h3 (q.frs i a h1).2 fun j e => by
      unfold drp at e
      split at e
      · cases e
      · rename_i ne
        exact ne (q.inj j i a e h1)
    have h5 := h4.mono (G' := hid Z (drp m i) H) same_drp
    cases c with
    | l xs =>
      obtain ⟨vs, e, t⟩ := h5
      subst e
      simp only [thawed, Rep]
      exact ⟨a, vs, rfl, ha, t⟩
    | d ks xs =>
      obtain ⟨vs, e, l, t⟩ := h5
      subst e
      simp only [thawed, Rep]
      exact ⟨a, vs, rfl, ha, l, t⟩
  have es : σ.set i (some (.ref a)) = σ := by
    have hl : i < σ.length := by
      rw [q.lens]
      exact hi
    have e : σ[i] = some (.ref a) := by
      have := h2
      rw [List.getElem?_eq_getElem hl] at this
      exact Option.some.inj this
    rw [← e]
    exact List.set_getElem_self hl
  refine ⟨by rw [List.length_set, q.lenr], q.lens, fun j e hj => ?_, fun j c2 hj => ?_, fun j b hj => ?_, fun j k b h1 h2 => ?_, fun j b hj => ?_, q.zed, q.same⟩
  · rcases getset hj with ⟨e1, e2⟩ | ⟨e1, e2⟩
    · subst e1
      cases e2
      exact ⟨.ref a, h2, hv⟩
    · obtain ⟨w, g1, g2⟩ := q.val j e e2
      exact ⟨w, g1, g2.mono same_drp⟩
  · rcases getset hj with ⟨e1, e2⟩ | ⟨e1, e2⟩
    · cases e2
    · obtain ⟨b, o2, g1, g2, g3, g4⟩ := q.own j c2 e2
      exact ⟨b, o2, by unfold drp; rw [if_neg e1]; exact g1, g2, g3, g4.mono same_drp⟩
  · unfold drp at hj
    split at hj
    · cases hj
    · rename_i e1
      obtain ⟨c2, g⟩ := q.dom j b hj
      exact ⟨c2, by rw [List.getElem?_set_ne (Ne.symm e1)]; exact g⟩
  · unfold drp at h1 h2
    split at h1
    · cases h1
    · split at h2
      · cases h2
      · exact q.inj j k b h1 h2
  · unfold drp at hj
    split at hj
    · cases hj
    · exact q.frs j b hj
end
end QB

namespace QB
open PySem PySem.Spec PyProof.Rows L2

/-! ### what is wanted of a result -/
def ExcAt (K : PySem.W.Frag) (mg : Str → Option Value) (G : Hp) (c : Str) (ns : List Str) (xs : List D) (C : Addr) (d : Option Addr) : Prop :=
  mg c = some (.ref C) ∧ ((ns = [] ∧ xs = [] ∧ d = none) ∨ ∃ (dd : Addr) (vs : List V), d = some dd ∧ G dd = some (.xd (ns.zip vs)) ∧ ns.length = xs.length ∧ RepL K mg G xs vs)
theorem ExcAt.mono {K : PySem.W.Frag} {mg : Str → Option Value} {G G' : Hp} {c : Str} {ns : List Str} {xs : List D} {C : Addr} {d : Option Addr} (s : Same G G') (h : ExcAt K mg G c ns xs C d) : ExcAt K mg G' c ns xs C d := by
  obtain ⟨h1, h2⟩ := h
  refine ⟨h1, ?_⟩
  rcases h2 with h2 | ⟨dd, vs, e, g, l, t⟩
  · exact .inl h2
  · exact .inr ⟨dd, vs, e, s _ _ g, l, t.mono s⟩
def PostG (K : PySem.W.Frag) (mg : Str → Option Value) (Z : Addr → Prop) (m : Nat → Option Addr) (W : WX) (σ : L2.St) (H : Hp) {β : Type} (x : R β) (k : β → Prop) : Prop := match x with
  | .ok b => k b
  | .exc c ns xs => ∀ (C : Addr) (d : Option Addr) (H' : Hp), Same H H' → ExcAt K mg (hid Z m H') c ns xs C d → W (.ref C) d σ H'
  | .bad => False
section
variable {K : PySem.W.Frag} {mg : Str → Option Value} {Z : Addr → Prop} {m : Nat → Option Addr} {W : WX} {σ : L2.St} {H H' : Hp} {β γ : Type} {x : R β} {k k' : β → Prop}
theorem PostG.imp (h : PostG K mg Z m W σ H x k) (f : ∀ b, k b → k' b) : PostG K mg Z m W σ H x k' := by
  cases x with
  | ok b => exact f b h
  | exc c ns xs => exact h
  | bad => exact h
theorem PostG.grow (h : PostG K mg Z m W σ H x k) (s : Same H H') : PostG K mg Z m W σ H' x k := by
  cases x with
  | ok b => exact h
  | exc c ns xs => exact fun C d H'' s' e => h C d H'' (s.trans s') e
  | bad => exact h
theorem PostG.bind {f : β → R γ} {k : γ → Prop} (h : PostG K mg Z m W σ H (x.bind f) k) : PostG K mg Z m W σ H x (fun b => PostG K mg Z m W σ H (f b) k) := by
  cases x with
  | ok b => exact h
  | exc c ns xs => exact h
  | bad => exact h
end

/-! ### an expression's reading keeps to its mirror -/
def SimE (X : Cx) (W : WX) (te : TE) (me : ME) : Prop := ∀ (n : Nat) (Z : Addr → Prop) (H0 : Hp) (m : Nat → Option Addr) (r : Sc) (σ : L2.St) (H : Hp), Rel X.K X.mg n Z H0 m r σ H → ∀ Q : VK,
  PostG X.K X.mg Z m W σ H (me r) (fun d => ∀ (v : V) (H' : Hp), Same H H' → Rep X.K X.mg (hid Z m H') d v → Q v H') → te σ H Q
/-- the value may be a slot's own thing: it is read, not kept -/
def SimW (X : Cx) (W : WX) (te : TE) (me : ME) : Prop := ∀ (n : Nat) (Z : Addr → Prop) (H0 : Hp) (m : Nat → Option Addr) (r : Sc) (σ : L2.St) (H : Hp), Rel X.K X.mg n Z H0 m r σ H → ∀ Q : VK,
  PostG X.K X.mg Z m W σ H (me r) (fun d => ∀ (v : V) (H' : Hp), Same H H' → Rep X.K X.mg (hid Z nom H') d v → Q v H') → te σ H Q
def SimA (X : Cx) (W : WX) (ta : TA) (ma : MA) : Prop := ∀ (n : Nat) (Z : Addr → Prop) (H0 : Hp) (m : Nat → Option Addr) (r : Sc) (σ : L2.St) (H : Hp), Rel X.K X.mg n Z H0 m r σ H → ∀ Q : List V → Hp → Prop,
  PostG X.K X.mg Z m W σ H (ma r) (fun ds => ∀ (vs : List V) (H' : Hp), Same H H' → RepL X.K X.mg (hid Z m H') ds vs → Q vs H') → ta σ H Q
def SimAW (X : Cx) (W : WX) (ta : TA) (ma : MA) : Prop := ∀ (n : Nat) (Z : Addr → Prop) (H0 : Hp) (m : Nat → Option Addr) (r : Sc) (σ : L2.St) (H : Hp), Rel X.K X.mg n Z H0 m r σ H → ∀ Q : List V → Hp → Prop,
  PostG X.K X.mg Z m W σ H (ma r) (fun ds => ∀ (vs : List V) (H' : Hp), Same H H' → RepL X.K X.mg (hid Z nom H') ds vs → Q vs H') → ta σ H Q
def SimT (X : Cx) (W : WX) (tt : TT) (mt : MT) : Prop := ∀ (n : Nat) (Z : Addr → Prop) (H0 : Hp) (m : Nat → Option Addr) (r : Sc) (σ : L2.St) (H : Hp), Rel X.K X.mg n Z H0 m r σ H → ∀ Q : Bool → Hp → Prop,
  PostG X.K X.mg Z m W σ H (mt r) (fun b => ∀ (H' : Hp), Same H H' → Q b H') → tt σ H Q
/-- the value is a new thing -/
def SimF (X : Cx) (W : WX) (te : TE) (mf : MF) : Prop := ∀ (n : Nat) (Z : Addr → Prop) (H0 : Hp) (m : Nat → Option Addr) (r : Sc) (σ : L2.St) (H : Hp), Rel X.K X.mg n Z H0 m r σ H → ∀ Q : VK,
  PostG X.K X.mg Z m W σ H (mf r) (fun c => ∀ (p : Addr) (o : HO) (H' : Hp), Same H H' → H' p = none → CellOk X.K X.mg (hid Z m H') o c → Q (.ref p) (upd H' p o)) → te σ H Q
structure EE (X : Cx) (W : WX) (e : Expr) (me : ME) : Prop where
  ex : ∃ te, PE X e te ∧ SimE X W te me
structure EW (X : Cx) (W : WX) (e : Expr) (me : ME) : Prop where
  ex : ∃ te, PE X e te ∧ SimW X W te me
structure EA (X : Cx) (W : WX) (es : List Expr) (ma : MA) : Prop where
  ex : ∃ ta, PA X es ta ∧ SimA X W ta ma
structure EAW (X : Cx) (W : WX) (es : List Expr) (ma : MA) : Prop where
  ex : ∃ ta, PA X es ta ∧ SimAW X W ta ma
structure ET (X : Cx) (W : WX) (e : Expr) (mt : MT) : Prop where
  ex : ∃ tt, PT X e tt ∧ SimT X W tt mt
structure EV2 (X : Cx) (W : WX) (e : Expr) (mt : MT) : Prop where
  ex : ∃ tt, PW X e tt ∧ SimT X W tt mt
structure EF (X : Cx) (W : WX) (e : Expr) (mf : MF) : Prop where
  ex : ∃ te, PE X e te ∧ SimF X W te mf
section
variable {X : Cx} {W : WX} {e : Expr} {es : List Expr} {me : ME} {ma : MA} {mf : MF} {te : TE} {ta : TA}
theorem EE.w (h : EE X W e me) : EW X W e me := by
  obtain ⟨te, h1, h2⟩ := h.ex
  exact ⟨te, h1, fun n Z H0 m r σ H q Q p => h2 n Z H0 m r σ H q Q (p.imp fun d k v H' s t => k v H' s (t.mono hid_nom))⟩
theorem EA.w (h : EA X W es ma) : EAW X W es ma := by
  obtain ⟨te, h1, h2⟩ := h.ex
  exact ⟨te, h1, fun n Z H0 m r σ H q Q p => h2 n Z H0 m r σ H q Q (p.imp fun d k v H' s t => k v H' s (t.mono hid_nom))⟩
def mCellE (mf : MF) : ME := fun r => (mf r).bind fun c => .ok (thawed c)
theorem CellOk.rep {K : PySem.W.Frag} {mg : Str → Option Value} {G : Hp} {a : Addr} {o : HO} {c : Cell} (h : CellOk K mg G o c) (ha : G a = some o) : Rep K mg G (thawed c) (.ref a) := by
  cases c with
  | l xs =>
    obtain ⟨vs, e, t⟩ := h
    subst e
    simp only [thawed, Rep]
    exact ⟨a, vs, rfl, ha, t⟩
  | d ks xs =>
    obtain ⟨vs, e, l, t⟩ := h
    subst e
    simp only [thawed, Rep]
    exact ⟨a, vs, rfl, ha, l, t⟩
theorem EF.toE (h : EF X W e mf) : EE X W e (mCellE mf) := by
  obtain ⟨te, h1, h2⟩ := h.ex
  refine ⟨te, h1, fun n Z H0 m r σ H q Q p => h2 n Z H0 m r σ H q Q (p.bind.imp fun c k b o H' s e t => ?_)⟩
  have q' := q.grow s
  exact k (.ref b) (upd H' b o) (s.trans (same_upd e)) ((t.mono (hid_mono (same_upd e))).rep (q'.hidNew e))

/-! ### names, constants -/
def mVar (i : Nat) : ME := fun r => match r[i]? with
  | some (some (.val d)) => .ok d
  | _ => .bad
def mVarW (i : Nat) : ME := fun r => match r[i]? with
  | some (some (.val d)) => .ok d
  | some (some (.own c)) => .ok (thawed c)
  | _ => .bad
def mC (d : D) : ME := fun _ => .ok d
theorem SimE.var (i : Nat) : SimE X W (tVar i) (mVar i) := fun n Z H0 m r σ H q Q p => by
  unfold mVar at p
  split at p
  · rename_i d e
    obtain ⟨v, h1, h2⟩ := q.val i d e
    exact ⟨v, h1, p v H (Same.refl H) h2⟩
  · exact False.elim p
theorem SimW.var (i : Nat) : SimW X W (tVar i) (mVarW i) := fun n Z H0 m r σ H q Q p => by
  unfold mVarW at p
  split at p
  · rename_i d e
    obtain ⟨v, h1, h2⟩ := q.val i d e
    exact ⟨v, h1, p v H (Same.refl H) (h2.mono hid_nom)⟩
  · rename_i c e
    obtain ⟨a, o, h1, h2, h3, h4⟩ := q.own i c e
    refine ⟨.ref a, h2, p (.ref a) H (Same.refl H) ((h4.mono hid_nom).rep (hid_of h3 (q.frs i a h1).2 fun j e => by cases e))⟩
  · exact False.elim p
theorem SimE.const {d : D} {v : V} (h : ∀ G, Rep X.K X.mg G d v) : SimE X W (tC v) (mC d) := fun n Z H0 m r σ H q Q p => p v H (Same.refl H) (h _)
theorem ee_var (i : Nat) {x : Str} {pos : Pos} (hN : X.N[i]? = some x := by rfl) (hv : Vis X.env.scope x := by first | exact Or.inl rfl | exact Or.inr (Or.inl rfl) | exact Or.inr (Or.inr rfl)) (hd : (x == ("__debug__" : Str)) = false := by decide)
    (hcd : (x == ("__classdict__" : Str)) = false := by decide) : EE X W (.Name x pos) (mVar i) := ⟨_, pv i hN hv hd hcd, SimE.var i⟩
theorem ew_var (i : Nat) {x : Str} {pos : Pos} (hN : X.N[i]? = some x := by rfl) (hv : Vis X.env.scope x := by first | exact Or.inl rfl | exact Or.inr (Or.inl rfl) | exact Or.inr (Or.inr rfl)) (hd : (x == ("__debug__" : Str)) = false := by decide)
    (hcd : (x == ("__classdict__" : Str)) = false := by decide) : EW X W (.Name x pos) (mVarW i) := ⟨_, pv i hN hv hd hcd, SimW.var i⟩
theorem ee_int {i : Int} {j pos} : EE X W (.Constant (.int i) j pos) (mC (.int i)) := ⟨_, pe_int, SimE.const fun _ => by simp [Rep]⟩
theorem ee_bl {b : Bool} {j pos} : EE X W (.Constant (.bool b) j pos) (mC (.bl b)) := ⟨_, pe_bl, SimE.const fun _ => by simp [Rep]⟩
theorem ee_non {j pos} : EE X W (.Constant .none j pos) (mC .non) := ⟨_, pe_non, SimE.const fun _ => by simp [Rep]⟩
theorem ee_str {s : Str} {j pos} : EE X W (.Constant (.str s) j pos) (mC (.str s)) := ⟨_, pe_str, SimE.const fun _ => by simp [Rep]⟩
/-- a module's name: a constant -/
theorem ee_glob {x : Str} {pos : Pos} {u : Value} {v : V} {d : D} (hg : Gl X x) (hm : X.mg x = some u) (hr : RelV v u) (h : ∀ G, Rep X.K X.mg G d v) (hdb : (x == ("__debug__" : Str)) = false := by decide) : EE X W (.Name x pos) (mC d) := ⟨_, pe_glob hg hm hr hdb, SimE.const h⟩
end
end QB

namespace QB
open PySem PySem.Spec PyProof.Rows L2

/-! ### operators by values -/
def mBin (f : D → D → R D) (ma mb : ME) : ME := fun r => (ma r).bind fun a => (mb r).bind fun b => f a b
def OpS (X : Cx) (W : WX) (rr : R2) (f : D → D → R D) : Prop := ∀ (n : Nat) (Z : Addr → Prop) (H0 : Hp) (m : Nat → Option Addr) (r : Sc) (σ : L2.St) (H : Hp), Rel X.K X.mg n Z H0 m r σ H → ∀ (a b : D) (x y : V) (Q : VK),
  Rep X.K X.mg (hid Z m H) a x → Rep X.K X.mg (hid Z m H) b y → PostG X.K X.mg Z m W σ H (f a b) (fun d => ∀ (v : V) (H' : Hp), Same H H' → Rep X.K X.mg (hid Z m H') d v → Q v H') → rr x y H Q
/-- operands that are read only, the answer a plain value -/
def OpW (X : Cx) (W : WX) (rr : R2) (f : D → D → R D) : Prop := ∀ (n : Nat) (Z : Addr → Prop) (H0 : Hp) (m : Nat → Option Addr) (r : Sc) (σ : L2.St) (H : Hp), Rel X.K X.mg n Z H0 m r σ H → ∀ (a b : D) (x y : V) (Q : VK),
  Rep X.K X.mg (hid Z nom H) a x → Rep X.K X.mg (hid Z nom H) b y → PostG X.K X.mg Z m W σ H (f a b) (fun d => ∀ (v : V) (H' : Hp), Same H H' → Rep X.K X.mg (hid Z m H') d v → Q v H') → rr x y H Q
section
variable {X : Cx} {W : WX} {a b e : Expr} {es : List Expr} {ma mb : ME} {ta tb te : TE} {pos : Pos} {f : D → D → R D} {rr : R2}
theorem SimE.op (ha : SimE X W ta ma) (hb : SimE X W tb mb) (ho : OpS X W rr f) : SimE X W (tOp rr ta tb) (mBin f ma mb) := fun n Z H0 m r σ H q Q p => by
  unfold mBin at p
  refine ha n Z H0 m r σ H q _ (p.bind.imp fun d k x H1 s1 rx => ?_)
  refine hb n Z H0 m r σ H1 (q.grow s1) _ ((k.grow s1).bind.imp fun e k2 y H2 s2 ry => ?_)
  exact ho n Z H0 m r σ H2 ((q.grow s1).grow s2) d e x y Q (rx.mono (hid_mono s2)) ry ((k2.grow s2).imp fun d' k3 v H' s3 rv => k3 v H' (s1.trans (s2.trans s3)) rv)
theorem SimE.opw (ha : SimW X W ta ma) (hb : SimW X W tb mb) (ho : OpW X W rr f) : SimE X W (tOp rr ta tb) (mBin f ma mb) := fun n Z H0 m r σ H q Q p => by
  unfold mBin at p
  refine ha n Z H0 m r σ H q _ (p.bind.imp fun d k x H1 s1 rx => ?_)
  refine hb n Z H0 m r σ H1 (q.grow s1) _ ((k.grow s1).bind.imp fun e k2 y H2 s2 ry => ?_)
  exact ho n Z H0 m r σ H2 ((q.grow s1).grow s2) d e x y Q (rx.mono (hid_mono s2)) ry ((k2.grow s2).imp fun d' k3 v H' s3 rv => k3 v H' (s1.trans (s2.trans s3)) rv)
end
/-! the operators -/
def dAdd : D → D → R D
  | .int i, .int j => .ok (.int (i + j))
  | .str s, .str t => if s.length + t.length ≤ sizeLine then .ok (.str (s ++ t)) else .bad
  | .lst xs, .lst ys => if xs.length + ys.length ≤ sizeLine then .ok (.lst (xs ++ ys)) else .bad
  | .tup xs, .tup ys => if xs.length + ys.length ≤ sizeLine then .ok (.tup (xs ++ ys)) else .bad
  | _, _ => .bad
def dSub : D → D → R D
  | .int i, .int j => .ok (.int (i - j))
  | _, _ => .bad
def dMul : D → D → R D
  | .int i, .int j => if Builtin.Int.intBits i + Builtin.Int.intBits j ≤ 134217728 then .ok (.int (i * j)) else .bad
  | .lst xs, .int k => if k < 9223372036854775808 ∧ -9223372036854775808 ≤ k ∧ xs.length * k.toNat ≤ sizeLine then .ok (.lst (List.replicate k.toNat xs).flatten) else .bad
  | _, _ => .bad
def dMod : D → D → R D
  | .int i, .int j => if 0 < j then .ok (.int (i % j)) else .bad
  | _, _ => .bad
def dDiv : D → D → R D
  | .int i, .int j => if 0 < j ∧ j.natAbs.log2 < 9000 then .ok (.int (i / j)) else .bad
  | _, _ => .bad
def dPow : D → D → R D
  | .int i, .int j => if 0 ≤ j ∧ j ≤ 1000000 ∧ i.natAbs < 18446744073709551616 then .ok (.int (i ^ j.toNat)) else .bad
  | _, _ => .bad
def rAddS (K : PySem.W.Frag) : R2 := fun x y H Q => (rI0 fun i j => V.int (i + j)) x y H Q ∨ ((∃ i j, x = .str i ∧ y = .str j ∧ i.length + j.length ≤ sizeLine ∧ Q (.str (i ++ j)) H) ∨ (rCat x y H Q ∨ rCatA K x y H Q))
def rMulS : R2 := fun x y H Q => (rI CMulX fun i j => V.int (i * j)) x y H Q ∨ rRep x y H Q
section
variable {X : Cx} {W : WX} {a b e : Expr} {es : List Expr} {ma mb : ME} {ta tb te : TE} {pos : Pos}
theorem ops_add : OpS X W (rAddS X.K) dAdd := fun n Z H0 m r σ H q a b x y Q ha hb p => by
  cases a <;> cases b <;> try exact False.elim p
  · simp only [Rep] at ha hb
    subst ha hb
    exact .inl ⟨_, _, rfl, rfl, p _ H (Same.refl H) (by simp [Rep])⟩
  · rename_i s t
    simp only [Rep] at ha hb
    subst ha hb
    simp only [dAdd] at p
    split at p
    · rename_i h
      exact .inr (.inl ⟨_, _, rfl, rfl, h, p _ H (Same.refl H) (by simp [Rep])⟩)
    · exact False.elim p
  · rename_i xs ys
    simp only [Rep] at ha hb
    obtain ⟨a1, v1, rfl, h1, t1⟩ := ha
    obtain ⟨a2, v2, rfl, h2, t2⟩ := hb
    simp only [dAdd] at p
    split at p
    · rename_i h
      have hl : v1.length + v2.length ≤ sizeLine := by rw [t1.length, t2.length]; exact h
      refine .inr (.inr (.inr ⟨a1, a2, v1, v2, rfl, rfl, Same.seqT hid_sub h1, Same.seqT hid_sub h2, hl, fun e => ?_, fun e1 e2 => ?_, fun e1 e2 c hc => ?_⟩))
      · refine p _ H (Same.refl H) ?_
        have l := t1.length
        rw [e] at l
        have : xs = [] := List.length_eq_zero_iff.mp l.symm
        subst this
        simp only [Rep]
        exact ⟨a2, v2, rfl, h2, t2⟩
      · refine p _ H (Same.refl H) ?_
        have l := t2.length
        rw [e2] at l
        have : ys = [] := List.length_eq_zero_iff.mp l.symm
        subst this
        simp only [Rep, List.append_nil]
        exact ⟨a1, v1, rfl, h1, t1⟩
      · refine p _ _ (same_upd hc) ?_
        simp only [Rep]
        exact ⟨c, _, rfl, .inl (.inl (q.hidNew hc)), (t1.append t2).mono (hid_mono (same_upd hc))⟩
    · exact False.elim p
  · rename_i xs ys
    simp only [Rep] at ha hb
    obtain ⟨a1, v1, rfl, h1, t1⟩ := ha
    obtain ⟨a2, v2, rfl, h2, t2⟩ := hb
    simp only [dAdd] at p
    split at p
    · rename_i h
      have hl : v1.length + v2.length ≤ sizeLine := by rw [t1.length, t2.length]; exact h
      refine .inr (.inr (.inl ⟨a1, a2, v1, v2, rfl, rfl, hid_sub _ _ h1, hid_sub _ _ h2, hl, fun c hc => p _ _ (same_upd hc) ?_⟩))
      simp only [Rep]
      exact ⟨c, _, rfl, q.hidNew hc, (t1.append t2).mono (hid_mono (same_upd hc))⟩
    · exact False.elim p
theorem ee_add (ha : EE X W a ma) (hb : EE X W b mb) : EE X W (.BinOp a .Add b pos) (mBin dAdd ma mb) := by
  obtain ⟨ta, h1, h2⟩ := ha.ex
  obtain ⟨tb, h3, h4⟩ := hb.ex
  exact ⟨_, pe_op (OpR.or op_add (OpR.or op_add_str (OpR.or op_cat op_catA))) h1 h3, h2.op h4 ops_add⟩
/-- ints alone -/
theorem ops_int {C : Int → Int → Prop} {g : Int → Int → Int} {f : D → D → R D} (h0 : ∀ a b, (∃ i j, a = D.int i ∧ b = D.int j) ∨ f a b = .bad) (h1 : ∀ i j, (C i j ∧ f (.int i) (.int j) = .ok (.int (g i j))) ∨ f (.int i) (.int j) = .bad) : OpS X W (rI C fun i j => V.int (g i j)) f := fun n Z H0 m r σ H q a b x y Q ha hb p => by
  rcases h0 a b with ⟨i, j, rfl, rfl⟩ | e
  · simp only [Rep] at ha hb
    subst ha hb
    rcases h1 i j with ⟨hc, e⟩ | e
    · rw [e] at p
      exact ⟨i, j, rfl, rfl, hc, p _ H (Same.refl H) (by simp [Rep])⟩
    · rw [e] at p
      exact False.elim p
  · rw [e] at p
    exact False.elim p
theorem ops_sub : OpS X W (rI0 fun i j => V.int (i - j)) dSub := fun n Z H0 m r σ H q a b x y Q ha hb p => by
  cases a <;> cases b <;> try exact False.elim p
  simp only [Rep] at ha hb
  subst ha hb
  exact ⟨_, _, rfl, rfl, p _ H (Same.refl H) (by simp [Rep])⟩
theorem ee_sub (ha : EE X W a ma) (hb : EE X W b mb) : EE X W (.BinOp a .Sub b pos) (mBin dSub ma mb) := by
  obtain ⟨ta, h1, h2⟩ := ha.ex
  obtain ⟨tb, h3, h4⟩ := hb.ex
  exact ⟨_, pe_op op_sub h1 h3, h2.op h4 ops_sub⟩
theorem ops_mod : OpS X W (rI (fun _ j => 0 < j) fun i j => V.int (i % j)) dMod := ops_int (fun a b => by cases a <;> cases b <;> simp [dMod]) fun i j => by
  simp only [dMod]
  split
  · exact .inl ⟨‹_›, rfl⟩
  · exact .inr rfl
theorem ee_mod (ha : EE X W a ma) (hb : EE X W b mb) : EE X W (.BinOp a .Mod b pos) (mBin dMod ma mb) := by
  obtain ⟨ta, h1, h2⟩ := ha.ex
  obtain ⟨tb, h3, h4⟩ := hb.ex
  exact ⟨_, pe_op op_mod h1 h3, h2.op h4 ops_mod⟩
theorem ops_div : OpS X W (rI CDivW fun i j => V.int (i / j)) dDiv := ops_int (fun a b => by cases a <;> cases b <;> simp [dDiv]) fun i j => by
  simp only [dDiv]
  split
  · exact .inl ⟨‹_›, rfl⟩
  · exact .inr rfl
theorem ee_div (ha : EE X W a ma) (hb : EE X W b mb) : EE X W (.BinOp a .FloorDiv b pos) (mBin dDiv ma mb) := by
  obtain ⟨ta, h1, h2⟩ := ha.ex
  obtain ⟨tb, h3, h4⟩ := hb.ex
  exact ⟨_, pe_op op_fdivW h1 h3, h2.op h4 ops_div⟩
theorem ops_pow : OpS X W (rI CPow fun i j => V.int (i ^ j.toNat)) dPow := ops_int (fun a b => by cases a <;> cases b <;> simp [dPow]) fun i j => by
  simp only [dPow]
  split
  · exact .inl ⟨‹_›, rfl⟩
  · exact .inr rfl
theorem ee_pow (ha : EE X W a ma) (hb : EE X W b mb) : EE X W (.BinOp a .Pow b pos) (mBin dPow ma mb) := by
  obtain ⟨ta, h1, h2⟩ := ha.ex
  obtain ⟨tb, h3, h4⟩ := hb.ex
  exact ⟨_, pe_op op_pow h1 h3, h2.op h4 ops_pow⟩
theorem RepL.rep {K : PySem.W.Frag} {mg : Str → Option Value} {G : Hp} {ds : List D} {vs : List V} (h : RepL K mg G ds vs) : ∀ k : Nat, RepL K mg G (List.replicate k ds).flatten (List.replicate k vs).flatten
  | 0 => by simp [RepL]
  | k + 1 => by
    rw [List.replicate_succ, List.replicate_succ, List.flatten_cons, List.flatten_cons]
    exact h.append (RepL.rep h k)
theorem ops_mul : OpS X W rMulS dMul := fun n Z H0 m r σ H q a b x y Q ha hb p => by
  cases a <;> cases b <;> try exact False.elim p
  · simp only [Rep] at ha hb
    subst ha hb
    simp only [dMul] at p
    split at p
    · rename_i h
      exact .inl ⟨_, _, rfl, rfl, (by unfold CMulX; omega), p _ H (Same.refl H) (by simp [Rep])⟩
    · exact False.elim p
  · rename_i xs k
    simp only [Rep] at ha hb
    obtain ⟨a1, v1, rfl, h1, t1⟩ := ha
    subst hb
    simp only [dMul] at p
    split at p
    · rename_i h
      obtain ⟨h3, h4, h5⟩ := h
      refine .inr ⟨a1, k, v1, rfl, rfl, hid_sub _ _ h1, by simpa using h4, by simpa using h3, by rw [t1.length]; exact h5, fun c hc => p _ _ (same_upd hc) ?_⟩
      simp only [Rep]
      exact ⟨c, _, rfl, q.hidNew hc, (t1.rep k.toNat).mono (hid_mono (same_upd hc))⟩
    · exact False.elim p
theorem ee_mul (ha : EE X W a ma) (hb : EE X W b mb) : EE X W (.BinOp a .Mult b pos) (mBin dMul ma mb) := by
  obtain ⟨ta, h1, h2⟩ := ha.ex
  obtain ⟨tb, h3, h4⟩ := hb.ex
  exact ⟨_, pe_op (OpR.or op_mulX op_rep) h1 h3, h2.op h4 ops_mul⟩
def mNeg (ma : ME) : ME := fun r => (ma r).bind fun d => match d with
  | .int i => .ok (.int (-i))
  | _ => .bad
theorem ee_neg (ha : EE X W a ma) : EE X W (.UnaryOp .USub a pos) (mNeg ma) := by
  obtain ⟨ta, h1, h2⟩ := ha.ex
  refine ⟨_, pe_un un_neg h1, fun n Z H0 m r σ H q Q p => h2 n Z H0 m r σ H q _ (p.bind.imp fun d k x H1 s1 rx => ?_)⟩
  cases d <;> try exact False.elim k
  simp only [Rep] at rx
  subst rx
  exact ⟨_, rfl, k _ H1 s1 (by simp [Rep])⟩

/-! ### comparisons -/
def flatD : D → Option V
  | .non => some .non
  | .bl b => some (.bl b)
  | .int i => some (.int i)
  | .str s => some (.str s)
  | _ => none
theorem flatD_rep {K : PySem.W.Frag} {mg : Str → Option Value} {G : Hp} {d : D} {v x : V} (h : flatD d = some v) (r : Rep K mg G d x) : x = v := by
  cases d <;> simp only [flatD, Option.some.injEq, reduceCtorEq] at h <;> simp only [Rep] at r <;> rw [r, h]
mutual
def toPy : D → Option PyData
  | .non => some .none
  | .bl b => some (.bool b)
  | .int i => some (.int i)
  | .str s => some (.str s)
  | .tup xs => (toPyL xs).map .tuple
  | .lst xs => (toPyL xs).map .list
  | .slst xs => (toPyL xs).map .list
  | .ins _ _ _ => none
  | .dct _ _ => none
def toPyL : List D → Option (List PyData)
  | [] => some []
  | d :: ds => (toPy d).bind fun p => (toPyL ds).map fun ps => p :: ps
end
mutual
theorem dp_of {K : PySem.W.Frag} {mg : Str → Option Value} {G : Hp} : ∀ (d : D) (v : V) (p : PyData), Rep K mg G d v → toPy d = some p → Dp K G v p
  | .non, v, p, h, e => by
    simp only [Rep] at h
    simp only [toPy, Option.some.injEq] at e
    subst h e
    exact .non
  | .bl b, v, p, h, e => by
    simp only [Rep] at h
    simp only [toPy, Option.some.injEq] at e
    subst h e
    exact .bl b
  | .int i, v, p, h, e => by
    simp only [Rep] at h
    simp only [toPy, Option.some.injEq] at e
    subst h e
    exact .int i
  | .str s, v, p, h, e => by
    simp only [Rep] at h
    simp only [toPy, Option.some.injEq] at e
    subst h e
    exact .str s
  | .tup xs, v, p, h, e => by
    simp only [Rep] at h
    obtain ⟨a, vs, rfl, h1, t⟩ := h
    simp only [toPy, Option.map_eq_some_iff] at e
    obtain ⟨ps, e, rfl⟩ := e
    exact .tup h1 (dp_ofL xs vs ps t e)
  | .lst xs, v, p, h, e => by
    simp only [Rep] at h
    obtain ⟨a, vs, rfl, h1, t⟩ := h
    simp only [toPy, Option.map_eq_some_iff] at e
    obtain ⟨ps, e, rfl⟩ := e
    exact .lst (.inl (.inl h1)) (dp_ofL xs vs ps t e)
  | .slst xs, v, p, h, e => by
    simp only [Rep] at h
    obtain ⟨a, vs, rfl, h1, t⟩ := h
    simp only [toPy, Option.map_eq_some_iff] at e
    obtain ⟨ps, e, rfl⟩ := e
    exact .lst h1 (dp_ofL xs vs ps t e)
  | .ins _ _ _, v, p, h, e => by simp [toPy] at e
  | .dct _ _, v, p, h, e => by simp [toPy] at e
theorem dp_ofL {K : PySem.W.Frag} {mg : Str → Option Value} {G : Hp} : ∀ (ds : List D) (vs : List V) (ps : List PyData), RepL K mg G ds vs → toPyL ds = some ps → DpAll K G vs ps
  | [], vs, ps, h, e => by
    simp only [RepL] at h
    simp only [toPyL, Option.some.injEq] at e
    subst h e
    exact .nil
  | d :: ds, vs, ps, h, e => by
    simp only [RepL] at h
    obtain ⟨v, us, rfl, r, t⟩ := h
    simp only [toPyL, Option.bind_eq_some_iff, Option.map_eq_some_iff] at e
    obtain ⟨p, e1, qs, e2, rfl⟩ := e
    exact .cons (dp_of d v p r e1) (dp_ofL ds us qs t e2)
end
/-- == of data -/
def dEqB (a b : D) : R Bool := match flatD a, flatD b with
  | some x, some y => if scal x y = true then .ok (decide (x = y)) else .bad
  | _, _ => match toPy a, toPy b with
    | some p, some q => if SeqAt.shaped p = true ∧ SeqAt.shaped q = true then .ok (PyData.eqv p q) else .bad
    | _, _ => .bad
def dEq (a b : D) : R D := (dEqB a b).bind fun c => .ok (.bl c)
def dNe (a b : D) : R D := (dEqB a b).bind fun c => .ok (.bl (!c))
theorem dEqB_cases {K : PySem.W.Frag} {mg : Str → Option Value} {G : Hp} {a b : D} {x y : V} (ha : Rep K mg G a x) (hb : Rep K mg G b y) : (∃ c, dEqB a b = .ok c ∧ ((scal x y = true ∧ c = decide (x = y)) ∨ ∃ p q, Dp K G x p ∧ Dp K G y q ∧ SeqAt.shaped p = true ∧ SeqAt.shaped q = true ∧ c = PyData.eqv p q)) ∨ dEqB a b = .bad := by
  unfold dEqB
  split
  · rename_i u v e1 e2
    have := flatD_rep e1 ha
    have := flatD_rep e2 hb
    subst x y
    split
    · exact .inl ⟨_, rfl, .inl ⟨‹_›, rfl⟩⟩
    · exact .inr rfl
  · split
    · rename_i p q e1 e2
      split
      · rename_i h
        exact .inl ⟨_, rfl, .inr ⟨p, q, dp_of _ _ _ ha e1, dp_of _ _ _ hb e2, h.1, h.2, rfl⟩⟩
      · exact .inr rfl
    · exact .inr rfl
mutual
theorem Dp.mono {K : PySem.W.Frag} {G G' : Hp} (s : Same G G') : ∀ (p : PyData) (v : V), Dp K G v p → Dp K G' v p
  | .none, _, h => by cases h; exact .non
  | .bool b, _, h => by cases h; exact .bl b
  | .int i, _, h => by cases h; exact .int i
  | .str x, _, h => by cases h; exact .str x
  | .list ds, _, h => by
    cases h with
    | lst h1 h2 => exact .lst (Same.seq s h1) (DpAll.mono s ds _ h2)
  | .tuple ds, _, h => by
    cases h with
    | tup h1 h2 => exact .tup (Same.seqT s h1) (DpAll.mono s ds _ h2)
  | .dict _, _, h => by cases h
theorem DpAll.mono {K : PySem.W.Frag} {G G' : Hp} (s : Same G G') : ∀ (ps : List PyData) (vs : List V), DpAll K G vs ps → DpAll K G' vs ps
  | [], _, h => by cases h; exact .nil
  | p :: ps, _, h => by
    cases h with
    | cons h1 h2 => exact .cons (Dp.mono s p _ h1) (DpAll.mono s ps _ h2)
end
def rEqS (K : PySem.W.Frag) : R2 := fun x y H Q => rEq x y H Q ∨ rEqD K x y H Q
def rNeS (K : PySem.W.Frag) : R2 := fun x y H Q => rNe x y H Q ∨ rNeD K x y H Q
theorem opw_eq : OpW X W (rEqS X.K) dEq := fun n Z H0 m r σ H q a b x y Q ha hb p => by
  unfold dEq at p
  rcases dEqB_cases ha hb with ⟨c, e, h⟩ | e
  · rw [e] at p
    rcases h with ⟨h1, h2⟩ | ⟨p1, q1, h1, h2, h3, h4, h5⟩
    · subst h2
      exact .inl ⟨h1, p _ H (Same.refl H) (by simp [Rep])⟩
    · subst h5
      exact .inr ⟨p1, q1, Dp.mono hid_sub _ _ h1, Dp.mono hid_sub _ _ h2, h3, h4, p _ H (Same.refl H) (by simp [Rep])⟩
  · rw [e] at p
    exact False.elim p
theorem opw_ne : OpW X W (rNeS X.K) dNe := fun n Z H0 m r σ H q a b x y Q ha hb p => by
  unfold dNe at p
  rcases dEqB_cases ha hb with ⟨c, e, h⟩ | e
  · rw [e] at p
    rcases h with ⟨h1, h2⟩ | ⟨p1, q1, h1, h2, h3, h4, h5⟩
    · subst h2
      exact .inl ⟨h1, p _ H (Same.refl H) (by simp [Rep])⟩
    · subst h5
      exact .inr ⟨p1, q1, Dp.mono hid_sub _ _ h1, Dp.mono hid_sub _ _ h2, h3, h4, p _ H (Same.refl H) (by simp [Rep])⟩
  · rw [e] at p
    exact False.elim p
def dCmp (g : Int → Int → Bool) : D → D → R D
  | .int i, .int j => .ok (.bl (g i j))
  | _, _ => .bad
theorem opw_cmp {g : Int → Int → Bool} : OpW X W (rI0 fun i j => V.bl (g i j)) (dCmp g) := fun n Z H0 m r σ H q a b x y Q ha hb p => by
  cases a <;> cases b <;> try exact False.elim p
  simp only [Rep] at ha hb
  subst ha hb
  exact ⟨_, _, rfl, rfl, p _ H (Same.refl H) (by simp [Rep])⟩
/-- is None, True, False -/
def dIs : D → D → R D
  | .non, .non => .ok (.bl true)
  | .bl _, .non => .ok (.bl false)
  | .int _, .non => .ok (.bl false)
  | .str _, .non => .ok (.bl false)
  | .tup _, .non => .ok (.bl false)
  | .lst _, .non => .ok (.bl false)
  | .slst _, .non => .ok (.bl false)
  | .ins _ _ _, .non => .ok (.bl false)
  | .dct _ _, .non => .ok (.bl false)
  | .bl a, .bl b => .ok (.bl (decide (a = b)))
  | _, _ => .bad
def dIsNot (a b : D) : R D := (dIs a b).bind fun d => match d with
  | .bl c => .ok (.bl (!c))
  | _ => .bad
def rIsS : R2 := fun x y H Q => (y = .non ∧ Q (.bl (decide (x = .non))) H) ∨ ∃ a b, x = .bl a ∧ y = .bl b ∧ Q (.bl (decide (a = b))) H
def rIsNotS : R2 := fun x y H Q => (y = .non ∧ Q (.bl (!decide (x = .non))) H) ∨ ∃ a b, x = .bl a ∧ y = .bl b ∧ Q (.bl (!decide (a = b))) H
theorem dIs_cases {K : PySem.W.Frag} {mg : Str → Option Value} {G : Hp} {a b : D} {x y : V} (ha : Rep K mg G a x) (hb : Rep K mg G b y) : (∃ c, dIs a b = .ok (.bl c) ∧ ((y = .non ∧ c = decide (x = .non)) ∨ ∃ a b, x = .bl a ∧ y = .bl b ∧ c = decide (a = b))) ∨ dIs a b = .bad := by
  cases b <;> cases a <;> (try exact .inr rfl)
  all_goals simp only [Rep] at ha hb
  all_goals first
    | (obtain ⟨a1, C, dx, vs, rfl, _⟩ := ha; subst hb; exact .inl ⟨_, rfl, .inl ⟨rfl, rfl⟩⟩)
    | (obtain ⟨a1, vs, rfl, _⟩ := ha; subst hb; exact .inl ⟨_, rfl, .inl ⟨rfl, rfl⟩⟩)
    | (subst ha hb; exact .inl ⟨_, rfl, .inl ⟨rfl, by simp⟩⟩)
    | (subst ha hb; exact .inl ⟨_, rfl, .inr ⟨_, _, rfl, rfl, rfl⟩⟩)
theorem opw_is : OpW X W rIsS dIs := fun n Z H0 m r σ H q a b x y Q ha hb p => by
  rcases dIs_cases ha hb with ⟨c, e, h⟩ | e
  · rw [e] at p
    rcases h with ⟨h1, h2⟩ | ⟨a, b, h1, h2, h3⟩
    · subst h2
      exact .inl ⟨h1, p _ H (Same.refl H) (by simp [Rep])⟩
    · subst h3
      exact .inr ⟨a, b, h1, h2, p _ H (Same.refl H) (by simp [Rep])⟩
  · rw [e] at p
    exact False.elim p
theorem opw_isNot : OpW X W rIsNotS dIsNot := fun n Z H0 m r σ H q a b x y Q ha hb p => by
  unfold dIsNot at p
  rcases dIs_cases ha hb with ⟨c, e, h⟩ | e
  · rw [e] at p
    rcases h with ⟨h1, h2⟩ | ⟨a, b, h1, h2, h3⟩
    · subst h2
      exact .inl ⟨h1, p _ H (Same.refl H) (by simp [Rep])⟩
    · subst h3
      exact .inr ⟨a, b, h1, h2, p _ H (Same.refl H) (by simp [Rep])⟩
  · rw [e] at p
    exact False.elim p
end
end QB

namespace QB
open PySem PySem.Spec PyProof.Rows L2
section
variable {X : Cx} {W : WX} {a b c e : Expr} {es rest : List Expr} {ma mb mc me : ME} {mt mu : MT} {ta tb te : TE} {pos : Pos} {f : D → D → R D} {rr : R2} {op : CmpOp}

/-! ### comparisons as values, as tests -/
theorem ee_cmpw (ho : OpR X (compareOp op) rr) (hs : OpW X W rr f) (ha : EW X W a ma) (hb : EW X W b mb) (hm : behindInMarks op b = false) : EE X W (.Compare a [op] [b] pos) (mBin f ma mb) := by
  obtain ⟨ta, h1, h2⟩ := ha.ex
  obtain ⟨tb, h3, h4⟩ := hb.ex
  exact ⟨_, pe_cmpR ho h1 h3 hm, SimE.opw h2 h4 hs⟩
def mTB (me : ME) : MT := fun r => (me r).bind fun d => match d with
  | .bl k => .ok k
  | _ => .bad
theorem SimT.of (h : SimE X W te me) : SimT X W (tTest te) (mTB me) := fun n Z H0 m r σ H q Q p => h n Z H0 m r σ H q _ (p.bind.imp fun d k x H1 s1 rx => by
  cases d <;> try exact False.elim k
  simp only [Rep] at rx
  subst rx
  exact ⟨_, rfl, k H1 s1⟩)
theorem et_cmpw (ho : OpR X (compareOp op) rr) (hs : OpW X W rr f) (ha : EW X W a ma) (hb : EW X W b mb) (hm : behindInMarks op b = false) : ET X W (.Compare a [op] [b] pos) (mTB (mBin f ma mb)) := by
  obtain ⟨ta, h1, h2⟩ := ha.ex
  obtain ⟨tb, h3, h4⟩ := hb.ex
  exact ⟨_, pt_cmpR ho h1 h3 hm, SimT.of (SimE.opw h2 h4 hs)⟩
theorem or_eq (hu : X.A.units + 64 < cLine) : OpR X (compareOp .Eq) (rEqS X.K) := OpR.or op_eq (op_eqD hu)
theorem or_ne (hu : X.A.units + 64 < cLine) : OpR X (compareOp .NotEq) (rNeS X.K) := OpR.or op_ne (op_neD hu)
theorem or_is : OpR X (compareOp .Is) rIsS := OpR.or op_isN op_is_bl
theorem or_isNot : OpR X (compareOp .IsNot) rIsNotS := OpR.or op_notN op_isnot_bl
def dLt := dCmp fun i j => decide (i < j)
def dLe := dCmp fun i j => decide (i ≤ j)
def dGt := dCmp fun i j => decide (j < i)
def dGe := dCmp fun i j => decide (j ≤ i)
/-- an expression whose value is a bool, as a test -/
theorem et_val (h : EE X W e me) (he : ∀ whole, isTrue e X.env whole = (do let v ← whole; standAt e.pos; holding [v] (truthy v)) := by intro _; rfl) : ET X W e (mTB me) := by
  obtain ⟨te, h1, h2⟩ := h.ex
  exact ⟨_, pt_val h1 he, SimT.of h2⟩

/-! ### and, or, not -/
def mTAnd (mt mu : MT) : MT := fun r => (mt r).bind fun k => match k with
  | true => mu r
  | false => .ok false
def mTOr (mt mu : MT) : MT := fun r => (mt r).bind fun k => match k with
  | true => .ok true
  | false => mu r
def mTNot (mt : MT) : MT := fun r => (mt r).bind fun k => .ok (!k)
theorem EV2.t (h : EV2 X W e mt) : ET X W e mt := by
  obtain ⟨t, h1, h2⟩ := h.ex
  exact ⟨t, h1.pt, h2⟩
theorem ev_and1 (h : ET X W a mt) : EV2 X W (.BoolOp .And [a] pos) mt := by
  obtain ⟨t, h1, h2⟩ := h.ex
  exact ⟨t, pw_and1 h1, h2⟩
theorem ev_or1 (h : ET X W a mt) : EV2 X W (.BoolOp .Or [a] pos) mt := by
  obtain ⟨t, h1, h2⟩ := h.ex
  exact ⟨t, pw_or1 h1, h2⟩
theorem ev_and (h : ET X W a mt) (g : EV2 X W (.BoolOp .And (b :: rest) pos) mu) : EV2 X W (.BoolOp .And (a :: b :: rest) pos) (mTAnd mt mu) := by
  obtain ⟨t, h1, h2⟩ := h.ex
  obtain ⟨u, h3, h4⟩ := g.ex
  refine ⟨_, pw_and h1 h3, fun n Z H0 m r σ H q Q p => h2 n Z H0 m r σ H q _ (p.bind.imp fun k kk H1 s1 => ?_)⟩
  cases k with
  | true => exact h4 n Z H0 m r σ H1 (q.grow s1) Q ((kk.grow s1).imp fun b z H' s2 => z H' (s1.trans s2))
  | false => exact kk H1 s1
theorem ev_or (h : ET X W a mt) (g : EV2 X W (.BoolOp .Or (b :: rest) pos) mu) : EV2 X W (.BoolOp .Or (a :: b :: rest) pos) (mTOr mt mu) := by
  obtain ⟨t, h1, h2⟩ := h.ex
  obtain ⟨u, h3, h4⟩ := g.ex
  refine ⟨_, pw_or h1 h3, fun n Z H0 m r σ H q Q p => h2 n Z H0 m r σ H q _ (p.bind.imp fun k kk H1 s1 => ?_)⟩
  cases k with
  | false => exact h4 n Z H0 m r σ H1 (q.grow s1) Q ((kk.grow s1).imp fun b z H' s2 => z H' (s1.trans s2))
  | true => exact kk H1 s1
theorem et_not (h : ET X W a mt) : ET X W (.UnaryOp .Not a pos) (mTNot mt) := by
  obtain ⟨t, h1, h2⟩ := h.ex
  exact ⟨_, pt_not h1, fun n Z H0 m r σ H q Q p => h2 n Z H0 m r σ H q _ (p.bind.imp fun k kk H1 s1 => kk H1 s1)⟩
/-- .. as values -/
def mAnd (ma mb : ME) : ME := fun r => (ma r).bind fun d => match d with
  | .bl true => mb r
  | .bl false => .ok (.bl false)
  | _ => .bad
def mOr (ma mb : ME) : ME := fun r => (ma r).bind fun d => match d with
  | .bl true => .ok (.bl true)
  | .bl false => mb r
  | _ => .bad
def mNot (ma : ME) : ME := fun r => (ma r).bind fun d => match d with
  | .bl k => .ok (.bl (!k))
  | _ => .bad
theorem ee_one {bo} (h : EE X W a ma) : EE X W (.BoolOp bo [a] pos) ma := by
  obtain ⟨t, h1, h2⟩ := h.ex
  exact ⟨t, pe_one h1, h2⟩
theorem ee_and (h : EE X W a ma) (g : EE X W (.BoolOp .And (b :: rest) pos) mb) : EE X W (.BoolOp .And (a :: b :: rest) pos) (mAnd ma mb) := by
  obtain ⟨t, h1, h2⟩ := h.ex
  obtain ⟨u, h3, h4⟩ := g.ex
  refine ⟨_, pe_and h1 h3, fun n Z H0 m r σ H q Q p => h2 n Z H0 m r σ H q _ (p.bind.imp fun d k x H1 s1 rx => ?_)⟩
  cases d <;> try exact False.elim k
  rename_i c
  simp only [Rep] at rx
  subst rx
  refine ⟨c, rfl, ?_⟩
  cases c with
  | true => exact h4 n Z H0 m r σ H1 (q.grow s1) Q ((PostG.grow k s1).imp fun d z v H' s2 => z v H' (s1.trans s2))
  | false => exact k _ H1 s1 (by simp [Rep])
theorem ee_or (h : EE X W a ma) (g : EE X W (.BoolOp .Or (b :: rest) pos) mb) : EE X W (.BoolOp .Or (a :: b :: rest) pos) (mOr ma mb) := by
  obtain ⟨t, h1, h2⟩ := h.ex
  obtain ⟨u, h3, h4⟩ := g.ex
  refine ⟨_, pe_or h1 h3, fun n Z H0 m r σ H q Q p => h2 n Z H0 m r σ H q _ (p.bind.imp fun d k x H1 s1 rx => ?_)⟩
  cases d <;> try exact False.elim k
  rename_i c
  simp only [Rep] at rx
  subst rx
  refine ⟨c, rfl, ?_⟩
  cases c with
  | false => exact h4 n Z H0 m r σ H1 (q.grow s1) Q ((PostG.grow k s1).imp fun d z v H' s2 => z v H' (s1.trans s2))
  | true => exact k _ H1 s1 (by simp [Rep])
theorem ee_not (h : EE X W a ma) : EE X W (.UnaryOp .Not a pos) (mNot ma) := by
  obtain ⟨t, h1, h2⟩ := h.ex
  refine ⟨_, pe_not h1, fun n Z H0 m r σ H q Q p => h2 n Z H0 m r σ H q _ (p.bind.imp fun d k x H1 s1 rx => ?_)⟩
  cases d <;> try exact False.elim k
  rename_i c
  simp only [Rep] at rx
  subst rx
  exact ⟨c, rfl, k _ H1 s1 (by simp [Rep])⟩
def mIfE (mt : MT) (ma mb : ME) : ME := fun r => (mt r).bind fun k => match k with
  | true => ma r
  | false => mb r
theorem ee_ifE (hc : ET X W c mt) (ha : EE X W a ma) (hb : EE X W b mb) : EE X W (.IfExp c a b pos) (mIfE mt ma mb) := by
  obtain ⟨t, h1, h2⟩ := hc.ex
  obtain ⟨u, h3, h4⟩ := ha.ex
  obtain ⟨v, h5, h6⟩ := hb.ex
  refine ⟨_, pe_ifExp h1 h3 h5, fun n Z H0 m r σ H q Q p => h2 n Z H0 m r σ H q _ (p.bind.imp fun k kk H1 s1 => ?_)⟩
  cases k with
  | true => exact h4 n Z H0 m r σ H1 (q.grow s1) Q ((PostG.grow kk s1).imp fun d z v H' s2 => z v H' (s1.trans s2))
  | false => exact h6 n Z H0 m r σ H1 (q.grow s1) Q ((PostG.grow kk s1).imp fun d z v H' s2 => z v H' (s1.trans s2))

/-! ### argument lists, displays -/
def mNil : MA := fun _ => .ok []
def mCons (ma : ME) (ms : MA) : MA := fun r => (ma r).bind fun d => (ms r).bind fun ds => .ok (d :: ds)
variable {ms : MA}
theorem ea_nil : EA X W [] mNil := ⟨_, pa_nil, fun n Z H0 m r σ H q Q p => p [] H (Same.refl H) RepL.nil⟩
theorem ea_cons (h : EE X W a ma) (g : EA X W es ms) (hs : starEach (a :: es) X.env = (false, eval a X.env) :: starEach es X.env := by rfl) : EA X W (a :: es) (mCons ma ms) := by
  obtain ⟨t, h1, h2⟩ := h.ex
  obtain ⟨u, h3, h4⟩ := g.ex
  refine ⟨_, pa_cons h1 h3 hs, fun n Z H0 m r σ H q Q p => h2 n Z H0 m r σ H q _ (p.bind.imp fun d k x H1 s1 rx => ?_)⟩
  refine h4 n Z H0 m r σ H1 (q.grow s1) _ ((k.grow s1).bind.imp fun ds k2 xs H2 s2 rxs => ?_)
  exact k2 (x :: xs) H2 (s1.trans s2) (RepL.cons (rx.mono (hid_mono s2)) rxs)
theorem eaw_nil : EAW X W [] mNil := ea_nil.w
theorem eaw_cons (h : EW X W a ma) (g : EAW X W es ms) (hs : starEach (a :: es) X.env = (false, eval a X.env) :: starEach es X.env := by rfl) : EAW X W (a :: es) (mCons ma ms) := by
  obtain ⟨t, h1, h2⟩ := h.ex
  obtain ⟨u, h3, h4⟩ := g.ex
  refine ⟨_, pa_cons h1 h3 hs, fun n Z H0 m r σ H q Q p => h2 n Z H0 m r σ H q _ (p.bind.imp fun d k x H1 s1 rx => ?_)⟩
  refine h4 n Z H0 m r σ H1 (q.grow s1) _ ((k.grow s1).bind.imp fun ds k2 xs H2 s2 rxs => ?_)
  exact k2 (x :: xs) H2 (s1.trans s2) (RepL.cons (rx.mono (hid_mono s2)) rxs)
def mTup (ms : MA) : ME := fun r => (ms r).bind fun ds => if ds.length ≤ sizeLine then .ok (.tup ds) else .bad
def mLst (ms : MA) : MF := fun r => (ms r).bind fun ds => if ds.length ≤ sizeLine then .ok (.l ds) else .bad
theorem ee_tup {x1} (h : EA X W es ms) : EE X W (.Tuple es x1 pos) (mTup ms) := by
  obtain ⟨t, h1, h2⟩ := h.ex
  refine ⟨_, pe_tup h1, fun n Z H0 m r σ H q Q p => h2 n Z H0 m r σ H q _ (p.bind.imp fun ds k xs H1 s1 rx => ?_)⟩
  split at k
  · refine ⟨by rw [rx.length]; assumption, fun c hc => k _ _ (s1.trans (same_upd hc)) ?_⟩
    simp only [Rep]
    exact ⟨c, xs, rfl, .inl (.inl ((q.grow s1).hidNew hc)), rx.mono (hid_mono (same_upd hc))⟩
  · exact False.elim k
theorem ef_lst (h : EA X W es ms) : EF X W (.List es pos) (mLst ms) := by
  obtain ⟨t, h1, h2⟩ := h.ex
  refine ⟨_, pe_lst h1, fun n Z H0 m r σ H q Q p => h2 n Z H0 m r σ H q _ (p.bind.imp fun ds k xs H1 s1 rx => ?_)⟩
  split at k
  · exact ⟨by rw [rx.length]; assumption, fun c hc => k c _ H1 s1 hc ⟨xs, rfl, rx⟩⟩
  · exact False.elim k
theorem ee_lst (h : EA X W es ms) : EE X W (.List es pos) (mCellE (mLst ms)) := (ef_lst h).toE

/-! ### items, slices -/
def seqD : D → Option (List D)
  | .lst xs => some xs
  | .tup xs => some xs
  | .slst xs => some xs
  | _ => none
def dIx : D → D → R D
  | .str z, .int i => if z.length ≤ sizeLine then (match atI z.cps.toList i with
    | some c => .ok (.str ⟨#[c]⟩)
    | none => .bad) else .bad
  | d, .int i => (match seqD d with
    | some xs => (match atI xs i with
      | some x => .ok x
      | none => .bad)
    | none => .bad)
  | _, _ => .bad
theorem RepL.at {K : PySem.W.Frag} {mg : Str → Option Value} {G : Hp} {ds : List D} {vs : List V} {i : Int} {d : D} (h : RepL K mg G ds vs) (e : atI ds i = some d) : ∃ v, atI vs i = some v ∧ Rep K mg G d v := by
  unfold atI at e ⊢
  rw [h.length]
  cases q : ixN ds.length i with
  | none =>
    rw [q] at e
    cases e
  | some j =>
    rw [q] at e
    exact h.get e
theorem seqD_rep {K : PySem.W.Frag} {mg : Str → Option Value} {G : Hp} {d : D} {v : V} {xs : List D} (r : Rep K mg G d v) (h : seqD d = some xs) : ∃ a vs, v = .ref a ∧ (SqL K G a vs ∨ SqT K G a vs) ∧ RepL K mg G xs vs := by
  cases d <;> simp only [seqD, Option.some.injEq, reduceCtorEq] at h <;> subst h <;> simp only [Rep] at r
  · obtain ⟨a, vs, rfl, h1, t⟩ := r
    exact ⟨a, vs, rfl, .inr h1, t⟩
  · obtain ⟨a, vs, rfl, h1, t⟩ := r
    exact ⟨a, vs, rfl, .inl (.inl (.inl h1)), t⟩
  · obtain ⟨a, vs, rfl, h1, t⟩ := r
    exact ⟨a, vs, rfl, .inl h1, t⟩
theorem dIx_cases {K : PySem.W.Frag} {mg : Str → Option Value} {G H : Hp} {d i : D} {x y : V} (s : Same G H) (hd : Rep K mg G d x) (hi : Rep K mg G i y) : (∃ e v, dIx d i = .ok e ∧ Rep K mg G e v ∧ ∀ Q : VK, Q v H → rIx K x y H Q) ∨ dIx d i = .bad := by
  have gen : ∀ (d : D) (i : Int) (xs : List D), Rep K mg G d x → y = .int i → seqD d = some xs → (∃ e v, (match atI xs i with | some x => R.ok x | none => .bad) = .ok e ∧ Rep K mg G e v ∧ ∀ Q : VK, Q v H → rIx K x y H Q) ∨ (match atI xs i with | some x => R.ok x | none => .bad) = .bad := by
    intro d i xs hd hy hs
    cases e : atI xs i with
    | none => exact .inr rfl
    | some z =>
      obtain ⟨a, vs, rfl, hq, t⟩ := seqD_rep hd hs
      obtain ⟨v, e2, rv⟩ := t.at e
      refine .inl ⟨z, v, rfl, rv, fun Q q => ?_⟩
      rcases hq with hq | hq
      · exact .inl ⟨a, vs, i, v, rfl, hy, Same.seq s hq, e2, q⟩
      · exact .inr (.inl ⟨a, vs, i, v, rfl, hy, Same.seqT s hq, e2, q⟩)
  cases i <;> try (cases d <;> exact .inr rfl)
  rename_i i
  have hy : y = .int i := by simpa [Rep] using hi
  cases d
  case str z =>
    have hx : x = .str z := by simpa [Rep] using hd
    simp only [dIx]
    split
    · rename_i hz
      cases e : atI z.cps.toList i with
      | none => exact .inr rfl
      | some c => exact .inl ⟨_, .str ⟨#[c]⟩, rfl, by simp [Rep], fun Q q => .inr (.inr ⟨z, i, c, hx, hy, hz, e, q⟩)⟩
    · exact .inr rfl
  case tup xs => exact gen _ i xs hd hy rfl
  case lst xs => exact gen _ i xs hd hy rfl
  case slst xs => exact gen _ i xs hd hy rfl
  all_goals exact .inr rfl
theorem ops_ix : OpS X W (rIx X.K) dIx := fun n Z H0 m r σ H q a b x y Q ha hb p => by
  rcases dIx_cases (G := hid Z m H) (H := H) hid_sub ha hb with ⟨e, v, h1, h2, h3⟩ | h
  · rw [h1] at p
    exact h3 Q (p v H (Same.refl H) h2)
  · rw [h] at p
    exact False.elim p
theorem ee_ix (ha : EE X W a ma) (hb : EE X W b mb) (hs : PlainIx b := by exact fun _ _ => rfl) : EE X W (.Subscript a b pos) (mBin dIx ma mb) := by
  obtain ⟨ta, h1, h2⟩ := ha.ex
  obtain ⟨tb, h3, h4⟩ := hb.ex
  exact ⟨_, pe_ix ix_seq h1 h3 hs, h2.op h4 ops_ix⟩
/-- an item of a thing that is only read -/
theorem ew_ix (ha : EW X W a ma) (hb : EE X W b mb) (hs : PlainIx b := by exact fun _ _ => rfl) : EW X W (.Subscript a b pos) (mBin dIx ma mb) := by
  obtain ⟨ta, h1, h2⟩ := ha.ex
  obtain ⟨tb, h3, h4⟩ := hb.ex
  refine ⟨_, pe_ix ix_seq h1 h3 hs, fun n Z H0 m r σ H q Q p => ?_⟩
  unfold mBin at p
  refine h2 n Z H0 m r σ H q _ (p.bind.imp fun d k x H1 s1 rx => ?_)
  refine h4 n Z H0 m r σ H1 (q.grow s1) _ ((k.grow s1).bind.imp fun e k2 y H2 s2 ry => ?_)
  rcases dIx_cases (G := hid Z nom H2) (H := H2) hid_sub (rx.mono (hid_mono s2)) (ry.mono hid_nom) with ⟨e, v, g1, g2, g3⟩ | g
  · rw [g1] at k2
    exact g3 Q (k2 v H2 (s1.trans s2) g2)
  · rw [g] at k2
    exact False.elim k2
/-- an item of a slot's own list -/
def dIxL (xs : List D) : D → R D
  | .int j => (match atI xs j with
    | some x => .ok x
    | none => .bad)
  | _ => .bad
def mIxO (i : Nat) (mb : ME) : ME := fun r => match r[i]? with
  | some (some (.own (.l xs))) => (mb r).bind (dIxL xs)
  | _ => .bad
theorem ee_ixo (i : Nat) {x : Str} {p1 : Pos} (hb : EE X W b mb) (hN : X.N[i]? = some x := by rfl) (hv : Vis X.env.scope x := by first | exact Or.inl rfl | exact Or.inr (Or.inl rfl) | exact Or.inr (Or.inr rfl)) (hd : (x == ("__debug__" : Str)) = false := by decide)
    (hcd : (x == ("__classdict__" : Str)) = false := by decide) (hs : PlainIx b := by exact fun _ _ => rfl) : EE X W (.Subscript (.Name x p1) b pos) (mIxO i mb) := by
  obtain ⟨tb, h3, h4⟩ := hb.ex
  refine ⟨_, pe_ix ix_seq (pv i hN hv hd hcd) h3 hs, fun n Z H0 m r σ H q Q p => ?_⟩
  unfold mIxO at p
  split at p
  · rename_i xs e
    obtain ⟨a, o, g1, g2, g3, g4⟩ := q.own i _ e
    obtain ⟨vs, rfl, t⟩ := g4
    refine ⟨_, g2, h4 n Z H0 m r σ H q _ (p.bind.imp fun d k y H1 s1 ry => ?_)⟩
    cases d <;> try exact False.elim k
    rename_i j
    simp only [Rep] at ry
    subst ry
    simp only [dIxL] at k
    cases e2 : atI xs j with
    | none =>
      rw [e2] at k
      exact False.elim k
    | some z =>
      rw [e2] at k
      obtain ⟨v, e3, rv⟩ := t.at e2
      exact .inl ⟨a, vs, j, v, rfl, rfl, .inl (.inl (s1 _ _ g3)), e3, k v H1 s1 (rv.mono (hid_mono s1))⟩
  · exact False.elim p

/-! slices -/
def mPart (o : Option ME) : Sc → R (Option Int) := fun r => match o with
  | none => .ok none
  | some me => (me r).bind fun d => match d with
    | .int i => .ok (some i)
    | _ => .bad
structure EO (X : Cx) (W : WX) (o : Option Expr) (mo : Option ME) : Prop where
  ex : ∃ t, PO X o t ∧ ∀ (n : Nat) (Z : Addr → Prop) (H0 : Hp) (m : Nat → Option Addr) (r : Sc) (σ : L2.St) (H : Hp), Rel X.K X.mg n Z H0 m r σ H → ∀ Q : Option Int → Hp → Prop,
    PostG X.K X.mg Z m W σ H (mPart mo r) (fun i => ∀ (H' : Hp), Same H H' → Q i H') → t σ H Q
theorem eo_none : EO X W none none := ⟨_, po_none, fun n Z H0 m r σ H q Q p => p H (Same.refl H)⟩
theorem eo_some (h : EE X W e me) : EO X W (some e) (some me) := by
  obtain ⟨t, h1, h2⟩ := h.ex
  refine ⟨_, po_some h1, fun n Z H0 m r σ H q Q p => h2 n Z H0 m r σ H q _ (p.bind.imp fun d k x H1 s1 rx => ?_)⟩
  cases d <;> try exact False.elim k
  simp only [Rep] at rx
  subst rx
  exact ⟨_, rfl, k H1 s1⟩
def cutD {α : Type} (xs : List α) (lo hi : Option Int) : List α := (xs.drop (HT.sIx xs.length 0 lo)).take (HT.sIx xs.length xs.length hi - HT.sIx xs.length 0 lo)
def dCut (d : D) (lo hi : Option Int) : R D := match d with
  | .lst xs => .ok (.lst (cutD xs lo hi))
  | .slst xs => .ok (.lst (cutD xs lo hi))
  | .tup xs => .ok (.tup (cutD xs lo hi))
  | .str z => if z.length ≤ sizeLine then .ok (.str (cutS z lo hi)) else .bad
  | _ => .bad
def mCut (me : ME) (lo hi : Option ME) : ME := fun r => (me r).bind fun d => (mPart lo r).bind fun l => (mPart hi r).bind fun h => dCut d l h
theorem RepL.cut {K : PySem.W.Frag} {mg : Str → Option Value} {G : Hp} {ds : List D} {vs : List V} (h : RepL K mg G ds vs) (lo hi : Option Int) : RepL K mg G (cutD ds lo hi) (cutV vs lo hi) := by
  unfold cutD cutV
  rw [h.length]
  exact (h.drop _).take _
theorem cut_all {α : Type} {xs : List α} {lo hi : Option Int} (h : HT.sIx xs.length 0 lo = 0 ∧ HT.sIx xs.length xs.length hi = xs.length) : cutD xs lo hi = xs := by
  unfold cutD
  rw [h.1, h.2]
  simp
variable {lo hi : Option Expr} {ml mh : Option ME} {p2 : Pos}
theorem ee_cut (ha : EE X W a ma) (hl : EO X W lo ml) (hh : EO X W hi mh) : EE X W (.Subscript a (.Slice lo hi none p2) pos) (mCut ma ml mh) := by
  obtain ⟨ta, h1, h2⟩ := ha.ex
  obtain ⟨tl, h3, h4⟩ := hl.ex
  obtain ⟨th, h5, h6⟩ := hh.ex
  refine ⟨_, pe_slice (SlR.or sl_list (SlR.or sl_tupA sl_str)) h1 h3 h5, fun n Z H0 m r σ H q Q p => ?_⟩
  unfold mCut at p
  refine h2 n Z H0 m r σ H q _ (p.bind.imp fun d k x H1 s1 rx => ?_)
  refine h4 n Z H0 m r σ H1 (q.grow s1) _ ((k.grow s1).bind.imp fun l k2 H2 s2 => ?_)
  refine h6 n Z H0 m r σ H2 ((q.grow s1).grow s2) _ ((k2.grow s2).bind.imp fun u k3 H3 s3 => ?_)
  have sA := s1.trans (s2.trans s3)
  have q3 := ((q.grow s1).grow s2).grow s3
  have rx3 := rx.mono (hid_mono (s2.trans s3))
  cases d <;> try exact False.elim k3
  · rename_i z
    simp only [Rep] at rx3
    subst rx3
    simp only [dCut] at k3
    split at k3
    · exact .inr (.inr ⟨z, rfl, ‹_›, k3 _ H3 sA (by simp [Rep])⟩)
    · exact False.elim k3
  · rename_i xs
    simp only [Rep] at rx3
    obtain ⟨a1, vs, rfl, hq, t⟩ := rx3
    refine .inr (.inl ⟨a1, vs, rfl, Same.seqT hid_sub hq, fun hc => ?_, fun hc c nc => ?_⟩)
    · rw [t.length] at hc
      refine k3 _ H3 sA ?_
      rw [cut_all hc]
      simp only [Rep]
      exact ⟨a1, vs, rfl, hq, t⟩
    · refine k3 _ _ (sA.trans (same_upd nc)) ?_
      simp only [Rep]
      exact ⟨c, _, rfl, .inl (.inl (q3.hidNew nc)), (t.cut l u).mono (hid_mono (same_upd nc))⟩
  · rename_i xs
    simp only [Rep] at rx3
    obtain ⟨a1, vs, rfl, hq, t⟩ := rx3
    refine .inl ⟨a1, vs, rfl, .inl (.inl (hid_sub _ _ hq)), fun c nc => k3 _ _ (sA.trans (same_upd nc)) ?_⟩
    simp only [Rep]
    exact ⟨c, _, rfl, q3.hidNew nc, (t.cut l u).mono (hid_mono (same_upd nc))⟩
  · rename_i xs
    simp only [Rep] at rx3
    obtain ⟨a1, vs, rfl, hq, t⟩ := rx3
    refine .inl ⟨a1, vs, rfl, Same.seq hid_sub hq, fun c nc => k3 _ _ (sA.trans (same_upd nc)) ?_⟩
    simp only [Rep]
    exact ⟨c, _, rfl, q3.hidNew nc, (t.cut l u).mono (hid_mono (same_upd nc))⟩

/-! ### built-ins of one argument that is read only -/
def mCallB (f : List D → R D) (ms : MA) : ME := fun r => (ms r).bind f
/-- a built-in by values: arguments read only, the answer a plain value of its own -/
def BuW (X : Cx) (W : WX) (rr : List V → Hp → VK → Prop) (f : List D → R D) : Prop := ∀ (n : Nat) (Z : Addr → Prop) (H0 : Hp) (m : Nat → Option Addr) (r : Sc) (σ : L2.St) (H : Hp), Rel X.K X.mg n Z H0 m r σ H → ∀ (ds : List D) (vs : List V) (Q : VK),
  RepL X.K X.mg (hid Z nom H) ds vs → PostG X.K X.mg Z m W σ H (f ds) (fun d => ∀ (v : V) (H' : Hp), Same H H' → Rep X.K X.mg (hid Z m H') d v → Q v H') → rr vs H Q
def BuS (X : Cx) (W : WX) (rr : List V → Hp → VK → Prop) (f : List D → R D) : Prop := ∀ (n : Nat) (Z : Addr → Prop) (H0 : Hp) (m : Nat → Option Addr) (r : Sc) (σ : L2.St) (H : Hp), Rel X.K X.mg n Z H0 m r σ H → ∀ (ds : List D) (vs : List V) (Q : VK),
  RepL X.K X.mg (hid Z m H) ds vs → PostG X.K X.mg Z m W σ H (f ds) (fun d => ∀ (v : V) (H' : Hp), Same H H' → Rep X.K X.mg (hid Z m H') d v → Q v H') → rr vs H Q
variable {tt : TA} {ff : List D → R D} {br : List V → Hp → VK → Prop} {x id T : String}
theorem SimE.bw (ha : SimAW X W tt ms) (hb : BuW X W br ff) : SimE X W (tCB br tt) (mCallB ff ms) := fun n Z H0 m r σ H q Q p => by
  unfold mCallB at p
  refine ha n Z H0 m r σ H q _ (p.bind.imp fun ds k vs H1 s1 rx => ?_)
  exact hb n Z H0 m r σ H1 (q.grow s1) ds vs Q rx ((k.grow s1).imp fun d k3 v H' s3 rv => k3 v H' (s1.trans s3) rv)
theorem SimE.bs (ha : SimA X W tt ms) (hb : BuS X W br ff) : SimE X W (tCB br tt) (mCallB ff ms) := fun n Z H0 m r σ H q Q p => by
  unfold mCallB at p
  refine ha n Z H0 m r σ H q _ (p.bind.imp fun ds k vs H1 s1 rx => ?_)
  exact hb n Z H0 m r σ H1 (q.grow s1) ds vs Q rx ((k.grow s1).imp fun d k3 v H' s3 rv => k3 v H' (s1.trans s3) rv)
/-- len(x) -/
def dLen : List D → R D
  | [.str z] => if z.length ≤ sizeLine then .ok (.int z.length) else .bad
  | [d] => (match seqD d with
    | some xs => .ok (.int xs.length)
    | none => .bad)
  | _ => .bad
theorem RepL.one {K : PySem.W.Frag} {mg : Str → Option Value} {G : Hp} {d : D} {vs : List V} (h : RepL K mg G [d] vs) : ∃ v, vs = [v] ∧ Rep K mg G d v := by
  simp only [RepL] at h
  obtain ⟨v, us, rfl, r, rfl⟩ := h
  exact ⟨v, rfl, r⟩
theorem RepL.two {K : PySem.W.Frag} {mg : Str → Option Value} {G : Hp} {d e : D} {vs : List V} (h : RepL K mg G [d, e] vs) : ∃ v w, vs = [v, w] ∧ Rep K mg G d v ∧ Rep K mg G e w := by
  simp only [RepL] at h
  obtain ⟨v, us, rfl, r, w, us', rfl, r', rfl⟩ := h
  exact ⟨v, w, rfl, r, r'⟩
theorem bu_len : BuW X W (fun xs H Q => ∃ x n, xs = [x] ∧ LenV X.K x H n ∧ Q (.int n) H) dLen := fun n Z H0 m r σ H q ds vs Q h p => by
  have gen : ∀ (d : D) (xs : List D), ds = [d] → seqD d = some xs → (∀ (v : V) (H' : Hp), Same H H' → Rep X.K X.mg (hid Z m H') (.int xs.length) v → Q v H') → ∃ x n, vs = [x] ∧ LenV X.K x H n ∧ Q (.int n) H := by
    intro d xs e hs k
    subst e
    obtain ⟨v, rfl, rv⟩ := h.one
    obtain ⟨a, us, rfl, hq, t⟩ := seqD_rep rv hs
    refine ⟨_, us.length, rfl, ?_, k _ H (Same.refl H) (by simp [Rep, t.length])⟩
    rcases hq with hq | hq
    · exact .inl ⟨us, Same.seq hid_sub hq, rfl⟩
    · exact .inr ⟨us, Same.seqT hid_sub hq, rfl⟩
  cases ds with
  | nil => exact False.elim p
  | cons d r =>
    cases r with
    | cons _ _ => cases d <;> exact False.elim p
    | nil =>
      cases d <;> try exact False.elim p
      · rename_i z
        obtain ⟨v, rfl, rv⟩ := h.one
        simp only [Rep] at rv
        subst rv
        simp only [dLen] at p
        split at p
        · exact ⟨_, z.length, rfl, ⟨‹_›, rfl⟩, p _ H (Same.refl H) (by simp [Rep])⟩
        · exact False.elim p
      · exact gen _ _ rfl rfl p
      · exact gen _ _ rfl rfl p
      · exact gen _ _ rfl rfl p
theorem ee_len {p1} (hm : X.mg "len" = none) (hg : Gl X "len") (ha : EAW X W (a :: es) ms) (he : starEach (a :: es) X.env = (false, eval a X.env) :: starEach es X.env := by rfl) (hpl : (backTo pos (starEach es X.env)).any (·.1) = false := by rfl) :
    EE X W (.Call (.Name "len" p1) (a :: es) [] pos) (mCallB dLen ms) := by
  obtain ⟨ta, h1, h2⟩ := ha.ex
  exact ⟨_, pe_callB call_len hg hm boot_len h1 (by decide) (by decide) he hpl, SimE.bw h2 bu_len⟩
/-- int(x) -/
def dInt : List D → R D
  | [.int i] => .ok (.int i)
  | [.bl k] => .ok (.int (if k then 1 else 0))
  | _ => .bad
theorem bu_int : BuW X W (fun xs H Q => (∃ i, xs = [.int i] ∧ Q (.int i) H) ∨ ∃ k, xs = [.bl k] ∧ Q (.int (if k then 1 else 0)) H) dInt := fun n Z H0 m r σ H q ds vs Q h p => by
  cases ds with
  | nil => exact False.elim p
  | cons d r =>
    cases r with
    | cons _ _ => cases d <;> exact False.elim p
    | nil =>
      cases d <;> try exact False.elim p
      all_goals
        obtain ⟨v, rfl, rv⟩ := h.one
        simp only [Rep] at rv
        subst rv
      · exact .inr ⟨_, rfl, p _ H (Same.refl H) (by simp [Rep])⟩
      · exact .inl ⟨_, rfl, p _ H (Same.refl H) (by simp [Rep])⟩
theorem ee_intc {p1} (hm : X.mg "int" = none) (hg : Gl X "int") (ha : EAW X W (a :: es) ms) (he : starEach (a :: es) X.env = (false, eval a X.env) :: starEach es X.env := by rfl) (hpl : (backTo pos (starEach es X.env)).any (·.1) = false := by rfl) :
    EE X W (.Call (.Name "int" p1) (a :: es) [] pos) (mCallB dInt ms) := by
  obtain ⟨ta, h1, h2⟩ := ha.ex
  exact ⟨_, pe_callTy call_int1 hg hm boot_int h1 (by decide) (by decide) he hpl, SimE.bw h2 bu_int⟩
/-- isinstance(x, T), T a built-in type -/
def tyN : D → Option String
  | .non => some "NoneType"
  | .bl _ => some "bool"
  | .int _ => some "int"
  | .str _ => some "str"
  | .tup _ => some "tuple"
  | .lst _ => some "list"
  | .slst _ => some "list"
  | .ins _ _ _ => none
  | .dct _ _ => some "dict"
theorem tyx_of {K : PySem.W.Frag} {mg : Str → Option Value} {G : Hp} {d : D} {v : V} {t : String} (r : Rep K mg G d v) (h : tyN d = some t) : TyX K G v (.type t) := by
  cases d <;> simp only [tyN, Option.some.injEq, reduceCtorEq] at h <;> subst h <;> simp only [Rep] at r
  · subst r
    exact .base .non
  · subst r
    exact .base (.bl _)
  · subst r
    exact .base (.int _)
  · subst r
    exact .base (.str _)
  · obtain ⟨a, vs, rfl, hq, t⟩ := r
    rcases hq with (hq | ⟨o, hq⟩) | ⟨o, its, n, hk, hc, _⟩
    · exact .base (.tup hq)
    · exact .fTuple hq
    · exact .kTuple hk hc
  · obtain ⟨a, vs, rfl, hq, t⟩ := r
    exact .base (.lst hq)
  · obtain ⟨a, vs, rfl, hq, t⟩ := r
    rcases hq with (hq | ⟨o, hq⟩) | ⟨o, its, n, hk, hc, _⟩
    · exact .base (.lst hq)
    · exact .base (.frz hq)
    · exact .kList hk hc
  · obtain ⟨a, vs, rfl, hq, l, t⟩ := r
    exact .base (.dK hq)
theorem TyX.mono {K : PySem.W.Frag} {G G' : Hp} {v : V} {t : String} (s : Same G G') (h : TyX K G v (.type t)) : TyX K G' v (.type t) := by
  cases h with
  | base h =>
    cases h with
    | non => exact .base .non
    | bl b => exact .base (.bl b)
    | int i => exact .base (.int i)
    | str s => exact .base (.str s)
    | flt s => exact .base (.flt s)
    | lst e => exact .base (.lst (s _ _ e))
    | frz e => exact .base (.frz (s _ _ e))
    | tup e => exact .base (.tup (s _ _ e))
    | dK e => exact .base (.dK (s _ _ e))
    | dT e => exact .base (.dT (s _ _ e))
  | byt b => exact .byt b
  | set e => exact .set (s _ _ e)
  | kList e c => exact .kList e c
  | kTuple e c => exact .kTuple e c
  | kDict e c => exact .kDict e c
  | fTuple e => exact .fTuple (s _ _ e)
  | fDict e => exact .fDict (s _ _ e)
/-- the answers, by the type's name -/
def isiB (T : String) (t : String) : Bool := t == T || (t == "bool" && T == "int")
def KitT (T : String) : Prop := ∀ t ∈ ["NoneType", "bool", "int", "str", "tuple", "list", "dict"], kitB t T = some (isiB T t)
theorem kit_int : KitT "int" := by
  intro t h
  simp only [List.mem_cons, List.not_mem_nil, or_false] at h
  rcases h with rfl | rfl | rfl | rfl | rfl | rfl | rfl <;> decide +kernel
theorem kit_bool : KitT "bool" := by
  intro t h
  simp only [List.mem_cons, List.not_mem_nil, or_false] at h
  rcases h with rfl | rfl | rfl | rfl | rfl | rfl | rfl <;> decide +kernel
theorem kit_str : KitT "str" := by
  intro t h
  simp only [List.mem_cons, List.not_mem_nil, or_false] at h
  rcases h with rfl | rfl | rfl | rfl | rfl | rfl | rfl <;> decide +kernel
theorem kit_tuple : KitT "tuple" := by
  intro t h
  simp only [List.mem_cons, List.not_mem_nil, or_false] at h
  rcases h with rfl | rfl | rfl | rfl | rfl | rfl | rfl <;> decide +kernel
theorem kit_list : KitT "list" := by
  intro t h
  simp only [List.mem_cons, List.not_mem_nil, or_false] at h
  rcases h with rfl | rfl | rfl | rfl | rfl | rfl | rfl <;> decide +kernel
def dIsi (T : String) (d : D) : R D := match tyN d with
  | some t => .ok (.bl (isiB T t))
  | none => .bad
def mIsi (T : String) (me : ME) : ME := fun r => (me r).bind (dIsi T)
theorem tyN_mem {d : D} {t : String} (h : tyN d = some t) : t ∈ ["NoneType", "bool", "int", "str", "tuple", "list", "dict"] := by
  cases d <;> simp only [tyN, Option.some.injEq, reduceCtorEq] at h <;> subst h <;> simp
theorem ee_isi {T : Str} {Ts : String} {p1 p3 : Pos} (hm : X.mg "isinstance" = none) (hg : Gl X "isinstance") (hmT : X.mg T = none) (hgT : Gl X T) (hbT : bootBuiltins T = some (.type Ts)) (kt : KitT Ts) (ha : EW X W a ma) (hn : T ≠ "__name__" := by decide) (hd : (T == ("__debug__" : Str)) = false := by decide)
    (he : starEach [a, .Name T p3] X.env = (false, eval a X.env) :: starEach [.Name T p3] X.env := by rfl) (he2 : starEach [.Name T p3] X.env = (false, eval (.Name T p3) X.env) :: starEach [] X.env := by rfl) (hpl : (backTo pos (starEach [.Name T p3] X.env)).any (·.1) = false := by rfl) :
    EE X W (.Call (.Name "isinstance" p1) [a, .Name T p3] [] pos) (mIsi Ts ma) := by
  obtain ⟨ta, h1, h2⟩ := ha.ex
  refine ⟨_, pe_callB call_isi hg hm boot_isinstance (pa_cons h1 (pa_cons (pe_bltn (v := .ty Ts) hgT hmT hbT rfl hn hd) pa_nil he2) he) (by decide) (by decide) he hpl, fun n Z H0 m r σ H q Q p => ?_⟩
  unfold mIsi at p
  refine h2 n Z H0 m r σ H q _ (p.bind.imp fun d k x H1 s1 rx => ?_)
  unfold dIsi at k
  split at k
  · rename_i t e
    exact ⟨x, _, _, _, _, rfl, .ty Ts, TyX.mono hid_sub (tyx_of rx e), kit_ty (kt t (tyN_mem e)), k _ H1 s1 (by simp [Rep])⟩
  · exact False.elim k
end
end QB

namespace QB
open PySem PySem.Spec PyProof.Rows L2

/-! ### the promise of a def by its mirror -/
def PostF (K : PySem.W.Frag) (mg : Str → Option Value) (Z : Addr → Prop) (H : Hp) (x : R D) (Q : VK) (E : XK) : Prop := match x with
  | .ok d => ∀ (v : V) (H' : Hp), Same H H' → Rep K mg (hid Z nom H') d v → Q v H'
  | .exc c ns xs => ∀ (C : Addr) (d : Option Addr) (H' : Hp), Same H H' → ExcAt K mg (hid Z nom H') c ns xs C d → E (.ref C) d H'
  | .bad => False
def PF (K : PySem.W.Frag) (mg : Str → Option Value) (n : Nat) (mf : List D → R D) : Sp := fun vs H Q E => vs.length = n ∧ ∃ (ds : List D) (Z : Addr → Prop), (∀ b, Z b → H b ≠ none) ∧ RepL K mg (hid Z nom H) ds vs ∧ PostF K mg Z H (mf ds) Q E
theorem hid_join {Z : Addr → Prop} {m : Nat → Option Addr} {H : Hp} : hid (fun b => Z b ∨ ∃ i, m i = some b) nom H = hid Z m H := by
  funext b
  unfold hid
  by_cases h : Z b ∨ ∃ i, m i = some b
  · rw [if_pos h, if_pos (.inl h)]
  · rw [if_neg h, if_neg]
    rintro (q | ⟨i, q⟩)
    · exact h q
    · cases q
theorem Rel.zed' {K : PySem.W.Frag} {mg : Str → Option Value} {n : Nat} {Z : Addr → Prop} {H0 : Hp} {m : Nat → Option Addr} {r : Sc} {σ : L2.St} {H : Hp} (q : Rel K mg n Z H0 m r σ H) : ∀ b, (Z b ∨ ∃ i, m i = some b) → H b ≠ none := fun b h => by
  rcases h with h | ⟨i, h⟩
  · exact q.zed b h
  · obtain ⟨o, ho⟩ := q.alive h
    rw [ho]
    intro z
    cases z
section
variable {X : Cx} {W : WX} {a b c e : Expr} {es rest : List Expr} {ma mb mc me : ME} {ms : MA} {pos : Pos} {f : Addr} {fd : FuncData} {ps : List Str} {mf : List D → R D} {k kk n : Nat} {x : Str} {p1 : Pos} {CX : CXT}
theorem pf_strong {m : Nat → Option Addr} {r : Sc} {σ : L2.St} {H0 H : Hp} {Z : Addr → Prop} {nn : Nat} (q : Rel X.K X.mg nn Z H0 m r σ H) {ds : List D} {vs : List V} {Q : VK} (hl : vs.length = n) (h : RepL X.K X.mg (hid Z m H) ds vs)
    (p : PostG X.K X.mg Z m W σ H (mf ds) (fun d => ∀ (v : V) (H' : Hp), Same H H' → Rep X.K X.mg (hid Z m H') d v → Q v H')) : PF X.K X.mg n mf vs H Q (WE W σ) := by
  refine ⟨hl, ds, fun b => Z b ∨ ∃ i, m i = some b, q.zed', by rw [hid_join]; exact h, ?_⟩
  cases e : mf ds with
  | ok d =>
    rw [e] at p
    intro v H' s t
    rw [hid_join] at t
    exact p v H' s t
  | exc cc ns xs =>
    rw [e] at p
    intro C d H' s t
    rw [hid_join] at t
    exact p C d H' s t
  | bad =>
    rw [e] at p
    exact p
theorem pf_weak {m : Nat → Option Addr} {r : Sc} {σ : L2.St} {H0 H : Hp} {Z : Addr → Prop} {nn : Nat} (q : Rel X.K X.mg nn Z H0 m r σ H) {ds : List D} {vs : List V} {Q : VK} (hl : vs.length = n) (h : RepL X.K X.mg (hid Z nom H) ds vs) (hx : ∀ c ns xs, mf ds ≠ .exc c ns xs)
    (p : PostG X.K X.mg Z m W σ H (mf ds) (fun d => ∀ (v : V) (H' : Hp), Same H H' → Rep X.K X.mg (hid Z nom H') d v → Q v H')) : PF X.K X.mg n mf vs H Q (WE W σ) := by
  refine ⟨hl, ds, Z, q.zed, h, ?_⟩
  cases e : mf ds with
  | ok d =>
    rw [e] at p
    exact p
  | exc cc ns xs => exact absurd e (hx _ _ _)
  | bad =>
    rw [e] at p
    exact p
theorem SimA.len {t : TA} (ha : SimA X W t ms) (hl : ∀ r ds, ms r = .ok ds → ds.length = n) (sp : Sp) : SimE X W (tCallS (PF X.K X.mg n mf) (WE W) t) (mCallB mf ms) := fun nn Z H0 m r σ H q Q p => by
  unfold mCallB at p
  have p' := p.bind
  cases e : ms r with
  | ok ds =>
    refine ha nn Z H0 m r σ H q _ ?_
    rw [e] at p' ⊢
    intro vs H1 s1 rx
    have p2 : PostG X.K X.mg Z m W σ H (mf ds) (fun d => ∀ (v : V) (H' : Hp), Same H H' → Rep X.K X.mg (hid Z m H') d v → Q v H') := p'
    exact pf_strong (q.grow s1) (by rw [rx.length, hl r ds e]) rx ((p2.grow s1).imp fun d k3 v H' s3 rv => k3 v H' (s1.trans s3) rv)
  | exc cc ns xs =>
    refine ha nn Z H0 m r σ H q _ ?_
    rw [e] at p' ⊢
    exact p'
  | bad =>
    rw [e] at p'
    exact False.elim p'
/-- how many values a mirror of arguments hands on -/
def ALen (ms : MA) (n : Nat) : Prop := ∀ r ds, ms r = .ok ds → ds.length = n
theorem al_nil : ALen mNil 0 := fun r ds h => by
  cases h
  rfl
theorem al_cons {n : Nat} (h : ALen ms n) : ALen (mCons ma ms) (n + 1) := fun r ds e => by
  unfold mCons at e
  cases e1 : ma r with
  | ok d =>
    rw [e1] at e
    cases e2 : ms r with
    | ok dd =>
      rw [e2] at e
      simp only [R.bind] at e
      cases e
      rw [List.length_cons, h r dd e2]
    | exc _ _ _ =>
      rw [e2] at e
      cases e
    | bad =>
      rw [e2] at e
      cases e
  | exc _ _ _ =>
    rw [e1] at e
    cases e
  | bad =>
    rw [e1] at e
    cases e
theorem ee_call (tk : Takes X W) (F : FnOk X.prog X.w X.K X.mg X.base (L2.CX X.prog X.w) k f fd ps (PF X.K X.mg n mf)) (hr : Room kk X.A) (hk : k ≤ kk) (hm : X.mg x = some (.ref f)) (hkp : PySem.W.keepIn X.K (.ref f) = true) (hb : Binds X.K fd ps [])
    (ha : EA X W (a :: es) ms) (hl : ALen ms n) (hg : Gl X x := by rfl) (hdb : (x == ("__debug__" : Str)) = false := by decide) (he : starEach (a :: es) X.env = (false, eval a X.env) :: starEach es X.env := by rfl) (hpl : (backTo pos (starEach es X.env)).any (·.1) = false := by rfl) :
    EE X W (.Call (.Name x p1) (a :: es) [] pos) (mCallB mf ms) := by
  obtain ⟨t, h1, h2⟩ := ha.ex
  exact ⟨_, pe_callS F (hr.mono hk) hg hm hkp hb (fun σ => passAt tk σ) h1 hdb he hpl, h2.len hl (PF X.K X.mg n mf)⟩
/-- a plain answer of a thing that is only read -/
def mScal (me : ME) : ME := fun r => (me r).bind fun d => match d with
  | .non => .ok .non
  | .bl b => .ok (.bl b)
  | .int i => .ok (.int i)
  | .str s => .ok (.str s)
  | _ => .bad
theorem EW.s (h : EW X W e me) : EE X W e (mScal me) := by
  obtain ⟨te, h1, h2⟩ := h.ex
  refine ⟨te, h1, fun n Z H0 m r σ H q Q p => h2 n Z H0 m r σ H q Q (p.bind.imp fun d k v H' s rv => ?_)⟩
  cases d <;> first | exact False.elim k | (refine k v H' s ?_; simp only [Rep] at rv ⊢; exact rv)
end

/-! ### statements -/
def PostS (K : PySem.W.Frag) (mg : Str → Option Value) (n : Nat) (Z : Addr → Prop) (H0 : Hp) (W : WX) (G : Hp) (x : Fl) (D : Ends) : Prop := match x with
  | .nx r => ∀ (m : Nat → Option Addr) (σ : L2.St) (H : Hp), Rel K mg n Z H0 m r σ H → Same G (hid Z m H) → D.nx σ H
  | .bk r => ∀ (m : Nat → Option Addr) (σ : L2.St) (H : Hp), Rel K mg n Z H0 m r σ H → Same G (hid Z m H) → D.bk σ H
  | .ct r => ∀ (m : Nat → Option Addr) (σ : L2.St) (H : Hp), Rel K mg n Z H0 m r σ H → Same G (hid Z m H) → D.ct σ H
  | .rt d => ∀ (v : V) (H : Hp), Same H0 H → Rep K mg (hid Z nom H) d v → D.rt v H
  | .rc c => ∀ (p : Addr) (o : HO) (H : Hp), Same H0 H → H p = none → CellOk K mg (hid Z nom H) o c → D.rt (.ref p) (upd H p o)
  | .ex c ns xs r => ∀ (m : Nat → Option Addr) (σ : L2.St) (H : Hp) (C : Addr) (d : Option Addr), Rel K mg n Z H0 m r σ H → Same G (hid Z m H) → ExcAt K mg (hid Z m H) c ns xs C d → W (.ref C) d σ H
  | .bad => False
section
variable {K : PySem.W.Frag} {mg : Str → Option Value} {n : Nat} {Z : Addr → Prop} {H0 G G' : Hp} {W : WX} {x : Fl} {D D' : Ends}
theorem PostS.grow (h : PostS K mg n Z H0 W G x D) (s : Same G G') : PostS K mg n Z H0 W G' x D := by
  cases x with
  | nx r => exact fun m σ H q t => h m σ H q (s.trans t)
  | bk r => exact fun m σ H q t => h m σ H q (s.trans t)
  | ct r => exact fun m σ H q t => h m σ H q (s.trans t)
  | rt d => exact h
  | rc d => exact h
  | ex c ns xs r => exact fun m σ H C d q t e => h m σ H C d q (s.trans t) e
  | bad => exact h
end
def toFl {β : Type} (r : Sc) (x : R β) (k : β → Fl) : Fl := match x with
  | .ok b => k b
  | .exc c ns xs => .ex c ns xs r
  | .bad => .bad
theorem toFl_post {K : PySem.W.Frag} {mg : Str → Option Value} {n : Nat} {Z : Addr → Prop} {H0 H : Hp} {m : Nat → Option Addr} {σ : L2.St} {W : WX} {D : Ends} {β : Type} {r : Sc} {x : R β} {k : β → Fl} (q : Rel K mg n Z H0 m r σ H)
    (h : PostS K mg n Z H0 W (hid Z m H) (toFl r x k) D) : PostG K mg Z m W σ H x (fun b => PostS K mg n Z H0 W (hid Z m H) (k b) D) := by
  cases x with
  | ok b => exact h
  | exc c ns xs => exact fun C d H' s e => h m σ H' C d (q.grow s) (hid_mono s) e
  | bad => exact h
def SimS (X : Cx) (W : WX) (ts : TS) (ms : MS) : Prop := ∀ (n : Nat) (Z : Addr → Prop) (H0 : Hp) (m : Nat → Option Addr) (r : Sc) (σ : L2.St) (H : Hp), n = X.N.length → Rel X.K X.mg n Z H0 m r σ H → ∀ D : Ends,
  PostS X.K X.mg n Z H0 W (hid Z m H) (ms r) D → ts D σ H
structure ES (X : Cx) (W : WX) (st : Stmt) (ms : MS) : Prop where
  ex : ∃ ts, PS X st ts ∧ SimS X W ts ms
structure EB (X : Cx) (W : WX) (sts : List Stmt) (ms : MS) : Prop where
  ex : ∃ ts, PSs X sts ts ∧ SimS X W ts ms
def mNx : MS := fun r => .nx r
def mSeq (a b : MS) : MS := fun r => match a r with
  | .nx r' => b r'
  | f => f
section
variable {X : Cx} {W : WX} {st : Stmt} {sts : List Stmt} {ms mu : MS} {me : ME} {mf : MF} {mt : MT} {e : Expr} {pos : Pos} {ts tu : TS}
theorem SimS.nx : SimS X W tNext mNx := fun n Z H0 m r σ H _ q D p => p m σ H q (Same.refl _)
theorem SimS.seq (h : SimS X W ts ms) (g : SimS X W tu mu) : SimS X W (tSeq ts tu) (mSeq ms mu) := fun n Z H0 m r σ H hn q D p => by
  refine h n Z H0 m r σ H hn q _ ?_
  unfold mSeq at p
  cases e : ms r with
  | nx r' =>
    rw [e] at p
    exact fun m' σ' H' q' s => g n Z H0 m' r' σ' H' hn q' D (p.grow s)
  | bk r' =>
    rw [e] at p
    exact p
  | ct r' =>
    rw [e] at p
    exact p
  | rt d =>
    rw [e] at p
    exact p
  | rc d =>
    rw [e] at p
    exact p
  | ex c ns xs r' =>
    rw [e] at p
    exact p
  | bad =>
    rw [e] at p
    exact p
theorem eb_nil : EB X W [] mNx := ⟨_, pss_nil, SimS.nx⟩
theorem eb_one (h : ES X W st ms) : EB X W [st] ms := by
  obtain ⟨t, h1, h2⟩ := h.ex
  exact ⟨t, pss_one h1, h2⟩
theorem eb_cons (h : ES X W st ms) (g : EB X W sts mu) : EB X W (st :: sts) (mSeq ms mu) := by
  obtain ⟨t, h1, h2⟩ := h.ex
  obtain ⟨u, h3, h4⟩ := g.ex
  exact ⟨_, pss_cons h1 h3, h2.seq h4⟩
def mSet (i : Nat) (me : ME) : MS := fun r => toFl r (me r) fun d => .nx (r.set i (some (.val d)))
def mSetO (i : Nat) (mf : MF) : MS := fun r => toFl r (mf r) fun c => .nx (r.set i (some (.own c)))
theorem SimS.set {te : TE} {i : Nat} (hi : i < X.N.length) (h : SimE X W te me) : SimS X W (tAsg te (gName i)) (mSet i me) := fun n Z H0 m r σ H hn q D p => by
  refine h n Z H0 m r σ H q _ ((toFl_post q p).imp fun d k v H' s rv => ?_)
  exact k _ _ H' ((q.grow s).setv (by rw [hn]; exact hi) rv) ((hid_mono s).trans same_drp)
theorem SimS.setO {te : TE} {i : Nat} (hi : i < X.N.length) (h : SimF X W te mf) : SimS X W (tAsg te (gName i)) (mSetO i mf) := fun n Z H0 m r σ H hn q D p => by
  refine h n Z H0 m r σ H q _ ((toFl_post q p).imp fun c k b o H' s nb hc => ?_)
  obtain ⟨q2, s2⟩ := (q.grow s).seto (i := i) (by rw [hn]; exact hi) nb hc
  exact k _ _ _ q2 ((hid_mono s).trans s2)
theorem es_set {i : Nat} {x : Str} {pos' : Pos} (he : EE X W e me) (hN : X.N.Nodup) (hi : X.N[i]? = some x) (hx : Loc X.env.scope x) (hs : swapsWith e (some (.Name x pos')) pos.line X.env = pure false := by rfl)
    (hf : X.fn x = true ∨ X.env.scope.names.lookup x = some .local := by first | exact .inl rfl | exact .inr rfl | assumption) : ES X W (.Assign [.Name x pos'] e pos) (mSet i me) := by
  obtain ⟨t, h1, h2⟩ := he.ex
  exact ⟨_, ps_set hN hi hx h1 hs hf, SimS.set (List.getElem?_eq_some_iff.mp hi).1 h2⟩
theorem es_seto {i : Nat} {x : Str} {pos' : Pos} (he : EF X W e mf) (hN : X.N.Nodup) (hi : X.N[i]? = some x) (hx : Loc X.env.scope x) (hs : swapsWith e (some (.Name x pos')) pos.line X.env = pure false := by rfl)
    (hf : X.fn x = true ∨ X.env.scope.names.lookup x = some .local := by first | exact .inl rfl | exact .inr rfl | assumption) : ES X W (.Assign [.Name x pos'] e pos) (mSetO i mf) := by
  obtain ⟨t, h1, h2⟩ := he.ex
  exact ⟨_, ps_set hN hi hx h1 hs hf, SimS.setO (List.getElem?_eq_some_iff.mp hi).1 h2⟩
/-- a slot's own thing becomes a plain value, ahead of a statement -/
def mFrz (i : Nat) (ms : MS) : MS := fun r => match r[i]? with
  | some (some (.own c)) => ms (r.set i (some (.val (thawed c))))
  | _ => .bad
theorem SimS.frz {i : Nat} (h : SimS X W ts ms) : SimS X W ts (mFrz i ms) := fun n Z H0 m r σ H hn q D p => by
  unfold mFrz at p
  split at p
  · rename_i c e
    exact h n Z H0 _ _ σ H hn (q.frz e) D (p.grow same_drp)
  · exact False.elim p
theorem es_frz (i : Nat) (h : ES X W st ms) : ES X W st (mFrz i ms) := by
  obtain ⟨t, h1, h2⟩ := h.ex
  exact ⟨t, h1, h2.frz⟩
theorem eb_frz (i : Nat) (h : EB X W sts ms) : EB X W sts (mFrz i ms) := by
  obtain ⟨t, h1, h2⟩ := h.ex
  exact ⟨t, h1, h2.frz⟩
def mRet (me : ME) : MS := fun r => toFl r (me r) fun d => .rt d
theorem es_ret (he : EW X W e me) : ES X W (.Return (some e) pos) (mRet me) := by
  obtain ⟨t, h1, h2⟩ := he.ex
  refine ⟨_, ps_ret h1, fun n Z H0 m r σ H hn q D p => h2 n Z H0 m r σ H q _ ((toFl_post q p).imp fun d k v H' s rv => ?_)⟩
  exact k v H' (q.same.trans s) rv
def mRetN : MS := fun _ => .rt .non
theorem es_retN : ES X W (.Return none pos) mRetN := ⟨_, ps_retN, fun n Z H0 m r σ H hn q D p => p .non H q.same (by simp [Rep])⟩
theorem es_pass : ES X W (.Pass pos) mNx := ⟨_, ps_pass, SimS.nx⟩
def mBrk : MS := fun r => .bk r
def mCnt : MS := fun r => .ct r
theorem es_break : ES X W (.Break pos) mBrk := ⟨_, ps_break, fun n Z H0 m r σ H hn q D p => p m σ H q (Same.refl _)⟩
theorem es_continue : ES X W (.Continue pos) mCnt := ⟨_, ps_continue, fun n Z H0 m r σ H hn q D p => p m σ H q (Same.refl _)⟩
def mDrop (me : ME) : MS := fun r => toFl r (me r) fun _ => .nx r
theorem es_expr (he : EW X W e me) (hs : swapsWith e none pos.line X.env = pure false := by rfl) : ES X W (.Expr e pos) (mDrop me) := by
  obtain ⟨t, h1, h2⟩ := he.ex
  refine ⟨_, ps_expr h1 hs, fun n Z H0 m r σ H hn q D p => h2 n Z H0 m r σ H q _ ((toFl_post q p).imp fun d k v H' s rv => ?_)⟩
  exact k m σ H' (q.grow s) (hid_mono s)
def mIf (mt : MT) (ms mu : MS) : MS := fun r => toFl r (mt r) fun k => match k with
  | true => ms r
  | false => mu r
theorem es_if {c : Expr} {sa sb : List Stmt} (hc : ET X W c mt) (ha : EB X W sa ms) (hb : EB X W sb mu) : ES X W (.If c sa sb pos) (mIf mt ms mu) := by
  obtain ⟨t, h1, h2⟩ := hc.ex
  obtain ⟨u, h3, h4⟩ := ha.ex
  obtain ⟨v, h5, h6⟩ := hb.ex
  refine ⟨_, ps_if h1 h3 h5, fun n Z H0 m r σ H hn q D p => h2 n Z H0 m r σ H q _ ((toFl_post q p).imp fun k kk H' s => ?_)⟩
  cases k with
  | true => exact h4 n Z H0 m r σ H' hn (q.grow s) D (PostS.grow kk (hid_mono s))
  | false => exact h6 n Z H0 m r σ H' hn (q.grow s) D (PostS.grow kk (hid_mono s))
/-- xs.append(e), xs a slot's own list -/
def mApp (i : Nat) (me : ME) : MS := fun r => match r[i]? with
  | some (some (.own (.l xs))) => toFl r (me r) fun d => if xs.length < sizeLine then .nx (r.set i (some (.own (.l (xs ++ [d]))))) else .bad
  | _ => .bad
theorem es_app (i : Nat) {x : Str} {p1 p2 p3 : Pos} (he : EE X W e me) (hN : X.N[i]? = some x := by rfl) (hv : Vis X.env.scope x := by first | exact Or.inl rfl | exact Or.inr (Or.inl rfl) | exact Or.inr (Or.inr rfl)) (hd : (x == ("__debug__" : Str)) = false := by decide)
    (hcd : (x == ("__classdict__" : Str)) = false := by decide) (hbase : attributeBase (.Name x p1) "append" X.env (eval (.Name x p1) X.env) = eval (.Name x p1) X.env := by rfl)
    (hfew : ((backTo p3 (starEach [e] X.env)).all (fun x => !x.1) && (backToKw p3 (keywordEach [] X.env)).all (fun x => x.1.isSome)
      && decide (([e] : List Expr).length + ([] : List Keyword).length + (if ([] : List Keyword).isEmpty then 0 else 1) < 30)) = true := by rfl)
    (hline : (p2.endLine == p3.line) = true := by rfl) (hs : starEach [e] X.env = (false, eval e X.env) :: starEach [] X.env := by rfl) (hplain : (backTo p3 (starEach [] X.env)).any (·.1) = false := by rfl)
    (hsw : swapsWith (.Call (.Attribute (.Name x p1) "append" p2) [e] [] p3) none pos.line X.env = pure false := by rfl) :
    ES X W (.Expr (.Call (.Attribute (.Name x p1) "append" p2) [e] [] p3) pos) (mApp i me) := by
  obtain ⟨t, h1, h2⟩ := he.ex
  refine ⟨_, ps_expr (pe_bm PySem.F.plainAttrs_list PySem.F.slot_list_append PySem.F.type_list_append mt_append (pv i hN hv hd hcd) (pa_cons h1 pa_nil hs) hbase hfew hline hs hplain) hsw, fun n Z H0 m r σ H hn q D p => ?_⟩
  unfold mApp at p
  split at p
  · rename_i xs ei
    obtain ⟨a, o, g1, g2, g3, g4⟩ := q.own i _ ei
    obtain ⟨vs, rfl, tt⟩ := g4
    refine ⟨_, g2, .inl ⟨rfl, _, .inl (.inl g3)⟩, h2 n Z H0 m r σ H q _ ((toFl_post q p).imp fun d k v H' s rv => ?_)⟩
    split at k
    · rename_i hz
      have q' := q.grow s
      refine ⟨a, vs, v, rfl, rfl, s _ _ g3, by rw [tt.length]; exact hz, ?_⟩
      have hc : CellOk X.K X.mg (hid Z m H') (.lst (vs ++ [v])) (.l (xs ++ [d])) := ⟨_, rfl, (tt.mono (hid_mono s)).append (RepL.cons rv RepL.nil)⟩
      refine k m σ _ (q'.chg ei g1 hc) ?_
      rw [hid_upd g1]
      exact hid_mono s
    · exact False.elim k
  · exact False.elim p

/-! ### for -/
structure ItOk (K : PySem.W.Frag) (mg : Str → Option Value) (G : Hp) (J : It) (ds : List D) : Prop where
  go : ∀ (H : Hp) (i : Nat), Same G H → i < ds.length → J.go i H ∧ ∀ x H', J.yld i H x H' → H' = H ∧ ∃ d, ds[i]? = some d ∧ Rep K mg G d x
  stop : ∀ H, Same G H → J.stop ds.length H
structure EI (X : Cx) (W : WX) (tg iter : Expr) (mi : MA) : Prop where
  ex : ∃ wi, PI X tg iter wi ∧ ∀ (n : Nat) (Z : Addr → Prop) (H0 : Hp) (m : Nat → Option Addr) (r : Sc) (σ : L2.St) (H : Hp), Rel X.K X.mg n Z H0 m r σ H → ∀ R' : It → Hp → Prop,
    PostG X.K X.mg Z m W σ H (mi r) (fun ds => ∀ (J : It) (H' : Hp), Same H H' → ItOk X.K X.mg (hid Z m H') J ds → R' J H') → wi σ H R'
/-- a target takes a value -/
structure EG (X : Cx) (tg : Expr) (tb : D → Sc → Option Sc) : Prop where
  ex : ∃ g, PG X tg g ∧ ∀ (n : Nat) (Z : Addr → Prop) (H0 : Hp) (m : Nat → Option Addr) (r : Sc) (σ : L2.St) (H : Hp), n = X.N.length → Rel X.K X.mg n Z H0 m r σ H → ∀ (d : D) (v : V) (Q : L2.St → Hp → Prop), Rep X.K X.mg (hid Z m H) d v →
    (match tb d r with
      | some r' => ∀ (m' : Nat → Option Addr) (σ' : L2.St), Rel X.K X.mg n Z H0 m' r' σ' H → Same (hid Z m H) (hid Z m' H) → Q σ' H
      | none => False) → g v σ H Q
def bName (i : Nat) : D → Sc → Option Sc := fun d r => some (r.set i (some (.val d)))
theorem eg_name {i : Nat} {x : Str} (hN : X.N.Nodup) (hi : X.N[i]? = some x) (hx : Loc X.env.scope x) (hf : X.fn x = true ∨ X.env.scope.names.lookup x = some .local := by first | exact .inl rfl | exact .inr rfl | assumption) : EG X (.Name x pos) (bName i) := by
  refine ⟨_, pg_name hN hi hx hf, fun n Z H0 m r σ H hn q d v Q rv p => ?_⟩
  exact p _ _ (q.setv (by rw [hn]; exact (List.getElem?_eq_some_iff.mp hi).1) rv) same_drp
def loopL (tb : D → Sc → Option Sc) (body : MS) : List D → Sc → Fl
  | [], r => .nx r
  | d :: ds, r => match tb d r with
    | none => .bad
    | some r1 => match body r1 with
      | .nx r2 => loopL tb body ds r2
      | .ct r2 => loopL tb body ds r2
      | .bk r2 => .nx r2
      | f => f
def mFor (mi : MA) (tb : D → Sc → Option Sc) (body : MS) : MS := fun r => toFl r (mi r) fun ds => loopL tb body ds r
theorem es_for {tg iter : Expr} {body : List Stmt} {mi : MA} {tb : D → Sc → Option Sc} (hp : PassesOwn (model X.prog X.w) X.A X.env X.xe) (hc : X.calm = true) (hi : EI X W tg iter mi) (hg : EG X tg tb) (hb : EB X W body ms)
    (hs : ∀ x, foldedSetIterable iter X.env x = pure x := by intro _; rfl) : ES X W (.For tg iter body [] pos) (mFor mi tb ms) := by
  obtain ⟨wi, h1, h2⟩ := hi.ex
  obtain ⟨g, h3, h4⟩ := hg.ex
  obtain ⟨t, h5, h6⟩ := hb.ex
  refine ⟨_, ps_for hp hc h1 h3 h5 hs, fun n Z H0 m r σ H hn q D p => ?_⟩
  refine h2 n Z H0 m r σ H q _ ((toFl_post q p).imp fun ds k J H1 s1 io => ?_)
  have k1 := PostS.grow k (hid_mono s1)
  refine ⟨fun i j σ' H' => i + j = ds.length ∧ ∃ m' r', Rel X.K X.mg n Z H0 m' r' σ' H' ∧ Same (hid Z m H1) (hid Z m' H') ∧ PostS X.K X.mg n Z H0 W (hid Z m H1) (loopL tb ms (ds.drop i) r') D, ⟨ds.length, by omega, m, r, q.grow s1, Same.refl _, k1⟩, ?_⟩
  rintro i j σ2 H2 ⟨hij, m2, r2, q2, s2, p2⟩
  have sG : Same (hid Z m H1) H2 := s2.trans hid_sub
  by_cases hlt : i < ds.length
  · obtain ⟨g1, g2⟩ := io.go H2 i sG hlt
    refine .inr ⟨g1, fun σ' H' => ∃ m' r', Rel X.K X.mg n Z H0 m' r' σ' H' ∧ Same (hid Z m H1) (hid Z m' H') ∧ PostS X.K X.mg n Z H0 W (hid Z m H1) (loopL tb ms (ds.drop (i + 1)) r') D, fun σ' H' ⟨m', r', z1, z2, z3⟩ => ⟨j - 1, by omega, by omega, m', r', z1, z2, z3⟩, fun x H' hy => ?_⟩
    obtain ⟨rfl, d, hd, rd⟩ := g2 x H' hy
    have ed : ds.drop i = d :: ds.drop (i + 1) := by
      have : ds[i] = d := by
        rw [List.getElem?_eq_getElem hlt] at hd
        exact Option.some.inj hd
      rw [← this]
      exact List.drop_eq_getElem_cons hlt
    rw [ed] at p2
    refine h4 n Z H0 m2 r2 σ2 H' hn q2 d x _ (rd.mono s2) ?_
    simp only [loopL] at p2
    cases e1 : tb d r2 with
    | none =>
      rw [e1] at p2
      exact p2
    | some r3 =>
      rw [e1] at p2
      intro m3 σ3 q3 s3
      refine h6 n Z H0 m3 r3 σ3 H' hn q3 _ ?_
      have s13 := s2.trans s3
      simp only at p2
      cases e2 : ms r3 with
      | nx r4 =>
        rw [e2] at p2
        exact fun m' σ' H' q' s' => ⟨m', r4, q', s13.trans s', p2⟩
      | ct r4 =>
        rw [e2] at p2
        exact fun m' σ' H' q' s' => ⟨m', r4, q', s13.trans s', p2⟩
      | bk r4 =>
        rw [e2] at p2
        exact fun m' σ' H' q' s' => p2 m' σ' H' q' (s13.trans s')
      | rt d =>
        rw [e2] at p2
        exact p2
      | rc d =>
        rw [e2] at p2
        exact p2
      | ex c ns xs r4 =>
        rw [e2] at p2
        exact fun m' σ' H' C d q' s' e => p2 m' σ' H' C d q' (s13.trans s') e
      | bad =>
        rw [e2] at p2
        exact p2
  · have e : i = ds.length := by omega
    subst e
    refine .inl ⟨io.stop H2 sG, ?_⟩
    rw [List.drop_length] at p2
    exact p2 m2 σ2 H2 q2 s2

/-! what a for walks -/
variable {tg : Expr}
def mSeqOf (me : ME) : MA := fun r => (me r).bind fun d => match d with
  | .lst xs => .ok xs
  | .slst xs => .ok xs
  | _ => .bad
def mTupOf (me : ME) : MA := fun r => (me r).bind fun d => match d with
  | .tup xs => .ok xs
  | _ => .bad
theorem itok_l {K : PySem.W.Frag} {mg : Str → Option Value} {G : Hp} {a : Addr} {ds : List D} {vs : List V} (h : SqL K G a vs) (t : RepL K mg G ds vs) : ItOk K mg G (Itl K a) ds := by
  refine ⟨fun H i s hi => ⟨?_, fun x H' hy => ?_⟩, fun H s => ⟨vs, Same.seq s h, by rw [t.length]; exact Nat.le_refl _⟩⟩
  · obtain ⟨v, hv, _⟩ := t.get (List.getElem?_eq_getElem hi)
    exact ⟨vs, v, Same.seq s h, hv⟩
  · obtain ⟨e, f⟩ := hy
    obtain ⟨v, hv, rv⟩ := t.get (List.getElem?_eq_getElem hi)
    have := f vs (Same.seq s h)
    rw [hv] at this
    cases this
    exact ⟨e, _, List.getElem?_eq_getElem hi, rv⟩
theorem itok_t {K : PySem.W.Frag} {mg : Str → Option Value} {G : Hp} {a : Addr} {ds : List D} {vs : List V} (h : SqT K G a vs) (t : RepL K mg G ds vs) : ItOk K mg G (Itt K a) ds := by
  refine ⟨fun H i s hi => ⟨?_, fun x H' hy => ?_⟩, fun H s => ⟨vs, Same.seqT s h, by rw [t.length]; exact Nat.le_refl _⟩⟩
  · obtain ⟨v, hv, _⟩ := t.get (List.getElem?_eq_getElem hi)
    exact ⟨vs, v, Same.seqT s h, hv⟩
  · obtain ⟨e, f⟩ := hy
    obtain ⟨v, hv, rv⟩ := t.get (List.getElem?_eq_getElem hi)
    have := f vs (Same.seqT s h)
    rw [hv] at this
    cases this
    exact ⟨e, _, List.getElem?_eq_getElem hi, rv⟩
theorem ei_list (h : EE X W e me) : EI X W tg e (mSeqOf me) := by
  obtain ⟨t, h1, h2⟩ := h.ex
  refine ⟨_, pi_list h1, fun n Z H0 m r σ H q R' p => h2 n Z H0 m r σ H q _ (p.bind.imp fun d k x H1 s1 rx => ?_)⟩
  cases d <;> try exact False.elim k
  · simp only [Rep] at rx
    obtain ⟨a, vs, rfl, hq, tt⟩ := rx
    exact ⟨a, rfl, ⟨vs, .inl (.inl (hid_sub _ _ hq))⟩, k _ H1 s1 (itok_l (.inl (.inl hq)) tt)⟩
  · simp only [Rep] at rx
    obtain ⟨a, vs, rfl, hq, tt⟩ := rx
    exact ⟨a, rfl, ⟨vs, Same.seq hid_sub hq⟩, k _ H1 s1 (itok_l hq tt)⟩
theorem ei_tup (h : EE X W e me) : EI X W tg e (mTupOf me) := by
  obtain ⟨t, h1, h2⟩ := h.ex
  refine ⟨_, pi_tup h1, fun n Z H0 m r σ H q R' p => h2 n Z H0 m r σ H q _ (p.bind.imp fun d k x H1 s1 rx => ?_)⟩
  cases d <;> try exact False.elim k
  simp only [Rep] at rx
  obtain ⟨a, vs, rfl, hq, tt⟩ := rx
  exact ⟨a, rfl, ⟨vs, Same.seqT hid_sub hq⟩, k _ H1 s1 (itok_t hq tt)⟩
def rgD (lo : Int) (n : Nat) : List D := (List.range n).map fun (i : Nat) => D.int (lo + (i : Int))
theorem itok_r {K : PySem.W.Frag} {mg : Str → Option Value} {G : Hp} {lo : Int} {n : Nat} : ItOk K mg G (Itr lo n) (rgD lo n) := by
  have hl : (rgD lo n).length = n := by simp [rgD]
  refine ⟨fun H i s hi => ⟨by rw [hl] at hi; exact hi, fun x H' hy => ?_⟩, fun H s => by rw [hl]; exact Nat.le_refl n⟩
  obtain ⟨e, ex⟩ := hy
  rw [hl] at hi
  refine ⟨e, .int (lo + (i : Int)), ?_, by simp only [Rep]; exact ex⟩
  simp [rgD, List.getElem?_map, hi]
def okR (i : Int) : Prop := -4611686018427387904 ≤ i ∧ i < 4611686018427387904
instance (i : Int) : Decidable (okR i) := inferInstanceAs (Decidable (_ ∧ _))
def dRg : List D → R (List D)
  | [.int j] => if okR j then .ok (rgD 0 j.toNat) else .bad
  | [.int i, .int j] => if okR i ∧ okR j then .ok (rgD i (j - i).toNat) else .bad
  | _ => .bad
def mRg (ma : MA) : MA := fun r => (ma r).bind dRg
variable {ma : MA}
theorem ei_range1 {a : Expr} {p1 : Pos} (hm : X.mg "range" = none) (hg : Gl X "range") (ha : EA X W [a] ma) (hl : ALen ma 1) (hs : starEach [a] X.env = [(false, eval a X.env)] := by rfl) : EI X W tg (.Call (.Name "range" p1) [a] [] pos) (mRg ma) := by
  obtain ⟨t, h1, h2⟩ := ha.ex
  refine ⟨_, pi_range1 hg hm h1 hs, fun n Z H0 m r σ H q R' p => ?_⟩
  unfold mRg at p
  have p' := p.bind
  refine h2 n Z H0 m r σ H q _ ?_
  cases e : ma r with
  | ok ds =>
    rw [e] at p'
    have hd := hl r ds e
    intro vs H1 s1 rx
    obtain ⟨d, rfl⟩ := List.length_eq_one_iff.mp hd
    obtain ⟨v, rfl, rv⟩ := rx.one
    cases d <;> try exact False.elim p'
    rename_i j
    simp only [Rep] at rv
    subst rv
    simp only [PostG, dRg] at p'
    split at p'
    · rename_i x hz
      split at hz
      · rename_i hz2
        cases hz
        simp only [okR] at hz2
        exact ⟨j, rfl, by simpa using hz2.1, by simpa using hz2.2, p' _ H1 s1 itok_r⟩
      · cases hz
    · rename_i hz
      split at hz <;> cases hz
    · exact False.elim p'
  | exc c ns xs =>
    rw [e] at p'
    exact p'
  | bad =>
    rw [e] at p'
    exact False.elim p'
theorem ei_range2 {a b : Expr} {p1 : Pos} (hm : X.mg "range" = none) (hg : Gl X "range") (ha : EA X W [a, b] ma) (hl : ALen ma 2) (hs : starEach [a, b] X.env = [(false, eval a X.env), (false, eval b X.env)] := by rfl) (hs2 : starEach [b] X.env = [(false, eval b X.env)] := by rfl) : EI X W tg (.Call (.Name "range" p1) [a, b] [] pos) (mRg ma) := by
  obtain ⟨t, h1, h2⟩ := ha.ex
  refine ⟨_, pi_range2 hg hm h1 hs hs2, fun n Z H0 m r σ H q R' p => ?_⟩
  unfold mRg at p
  have p' := p.bind
  refine h2 n Z H0 m r σ H q _ ?_
  cases e : ma r with
  | ok ds =>
    rw [e] at p'
    have hd := hl r ds e
    intro vs H1 s1 rx
    obtain ⟨d, d2, rfl⟩ : ∃ d e, ds = [d, e] := by
      match ds, hd with
      | [d, e], _ => exact ⟨d, e, rfl⟩
    obtain ⟨v, w, rfl, rv, rw'⟩ := rx.two
    cases d <;> cases d2 <;> try exact False.elim p'
    rename_i i j
    simp only [Rep] at rv rw'
    subst rv rw'
    simp only [PostG, dRg] at p'
    split at p'
    · rename_i x hz
      split at hz
      · rename_i hz2
        cases hz
        simp only [okR] at hz2
        exact ⟨i, j, rfl, ⟨by simpa using hz2.1.1, by simpa using hz2.1.2, by simpa using hz2.2.1, by simpa using hz2.2.2⟩, p' _ H1 s1 itok_r⟩
      · cases hz
    · rename_i hz
      split at hz <;> cases hz
    · exact False.elim p'
  | exc c ns xs =>
    rw [e] at p'
    exact p'
  | bad =>
    rw [e] at p'
    exact False.elim p'

/-! ### while -/
def whileL (mt : MT) (body : MS) : Nat → Sc → Fl
  | 0, _ => .bad
  | n + 1, r => toFl r (mt r) fun k => match k with
    | true => (match body r with
      | .nx r2 => whileL mt body n r2
      | .ct r2 => whileL mt body n r2
      | .bk r2 => .nx r2
      | f => f)
    | false => .nx r
def mWhile (fuel : Nat) (mt : MT) (body : MS) : MS := whileL mt body fuel
theorem es_while (fuel : Nat) {c : Expr} {body : List Stmt} (hp : PassesOwn (model X.prog X.w) X.A X.env X.xe) (hc : ET X W c mt) (hb : EB X W body ms) : ES X W (.While c body [] pos) (mWhile fuel mt ms) := by
  obtain ⟨t, h1, h2⟩ := hc.ex
  obtain ⟨u, h3, h4⟩ := hb.ex
  refine ⟨_, ps_while hp h1 h3, fun n Z H0 m r σ H hn q D p => ?_⟩
  refine ⟨fun j σ' H' => ∃ m' r', Rel X.K X.mg n Z H0 m' r' σ' H' ∧ PostS X.K X.mg n Z H0 W (hid Z m' H') (whileL mt ms j r') D, ⟨fuel, m, r, q, p⟩, ?_⟩
  rintro j σ2 H2 ⟨m2, r2, q2, p2⟩
  cases j with
  | zero => exact False.elim p2
  | succ j =>
    simp only [whileL] at p2
    refine h2 n Z H0 m2 r2 σ2 H2 q2 _ ((toFl_post q2 p2).imp fun k kk H3 s3 => ?_)
    have q3 := q2.grow s3
    have k3 := PostS.grow kk (hid_mono s3)
    cases k with
    | false =>
      rw [if_neg Bool.false_ne_true]
      exact k3 m2 σ2 H3 q3 (Same.refl _)
    | true =>
      rw [if_pos rfl]
      refine ⟨fun σ' H' => ∃ m' r', Rel X.K X.mg n Z H0 m' r' σ' H' ∧ PostS X.K X.mg n Z H0 W (hid Z m' H') (whileL mt ms j r') D, fun σ' H' z => ⟨j, Nat.lt_succ_self j, z⟩, ?_⟩
      refine h4 n Z H0 m2 r2 σ2 H3 hn q3 _ ?_
      simp only at k3
      cases e2 : ms r2 with
      | nx r4 =>
        rw [e2] at k3
        exact fun m' σ' H' q' s' => ⟨m', r4, q', PostS.grow k3 s'⟩
      | ct r4 =>
        rw [e2] at k3
        exact fun m' σ' H' q' s' => ⟨m', r4, q', PostS.grow k3 s'⟩
      | bk r4 =>
        rw [e2] at k3
        exact k3
      | rt d =>
        rw [e2] at k3
        exact k3
      | rc d =>
        rw [e2] at k3
        exact k3
      | ex c ns xs r4 =>
        rw [e2] at k3
        exact k3
      | bad =>
        rw [e2] at k3
        exact k3

/-! ### a def -/
def mStart (n : Nat) (ds : List D) : Sc := ds.map (fun d => some (EV.val d)) ++ List.replicate (n - ds.length) none
def mDef (n : Nat) (ms : MS) : List D → R D := fun ds => match ms (mStart n ds) with
  | .rt d => .ok d
  | .nx _ => .ok .non
  | .ex c ns xs _ => .exc c ns xs
  | _ => .bad
theorem start_rel {K : PySem.W.Frag} {mg : Str → Option Value} {N : List Str} {Z : Addr → Prop} {H : Hp} {ds : List D} {vs : List V} (hZ : ∀ b, Z b → H b ≠ none) (h : RepL K mg (hid Z nom H) ds vs) (hl : vs.length ≤ N.length) :
    Rel K mg N.length Z H nom (mStart N.length ds) (L2.start N vs) H := by
  have l := h.length
  refine ⟨by simp [mStart]; omega, by simp [L2.start]; omega, fun i d hi => ?_, fun i c hi => ?_, fun i a e => (nomatch e), fun i j a e => (nomatch e), fun i a e => (nomatch e), hZ, Same.refl H⟩
  · unfold mStart at hi
    rw [List.getElem?_append] at hi
    split at hi
    · rw [List.getElem?_map] at hi
      cases e : ds[i]? with
      | none =>
        rw [e] at hi
        cases hi
      | some d' =>
        rw [e] at hi
        cases hi
        obtain ⟨v, hv, rv⟩ := h.get e
        refine ⟨v, ?_, rv⟩
        unfold L2.start
        rw [List.getElem?_append_left (by rw [List.length_map]; exact (List.getElem?_eq_some_iff.mp hv).1), List.getElem?_map, hv]
        rfl
    · rw [List.getElem?_replicate] at hi
      split at hi
      · cases hi
      · cases hi
  · unfold mStart at hi
    rw [List.getElem?_append] at hi
    split at hi
    · rw [List.getElem?_map] at hi
      cases e : ds[i]? with
      | none =>
        rw [e] at hi
        cases hi
      | some d' =>
        rw [e] at hi
        cases hi
    · rw [List.getElem?_replicate] at hi
      split at hi
      · cases hi
      · cases hi
end
theorem def_ok {P : Program} {w : World} {K : PySem.W.Frag} {mg : Str → Option Value} {base : Heap} {x qual : Str} {st : Stmt} {f : Addr} {fd : FuncData} {N ps : List Str} {k np : Nat} {ms : MS} (F : Fun K x qual st f fd) (S : FnScope N ps (defScope st)) (hp : ps.length = np) (hN : np ≤ N.length)
    (hb : ∀ (cdv : Value) (A : Around) (outer : List Env) (s : Shared) (H : Hp) (E : XK), Room k (A.deeper (envOfC qual (defScope st) s.heap.objs.size f cdv)) →
      Takes (cxOf (L2.CX P w) P w K mg base N qual (defScope st) f cdv A outer s H E) (fun cls d _ H => E cls d H) →
      PassesOwn (model P w) (cxOf (L2.CX P w) P w K mg base N qual (defScope st) f cdv A outer s H E).A (cxOf (L2.CX P w) P w K mg base N qual (defScope st) f cdv A outer s H E).env (cxOf (L2.CX P w) P w K mg base N qual (defScope st) f cdv A outer s H E).xe →
      EB (cxOf (L2.CX P w) P w K mg base N qual (defScope st) f cdv A outer s H E) (fun cls d _ H => E cls d H) (defBody st) ms) : FnOk P w K mg base (L2.CX P w) (k + 1) f fd ps (PF K mg np (mDef N.length ms)) := by
  refine F.okX S (fun vs H Q E h => by rw [hp]; exact h.1) fun cdv A outer s H vs Q E hr h => ?_
  obtain ⟨hl, ds, Z, hZ, rl, p⟩ := h
  obtain ⟨t, h1, h2⟩ := (hb cdv A outer s H E hr (takes_of rfl rfl rfl rfl) (passes_of rfl)).ex
  refine ⟨t, h1, ?_⟩
  have q : Rel K mg N.length Z H nom (mStart N.length ds) (L2.start N vs) H := start_rel hZ rl (by omega)
  refine h2 N.length Z H nom _ _ H rfl q _ ?_
  unfold mDef at p
  cases e : ms (mStart N.length ds) with
  | nx r =>
    rw [e] at p
    exact fun m σ H' q' _ => p .non H' q'.same (by simp [Rep])
  | rt d =>
    rw [e] at p
    exact fun v H' s' rv => p v H' s' rv
  | ex c ns xs r =>
    rw [e] at p
    exact fun m σ H' C d q' _ ea => p C d H' q'.same (ea.mono hid_nom)
  | rc d =>
    rw [e] at p
    exact False.elim p
  | bk r =>
    rw [e] at p
    exact False.elim p
  | ct r =>
    rw [e] at p
    exact False.elim p
  | bad =>
    rw [e] at p
    exact False.elim p
end QB

namespace QB
open PySem PySem.Spec PyProof.Rows L2
section
variable {X : Cx} {W : WX} {a b c e tg : Expr} {es rest : List Expr} {ma mb mc me : ME} {ms : MA} {pos : Pos} {te tl : TE}

/-! ### what a for walks: a list, a tuple, a text -/
def iAny (K : PySem.W.Frag) (tl : TE) : TI := fun σ H R => tl σ H fun x H1 =>
  (∃ a, x = .ref a ∧ (∃ xs, SqL K H1 a xs) ∧ R (Itl K a) H1) ∨ (∃ a, x = .ref a ∧ (∃ xs, SqT K H1 a xs) ∧ R (Itt K a) H1) ∨ ∃ z, x = .str z ∧ R (Its z) H1
theorem pi_any {l : Expr} (hl : PE X l tl) : PI X tg l (iAny X.K tl) := by
  refine ⟨fun pins s σ H R I h => ?_⟩
  refine thn (hl.run pins s σ H _ I h) fun v s1 ⟨x, H1, I1, r1, q1⟩ => ?_
  rcases q1 with ⟨a, e, ⟨xs, hq⟩, q⟩ | ⟨a, e, ⟨xs, hq⟩, q⟩ | ⟨z, e, q⟩
  · subst e
    cases r1
    obtain ⟨its, rv, p, hz⟩ := I1.list hq
    refine wpAny_pyIter_list p.isList ?_
    refine ⟨s1.heap.objs.size, [s1.heap.objs.size], _, _, H1, rfl, I1.kept (t' := s1.toks) fun b o e => Heap.get?_push_of_some _ e, turn_list a _, ⟨_, Heap.get?_push_size _ rfl, rfl, rfl⟩, fun b hb => ?_, q⟩
    have e : b = s1.heap.objs.size := by simpa using hb
    subst e
    exact I1.fpOk (Nat.le_refl _) (I1.hok.fresh (Nat.le_refl _))
  · subst e
    cases r1
    obtain ⟨its, rv, p, hz⟩ := I1.tuple hq
    refine wpAny_pyIter_tuple (show s1.heap.IsTuple a its.toArray from p) ?_
    refine ⟨s1.heap.objs.size, [s1.heap.objs.size], _, _, H1, rfl, I1.kept (t' := s1.toks) fun b o e => Heap.get?_push_of_some _ e, turn_tuple a _, ⟨_, Heap.get?_push_size _ rfl, rfl, rfl⟩, fun b hb => ?_, q⟩
    have e : b = s1.heap.objs.size := by simpa using hb
    subst e
    exact I1.fpOk (Nat.le_refl _) (I1.hok.fresh (Nat.le_refl _))
  · subst e
    obtain ⟨t, rfl⟩ := r1
    cases ha : z.cps.all (· < 128)
    · exact wpAny_pyIter_wide ha (pi_one (tk := s1.toks) I1 _ (turn_str _ z t "str_iterator" (.inr rfl)) ⟨_, Heap.get?_push_size _ rfl, rfl, rfl⟩ q)
    · exact wpAny_pyIter_ascii ha (pi_one (tk := s1.toks) I1 _ (turn_str _ z t "str_ascii_iterator" (.inl rfl)) ⟨_, Heap.get?_push_size _ rfl, rfl, rfl⟩ q)
def signs (z : Str) : List D := z.cps.toList.map fun c => D.str ⟨#[c]⟩
def dItems (d : D) : R (List D) := match d with
  | .lst xs => .ok xs
  | .slst xs => .ok xs
  | .tup xs => .ok xs
  | .str z => .ok (signs z)
  | _ => .bad
def mItems (me : ME) : MA := fun r => (me r).bind dItems
theorem itok_s {K : PySem.W.Frag} {mg : Str → Option Value} {G : Hp} {z : Str} : ItOk K mg G (Its z) (signs z) := by
  have hl : (signs z).length = z.cps.size := by simp [signs]
  refine ⟨fun H i s hi => ⟨by rw [hl] at hi; exact hi, fun x H' hy => ?_⟩, fun H s => by rw [hl]; exact Nat.le_refl _⟩
  obtain ⟨e, c, hc, ex⟩ := hy
  refine ⟨e, .str ⟨#[c]⟩, ?_, by simp only [Rep]; exact ex⟩
  simp only [signs, List.getElem?_map, Array.getElem?_toList, hc, Option.map_some]
theorem ei_any (h : EE X W e me) : EI X W tg e (mItems me) := by
  obtain ⟨t, h1, h2⟩ := h.ex
  refine ⟨_, pi_any h1, fun n Z H0 m r σ H q R' p => h2 n Z H0 m r σ H q _ (p.bind.imp fun d k x H1 s1 rx => ?_)⟩
  cases d <;> try exact False.elim k
  · simp only [Rep] at rx
    exact .inr (.inr ⟨_, rx, k _ H1 s1 itok_s⟩)
  · simp only [Rep] at rx
    obtain ⟨a, vs, rfl, hq, tt⟩ := rx
    exact .inr (.inl ⟨a, rfl, ⟨vs, Same.seqT hid_sub hq⟩, k _ H1 s1 (itok_t hq tt)⟩)
  · simp only [Rep] at rx
    obtain ⟨a, vs, rfl, hq, tt⟩ := rx
    exact .inl ⟨a, rfl, ⟨vs, .inl (.inl (hid_sub _ _ hq))⟩, k _ H1 s1 (itok_l (.inl (.inl hq)) tt)⟩
  · simp only [Rep] at rx
    obtain ⟨a, vs, rfl, hq, tt⟩ := rx
    exact .inl ⟨a, rfl, ⟨vs, Same.seq hid_sub hq⟩, k _ H1 s1 (itok_l hq tt)⟩

/-! ### a def by its name -/
structure Ok (P : Program) (w : World) (K : PySem.W.Frag) (mg : Str → Option Value) (base : Heap) (k : Nat) (x : Str) (n : Nat) (mf : List D → R D) : Prop where
  ex : ∃ (f : Addr) (fd : FuncData) (ps : List Str), mg x = some (.ref f) ∧ PySem.W.keepIn K (.ref f) = true ∧ Binds K fd ps [] ∧ FnOk P w K mg base (L2.CX P w) k f fd ps (PF K mg n mf)
/-- .. called with keywords ks behind nn values; is: which of them each parameter takes -/
def permL {α : Type} (is : List Nat) (l : List α) : List α := is.filterMap fun i => l[i]?
structure OkK (P : Program) (w : World) (K : PySem.W.Frag) (mg : Str → Option Value) (base : Heap) (k : Nat) (x : Str) (n nn : Nat) (ks : List Str) (is : List Nat) (mf : List D → R D) : Prop where
  ex : ∃ (f : Addr) (fd : FuncData) (ps : List Str), mg x = some (.ref f) ∧ PySem.W.keepIn K (.ref f) = true ∧ (∀ (s : Shared) (us ws : List Value), us.length = nn → ws.length = ks.length → BindsTo s fd ⟨us, ks.zip ws⟩ (ps.zip (permL is (us ++ ws)))) ∧ FnOk P w K mg base (L2.CX P w) k f fd ps (PF K mg n mf)
theorem Vals.perm {vs : List V} {us : List Value} (h : Vals vs us) : ∀ is : List Nat, Vals (permL is vs) (permL is us)
  | [] => .nil
  | i :: is => by
    unfold permL
    rw [List.filterMap_cons, List.filterMap_cons]
    cases e : vs[i]? with
    | none =>
      rw [h.none_of e]
      exact Vals.perm h is
    | some v =>
      obtain ⟨u, hu, r⟩ := h.get e
      rw [hu]
      exact .cons r (Vals.perm h is)
theorem RepL.perm {K : PySem.W.Frag} {mg : Str → Option Value} {G : Hp} {ds : List D} {vs : List V} (h : RepL K mg G ds vs) : ∀ is : List Nat, RepL K mg G (permL is ds) (permL is vs)
  | [] => RepL.nil
  | i :: is => by
    unfold permL
    rw [List.filterMap_cons, List.filterMap_cons]
    cases e : ds[i]? with
    | none =>
      have : vs[i]? = none := by
        rw [List.getElem?_eq_none_iff] at e ⊢
        rw [h.length]
        exact e
      rw [this]
      exact RepL.perm h is
    | some d =>
      obtain ⟨v, hv, r⟩ := h.get e
      rw [hv]
      exact RepL.cons r (RepL.perm h is)
variable {k kk n nn : Nat} {x : Str} {p1 : Pos} {mf : List D → R D}
theorem ee_callO (tk : Takes X W) (F : Ok X.prog X.w X.K X.mg X.base k x n mf) (hr : Room kk X.A) (hk : k ≤ kk) (ha : EA X W (a :: es) ms) (hl : ALen ms n) (hg : Gl X x := by rfl) (hdb : (x == ("__debug__" : Str)) = false := by decide)
    (he : starEach (a :: es) X.env = (false, eval a X.env) :: starEach es X.env := by rfl) (hpl : (backTo pos (starEach es X.env)).any (·.1) = false := by rfl) : EE X W (.Call (.Name x p1) (a :: es) [] pos) (mCallB mf ms) := by
  obtain ⟨f, fd, ps, h1, h2, h3, h4⟩ := F.ex
  exact ee_call tk h4 hr hk h1 h2 h3 ha hl hg hdb he hpl
theorem SimA.lenW {t : TA} (ha : SimAW X W t ms) (hl : ∀ r ds, ms r = .ok ds → ds.length = n) (hx : ∀ ds c ns xs, mf ds ≠ .exc c ns xs) : SimW X W (tCallS (PF X.K X.mg n mf) (WE W) t) (mCallB mf ms) := fun nn Z H0 m r σ H q Q p => by
  unfold mCallB at p
  have p' := p.bind
  cases e : ms r with
  | ok ds =>
    refine ha nn Z H0 m r σ H q _ ?_
    rw [e] at p' ⊢
    intro vs H1 s1 rx
    have p2 : PostG X.K X.mg Z m W σ H (mf ds) (fun d => ∀ (v : V) (H' : Hp), Same H H' → Rep X.K X.mg (hid Z nom H') d v → Q v H') := p'
    exact pf_weak (q.grow s1) (by rw [rx.length, hl r ds e]) rx (hx ds) ((p2.grow s1).imp fun d k3 v H' s3 rv => k3 v H' (s1.trans s3) rv)
  | exc cc ns xs =>
    refine ha nn Z H0 m r σ H q _ ?_
    rw [e] at p' ⊢
    exact p'
  | bad =>
    rw [e] at p'
    exact False.elim p'
/-- a keyword's values -/
structure EK (X : Cx) (W : WX) (kws : List Keyword) (ms : MA) : Prop where
  ex : ∃ t, PK X kws t ∧ SimA X W t ms
variable {kws : List Keyword} {nm : Option Str} {kpos : Pos} {mk : MA} {ks : List Str} {is : List Nat}
theorem ek_nil : EK X W [] mNil := ⟨_, pk_nil, fun n Z H0 m r σ H q Q p => p [] H (Same.refl H) RepL.nil⟩
theorem ek_cons (h : EE X W e me) (g : EK X W kws ms) : EK X W (⟨nm, e, kpos⟩ :: kws) (mCons me ms) := by
  obtain ⟨t, h1, h2⟩ := h.ex
  obtain ⟨u, h3, h4⟩ := g.ex
  refine ⟨_, pk_cons h1 h3, fun n Z H0 m r σ H q Q p => h2 n Z H0 m r σ H q _ (p.bind.imp fun d k x H1 s1 rx => ?_)⟩
  refine h4 n Z H0 m r σ H1 (q.grow s1) _ ((k.grow s1).bind.imp fun ds k2 xs H2 s2 rxs => ?_)
  exact k2 (x :: xs) H2 (s1.trans s2) (RepL.cons (rx.mono (hid_mono s2)) rxs)
def tCallKS (sp : Sp) (is : List Nat) (n m : Nat) (E : L2.St → XK) (t tk : TA) : TE := fun σ H Q => t σ H fun vs H1 => tk σ H1 fun zs H2 => vs.length = n ∧ zs.length = m ∧ sp (permL is (vs ++ zs)) H2 Q (E σ)
theorem run_fnK {CX : CXT} {f : Addr} {fd : FuncData} {ps : List Str} {sp : Sp} {E : L2.St → XK} {pins : List (Addr × Obj)} {σ : L2.St} {H : Hp} {s : Shared} {Q : VK} {us ws : List Value} {vs zs : List V} (F : FnOk X.prog X.w X.K X.mg X.base CX k f fd ps sp) (hr : Room k X.A)
    (hb : ∀ (s : Shared) (us ws : List Value), us.length = nn → ws.length = ks.length → BindsTo s fd ⟨us, ks.zip ws⟩ (ps.zip (permL is (us ++ ws)))) (hx : PassesAt CX X σ (E σ))
    (I : Inv X pins σ H s) (r : Vals vs us) (rz : Vals zs ws) (l1 : vs.length = nn) (l2 : zs.length = ks.length) (h : sp (permL is (vs ++ zs)) H Q (E σ)) : wpAny (model X.prog X.w) X.A (call (.ref f) us (ks.zip ws)) (EP X pins σ Q) X.xe s := by
  refine wpAny_call (codeAny_mono (F.run X.A X.stack s H ⟨us, ks.zip ws⟩ (permL is (us ++ ws)) (permL is (vs ++ zs)) Q (E σ) hr I.env0 (hb s us ws (r.length.symm.trans l1) (rz.length.symm.trans l2)) (Vals.perm (r.append rz) is) h) fun r s' hq => ?_)
  cases r with
  | error e => exact hx pins H s e s' I hq
  | ok fl =>
    cases fl with
    | ret u => exact I.after hq
    | next => exact False.elim hq
    | brk => exact False.elim hq
    | cont => exact False.elim hq
theorem pe_kw0 {CX : CXT} {f : Addr} {fd : FuncData} {ps : List Str} {sp : Sp} {E : L2.St → XK} {tk : TA} (F : FnOk X.prog X.w X.K X.mg X.base CX k f fd ps sp) (hr : Room k X.A) (hg : Gl X x) (hm : X.mg x = some (.ref f)) (hk : PySem.W.keepIn X.K (.ref f) = true)
    (hb : ∀ (s : Shared) (us ws : List Value), us.length = 0 → ws.length = ks.length → BindsTo s fd ⟨us, ks.zip ws⟩ (ps.zip (permL is (us ++ ws)))) (hx : ∀ σ, PassesAt CX X σ (E σ)) (hkw : PK X kws tk)
    (hall : (backToKw pos (keywordEach kws X.env)).all (·.1.isSome) = true) (hks : (backToKw pos (keywordEach kws X.env)).filterMap (·.1) = ks) (hdb : (x == ("__debug__" : Str)) = false)
    (hpl : ((backTo pos (starEach [] X.env)).any (·.1) || (backToKw pos (keywordEach kws X.env)).any (·.1.isNone)) = false) :
    PE X (.Call (.Name x p1) [] kws pos) (tCallKS sp is 0 ks.length E tNil tk) := by
  refine ⟨fun pins s σ H Q I h => ?_⟩
  refine wpAny_Call_Name_kw (ld_glob I hg hm ?_ hdb)
  refine PySem.W.callWith_KW0 (h₀ := X.base) I.ok.mod.kin hk hall ?_ hpl
  refine thn (hkw.run pos pins s σ H _ I h) fun ws s2 ⟨zs, H2, I2, rz, l1, l2, q2⟩ => ⟨I2.kIn, ?_⟩
  rw [hks]
  exact run_fnK (us := []) (vs := []) F hr hb (hx σ) I2 .nil rz rfl l2 q2
theorem pe_kw {CX : CXT} {f : Addr} {fd : FuncData} {ps : List Str} {sp : Sp} {E : L2.St → XK} {t tk : TA} (F : FnOk X.prog X.w X.K X.mg X.base CX k f fd ps sp) (hr : Room k X.A) (hg : Gl X x) (hm : X.mg x = some (.ref f)) (hk : PySem.W.keepIn X.K (.ref f) = true)
    (hb : ∀ (s : Shared) (us ws : List Value), us.length = nn → ws.length = ks.length → BindsTo s fd ⟨us, ks.zip ws⟩ (ps.zip (permL is (us ++ ws)))) (hx : ∀ σ, PassesAt CX X σ (E σ)) (ha : PA X (a :: es) t) (hkw : PK X kws tk)
    (hall : (backToKw pos (keywordEach kws X.env)).all (·.1.isSome) = true) (hks : (backToKw pos (keywordEach kws X.env)).filterMap (·.1) = ks) (hdb : (x == ("__debug__" : Str)) = false)
    (he : starEach (a :: es) X.env = (false, eval a X.env) :: starEach es X.env) (hpl : ((backTo pos (starEach (a :: es) X.env)).any (·.1) || (backToKw pos (keywordEach kws X.env)).any (·.1.isNone)) = false) :
    PE X (.Call (.Name x p1) (a :: es) kws pos) (tCallKS sp is nn ks.length E t tk) := by
  refine ⟨fun pins s σ H Q I h => ?_⟩
  refine wpAny_Call_Name_kw (ld_glob I hg hm ?_ hdb)
  refine PySem.W.callWith_KW (h₀ := X.base) I.ok.mod.kin hk hall (thn (ha.run pos pins s σ H _ I h) fun us s1 ⟨vs, H1, I1, r, q⟩ => ?_) hpl he
  refine thn (hkw.run pos pins s1 σ H1 _ I1 q) fun ws s2 ⟨zs, H2, I2, rz, l1, l2, q2⟩ => ⟨I2.kIn, ?_⟩
  rw [hks]
  exact run_fnK F hr hb (hx σ) I2 r rz l1 l2 q2
def mCallK (mf : List D → R D) (is : List Nat) (ms mk : MA) : ME := fun r => (ms r).bind fun ds => (mk r).bind fun es => mf (permL is (ds ++ es))
theorem SimE.kw {t tk : TA} (ha : SimA X W t ms) (hb : SimA X W tk mk) (h1 : ALen ms nn) (h2 : ALen mk ks.length) (hn : ∀ {α : Type} (l : List α), l.length = nn + ks.length → (permL is l).length = n) :
    SimE X W (tCallKS (PF X.K X.mg n mf) is nn ks.length (WE W) t tk) (mCallK mf is ms mk) := fun n' Z H0 m r σ H q Q p => by
  unfold mCallK at p
  have p' := p.bind
  cases e : ms r with
  | ok ds =>
    refine ha n' Z H0 m r σ H q _ ?_
    rw [e] at p' ⊢
    intro vs H1 s1 rx
    have p2 : PostG X.K X.mg Z m W σ H ((mk r).bind fun es => mf (permL is (ds ++ es))) (fun d => ∀ (v : V) (H' : Hp), Same H H' → Rep X.K X.mg (hid Z m H') d v → Q v H') := p'
    have p3 := p2.bind
    cases e2 : mk r with
    | ok fs =>
      refine hb n' Z H0 m r σ H1 (q.grow s1) _ ?_
      rw [e2] at p3 ⊢
      intro us H2 s2 ru
      have l1 := h1 r ds e
      have l2 := h2 r fs e2
      have p4 : PostG X.K X.mg Z m W σ H (mf (permL is (ds ++ fs))) (fun d => ∀ (v : V) (H' : Hp), Same H H' → Rep X.K X.mg (hid Z m H') d v → Q v H') := p3
      have rx2 := (rx.mono (hid_mono s2)).append ru
      refine ⟨by rw [rx.length, l1], by rw [ru.length, l2], pf_strong ((q.grow s1).grow s2) ?_ (rx2.perm is) ((p4.grow (s1.trans s2)).imp fun d k3 v H' s3 rv => k3 v H' ((s1.trans s2).trans s3) rv)⟩
      exact hn _ (by rw [List.length_append, rx.length, ru.length, l1, l2])
    | exc cc ns xs =>
      refine hb n' Z H0 m r σ H1 (q.grow s1) _ ?_
      rw [e2] at p3 ⊢
      intro C d H' s' e'
      exact p3 C d H' (s1.trans s') e'
    | bad =>
      rw [e2] at p3
      exact False.elim p3
  | exc cc ns xs =>
    refine ha n' Z H0 m r σ H q _ ?_
    rw [e] at p' ⊢
    exact p'
  | bad =>
    rw [e] at p'
    exact False.elim p'
theorem ee_kw0 (tk : Takes X W) (F : OkK X.prog X.w X.K X.mg X.base k x n 0 ks is mf) (hr : Room kk X.A) (hk : k ≤ kk) (hkw : EK X W kws mk) (h2 : ALen mk ks.length) (hn : ∀ {α : Type} (l : List α), l.length = 0 + ks.length → (permL is l).length = n)
    (hall : (backToKw pos (keywordEach kws X.env)).all (·.1.isSome) = true := by rfl) (hks : (backToKw pos (keywordEach kws X.env)).filterMap (·.1) = ks := by rfl) (hg : Gl X x := by rfl) (hdb : (x == ("__debug__" : Str)) = false := by decide)
    (hpl : ((backTo pos (starEach [] X.env)).any (·.1) || (backToKw pos (keywordEach kws X.env)).any (·.1.isNone)) = false := by rfl) : EE X W (.Call (.Name x p1) [] kws pos) (mCallK mf is mNil mk) := by
  obtain ⟨f, fd, ps, g1, g2, g3, g4⟩ := F.ex
  obtain ⟨t, h3, h4⟩ := hkw.ex
  exact ⟨_, pe_kw0 g4 (hr.mono hk) hg g1 g2 g3 (fun σ => passAt tk σ) h3 hall hks hdb hpl, SimE.kw (fun n Z H0 m r σ H q Q p => p [] H (Same.refl H) RepL.nil) h4 al_nil h2 hn⟩
theorem ee_kw (tk : Takes X W) (F : OkK X.prog X.w X.K X.mg X.base k x n nn ks is mf) (hr : Room kk X.A) (hk : k ≤ kk) (ha : EA X W (a :: es) ms) (h1 : ALen ms nn) (hkw : EK X W kws mk) (h2 : ALen mk ks.length) (hn : ∀ {α : Type} (l : List α), l.length = nn + ks.length → (permL is l).length = n)
    (hall : (backToKw pos (keywordEach kws X.env)).all (·.1.isSome) = true := by rfl) (hks : (backToKw pos (keywordEach kws X.env)).filterMap (·.1) = ks := by rfl) (hg : Gl X x := by rfl) (hdb : (x == ("__debug__" : Str)) = false := by decide)
    (he : starEach (a :: es) X.env = (false, eval a X.env) :: starEach es X.env := by rfl) (hpl : ((backTo pos (starEach (a :: es) X.env)).any (·.1) || (backToKw pos (keywordEach kws X.env)).any (·.1.isNone)) = false := by rfl) : EE X W (.Call (.Name x p1) (a :: es) kws pos) (mCallK mf is ms mk) := by
  obtain ⟨f, fd, ps, g1, g2, g3, g4⟩ := F.ex
  obtain ⟨u, h5, h6⟩ := ha.ex
  obtain ⟨t, h3, h4⟩ := hkw.ex
  exact ⟨_, pe_kw g4 (hr.mono hk) hg g1 g2 g3 (fun σ => passAt tk σ) h5 h3 hall hks hdb he hpl, SimE.kw h6 h4 h1 h2 hn⟩
end
end QB

namespace QB
open PySem PySem.Spec PyProof.Rows L2
theorem ee_globI {X : Cx} {W : WX} {x : Str} {pos : Pos} {i : Int} {t : Tok} (hm : X.mg x = some (.int i t)) (hg : Gl X x := by rfl) (hdb : (x == ("__debug__" : Str)) = false := by decide) : EE X W (.Name x pos) (mC (.int i)) :=
  ee_glob (v := .int i) hg hm ⟨t, rfl⟩ (fun _ => by simp [Rep]) hdb
theorem ee_globS {X : Cx} {W : WX} {x : Str} {pos : Pos} {i : Str} {t : Tok} (hm : X.mg x = some (.str i t)) (hg : Gl X x := by rfl) (hdb : (x == ("__debug__" : Str)) = false := by decide) : EE X W (.Name x pos) (mC (.str i)) :=
  ee_glob (v := .str i) hg hm ⟨t, rfl⟩ (fun _ => by simp [Rep]) hdb
/-! ### the law's end -/
def spLaw (K : PySem.W.Frag) : Sp := fun vs H Q _ => ∃ (a : Addr) (ns : List Int), vs = [.ref a] ∧ SqL K H a (ns.map V.int) ∧ ns.length ≤ 63 ∧ (∀ z ∈ ns, Builtin.Int.intBits z ≤ 1048576) ∧ ∀ H', Q (.bl true) H'
theorem repL_ints {K : PySem.W.Frag} {mg : Str → Option Value} {G : Hp} : ∀ ns : List Int, RepL K mg G (ns.map D.int) (ns.map V.int)
  | [] => by simp [RepL]
  | n :: ns => RepL.cons (by simp [Rep]) (repL_ints ns)
theorem law_imp {K : PySem.W.Frag} {mg : Str → Option Value} {m : List D → R D} (hm : ∀ ns : List Int, ns.length ≤ 63 → (∀ z ∈ ns, Builtin.Int.intBits z ≤ 1048576) → m [.slst (ns.map D.int)] = .ok (.bl true)) {vs : List V} {H : Hp} {Q : VK} {E : XK} (h : spLaw K vs H Q E) : PF K mg 1 m vs H Q E := by
  obtain ⟨a, ns, rfl, hS, hl, hb, k⟩ := h
  refine ⟨rfl, [.slst (ns.map D.int)], fun _ => False, fun _ z => z.elim, RepL.cons ?_ RepL.nil, ?_⟩
  · simp only [Rep]
    refine ⟨a, ns.map V.int, rfl, Same.seq (fun b o e => hid_of e (fun z => z) fun _ z => nomatch z) hS, repL_ints ns⟩
  · rw [hm ns hl hb]
    intro v H' _ r
    simp only [Rep] at r
    subst r
    exact k H'
theorem no_exc {P : Program} {w : World} {H : Hp} {s : Shared} {e : Value} {s' : Shared} (h : L2.CX P w [] H s (fun _ _ _ => False) e s') : False := by
  obtain ⟨_, _, _, _, _, _, _, _, _, _, _, _, z⟩ := h
  exact z
end QB

namespace QB
open PySem PySem.Spec PyProof.Rows L2
/-! ### list comprehensions -/
abbrev W0 : WX := fun _ _ _ _ => False
def R.ne {α : Type} (x : R α) : R α := match x with
  | .ok a => .ok a
  | _ => .bad
def notOwn (r : Sc) (vs : List Nat) : Bool := vs.all fun i => match r[i]? with
  | some (some (.own _)) => false
  | none => false
  | _ => true
def wipeS (r : Sc) : List Nat → Sc
  | [] => r
  | v :: vs => (wipeS r vs).set v none
def compL (tb : D → Sc → Option Sc) (mt : MT) (me : ME) (r0 : Sc) : List D → List D → R Cell
  | [], acc => .ok (.l acc)
  | d :: ds, acc => match tb d r0 with
    | none => .bad
    | some r1 => (mt r1).ne.bind fun k => match k with
      | true => (me r1).ne.bind fun x => if acc.length < sizeLine then compL tb mt me r0 ds (acc ++ [x]) else .bad
      | false => compL tb mt me r0 ds acc
def mLC (vs : List Nat) (mi : MA) (tb : D → Sc → Option Sc) (mt : MT) (me : ME) : MF := fun r => match notOwn r vs with
  | true => (mi r).bind fun ds => compL tb mt me (wipeS r vs) ds []
  | false => .bad
def mYes : MT := fun _ => .ok true
section
variable {X Y : Cx} {W : WX} {e elt tg iter : Expr} {ifs : List Expr} {scope : Scope} {own : List (Str × Nat)} {pos : Pos} {ma : MA} {me : ME} {mt : MT} {tb : D → Sc → Option Sc} {vs : List Nat}
structure EC (X : Cx) (ifs : List Expr) (mt : MT) : Prop where
  ex : ∃ t, PTs X ifs t ∧ SimT X W0 t mt
theorem ec_nil : EC X [] mYes := ⟨_, pts_nil, fun n Z H0 m r σ H q Q p => p H (Same.refl H)⟩
theorem ec_one (h : ET X W0 e mt) : EC X [e] mt := by
  obtain ⟨t, h1, h2⟩ := h.ex
  exact ⟨t, pts_one h1, h2⟩

/-- a comprehension's target: the slots vs alone change, none of them owns -/
structure CG (X : Cx) (vs : List Nat) (tg : Expr) (tb : D → Sc → Option Sc) : Prop where
  ex : ∃ g, PG X tg g ∧ ∀ (n : Nat) (Z : Addr → Prop) (H0 : Hp) (m : Nat → Option Addr) (r : Sc) (σ : L2.St) (H : Hp), (∀ i ∈ vs, i < n) → Rel X.K X.mg n Z H0 m r σ H → (∀ i ∈ vs, m i = none) → ∀ (d : D) (v : V) (Q : L2.St → Hp → Prop), Rep X.K X.mg (hid Z m H) d v →
    (match tb d r with
      | some r' => ∀ (σ' : L2.St), Rel X.K X.mg n Z H0 m r' σ' H → wipe σ' vs = wipe σ vs → Q σ' H
      | none => False) → g v σ H Q
theorem drp_none {m : Nat → Option Addr} {i : Nat} (h : m i = none) : drp m i = m := by
  funext j
  unfold drp
  split
  · rename_i e
    rw [e, h]
  · rfl
theorem wipe_set {σ : L2.St} {i : Nat} {x : Option V} : ∀ {vs : List Nat}, i ∈ vs → wipe (σ.set i x) vs = wipe σ vs
  | [], h => by cases h
  | v :: vs, h => by
    unfold wipe
    by_cases e : i ∈ vs
    · rw [wipe_set e]
    · have ev : i = v := by
        rcases List.mem_cons.mp h with e2 | e2
        · exact e2
        · exact absurd e2 e
      subst ev
      have key : ∀ (ws : List Nat) (τ : L2.St), (wipe (τ.set i x) ws).set i none = (wipe τ ws).set i none := by
        intro ws
        induction ws with
        | nil =>
          intro τ
          unfold wipe
          rw [List.set_set]
        | cons w ws ih =>
          intro τ
          unfold wipe
          by_cases ew : w = i
          · subst ew
            rw [List.set_set, List.set_set]
            exact ih τ
          · rw [List.set_comm _ _ ew, List.set_comm _ _ ew, ih τ]
      exact key vs σ
theorem cg_name {i : Nat} {x : Str} (hN : X.N.Nodup) (hi : X.N[i]? = some x) (hx : Loc X.env.scope x) (hv : i ∈ vs) (hf : X.fn x = true ∨ X.env.scope.names.lookup x = some .local := by first | exact .inl rfl | exact .inr rfl | assumption) : CG X vs (.Name x pos) (bName i) := by
  refine ⟨_, pg_name hN hi hx hf, fun n Z H0 m r σ H hn q hm d v Q rv p => ?_⟩
  have q' := q.setv (i := i) (hn i hv) rv
  rw [drp_none (hm i hv)] at q'
  exact p _ q' (wipe_set hv)
theorem own_none {K : PySem.W.Frag} {mg : Str → Option Value} {n : Nat} {Z : Addr → Prop} {H0 : Hp} {m : Nat → Option Addr} {r : Sc} {σ : L2.St} {H : Hp} (q : Rel K mg n Z H0 m r σ H) (h : notOwn r vs = true) : ∀ i ∈ vs, m i = none := by
  intro i hi
  cases e : m i with
  | none => rfl
  | some a =>
    obtain ⟨c, hc⟩ := q.dom i a e
    have h2 := List.all_eq_true.mp h i hi
    rw [hc] at h2
    cases h2
theorem own_lt {K : PySem.W.Frag} {mg : Str → Option Value} {n : Nat} {Z : Addr → Prop} {H0 : Hp} {m : Nat → Option Addr} {r : Sc} {σ : L2.St} {H : Hp} (q : Rel K mg n Z H0 m r σ H) (h : notOwn r vs = true) : ∀ i ∈ vs, i < n := by
  intro i hi
  have h2 := List.all_eq_true.mp h i hi
  rw [← q.lenr]
  refine Nat.lt_of_not_le fun z => ?_
  rw [List.getElem?_eq_none z] at h2
  cases h2
theorem wipe_rel {K : PySem.W.Frag} {mg : Str → Option Value} {n : Nat} {Z : Addr → Prop} {H0 : Hp} {m : Nat → Option Addr} {r : Sc} {σ : L2.St} {H : Hp} (q : Rel K mg n Z H0 m r σ H) : ∀ {vs : List Nat}, (∀ i ∈ vs, m i = none) → Rel K mg n Z H0 m (wipeS r vs) (wipe σ vs) H
  | [], _ => q
  | v :: vs, h => by
    have q1 := wipe_rel q (vs := vs) fun i hi => h i (List.mem_cons_of_mem _ hi)
    have hv := h v List.mem_cons_self
    unfold wipeS wipe
    refine ⟨by rw [List.length_set, q1.lenr], by rw [List.length_set, q1.lens], fun j d hj => ?_, fun j c hj => ?_, fun j a hj => ?_, q1.inj, q1.frs, q1.zed, q1.same⟩
    · rcases getset hj with ⟨_, e2⟩ | ⟨e1, e2⟩
      · cases e2
      · obtain ⟨w, h1, h2⟩ := q1.val j d e2
        exact ⟨w, by rw [List.getElem?_set_ne (Ne.symm e1)]; exact h1, h2⟩
    · rcases getset hj with ⟨_, e2⟩ | ⟨e1, e2⟩
      · cases e2
      · obtain ⟨a, o, h1, h2, h3, h4⟩ := q1.own j c e2
        exact ⟨a, o, h1, by rw [List.getElem?_set_ne (Ne.symm e1)]; exact h2, h3, h4⟩
    · have nv : j ≠ v := fun e => by
        subst e
        rw [hv] at hj
        cases hj
      obtain ⟨c, hc⟩ := q1.dom j a hj
      exact ⟨c, by rw [List.getElem?_set_ne (Ne.symm nv)]; exact hc⟩
theorem ne_post {K : PySem.W.Frag} {mg : Str → Option Value} {Z : Addr → Prop} {m : Nat → Option Addr} {σ : L2.St} {H : Hp} {β γ : Type} {x : R β} {f : β → R γ} {k : R γ → Prop} (h : k (x.ne.bind f)) (hb : ¬ k .bad) : PostG K mg Z m W0 σ H x (fun b => k (f b)) := by
  cases x with
  | ok b => exact h
  | exc c ns xs => exact absurd h hb
  | bad => exact absurd h hb
/-- the comprehension's reading -/
theorem SimF.lc {wi : TI} {g : TG} {tt : TT} {te : TE}
    (hi : ∀ (n : Nat) (Z : Addr → Prop) (H0 : Hp) (m : Nat → Option Addr) (r : Sc) (σ : L2.St) (H : Hp), Rel X.K X.mg n Z H0 m r σ H → ∀ R' : It → Hp → Prop, PostG X.K X.mg Z m W σ H (ma r) (fun ds => ∀ (J : It) (H' : Hp), Same H H' → ItOk X.K X.mg (hid Z m H') J ds → R' J H') → wi σ H R')
    (hg : ∀ (n : Nat) (Z : Addr → Prop) (H0 : Hp) (m : Nat → Option Addr) (r : Sc) (σ : L2.St) (H : Hp), (∀ i ∈ vs, i < n) → Rel X.K X.mg n Z H0 m r σ H → (∀ i ∈ vs, m i = none) → ∀ (d : D) (v : V) (Q : L2.St → Hp → Prop), Rep X.K X.mg (hid Z m H) d v → (match tb d r with
      | some r' => ∀ (σ' : L2.St), Rel X.K X.mg n Z H0 m r' σ' H → wipe σ' vs = wipe σ vs → Q σ' H
      | none => False) → g v σ H Q)
    (ht : SimT X W0 tt mt) (he : SimE X W0 te me) : ∀ (n : Nat) (Z : Addr → Prop) (H0 : Hp) (m : Nat → Option Addr) (r : Sc) (σ : L2.St) (H : Hp), Rel X.K X.mg n Z H0 m r σ H → ∀ Q : VK,
      PostG X.K X.mg Z m W σ H (mLC vs ma tb mt me r) (fun c => ∀ (p : Addr) (o : HO) (H' : Hp), Same H H' → H' p = none → CellOk X.K X.mg (hid Z m H') o c → Q (.ref p) (upd H' p o)) → tLc wi g tt te vs σ H Q := by
  intro n Z H0 m r σ H q Q p
  unfold mLC at p
  cases hno : notOwn r vs with
  | false =>
    rw [hno] at p
    exact False.elim p
  | true =>
    rw [hno] at p
    have hm := own_none q hno
    have hn := own_lt q hno
    refine hi n Z H0 m r σ H q _ (p.bind.imp fun ds k J H1 s1 io => ?_)
    intro D0 hD
    have q1 := q.grow s1
    -- the new list at D0 is hidden while it grows: Z2
    refine ⟨fun i j H2 => i + j = ds.length ∧ ∃ (acc : List D) (avs : List V) (G2 : Hp), Same H1 G2 ∧ G2 D0 = none ∧ H2 = upd G2 D0 (.lst avs) ∧ RepL X.K X.mg (hid Z m G2) acc avs ∧
      PostG X.K X.mg Z m W σ H (compL tb mt me (wipeS r vs) (ds.drop i) acc) (fun c => ∀ (p : Addr) (o : HO) (H' : Hp), Same H H' → H' p = none → CellOk X.K X.mg (hid Z m H') o c → Q (.ref p) (upd H' p o)), ⟨ds.length, by omega, [], [], H1, Same.refl _, hD, rfl, RepL.nil, k⟩, ?_⟩
    rintro i j H2 ⟨hij, acc, avs, G2, sG, nD, rfl, rA, k2⟩
    have q2 := q1.grow sG
    have sU : Same G2 (upd G2 D0 (.lst avs)) := same_upd nD
    have sI : Same (hid Z m H1) (upd G2 D0 (.lst avs)) := fun b o e => sU b o (sG b o (hid_sub b o e))
    by_cases hlt : i < ds.length
    · obtain ⟨g1, g2⟩ := io.go _ i sI hlt
      refine .inr ⟨g1, fun H' => ∃ (acc : List D) (avs : List V) (G2 : Hp), Same H1 G2 ∧ G2 D0 = none ∧ H' = upd G2 D0 (.lst avs) ∧ RepL X.K X.mg (hid Z m G2) acc avs ∧
        PostG X.K X.mg Z m W σ H (compL tb mt me (wipeS r vs) (ds.drop (i + 1)) acc) (fun c => ∀ (p : Addr) (o : HO) (H' : Hp), Same H H' → H' p = none → CellOk X.K X.mg (hid Z m H') o c → Q (.ref p) (upd H' p o)), fun H' z => ⟨j - 1, by omega, by omega, z⟩, fun x H' hy => ?_⟩
      obtain ⟨rfl, d, hd, rd⟩ := g2 x H' hy
      have ed : ds.drop i = d :: ds.drop (i + 1) := by
        have e : ds[i] = d := by
          rw [List.getElem?_eq_getElem hlt] at hd
          exact Option.some.inj hd
        rw [← e]
        exact List.drop_eq_getElem_cons hlt
      rw [ed] at k2
      -- D0 joins what is hidden
      let Z2 : Addr → Prop := fun b => Z b ∨ b = D0
      have hZ2 : ∀ {HH : Hp}, Same (hid Z2 m HH) (hid Z m HH) := fun {HH} b o e => by
        obtain ⟨e1, e2, e3⟩ := of_hid e
        exact hid_of e1 (fun z => e2 (.inl z)) e3
      have hG : ∀ {HH : Hp}, Same (upd G2 D0 (.lst avs)) HH → Same (hid Z m G2) (hid Z2 m HH) := fun {HH} s b o e => by
        obtain ⟨e1, e2, e3⟩ := of_hid e
        refine hid_of (s b o (sU b o e1)) (fun z => ?_) e3
        rcases z with z | z
        · exact e2 z
        · rw [z, nD] at e1
          cases e1
      have nmD : ∀ j, m j ≠ some D0 := (q2.new nD).2
      have qZ : Rel X.K X.mg n Z2 H0 m (wipeS r vs) (wipe σ vs) (upd G2 D0 (.lst avs)) := by
        have q3 := wipe_rel q2 hm
        refine ⟨q3.lenr, q3.lens, fun j d hj => ?_, fun j c hj => ?_, q3.dom, q3.inj, fun j a hj => ?_, fun b hb => ?_, q3.same.trans sU⟩
        · obtain ⟨w, h1, h2⟩ := q3.val j d hj
          exact ⟨w, h1, h2.mono (hG (Same.refl _))⟩
        · obtain ⟨a, o, h1, h2, h3, h4⟩ := q3.own j c hj
          exact ⟨a, o, h1, h2, sU _ _ h3, h4.mono (hG (Same.refl _))⟩
        · obtain ⟨f1, f2⟩ := q3.frs j a hj
          refine ⟨f1, fun z => ?_⟩
          rcases z with z | z
          · exact f2 z
          · exact nmD j (by rw [← z]; exact hj)
        · rcases hb with hb | hb
          · intro e
            cases e2 : G2 b with
            | none => exact q3.zed b hb e2
            | some o =>
              rw [sU _ _ e2] at e
              cases e
          · rw [hb, upd_same]
            intro z
            cases z
      have rdZ : Rep X.K X.mg (hid Z2 m (upd G2 D0 (.lst avs))) d x := by
        refine rd.mono fun b o e => ?_
        obtain ⟨e1, e2, e3⟩ := of_hid e
        refine hid_of (sU b o (sG b o e1)) (fun z => ?_) e3
        rcases z with z | z
        · exact e2 z
        · rw [z, hD] at e1
          cases e1
      refine hg n Z2 H0 m (wipeS r vs) (wipe σ vs) _ hn qZ hm d x _ rdZ ?_
      simp only [compL] at k2
      cases e1 : tb d (wipeS r vs) with
      | none =>
        rw [e1] at k2
        exact k2
      | some r1 =>
        rw [e1] at k2
        intro σ' q3 hw
        have hww : wipe (wipe σ vs) vs = wipe σ vs := by
          have key : ∀ (ws us : List Nat), (∀ a ∈ us, a ∈ ws) → ∀ τ : L2.St, wipe (wipe τ us) ws = wipe τ ws := by
            intro ws us
            induction us with
            | nil => intro _ τ; rfl
            | cons a us ih =>
              intro hs τ
              show wipe ((wipe τ us).set a none) ws = wipe τ ws
              rw [wipe_set (hs a List.mem_cons_self)]
              exact ih (fun b hb => hs b (List.mem_cons_of_mem _ hb)) τ
          exact key vs vs (fun _ h => h) σ
        refine ⟨hw.trans hww, ?_⟩
        refine ht n Z2 H0 m r1 σ' _ q3 _ (PostG.imp (ne_post (K := X.K) (mg := X.mg) (Z := Z2) (m := m) (k := fun z => PostG X.K X.mg Z m W σ H z _) k2 (fun z => z)) fun b k3 H3 s3 => ?_)
        have qB := q3.grow s3
        cases b with
        | false =>
          rw [if_neg Bool.false_ne_true]
          -- nothing is put in: the heap is H3, D0 still holds avs
          refine ⟨acc, avs, fun b => if b = D0 then none else H3 b, fun b o e => ?_, by simp, ?_, rA.mono ?_, k3⟩
          · have nb : b ≠ D0 := fun z => by
              rw [z, hD] at e
              cases e
            show (if b = D0 then none else H3 b) = some o
            rw [if_neg nb]
            exact s3 _ _ (sU _ _ (sG _ _ e))
          · funext b
            unfold upd
            by_cases eb : b = D0
            · rw [if_pos eb, eb]
              exact s3 _ _ upd_same
            · rw [if_neg eb]
              exact (if_neg eb).symm
          · intro b o e
            obtain ⟨z1, z2, z3⟩ := of_hid e
            have nb : b ≠ D0 := fun z => by
              rw [z, nD] at z1
              cases z1
            exact hid_of (by show (if b = D0 then none else H3 b) = some o; rw [if_neg nb]; exact s3 _ _ (sU _ _ z1)) z2 z3
        | true =>
          rw [if_pos rfl]
          refine he n Z2 H0 m r1 σ' _ qB _ (PostG.imp (ne_post (K := X.K) (mg := X.mg) (Z := Z2) (m := m) (k := fun z => PostG X.K X.mg Z m W σ H z _) k3 (fun z => z)) fun y k4 v H4 s4 ry => ?_)
          split at k4
          · rename_i hz
            have s34 : Same (upd G2 D0 (.lst avs)) H4 := s3.trans s4
            refine ⟨avs, s34 _ _ upd_same, by rw [rA.length]; exact hz, acc ++ [y], avs ++ [v], fun b => if b = D0 then none else H4 b, fun b o e => ?_, by simp, ?_, ?_, k4⟩
            · have nb : b ≠ D0 := fun z => by
                rw [z, hD] at e
                cases e
              show (if b = D0 then none else H4 b) = some o
              rw [if_neg nb]
              exact s34 _ _ (sU _ _ (sG _ _ e))
            · funext b
              unfold upd
              by_cases eb : b = D0
              · rw [if_pos eb, if_pos eb]
              · rw [if_neg eb, if_neg eb]
                exact (if_neg eb).symm
            · have toB : Same (hid Z2 m H4) (hid Z m (fun b => if b = D0 then none else H4 b)) := fun b o e => by
                obtain ⟨z1, z2, z3⟩ := of_hid e
                have nb : b ≠ D0 := fun z => z2 (.inr z)
                exact hid_of (by show (if b = D0 then none else H4 b) = some o; rw [if_neg nb]; exact z1) (fun z => z2 (.inl z)) z3
              exact (rA.mono ((hG s34).trans toB)).append (RepL.cons (ry.mono toB) RepL.nil)
          · exact False.elim k4
    · have e : i = ds.length := by omega
      subst e
      refine .inl ⟨io.stop _ sI, ?_⟩
      rw [List.drop_length] at k2
      exact k2 D0 (.lst avs) G2 (s1.trans sG) nD ⟨avs, rfl, rA⟩
/-- one reading for a family of contexts -/
theorem all_e {ι : Type} {F : ι → Cx} (h : ∀ i, EE (F i) W0 e me) (hK : ∀ i, (F i).K = X.K) (hm : ∀ i, (F i).mg = X.mg) : ∃ t, (∀ i, PE (F i) e t) ∧ SimE X W0 t me := by
  refine ⟨fun σ H Q => ∀ i, (h i).ex.choose σ H Q, fun i => ⟨fun pins s σ H Q I z => (h i).ex.choose_spec.1.run pins s σ H Q I (z i)⟩, fun n Z H0 m r σ H q Q p i => ?_⟩
  have z := (h i).ex.choose_spec.2 n Z H0 m r σ H
  rw [hK, hm] at z
  exact z q Q p
theorem all_t {ι : Type} {F : ι → Cx} (h : ∀ i, EC (F i) ifs mt) (hK : ∀ i, (F i).K = X.K) (hm : ∀ i, (F i).mg = X.mg) : ∃ t, (∀ i, PTs (F i) ifs t) ∧ SimT X W0 t mt := by
  refine ⟨fun σ H Q => ∀ i, (h i).ex.choose σ H Q, fun i => ⟨fun pins s σ H Q I z => (h i).ex.choose_spec.1.run pins s σ H Q I (z i)⟩, fun n Z H0 m r σ H q Q p i => ?_⟩
  have z := (h i).ex.choose_spec.2 n Z H0 m r σ H
  rw [hK, hm] at z
  exact z q Q p
theorem all_g {ι : Type} {F : ι → Cx} (h : ∀ i, CG (F i) vs tg tb) (hK : ∀ i, (F i).K = X.K) (hm : ∀ i, (F i).mg = X.mg) : ∃ g, (∀ i, PG (F i) tg g) ∧ ∀ (n : Nat) (Z : Addr → Prop) (H0 : Hp) (m : Nat → Option Addr) (r : Sc) (σ : L2.St) (H : Hp), (∀ i ∈ vs, i < n) → Rel X.K X.mg n Z H0 m r σ H → (∀ i ∈ vs, m i = none) → ∀ (d : D) (v : V) (Q : L2.St → Hp → Prop), Rep X.K X.mg (hid Z m H) d v → (match tb d r with
      | some r' => ∀ (σ' : L2.St), Rel X.K X.mg n Z H0 m r' σ' H → wipe σ' vs = wipe σ vs → Q σ' H
      | none => False) → g v σ H Q := by
  refine ⟨fun v σ H Q => ∀ i, (h i).ex.choose v σ H Q, fun i => ⟨fun pins s σ H v u Q I r z => (h i).ex.choose_spec.1.run pins s σ H v u Q I r (z i)⟩, fun n Z H0 m r σ H hn q hq d v Q rv p i => ?_⟩
  have z := (h i).ex.choose_spec.2 n Z H0 m r σ H hn
  show (h i).ex.choose v σ H Q
  generalize (h i).ex.choose = g at z ⊢
  rw [hK, hm] at z
  exact z q hq d v Q rv p
abbrev BI := Shared × Hp × Addr × List (Str × Addr) × List Addr
abbrev blkF (X : Cx) (scope : Scope) (i : BI) : Cx := X.blk i.1 i.2.1 scope (compEnvC scope i.2.2.2.1 i.2.2.1 X.env) i.2.2.2.2
theorem ef_lc {mi : MA} (hc : X.calm = true) (hN : X.N.Nodup) (hi : EI X W tg iter mi) (ok : BlkOk X.N X.env.scope scope own) (hv : own.map (·.2) = vs) (hg : ∀ i : BI, CG (blkF X scope i) vs tg tb) (ht : ∀ i : BI, EC (blkF X scope i) ifs mt) (he : ∀ i : BI, EE (blkF X scope i) W0 elt me)
    (hs : ∀ x, foldedSetIterable iter X.env x = pure x := by intro _; rfl) : EF X W (.ListComp elt [⟨tg, iter, ifs, 0⟩] scope pos) (mLC vs mi tb mt me) := by
  obtain ⟨wi, h1, h2⟩ := hi.ex
  obtain ⟨g, g1, g2⟩ := all_g (X := X) hg (fun _ => rfl) (fun _ => rfl)
  obtain ⟨tt, t1, t2⟩ := all_t (X := X) ht (fun _ => rfl) (fun _ => rfl)
  obtain ⟨te, e1, e2⟩ := all_e (X := X) he (fun _ => rfl) (fun _ => rfl)
  refine ⟨_, pe_lc hc hN h1 ok (fun s H C cl fp => g1 (s, H, C, cl, fp)) (fun s H C cl fp => t1 (s, H, C, cl, fp)) (fun s H C cl fp => e1 (s, H, C, cl, fp)) hs, ?_⟩
  rw [hv]
  exact SimF.lc h2 g2 t2 e2
/-- name = [..] on one line, the name a plain local -/
theorem es_setoLc {mi : MA} {i : Nat} {y : Str} {py spos : Pos} (hc : X.calm = true) (hN : X.N.Nodup) (hy : X.N[i]? = some y) (hyl : X.env.scope.names.lookup y = some .local) (hsw : swapsWith (.ListComp elt [⟨tg, iter, ifs, 0⟩] scope pos) (some (.Name y py)) spos.line X.env = pure true)
    (hi : EI X W tg iter mi) (ok : BlkOk X.N X.env.scope scope own) (hv : own.map (·.2) = vs) (hg : ∀ i : BI, CG (blkF X scope i) vs tg tb) (ht : ∀ i : BI, EC (blkF X scope i) ifs mt) (he : ∀ i : BI, EE (blkF X scope i) W0 elt me)
    (hs : ∀ x, foldedSetIterable iter X.env x = pure x := by intro _; rfl) : ES X W (.Assign [.Name y py] (.ListComp elt [⟨tg, iter, ifs, 0⟩] scope pos) spos) (mSetO i (mLC vs mi tb mt me)) := by
  obtain ⟨wi, h1, h2⟩ := hi.ex
  obtain ⟨g, g1, g2⟩ := all_g (X := X) hg (fun _ => rfl) (fun _ => rfl)
  obtain ⟨tt, t1, t2⟩ := all_t (X := X) ht (fun _ => rfl) (fun _ => rfl)
  obtain ⟨te, e1, e2⟩ := all_e (X := X) he (fun _ => rfl) (fun _ => rfl)
  refine ⟨_, ps_setLc hc hN hy hyl hsw h1 ok (fun s H C cl fp => g1 (s, H, C, cl, fp)) (fun s H C cl fp => t1 (s, H, C, cl, fp)) (fun s H C cl fp => e1 (s, H, C, cl, fp)) hs, ?_⟩
  rw [hv]
  exact SimS.setO (List.getElem?_eq_some_iff.mp hy).1 (SimF.lc h2 g2 t2 e2)
end
end QB

namespace QB
open PySem PySem.Spec PyProof.Rows L2
section
variable {X : Cx} {W : WX} {a b c e : Expr} {es rest : List Expr} {ma mb mc me : ME} {ms : MA} {pos : Pos} {te tl : TE} {x : Str} {p1 : Pos} {k kk n : Nat} {mf : List D → R D}
/-! ### a call with no argument -/
theorem ee_call0 (tk : Takes X W) (F : Ok X.prog X.w X.K X.mg X.base k x 0 mf) (hr : Room kk X.A) (hk : k ≤ kk) (hg : Gl X x := by rfl) (hdb : (x == ("__debug__" : Str)) = false := by decide) : EE X W (.Call (.Name x p1) [] [] pos) (mCallB mf mNil) := by
  obtain ⟨f, fd, ps, h1, h2, h3, h4⟩ := F.ex
  refine ⟨tCallS (PF X.K X.mg 0 mf) (WE W) tNil, ⟨fun pins s σ H Q I h => ?_⟩, ?_⟩
  · refine wpAny_Call_Name_kw (ld_glob I hg h1 ?_ hdb)
    exact PySem.W.callWith_K0 I.kIn h2 (run_fnS (us := []) h4 (hr.mono hk) h3 (passAt tk σ) I .nil h)
  · refine SimA.len (ms := mNil) (fun n Z H0 m r σ H q Q p => p [] H (Same.refl H) RepL.nil) (fun r ds e => ?_) (PF X.K X.mg 0 mf)
    cases e
    rfl
/-! ### abs, min, max -/
def dAbs : List D → R D
  | [.int i] => .ok (.int (if i < 0 then -i else i))
  | _ => .bad
def dMin : List D → R D
  | [.int i, .int j] => .ok (.int (if j < i then j else i))
  | _ => .bad
def dMax : List D → R D
  | [.int i, .int j] => .ok (.int (if j > i then j else i))
  | _ => .bad
theorem bu_abs : BuW X W (fun xs H Q => ∃ i, xs = [.int i] ∧ Q (.int (if i < 0 then -i else i)) H) dAbs := fun n Z H0 m r σ H q ds vs Q h p => by
  unfold dAbs at p
  split at p
  · obtain ⟨v, rfl, r1⟩ := h.one
    simp only [Rep] at r1
    subst r1
    exact ⟨_, rfl, p _ H (Same.refl H) (by simp [Rep])⟩
  · exact False.elim p
theorem bu_min : BuW X W (fun xs H Q => ∃ i j, xs = [.int i, .int j] ∧ Q (.int (if j < i then j else i)) H) dMin := fun n Z H0 m r σ H q ds vs Q h p => by
  unfold dMin at p
  split at p
  · obtain ⟨v, w, rfl, r1, r2⟩ := h.two
    simp only [Rep] at r1 r2
    subst r1 r2
    exact ⟨_, _, rfl, p _ H (Same.refl H) (by simp [Rep])⟩
  · exact False.elim p
theorem bu_max : BuW X W (fun xs H Q => ∃ i j, xs = [.int i, .int j] ∧ Q (.int (if j > i then j else i)) H) dMax := fun n Z H0 m r σ H q ds vs Q h p => by
  unfold dMax at p
  split at p
  · obtain ⟨v, w, rfl, r1, r2⟩ := h.two
    simp only [Rep] at r1 r2
    subst r1 r2
    exact ⟨_, _, rfl, p _ H (Same.refl H) (by simp [Rep])⟩
  · exact False.elim p
theorem ee_abs (hm : X.mg "abs" = none) (hg : Gl X "abs") (ha : EAW X W (a :: es) ms) (he : starEach (a :: es) X.env = (false, eval a X.env) :: starEach es X.env := by rfl) (hpl : (backTo pos (starEach es X.env)).any (·.1) = false := by rfl) : EE X W (.Call (.Name "abs" p1) (a :: es) [] pos) (mCallB dAbs ms) := by
  obtain ⟨ta, h1, h2⟩ := ha.ex
  exact ⟨_, pe_callB call_abs hg hm rfl h1 (by decide) (by decide) he hpl, SimE.bw h2 bu_abs⟩
theorem ee_min (hc : X.calm = true) (hm : X.mg "min" = none) (hg : Gl X "min") (ha : EAW X W (a :: es) ms) (he : starEach (a :: es) X.env = (false, eval a X.env) :: starEach es X.env := by rfl) (hpl : (backTo pos (starEach es X.env)).any (·.1) = false := by rfl) : EE X W (.Call (.Name "min" p1) (a :: es) [] pos) (mCallB dMin ms) := by
  obtain ⟨ta, h1, h2⟩ := ha.ex
  exact ⟨_, pe_callB (call_min2 hc) hg hm rfl h1 (by decide) (by decide) he hpl, SimE.bw h2 bu_min⟩
theorem ee_max (hc : X.calm = true) (hm : X.mg "max" = none) (hg : Gl X "max") (ha : EAW X W (a :: es) ms) (he : starEach (a :: es) X.env = (false, eval a X.env) :: starEach es X.env := by rfl) (hpl : (backTo pos (starEach es X.env)).any (·.1) = false := by rfl) : EE X W (.Call (.Name "max" p1) (a :: es) [] pos) (mCallB dMax ms) := by
  obtain ⟨ta, h1, h2⟩ := ha.ex
  exact ⟨_, pe_callB (call_max2 hc) hg hm rfl h1 (by decide) (by decide) he hpl, SimE.bw h2 bu_max⟩
/-! ### tuple(x), list(x) of a sequence -/
def dTupOf : List D → R D
  | [d] => (match seqD d with
    | some xs => .ok (.tup xs)
    | none => .bad)
  | _ => .bad
theorem bu_tup : BuS X W (fun xs H Q => ∃ p ys, xs = [.ref p] ∧ ((SqL X.K H p ys ∧ ∀ l, H l = none → Q (.ref l) (upd H l (.tup ys))) ∨ (SqT X.K H p ys ∧ Q (.ref p) H))) dTupOf := fun n Z H0 m r σ H q ds vs Q h p => by
  unfold dTupOf at p
  split at p
  · rename_i d
    split at p
    · rename_i xs e
      obtain ⟨v, rfl, r1⟩ := h.one
      obtain ⟨a, us, rfl, hq, t⟩ := seqD_rep r1 e
      rcases hq with hq | hq
      · refine ⟨a, us, rfl, .inl ⟨Same.seq hid_sub hq, fun l nl => p _ _ (same_upd nl) ?_⟩⟩
        simp only [Rep]
        exact ⟨l, us, rfl, .inl (.inl (q.hidNew nl)), t.mono (hid_mono (same_upd nl))⟩
      · refine ⟨a, us, rfl, .inr ⟨Same.seqT hid_sub hq, p _ H (Same.refl H) ?_⟩⟩
        simp only [Rep]
        exact ⟨a, us, rfl, hq, t⟩
    · exact False.elim p
  · exact False.elim p
theorem ee_tupc (hm : X.mg "tuple" = none) (hg : Gl X "tuple") (ha : EA X W (a :: es) ms) (he : starEach (a :: es) X.env = (false, eval a X.env) :: starEach es X.env := by rfl) (hpl : (backTo pos (starEach es X.env)).any (·.1) = false := by rfl) : EE X W (.Call (.Name "tuple" p1) (a :: es) [] pos) (mCallB dTupOf ms) := by
  obtain ⟨ta, h1, h2⟩ := ha.ex
  exact ⟨_, pe_callTy call_tuple_of hg hm boot_tuple h1 (by decide) (by decide) he hpl, SimE.bs h2 bu_tup⟩
def mLstOf (ms : MA) : MF := fun r => (ms r).bind fun ds => match ds with
  | [d] => (match seqD d with
    | some xs => .ok (.l xs)
    | none => .bad)
  | _ => .bad
theorem ef_listc (hm : X.mg "list" = none) (hg : Gl X "list") (ha : EA X W (a :: es) ms) (he : starEach (a :: es) X.env = (false, eval a X.env) :: starEach es X.env := by rfl) (hpl : (backTo pos (starEach es X.env)).any (·.1) = false := by rfl) : EF X W (.Call (.Name "list" p1) (a :: es) [] pos) (mLstOf ms) := by
  obtain ⟨ta, h1, h2⟩ := ha.ex
  refine ⟨_, pe_callTy call_list_of hg hm boot_list h1 (by decide) (by decide) he hpl, fun n Z H0 m r σ H q Q p => h2 n Z H0 m r σ H q _ (p.bind.imp fun ds k vs H1 s1 rx => ?_)⟩
  split at k
  · rename_i d
    split at k
    · rename_i xs e
      obtain ⟨v, rfl, r1⟩ := rx.one
      obtain ⟨a, us, rfl, hq, t⟩ := seqD_rep r1 e
      refine ⟨a, us, rfl, ?_, fun l nl => k l _ H1 s1 nl ⟨us, rfl, t⟩⟩
      rcases hq with hq | hq
      · exact .inl (Same.seq hid_sub hq)
      · exact .inr (Same.seqT hid_sub hq)
    · exact False.elim k
  · exact False.elim k
/-- tuple(xs), list(xs) of a slot's own list -/
def ownL (i : Nat) (r : Sc) : R (List D) := match r[i]? with
  | some (some (.own (.l xs))) => .ok xs
  | _ => .bad
def mTupO (i : Nat) : ME := fun r => (ownL i r).bind fun xs => .ok (.tup xs)
def mLstO (i : Nat) : MF := fun r => (ownL i r).bind fun xs => .ok (.l xs)
theorem ee_tupO (i : Nat) {p2 : Pos} (hm : X.mg "tuple" = none) (hg : Gl X "tuple") (hN : X.N[i]? = some x := by rfl) (hv : Vis X.env.scope x := by first | exact Or.inl rfl | exact Or.inr (Or.inl rfl) | exact Or.inr (Or.inr rfl)) (hd : (x == ("__debug__" : Str)) = false := by decide)
    (hcd : (x == ("__classdict__" : Str)) = false := by decide) (he : starEach [.Name x p2] X.env = (false, eval (.Name x p2) X.env) :: starEach [] X.env := by rfl) (hpl : (backTo pos (starEach [] X.env)).any (·.1) = false := by rfl) : EE X W (.Call (.Name "tuple" p1) [.Name x p2] [] pos) (mTupO i) := by
  refine ⟨_, pe_callTy call_tuple_of hg hm boot_tuple (pa_cons (pv i hN hv hd hcd) pa_nil he) (by decide) (by decide) he hpl, fun n Z H0 m r σ H q Q p => ?_⟩
  unfold mTupO ownL at p
  split at p
  · rename_i xs e
    obtain ⟨a, o, g1, g2, g3, g4⟩ := q.own i _ e
    obtain ⟨vs, rfl, t⟩ := g4
    refine ⟨_, g2, a, vs, rfl, .inl ⟨.inl (.inl g3), fun l nl => p _ _ (same_upd nl) ?_⟩⟩
    simp only [Rep]
    exact ⟨l, vs, rfl, .inl (.inl (q.hidNew nl)), t.mono (hid_mono (same_upd nl))⟩
  · exact False.elim p
theorem ef_listO (i : Nat) {p2 : Pos} (hm : X.mg "list" = none) (hg : Gl X "list") (hN : X.N[i]? = some x := by rfl) (hv : Vis X.env.scope x := by first | exact Or.inl rfl | exact Or.inr (Or.inl rfl) | exact Or.inr (Or.inr rfl)) (hd : (x == ("__debug__" : Str)) = false := by decide)
    (hcd : (x == ("__classdict__" : Str)) = false := by decide) (he : starEach [.Name x p2] X.env = (false, eval (.Name x p2) X.env) :: starEach [] X.env := by rfl) (hpl : (backTo pos (starEach [] X.env)).any (·.1) = false := by rfl) : EF X W (.Call (.Name "list" p1) [.Name x p2] [] pos) (mLstO i) := by
  refine ⟨_, pe_callTy call_list_of hg hm boot_list (pa_cons (pv i hN hv hd hcd) pa_nil he) (by decide) (by decide) he hpl, fun n Z H0 m r σ H q Q p => ?_⟩
  unfold mLstO ownL at p
  split at p
  · rename_i xs e
    obtain ⟨a, o, g1, g2, g3, g4⟩ := q.own i _ e
    obtain ⟨vs, rfl, t⟩ := g4
    exact ⟨_, g2, a, vs, rfl, .inl (.inl (.inl g3)), fun l nl => p l _ H (Same.refl H) nl ⟨vs, rfl, t⟩⟩
  · exact False.elim p
/-! ### xs[i] = v, xs a slot's own list -/
def mSetIx (i : Nat) (mb me : ME) : MS := fun r => toFl r (me r) fun d => match r[i]? with
  | some (some (.own (.l xs))) => toFl r (mb r) fun j => (match j with
    | .int z => (match ixN xs.length z with
      | some t => .nx (r.set i (some (.own (.l (xs.set t d)))))
      | none => .bad)
    | _ => .bad)
  | _ => .bad
theorem es_setIx (i : Nat) {p2 p3 : Pos} (he : EE X W e me) (hb : EE X W b mb) (hN : X.N[i]? = some x := by rfl) (hv : Vis X.env.scope x := by first | exact Or.inl rfl | exact Or.inr (Or.inl rfl) | exact Or.inr (Or.inr rfl)) (hd : (x == ("__debug__" : Str)) = false := by decide)
    (hcd : (x == ("__classdict__" : Str)) = false := by decide) (hs : swapsWithSole [.Subscript (.Name x p1) b p2] e p3.line X.env = pure false := by rfl) (hw : swappedStores [.Subscript (.Name x p1) b p2] e X.env = pure none := by rfl)
    (h1 : (assignEach [.Subscript (.Name x p1) b p2] X.env).map (·.2) = [assign (.Subscript (.Name x p1) b p2) X.env] := by rfl)
    (hx : ∀ v, assign (.Subscript (.Name x p1) b p2) X.env v = (do
      let ov ← holding [v] (eval (.Name x p1) X.env)
      let iv ← holding [v, ov] (eval b X.env)
      standAt p2
      holding [v, ov, iv] (setItem ov iv v)
      release [v, ov, iv] []) := by intro _; rfl) :
    ES X W (.Assign [.Subscript (.Name x p1) b p2] e p3) (mSetIx i mb me) := by
  obtain ⟨te, e1, e2⟩ := he.ex
  obtain ⟨tb, b1, b2⟩ := hb.ex
  refine ⟨_, ps_asg e1 (pg_sub (pv i hN hv hd hcd) b1 set_list hx) hs hw h1, fun n Z H0 m r σ H hn q D p => ?_⟩
  unfold mSetIx at p
  refine e2 n Z H0 m r σ H q _ ((toFl_post q p).imp fun d k v H1 s1 rv => ?_)
  have q1 := q.grow s1
  have k1 := PostS.grow k (hid_mono s1)
  split at k1
  · rename_i xs e
    obtain ⟨a, o, g1, g2, g3, g4⟩ := q1.own i _ e
    obtain ⟨vs, rfl, tt⟩ := g4
    refine ⟨_, g2, b2 n Z H0 m r σ H1 q1 _ ((toFl_post q1 k1).imp fun j k2 y H2 s2 ry => ?_)⟩
    have q2 := q1.grow s2
    have k3 := PostS.grow k2 (hid_mono s2)
    split at k3
    · rename_i z
      split at k3
      · rename_i t et
        simp only [Rep] at ry
        refine ⟨a, vs, z, t, rfl, ry, s2 _ _ g3, by rw [tt.length]; exact et, ?_⟩
        have hc : CellOk X.K X.mg (hid Z m H2) (.lst (vs.set t v)) (.l (xs.set t d)) := ⟨_, rfl, RepL.set t (tt.mono (hid_mono s2)) (rv.mono (hid_mono s2))⟩
        refine k3 m σ _ (q2.chg e g1 hc) ?_
        rw [hid_upd g1]
        exact Same.refl _
      · exact False.elim k3
    · exact False.elim k3
  · exact False.elim k1
end
end QB

namespace QB
open PySem PySem.Spec PyProof.Rows L2
/-- a slot's own thing becomes a plain value behind a block -/
theorem eb_end {X : Cx} {W : WX} {sts : List Stmt} {ms : MS} (i : Nat) (h : EB X W sts ms) : EB X W sts (mSeq ms (mFrz i mNx)) := by
  obtain ⟨ts, h1, h2⟩ := h.ex
  refine ⟨ts, h1, fun n Z H0 m r σ H hn q D p => h2 n Z H0 m r σ H hn q D ?_⟩
  unfold mSeq at p
  cases e : ms r with
  | nx r' =>
    rw [e] at p
    intro m' σ' H' q' s
    simp only [mFrz] at p
    split at p
    · rename_i c ei
      exact p _ σ' H' (q'.frz ei) (s.trans same_drp)
    · exact False.elim p
  | bk r' =>
    rw [e] at p
    exact p
  | ct r' =>
    rw [e] at p
    exact p
  | rt d =>
    rw [e] at p
    exact p
  | rc d =>
    rw [e] at p
    exact p
  | ex c ns xs r' =>
    rw [e] at p
    exact p
  | bad =>
    rw [e] at p
    exact p
section
variable {X : Cx} {W : WX} {a b c e : Expr} {es rest : List Expr} {ma mb mc me : ME} {ms : MA} {pos : Pos} {te tl : TE} {x : Str} {p1 : Pos}
/-! ### a module's tuple of plain values -/
def flatsD : List D → Option (List V)
  | [] => some []
  | d :: ds => match flatD d, flatsD ds with
    | some v, some vs => some (v :: vs)
    | _, _ => none
theorem flats_rep {K : PySem.W.Frag} {mg : Str → Option Value} {G : Hp} : ∀ {ds : List D} {us vs : List V}, flatsD ds = some us → RepL K mg G ds vs → vs = us
  | [], us, vs, h, r => by
    simp only [flatsD, Option.some.injEq] at h
    simp only [RepL] at r
    rw [r, ← h]
  | d :: ds, us, vs, h, r => by
    simp only [RepL] at r
    obtain ⟨v, ws, rfl, rv, rs⟩ := r
    simp only [flatsD] at h
    cases e1 : flatD d with
    | none => simp [e1] at h
    | some w =>
      cases e2 : flatsD ds with
      | none => simp [e1, e2] at h
      | some w2 =>
        simp only [e1, e2, Option.some.injEq] at h
        rw [← h, flatD_rep e1 rv, flats_rep e2 rs]
theorem flat_is {v : V} {d : D} (h : flatD d = some v) : flatV v = true := by
  cases d <;> simp only [flatD, Option.some.injEq, reduceCtorEq] at h <;> subst h <;> rfl
theorem flats_are : ∀ {ds : List D} {vs : List V}, flatsD ds = some vs → vs.all flatV = true
  | [], vs, h => by
    simp only [flatsD, Option.some.injEq] at h
    subst h
    rfl
  | d :: ds, vs, h => by
    simp only [flatsD] at h
    cases e1 : flatD d with
    | none => simp [e1] at h
    | some w =>
      cases e2 : flatsD ds with
      | none => simp [e1, e2] at h
      | some w2 =>
        simp only [e1, e2, Option.some.injEq] at h
        subst h
        simp only [List.all_cons, flat_is e1, flats_are e2, Bool.and_self]
theorem flat_mk {K : PySem.W.Frag} {mg : Str → Option Value} {G : Hp} {d : D} {v : V} (h : flatD d = some v) : Rep K mg G d v := by
  cases d <;> simp only [flatD, Option.some.injEq, reduceCtorEq] at h <;> subst h <;> simp [Rep]
theorem flats_mk {K : PySem.W.Frag} {mg : Str → Option Value} {G : Hp} : ∀ {ds : List D} {vs : List V}, flatsD ds = some vs → RepL K mg G ds vs
  | [], vs, h => by
    simp only [flatsD, Option.some.injEq] at h
    subst h
    exact RepL.nil
  | d :: ds, vs, h => by
    simp only [flatsD] at h
    cases e1 : flatD d with
    | none => simp [e1] at h
    | some w =>
      cases e2 : flatsD ds with
      | none => simp [e1, e2] at h
      | some w2 =>
        simp only [e1, e2, Option.some.injEq] at h
        subst h
        exact RepL.cons (flat_mk e1) (flats_mk e2)
/-- the fact that the top keeps of such a tuple -/
def TupC (K : PySem.W.Frag) (mg : Str → Option Value) (x : Str) (vs : List V) : Prop := ∃ (a : Addr) (o : Obj) (its : Array Value) (n : Nat), mg x = some (.ref a) ∧ K.lookup a = some o ∧ o.cls = .type "tuple" ∧ o.data = .seq its n ∧ its.size ≤ sizeLine ∧ Vals vs its.toList
theorem ee_globT {ds : List D} {vs : List V} (h : TupC X.K X.mg x vs) (hf : flatsD ds = some vs) (hg : Gl X x := by rfl) (hdb : (x == ("__debug__" : Str)) = false := by decide) : EE X W (.Name x pos) (mC (.tup ds)) := by
  obtain ⟨a, o, its, n, h1, h2, h3, h4, h5, h6⟩ := h
  refine ee_glob (v := .ref a) hg h1 rfl (fun G => ?_) hdb
  simp only [Rep]
  exact ⟨a, vs, rfl, .inr ⟨o, its, n, h2, h3, h4, h5, h6⟩, flats_mk hf⟩
/-! ### in, not in -/
def inS (i j : Str) : Bool := !(Builtin.Str.occurrences j i 0 j.length 1).isEmpty
def dInB (a b : D) : R Bool := match a, b with
  | .str i, .str j => .ok (inS i j)
  | a, b => (match flatD a, seqD b with
    | some x, some ds => (match flatsD ds with
      | some vs => .ok (inV x vs)
      | none => .bad)
    | _, _ => .bad)
def dIn (a b : D) : R D := (dInB a b).bind fun c => .ok (.bl c)
def dNotIn (a b : D) : R D := (dInB a b).bind fun c => .ok (.bl (!c))
def rInS (K : PySem.W.Frag) : R2 := fun x y H Q => (∃ i j, x = .str i ∧ y = .str j ∧ Q (.bl (!(Builtin.Str.occurrences j i 0 j.length 1).isEmpty)) H) ∨ rIn K false x y H Q
def rNotInS (K : PySem.W.Frag) : R2 := fun x y H Q => (∃ i j, x = .str i ∧ y = .str j ∧ Q (.bl (!(!(Builtin.Str.occurrences j i 0 j.length 1).isEmpty))) H) ∨ rIn K true x y H Q
theorem or_in : OpR X (compareOp .In) (rInS X.K) := OpR.or op_in_str op_in_seq
theorem or_notIn : OpR X (compareOp .NotIn) (rNotInS X.K) := OpR.or op_notIn_str op_notIn_seq
theorem dInB_cases {K : PySem.W.Frag} {mg : Str → Option Value} {G H : Hp} {a b : D} {x y : V} (s : Same G H) (ha : Rep K mg G a x) (hb : Rep K mg G b y) : (∃ c, dInB a b = .ok c ∧ ((∃ i j, x = .str i ∧ y = .str j ∧ c = inS i j) ∨ ∃ p xs, y = .ref p ∧ (SqL K H p xs ∨ SqT K H p xs) ∧ flatV x = true ∧ xs.all flatV = true ∧ c = inV x xs)) ∨ dInB a b = .bad := by
  have gen : ∀ b : D, Rep K mg G b y → (∃ c, (match flatD a, seqD b with
    | some x, some ds => (match flatsD ds with
      | some vs => R.ok (inV x vs)
      | none => .bad)
    | _, _ => .bad) = .ok c ∧ ∃ p xs, y = .ref p ∧ (SqL K H p xs ∨ SqT K H p xs) ∧ flatV x = true ∧ xs.all flatV = true ∧ c = inV x xs) ∨ (match flatD a, seqD b with
    | some x, some ds => (match flatsD ds with
      | some vs => R.ok (inV x vs)
      | none => .bad)
    | _, _ => .bad) = .bad := by
    intro b hb
    cases e1 : flatD a with
    | none => exact .inr rfl
    | some u =>
      cases e2 : seqD b with
      | none => exact .inr rfl
      | some ds =>
        simp only
        cases e3 : flatsD ds with
        | none => exact .inr rfl
        | some us =>
          obtain ⟨p, vs, rfl, hq, t⟩ := seqD_rep hb e2
          have h1 := flatD_rep e1 ha
          have h2 := flats_rep e3 t
          subst h1 h2
          refine .inl ⟨_, rfl, p, vs, rfl, ?_, flat_is e1, flats_are e3, rfl⟩
          rcases hq with hq | hq
          · exact .inl (Same.seq s hq)
          · exact .inr (Same.seqT s hq)
  by_cases hs : (∃ i, a = .str i) ∧ ∃ j, b = .str j
  · obtain ⟨⟨i, rfl⟩, j, rfl⟩ := hs
    simp only [Rep] at ha hb
    exact .inl ⟨_, rfl, .inl ⟨i, j, ha, hb, rfl⟩⟩
  · have e : dInB a b = (match flatD a, seqD b with
    | some x, some ds => (match flatsD ds with
      | some vs => R.ok (inV x vs)
      | none => .bad)
    | _, _ => .bad) := by
      cases a <;> cases b <;> first | rfl | exact absurd ⟨⟨_, rfl⟩, _, rfl⟩ hs
    rw [e]
    rcases gen b hb with ⟨c, h1, h2⟩ | h
    · exact .inl ⟨c, h1, .inr h2⟩
    · exact .inr h
theorem opw_in : OpW X W (rInS X.K) dIn := fun n Z H0 m r σ H q a b x y Q ha hb p => by
  unfold dIn at p
  rcases dInB_cases (G := hid Z nom H) (H := H) hid_sub ha hb with ⟨c, e, h⟩ | e
  · rw [e] at p
    have k := p (.bl c) H (Same.refl H) (by simp [Rep])
    rcases h with ⟨i, j, h1, h2, h3⟩ | ⟨p1, xs, h1, h2, h3, h4, h5⟩
    · exact .inl ⟨i, j, h1, h2, by rw [h3] at k; exact k⟩
    · exact .inr ⟨p1, xs, h1, h2, h3, h4, by rw [h5] at k; exact k⟩
  · rw [e] at p
    exact False.elim p
theorem opw_notIn : OpW X W (rNotInS X.K) dNotIn := fun n Z H0 m r σ H q a b x y Q ha hb p => by
  unfold dNotIn at p
  rcases dInB_cases (G := hid Z nom H) (H := H) hid_sub ha hb with ⟨c, e, h⟩ | e
  · rw [e] at p
    have k := p (.bl (!c)) H (Same.refl H) (by simp [Rep])
    rcases h with ⟨i, j, h1, h2, h3⟩ | ⟨p1, xs, h1, h2, h3, h4, h5⟩
    · exact .inl ⟨i, j, h1, h2, by rw [h3] at k; exact k⟩
    · exact .inr ⟨p1, xs, h1, h2, h3, h4, by rw [h5] at k; exact k⟩
  · rw [e] at p
    exact False.elim p
/-! ### all, any of a list of truths -/
def blsD : List D → Option (List Bool)
  | [] => some []
  | .bl b :: ds => (blsD ds).map (b :: ·)
  | _ :: _ => none
theorem bls_rep {K : PySem.W.Frag} {mg : Str → Option Value} {G : Hp} : ∀ {ds : List D} {bs : List Bool} {vs : List V}, blsD ds = some bs → RepL K mg G ds vs → vs = bs.map V.bl
  | [], bs, vs, h, r => by
    simp only [blsD, Option.some.injEq] at h
    simp only [RepL] at r
    subst h r
    rfl
  | d :: ds, bs, vs, h, r => by
    simp only [RepL] at r
    obtain ⟨v, ws, rfl, rv, rs⟩ := r
    cases d <;> simp only [blsD, reduceCtorEq] at h
    rename_i b
    cases e2 : blsD ds with
    | none => simp [e2] at h
    | some w2 =>
      simp only [e2, Option.map_some, Option.some.injEq] at h
      subst h
      simp only [Rep] at rv
      rw [rv, bls_rep e2 rs, List.map_cons]
def lstD : D → Option (List D)
  | .lst xs => some xs
  | .slst xs => some xs
  | _ => none
def dAll : List D → R D
  | [d] => (match lstD d with
    | some xs => (match blsD xs with
      | some bs => .ok (.bl (bs.all id))
      | none => .bad)
    | none => .bad)
  | _ => .bad
def dAny : List D → R D
  | [d] => (match lstD d with
    | some xs => (match blsD xs with
      | some bs => .ok (.bl (bs.any id))
      | none => .bad)
    | none => .bad)
  | _ => .bad
theorem lstD_rep {K : PySem.W.Frag} {mg : Str → Option Value} {G : Hp} {d : D} {v : V} {xs : List D} (r : Rep K mg G d v) (h : lstD d = some xs) : ∃ a vs, v = .ref a ∧ SqL K G a vs ∧ RepL K mg G xs vs := by
  cases d <;> simp only [lstD, Option.some.injEq, reduceCtorEq] at h <;> subst h <;> simp only [Rep] at r
  · obtain ⟨a, vs, rfl, h1, t⟩ := r
    exact ⟨a, vs, rfl, .inl (.inl h1), t⟩
  · obtain ⟨a, vs, rfl, h1, t⟩ := r
    exact ⟨a, vs, rfl, h1, t⟩
theorem bu_all : BuW X W (rAll X.K) dAll := fun n Z H0 m r σ H q ds vs Q h p => by
  unfold dAll at p
  split at p
  · split at p
    · split at p
      · rename_i d _ xs e1 _ bs e2
        obtain ⟨v, rfl, r1⟩ := h.one
        obtain ⟨a, us, rfl, hq, t⟩ := lstD_rep r1 e1
        have := bls_rep e2 t
        subst this
        exact ⟨a, bs, rfl, Same.seq hid_sub hq, p _ H (Same.refl H) (by simp [Rep])⟩
      · exact False.elim p
    · exact False.elim p
  · exact False.elim p
theorem bu_any : BuW X W (rAny X.K) dAny := fun n Z H0 m r σ H q ds vs Q h p => by
  unfold dAny at p
  split at p
  · split at p
    · split at p
      · rename_i d _ xs e1 _ bs e2
        obtain ⟨v, rfl, r1⟩ := h.one
        obtain ⟨a, us, rfl, hq, t⟩ := lstD_rep r1 e1
        have := bls_rep e2 t
        subst this
        exact ⟨a, bs, rfl, Same.seq hid_sub hq, p _ H (Same.refl H) (by simp [Rep])⟩
      · exact False.elim p
    · exact False.elim p
  · exact False.elim p
theorem ee_all (hc : X.calm = true) (hm : X.mg "all" = none) (hg : Gl X "all") (ha : EAW X W (a :: es) ms) (he : starEach (a :: es) X.env = (false, eval a X.env) :: starEach es X.env := by rfl) (hpl : (backTo pos (starEach es X.env)).any (·.1) = false := by rfl) : EE X W (.Call (.Name "all" p1) (a :: es) [] pos) (mCallB dAll ms) := by
  obtain ⟨ta, h1, h2⟩ := ha.ex
  exact ⟨_, pe_callB (cr_all hc) hg hm rfl h1 (by decide) (by decide) he hpl, SimE.bw h2 bu_all⟩
theorem ee_any (hc : X.calm = true) (hm : X.mg "any" = none) (hg : Gl X "any") (ha : EAW X W (a :: es) ms) (he : starEach (a :: es) X.env = (false, eval a X.env) :: starEach es X.env := by rfl) (hpl : (backTo pos (starEach es X.env)).any (·.1) = false := by rfl) : EE X W (.Call (.Name "any" p1) (a :: es) [] pos) (mCallB dAny ms) := by
  obtain ⟨ta, h1, h2⟩ := ha.ex
  exact ⟨_, pe_callB (cr_any hc) hg hm rfl h1 (by decide) (by decide) he hpl, SimE.bw h2 bu_any⟩
/-! ### str(x) -/
def dStr : List D → R D
  | [.int i] => if i.natAbs.log2 < 1920 then .ok (.str (toString i)) else .bad
  | [.str z] => .ok (.str z)
  | _ => .bad
theorem bu_str : BuW X W (fun xs H Q => (∃ i, xs = [.int i] ∧ i.natAbs.log2 < 1920 ∧ Q (.str (toString i)) H) ∨ ∃ a, xs = [.str a] ∧ Q (.str a) H) dStr := fun n Z H0 m r σ H q ds vs Q h p => by
  unfold dStr at p
  split at p
  · split at p
    · obtain ⟨v, rfl, r1⟩ := h.one
      simp only [Rep] at r1
      subst r1
      exact .inl ⟨_, rfl, ‹_›, p _ H (Same.refl H) (by simp [Rep])⟩
    · exact False.elim p
  · obtain ⟨v, rfl, r1⟩ := h.one
    simp only [Rep] at r1
    subst r1
    exact .inr ⟨_, rfl, p _ H (Same.refl H) (by simp [Rep])⟩
  · exact False.elim p
theorem ee_strc (hm : X.mg "str" = none) (hg : Gl X "str") (ha : EAW X W (a :: es) ms) (he : starEach (a :: es) X.env = (false, eval a X.env) :: starEach es X.env := by rfl) (hpl : (backTo pos (starEach es X.env)).any (·.1) = false := by rfl) : EE X W (.Call (.Name "str" p1) (a :: es) [] pos) (mCallB dStr ms) := by
  obtain ⟨ta, h1, h2⟩ := ha.ex
  exact ⟨_, pe_callTy (CallR.or call_str_int SkE.call_str_str) hg hm boot_str h1 (by decide) (by decide) he hpl, SimE.bw h2 bu_str⟩
/-! ### sep.join(texts) -/
def strsD : List D → Option (List Str)
  | [] => some []
  | .str b :: ds => (strsD ds).map (b :: ·)
  | _ :: _ => none
theorem strs_rep {K : PySem.W.Frag} {mg : Str → Option Value} {G : Hp} : ∀ {ds : List D} {bs : List Str} {vs : List V}, strsD ds = some bs → RepL K mg G ds vs → vs = bs.map V.str
  | [], bs, vs, h, r => by
    simp only [strsD, Option.some.injEq] at h
    simp only [RepL] at r
    subst h r
    rfl
  | d :: ds, bs, vs, h, r => by
    simp only [RepL] at r
    obtain ⟨v, ws, rfl, rv, rs⟩ := r
    cases d <;> simp only [strsD, reduceCtorEq] at h
    rename_i b
    cases e2 : strsD ds with
    | none => simp [e2] at h
    | some w2 =>
      simp only [e2, Option.map_some, Option.some.injEq] at h
      subst h
      simp only [Rep] at rv
      rw [rv, strs_rep e2 rs, List.map_cons]
def dJoin (z : Str) (b : D) : R D := match seqD b with
  | some xs => (match strsD xs with
    | some ys => if (ys.map (·.length)).sum + ys.length * z.length ≤ 16777216 then .ok (.str (Txt.join z ys)) else .bad
    | none => .bad)
  | none => .bad
def mJoin (ma mb : ME) : ME := fun r => (ma r).bind fun d => match d with
  | .str z => (mb r).bind (dJoin z)
  | _ => .bad
theorem ee_join {apos : Pos} {o : Expr} (ho : EE X W o ma) (hb : EW X W e mb) (hs : starEach [e] X.env = [(false, eval e X.env)] := by rfl) (hbase : attributeBase o "join" X.env (eval o X.env) = eval o X.env := by rfl) (hline : (apos.endLine == pos.line) = true := by rfl) :
    EE X W (.Call (.Attribute o "join" apos) [e] [] pos) (mJoin ma mb) := by
  obtain ⟨ta, h1, h2⟩ := ho.ex
  obtain ⟨tb, h3, h4⟩ := hb.ex
  refine ⟨_, pe_join h1 h3 hs hbase hline, fun n Z H0 m r σ H q Q p => ?_⟩
  unfold mJoin at p
  refine h2 n Z H0 m r σ H q _ (p.bind.imp fun d k v H1 s1 rv => ?_)
  have q1 := q.grow s1
  cases d with
  | str z =>
    simp only [Rep] at rv
    subst rv
    refine ⟨⟨z, rfl⟩, h4 n Z H0 m r σ H1 q1 _ ((k.grow s1).bind.imp fun d2 k2 w H2 s2 rw2 => ?_)⟩
    unfold dJoin at k2
    cases e1 : seqD d2 with
    | none =>
      simp only [e1] at k2
      exact False.elim k2
    | some xs =>
      simp only [e1] at k2
      cases e2 : strsD xs with
      | none =>
        simp only [e2] at k2
        exact False.elim k2
      | some ys =>
        simp only [e2] at k2
        split at k2
        · obtain ⟨a1, us, rfl, hq, t⟩ := seqD_rep rw2 e1
          have := strs_rep e2 t
          subst this
          refine ⟨z, a1, ys, rfl, rfl, ?_, ‹_›, k2 _ H2 (s1.trans s2) (by simp [Rep])⟩
          rcases hq with hq | hq
          · exact .inl (Same.seq hid_sub hq)
          · exact .inr (Same.seqT hid_sub hq)
        · exact False.elim k2
  | _ => exact False.elim k
/-! ### a text some times -/
def timesS (z : Str) (k : Int) : Str := if k < 1 then Str.empty else if (k == 1 || z.length == 0) = true then z else ⟨(List.replicate k.toNat z.cps).foldl (· ++ ·) #[]⟩
def rTimes : R2 := fun x y H Q => ∃ z k, x = .str z ∧ y = .int k ∧ -1000000000 < k ∧ k < 1000000000 ∧ z.length * k.toNat ≤ 16777216 ∧ (timesS z k).length ≤ 16777216 ∧ Q (.str (timesS z k)) H
theorem op_times : OpR X (binaryOp .Mult) rTimes := by
  intro pins s σ H x y v u Q I rx ry h
  obtain ⟨z, k, rfl, rfl, h1, h2, hz, hl, q⟩ := h
  obtain ⟨t, rfl⟩ := rx
  obtain ⟨t', rfl⟩ := ry
  have hs := sizeLine_eq
  refine PySem.P.mul_str ?_ (fun g1 g2 => ?_) (fun g1 g2 => ?_) ?_
  · rw [decide_eq_false (by omega), decide_eq_false (by omega)]
    rfl
  · intro g3
    have : (z.length : Int) * k ≤ 16777216 := by
      have e : (k.toNat : Int) = k := by omega
      have : ((z.length * k.toNat : Nat) : Int) ≤ 16777216 := Int.ofNat_le.mpr hz
      rw [Int.natCast_mul, e] at this
      exact this
    have g4 : (2 ^ 63 - 1) / k < (z.length : Int) := g3
    rw [Int.ediv_lt_iff_lt_mul (by omega)] at g4
    omega
  · show decide (z.length * k.toNat > sizeLine) = false
    exact decide_eq_false (by rw [hs]; omega)
  · unfold timesS at q hl
    split
    · rename_i g
      rw [if_pos g] at q
      exact ⟨by decide, ⟨.str _, H, I.tok _, ⟨_, rfl⟩, q⟩⟩
    · rename_i g
      rw [if_neg g] at q hl
      split
      · rename_i g2
        rw [if_pos g2] at q
        exact ⟨.str _, H, I, ⟨_, rfl⟩, q⟩
      · rename_i g2
        rw [if_neg g2] at q hl
        exact ⟨by rw [hs]; exact hl, ⟨.str _, H, I.tok _, ⟨_, rfl⟩, q⟩⟩
def dTimes : D → D → R D
  | .str z, .int k => if -1000000000 < k ∧ k < 1000000000 ∧ z.length * k.toNat ≤ 16777216 ∧ (timesS z k).length ≤ 16777216 then .ok (.str (timesS z k)) else .bad
  | _, _ => .bad
theorem ops_times : OpS X W rTimes dTimes := fun n Z H0 m r σ H q a b x y Q ha hb p => by
  cases a <;> cases b <;> try exact False.elim p
  simp only [Rep] at ha hb
  subst ha hb
  simp only [dTimes] at p
  split at p
  · rename_i h
    exact ⟨_, _, rfl, rfl, h.1, h.2.1, h.2.2.1, h.2.2.2, p _ H (Same.refl H) (by simp only [Rep])⟩
  · exact False.elim p
theorem ee_times (ha : EE X W a ma) (hb : EE X W b mb) : EE X W (.BinOp a .Mult b pos) (mBin dTimes ma mb) := by
  obtain ⟨ta, h1, h2⟩ := ha.ex
  obtain ⟨tb, h3, h4⟩ := hb.ex
  exact ⟨_, pe_op op_times h1 h3, h2.op h4 ops_times⟩
end
end QB

namespace QB
open PySem PySem.Spec PyProof.Rows L2
/-! ### a def that gives a thing of its own -/
def PostFF (K : PySem.W.Frag) (mg : Str → Option Value) (Z : Addr → Prop) (H : Hp) (x : R Cell) (Q : VK) (E : XK) : Prop := match x with
  | .ok c => ∀ (p : Addr) (o : HO) (H' : Hp), Same H H' → H' p = none → CellOk K mg (hid Z nom H') o c → Q (.ref p) (upd H' p o)
  | .exc c ns xs => ∀ (C : Addr) (d : Option Addr) (H' : Hp), Same H H' → ExcAt K mg (hid Z nom H') c ns xs C d → E (.ref C) d H'
  | .bad => False
def PFF (K : PySem.W.Frag) (mg : Str → Option Value) (n : Nat) (mf : List D → R Cell) : Sp := fun vs H Q E => vs.length = n ∧ ∃ (ds : List D) (Z : Addr → Prop), (∀ b, Z b → H b ≠ none) ∧ RepL K mg (hid Z nom H) ds vs ∧ PostFF K mg Z H (mf ds) Q E
section
variable {X : Cx} {W : WX} {a b c e : Expr} {es rest : List Expr} {ma mb mc me : ME} {ms : MA} {pos : Pos} {k kk n : Nat} {x : Str} {p1 : Pos} {mf : List D → R Cell} {mF : MF}
theorem pf_strongF {m : Nat → Option Addr} {r : Sc} {σ : L2.St} {H0 H : Hp} {Z : Addr → Prop} {nn : Nat} (q : Rel X.K X.mg nn Z H0 m r σ H) {ds : List D} {vs : List V} {Q : VK} (hl : vs.length = n) (h : RepL X.K X.mg (hid Z m H) ds vs)
    (p : PostG X.K X.mg Z m W σ H (mf ds) (fun c => ∀ (p : Addr) (o : HO) (H' : Hp), Same H H' → H' p = none → CellOk X.K X.mg (hid Z m H') o c → Q (.ref p) (upd H' p o))) : PFF X.K X.mg n mf vs H Q (WE W σ) := by
  refine ⟨hl, ds, fun b => Z b ∨ ∃ i, m i = some b, q.zed', by rw [hid_join]; exact h, ?_⟩
  cases e : mf ds with
  | ok d =>
    rw [e] at p
    intro v o H' s nv t
    rw [hid_join] at t
    exact p v o H' s nv t
  | exc cc ns xs =>
    rw [e] at p
    intro C d H' s t
    rw [hid_join] at t
    exact p C d H' s t
  | bad =>
    rw [e] at p
    exact p
def mCallF (f : List D → R Cell) (ms : MA) : MF := fun r => (ms r).bind f
theorem SimA.lenF {t : TA} (ha : SimA X W t ms) (hl : ∀ r ds, ms r = .ok ds → ds.length = n) : SimF X W (tCallS (PFF X.K X.mg n mf) (WE W) t) (mCallF mf ms) := fun nn Z H0 m r σ H q Q p => by
  unfold mCallF at p
  have p' := p.bind
  cases e : ms r with
  | ok ds =>
    refine ha nn Z H0 m r σ H q _ ?_
    rw [e] at p' ⊢
    intro vs H1 s1 rx
    have p2 : PostG X.K X.mg Z m W σ H (mf ds) (fun c => ∀ (p : Addr) (o : HO) (H' : Hp), Same H H' → H' p = none → CellOk X.K X.mg (hid Z m H') o c → Q (.ref p) (upd H' p o)) := p'
    exact pf_strongF (q.grow s1) (by rw [rx.length, hl r ds e]) rx ((p2.grow s1).imp fun d k3 v o H' s3 nv rv => k3 v o H' (s1.trans s3) nv rv)
  | exc cc ns xs =>
    refine ha nn Z H0 m r σ H q _ ?_
    rw [e] at p' ⊢
    exact p'
  | bad =>
    rw [e] at p'
    exact False.elim p'
structure OkF (P : Program) (w : World) (K : PySem.W.Frag) (mg : Str → Option Value) (base : Heap) (k : Nat) (x : Str) (n : Nat) (mf : List D → R Cell) : Prop where
  ex : ∃ (f : Addr) (fd : FuncData) (ps : List Str), mg x = some (.ref f) ∧ PySem.W.keepIn K (.ref f) = true ∧ Binds K fd ps [] ∧ FnOk P w K mg base (L2.CX P w) k f fd ps (PFF K mg n mf)
theorem ef_callO (tk : Takes X W) (F : OkF X.prog X.w X.K X.mg X.base k x n mf) (hr : Room kk X.A) (hk : k ≤ kk) (ha : EA X W (a :: es) ms) (hl : ALen ms n) (hg : Gl X x := by rfl) (hdb : (x == ("__debug__" : Str)) = false := by decide)
    (he : starEach (a :: es) X.env = (false, eval a X.env) :: starEach es X.env := by rfl) (hpl : (backTo pos (starEach es X.env)).any (·.1) = false := by rfl) : EF X W (.Call (.Name x p1) (a :: es) [] pos) (mCallF mf ms) := by
  obtain ⟨f, fd, ps, h1, h2, h3, h4⟩ := F.ex
  obtain ⟨t, g1, g2⟩ := ha.ex
  exact ⟨_, pe_callS h4 (hr.mono hk) hg h1 h2 h3 (fun σ => passAt tk σ) g1 hdb he hpl, g2.lenF hl⟩
theorem ef_call0 (tk : Takes X W) (F : OkF X.prog X.w X.K X.mg X.base k x 0 mf) (hr : Room kk X.A) (hk : k ≤ kk) (hg : Gl X x := by rfl) (hdb : (x == ("__debug__" : Str)) = false := by decide) : EF X W (.Call (.Name x p1) [] [] pos) (mCallF mf mNil) := by
  obtain ⟨f, fd, ps, h1, h2, h3, h4⟩ := F.ex
  refine ⟨tCallS (PFF X.K X.mg 0 mf) (WE W) tNil, ⟨fun pins s σ H Q I h => ?_⟩, ?_⟩
  · refine wpAny_Call_Name_kw (ld_glob I hg h1 ?_ hdb)
    exact PySem.W.callWith_K0 I.kIn h2 (run_fnS (us := []) h4 (hr.mono hk) h3 (passAt tk σ) I .nil h)
  · refine SimA.lenF (ms := mNil) (fun n Z H0 m r σ H q Q p => p [] H (Same.refl H) RepL.nil) (fun r ds e => ?_)
    cases e
    rfl
/-! what it returns -/
def mRetF (mf : MF) : MS := fun r => toFl r (mf r) fun c => .rc c
theorem es_retF (he : EF X W e mF) : ES X W (.Return (some e) pos) (mRetF mF) := by
  obtain ⟨t, h1, h2⟩ := he.ex
  refine ⟨_, ps_ret h1, fun n Z H0 m r σ H hn q D p => h2 n Z H0 m r σ H q _ ((toFl_post q p).imp fun d k v o H' s nv rv => ?_)⟩
  exact k v o H' (q.same.trans s) nv (rv.mono hid_nom)
def mRetO (i : Nat) : MS := fun r => match r[i]? with
  | some (some (.own c)) => .rc c
  | _ => .bad
theorem es_retO (i : Nat) (hN : X.N[i]? = some x := by rfl) (hv : Vis X.env.scope x := by first | exact Or.inl rfl | exact Or.inr (Or.inl rfl) | exact Or.inr (Or.inr rfl)) (hd : (x == ("__debug__" : Str)) = false := by decide)
    (hcd : (x == ("__classdict__" : Str)) = false := by decide) : ES X W (.Return (some (.Name x p1)) pos) (mRetO i) := by
  refine ⟨_, ps_ret (pv i hN hv hd hcd), fun n Z H0 m r σ H hn q D p => ?_⟩
  unfold mRetO at p
  split at p
  · rename_i c e
    obtain ⟨a, o, g1, g2, g3, g4⟩ := q.own i _ e
    refine ⟨_, g2, ?_⟩
    have z0 := (q.frs i a g1).1
    have hs : Same H0 (fun b => if b = a then none else H b) := fun b o' h => by
      show (if b = a then none else H b) = some o'
      rw [if_neg]
      · exact q.same b o' h
      · intro z
        rw [z, z0] at h
        cases h
    have key := p a o (fun b => if b = a then none else H b) hs (by simp) (g4.mono fun b o' h => by
      obtain ⟨e1, e2, e3⟩ := of_hid h
      refine hid_of (?_ : (if b = a then none else H b) = some o') e2 (fun _ z => by cases z)
      rw [if_neg fun z => e3 i (by rw [z]; exact g1)]
      exact e1)
    have eu : upd (fun b => if b = a then none else H b) a o = H := by
      funext b
      unfold upd
      by_cases eb : b = a
      · rw [if_pos eb, eb]
        exact g3.symm
      · rw [if_neg eb]
        exact if_neg eb
    rw [eu] at key
    exact key
  · exact False.elim p
def mDefF (n : Nat) (ms : MS) : List D → R Cell := fun ds => match ms (mStart n ds) with
  | .rc c => .ok c
  | .ex c ns xs _ => .exc c ns xs
  | _ => .bad
/-! a + b of lists, as a new list -/
def mCatF (ma mb : ME) : MF := fun r => (ma r).bind fun x => (mb r).bind fun y => match x, y with
  | .lst xs, .lst ys => if xs.length + ys.length ≤ sizeLine then .ok (.l (xs ++ ys)) else .bad
  | _, _ => .bad
theorem ef_cat (ha : EE X W a ma) (hb : EE X W b mb) : EF X W (.BinOp a .Add b pos) (mCatF ma mb) := by
  obtain ⟨ta, h1, h2⟩ := ha.ex
  obtain ⟨tb, h3, h4⟩ := hb.ex
  refine ⟨_, pe_op op_cat h1 h3, fun n Z H0 m r σ H q Q p => ?_⟩
  unfold mCatF at p
  refine h2 n Z H0 m r σ H q _ (p.bind.imp fun d k v H1 s1 rv => ?_)
  refine h4 n Z H0 m r σ H1 (q.grow s1) _ ((k.grow s1).bind.imp fun d2 k2 w H2 s2 rw2 => ?_)
  have rv2 := rv.mono (hid_mono s2)
  split at k2
  · simp only [Rep] at rv2 rw2
    obtain ⟨a1, vs, rfl, hq, t⟩ := rv2
    obtain ⟨a2, us, rfl, hq2, t2⟩ := rw2
    split at k2
    · refine ⟨a1, a2, vs, us, rfl, rfl, hid_sub _ _ hq, hid_sub _ _ hq2, by rw [t.length, t2.length]; assumption, fun p np => ?_⟩
      exact k2 p _ H2 (s1.trans s2) np ⟨_, rfl, t.append t2⟩
    · exact False.elim k2
  · exact False.elim k2
/-! xs * k, xs[a:b] as new lists -/
def mRepF (ma mb : ME) : MF := fun r => (ma r).bind fun x => (mb r).bind fun y => match x, y with
  | .lst xs, .int k => if k < 9223372036854775808 ∧ -9223372036854775808 ≤ k ∧ xs.length * k.toNat ≤ sizeLine then .ok (.l (List.replicate k.toNat xs).flatten) else .bad
  | _, _ => .bad
theorem ef_rep (ha : EE X W a ma) (hb : EE X W b mb) : EF X W (.BinOp a .Mult b pos) (mRepF ma mb) := by
  obtain ⟨ta, h1, h2⟩ := ha.ex
  obtain ⟨tb, h3, h4⟩ := hb.ex
  refine ⟨_, pe_op op_rep h1 h3, fun n Z H0 m r σ H q Q p => ?_⟩
  unfold mRepF at p
  refine h2 n Z H0 m r σ H q _ (p.bind.imp fun d k v H1 s1 rv => ?_)
  refine h4 n Z H0 m r σ H1 (q.grow s1) _ ((k.grow s1).bind.imp fun d2 k2 w H2 s2 rw2 => ?_)
  have rv2 := rv.mono (hid_mono s2)
  split at k2
  · simp only [Rep] at rv2 rw2
    obtain ⟨a1, vs, rfl, hq, t⟩ := rv2
    subst rw2
    split at k2
    · rename_i h
      obtain ⟨g1, g2, g3⟩ := h
      refine ⟨a1, _, vs, rfl, rfl, hid_sub _ _ hq, by simpa using g2, by simpa using g1, by rw [t.length]; exact g3, fun p np => ?_⟩
      exact k2 p _ H2 (s1.trans s2) np ⟨_, rfl, t.rep _⟩
    · exact False.elim k2
  · exact False.elim k2
def lstC : D → R (List D)
  | .lst xs => .ok xs
  | .slst xs => .ok xs
  | _ => .bad
def mCutF (me : ME) (lo hi : Option ME) : MF := fun r => (me r).bind fun d => (mPart lo r).bind fun l => (mPart hi r).bind fun h => (lstC d).bind fun xs => .ok (.l (cutD xs l h))
theorem ef_cut {lo hi : Option Expr} {ml mh : Option ME} {p2 : Pos} (ha : EE X W a ma) (hl : EO X W lo ml) (hh : EO X W hi mh) : EF X W (.Subscript a (.Slice lo hi none p2) pos) (mCutF ma ml mh) := by
  obtain ⟨ta, h1, h2⟩ := ha.ex
  obtain ⟨tl, h3, h4⟩ := hl.ex
  obtain ⟨th, h5, h6⟩ := hh.ex
  refine ⟨_, pe_slice sl_list h1 h3 h5, fun n Z H0 m r σ H q Q p => ?_⟩
  unfold mCutF at p
  refine h2 n Z H0 m r σ H q _ (p.bind.imp fun d k x H1 s1 rx => ?_)
  refine h4 n Z H0 m r σ H1 (q.grow s1) _ ((k.grow s1).bind.imp fun l k2 H2 s2 => ?_)
  refine h6 n Z H0 m r σ H2 ((q.grow s1).grow s2) _ ((k2.grow s2).bind.imp fun u k3 H3 s3 => ?_)
  have sA := s1.trans (s2.trans s3)
  have rx3 := rx.mono (hid_mono (s2.trans s3))
  cases d <;> try exact False.elim k3
  · rename_i xs
    simp only [Rep] at rx3
    obtain ⟨a1, vs, rfl, hq, t⟩ := rx3
    exact ⟨a1, vs, rfl, .inl (.inl (hid_sub _ _ hq)), fun c nc => k3 c _ H3 sA nc ⟨_, rfl, t.cut l u⟩⟩
  · rename_i xs
    simp only [Rep] at rx3
    obtain ⟨a1, vs, rfl, hq, t⟩ := rx3
    exact ⟨a1, vs, rfl, Same.seq hid_sub hq, fun c nc => k3 c _ H3 sA nc ⟨_, rfl, t.cut l u⟩⟩
end
theorem def_okF {P : Program} {w : World} {K : PySem.W.Frag} {mg : Str → Option Value} {base : Heap} {x qual : Str} {st : Stmt} {f : Addr} {fd : FuncData} {N ps : List Str} {k np : Nat} {ms : MS} (F : Fun K x qual st f fd) (S : FnScope N ps (defScope st)) (hp : ps.length = np) (hN : np ≤ N.length)
    (hb : ∀ (cdv : Value) (A : Around) (outer : List Env) (s : Shared) (H : Hp) (E : XK), Room k (A.deeper (envOfC qual (defScope st) s.heap.objs.size f cdv)) →
      Takes (cxOf (L2.CX P w) P w K mg base N qual (defScope st) f cdv A outer s H E) (fun cls d _ H => E cls d H) →
      PassesOwn (model P w) (cxOf (L2.CX P w) P w K mg base N qual (defScope st) f cdv A outer s H E).A (cxOf (L2.CX P w) P w K mg base N qual (defScope st) f cdv A outer s H E).env (cxOf (L2.CX P w) P w K mg base N qual (defScope st) f cdv A outer s H E).xe →
      EB (cxOf (L2.CX P w) P w K mg base N qual (defScope st) f cdv A outer s H E) (fun cls d _ H => E cls d H) (defBody st) ms) : FnOk P w K mg base (L2.CX P w) (k + 1) f fd ps (PFF K mg np (mDefF N.length ms)) := by
  refine F.okX S (fun vs H Q E h => by rw [hp]; exact h.1) fun cdv A outer s H vs Q E hr h => ?_
  obtain ⟨hl, ds, Z, hZ, rl, p⟩ := h
  obtain ⟨t, h1, h2⟩ := (hb cdv A outer s H E hr (takes_of rfl rfl rfl rfl) (passes_of rfl)).ex
  refine ⟨t, h1, ?_⟩
  have q : Rel K mg N.length Z H nom (mStart N.length ds) (L2.start N vs) H := start_rel hZ rl (by omega)
  refine h2 N.length Z H nom _ _ H rfl q _ ?_
  unfold mDefF at p
  cases e : ms (mStart N.length ds) with
  | nx r =>
    rw [e] at p
    exact False.elim p
  | rt d =>
    rw [e] at p
    exact False.elim p
  | rc d =>
    rw [e] at p
    exact fun v o H' s' nv rv => p v o H' s' nv rv
  | ex c ns xs r =>
    rw [e] at p
    exact fun m σ H' C d q' _ ea => p C d H' q'.same (ea.mono hid_nom)
  | bk r =>
    rw [e] at p
    exact False.elim p
  | ct r =>
    rw [e] at p
    exact False.elim p
  | bad =>
    rw [e] at p
    exact False.elim p
end QB

namespace QB
open PySem PySem.Spec PyProof.Rows L2
/-! ### an own error class: __init__ of plain stores -/
/-- what __init__ promises: the fields, in the order of the stores -/
def SpI (K : PySem.W.Frag) (fs : List Str) : Sp := fun vs H Q E => ∃ (a C : Addr) (ws : List V), vs = .ref a :: ws ∧ ws.length = fs.length ∧ fs.length ≤ 900 ∧ OexC K C ∧ (∀ f ∈ fs, PySem.W.findIn K (.ref C) f = some none) ∧ H a = some (exo a C none) ∧
  ∀ dx, H dx = none → dx ≠ a → Q .non (upd (upd H dx (exd dx (fs.zip ws).reverse)) a (exo a C (some dx)))
/-- stores of fields, from slot j on -/
def InitS (X : Cx) (ts : TS) (fs : List Str) (j : Nat) : Prop := ∀ (D : Ends) (σ : L2.St) (H : Hp) (a C : Addr) (ws : List V), σ[0]? = some (some (.ref a)) → (∀ i w, ws[i]? = some w → σ[j + i]? = some (some w)) → ws.length = fs.length → OexC X.K C → (∀ f ∈ fs, PySem.W.findIn X.K (.ref C) f = some none) →
  (fs ≠ [] → fs.length ≤ 900 → H a = some (exo a C none) → (∀ dx, H dx = none → dx ≠ a → D.nx σ (upd (upd H dx (exd dx (fs.zip ws).reverse)) a (exo a C (some dx)))) → ts D σ H) ∧
  ∀ dx gs, H a = some (exo a C (some dx)) → H dx = some (exd dx gs) → dx ≠ a → gs.length + fs.length ≤ 900 → D.nx σ (upd H dx (exd dx ((fs.zip ws).reverse ++ gs))) → ts D σ H
structure IB (X : Cx) (sts : List Stmt) (fs : List Str) (j : Nat) : Prop where
  ex : ∃ ts, PSs X sts ts ∧ InitS X ts fs j
theorem upd_id {H : Hp} {a : Addr} {o : HO} (h : H a = some o) : upd H a o = H := by
  funext b
  unfold upd
  split
  · rename_i e
    rw [e, h]
  · rfl
theorem upd_two {H : Hp} {a : Addr} {o u : HO} : upd (upd H a o) a u = upd H a u := by
  funext b
  unfold upd
  by_cases e : b = a <;> simp [e]
theorem upd_swap {H : Hp} {a b : Addr} {o u : HO} (n : a ≠ b) : upd (upd H a o) b u = upd (upd H b u) a o := by
  funext c
  unfold upd
  by_cases e : c = a
  · by_cases e2 : c = b
    · exact absurd (e.symm.trans e2) n
    · simp [e, n]
  · by_cases e2 : c = b <;> simp [e, e2, Ne.symm n]
section
variable {X : Cx} {W : WX} {a b e : Expr} {es : List Expr} {ms : MA} {pos : Pos}
theorem ib_nil {j : Nat} : IB X [] [] j := ⟨_, pss_nil, fun D σ H a C ws h0 hw hl T nof => ⟨fun h => absurd rfl h, fun dx gs ea ed nd hz k => by
  rw [List.zip_nil_left, List.reverse_nil, List.nil_append, upd_id ed] at k
  exact k⟩⟩
theorem ib_cons {f y z : Str} {fs : List Str} {j : Nat} {p1 p2 p3 p4 : Pos} {sts : List Stmt} (g : IB X sts fs (j + 1)) (h0 : X.N[0]? = some z) (hj : X.N[j]? = some y) (hv0 : Vis X.env.scope z) (hvj : Vis X.env.scope y) (d0 : (z == ("__debug__" : Str)) = false) (c0 : (z == ("__classdict__" : Str)) = false) (d1 : (y == ("__debug__" : Str)) = false) (c1 : (y == ("__classdict__" : Str)) = false)
    (hs : swapsWith (.Name y p3) (some (.Attribute (.Name z p1) f p2)) p4.line X.env = pure false := by rfl) : IB X (.Assign [.Attribute (.Name z p1) f p2] (.Name y p3) p4 :: sts) (f :: fs) j := by
  obtain ⟨u, g1, g2⟩ := g.ex
  refine ⟨_, pss_cons (ps_ost (pv 0 h0 hv0 d0 c0) (pv j hj hvj d1 c1) hs) g1, fun D σ H a C ws s0 hw hl T nof => ?_⟩
  match ws, hl with
  | w :: ws', hl =>
    have hl' : ws'.length = fs.length := by simpa using hl
    have wj : σ[j]? = some (some w) := hw 0 w rfl
    have hw' : ∀ i v, ws'[i]? = some v → σ[j + 1 + i]? = some (some v) := fun i v hv => by
      have := hw (i + 1) v (by simpa using hv)
      rw [show j + 1 + i = j + (i + 1) by omega]
      exact this
    have nf := nof f List.mem_cons_self
    have nofs : ∀ g ∈ fs, PySem.W.findIn X.K (.ref C) g = some none := fun g hg => nof g (List.mem_cons_of_mem _ hg)
    constructor
    · intro _ hz ea k
      refine ⟨w, wj, .ref a, s0, a, C, rfl, T, nf, .inl ⟨ea, fun dx ndx na => ?_⟩⟩
      refine (g2 D σ _ a C ws' s0 hw' hl' T nofs).2 dx [(f, w)] upd_same (by rw [upd_ne na]; exact upd_same) na (by simp at hz ⊢; omega) ?_
      have := k dx ndx na
      rw [List.zip_cons_cons, List.reverse_cons] at this
      rw [upd_swap (Ne.symm na), upd_two]
      exact this
    · intro dx gs ea ed nd hz k
      refine ⟨w, wj, .ref a, s0, a, C, rfl, T, nf, .inr ⟨dx, gs, ea, ed, by simp at hz; omega, ?_⟩⟩
      refine (g2 D σ _ a C ws' s0 hw' hl' T nofs).2 dx ((f, w) :: gs) (by rw [upd_ne (Ne.symm nd)]; exact ea) upd_same nd (by simp at hz ⊢; omega) ?_
      rw [upd_two]
      rw [List.zip_cons_cons, List.reverse_cons, List.append_assoc] at k
      exact k
end
theorem init_ok {P : Program} {w : World} {K : PySem.W.Frag} {mg : Str → Option Value} {base : Heap} {x qual : Str} {st : Stmt} {f : Addr} {fd : FuncData} {fs N : List Str} {k : Nat} (F : Fun K x qual st f fd) (S : FnScope N N (defScope st)) (hN : N.length = fs.length + 1) (hne : fs ≠ [])
    (hb : ∀ (cdv : Value) (A : Around) (outer : List Env) (s : Shared) (H : Hp) (E : XK), IB (cxOf (L2.CX P w) P w K mg base N qual (defScope st) f cdv A outer s H E) (defBody st) fs 1) : FnOk P w K mg base (L2.CX P w) (k + 1) f fd N (SpI K fs) := by
  refine F.okX S (fun vs H Q E h => ?_) fun cdv A outer s H vs Q E hr h => ?_
  · obtain ⟨a, C, ws, rfl, hl, _⟩ := h
    rw [List.length_cons, hl, hN]
  · obtain ⟨a, C, ws, rfl, hl, hz, T, nof, ea, k⟩ := h
    obtain ⟨t, h1, h2⟩ := (hb cdv A outer s H E).ex
    refine ⟨t, h1, ?_⟩
    have s0 : (L2.start N (.ref a :: ws))[0]? = some (some (.ref a)) := by simp [L2.start]
    refine (h2 _ _ H a C ws s0 (fun i v hv => ?_) hl T nof).1 hne hz ea fun dx n1 n2 => k dx n1 n2
    unfold L2.start
    rw [List.getElem?_append_left (by simp; have := (List.getElem?_eq_some_iff.mp hv).1; omega), List.getElem?_map, Nat.add_comm, List.getElem?_cons_succ, hv]
    rfl
/-- what a clause says of a class, from facts that the top has -/
theorem exm_mk {K : PySem.W.Frag} {C S : Addr} {b : Bool} (h1 : PySem.W.subIn K (.ref S) (.type "BaseException") = some true) (h2 : PySem.W.isClsIn K S = true) (h3 : PySem.W.typeIn K (.ref S) = some (.type "type")) (h4 : PySem.W.subIn K (.ref C) (.ref S) = some b) :
    PySem.W.exmOne K (.ref C) (.ref S) = some b := by
  have e1 : (PySem.W.subIn K (.ref S) (.type "BaseException") == some true) = true := by rw [h1] <;> rfl
  have e2 : ((PySem.W.clsIn K S).isSome && PySem.W.typeIn K (.ref S) == some (.type "type")) = true := by
    have h2' : (PySem.W.clsIn K S).isSome = true := h2
    rw [h2', h3] <;> rfl
  show (if (PySem.W.subIn K (.ref S) (.type "BaseException") == some true) = true then (if ((PySem.W.clsIn K S).isSome && PySem.W.typeIn K (.ref S) == some (.type "type")) = true then PySem.W.subIn K (.ref C) (.ref S) else none) else none) = some b
  rw [if_pos e1, if_pos e2]
  exact h4
/-- what the top has left of the class -/
structure XcTxt (P : Program) (w : World) (K : PySem.W.Frag) (mg : Str → Option Value) (base : Heap) (k : Nat) (c : Str) (fs : List Str) : Prop where
  ex : ∃ (C fI : Addr) (fd : FuncData) (ps : List Str), mg c = some (.ref C) ∧ OexC K C ∧ (∀ f ∈ fs, PySem.W.findIn K (.ref C) f = some none) ∧ PySem.W.findIn K (.ref C) "__init__" = some (some (.ref fI)) ∧ PySem.W.typeIn K (.ref fI) = some (.type "function") ∧ Binds K fd ps [] ∧ FnOk P w K mg base (L2.CX P w) k fI fd ps (SpI K fs) ∧ fs.length ≤ 900
/-- .. told of the text alone -/
structure XcF (K : PySem.W.Frag) (mg : Str → Option Value) (c : Str) (fs : List Str) (x qual : Str) (st : Stmt) : Prop where
  ex : ∃ (C fI : Addr) (fd : FuncData), mg c = some (.ref C) ∧ OexC K C ∧ (∀ f ∈ fs, PySem.W.findIn K (.ref C) f = some none) ∧ PySem.W.findIn K (.ref C) "__init__" = some (some (.ref fI)) ∧ PySem.W.typeIn K (.ref fI) = some (.type "function") ∧ Fun K x qual st fI fd
theorem RepL.rev {K : PySem.W.Frag} {mg : Str → Option Value} {G : Hp} : ∀ {ds : List D} {vs : List V}, RepL K mg G ds vs → RepL K mg G ds.reverse vs.reverse
  | [], vs, h => by
    simp only [RepL] at h
    subst h
    exact RepL.nil
  | d :: ds, vs, h => by
    simp only [RepL] at h
    obtain ⟨v, us, rfl, r, t⟩ := h
    rw [List.reverse_cons, List.reverse_cons]
    exact (RepL.rev t).append (RepL.cons r RepL.nil)
theorem zip_rev {α β : Type} : ∀ {as : List α} {bs : List β}, as.length = bs.length → (as.zip bs).reverse = as.reverse.zip bs.reverse
  | [], [], _ => rfl
  | a :: as, b :: bs, h => by
    have h' : as.length = bs.length := by simpa using h
    rw [List.zip_cons_cons, List.reverse_cons, List.reverse_cons, List.reverse_cons, zip_rev h', List.zip_append (by simp [h'])]
    rfl
  | [], _ :: _, h => by simp at h
  | _ :: _, [], h => by simp at h
section
variable {X : Cx} {W : WX} {a b e : Expr} {es : List Expr} {ms : MA} {pos pos2 p1 : Pos} {k kk : Nat} {c : Str} {fs : List Str}
/-- raise C(e, ..) -/
def mRaise (c : Str) (fs : List Str) (ms : MA) : MS := fun r => toFl r (ms r) fun ds => .ex c fs.reverse ds.reverse r
theorem es_raise (hc : X.calm = true) (tk : Takes X W) (T : XcTxt X.prog X.w X.K X.mg X.base k c fs) (hr : Room kk X.A) (hk : k + 1 ≤ kk) (ha : EA X W (a :: es) ms) (hl : ALen ms fs.length) (hg : Gl X c := by rfl) (hdb : (c == ("__debug__" : Str)) = false := by decide)
    (he : starEach (a :: es) X.env = (false, eval a X.env) :: starEach es X.env := by rfl) (hpl : (backTo pos (starEach es X.env)).any (·.1) = false := by rfl) : ES X W (.Raise (some (.Call (.Name c p1) (a :: es) [] pos)) none pos2) (mRaise c fs ms) := by
  obtain ⟨C, fI, fd, ps, gC, oC, nof, iC, tI, hb, F1, hz⟩ := T.ex
  obtain ⟨ta, h1, h2⟩ := ha.ex
  refine ⟨_, ps_raise hc tk (pmk_oex oC iC tI F1 (hr.mono hk) hb .nil (passes_call tk (fun _ _ _ _ z => z.elim)) hg gC h1 hdb he hpl), fun n Z H0 m r σ H hn q D p => ?_⟩
  unfold mRaise at p
  cases em : ms r with
  | ok ds =>
    have hlen := hl r ds em
    refine h2 n Z H0 m r σ H q _ ?_
    rw [em] at p ⊢
    intro vs H1 s1 rx
    have hv : vs.length = fs.length := by rw [rx.length, hlen]
    refine ⟨by omega, fun x nx => ?_⟩
    refine ⟨x, C, vs ++ [], rfl, by simp [hv], hz, oC, nof, upd_same, fun dx n1 n2 => ?_⟩
    have n1' : H1 dx = none := by
      rw [upd_ne n2] at n1
      exact n1
    refine ⟨rfl, dx, (fs.zip (vs ++ [])).reverse, upd_same, by rw [upd_ne n2]; exact upd_same, n1', ?_⟩
    have eh : upd (del (upd (upd (upd H1 x (exo x C none)) dx (exd dx (fs.zip (vs ++ [])).reverse)) x (exo x C (some dx))) x) dx (.xd (fs.zip (vs ++ [])).reverse) = upd H1 dx (.xd (fs.zip (vs ++ [])).reverse) := by
      funext y
      unfold upd del
      by_cases e1 : y = dx
      · simp [e1]
      · by_cases e2 : y = x
        · simp [e1, e2, nx]
        · simp [e1, e2]
    rw [eh]
    have s2 : Same H1 (upd H1 dx (.xd (fs.zip (vs ++ [])).reverse)) := same_upd n1'
    refine p m σ _ C (some dx) ((q.grow s1).grow s2) ((hid_mono s1).trans (hid_mono s2)) ⟨gC, .inr ⟨dx, vs.reverse, rfl, ?_, by simp [hlen], (rx.mono (hid_mono s2)).rev⟩⟩
    rw [(q.grow s1).hidNew n1', List.append_nil, zip_rev hv.symm]
  | exc cc ns xs =>
    refine h2 n Z H0 m r σ H q _ ?_
    rw [em] at p ⊢
    intro C' d H' s' ea
    exact p m σ H' C' d (q.grow s') (hid_mono s') ea
  | bad =>
    rw [em] at p
    exact False.elim p
/-! ### try: .. except x: .. -/
def mTry (ct : Str → Option Bool) (ms mu : MS) : MS := fun r => match ms r with
  | .ex c ns xs r' => (match ct c with
    | some true => (match mu r' with
      | .ex _ _ _ _ => .bad
      | f => f)
    | some false => .ex c ns xs r'
    | none => .bad)
  | f => f
theorem es_try {x : Str} {cv : Value} {body suite : List Stmt} {b₀ : Stmt} {np pos' : Pos} {mb mu : MS} {ct : Str → Option Bool} (hs : X.stack = X.env :: X.outer) (hf : X.env.frame = some X.env.locals) (hc : Names X x cv) (tk : Takes X W)
    (hct : ∀ c b, ct c = some b → ∀ C, X.mg c = some (.ref C) → PySem.W.exmOne X.K (.ref C) cv = some b)
    (hb : ∀ (W' : WX) (pn : List (Addr × Obj)) (xe : Value → Shared → Prop), Takes (X.tr pn xe) W' → PassesOwn (model X.prog X.w) X.A X.env xe → EB (X.tr pn xe) W' body mb)
    (hsu : ∀ (a : Addr) (oe : Obj) (cls : Value) (d : Option Addr) (pn : List (Addr × Obj)), Zc cls d oe → (∃ vs, oe.data = .fields vs) → EB (X.suite a ((a, oe) :: pn)) W0 (b₀ :: suite) mu) :
    ES X W (.Try body [.ExceptHandler (some (.Name x np)) none (b₀ :: suite) pos'] [] [] pos) (mTry ct mb mu) := by
  let tb : WX → TS := fun W' D σ H => ∀ (pn : List (Addr × Obj)) (xe : Value → Shared → Prop) (h1 : Takes (X.tr pn xe) W') (h2 : PassesOwn (model X.prog X.w) X.A X.env xe), (hb W' pn xe h1 h2).ex.choose D σ H
  let ts : Addr → Value → Option Addr → TS := fun a cls d D σ H => ∀ (oe : Obj) (pn : List (Addr × Obj)) (h1 : Zc cls d oe) (h2 : ∃ vs, oe.data = .fields vs), (hsu a oe cls d pn h1 h2).ex.choose D σ H
  refine ⟨fun D σ H => tb (wOnly X.K cv ts W D) D σ H, ps_try_only (tb := tb) (ts := ts) hs hf hc tk (fun W' pn xe h1 h2 => ⟨fun pins s σ H D I z => (hb W' pn xe h1 h2).ex.choose_spec.1.run pins s σ H D I (z pn xe h1 h2)⟩)
    (fun a oe cls d pn h1 h2 => ⟨fun pins s σ H D I z => (hsu a oe cls d pn h1 h2).ex.choose_spec.1.run pins s σ H D I (z oe pn h1 h2)⟩), fun n Z H0 m r σ H hn q D p pn xe h1 h2 => ?_⟩
  refine (hb _ pn xe h1 h2).ex.choose_spec.2 n Z H0 m r σ H hn q D ?_
  show PostS X.K X.mg n Z H0 (wOnly X.K cv ts W D) (hid Z m H) (mb r) D
  unfold mTry at p
  cases e : mb r with
  | nx r' =>
    rw [e] at p
    exact p
  | rt d =>
    rw [e] at p
    exact p
  | rc d =>
    rw [e] at p
    exact p
  | bk r' =>
    rw [e] at p
    exact p
  | ct r' =>
    rw [e] at p
    exact p
  | bad =>
    rw [e] at p
    exact p
  | ex c ns xs r' =>
    rw [e] at p
    intro m' σ' H' C d q' s' ea
    simp only at p
    cases ec : ct c with
    | none =>
      rw [ec] at p
      exact False.elim p
    | some b =>
      rw [ec] at p
      refine ⟨b, hct c b ec C ea.1, fun hb1 a na oe pn2 z1 z2 => ?_, fun hb0 => ?_⟩
      · subst hb1
        simp only at p
        refine (hsu a oe (.ref C) d pn2 z1 z2).ex.choose_spec.2 n Z H0 m' r' σ' H' hn q' D ?_
        show PostS X.K X.mg n Z H0 W0 (hid Z m' H') (mu r') D
        have p2 := PostS.grow p s'
        cases e2 : mu r' with
        | nx r4 =>
          rw [e2] at p2
          exact p2
        | rt d =>
          rw [e2] at p2
          exact p2
        | rc d =>
          rw [e2] at p2
          exact p2
        | bk r4 =>
          rw [e2] at p2
          exact p2
        | ct r4 =>
          rw [e2] at p2
          exact p2
        | bad =>
          rw [e2] at p2
          exact p2
        | ex c2 ns2 xs2 r4 =>
          rw [e2] at p2
          exact False.elim p2
      · subst hb0
        exact p m' σ' H' C d q' s' ea
/-! ### range with a step of -1 -/
def rgC (lo c : Int) (n : Nat) : List D := (List.range n).map fun (i : Nat) => D.int (lo + (i : Int) * c)
theorem itok_c {K : PySem.W.Frag} {mg : Str → Option Value} {G : Hp} {lo c : Int} {n : Nat} : ItOk K mg G (Itc lo c n) (rgC lo c n) := by
  have hl : (rgC lo c n).length = n := by simp [rgC]
  refine ⟨fun H i s hi => ⟨by rw [hl] at hi; exact hi, fun x H' hy => ?_⟩, fun H s => by rw [hl]; exact Nat.le_refl n⟩
  obtain ⟨e, ex⟩ := hy
  rw [hl] at hi
  refine ⟨e, .int (lo + (i : Int) * c), ?_, by simp only [Rep]; exact ex⟩
  simp [rgC, List.getElem?_map, hi]
def dRg3 : List D → R (List D)
  | [.int i, .int j, .int c] => if okR i ∧ okR j ∧ c = -1 then .ok (rgC i (-1) (i - j).toNat) else .bad
  | _ => .bad
def mRg3 (ma : MA) : MA := fun r => (ma r).bind dRg3
theorem RepL.three {K : PySem.W.Frag} {mg : Str → Option Value} {G : Hp} {d e f : D} {vs : List V} (h : RepL K mg G [d, e, f] vs) : ∃ v w x, vs = [v, w, x] ∧ Rep K mg G d v ∧ Rep K mg G e w ∧ Rep K mg G f x := by
  simp only [RepL] at h
  obtain ⟨v, us, rfl, r, w, us', rfl, r', x, us'', rfl, r'', rfl⟩ := h
  exact ⟨v, w, x, rfl, r, r', r''⟩
variable {b cc tg : Expr} {ma : MA}
theorem ei_range3 (hm : X.mg "range" = none) (hg : Gl X "range") (ha : EA X W [a, b, cc] ma) (hl : ALen ma 3)
    (hs : starEach [a, b, cc] X.env = (false, eval a X.env) :: starEach [b, cc] X.env := by rfl) (hpl : (backTo pos (starEach [b, cc] X.env)).any (·.1) = false := by rfl) : EI X W tg (.Call (.Name "range" p1) [a, b, cc] [] pos) (mRg3 ma) := by
  obtain ⟨t, h1, h2⟩ := ha.ex
  refine ⟨_, pi_range3 hg hm h1 hs hpl, fun n Z H0 m r σ H q R' p => ?_⟩
  unfold mRg3 at p
  have p' := p.bind
  refine h2 n Z H0 m r σ H q _ ?_
  cases e : ma r with
  | ok ds =>
    rw [e] at p'
    have hd := hl r ds e
    intro vs H1 s1 rx
    obtain ⟨d, d2, d3, rfl⟩ : ∃ d e f, ds = [d, e, f] := by
      match ds, hd with
      | [d, e, f], _ => exact ⟨d, e, f, rfl⟩
    obtain ⟨v, w, x, rfl, rv, rw', rx'⟩ := rx.three
    cases d <;> cases d2 <;> cases d3 <;> try exact False.elim p'
    rename_i i j c
    simp only [Rep] at rv rw' rx'
    subst rv rw' rx'
    simp only [PostG, dRg3] at p'
    split at p'
    · rename_i y hz
      split at hz
      · rename_i hz2
        cases hz
        obtain ⟨g1, g2, g3⟩ := hz2
        subst g3
        simp only [okR] at g1 g2
        exact ⟨i, j, -1, _, rfl, RgC.neg (by simpa using g1.1) (by simpa using g1.2) (by simpa using g2.1) (by simpa using g2.2), p' _ H1 s1 itok_c⟩
      · cases hz
    · rename_i hz
      split at hz <;> cases hz
    · exact False.elim p'
  | exc c ns xs =>
    rw [e] at p'
    exact p'
  | bad =>
    rw [e] at p'
    exact False.elim p'
end
/-! ### what a clause catches, told by a list -/
theorem ct_list {K : PySem.W.Frag} {mg : Str → Option Value} {x : Str} {Q : Addr} (hQ : mg x = some (.ref Q)) : ∀ {l : List (Str × Bool)}, (∀ p ∈ l, ∃ C Q' : Addr, mg p.1 = some (.ref C) ∧ mg x = some (.ref Q') ∧ PySem.W.exmOne K (.ref C) (.ref Q') = some p.2) → ∀ (c : Str) (b : Bool), l.lookup c = some b → ∀ C : Addr, mg c = some (.ref C) → PySem.W.exmOne K (.ref C) (.ref Q) = some b
  | [], _, c, b, h, _, _ => by simp at h
  | p :: l, hp, c, b, h, C, hC => by
    rw [List.lookup_cons] at h
    cases e : c == p.1 with
    | true =>
      rw [e] at h
      have e' : c = p.1 := by simpa using e
      obtain ⟨C', Q', g1, g2, g3⟩ := hp p List.mem_cons_self
      have : C' = C := by
        rw [← e', hC] at g1
        cases g1
        rfl
      subst this
      have : Q' = Q := by
        rw [hQ] at g2
        cases g2
        rfl
      subst this
      cases h
      exact g3
    | false =>
      rw [e] at h
      exact ct_list hQ (fun q hq => hp q (List.mem_cons_of_mem _ hq)) c b h C hC
theorem ct_nil {K : PySem.W.Frag} {mg : Str → Option Value} {x : Str} : ∀ p ∈ ([] : List (Str × Bool)), ∃ C Q' : Addr, mg p.1 = some (.ref C) ∧ mg x = some (.ref Q') ∧ PySem.W.exmOne K (.ref C) (.ref Q') = some p.2 := fun p h => by cases h
theorem ct_cons {K : PySem.W.Frag} {mg : Str → Option Value} {x c : Str} {b : Bool} {l : List (Str × Bool)} (h : ∃ C Q' : Addr, mg c = some (.ref C) ∧ mg x = some (.ref Q') ∧ PySem.W.exmOne K (.ref C) (.ref Q') = some b) (g : ∀ p ∈ l, ∃ C Q' : Addr, mg p.1 = some (.ref C) ∧ mg x = some (.ref Q') ∧ PySem.W.exmOne K (.ref C) (.ref Q') = some p.2) : ∀ p ∈ (c, b) :: l, ∃ C Q' : Addr, mg p.1 = some (.ref C) ∧ mg x = some (.ref Q') ∧ PySem.W.exmOne K (.ref C) (.ref Q') = some p.2 := fun p hp => by
  rcases List.mem_cons.mp hp with rfl | hp
  · exact h
  · exact g p hp
theorem xc_mk {P : Program} {w : World} {K : PySem.W.Frag} {mg : Str → Option Value} {base : Heap} {c x qual : Str} {st : Stmt} {fs N : List Str} (T : XcF K mg c fs x qual st) (hz : fs.length ≤ 900) (hb : ∀ {f : Addr} {fd : FuncData}, Fun K x qual st f fd → Binds K fd N [])
    (hf : ∀ {f : Addr} {fd : FuncData}, Fun K x qual st f fd → FnOk P w K mg base (L2.CX P w) 1 f fd N (SpI K fs)) : XcTxt P w K mg base 1 c fs := by
  obtain ⟨C, fI, fd, h1, h2, h3, h4, h5, F⟩ := T.ex
  exact ⟨C, fI, fd, N, h1, h2, h3, h4, h5, hb F, hf F, hz⟩
end QB

namespace QB
open PySem
open Builtin.Int (intBits)
/-! ### rows for simp: how a mirror is run -/
theorem q_rb_ok {α β : Type} {a : α} {f : α → R β} : R.bind (.ok a) f = f a := id rfl
theorem q_rb_bad {α β : Type} {f : α → R β} : R.bind (.bad) f = .bad := id rfl
theorem q_rb_exc {α β : Type} {c ns xs} {f : α → R β} : R.bind (.exc c ns xs) f = .exc c ns xs := id rfl
theorem q_tf_ok {β : Type} {r : Sc} {a : β} {k : β → Fl} : toFl r (.ok a) k = k a := id rfl
def Fl.andThen (a : Fl) (b : MS) : Fl := match a with
  | .nx r => b r
  | f => f
theorem q_sq {a b : MS} {r : Sc} : mSeq a b r = Fl.andThen (a r) b := id rfl
theorem q_at_nx {r : Sc} {b : MS} : Fl.andThen (.nx r) b = b r := id rfl
theorem q_at_rt {d : D} {b : MS} : Fl.andThen (.rt d) b = .rt d := id rfl
theorem q_at_bk {r : Sc} {b : MS} : Fl.andThen (.bk r) b = .bk r := id rfl
theorem q_at_ct {r : Sc} {b : MS} : Fl.andThen (.ct r) b = .ct r := id rfl
theorem q_at_ex {c ns xs} {r : Sc} {b : MS} : Fl.andThen (.ex c ns xs r) b = .ex c ns xs r := id rfl
def Fl.sel (k : Bool) (a b : Fl) : Fl := match k with
  | true => a
  | false => b
theorem q_mi {mt : MT} {a b : MS} {r : Sc} : mIf mt a b r = toFl r (mt r) (fun k => Fl.sel k (a r) (b r)) := by
  unfold mIf
  congr 1
theorem q_sel_t {a b : Fl} : Fl.sel true a b = a := id rfl
theorem q_sel_f {a b : Fl} : Fl.sel false a b = b := id rfl
def Fl.out (f : Fl) : R D := match f with
  | .rt d => .ok d
  | .nx _ => .ok .non
  | .ex c ns xs _ => .exc c ns xs
  | _ => .bad
theorem q_df {n : Nat} {ms : MS} {ds : List D} : mDef n ms ds = Fl.out (ms (mStart n ds)) := id rfl
theorem q_out_rt {d : D} : Fl.out (.rt d) = .ok d := id rfl
theorem q_out_nx {r : Sc} : Fl.out (.nx r) = .ok .non := id rfl
theorem q_out_ex {c ns xs} {r : Sc} : Fl.out (.ex c ns xs r) = .exc c ns xs := id rfl
theorem q_v0 {d : D} {r : Sc} : mVar 0 (some (.val d) :: r) = .ok d := id rfl
theorem q_vs {i : Nat} {x : Option EV} {r : Sc} : mVar (i + 1) (x :: r) = mVar i r := by simp [mVar]
theorem q_w0 {d : D} {r : Sc} : mVarW 0 (some (.val d) :: r) = .ok d := id rfl
theorem q_w0o {c : Cell} {r : Sc} : mVarW 0 (some (.own c) :: r) = .ok (thawed c) := id rfl
theorem q_ws {i : Nat} {x : Option EV} {r : Sc} : mVarW (i + 1) (x :: r) = mVarW i r := by simp [mVarW]
def asB : D → R Bool
  | .bl k => .ok k
  | _ => .bad
theorem q_tbq {me : ME} {r : Sc} : mTB me r = R.bind (me r) asB := by
  unfold mTB
  congr 1
theorem q_asb {b : Bool} : asB (.bl b) = .ok b := id rfl
theorem q_nt {mt : MT} {r : Sc} : mTNot mt r = R.bind (mt r) (fun k => .ok (!k)) := id rfl
def R.sel {α : Type} (k : Bool) (a b : R α) : R α := match k with
  | true => a
  | false => b
theorem q_rsel_t {α : Type} {a b : R α} : R.sel true a b = a := id rfl
theorem q_rsel_f {α : Type} {a b : R α} : R.sel false a b = b := id rfl
theorem q_ta {mt mu : MT} {r : Sc} : mTAnd mt mu r = R.bind (mt r) (fun k => R.sel k (mu r) (.ok false)) := by
  unfold mTAnd
  congr 1
theorem q_to {mt mu : MT} {r : Sc} : mTOr mt mu r = R.bind (mt r) (fun k => R.sel k (.ok true) (mu r)) := by
  unfold mTOr
  congr 1
theorem q_va {ma mb : ME} {r : Sc} : mAnd ma mb r = R.bind (ma r) (fun d => R.bind (asB d) fun k => R.sel k (mb r) (.ok (.bl false))) := by
  unfold mAnd
  congr 1
  funext d
  cases d <;> try rfl
  rename_i b
  cases b <;> rfl
theorem q_vo {ma mb : ME} {r : Sc} : mOr ma mb r = R.bind (ma r) (fun d => R.bind (asB d) fun k => R.sel k (.ok (.bl true)) (mb r)) := by
  unfold mOr
  congr 1
  funext d
  cases d <;> try rfl
  rename_i b
  cases b <;> rfl
theorem q_vn {ma : ME} {r : Sc} : mNot ma r = R.bind (ma r) (fun d => R.bind (asB d) fun k => .ok (.bl (!k))) := by
  unfold mNot
  congr 1
  funext d
  cases d <;> rfl
theorem q_sett {me : ME} {i : Nat} {r : Sc} : mSet i me r = toFl r (me r) (fun d => .nx (r.set i (some (.val d)))) := id rfl
theorem q_seto {me : MF} {i : Nat} {r : Sc} : mSetO i me r = toFl r (me r) (fun d => .nx (r.set i (some (.own d)))) := id rfl
theorem q_bin {f : D → D → R D} {ma mb : ME} {r : Sc} : mBin f ma mb r = (ma r).bind fun a => (mb r).bind fun b => f a b := id rfl
theorem q_c {d : D} {r : Sc} : mC d r = .ok d := id rfl
theorem q_callb {f : List D → R D} {ms : MA} {r : Sc} : mCallB f ms r = (ms r).bind f := id rfl
theorem q_cons {ma : ME} {ms : MA} {r : Sc} : mCons ma ms r = (ma r).bind fun d => (ms r).bind fun ds => .ok (d :: ds) := id rfl
theorem q_nil {r : Sc} : mNil r = .ok [] := id rfl
theorem q_tup {ms : MA} {r : Sc} : mTup ms r = (ms r).bind fun ds => if ds.length ≤ sizeLine then .ok (.tup ds) else .bad := id rfl
theorem q_lst {ms : MA} {r : Sc} : mLst ms r = (ms r).bind fun ds => if ds.length ≤ sizeLine then .ok (.l ds) else .bad := id rfl
theorem q_celle {mf : MF} {r : Sc} : mCellE mf r = (mf r).bind fun c => .ok (thawed c) := id rfl
theorem q_ret {me : ME} {r : Sc} : mRet me r = toFl r (me r) fun d => .rt d := id rfl
theorem q_nx {r : Sc} : mNx r = .nx r := id rfl
theorem q_thl {xs : List D} : thawed (.l xs) = .lst xs := id rfl
theorem q_thd {ks : List L2.Key} {xs : List D} : thawed (.d ks xs) = .dct ks xs := id rfl
theorem q_isi {T : String} {me : ME} {r : Sc} : mIsi T me r = (me r).bind (dIsi T) := id rfl
def negD : D → R D
  | .int i => .ok (.int (-i))
  | _ => .bad
theorem q_neg {ma : ME} {r : Sc} : mNeg ma r = (ma r).bind negD := by
  unfold mNeg
  congr 1
theorem q_neg_i {i : Int} : negD (.int i) = .ok (.int (-i)) := id rfl
theorem q_callk {mf : List D → R D} {is : List Nat} {ms mk : MA} {r : Sc} : mCallK mf is ms mk r = (ms r).bind fun ds => (mk r).bind fun es => mf (permL is (ds ++ es)) := id rfl
theorem q_st {n : Nat} {ds : List D} : mStart n ds = ds.map (fun d => some (EV.val d)) ++ List.replicate (n - ds.length) none := id rfl
theorem q_drop {me : ME} {r : Sc} : mDrop me r = toFl r (me r) fun _ => .nx r := id rfl
theorem q_retn {r : Sc} : mRetN r = .rt .non := id rfl
theorem q_brk {r : Sc} : mBrk r = .bk r := id rfl
theorem q_cnt {r : Sc} : mCnt r = .ct r := id rfl
theorem q_scal {me : ME} {r : Sc} : mScal me r = (me r).bind fun d => match d with
  | .non => .ok .non
  | .bl b => .ok (.bl b)
  | .int i => .ok (.int i)
  | .str s => .ok (.str s)
  | _ => .bad := id rfl
theorem q_ife {mt : MT} {ma mb : ME} {r : Sc} : mIfE mt ma mb r = (mt r).bind fun k => R.sel k (ma r) (mb r) := by
  unfold mIfE
  congr 1
theorem seq_nx {a b : MS} {r r' : Sc} (h : a r = .nx r') : mSeq a b r = b r' := by
  rw [q_sq, h, q_at_nx]
theorem seq_rt {a b : MS} {r : Sc} {d : D} (h : a r = .rt d) : mSeq a b r = .rt d := by
  rw [q_sq, h, q_at_rt]
theorem def_of {n : Nat} {ms : MS} {ds : List D} {d : D} (h : ms (mStart n ds) = .rt d) : mDef n ms ds = .ok d := by
  rw [q_df, h, q_out_rt]
theorem for_nx {mi : MA} {tb : D → Sc → Option Sc} {body : MS} {r r' : Sc} {ds : List D} (h1 : mi r = .ok ds) (h2 : loopL tb body ds r = .nx r') : mFor mi tb body r = .nx r' := by
  unfold mFor
  rw [h1]
  exact h2
theorem for_rt {mi : MA} {tb : D → Sc → Option Sc} {body : MS} {r : Sc} {d : D} {ds : List D} (h1 : mi r = .ok ds) (h2 : loopL tb body ds r = .rt d) : mFor mi tb body r = .rt d := by
  unfold mFor
  rw [h1]
  exact h2
theorem frz_nx {i : Nat} {ms : MS} {r : Sc} {c : Cell} {f : Fl} (h : r[i]? = some (some (.own c))) (h2 : ms (r.set i (some (.val (thawed c)))) = f) : mFrz i ms r = f := by
  unfold mFrz
  rw [h]
  exact h2
/-! own lists -/
theorem app_ok {i : Nat} {me : ME} {r : Sc} {xs : List D} {d : D} (h : r[i]? = some (some (.own (.l xs)))) (e : me r = .ok d) (hl : xs.length < sizeLine) : mApp i me r = .nx (r.set i (some (.own (.l (xs ++ [d]))))) := by
  unfold mApp
  rw [h]
  simp only [e, q_tf_ok, if_pos hl]
/-! ints -/
theorem q_add_i {i j : Int} : dAdd (.int i) (.int j) = .ok (.int (i + j)) := id rfl
theorem q_sub_i {i j : Int} : dSub (.int i) (.int j) = .ok (.int (i - j)) := id rfl
theorem q_mul_i {i j : Int} (h : intBits i + intBits j ≤ 134217728) : dMul (.int i) (.int j) = .ok (.int (i * j)) := if_pos h
theorem q_mod_i {i j : Int} (h : 0 < j) : dMod (.int i) (.int j) = .ok (.int (i % j)) := if_pos h
theorem q_div_i {i j : Int} (h : 0 < j) (h2 : j < 1000000000000000000000000000000) : dDiv (.int i) (.int j) = .ok (.int (i / j)) := by
  have : j.natAbs.log2 < 9000 := by
    have h0 : j.natAbs ≠ 0 := by omega
    have : j.natAbs.log2 < 100 := by
      rw [Nat.log2_lt h0]
      have : (2 : Nat) ^ 100 = 1267650600228229401496703205376 := by decide
      rw [this]
      omega
    omega
  exact if_pos ⟨h, this⟩
theorem q_cmp_i {g : Int → Int → Bool} {i j : Int} : dCmp g (.int i) (.int j) = .ok (.bl (g i j)) := id rfl
theorem q_lt_i {i j : Int} : dLt (.int i) (.int j) = .ok (.bl (decide (i < j))) := id rfl
theorem q_le_i {i j : Int} : dLe (.int i) (.int j) = .ok (.bl (decide (i ≤ j))) := id rfl
theorem q_gt_i {i j : Int} : dGt (.int i) (.int j) = .ok (.bl (decide (j < i))) := id rfl
theorem q_ge_i {i j : Int} : dGe (.int i) (.int j) = .ok (.bl (decide (j ≤ i))) := id rfl
theorem q_eqB_i {i j : Int} : dEqB (.int i) (.int j) = .ok (decide (i = j)) := by
  have : decide (L2.V.int i = L2.V.int j) = decide (i = j) := by
    by_cases h : i = j
    · subst h; simp
    · rw [decide_eq_false h, decide_eq_false fun e => h (L2.V.int.inj e)]
  unfold dEqB
  simp only [flatD]
  rw [if_pos (show L2.scal (L2.V.int i) (L2.V.int j) = true from rfl), this]
theorem q_eq_i {i j : Int} : dEq (.int i) (.int j) = .ok (.bl (decide (i = j))) := by unfold dEq; rw [q_eqB_i]; rfl
theorem q_ne_i {i j : Int} : dNe (.int i) (.int j) = .ok (.bl (!decide (i = j))) := by unfold dNe; rw [q_eqB_i]; rfl
theorem bits_lt {i : Int} (h1 : -1000000000000000000000000000000 < i) (h2 : i < 1000000000000000000000000000000) : intBits i ≤ 100 := intBits_le_iff.mpr (by
  have : (2 : Nat) ^ 100 = 1267650600228229401496703205376 := by decide
  rw [this]
  omega)
theorem q_mul_s {i j : Int} (h1 : -1000000000000000000000000000000 < i) (h2 : i < 1000000000000000000000000000000) (h3 : -1000000000000000000000000000000 < j) (h4 : j < 1000000000000000000000000000000) : dMul (.int i) (.int j) = .ok (.int (i * j)) :=
  q_mul_i (by have := bits_lt h1 h2; have := bits_lt h3 h4; omega)
/-! ### loops over mirrors -/
theorem loopL_inv {tb : D → Sc → Option Sc} {body : MS} (I : Nat → Sc → Prop) : ∀ (ds : List D) (i : Nat) (r : Sc), I i r → (∀ (j : Nat) (d : D) (r : Sc), ds[j]? = some d → I (i + j) r → ∃ r1 r2, tb d r = some r1 ∧ (body r1 = .nx r2 ∨ body r1 = .ct r2) ∧ I (i + j + 1) r2) → ∃ r', loopL tb body ds r = .nx r' ∧ I (i + ds.length) r'
  | [], i, r, h, _ => ⟨r, rfl, h⟩
  | d :: ds, i, r, h, st => by
    obtain ⟨r1, r2, e1, e2, h2⟩ := st 0 d r rfl h
    obtain ⟨r', e3, h3⟩ := loopL_inv I ds (i + 1) r2 h2 (fun j d' r' e h' => by
      have := st (j + 1) d' r' (by simpa using e) (by rw [show i + (j + 1) = i + 1 + j by omega]; exact h')
      rw [show i + (j + 1) + 1 = i + 1 + j + 1 by omega] at this
      exact this)
    refine ⟨r', ?_, by rw [List.length_cons, show i + (ds.length + 1) = i + 1 + ds.length by omega]; exact h3⟩
    simp only [loopL, e1]
    rcases e2 with e2 | e2 <;> rw [e2] <;> exact e3
/-- one name takes the items; the body never leaves -/
theorem for_inv {i : Nat} {body : MS} (I : Nat → Sc → Prop) {ds : List D} {r : Sc} (h0 : I 0 r) (st : ∀ (j : Nat) (d : D) (r : Sc), ds[j]? = some d → I j r → ∃ r2, body (r.set i (some (.val d))) = .nx r2 ∧ I (j + 1) r2) : ∃ r', loopL (bName i) body ds r = .nx r' ∧ I ds.length r' := by
  have := loopL_inv (tb := bName i) (body := body) I ds 0 r h0 (fun j d r e h => by
    rw [Nat.zero_add] at h
    obtain ⟨r2, h1, h2⟩ := st j d r e h
    refine ⟨_, r2, rfl, .inl h1, by rw [Nat.zero_add]; exact h2⟩)
  rw [Nat.zero_add] at this
  exact this
theorem sizeLine_big : 16777216 ≤ sizeLine := by decide
theorem rgD_get {lo : Int} {n i : Nat} {d : D} (h : (rgD lo n)[i]? = some d) : i < n ∧ d = .int (lo + (i : Int)) := by
  unfold rgD at h
  rw [List.getElem?_map] at h
  by_cases hi : i < n
  · simp [hi] at h
    exact ⟨hi, h.symm⟩
  · simp [hi] at h
theorem rgD_len {lo : Int} {n : Nat} : (rgD lo n).length = n := by simp [rgD]
end QB

namespace QB
open PySem
open Builtin.Int (intBits)
/-! ### what all laws draw with -/
theorem q_len_s {xs : List D} : dLen [.slst xs] = .ok (.int xs.length) := id rfl
theorem q_len_l {xs : List D} : dLen [.lst xs] = .ok (.int xs.length) := id rfl
theorem q_len_t {xs : List D} : dLen [.tup xs] = .ok (.int xs.length) := id rfl
theorem q_int_i {i : Int} : dInt [.int i] = .ok (.int i) := id rfl
theorem q_ix {d : D} {xs : List D} {i : Int} {x : D} (h : seqD d = some xs) (h0 : 0 ≤ i) (h1 : xs[i.toNat]? = some x) : dIx d (.int i) = .ok x := by
  have e : L2.atI xs i = some x := by
    unfold L2.atI L2.ixN
    have hl : i.toNat < xs.length := (List.getElem?_eq_some_iff.mp h1).1
    rw [if_pos h0, if_pos (by omega)]
    exact h1
  cases d <;> simp only [seqD, Option.some.injEq, reduceCtorEq] at h <;> subst h <;> simp only [dIx, seqD, e]
theorem q_items_s {xs : List D} : dItems (.slst xs) = .ok xs := id rfl
theorem q_items_l {xs : List D} : dItems (.lst xs) = .ok xs := id rfl
theorem q_items_t {xs : List D} : dItems (.tup xs) = .ok xs := id rfl
theorem q_for {mi : MA} {tb : D → Sc → Option Sc} {body : MS} {r : Sc} : mFor mi tb body r = toFl r (mi r) (fun ds => loopL tb body ds r) := id rfl
theorem q_it {me : ME} {r : Sc} : mItems me r = R.bind (me r) dItems := id rfl
theorem q_rg {ma : MA} {r : Sc} : mRg ma r = R.bind (ma r) dRg := id rfl
theorem q_rg1 {j : Int} (h0 : -1000000000 ≤ j) (h1 : j < 1000000000) : dRg [.int j] = .ok (rgD 0 j.toNat) := if_pos ⟨by omega, by omega⟩
theorem q_rg2 {i j : Int} (h0 : -1000000000 ≤ j) (h1 : j < 1000000000) (h2 : -1000000000 ≤ i) (h3 : i < 1000000000) : dRg [.int i, .int j] = .ok (rgD i (j - i).toNat) := if_pos ⟨⟨by omega, by omega⟩, by omega, by omega⟩
def cellM : List D → R D := mDef 4 (mSeq (mIf (mTB (mBin dLt (mVar 1) (mCallB dLen (mCons (mVar 0) mNil)))) (mRet (mBin dIx (mVar 0) (mVar 1))) mNx) (mSeq (mSet 2 (mC (.int 17))) (mSeq (mFor (mItems (mVar 0)) (bName 3) (mSet 2 (mBin dMod (mCallB dInt (mCons (mBin dAdd (mBin dMul (mVar 2) (mC (.int 31))) (mBin dMod (mCallB dInt (mCons (mVar 3) mNil)) (mC (.int 1000003)))) mNil)) (mC (.int 1000003))))) (mRet (mBin dMod (mCallB dInt (mCons (mBin dMul (mBin dMul (mBin dAdd (mVar 2) (mC (.int 7))) (mBin dAdd (mVar 1) (mC (.int 3)))) (mC (.int 69621))) mNil)) (mC (.int 2147483647)))))))
theorem cell_ok (ns : List Int) (hb : ∀ z ∈ ns, intBits z ≤ 1048576) (k : Int) (h0 : 0 ≤ k) (h1 : k < 1000000) : ∃ c, cellM [.slst (ns.map D.int), .int k] = .ok (.int c) ∧ intBits c ≤ 1048576 := by
  by_cases hk : k < ((ns.map D.int).length : Int)
  · have hl : k.toNat < ns.length := by
      rw [List.length_map] at hk
      omega
    have e1 : (ns.map D.int)[k.toNat]? = some (.int ns[k.toNat]) := by
      rw [List.getElem?_map, List.getElem?_eq_getElem hl]
      rfl
    refine ⟨ns[k.toNat], ?_, hb _ (List.getElem_mem hl)⟩
    simp only [cellM, q_df, q_st, q_sq, q_at_nx, q_at_rt, q_at_bk, q_at_ct, q_at_ex, q_mi, q_sel_t, q_sel_f, q_out_rt, q_out_nx, q_out_ex, q_rb_ok, q_rb_bad, q_rb_exc, q_tf_ok, q_v0, q_vs, q_w0, q_w0o, q_ws, q_tbq, q_asb, q_nt, q_rsel_t, q_rsel_f, q_ta, q_to, q_va, q_vo, q_vn, q_sett, q_seto, q_bin, q_c, q_callb, q_cons, q_nil, q_tup, q_lst, q_celle, q_ret, q_nx, q_thl, q_thd, q_isi, q_neg, q_neg_i, q_callk, q_drop, q_retn, q_brk, q_cnt, q_ife, q_add_i, q_sub_i, q_lt_i, q_le_i, q_gt_i, q_ge_i, q_eq_i, q_ne_i, List.map_cons, List.map_nil, List.length_cons, List.length_nil, List.replicate, List.append_nil, List.nil_append, List.cons_append, Nat.reduceAdd, Nat.reduceSub, List.getElem?_cons_zero, List.getElem?_cons_succ, List.set_cons_zero, List.set_cons_succ, Bool.not_true, Bool.not_false, decide_true, decide_false, if_true, if_false, q_len_s, decide_eq_true hk, q_ix (d := .slst (ns.map D.int)) rfl h0 e1]
  · obtain ⟨r', e, seed, y, hr, s0, s1⟩ := for_inv (i := 3) (body := mSet 2 (mBin dMod (mCallB dInt (mCons (mBin dAdd (mBin dMul (mVar 2) (mC (.int 31))) (mBin dMod (mCallB dInt (mCons (mVar 3) mNil)) (mC (.int 1000003)))) mNil)) (mC (.int 1000003))))
      (fun _ r => ∃ (seed : Int) (y : Option EV), r = [some (.val (.slst (ns.map D.int))), some (.val (.int k)), some (.val (.int seed)), y] ∧ 0 ≤ seed ∧ seed < 1000003) (ds := ns.map D.int) (r := [some (.val (.slst (ns.map D.int))), some (.val (.int k)), some (.val (.int 17)), none])
      ⟨17, none, rfl, by omega, by omega⟩ (fun j d r hd ⟨seed, y, hr, s0, s1⟩ => by
        subst hr
        rw [List.getElem?_map] at hd
        obtain ⟨z, _, rfl⟩ := Option.map_eq_some_iff.mp hd
        have m0 : 0 ≤ z % 1000003 := Int.emod_nonneg _ (by omega)
        have m1 : z % 1000003 < 1000003 := Int.emod_lt_of_pos _ (by omega)
        refine ⟨_, by simp only [q_df, q_st, q_sq, q_at_nx, q_at_rt, q_at_bk, q_at_ct, q_at_ex, q_mi, q_sel_t, q_sel_f, q_out_rt, q_out_nx, q_out_ex, q_rb_ok, q_rb_bad, q_rb_exc, q_tf_ok, q_v0, q_vs, q_w0, q_w0o, q_ws, q_tbq, q_asb, q_nt, q_rsel_t, q_rsel_f, q_ta, q_to, q_va, q_vo, q_vn, q_sett, q_seto, q_bin, q_c, q_callb, q_cons, q_nil, q_tup, q_lst, q_celle, q_ret, q_nx, q_thl, q_thd, q_isi, q_neg, q_neg_i, q_callk, q_drop, q_retn, q_brk, q_cnt, q_ife, q_add_i, q_sub_i, q_lt_i, q_le_i, q_gt_i, q_ge_i, q_eq_i, q_ne_i, List.map_cons, List.map_nil, List.length_cons, List.length_nil, List.replicate, List.append_nil, List.nil_append, List.cons_append, Nat.reduceAdd, Nat.reduceSub, List.getElem?_cons_zero, List.getElem?_cons_succ, List.set_cons_zero, List.set_cons_succ, Bool.not_true, Bool.not_false, decide_true, decide_false, if_true, if_false, q_int_i, q_mul_s (show -1000000000000000000000000000000 < seed by omega) (show seed < 1000000000000000000000000000000 by omega) (show (-1000000000000000000000000000000 : Int) < 31 by omega) (show (31 : Int) < 1000000000000000000000000000000 by omega), q_mod_i (show (0 : Int) < 1000003 by omega)], (seed * 31 + z % 1000003) % 1000003, some (.val (.int z)), rfl, Int.emod_nonneg _ (by omega), Int.emod_lt_of_pos _ (by omega)⟩)
    subst hr
    refine ⟨((seed + 7) * (k + 3) * 69621) % 2147483647, ?_, ?_⟩
    · have p0 : 0 ≤ (seed + 7) * (k + 3) := Int.mul_nonneg (by omega) (by omega)
      have p1 : (seed + 7) * (k + 3) ≤ 1000010 * 1000003 := Int.mul_le_mul (by omega) (by omega) (by omega) (by omega)
      simp only [cellM, q_df, q_st, q_sq, q_at_nx, q_at_rt, q_at_bk, q_at_ct, q_at_ex, q_mi, q_sel_t, q_sel_f, q_out_rt, q_out_nx, q_out_ex, q_rb_ok, q_rb_bad, q_rb_exc, q_tf_ok, q_v0, q_vs, q_w0, q_w0o, q_ws, q_tbq, q_asb, q_nt, q_rsel_t, q_rsel_f, q_ta, q_to, q_va, q_vo, q_vn, q_sett, q_seto, q_bin, q_c, q_callb, q_cons, q_nil, q_tup, q_lst, q_celle, q_ret, q_nx, q_thl, q_thd, q_isi, q_neg, q_neg_i, q_callk, q_drop, q_retn, q_brk, q_cnt, q_ife, q_add_i, q_sub_i, q_lt_i, q_le_i, q_gt_i, q_ge_i, q_eq_i, q_ne_i, List.map_cons, List.map_nil, List.length_cons, List.length_nil, List.replicate, List.append_nil, List.nil_append, List.cons_append, Nat.reduceAdd, Nat.reduceSub, List.getElem?_cons_zero, List.getElem?_cons_succ, List.set_cons_zero, List.set_cons_succ, Bool.not_true, Bool.not_false, decide_true, decide_false, if_true, if_false, q_len_s, decide_eq_false hk, q_for, q_it, q_items_s, e, q_int_i, q_mul_s (show -1000000000000000000000000000000 < seed + 7 by omega) (show seed + 7 < 1000000000000000000000000000000 by omega) (show -1000000000000000000000000000000 < k + 3 by omega) (show k + 3 < 1000000000000000000000000000000 by omega), q_mul_s (show -1000000000000000000000000000000 < (seed + 7) * (k + 3) by omega) (show (seed + 7) * (k + 3) < 1000000000000000000000000000000 by omega) (show (-1000000000000000000000000000000 : Int) < 69621 by omega) (show (69621 : Int) < 1000000000000000000000000000000 by omega), q_mod_i (show (0 : Int) < 2147483647 by omega)]
    · have m0 : 0 ≤ ((seed + 7) * (k + 3) * 69621) % 2147483647 := Int.emod_nonneg _ (by omega)
      have m1 : ((seed + 7) * (k + 3) * 69621) % 2147483647 < 2147483647 := Int.emod_lt_of_pos _ (by omega)
      exact Nat.le_trans (bits_lt (by omega) (by omega)) (by omega)
end QB

namespace QB
open PySem
open Builtin.Int (intBits)
/-! ### rows with conditions, for simp (disch := omega) -/
theorem t_lt_t {i j : Int} (h : i < j) : dLt (.int i) (.int j) = .ok (.bl true) := by rw [q_lt_i, decide_eq_true h]
theorem t_lt_f {i j : Int} (h : ¬ i < j) : dLt (.int i) (.int j) = .ok (.bl false) := by rw [q_lt_i, decide_eq_false h]
theorem t_le_t {i j : Int} (h : i ≤ j) : dLe (.int i) (.int j) = .ok (.bl true) := by rw [q_le_i, decide_eq_true h]
theorem t_le_f {i j : Int} (h : ¬ i ≤ j) : dLe (.int i) (.int j) = .ok (.bl false) := by rw [q_le_i, decide_eq_false h]
theorem t_gt_t {i j : Int} (h : j < i) : dGt (.int i) (.int j) = .ok (.bl true) := by rw [q_gt_i, decide_eq_true h]
theorem t_gt_f {i j : Int} (h : ¬ j < i) : dGt (.int i) (.int j) = .ok (.bl false) := by rw [q_gt_i, decide_eq_false h]
theorem t_ge_t {i j : Int} (h : j ≤ i) : dGe (.int i) (.int j) = .ok (.bl true) := by rw [q_ge_i, decide_eq_true h]
theorem t_ge_f {i j : Int} (h : ¬ j ≤ i) : dGe (.int i) (.int j) = .ok (.bl false) := by rw [q_ge_i, decide_eq_false h]
theorem t_eq_t {i j : Int} (h : i = j) : dEq (.int i) (.int j) = .ok (.bl true) := by rw [q_eq_i, decide_eq_true h]
theorem t_eq_f {i j : Int} (h : ¬ i = j) : dEq (.int i) (.int j) = .ok (.bl false) := by rw [q_eq_i, decide_eq_false h]
theorem t_ne_t {i j : Int} (h : ¬ i = j) : dNe (.int i) (.int j) = .ok (.bl true) := by rw [q_ne_i, decide_eq_false h]; rfl
theorem t_ne_f {i j : Int} (h : i = j) : dNe (.int i) (.int j) = .ok (.bl false) := by rw [q_ne_i, decide_eq_true h]; rfl
theorem t_is_b {a b : Bool} : dIs (.bl a) (.bl b) = .ok (.bl (decide (a = b))) := id rfl
theorem t_isn_b {a b : Bool} : dIsNot (.bl a) (.bl b) = .ok (.bl (!decide (a = b))) := id rfl
theorem t_isn {a b : D} : dIsNot a b = (dIs a b).bind fun d => match d with
  | .bl c => .ok (.bl (!c))
  | _ => .bad := id rfl
theorem t_is_i {i : Int} : dIs (.int i) .non = .ok (.bl false) := id rfl
theorem t_is_n : dIs .non .non = .ok (.bl true) := id rfl
theorem t_isn_i {i : Int} : dIsNot (.int i) .non = .ok (.bl true) := id rfl
theorem t_isn_n : dIsNot .non .non = .ok (.bl false) := id rfl
theorem t_abs_n {i : Int} (h : i < 0) : dAbs [.int i] = .ok (.int (-i)) := by show R.ok (D.int (if i < 0 then -i else i)) = _; rw [if_pos h]
theorem t_abs_p {i : Int} (h : ¬ i < 0) : dAbs [.int i] = .ok (.int i) := by show R.ok (D.int (if i < 0 then -i else i)) = _; rw [if_neg h]
theorem t_min {i j : Int} : dMin [.int i, .int j] = .ok (.int (if j < i then j else i)) := id rfl
theorem t_max {i j : Int} : dMax [.int i, .int j] = .ok (.int (if j > i then j else i)) := id rfl
theorem t_addl {xs ys : List D} (h : xs.length + ys.length ≤ 16777216) : dAdd (.lst xs) (.lst ys) = .ok (.lst (xs ++ ys)) := if_pos (Nat.le_trans h sizeLine_big)
theorem t_ix_l {xs : List D} {i : Int} {x : D} (h0 : 0 ≤ i) (h1 : xs[i.toNat]? = some x) : dIx (.lst xs) (.int i) = .ok x := q_ix rfl h0 h1
theorem t_ix_t {xs : List D} {i : Int} {x : D} (h0 : 0 ≤ i) (h1 : xs[i.toNat]? = some x) : dIx (.tup xs) (.int i) = .ok x := q_ix rfl h0 h1
theorem t_ix_l0 {x : D} {xs : List D} : dIx (.lst (x :: xs)) (.int 0) = .ok x := q_ix rfl (by omega) rfl
theorem t_ix_t0 {x : D} {xs : List D} : dIx (.tup (x :: xs)) (.int 0) = .ok x := q_ix rfl (by omega) rfl
/-- what stands at a place, or nothing -/
def R.opt {α : Type} (o : Option α) : R α := match o with
  | some x => .ok x
  | none => .bad
theorem q_opt {α : Type} {x : α} : R.opt (some x) = .ok x := id rfl
theorem at_nat {α : Type} {xs : List α} {i : Int} (h0 : 0 ≤ i) : L2.atI xs i = xs[i.toNat]? := by
  unfold L2.atI L2.ixN
  rw [if_pos h0]
  by_cases h : i < (xs.length : Int)
  · rw [if_pos h]
    rfl
  · rw [if_neg h]
    have : xs.length ≤ i.toNat := by omega
    rw [List.getElem?_eq_none this]
    rfl
theorem t_ixl {xs : List D} {i : Int} (h0 : 0 ≤ i) : dIx (.lst xs) (.int i) = R.opt xs[i.toNat]? := by
  simp only [dIx, seqD, at_nat h0]
  cases xs[i.toNat]? <;> rfl
theorem t_ixt {xs : List D} {i : Int} (h0 : 0 ≤ i) : dIx (.tup xs) (.int i) = R.opt xs[i.toNat]? := by
  simp only [dIx, seqD, at_nat h0]
  cases xs[i.toNat]? <;> rfl
theorem t_ixs {xs : List D} {i : Int} (h0 : 0 ≤ i) : dIx (.slst xs) (.int i) = R.opt xs[i.toNat]? := by
  simp only [dIx, seqD, at_nat h0]
  cases xs[i.toNat]? <;> rfl
theorem t_ixL {xs : List D} {i : Int} (h0 : 0 ≤ i) : dIxL xs (.int i) = R.opt xs[i.toNat]? := by
  simp only [dIxL, at_nat h0]
  cases xs[i.toNat]? <;> rfl
/-- an own slot's thing -/
def ownC (i : Nat) (r : Sc) : Option Cell := match r[i]? with
  | some (some (.own c)) => some c
  | _ => none
def ownAt (i : Nat) (r : Sc) : Option (List D) := match r[i]? with
  | some (some (.own (.l xs))) => some xs
  | _ => none
theorem q_oc0 {c : Cell} {r : Sc} : ownC 0 (some (.own c) :: r) = some c := id rfl
theorem q_ocs {i : Nat} {x : Option EV} {r : Sc} : ownC (i + 1) (x :: r) = ownC i r := by simp [ownC]
theorem q_oa0 {xs : List D} {r : Sc} : ownAt 0 (some (.own (.l xs)) :: r) = some xs := id rfl
theorem q_oas {i : Nat} {x : Option EV} {r : Sc} : ownAt (i + 1) (x :: r) = ownAt i r := by simp [ownAt]
def appD (i : Nat) (r : Sc) (xs : List D) (d : D) : Fl := if xs.length < sizeLine then .nx (r.set i (some (.own (.l (xs ++ [d]))))) else .bad
theorem t_appd {i : Nat} {r : Sc} {xs : List D} {d : D} (hl : xs.length < 16777216) : appD i r xs d = .nx (r.set i (some (.own (.l (xs ++ [d]))))) := if_pos (Nat.lt_of_lt_of_le hl sizeLine_big)
theorem q_app {i : Nat} {me : ME} {r : Sc} : mApp i me r = toFl r (R.opt (ownAt i r)) fun xs => toFl r (me r) fun d => appD i r xs d := by
  unfold mApp ownAt
  cases e : r[i]? with
  | none => rfl
  | some x =>
    cases x with
    | none => rfl
    | some y =>
      cases y with
      | val _ => rfl
      | own c => cases c <;> rfl
def putD (i : Nat) (r : Sc) (xs : List D) (d : D) (j : D) : Fl := match j with
  | .int z => (match L2.ixN xs.length z with
    | some t => .nx (r.set i (some (.own (.l (xs.set t d)))))
    | none => .bad)
  | _ => .bad
theorem t_putd {i : Nat} {r : Sc} {xs : List D} {d : D} {z : Int} (h0 : 0 ≤ z) (h1 : z < (xs.length : Int)) : putD i r xs d (.int z) = .nx (r.set i (some (.own (.l (xs.set z.toNat d))))) := by
  have hx : L2.ixN xs.length z = some z.toNat := by
    unfold L2.ixN
    rw [if_pos h0, if_pos h1]
  unfold putD
  simp only [hx]
theorem q_six {i : Nat} {mb me : ME} {r : Sc} : mSetIx i mb me r = toFl r (me r) fun d => toFl r (R.opt (ownAt i r)) fun xs => toFl r (mb r) fun j => putD i r xs d j := by
  unfold mSetIx ownAt
  congr 1
  funext d
  cases e : r[i]? with
  | none => rfl
  | some x =>
    cases x with
    | none => rfl
    | some y =>
      cases y with
      | val _ => rfl
      | own c => cases c <;> rfl
def Fl.opt {α : Type} (o : Option α) (f : α → Fl) : Fl := match o with
  | some c => f c
  | none => .bad
theorem q_flopt {α : Type} {c : α} {f : α → Fl} : Fl.opt (some c) f = f c := id rfl
theorem q_frz {i : Nat} {ms : MS} {r : Sc} : mFrz i ms r = Fl.opt (ownC i r) fun c => ms (r.set i (some (.val (thawed c)))) := by
  unfold mFrz ownC
  cases e : r[i]? with
  | none => rfl
  | some x =>
    cases x with
    | none => rfl
    | some y => cases y <;> rfl
theorem q_ixo {i : Nat} {mb : ME} {r : Sc} : mIxO i mb r = (R.opt (ownAt i r)).bind fun xs => (mb r).bind (dIxL xs) := by
  unfold mIxO ownAt
  cases e : r[i]? with
  | none => rfl
  | some x =>
    cases x with
    | none => rfl
    | some y =>
      cases y with
      | val _ => rfl
      | own c => cases c <;> rfl
/-- one of a written list's ints -/
theorem pick_ok {L : List Int} {i : Int} (P : Int → Prop) (h0 : 0 ≤ i) (h1 : i < (L.length : Int)) (hP : ∀ z ∈ L, P z) : ∃ v, dIx (.lst (L.map D.int)) (.int i) = .ok (.int v) ∧ P v := by
  have hl : i.toNat < L.length := by omega
  refine ⟨L[i.toNat], ?_, hP _ (List.getElem_mem hl)⟩
  rw [t_ixl h0, List.getElem?_map, List.getElem?_eq_getElem hl]
  rfl
theorem t_ixo {xs : List D} {i : Int} {x : D} (h0 : 0 ≤ i) (h1 : xs[i.toNat]? = some x) : dIxL xs (.int i) = .ok x := by
  have := q_ix (d := .lst xs) (x := x) rfl h0 h1
  simp only [dIx, seqD] at this
  exact this
theorem t_ixom {i : Nat} {mb : ME} {r : Sc} {xs : List D} (h : r[i]? = some (some (.own (.l xs)))) : mIxO i mb r = (mb r).bind (dIxL xs) := by
  unfold mIxO
  rw [h]
theorem t_if {α : Type} {p : Prop} [Decidable p] {a b : α} (h : p) : (if p then a else b) = a := if_pos h
theorem t_lst {ms : MA} {r : Sc} {ds : List D} (h : ms r = .ok ds) (hl : ds.length ≤ 16777216) : mLst ms r = .ok (.l ds) := by
  rw [q_lst, h, q_rb_ok, if_pos (Nat.le_trans hl sizeLine_big)]
theorem t_tup {ms : MA} {r : Sc} {ds : List D} (h : ms r = .ok ds) (hl : ds.length ≤ 16777216) : mTup ms r = .ok (.tup ds) := by
  rw [q_tup, h, q_rb_ok, if_pos (Nat.le_trans hl sizeLine_big)]
theorem t_app {i : Nat} {me : ME} {r : Sc} {xs : List D} (h : r[i]? = some (some (.own (.l xs)))) (hl : xs.length < 16777216) : mApp i me r = toFl r (me r) fun d => .nx (r.set i (some (.own (.l (xs ++ [d]))))) := by
  unfold mApp
  rw [h]
  simp only [if_pos (Nat.lt_of_lt_of_le hl sizeLine_big)]
theorem t_six {i : Nat} {mb me : ME} {r : Sc} {xs : List D} {d : D} {z : Int} (h : r[i]? = some (some (.own (.l xs)))) (e : me r = .ok d) (eb : mb r = .ok (.int z)) (h0 : 0 ≤ z) (h1 : z < xs.length) : mSetIx i mb me r = .nx (r.set i (some (.own (.l (xs.set z.toNat d))))) := by
  unfold mSetIx
  have hx : L2.ixN xs.length z = some z.toNat := by
    unfold L2.ixN
    rw [if_pos h0, if_pos h1]
  simp only [e, q_tf_ok, h, eb, hx]
theorem t_frz {i : Nat} {ms : MS} {r : Sc} {c : Cell} (h : r[i]? = some (some (.own c))) : mFrz i ms r = ms (r.set i (some (.val (thawed c)))) := by
  unfold mFrz
  rw [h]
theorem t_szl {a : Nat} (h : a ≤ 16777216) : (a ≤ sizeLine) = True := eq_true (Nat.le_trans h sizeLine_big)
theorem t_tupc {d : D} {xs : List D} (h : seqD d = some xs) : dTupOf [d] = .ok (.tup xs) := by
  unfold dTupOf
  simp only [h]
/-! ### a comprehension that takes every item -/
theorem lc_all {vs : List Nat} {mi : MA} {tb : D → Sc → Option Sc} {me : ME} {r : Sc} {ds : List D} {f : Nat → D} (h0 : notOwn r vs = true) (h1 : mi r = .ok ds) (hl : ds.length < 10000000) (h2 : ∀ (j : Nat) (d : D), ds[j]? = some d → ∃ r1, tb d (wipeS r vs) = some r1 ∧ me r1 = .ok (f j)) :
    mLC vs mi tb mYes me r = .ok (.l ((List.range ds.length).map f)) := by
  have key : ∀ (es : List D) (i : Nat) (acc : List D), (∀ (j : Nat) (d : D), es[j]? = some d → ∃ r1, tb d (wipeS r vs) = some r1 ∧ me r1 = .ok (f (i + j))) → acc.length + es.length < 16777216 → compL tb mYes me (wipeS r vs) es acc = .ok (.l (acc ++ (List.range es.length).map fun j => f (i + j))) := by
    intro es
    induction es with
    | nil =>
      intro i acc _ _
      simp [compL]
    | cons d es ih =>
      intro i acc h hl
      obtain ⟨r1, e1, e2⟩ := h 0 d rfl
      rw [List.length_cons] at hl
      have hs : acc.length < sizeLine := Nat.lt_of_lt_of_le (by omega) sizeLine_big
      simp only [compL, e1, mYes, R.ne, q_rb_ok, e2, if_pos hs]
      rw [ih (i + 1) (acc ++ [f (i + 0)]) (fun j d' hd => by
        have := h (j + 1) d' (by simpa using hd)
        rw [show i + (j + 1) = i + 1 + j by omega] at this
        exact this) (by rw [List.length_append]; simp; omega)]
      rw [List.length_cons, List.range_succ_eq_map, List.map_cons, List.map_map, List.append_assoc]
      congr 3
      simp only [List.singleton_append]
      congr 1
      apply List.map_congr_left
      intro j _
      show f (i + 1 + j) = f (i + (j + 1))
      congr 1
      omega
  unfold mLC
  simp only [h0, h1, q_rb_ok]
  rw [key ds 0 [] (fun j d hd => by rw [Nat.zero_add]; exact h2 j d hd) (by simp; omega)]
  simp
end QB

namespace QB
open PySem
open Builtin.Int (intBits)
/-! ### the row of a cell -/
def digitsM : List D → R D := mDef 8 (mSeq (mSetO 2 (mLst mNil)) (mSeq (mSet 3 (mCallB dInt (mCons (mVar 0) mNil))) (mSeq (mIf (mTB (mBin dGe (mVar 3) (mBin dPow (mC (.int 10)) (mC (.int 18))))) (mSeq (mSet 3 (mBin dSub (mVar 3) (mBin dPow (mC (.int 10)) (mC (.int 18))))) (mSeq (mFor (mItems (mVar 1)) (bName 4) (mSeq (mApp 2 (mBin dMod (mCallB dInt (mCons (mVar 3) mNil)) (mVar 4))) (mSet 3 (mBin dDiv (mCallB dInt (mCons (mVar 3) mNil)) (mVar 4))))) (mRet (mVarW 2)))) mNx) (mSeq (mSet 5 (mBin dMod (mCallB dInt (mCons (mVar 3) mNil)) (mC (.int 2147483629)))) (mSeq (mFor (mRg (mCons (mCallB dLen (mCons (mVar 1) mNil)) mNil)) (bName 6) (mSeq (mSet 5 (mBin dMod (mCallB dInt (mCons (mBin dAdd (mBin dAdd (mBin dMul (mVar 5) (mC (.int 48271))) (mBin dMul (mC (.int 974711)) (mVar 6))) (mC (.int 12345))) mNil)) (mC (.int 2147483647)))) (mSeq (mSet 7 (mBin dMod (mCallB dInt (mCons (mBin dMul (mVar 5) (mBin dAdd (mBin dDiv (mVar 5) (mC (.int 65537))) (mC (.int 3)))) mNil)) (mC (.int 2147483629)))) (mApp 2 (mBin dMod (mBin dDiv (mVar 7) (mC (.int 19))) (mBin dIx (mVar 1) (mVar 6))))))) (mRet (mVarW 2)))))))
def DigOk : List Int → List Int → Prop
  | [], [] => True
  | s :: ss, x :: xs => (0 ≤ x ∧ x < s) ∧ DigOk ss xs
  | _, _ => False
theorem DigOk.nil {row : List Int} (h : DigOk [] row) : row = [] := by
  cases row with
  | nil => rfl
  | cons x xs => exact h.elim
theorem DigOk.cons {s : Int} {ss row : List Int} (h : DigOk (s :: ss) row) : ∃ x xs, row = x :: xs ∧ 0 ≤ x ∧ x < s ∧ DigOk ss xs := by
  cases row with
  | nil => exact h.elim
  | cons x xs => exact ⟨x, xs, rfl, h.1.1, h.1.2, h.2⟩
theorem DigOk.snoc {s x : Int} (h0 : 0 ≤ x) (h1 : x < s) : ∀ {ss xs : List Int}, DigOk ss xs → DigOk (ss ++ [s]) (xs ++ [x])
  | [], [], _ => ⟨⟨h0, h1⟩, trivial⟩
  | _ :: _, _ :: _, h => ⟨h.1, DigOk.snoc h0 h1 h.2⟩
  | [], _ :: _, h => h.elim
  | _ :: _, [], h => h.elim
theorem DigOk.len : ∀ {ss xs : List Int}, DigOk ss xs → xs.length = ss.length
  | [], [], _ => rfl
  | _ :: _, _ :: _, h => congrArg (· + 1) (DigOk.len h.2)
  | [], _ :: _, h => h.elim
  | _ :: _, [], h => h.elim
theorem DigOk.get : ∀ {ss xs : List Int}, DigOk ss xs → ∀ {i : Nat} {s : Int}, ss[i]? = some s → ∃ x, xs[i]? = some x ∧ 0 ≤ x ∧ x < s
  | _ :: _, x :: _, h, 0, s, e => by
    cases e
    exact ⟨x, rfl, h.1.1, h.1.2⟩
  | _ :: _, _ :: _, h, i + 1, s, e => DigOk.get h.2 (by simpa using e)
  | [], [], _, i, s, e => by simp at e
  | [], _ :: _, h, _, _, _ => h.elim
  | _ :: _, [], h, _, _, _ => h.elim
theorem pow_10_18 : dPow (.int 10) (.int 18) = .ok (.int 1000000000000000000) := by
  unfold dPow
  simp only []
  rw [if_pos (by decide)]
  rfl
theorem digits_ok (c : Int) (sz : List Int) (hs : ∀ s ∈ sz, 0 < s ∧ s < 1000000000000) (hl : sz.length < 10000) : ∃ row : List Int, digitsM [.int c, .lst (sz.map D.int)] = .ok (.lst (row.map D.int)) ∧ DigOk sz row := by
  have take1 : ∀ (j : Nat) (s : Int), sz[j]? = some s → sz.take (j + 1) = sz.take j ++ [s] := fun j s e => by
    rw [List.take_succ, e]
    rfl
  by_cases hc : 1000000000000000000 ≤ c
  · obtain ⟨r2, e2, row, rest, x4, hr, hd⟩ := for_inv (i := 4) (body := (mSeq (mApp 2 (mBin dMod (mCallB dInt (mCons (mVar 3) mNil)) (mVar 4))) (mSet 3 (mBin dDiv (mCallB dInt (mCons (mVar 3) mNil)) (mVar 4)))))
      (fun j r => ∃ (row : List Int) (rest : Int) (x4 : Option EV), r = [some (.val (.int c)), some (.val (.lst (sz.map D.int))), some (.own (.l (row.map D.int))), some (.val (.int rest)), x4, none, none, none] ∧ DigOk (sz.take j) row) (ds := sz.map D.int)
      (r := [some (.val (.int c)), some (.val (.lst (sz.map D.int))), some (.own (.l (([] : List Int).map D.int))), some (.val (.int (c - 1000000000000000000))), none, none, none, none]) ⟨[], _, _, rfl, by rw [List.take_zero]; trivial⟩ (fun j d r hd ⟨row, rest, x4, hr, hD⟩ => by
        subst hr
        rw [List.getElem?_map] at hd
        obtain ⟨s, hs1, rfl⟩ := Option.map_eq_some_iff.mp hd
        obtain ⟨p0, p1⟩ := hs s (List.mem_of_getElem? hs1)
        have hj : j < sz.length := (List.getElem?_eq_some_iff.mp hs1).1
        have lr : row.length ≤ 10000 := by
          rw [hD.len, List.length_take]
          omega
        refine ⟨[some (.val (.int c)), some (.val (.lst (sz.map D.int))), some (.own (.l ((row ++ [rest % s]).map D.int))), some (.val (.int (rest / s))), some (.val (.int s)), none, none, none], ?_, row ++ [rest % s], rest / s, _, rfl, ?_⟩
        · simp only [List.set_cons_succ, List.set_cons_zero]
          rw [seq_nx (a := mApp _ _) (by rw [t_app (xs := row.map D.int) rfl (by rw [List.length_map]; omega)]; simp (disch := omega) only [q_df, q_st, q_sq, q_at_nx, q_at_rt, q_at_bk, q_at_ct, q_at_ex, q_mi, q_sel_t, q_sel_f, q_out_rt, q_out_nx, q_out_ex, q_rb_ok, q_rb_bad, q_rb_exc, q_tf_ok, q_v0, q_vs, q_w0, q_w0o, q_ws, q_tbq, q_asb, q_nt, q_rsel_t, q_rsel_f, q_ta, q_to, q_va, q_vo, q_vn, q_sett, q_seto, q_bin, q_c, q_callb, q_cons, q_nil, q_tup, q_lst, q_celle, q_ret, q_nx, q_thl, q_thd, q_isi, q_neg, q_neg_i, q_callk, q_drop, q_retn, q_brk, q_cnt, q_ife, q_add_i, q_sub_i, List.map_cons, List.map_nil, List.length_cons, List.length_nil, List.replicate, List.append_nil, List.nil_append, List.cons_append, Nat.reduceAdd, Nat.reduceSub, List.getElem?_cons_zero, List.getElem?_cons_succ, List.set_cons_zero, List.set_cons_succ, Bool.not_true, Bool.not_false, decide_true, decide_false, if_true, if_false, t_lt_t, t_lt_f, t_le_t, t_le_f, t_gt_t, t_gt_f, t_ge_t, t_ge_f, t_eq_t, t_eq_f, t_ne_t, t_ne_f, t_is_b, t_isn_b, t_is_i, t_is_n, t_isn_i, t_isn_n, t_abs_n, t_abs_p, t_min, t_max, t_ixl, t_ixt, t_ixs, t_ixL, q_opt, q_ixo, q_oc0, q_ocs, q_oa0, q_oas, t_appd, q_app, t_putd, q_six, q_flopt, q_frz, q_int_i, q_mul_s, q_mod_i, q_div_i, q_len_s, q_len_l, q_len_t, q_items_s, q_items_l, q_items_t, t_szl, Int.reduceToNat, Int.reduceNeg, permL, List.filterMap_cons, List.filterMap_nil, eq_self, if_true, if_false, ite_true, ite_false, Bool.true_eq_false, Bool.false_eq_true]; rfl)]
          simp (disch := omega) only [q_df, q_st, q_sq, q_at_nx, q_at_rt, q_at_bk, q_at_ct, q_at_ex, q_mi, q_sel_t, q_sel_f, q_out_rt, q_out_nx, q_out_ex, q_rb_ok, q_rb_bad, q_rb_exc, q_tf_ok, q_v0, q_vs, q_w0, q_w0o, q_ws, q_tbq, q_asb, q_nt, q_rsel_t, q_rsel_f, q_ta, q_to, q_va, q_vo, q_vn, q_sett, q_seto, q_bin, q_c, q_callb, q_cons, q_nil, q_tup, q_lst, q_celle, q_ret, q_nx, q_thl, q_thd, q_isi, q_neg, q_neg_i, q_callk, q_drop, q_retn, q_brk, q_cnt, q_ife, q_add_i, q_sub_i, List.map_cons, List.map_nil, List.length_cons, List.length_nil, List.replicate, List.append_nil, List.nil_append, List.cons_append, Nat.reduceAdd, Nat.reduceSub, List.getElem?_cons_zero, List.getElem?_cons_succ, List.set_cons_zero, List.set_cons_succ, Bool.not_true, Bool.not_false, decide_true, decide_false, if_true, if_false, t_lt_t, t_lt_f, t_le_t, t_le_f, t_gt_t, t_gt_f, t_ge_t, t_ge_f, t_eq_t, t_eq_f, t_ne_t, t_ne_f, t_is_b, t_isn_b, t_is_i, t_is_n, t_isn_i, t_isn_n, t_abs_n, t_abs_p, t_min, t_max, t_ixl, t_ixt, t_ixs, t_ixL, q_opt, q_ixo, q_oc0, q_ocs, q_oa0, q_oas, t_appd, q_app, t_putd, q_six, q_flopt, q_frz, q_int_i, q_mul_s, q_mod_i, q_div_i, q_len_s, q_len_l, q_len_t, q_items_s, q_items_l, q_items_t, t_szl, Int.reduceToNat, Int.reduceNeg, permL, List.filterMap_cons, List.filterMap_nil, eq_self, if_true, if_false, ite_true, ite_false, Bool.true_eq_false, Bool.false_eq_true, List.map_append]
        · rw [take1 j s hs1]
          exact hD.snoc (Int.emod_nonneg _ (by omega)) (Int.emod_lt_of_pos _ p0))
    subst hr
    rw [List.map_nil] at e2
    refine ⟨row, ?_, by rw [List.length_map, List.take_length] at hd; exact hd⟩
    refine def_of ?_
    rw [show mStart 8 [D.int c, D.lst (sz.map D.int)] = [some (.val (.int c)), some (.val (.lst (sz.map D.int))), none, none, none, none, none, none] from rfl]
    rw [seq_nx (r' := [some (.val (.int c)), some (.val (.lst (sz.map D.int))), some (.own (.l [])), none, none, none, none, none]) (by simp (disch := omega) only [q_df, q_st, q_sq, q_at_nx, q_at_rt, q_at_bk, q_at_ct, q_at_ex, q_mi, q_sel_t, q_sel_f, q_out_rt, q_out_nx, q_out_ex, q_rb_ok, q_rb_bad, q_rb_exc, q_tf_ok, q_v0, q_vs, q_w0, q_w0o, q_ws, q_tbq, q_asb, q_nt, q_rsel_t, q_rsel_f, q_ta, q_to, q_va, q_vo, q_vn, q_sett, q_seto, q_bin, q_c, q_callb, q_cons, q_nil, q_tup, q_lst, q_celle, q_ret, q_nx, q_thl, q_thd, q_isi, q_neg, q_neg_i, q_callk, q_drop, q_retn, q_brk, q_cnt, q_ife, q_add_i, q_sub_i, List.map_cons, List.map_nil, List.length_cons, List.length_nil, List.replicate, List.append_nil, List.nil_append, List.cons_append, Nat.reduceAdd, Nat.reduceSub, List.getElem?_cons_zero, List.getElem?_cons_succ, List.set_cons_zero, List.set_cons_succ, Bool.not_true, Bool.not_false, decide_true, decide_false, if_true, if_false, t_lt_t, t_lt_f, t_le_t, t_le_f, t_gt_t, t_gt_f, t_ge_t, t_ge_f, t_eq_t, t_eq_f, t_ne_t, t_ne_f, t_is_b, t_isn_b, t_is_i, t_is_n, t_isn_i, t_isn_n, t_abs_n, t_abs_p, t_min, t_max, t_ixl, t_ixt, t_ixs, t_ixL, q_opt, q_ixo, q_oc0, q_ocs, q_oa0, q_oas, t_appd, q_app, t_putd, q_six, q_flopt, q_frz, q_int_i, q_mul_s, q_mod_i, q_div_i, q_len_s, q_len_l, q_len_t, q_items_s, q_items_l, q_items_t, t_szl, Int.reduceToNat, Int.reduceNeg, permL, List.filterMap_cons, List.filterMap_nil, eq_self, if_true, if_false, ite_true, ite_false, Bool.true_eq_false, Bool.false_eq_true])]
    rw [seq_nx (r' := [some (.val (.int c)), some (.val (.lst (sz.map D.int))), some (.own (.l [])), some (.val (.int c)), none, none, none, none]) (by simp (disch := omega) only [q_df, q_st, q_sq, q_at_nx, q_at_rt, q_at_bk, q_at_ct, q_at_ex, q_mi, q_sel_t, q_sel_f, q_out_rt, q_out_nx, q_out_ex, q_rb_ok, q_rb_bad, q_rb_exc, q_tf_ok, q_v0, q_vs, q_w0, q_w0o, q_ws, q_tbq, q_asb, q_nt, q_rsel_t, q_rsel_f, q_ta, q_to, q_va, q_vo, q_vn, q_sett, q_seto, q_bin, q_c, q_callb, q_cons, q_nil, q_tup, q_lst, q_celle, q_ret, q_nx, q_thl, q_thd, q_isi, q_neg, q_neg_i, q_callk, q_drop, q_retn, q_brk, q_cnt, q_ife, q_add_i, q_sub_i, List.map_cons, List.map_nil, List.length_cons, List.length_nil, List.replicate, List.append_nil, List.nil_append, List.cons_append, Nat.reduceAdd, Nat.reduceSub, List.getElem?_cons_zero, List.getElem?_cons_succ, List.set_cons_zero, List.set_cons_succ, Bool.not_true, Bool.not_false, decide_true, decide_false, if_true, if_false, t_lt_t, t_lt_f, t_le_t, t_le_f, t_gt_t, t_gt_f, t_ge_t, t_ge_f, t_eq_t, t_eq_f, t_ne_t, t_ne_f, t_is_b, t_isn_b, t_is_i, t_is_n, t_isn_i, t_isn_n, t_abs_n, t_abs_p, t_min, t_max, t_ixl, t_ixt, t_ixs, t_ixL, q_opt, q_ixo, q_oc0, q_ocs, q_oa0, q_oas, t_appd, q_app, t_putd, q_six, q_flopt, q_frz, q_int_i, q_mul_s, q_mod_i, q_div_i, q_len_s, q_len_l, q_len_t, q_items_s, q_items_l, q_items_t, t_szl, Int.reduceToNat, Int.reduceNeg, permL, List.filterMap_cons, List.filterMap_nil, eq_self, if_true, if_false, ite_true, ite_false, Bool.true_eq_false, Bool.false_eq_true])]
    refine seq_rt ?_
    rw [q_mi]
    simp (disch := omega) only [q_tbq, q_bin, q_vs, q_v0, q_c, q_rb_ok, pow_10_18, t_ge_t, q_asb, q_tf_ok, q_sel_t]
    rw [seq_nx (r' := [some (.val (.int c)), some (.val (.lst (sz.map D.int))), some (.own (.l [])), some (.val (.int (c - 1000000000000000000))), none, none, none, none]) (by simp (disch := omega) only [q_df, q_st, q_sq, q_at_nx, q_at_rt, q_at_bk, q_at_ct, q_at_ex, q_mi, q_sel_t, q_sel_f, q_out_rt, q_out_nx, q_out_ex, q_rb_ok, q_rb_bad, q_rb_exc, q_tf_ok, q_v0, q_vs, q_w0, q_w0o, q_ws, q_tbq, q_asb, q_nt, q_rsel_t, q_rsel_f, q_ta, q_to, q_va, q_vo, q_vn, q_sett, q_seto, q_bin, q_c, q_callb, q_cons, q_nil, q_tup, q_lst, q_celle, q_ret, q_nx, q_thl, q_thd, q_isi, q_neg, q_neg_i, q_callk, q_drop, q_retn, q_brk, q_cnt, q_ife, q_add_i, q_sub_i, List.map_cons, List.map_nil, List.length_cons, List.length_nil, List.replicate, List.append_nil, List.nil_append, List.cons_append, Nat.reduceAdd, Nat.reduceSub, List.getElem?_cons_zero, List.getElem?_cons_succ, List.set_cons_zero, List.set_cons_succ, Bool.not_true, Bool.not_false, decide_true, decide_false, if_true, if_false, t_lt_t, t_lt_f, t_le_t, t_le_f, t_gt_t, t_gt_f, t_ge_t, t_ge_f, t_eq_t, t_eq_f, t_ne_t, t_ne_f, t_is_b, t_isn_b, t_is_i, t_is_n, t_isn_i, t_isn_n, t_abs_n, t_abs_p, t_min, t_max, t_ixl, t_ixt, t_ixs, t_ixL, q_opt, q_ixo, q_oc0, q_ocs, q_oa0, q_oas, t_appd, q_app, t_putd, q_six, q_flopt, q_frz, q_int_i, q_mul_s, q_mod_i, q_div_i, q_len_s, q_len_l, q_len_t, q_items_s, q_items_l, q_items_t, t_szl, Int.reduceToNat, Int.reduceNeg, permL, List.filterMap_cons, List.filterMap_nil, eq_self, if_true, if_false, ite_true, ite_false, Bool.true_eq_false, Bool.false_eq_true, pow_10_18])]
    rw [seq_nx (for_nx (by simp only [q_df, q_st, q_sq, q_at_nx, q_at_rt, q_at_bk, q_at_ct, q_at_ex, q_mi, q_sel_t, q_sel_f, q_out_rt, q_out_nx, q_out_ex, q_rb_ok, q_rb_bad, q_rb_exc, q_tf_ok, q_v0, q_vs, q_w0, q_w0o, q_ws, q_tbq, q_asb, q_nt, q_rsel_t, q_rsel_f, q_ta, q_to, q_va, q_vo, q_vn, q_sett, q_seto, q_bin, q_c, q_callb, q_cons, q_nil, q_tup, q_lst, q_celle, q_ret, q_nx, q_thl, q_thd, q_isi, q_neg, q_neg_i, q_callk, q_drop, q_retn, q_brk, q_cnt, q_ife, q_add_i, q_sub_i, q_lt_i, q_le_i, q_gt_i, q_ge_i, q_eq_i, q_ne_i, List.map_cons, List.map_nil, List.length_cons, List.length_nil, List.replicate, List.append_nil, List.nil_append, List.cons_append, Nat.reduceAdd, Nat.reduceSub, List.getElem?_cons_zero, List.getElem?_cons_succ, List.set_cons_zero, List.set_cons_succ, Bool.not_true, Bool.not_false, decide_true, decide_false, if_true, if_false, q_it, q_items_l]) e2)]
    rfl
  · have m0 : 0 ≤ c % 2147483629 := Int.emod_nonneg _ (by omega)
    have m1 : c % 2147483629 < 2147483629 := Int.emod_lt_of_pos _ (by omega)
    obtain ⟨r2, e2, row, seed, x4, x6, x7, hr, hd, s0, s1⟩ := for_inv (i := 6) (body := (mSeq (mSet 5 (mBin dMod (mCallB dInt (mCons (mBin dAdd (mBin dAdd (mBin dMul (mVar 5) (mC (.int 48271))) (mBin dMul (mC (.int 974711)) (mVar 6))) (mC (.int 12345))) mNil)) (mC (.int 2147483647)))) (mSeq (mSet 7 (mBin dMod (mCallB dInt (mCons (mBin dMul (mVar 5) (mBin dAdd (mBin dDiv (mVar 5) (mC (.int 65537))) (mC (.int 3)))) mNil)) (mC (.int 2147483629)))) (mApp 2 (mBin dMod (mBin dDiv (mVar 7) (mC (.int 19))) (mBin dIx (mVar 1) (mVar 6)))))))
      (fun j r => ∃ (row : List Int) (seed : Int) (x4 x6 x7 : Option EV), r = [some (.val (.int c)), some (.val (.lst (sz.map D.int))), some (.own (.l (row.map D.int))), some (.val (.int c)), x4, some (.val (.int seed)), x6, x7] ∧ DigOk (sz.take j) row ∧ 0 ≤ seed ∧ seed < 2147483647) (ds := rgD 0 (((sz.map D.int).length : Int)).toNat)
      (r := [some (.val (.int c)), some (.val (.lst (sz.map D.int))), some (.own (.l (([] : List Int).map D.int))), some (.val (.int c)), none, some (.val (.int (c % 2147483629))), none, none]) ⟨[], _, _, _, _, rfl, by rw [List.take_zero]; trivial, m0, by omega⟩ (fun j d r hd ⟨row, seed, x4, x6, x7, hr, hD, s0, s1⟩ => by
        subst hr
        obtain ⟨hj, rfl⟩ := rgD_get hd
        rw [List.length_map] at hj
        have hj' : j < sz.length := by omega
        have hs1 : sz[j]? = some sz[j] := List.getElem?_eq_getElem hj'
        generalize sz[j] = s at hs1
        obtain ⟨p0, p1⟩ := hs s (List.mem_of_getElem? hs1)
        have lr : row.length ≤ 10000 := by
          rw [hD.len, List.length_take]
          omega
        have hx : (sz.map D.int)[(0 + (j : Int)).toNat]? = some (.int s) := by
          rw [List.getElem?_map, show (0 + (j : Int)).toNat = j by omega, hs1]
          rfl
        have hj2 : (j : Int) < 10000 := by omega
        have k0 := Int.emod_nonneg (seed * 48271 + 974711 * (0 + (j : Int)) + 12345) (show (2147483647 : Int) ≠ 0 by omega)
        have k1 := Int.emod_lt_of_pos (seed * 48271 + 974711 * (0 + (j : Int)) + 12345) (show (0 : Int) < 2147483647 by omega)
        have st1 : mSet 5 (mBin dMod (mCallB dInt (mCons (mBin dAdd (mBin dAdd (mBin dMul (mVar 5) (mC (.int 48271))) (mBin dMul (mC (.int 974711)) (mVar 6))) (mC (.int 12345))) mNil)) (mC (.int 2147483647))) [some (.val (.int c)), some (.val (.lst (sz.map D.int))), some (.own (.l (row.map D.int))), some (.val (.int c)), x4, some (.val (.int seed)), some (.val (.int (0 + (j : Int)))), x7]
          = .nx [some (.val (.int c)), some (.val (.lst (sz.map D.int))), some (.own (.l (row.map D.int))), some (.val (.int c)), x4, some (.val (.int ((seed * 48271 + 974711 * (0 + (j : Int)) + 12345) % 2147483647))), some (.val (.int (0 + (j : Int)))), x7] := by
          simp (disch := omega) only [q_df, q_st, q_sq, q_at_nx, q_at_rt, q_at_bk, q_at_ct, q_at_ex, q_mi, q_sel_t, q_sel_f, q_out_rt, q_out_nx, q_out_ex, q_rb_ok, q_rb_bad, q_rb_exc, q_tf_ok, q_v0, q_vs, q_w0, q_w0o, q_ws, q_tbq, q_asb, q_nt, q_rsel_t, q_rsel_f, q_ta, q_to, q_va, q_vo, q_vn, q_sett, q_seto, q_bin, q_c, q_callb, q_cons, q_nil, q_tup, q_lst, q_celle, q_ret, q_nx, q_thl, q_thd, q_isi, q_neg, q_neg_i, q_callk, q_drop, q_retn, q_brk, q_cnt, q_ife, q_add_i, q_sub_i, List.map_cons, List.map_nil, List.length_cons, List.length_nil, List.replicate, List.append_nil, List.nil_append, List.cons_append, Nat.reduceAdd, Nat.reduceSub, List.getElem?_cons_zero, List.getElem?_cons_succ, List.set_cons_zero, List.set_cons_succ, Bool.not_true, Bool.not_false, decide_true, decide_false, if_true, if_false, t_lt_t, t_lt_f, t_le_t, t_le_f, t_gt_t, t_gt_f, t_ge_t, t_ge_f, t_eq_t, t_eq_f, t_ne_t, t_ne_f, t_is_b, t_isn_b, t_is_i, t_is_n, t_isn_i, t_isn_n, t_abs_n, t_abs_p, t_min, t_max, t_ixl, t_ixt, t_ixs, t_ixL, q_opt, q_ixo, q_oc0, q_ocs, q_oa0, q_oas, t_appd, q_app, t_putd, q_six, q_flopt, q_frz, q_int_i, q_mul_s, q_mod_i, q_div_i, q_len_s, q_len_l, q_len_t, q_items_s, q_items_l, q_items_t, t_szl, Int.reduceToNat, Int.reduceNeg, permL, List.filterMap_cons, List.filterMap_nil, eq_self, if_true, if_false, ite_true, ite_false, Bool.true_eq_false, Bool.false_eq_true]
        generalize (seed * 48271 + 974711 * (0 + (j : Int)) + 12345) % 2147483647 = t at k0 k1 st1
        have st2 : mSet 7 (mBin dMod (mCallB dInt (mCons (mBin dMul (mVar 5) (mBin dAdd (mBin dDiv (mVar 5) (mC (.int 65537))) (mC (.int 3)))) mNil)) (mC (.int 2147483629))) [some (.val (.int c)), some (.val (.lst (sz.map D.int))), some (.own (.l (row.map D.int))), some (.val (.int c)), x4, some (.val (.int t)), some (.val (.int (0 + (j : Int)))), x7]
          = .nx [some (.val (.int c)), some (.val (.lst (sz.map D.int))), some (.own (.l (row.map D.int))), some (.val (.int c)), x4, some (.val (.int t)), some (.val (.int (0 + (j : Int)))), some (.val (.int (t * (t / 65537 + 3) % 2147483629)))] := by
          simp (disch := omega) only [q_df, q_st, q_sq, q_at_nx, q_at_rt, q_at_bk, q_at_ct, q_at_ex, q_mi, q_sel_t, q_sel_f, q_out_rt, q_out_nx, q_out_ex, q_rb_ok, q_rb_bad, q_rb_exc, q_tf_ok, q_v0, q_vs, q_w0, q_w0o, q_ws, q_tbq, q_asb, q_nt, q_rsel_t, q_rsel_f, q_ta, q_to, q_va, q_vo, q_vn, q_sett, q_seto, q_bin, q_c, q_callb, q_cons, q_nil, q_tup, q_lst, q_celle, q_ret, q_nx, q_thl, q_thd, q_isi, q_neg, q_neg_i, q_callk, q_drop, q_retn, q_brk, q_cnt, q_ife, q_add_i, q_sub_i, List.map_cons, List.map_nil, List.length_cons, List.length_nil, List.replicate, List.append_nil, List.nil_append, List.cons_append, Nat.reduceAdd, Nat.reduceSub, List.getElem?_cons_zero, List.getElem?_cons_succ, List.set_cons_zero, List.set_cons_succ, Bool.not_true, Bool.not_false, decide_true, decide_false, if_true, if_false, t_lt_t, t_lt_f, t_le_t, t_le_f, t_gt_t, t_gt_f, t_ge_t, t_ge_f, t_eq_t, t_eq_f, t_ne_t, t_ne_f, t_is_b, t_isn_b, t_is_i, t_is_n, t_isn_i, t_isn_n, t_abs_n, t_abs_p, t_min, t_max, t_ixl, t_ixt, t_ixs, t_ixL, q_opt, q_ixo, q_oc0, q_ocs, q_oa0, q_oas, t_appd, q_app, t_putd, q_six, q_flopt, q_frz, q_int_i, q_mul_s, q_mod_i, q_div_i, q_len_s, q_len_l, q_len_t, q_items_s, q_items_l, q_items_t, t_szl, Int.reduceToNat, Int.reduceNeg, permL, List.filterMap_cons, List.filterMap_nil, eq_self, if_true, if_false, ite_true, ite_false, Bool.true_eq_false, Bool.false_eq_true]
        refine ⟨[some (.val (.int c)), some (.val (.lst (sz.map D.int))), some (.own (.l ((row ++ [t * (t / 65537 + 3) % 2147483629 / 19 % s]).map D.int))), some (.val (.int c)), x4, some (.val (.int t)), some (.val (.int (0 + (j : Int)))), some (.val (.int (t * (t / 65537 + 3) % 2147483629)))], ?_, row ++ [t * (t / 65537 + 3) % 2147483629 / 19 % s], t, _, _, _, rfl, ?_, k0, k1⟩
        · simp only [List.set_cons_succ, List.set_cons_zero]
          rw [seq_nx st1, seq_nx st2, t_app (xs := row.map D.int) rfl (by rw [List.length_map]; omega)]
          simp (disch := omega) only [q_df, q_st, q_sq, q_at_nx, q_at_rt, q_at_bk, q_at_ct, q_at_ex, q_mi, q_sel_t, q_sel_f, q_out_rt, q_out_nx, q_out_ex, q_rb_ok, q_rb_bad, q_rb_exc, q_tf_ok, q_v0, q_vs, q_w0, q_w0o, q_ws, q_tbq, q_asb, q_nt, q_rsel_t, q_rsel_f, q_ta, q_to, q_va, q_vo, q_vn, q_sett, q_seto, q_bin, q_c, q_callb, q_cons, q_nil, q_tup, q_lst, q_celle, q_ret, q_nx, q_thl, q_thd, q_isi, q_neg, q_neg_i, q_callk, q_drop, q_retn, q_brk, q_cnt, q_ife, q_add_i, q_sub_i, List.map_cons, List.map_nil, List.length_cons, List.length_nil, List.replicate, List.append_nil, List.nil_append, List.cons_append, Nat.reduceAdd, Nat.reduceSub, List.getElem?_cons_zero, List.getElem?_cons_succ, List.set_cons_zero, List.set_cons_succ, Bool.not_true, Bool.not_false, decide_true, decide_false, if_true, if_false, t_lt_t, t_lt_f, t_le_t, t_le_f, t_gt_t, t_gt_f, t_ge_t, t_ge_f, t_eq_t, t_eq_f, t_ne_t, t_ne_f, t_is_b, t_isn_b, t_is_i, t_is_n, t_isn_i, t_isn_n, t_abs_n, t_abs_p, t_min, t_max, t_ixl, t_ixt, t_ixs, t_ixL, q_opt, q_ixo, q_oc0, q_ocs, q_oa0, q_oas, t_appd, q_app, t_putd, q_six, q_flopt, q_frz, q_int_i, q_mul_s, q_mod_i, q_div_i, q_len_s, q_len_l, q_len_t, q_items_s, q_items_l, q_items_t, t_szl, Int.reduceToNat, Int.reduceNeg, permL, List.filterMap_cons, List.filterMap_nil, eq_self, if_true, if_false, ite_true, ite_false, Bool.true_eq_false, Bool.false_eq_true, hx, List.map_append]
        · rw [take1 j s hs1]
          exact hD.snoc (Int.emod_nonneg _ (by omega)) (Int.emod_lt_of_pos _ p0))
    subst hr
    rw [List.map_nil] at e2
    refine ⟨row, ?_, ?_⟩
    · refine def_of ?_
      rw [show mStart 8 [D.int c, D.lst (sz.map D.int)] = [some (.val (.int c)), some (.val (.lst (sz.map D.int))), none, none, none, none, none, none] from rfl]
      rw [seq_nx (r' := [some (.val (.int c)), some (.val (.lst (sz.map D.int))), some (.own (.l [])), none, none, none, none, none]) (by simp (disch := omega) only [q_df, q_st, q_sq, q_at_nx, q_at_rt, q_at_bk, q_at_ct, q_at_ex, q_mi, q_sel_t, q_sel_f, q_out_rt, q_out_nx, q_out_ex, q_rb_ok, q_rb_bad, q_rb_exc, q_tf_ok, q_v0, q_vs, q_w0, q_w0o, q_ws, q_tbq, q_asb, q_nt, q_rsel_t, q_rsel_f, q_ta, q_to, q_va, q_vo, q_vn, q_sett, q_seto, q_bin, q_c, q_callb, q_cons, q_nil, q_tup, q_lst, q_celle, q_ret, q_nx, q_thl, q_thd, q_isi, q_neg, q_neg_i, q_callk, q_drop, q_retn, q_brk, q_cnt, q_ife, q_add_i, q_sub_i, List.map_cons, List.map_nil, List.length_cons, List.length_nil, List.replicate, List.append_nil, List.nil_append, List.cons_append, Nat.reduceAdd, Nat.reduceSub, List.getElem?_cons_zero, List.getElem?_cons_succ, List.set_cons_zero, List.set_cons_succ, Bool.not_true, Bool.not_false, decide_true, decide_false, if_true, if_false, t_lt_t, t_lt_f, t_le_t, t_le_f, t_gt_t, t_gt_f, t_ge_t, t_ge_f, t_eq_t, t_eq_f, t_ne_t, t_ne_f, t_is_b, t_isn_b, t_is_i, t_is_n, t_isn_i, t_isn_n, t_abs_n, t_abs_p, t_min, t_max, t_ixl, t_ixt, t_ixs, t_ixL, q_opt, q_ixo, q_oc0, q_ocs, q_oa0, q_oas, t_appd, q_app, t_putd, q_six, q_flopt, q_frz, q_int_i, q_mul_s, q_mod_i, q_div_i, q_len_s, q_len_l, q_len_t, q_items_s, q_items_l, q_items_t, t_szl, Int.reduceToNat, Int.reduceNeg, permL, List.filterMap_cons, List.filterMap_nil, eq_self, if_true, if_false, ite_true, ite_false, Bool.true_eq_false, Bool.false_eq_true])]
      rw [seq_nx (r' := [some (.val (.int c)), some (.val (.lst (sz.map D.int))), some (.own (.l [])), some (.val (.int c)), none, none, none, none]) (by simp (disch := omega) only [q_df, q_st, q_sq, q_at_nx, q_at_rt, q_at_bk, q_at_ct, q_at_ex, q_mi, q_sel_t, q_sel_f, q_out_rt, q_out_nx, q_out_ex, q_rb_ok, q_rb_bad, q_rb_exc, q_tf_ok, q_v0, q_vs, q_w0, q_w0o, q_ws, q_tbq, q_asb, q_nt, q_rsel_t, q_rsel_f, q_ta, q_to, q_va, q_vo, q_vn, q_sett, q_seto, q_bin, q_c, q_callb, q_cons, q_nil, q_tup, q_lst, q_celle, q_ret, q_nx, q_thl, q_thd, q_isi, q_neg, q_neg_i, q_callk, q_drop, q_retn, q_brk, q_cnt, q_ife, q_add_i, q_sub_i, List.map_cons, List.map_nil, List.length_cons, List.length_nil, List.replicate, List.append_nil, List.nil_append, List.cons_append, Nat.reduceAdd, Nat.reduceSub, List.getElem?_cons_zero, List.getElem?_cons_succ, List.set_cons_zero, List.set_cons_succ, Bool.not_true, Bool.not_false, decide_true, decide_false, if_true, if_false, t_lt_t, t_lt_f, t_le_t, t_le_f, t_gt_t, t_gt_f, t_ge_t, t_ge_f, t_eq_t, t_eq_f, t_ne_t, t_ne_f, t_is_b, t_isn_b, t_is_i, t_is_n, t_isn_i, t_isn_n, t_abs_n, t_abs_p, t_min, t_max, t_ixl, t_ixt, t_ixs, t_ixL, q_opt, q_ixo, q_oc0, q_ocs, q_oa0, q_oas, t_appd, q_app, t_putd, q_six, q_flopt, q_frz, q_int_i, q_mul_s, q_mod_i, q_div_i, q_len_s, q_len_l, q_len_t, q_items_s, q_items_l, q_items_t, t_szl, Int.reduceToNat, Int.reduceNeg, permL, List.filterMap_cons, List.filterMap_nil, eq_self, if_true, if_false, ite_true, ite_false, Bool.true_eq_false, Bool.false_eq_true])]
      rw [seq_nx (a := mIf _ _ _) (r' := [some (.val (.int c)), some (.val (.lst (sz.map D.int))), some (.own (.l [])), some (.val (.int c)), none, none, none, none]) (by
        rw [q_mi]
        simp (disch := omega) only [q_tbq, q_bin, q_vs, q_v0, q_c, q_rb_ok, pow_10_18, t_ge_f, q_asb, q_tf_ok, q_sel_f, q_nx])]
      rw [seq_nx (r' := [some (.val (.int c)), some (.val (.lst (sz.map D.int))), some (.own (.l [])), some (.val (.int c)), none, some (.val (.int (c % 2147483629))), none, none]) (by simp (disch := omega) only [q_df, q_st, q_sq, q_at_nx, q_at_rt, q_at_bk, q_at_ct, q_at_ex, q_mi, q_sel_t, q_sel_f, q_out_rt, q_out_nx, q_out_ex, q_rb_ok, q_rb_bad, q_rb_exc, q_tf_ok, q_v0, q_vs, q_w0, q_w0o, q_ws, q_tbq, q_asb, q_nt, q_rsel_t, q_rsel_f, q_ta, q_to, q_va, q_vo, q_vn, q_sett, q_seto, q_bin, q_c, q_callb, q_cons, q_nil, q_tup, q_lst, q_celle, q_ret, q_nx, q_thl, q_thd, q_isi, q_neg, q_neg_i, q_callk, q_drop, q_retn, q_brk, q_cnt, q_ife, q_add_i, q_sub_i, List.map_cons, List.map_nil, List.length_cons, List.length_nil, List.replicate, List.append_nil, List.nil_append, List.cons_append, Nat.reduceAdd, Nat.reduceSub, List.getElem?_cons_zero, List.getElem?_cons_succ, List.set_cons_zero, List.set_cons_succ, Bool.not_true, Bool.not_false, decide_true, decide_false, if_true, if_false, t_lt_t, t_lt_f, t_le_t, t_le_f, t_gt_t, t_gt_f, t_ge_t, t_ge_f, t_eq_t, t_eq_f, t_ne_t, t_ne_f, t_is_b, t_isn_b, t_is_i, t_is_n, t_isn_i, t_isn_n, t_abs_n, t_abs_p, t_min, t_max, t_ixl, t_ixt, t_ixs, t_ixL, q_opt, q_ixo, q_oc0, q_ocs, q_oa0, q_oas, t_appd, q_app, t_putd, q_six, q_flopt, q_frz, q_int_i, q_mul_s, q_mod_i, q_div_i, q_len_s, q_len_l, q_len_t, q_items_s, q_items_l, q_items_t, t_szl, Int.reduceToNat, Int.reduceNeg, permL, List.filterMap_cons, List.filterMap_nil, eq_self, if_true, if_false, ite_true, ite_false, Bool.true_eq_false, Bool.false_eq_true])]
      have hlm : (sz.map D.int).length < 10000 := by rw [List.length_map]; exact hl
      rw [seq_nx (for_nx (by simp only [q_df, q_st, q_sq, q_at_nx, q_at_rt, q_at_bk, q_at_ct, q_at_ex, q_mi, q_sel_t, q_sel_f, q_out_rt, q_out_nx, q_out_ex, q_rb_ok, q_rb_bad, q_rb_exc, q_tf_ok, q_v0, q_vs, q_w0, q_w0o, q_ws, q_tbq, q_asb, q_nt, q_rsel_t, q_rsel_f, q_ta, q_to, q_va, q_vo, q_vn, q_sett, q_seto, q_bin, q_c, q_callb, q_cons, q_nil, q_tup, q_lst, q_celle, q_ret, q_nx, q_thl, q_thd, q_isi, q_neg, q_neg_i, q_callk, q_drop, q_retn, q_brk, q_cnt, q_ife, q_add_i, q_sub_i, q_lt_i, q_le_i, q_gt_i, q_ge_i, q_eq_i, q_ne_i, List.map_cons, List.map_nil, List.length_cons, List.length_nil, List.replicate, List.append_nil, List.nil_append, List.cons_append, Nat.reduceAdd, Nat.reduceSub, List.getElem?_cons_zero, List.getElem?_cons_succ, List.set_cons_zero, List.set_cons_succ, Bool.not_true, Bool.not_false, decide_true, decide_false, if_true, if_false, q_rg, q_len_l, q_rg1 (show -1000000000 ≤ ((sz.map D.int).length : Int) by omega) (show ((sz.map D.int).length : Int) < 1000000000 by omega)]) e2)]
      rfl
    · rw [rgD_len, List.length_map, show ((sz.length : Int)).toNat = sz.length by omega, List.take_length] at hd
      exact hd
end QB

namespace QB
open PySem
/-! ### == of plain data, by = -/
mutual
def clean (b : Bool) : D → Bool
  | .non => true
  | .bl _ => b
  | .int _ => !b
  | .str s => PyData.strOk s
  | .tup xs => cleanL b xs
  | .lst xs => cleanL b xs
  | .slst _ => false
  | .ins _ _ _ => false
  | .dct _ _ => false
def cleanL (b : Bool) : List D → Bool
  | [] => true
  | d :: ds => clean b d && cleanL b ds
end
mutual
def depD : D → Nat
  | .tup xs => depL xs + 1
  | .lst xs => depL xs + 1
  | _ => 0
def depL : List D → Nat
  | [] => 0
  | d :: ds => max (depD d) (depL ds)
end
mutual
theorem clean_py {b : Bool} : ∀ d : D, clean b d = true → ∃ p, toPy d = some p ∧ p.canLay0 = true ∧ p.depth = depD d
  | .non, _ => ⟨_, rfl, rfl, rfl⟩
  | .bl _, _ => ⟨_, rfl, rfl, rfl⟩
  | .int _, _ => ⟨_, rfl, rfl, rfl⟩
  | .str s, h => ⟨_, rfl, by simp only [clean] at h; simp only [PyData.canLay0, h], rfl⟩
  | .tup xs, h => by
    simp only [clean] at h
    obtain ⟨ps, h1, h2, h3⟩ := clean_pyL xs h
    exact ⟨.tuple ps, by simp only [toPy, h1, Option.map_some], by simp only [PyData.canLay0, h2], by simp only [PyData.depth, depD, h3]⟩
  | .lst xs, h => by
    simp only [clean] at h
    obtain ⟨ps, h1, h2, h3⟩ := clean_pyL xs h
    exact ⟨.list ps, by simp only [toPy, h1, Option.map_some], by simp only [PyData.canLay0, h2], by simp only [PyData.depth, depD, h3]⟩
  | .slst _, h => by simp [clean] at h
  | .ins _ _ _, h => by simp [clean] at h
  | .dct _ _, h => by simp [clean] at h
theorem clean_pyL {b : Bool} : ∀ ds : List D, cleanL b ds = true → ∃ ps, toPyL ds = some ps ∧ PyData.canLayAll0 ps = true ∧ PyData.depthAll ps = depL ds
  | [], _ => ⟨[], rfl, rfl, rfl⟩
  | d :: ds, h => by
    simp only [cleanL, Bool.and_eq_true] at h
    obtain ⟨p, h1, h2, h3⟩ := clean_py d h.1
    obtain ⟨ps, g1, g2, g3⟩ := clean_pyL ds h.2
    exact ⟨p :: ps, by simp only [toPyL, h1, g1, Option.bind_some, Option.map_some], by simp only [PyData.canLayAll0, h2, g2, Bool.and_self], by simp only [PyData.depthAll, depL, h3, g3]⟩
end
mutual
theorem eqv_clean {b : Bool} : ∀ (d e : D) (p q : PyData), clean b d = true → clean b e = true → toPy d = some p → toPy e = some q → (PyData.eqv p q = true ↔ d = e)
  | .non, e, p, q, h, g, hp, hq => by
    cases e <;> simp only [clean, toPy, Option.some.injEq, Option.map_eq_some_iff, Bool.not_eq_true', Bool.false_eq_true, reduceCtorEq] at h g hp hq <;> first | (obtain ⟨_, _, rfl⟩ := hq; subst hp; simp [PyData.eqv]) | (subst hp hq; simp [PyData.eqv]) | (cases hq)
  | .bl x, e, p, q, h, g, hp, hq => by
    cases e <;> simp only [clean, toPy, Option.some.injEq, Option.map_eq_some_iff, Bool.not_eq_true', Bool.false_eq_true, reduceCtorEq] at h g hp hq <;> first | (exact absurd (h.symm.trans g) (by decide)) | (obtain ⟨_, _, rfl⟩ := hq; subst hp; simp [PyData.eqv]) | (subst hp hq; simp [PyData.eqv]) | (cases hq)
  | .int x, e, p, q, h, g, hp, hq => by
    cases e <;> simp only [clean, toPy, Option.some.injEq, Option.map_eq_some_iff, Bool.not_eq_true', Bool.false_eq_true, reduceCtorEq] at h g hp hq <;> first | (exact absurd (h.symm.trans g) (by decide)) | (obtain ⟨_, _, rfl⟩ := hq; subst hp; simp [PyData.eqv]) | (subst hp hq; simp [PyData.eqv]) | (cases hq)
  | .str x, e, p, q, h, g, hp, hq => by
    cases e <;> simp only [clean, toPy, Option.some.injEq, Option.map_eq_some_iff, Bool.not_eq_true', Bool.false_eq_true, reduceCtorEq] at h g hp hq <;> first | (obtain ⟨_, _, rfl⟩ := hq; subst hp; simp [PyData.eqv]) | (subst hp hq; simp [PyData.eqv]) | (cases hq)
  | .tup xs, e, p, q, h, g, hp, hq => by
    cases e <;> simp only [clean, toPy, Option.some.injEq, Option.map_eq_some_iff, Bool.not_eq_true', Bool.false_eq_true, reduceCtorEq] at h g hp hq <;> obtain ⟨ps, e1, rfl⟩ := hp
    case tup ys =>
      obtain ⟨qs, e2, rfl⟩ := hq
      simp only [PyData.eqv, D.tup.injEq]
      exact eqv_cleanL xs ys ps qs h g e1 e2
    all_goals first | (obtain ⟨_, _, rfl⟩ := hq; simp [PyData.eqv]) | (subst hq; simp [PyData.eqv])
  | .lst xs, e, p, q, h, g, hp, hq => by
    cases e <;> simp only [clean, toPy, Option.some.injEq, Option.map_eq_some_iff, Bool.not_eq_true', Bool.false_eq_true, reduceCtorEq] at h g hp hq <;> obtain ⟨ps, e1, rfl⟩ := hp
    case lst ys =>
      obtain ⟨qs, e2, rfl⟩ := hq
      simp only [PyData.eqv, D.lst.injEq]
      exact eqv_cleanL xs ys ps qs h g e1 e2
    all_goals first | (obtain ⟨_, _, rfl⟩ := hq; simp [PyData.eqv]) | (subst hq; simp [PyData.eqv])
  | .slst _, _, _, _, h, _, _, _ => by simp [clean] at h
  | .ins _ _ _, _, _, _, h, _, _, _ => by simp [clean] at h
  | .dct _ _, _, _, _, h, _, _, _ => by simp [clean] at h
theorem eqv_cleanL {b : Bool} : ∀ (ds es : List D) (ps qs : List PyData), cleanL b ds = true → cleanL b es = true → toPyL ds = some ps → toPyL es = some qs → (PyData.eqvAll ps qs = true ↔ ds = es)
  | [], [], ps, qs, _, _, hp, hq => by
    simp only [toPyL, Option.some.injEq] at hp hq
    subst hp hq
    simp [PyData.eqvAll]
  | [], e :: es, ps, qs, _, g, hp, hq => by
    simp only [toPyL, Option.some.injEq, Option.bind_eq_some_iff, Option.map_eq_some_iff] at hp hq
    obtain ⟨_, _, _, _, rfl⟩ := hq
    subst hp
    simp [PyData.eqvAll]
  | d :: ds, [], ps, qs, _, g, hp, hq => by
    simp only [toPyL, Option.some.injEq, Option.bind_eq_some_iff, Option.map_eq_some_iff] at hp hq
    obtain ⟨_, _, _, _, rfl⟩ := hp
    subst hq
    simp [PyData.eqvAll]
  | d :: ds, e :: es, ps, qs, h, g, hp, hq => by
    simp only [toPyL, Option.some.injEq, Option.bind_eq_some_iff, Option.map_eq_some_iff] at hp hq
    obtain ⟨p, e1, ps', e2, rfl⟩ := hp
    obtain ⟨q, e3, qs', e4, rfl⟩ := hq
    simp only [cleanL, Bool.and_eq_true] at h g
    simp only [PyData.eqvAll, Bool.and_eq_true, eqv_clean d e p q h.1 g.1 e1 e3, eqv_cleanL ds es ps' qs' h.2 g.2 e2 e4, List.cons.injEq]
end
theorem eqB_clean {b : Bool} {d e : D} (h : clean b d = true) (g : clean b e = true) (h1 : depD d ≤ 64) (g1 : depD e ≤ 64) : ∃ k, dEqB d e = .ok k ∧ (k = true ↔ d = e) := by
  obtain ⟨p, p1, p2, p3⟩ := clean_py d h
  obtain ⟨q, q1, q2, q3⟩ := clean_py e g
  have sp : SeqAt.shaped p = true := by unfold SeqAt.shaped; rw [p2, p3, decide_eq_true h1]; rfl
  have sq : SeqAt.shaped q = true := by unfold SeqAt.shaped; rw [q2, q3, decide_eq_true g1]; rfl
  have gen : ∃ k, (match toPy d, toPy e with
    | some p, some q => if SeqAt.shaped p = true ∧ SeqAt.shaped q = true then R.ok (PyData.eqv p q) else .bad
    | _, _ => .bad) = .ok k ∧ (k = true ↔ d = e) := by
    rw [p1, q1]
    simp only
    rw [if_pos ⟨sp, sq⟩]
    exact ⟨_, rfl, eqv_clean d e p q h g p1 q1⟩
  by_cases hf : (∃ x, flatD d = some x) ∧ ∃ y, flatD e = some y
  · obtain ⟨⟨x, hx⟩, y, hy⟩ := hf
    have hs : L2.scal x y = true ∧ (x = y ↔ d = e) := by
      cases d <;> simp only [flatD, Option.some.injEq, reduceCtorEq] at hx <;> cases e <;> simp only [flatD, Option.some.injEq, reduceCtorEq] at hy <;> subst hx hy <;> simp only [clean, Bool.not_eq_true'] at h g <;> first | (exact absurd (h.symm.trans g) (by decide)) | (refine ⟨rfl, ?_⟩; simp)
    unfold dEqB
    rw [hx, hy]
    simp only
    rw [if_pos hs.1]
    refine ⟨_, rfl, ?_⟩
    rw [decide_eq_true_iff]
    exact hs.2
  · have e1 : dEqB d e = (match toPy d, toPy e with
    | some p, some q => if SeqAt.shaped p = true ∧ SeqAt.shaped q = true then R.ok (PyData.eqv p q) else .bad
    | _, _ => .bad) := by
      unfold dEqB
      cases hx : flatD d with
      | none => rfl
      | some x =>
        cases hy : flatD e with
        | none => rfl
        | some y => exact absurd ⟨⟨x, hx⟩, y, hy⟩ hf
    rw [e1]
    exact gen
theorem eq_t {b : Bool} {d : D} (h : clean b d = true) (h1 : depD d ≤ 64) : dEq d d = .ok (.bl true) := by
  obtain ⟨k, e1, e2⟩ := eqB_clean h h h1 h1
  unfold dEq
  rw [e1, e2.mpr rfl]
  rfl
theorem eq_f {b : Bool} {d e : D} (h : clean b d = true) (g : clean b e = true) (h1 : depD d ≤ 64) (g1 : depD e ≤ 64) (n : d ≠ e) : dEq d e = .ok (.bl false) := by
  obtain ⟨k, e1, e2⟩ := eqB_clean h g h1 g1
  unfold dEq
  rw [e1, Bool.eq_false_iff.mpr fun z => n (e2.mp z)]
  rfl
theorem ne_f {b : Bool} {d : D} (h : clean b d = true) (h1 : depD d ≤ 64) : dNe d d = .ok (.bl false) := by
  obtain ⟨k, e1, e2⟩ := eqB_clean h h h1 h1
  unfold dNe
  rw [e1, e2.mpr rfl]
  rfl
theorem ne_t {b : Bool} {d e : D} (h : clean b d = true) (g : clean b e = true) (h1 : depD d ≤ 64) (g1 : depD e ≤ 64) (n : d ≠ e) : dNe d e = .ok (.bl true) := by
  obtain ⟨k, e1, e2⟩ := eqB_clean h g h1 g1
  unfold dNe
  rw [e1, Bool.eq_false_iff.mpr fun z => n (e2.mp z)]
  rfl
/-! texts -/
theorem eqB_s {a b : Str} : dEqB (.str a) (.str b) = .ok (decide (a = b)) := by
  have : decide (L2.V.str a = L2.V.str b) = decide (a = b) := by
    by_cases h : a = b
    · subst h; simp
    · rw [decide_eq_false h, decide_eq_false fun e => h (L2.V.str.inj e)]
  unfold dEqB
  simp only [flatD]
  rw [if_pos (show L2.scal (L2.V.str a) (L2.V.str b) = true from rfl), this]
theorem q_eq_s {a b : Str} : dEq (.str a) (.str b) = .ok (.bl (decide (a = b))) := by unfold dEq; rw [eqB_s]; rfl
theorem q_ne_s {a b : Str} : dNe (.str a) (.str b) = .ok (.bl (!decide (a = b))) := by unfold dNe; rw [eqB_s]; rfl
theorem q_ne_b {a b : Bool} : dNe (.bl a) (.bl b) = .ok (.bl (!decide (a = b))) := by cases a <;> cases b <;> rfl
theorem q_eq_b {a b : Bool} : dEq (.bl a) (.bl b) = .ok (.bl (decide (a = b))) := by cases a <;> cases b <;> rfl
theorem clean_strs {b : Bool} : ∀ {xs : List Str}, (∀ x ∈ xs, PyData.strOk x = true) → cleanL b (xs.map D.str) = true
  | [], _ => rfl
  | x :: xs, h => by
    simp only [List.map_cons, cleanL, clean, h x List.mem_cons_self, clean_strs fun y hy => h y (List.mem_cons_of_mem _ hy), Bool.and_self]
theorem dep_strs : ∀ {xs : List Str}, depL (xs.map D.str) = 0
  | [] => rfl
  | x :: xs => by
    simp only [List.map_cons, depL, depD, dep_strs, Nat.max_self]
theorem clean_ints : ∀ {xs : List Int}, cleanL false (xs.map D.int) = true
  | [] => rfl
  | x :: xs => by
    simp only [List.map_cons, cleanL, clean, Bool.not_false, clean_ints, Bool.and_self]
theorem dep_ints : ∀ {xs : List Int}, depL (xs.map D.int) = 0
  | [] => rfl
  | x :: xs => by
    simp only [List.map_cons, depL, depD, dep_ints, Nat.max_self]
end QB

namespace QB
open PySem
open Builtin.Int (intBits)
/-! ### more rows -/
def lstOfD : List D → R Cell
  | [d] => (match seqD d with
    | some xs => .ok (.l xs)
    | none => .bad)
  | _ => .bad
theorem q_lstof {ms : MA} {r : Sc} : mLstOf ms r = (ms r).bind lstOfD := by
  unfold mLstOf
  congr 1
theorem q_lstof_t {xs : List D} : lstOfD [.tup xs] = .ok (.l xs) := id rfl
theorem q_lstof_l {xs : List D} : lstOfD [.lst xs] = .ok (.l xs) := id rfl
theorem q_tupof_t {xs : List D} : dTupOf [.tup xs] = .ok (.tup xs) := id rfl
theorem q_tupof_l {xs : List D} : dTupOf [.lst xs] = .ok (.tup xs) := id rfl
theorem q_tupo {i : Nat} {r : Sc} : mTupO i r = (R.opt (ownAt i r)).bind fun xs => .ok (.tup xs) := by
  unfold mTupO ownL ownAt
  cases e : r[i]? with
  | none => rfl
  | some x =>
    cases x with
    | none => rfl
    | some y =>
      cases y with
      | val _ => rfl
      | own c => cases c <;> rfl
theorem q_lsto {i : Nat} {r : Sc} : mLstO i r = (R.opt (ownAt i r)).bind fun xs => .ok (.l xs) := by
  unfold mLstO ownL ownAt
  cases e : r[i]? with
  | none => rfl
  | some x =>
    cases x with
    | none => rfl
    | some y =>
      cases y with
      | val _ => rfl
      | own c => cases c <;> rfl
theorem q_int_b {b : Bool} : dInt [.bl b] = .ok (.int (if b then 1 else 0)) := id rfl
theorem q_ixsc {me : ME} {r : Sc} : mScal me r = (me r).bind fun d => match d with
  | .non => .ok .non
  | .bl b => .ok (.bl b)
  | .int i => .ok (.int i)
  | .str s => .ok (.str s)
  | _ => .bad := id rfl
/-- what int(b) picks of two -/
theorem pick2 {x y : D} {b : Bool} : (if (b = true) then (.int 1 : D) else .int 0) = (if b then .int 1 else .int 0) := rfl
/-! ### loops that may answer False -/
theorem for_all {i : Nat} {body : MS} (I : Nat → Sc → Prop) (c : Nat → Bool) {ds : List D} {r : Sc} (h0 : I 0 r) (st : ∀ (j : Nat) (d : D) (r : Sc), ds[j]? = some d → I j r → (c j = true → ∃ r2, body (r.set i (some (.val d))) = .nx r2 ∧ I (j + 1) r2) ∧ (c j = false → body (r.set i (some (.val d))) = .rt (.bl false))) :
    ((List.range ds.length).all c = true → ∃ r', loopL (bName i) body ds r = .nx r' ∧ I ds.length r') ∧ ((List.range ds.length).all c = false → loopL (bName i) body ds r = .rt (.bl false)) := by
  have key : ∀ (es : List D) (k : Nat) (r : Sc), I k r → (∀ (j : Nat) (d : D) (r : Sc), es[j]? = some d → I (k + j) r → (c (k + j) = true → ∃ r2, body (r.set i (some (.val d))) = .nx r2 ∧ I (k + j + 1) r2) ∧ (c (k + j) = false → body (r.set i (some (.val d))) = .rt (.bl false))) →
      ((List.range es.length).all (fun j => c (k + j)) = true → ∃ r', loopL (bName i) body es r = .nx r' ∧ I (k + es.length) r') ∧ ((List.range es.length).all (fun j => c (k + j)) = false → loopL (bName i) body es r = .rt (.bl false)) := by
    intro es
    induction es with
    | nil =>
      intro k r h _
      exact ⟨fun _ => ⟨r, rfl, h⟩, fun z => by simp at z⟩
    | cons d es ih =>
      intro k r h st
      obtain ⟨s1, s2⟩ := st 0 d r rfl h
      rw [List.length_cons, List.range_succ_eq_map, List.all_cons, List.all_map]
      have ec : ((fun j => c (k + j)) ∘ Nat.succ) = fun j => c (k + 1 + j) := by
        funext j
        show c (k + (j + 1)) = c (k + 1 + j)
        congr 1
        omega
      rw [ec]
      simp only [loopL, bName]
      cases e : c (k + 0) with
      | false =>
        refine ⟨fun z => by simp at z, fun _ => ?_⟩
        rw [s2 e]
      | true =>
        obtain ⟨r2, e2, h2⟩ := s1 e
        obtain ⟨i1, i2⟩ := ih (k + 1) r2 h2 (fun j d' r' hd hI => by
          have := st (j + 1) d' r' (by simpa using hd) (by rw [show k + (j + 1) = k + 1 + j by omega]; exact hI)
          rw [show k + (j + 1) = k + 1 + j by omega] at this
          exact this)
        rw [e2]
        simp only [Bool.true_and]
        refine ⟨fun z => ?_, i2⟩
        obtain ⟨r', g1, g2⟩ := i1 z
        exact ⟨r', g1, by rw [show k + (es.length + 1) = k + 1 + es.length by omega]; exact g2⟩
  have := key ds 0 r h0 (fun j d r hd h => by
    rw [Nat.zero_add] at h ⊢
    exact st j d r hd h)
  simpa only [Nat.zero_add] using this
theorem loop_cons {i : Nat} {body : MS} {d : D} {ds : List D} {r r2 : Sc} (h : body (r.set i (some (.val d))) = .nx r2) : loopL (bName i) body (d :: ds) r = loopL (bName i) body ds r2 := by
  simp only [loopL, bName, h]
theorem loop_nil {i : Nat} {body : MS} {r : Sc} : loopL (bName i) body [] r = .nx r := by simp only [loopL]
theorem range_map_zip {α β γ : Type} (a0 : α) (b0 : β) (g : α → β → γ) : ∀ (xs : List α) (ys : List β), xs.length = ys.length → (List.range xs.length).map (fun j => g (xs.getD j a0) (ys.getD j b0)) = List.zipWith g xs ys
  | [], [], _ => rfl
  | x :: xs, y :: ys, h => by
    rw [List.length_cons, List.range_succ_eq_map, List.map_cons, List.map_map, List.zipWith_cons_cons]
    have := range_map_zip a0 b0 g xs ys (by simpa using h)
    rw [← this]
    rfl
  | [], _ :: _, h => by simp at h
  | _ :: _, [], h => by simp at h
theorem range_all_zip {α β : Type} (a0 : α) (b0 : β) (g : α → β → Bool) (xs : List α) (ys : List β) (h : xs.length = ys.length) : (List.range xs.length).all (fun j => g (xs.getD j a0) (ys.getD j b0)) = (List.zipWith g xs ys).all id := by
  rw [← range_map_zip a0 b0 g xs ys h, List.all_map]
  rfl
theorem gets {xs : List Str} {j : Nat} (h : j < xs.length) : (xs.map D.str)[j]? = some (.str (xs.getD j Str.empty)) := by
  rw [List.getElem?_map, List.getElem?_eq_getElem h, List.getD_eq_getElem?_getD, List.getElem?_eq_getElem h]
  rfl
theorem blsD_map (bs : List Bool) : blsD (bs.map D.bl) = some bs := by
  induction bs with
  | nil => rfl
  | cons b bs ih => simp only [List.map_cons, blsD, ih, Option.map_some]
theorem q_all_l {bs : List Bool} : dAll [.lst (bs.map D.bl)] = .ok (.bl (bs.all id)) := by
  unfold dAll
  simp only [lstD, blsD_map]
theorem cut_map {α β : Type} (f : α → β) (xs : List α) (lo hi : Option Int) : cutD (xs.map f) lo hi = (cutD xs lo hi).map f := by
  unfold cutD
  rw [List.length_map, List.map_take, List.map_drop]
theorem cut_mem {α : Type} {xs : List α} {lo hi : Option Int} {x : α} (h : x ∈ cutD xs lo hi) : x ∈ xs := List.mem_of_mem_drop (List.mem_of_mem_take h)
theorem q_cut {me : ME} {lo hi : Option ME} {r : Sc} : mCut me lo hi r = (me r).bind fun d => (mPart lo r).bind fun l => (mPart hi r).bind fun h => dCut d l h := id rfl
theorem q_part0 {r : Sc} : mPart none r = .ok none := id rfl
def asIO : D → R (Option Int)
  | .int i => .ok (some i)
  | _ => .bad
theorem q_part1 {me : ME} {r : Sc} : mPart (some me) r = (me r).bind asIO := by
  unfold mPart
  simp only
  congr 1
theorem q_asio {i : Int} : asIO (.int i) = .ok (some i) := id rfl
theorem q_cut_t {xs : List D} {l h : Option Int} : dCut (.tup xs) l h = .ok (.tup (cutD xs l h)) := id rfl
theorem q_cut_l {xs : List D} {l h : Option Int} : dCut (.lst xs) l h = .ok (.lst (cutD xs l h)) := id rfl
theorem t_addt {xs ys : List D} (h : xs.length + ys.length ≤ 16777216) : dAdd (.tup xs) (.tup ys) = .ok (.tup (xs ++ ys)) := if_pos (Nat.le_trans h sizeLine_big)
end QB

namespace LK
open PySem PySem.Spec PyProof.Rows L2 QB
/-! ### the text -/
def topS (i : Nat) : Stmt := PySem.Challenge.pw_quietbroom_k13_octet_numbers.main.body.getD i (.Pass ⟨0, 0, 0, 0⟩)
abbrev s_encode_number : Stmt := topS 4
abbrev s_last_index : Stmt := topS 5
abbrev s_decode_number : Stmt := topS 6
abbrev s_law_whole : Stmt := topS 8
abbrev s_law_cell : Stmt := topS 9
abbrev s_law_digits : Stmt := topS 10
abbrev s_law_groups : Stmt := topS 11
abbrev s_law_drawn_integer : Stmt := topS 12
abbrev s_law_decoded : Stmt := topS 13
abbrev s_law : Stmt := topS 14
theorem sc_encode_number : FnScope ["n", "octets", "rest"] ["n"] (defScope s_encode_number) := ⟨rfl, rfl, rfl, by decide +kernel, rfl, by decide +kernel, by decide +kernel⟩
theorem sc_last_index : FnScope ["octets", "at", "spot"] ["octets", "at"] (defScope s_last_index) := ⟨rfl, rfl, rfl, by decide +kernel, rfl, by decide +kernel, by decide +kernel⟩
theorem sc_decode_number : FnScope ["octets", "at", "last", "n", "spot"] ["octets", "at"] (defScope s_decode_number) := ⟨rfl, rfl, rfl, by decide +kernel, rfl, by decide +kernel, by decide +kernel⟩
theorem sc_law_whole : FnScope ["_law_value"] ["_law_value"] (defScope s_law_whole) := ⟨rfl, rfl, rfl, by decide +kernel, rfl, by decide +kernel, by decide +kernel⟩
theorem sc_law_cell : FnScope ["_law_script", "_law_k", "_law_seed", "_law_cell_here"] ["_law_script", "_law_k"] (defScope s_law_cell) := ⟨rfl, rfl, rfl, by decide +kernel, rfl, by decide +kernel, by decide +kernel⟩
theorem sc_law_digits : FnScope ["_law_cell_here", "_law_sizes", "_law_row", "_law_rest", "_law_size", "_law_seed", "_law_k", "_law_twice"] ["_law_cell_here", "_law_sizes"] (defScope s_law_digits) := ⟨rfl, rfl, rfl, by decide +kernel, rfl, by decide +kernel, by decide +kernel⟩
theorem sc_law_groups : FnScope ["_law_n", "_law_octets", "_law_rest", "_law_k"] ["_law_n"] (defScope s_law_groups) := ⟨rfl, rfl, rfl, by decide +kernel, rfl, by decide +kernel, by decide +kernel⟩
theorem sc_law_drawn_integer : FnScope ["_law_row", "_law_menu"] ["_law_row"] (defScope s_law_drawn_integer) := ⟨rfl, rfl, rfl, by decide +kernel, rfl, by decide +kernel, by decide +kernel⟩
theorem sc_law_decoded : FnScope ["_law_octets", "_law_spot", "_law_told"] ["_law_octets", "_law_spot"] (defScope s_law_decoded) := ⟨rfl, rfl, rfl, by decide +kernel, rfl, by decide +kernel, by decide +kernel⟩
theorem sc_law : FnScope ["_law_script", "_law_many", "_law_numbers", "_law_row", "_law_k", "_law_n", "_law_told", "_law_each", "_law_around", "_law_octets", "_law_spot"] ["_law_script"] (defScope s_law) := ⟨rfl, rfl, rfl, by decide +kernel, rfl, by decide +kernel, by decide +kernel⟩
def clsS_BadCode : Stmt := match topS 2 with | .ClassDef _ _ _ body _ _ _ _ _ _ _ => body.getD 0 (.Pass ⟨0, 0, 0, 0⟩) | s => s
theorem sc_x_BadCode : FnScope ["self", "at"] ["self", "at"] (defScope clsS_BadCode) := ⟨rfl, rfl, rfl, by decide +kernel, rfl, by decide +kernel, by decide +kernel⟩
def ct_QuietError : List (Str × Bool) := [("BadCode", true)]
/-! ### the mirrors -/
def m_law_drawn_integer : List D → R D := mDef 2 (mSeq (mSet 1 (mCellE (mLst (mCons (mC (.int 0)) (mCons (mC (.int 1)) (mCons (mC (.int 127)) (mCons (mC (.int 128)) (mCons (mC (.int 129)) (mCons (mC (.int 255)) (mCons (mC (.int 256)) (mCons (mC (.int 16383)) (mCons (mC (.int 16384)) (mCons (mC (.int 2097151)) (mCons (mC (.int 2097152)) (mCons (mC (.int 268435455)) (mCons (mC (.int 268435456)) (mCons (mC (.int 34359738367)) mNil))))))))))))))))) (mSeq (mIf (mTB (mBin dLt (mBin dIx (mVar 0) (mC (.int 0))) (mC (.int 14)))) (mRet (mBin dIx (mVar 1) (mBin dIx (mVar 0) (mC (.int 0))))) mNx) (mRet (mBin dMod (mCallB dInt (mCons (mBin dAdd (mBin dMul (mBin dIx (mVar 0) (mC (.int 2))) (mC (.int 2654435761))) (mC (.int 974711))) mNil)) (mBin dIx (mCellE (mLst (mCons (mC (.int 128)) (mCons (mC (.int 16384)) (mCons (mC (.int 2097152)) (mCons (mC (.int 268435456)) (mCons (mC (.int 34359738368)) mNil))))))) (mBin dIx (mVar 0) (mC (.int 1))))))))
def b_law_digits_1 : MS := (mSeq (mApp 2 (mBin dMod (mCallB dInt (mCons (mVar 3) mNil)) (mVar 4))) (mSet 3 (mBin dDiv (mCallB dInt (mCons (mVar 3) mNil)) (mVar 4))))
def b_law_digits_2 : MS := (mSeq (mSet 5 (mBin dMod (mCallB dInt (mCons (mBin dAdd (mBin dAdd (mBin dMul (mVar 5) (mC (.int 48271))) (mBin dMul (mC (.int 974711)) (mVar 6))) (mC (.int 12345))) mNil)) (mC (.int 2147483647)))) (mSeq (mSet 7 (mBin dMod (mCallB dInt (mCons (mBin dMul (mVar 5) (mBin dAdd (mBin dDiv (mVar 5) (mC (.int 65537))) (mC (.int 3)))) mNil)) (mC (.int 2147483629)))) (mApp 2 (mBin dMod (mBin dDiv (mVar 7) (mC (.int 19))) (mBin dIx (mVar 1) (mVar 6))))))
def m_law_digits : List D → R D := mDef 8 (mSeq (mSetO 2 (mLst mNil)) (mSeq (mSet 3 (mCallB dInt (mCons (mVar 0) mNil))) (mSeq (mIf (mTB (mBin dGe (mVar 3) (mBin dPow (mC (.int 10)) (mC (.int 18))))) (mSeq (mSet 3 (mBin dSub (mVar 3) (mBin dPow (mC (.int 10)) (mC (.int 18))))) (mSeq (mFor (mItems (mVar 1)) (bName 4) b_law_digits_1) (mRet (mVarW 2)))) mNx) (mSeq (mSet 5 (mBin dMod (mCallB dInt (mCons (mVar 3) mNil)) (mC (.int 2147483629)))) (mSeq (mFor (mRg (mCons (mCallB dLen (mCons (mVar 1) mNil)) mNil)) (bName 6) b_law_digits_2) (mRet (mVarW 2)))))))
def b_law_cell_1 : MS := (mSet 2 (mBin dMod (mCallB dInt (mCons (mBin dAdd (mBin dMul (mVar 2) (mC (.int 31))) (mBin dMod (mCallB dInt (mCons (mVar 3) mNil)) (mC (.int 1000003)))) mNil)) (mC (.int 1000003))))
def m_law_cell : List D → R D := mDef 4 (mSeq (mIf (mTB (mBin dLt (mVar 1) (mCallB dLen (mCons (mVar 0) mNil)))) (mRet (mBin dIx (mVar 0) (mVar 1))) mNx) (mSeq (mSet 2 (mC (.int 17))) (mSeq (mFor (mItems (mVar 0)) (bName 3) b_law_cell_1) (mRet (mBin dMod (mCallB dInt (mCons (mBin dMul (mBin dMul (mBin dAdd (mVar 2) (mC (.int 7))) (mBin dAdd (mVar 1) (mC (.int 3)))) (mC (.int 69621))) mNil)) (mC (.int 2147483647)))))))
def b_encode_number_1 : MS := (mSeq (mApp 1 (mBin dAdd (mC (.int 128)) (mBin dMod (mVar 2) (mC (.int 128))))) (mSet 2 (mBin dDiv (mVar 2) (mC (.int 128)))))
def m_encode_number : List D → R D := mDef 3 (mSeq (mSetO 1 (mLst mNil)) (mSeq (mSet 2 (mVar 0)) (mSeq (mWhile 100000 (mTB (mBin dGt (mVar 2) (mC (.int 127)))) b_encode_number_1) (mSeq (mApp 1 (mVar 2)) (mRet (mTupO 1))))))
def b_law_groups_1 : MS := (mSeq (mIf (mTB (mBin dLt (mVar 2) (mC (.int 128)))) mBrk mNx) (mSeq (mApp 1 (mBin dAdd (mC (.int 128)) (mBin dMod (mCallB dInt (mCons (mVar 2) mNil)) (mC (.int 128))))) (mSet 2 (mBin dDiv (mVar 2) (mC (.int 128))))))
def m_law_groups : List D → R D := mDef 4 (mSeq (mSetO 1 (mLst mNil)) (mSeq (mSet 2 (mVar 0)) (mSeq (mFor (mRg (mCons (mC (.int 5)) mNil)) (bName 3) b_law_groups_1) (mFrz 1 (mRet (mBin dAdd (mVar 1) (mCellE (mLst (mCons (mVar 2) mNil)))))))))
def m_law_whole : List D → R D := mDef 1 (mRet (mAnd (mIsi "int" (mVar 0)) (mNot (mIsi "bool" (mVar 0)))))
def b_last_index_1 : MS := (mIf (mTB (mBin dLt (mBin dIx (mVar 0) (mVar 2)) (mC (.int 128)))) (mRet (mVar 2)) mNx)
def m_last_index : List D → R D := mDef 3 (mSeq (mFor (mRg (mCons (mVar 1) (mCons (mCallB dLen (mCons (mVar 0) mNil)) mNil))) (bName 2) b_last_index_1) (mRaise "BadCode" ["at"] (mCons (mCallB dLen (mCons (mVar 0) mNil)) mNil)))
def b_decode_number_1 : MS := (mSet 3 (mBin dSub (mBin dAdd (mBin dMul (mC (.int 128)) (mVar 3)) (mBin dIx (mVar 0) (mVar 4))) (mC (.int 128))))
def m_decode_number : List D → R D := mDef 5 (mSeq (mSet 2 (mCallB m_last_index (mCons (mVar 0) (mCons (mVar 1) mNil)))) (mSeq (mIf (mTOr (mTB (mBin dGt (mBin dSub (mVar 2) (mVar 1)) (mC (.int 4)))) (mTAnd (mTB (mBin dGt (mVar 2) (mVar 1))) (mTB (mBin dEq (mBin dIx (mVar 0) (mVar 2)) (mC (.int 0)))))) (mRaise "BadCode" ["at"] (mCons (mVar 1) mNil)) mNx) (mSeq (mSet 3 (mBin dIx (mVar 0) (mVar 2))) (mSeq (mFor (mRg3 (mCons (mBin dSub (mVar 2) (mC (.int 1))) (mCons (mBin dSub (mVar 1) (mC (.int 1))) (mCons (mNeg (mC (.int 1))) mNil)))) (bName 4) b_decode_number_1) (mRet (mTup (mCons (mVar 3) (mCons (mBin dAdd (mVar 2) (mC (.int 1))) mNil))))))))
def m_law_decoded : List D → R D := mDef 3 (mSeq (mTry (fun c => List.lookup c ct_QuietError) (mSet 2 (mCallB m_decode_number (mCons (mVar 0) (mCons (mVar 1) mNil)))) (mRet (mTup mNil))) (mSeq (mIf (mTOr (mTNot (mTB (mIsi "tuple" (mVar 2)))) (mTOr (mTB (mBin dNe (mCallB dLen (mCons (mVar 2) mNil)) (mC (.int 2)))) (mTOr (mTNot (mTB (mCallB m_law_whole (mCons (mBin dIx (mVar 2) (mC (.int 0))) mNil)))) (mTNot (mTB (mCallB m_law_whole (mCons (mBin dIx (mVar 2) (mC (.int 1))) mNil))))))) (mRet (mTup mNil)) mNx) (mRet (mVar 2))))
def e_law_1 : ME := (mVar 7)
def b_law_2 : MS := (mSeq (mSet 5 (mCallB m_law_drawn_integer (mCons (mCallB m_law_digits (mCons (mCallB m_law_cell (mCons (mVar 0) (mCons (mBin dAdd (mC (.int 1)) (mVar 4)) mNil))) (mCons (mCellE (mLst (mCons (mC (.int 20)) (mCons (mC (.int 5)) (mCons (mC (.int 34359738368)) mNil))))) mNil))) mNil))) (mSeq (mSet 6 (mCallB m_encode_number (mCons (mVar 5) mNil))) (mSeq (mIf (mTOr (mTNot (mTB (mIsi "tuple" (mVar 6)))) (mTB (mBin dNe (mCellE (mLstOf (mCons (mVar 6) mNil))) (mCallB m_law_groups (mCons (mVar 5) mNil))))) (mRet (mC (.bl false))) mNx) (mSeq (mIf (mTOr (mTB (mBin dGt (mCallB dLen (mCons (mCellE (mLC [7] (mItems (mVar 6)) (bName 7) (mTNot (mTB (mCallB m_law_whole (mCons (mVar 7) mNil)))) e_law_1)) mNil)) (mC (.int 0)))) (mTB (mBin dNe (mCallB m_encode_number (mCons (mVar 5) mNil)) (mVar 6)))) (mRet (mC (.bl false))) mNx) (mSeq (mApp 2 (mVar 5)) (mSet 3 (mBin dAdd (mVar 3) (mCallB m_law_groups (mCons (mVar 5) mNil)))))))))
def b_law_3 : MS := (mSeq (mIf (mTB (mBin dNe (mCallB m_law_decoded (mCons (mVar 9) (mCons (mVar 10) mNil))) (mTup (mCons (mVar 5) (mCons (mBin dAdd (mVar 10) (mCallB dLen (mCons (mCallB m_law_groups (mCons (mVar 5) mNil)) mNil))) mNil))))) (mRet (mC (.bl false))) mNx) (mSet 10 (mBin dAdd (mVar 10) (mCallB dLen (mCons (mCallB m_law_groups (mCons (mVar 5) mNil)) mNil)))))
def m_law : List D → R D := mDef 11 (mSeq (mSet 1 (mCallB dMin (mCons (mC (.int 62)) (mCons (mCallB dMax (mCons (mC (.int 3)) (mCons (mBin dSub (mCallB dLen (mCons (mVar 0) mNil)) (mC (.int 1))) mNil))) mNil)))) (mSeq (mSetO 2 (mLst mNil)) (mSeq (mSet 3 (mCellE (mLst mNil))) (mSeq (mFor (mRg (mCons (mVar 1) mNil)) (bName 4) b_law_2) (mSeq (mSet 8 (mCallB m_law_digits (mCons (mCallB m_law_cell (mCons (mVar 0) (mCons (mC (.int 0)) mNil))) (mCons (mBin dAdd (mCellE (mLst (mCons (mC (.int 9)) (mCons (mC (.int 9)) (mCons (mC (.int 2)) mNil))))) (mBin dMul (mCellE (mLst (mCons (mC (.int 256)) mNil))) (mC (.int 16)))) mNil)))) (mSeq (mSet 3 (mBin dAdd (mBin dAdd (mCut (mVar 8) (some (mC (.int 3))) (some (mBin dAdd (mC (.int 3)) (mBin dIx (mVar 8) (mC (.int 0)))))) (mVar 3)) (mCut (mVar 8) (some (mC (.int 11))) (some (mBin dAdd (mC (.int 11)) (mBin dIx (mVar 8) (mC (.int 1)))))))) (mSeq (mSet 9 (mCellE (mLstOf (mCons (mVar 3) mNil)))) (mSeq (mIf (mTB (mBin dEq (mBin dIx (mVar 8) (mC (.int 2))) (mC (.int 1)))) (mSet 9 (mCallB dTupOf (mCons (mVar 3) mNil))) mNx) (mSeq (mSet 10 (mBin dIx (mVar 8) (mC (.int 0)))) (mSeq (mFrz 2 (mFor (mItems (mVar 2)) (bName 5) b_law_3)) (mSeq (mSet 10 (mBin dIx (mVar 8) (mC (.int 0)))) (mRet (mAnd (mBin dEq (mCellE (mLstOf (mCons (mVar 9) mNil))) (mVar 3)) (mBin dEq (mCallB m_law_decoded (mCons (mVar 9) (mCons (mVar 10) mNil))) (mTup (mCons (mBin dIx (mVar 2) (mC (.int 0))) (mCons (mBin dAdd (mVar 10) (mCallB dLen (mCons (mCallB m_law_groups (mCons (mBin dIx (mVar 2) (mC (.int 0))) mNil)) mNil))) mNil)))))))))))))))))
/-! ### what the top has written -/
structure Tx (K : PySem.W.Frag) (mg : Str → Option Value) : Prop where
  d_law_drawn_integer : ∃ (f : Addr) (fd : FuncData), Fun K "_law_drawn_integer" "_law_drawn_integer" s_law_drawn_integer f fd ∧ mg "_law_drawn_integer" = some (.ref f)
  d_law_digits : ∃ (f : Addr) (fd : FuncData), Fun K "_law_digits" "_law_digits" s_law_digits f fd ∧ mg "_law_digits" = some (.ref f)
  d_law_cell : ∃ (f : Addr) (fd : FuncData), Fun K "_law_cell" "_law_cell" s_law_cell f fd ∧ mg "_law_cell" = some (.ref f)
  d_encode_number : ∃ (f : Addr) (fd : FuncData), Fun K "encode_number" "encode_number" s_encode_number f fd ∧ mg "encode_number" = some (.ref f)
  d_law_groups : ∃ (f : Addr) (fd : FuncData), Fun K "_law_groups" "_law_groups" s_law_groups f fd ∧ mg "_law_groups" = some (.ref f)
  d_law_whole : ∃ (f : Addr) (fd : FuncData), Fun K "_law_whole" "_law_whole" s_law_whole f fd ∧ mg "_law_whole" = some (.ref f)
  d_last_index : ∃ (f : Addr) (fd : FuncData), Fun K "last_index" "last_index" s_last_index f fd ∧ mg "last_index" = some (.ref f)
  d_decode_number : ∃ (f : Addr) (fd : FuncData), Fun K "decode_number" "decode_number" s_decode_number f fd ∧ mg "decode_number" = some (.ref f)
  d_law_decoded : ∃ (f : Addr) (fd : FuncData), Fun K "_law_decoded" "_law_decoded" s_law_decoded f fd ∧ mg "_law_decoded" = some (.ref f)
  d_law : ∃ (f : Addr) (fd : FuncData), Fun K "law" "law" s_law f fd ∧ mg "law" = some (.ref f)
  x_BadCode : XcF K mg "BadCode" ["at"] "__init__" "BadCode.__init__" clsS_BadCode
  q_QuietError : ∃ Q : Addr, mg "QuietError" = some (.ref Q)
  e_BadCode_QuietError : ∃ C Q : Addr, mg "BadCode" = some (.ref C) ∧ mg "QuietError" = some (.ref Q) ∧ PySem.W.exmOne K (.ref C) (.ref Q) = some true
  z_bool : mg "bool" = none
  z_int : mg "int" = none
  z_isinstance : mg "isinstance" = none
  z_len : mg "len" = none
  z_list : mg "list" = none
  z_max : mg "max" = none
  z_min : mg "min" = none
  z_range : mg "range" = none
  z_tuple : mg "tuple" = none
/-! ### each def keeps to its mirror -/
section
variable {P : Program} {w : World} {K : PySem.W.Frag} {mg : Str → Option Value} {base : Heap}
theorem xc_BadCode (T : Tx K mg) : XcTxt P w K mg base 1 "BadCode" ["at"] := xc_mk T.x_BadCode (by decide) (fun F => F.binds fun _ _ _ _ _ _ us hl => match us, hl with | [_, _], _ => rfl) (fun F => init_ok F sc_x_BadCode rfl (by simp) fun cdv A outer s H E => (ib_cons ib_nil rfl rfl (Or.inl rfl) (Or.inl rfl) (by decide) (by decide) (by decide) (by decide)))
theorem ctT_QuietError (T : Tx K mg) : ∀ p ∈ ct_QuietError, ∃ C Q' : Addr, mg p.1 = some (.ref C) ∧ mg "QuietError" = some (.ref Q') ∧ PySem.W.exmOne K (.ref C) (.ref Q') = some p.2 := (ct_cons T.e_BadCode_QuietError ct_nil)
theorem fn_law_drawn_integer (T : Tx K mg) {f : Addr} {fd : FuncData} (F : Fun K "_law_drawn_integer" "_law_drawn_integer" s_law_drawn_integer f fd) : FnOk P w K mg base (L2.CX P w) 1 f fd ["_law_row"] (PF K mg 1 m_law_drawn_integer) := by
  have sc := sc_law_drawn_integer
  refine def_ok F sc_law_drawn_integer rfl (by decide) fun cdv A outer s H E hr tk po => ?_
  exact (eb_cons (es_set (i := 1) (EF.toE (ef_lst (ea_cons ee_int (ea_cons ee_int (ea_cons ee_int (ea_cons ee_int (ea_cons ee_int (ea_cons ee_int (ea_cons ee_int (ea_cons ee_int (ea_cons ee_int (ea_cons ee_int (ea_cons ee_int (ea_cons ee_int (ea_cons ee_int (ea_cons ee_int ea_nil)))))))))))))))) sc.nd rfl (Or.inl rfl)) (eb_cons (es_if (et_cmpw op_lt opw_cmp (EE.w (ee_ix (ee_var 0) ee_int)) (EE.w ee_int) (nomark _)) (eb_one (es_ret (EE.w (ee_ix (ee_var 1) (ee_ix (ee_var 0) ee_int))))) eb_nil) (eb_one (es_ret (EE.w (ee_mod (ee_intc T.z_int rfl (eaw_cons (EE.w (ee_add (ee_mul (ee_ix (ee_var 0) ee_int) ee_int) ee_int)) eaw_nil)) (ee_ix (EF.toE (ef_lst (ea_cons ee_int (ea_cons ee_int (ea_cons ee_int (ea_cons ee_int (ea_cons ee_int ea_nil))))))) (ee_ix (ee_var 0) ee_int))))))))
theorem ok_law_drawn_integer (T : Tx K mg) : Ok P w K mg base 1 "_law_drawn_integer" 1 m_law_drawn_integer := by
  obtain ⟨f, fd, F, g⟩ := T.d_law_drawn_integer
  exact ⟨f, fd, ["_law_row"], g, F.kp, F.binds fun _ _ _ _ _ _ us hl => match us, hl with | [_], _ => rfl, fn_law_drawn_integer T F⟩
theorem fn_law_digits (T : Tx K mg) {f : Addr} {fd : FuncData} (F : Fun K "_law_digits" "_law_digits" s_law_digits f fd) : FnOk P w K mg base (L2.CX P w) 1 f fd ["_law_cell_here", "_law_sizes"] (PF K mg 2 m_law_digits) := by
  have sc := sc_law_digits
  refine def_ok F sc_law_digits rfl (by decide) fun cdv A outer s H E hr tk po => ?_
  exact (eb_cons (es_seto (i := 2) (ef_lst ea_nil) sc.nd rfl (Or.inl rfl)) (eb_cons (es_set (i := 3) (ee_intc T.z_int rfl (eaw_cons (EE.w (ee_var 0)) eaw_nil)) sc.nd rfl (Or.inl rfl)) (eb_cons (es_if (et_cmpw op_ge opw_cmp (EE.w (ee_var 3)) (EE.w (ee_pow ee_int ee_int)) (nomark _)) (eb_cons (es_set (i := 3) (ee_sub (ee_var 3) (ee_pow ee_int ee_int)) sc.nd rfl (Or.inl rfl)) (eb_cons (es_for po rfl (ei_any (ee_var 1)) (eg_name (i := 4) sc.nd rfl (Or.inl rfl)) (eb_cons (es_app 2 (ee_mod (ee_intc T.z_int rfl (eaw_cons (EE.w (ee_var 3)) eaw_nil)) (ee_var 4))) (eb_one (es_set (i := 3) (ee_div (ee_intc T.z_int rfl (eaw_cons (EE.w (ee_var 3)) eaw_nil)) (ee_var 4)) sc.nd rfl (Or.inl rfl))))) (eb_one (es_ret (ew_var 2))))) eb_nil) (eb_cons (es_set (i := 5) (ee_mod (ee_intc T.z_int rfl (eaw_cons (EE.w (ee_var 3)) eaw_nil)) ee_int) sc.nd rfl (Or.inl rfl)) (eb_cons (es_for po rfl (ei_range1 T.z_range rfl (ea_cons (ee_len T.z_len rfl (eaw_cons (EE.w (ee_var 1)) eaw_nil)) ea_nil) (al_cons al_nil)) (eg_name (i := 6) sc.nd rfl (Or.inl rfl)) (eb_cons (es_set (i := 5) (ee_mod (ee_intc T.z_int rfl (eaw_cons (EE.w (ee_add (ee_add (ee_mul (ee_var 5) ee_int) (ee_mul ee_int (ee_var 6))) ee_int)) eaw_nil)) ee_int) sc.nd rfl (Or.inl rfl)) (eb_cons (es_set (i := 7) (ee_mod (ee_intc T.z_int rfl (eaw_cons (EE.w (ee_mul (ee_var 5) (ee_add (ee_div (ee_var 5) ee_int) ee_int))) eaw_nil)) ee_int) sc.nd rfl (Or.inl rfl)) (eb_one (es_app 2 (ee_mod (ee_div (ee_var 7) ee_int) (ee_ix (ee_var 1) (ee_var 6)))))))) (eb_one (es_ret (ew_var 2))))))))
theorem ok_law_digits (T : Tx K mg) : Ok P w K mg base 1 "_law_digits" 2 m_law_digits := by
  obtain ⟨f, fd, F, g⟩ := T.d_law_digits
  exact ⟨f, fd, ["_law_cell_here", "_law_sizes"], g, F.kp, F.binds fun _ _ _ _ _ _ us hl => match us, hl with | [_, _], _ => rfl, fn_law_digits T F⟩
theorem fn_law_cell (T : Tx K mg) {f : Addr} {fd : FuncData} (F : Fun K "_law_cell" "_law_cell" s_law_cell f fd) : FnOk P w K mg base (L2.CX P w) 1 f fd ["_law_script", "_law_k"] (PF K mg 2 m_law_cell) := by
  have sc := sc_law_cell
  refine def_ok F sc_law_cell rfl (by decide) fun cdv A outer s H E hr tk po => ?_
  exact (eb_cons (es_if (et_cmpw op_lt opw_cmp (EE.w (ee_var 1)) (EE.w (ee_len T.z_len rfl (eaw_cons (EE.w (ee_var 0)) eaw_nil))) (nomark _)) (eb_one (es_ret (EE.w (ee_ix (ee_var 0) (ee_var 1))))) eb_nil) (eb_cons (es_set (i := 2) ee_int sc.nd rfl (Or.inl rfl)) (eb_cons (es_for po rfl (ei_any (ee_var 0)) (eg_name (i := 3) sc.nd rfl (Or.inl rfl)) (eb_one (es_set (i := 2) (ee_mod (ee_intc T.z_int rfl (eaw_cons (EE.w (ee_add (ee_mul (ee_var 2) ee_int) (ee_mod (ee_intc T.z_int rfl (eaw_cons (EE.w (ee_var 3)) eaw_nil)) ee_int))) eaw_nil)) ee_int) sc.nd rfl (Or.inl rfl)))) (eb_one (es_ret (EE.w (ee_mod (ee_intc T.z_int rfl (eaw_cons (EE.w (ee_mul (ee_mul (ee_add (ee_var 2) ee_int) (ee_add (ee_var 1) ee_int)) ee_int)) eaw_nil)) ee_int)))))))
theorem ok_law_cell (T : Tx K mg) : Ok P w K mg base 1 "_law_cell" 2 m_law_cell := by
  obtain ⟨f, fd, F, g⟩ := T.d_law_cell
  exact ⟨f, fd, ["_law_script", "_law_k"], g, F.kp, F.binds fun _ _ _ _ _ _ us hl => match us, hl with | [_, _], _ => rfl, fn_law_cell T F⟩
theorem fn_encode_number (T : Tx K mg) {f : Addr} {fd : FuncData} (F : Fun K "encode_number" "encode_number" s_encode_number f fd) : FnOk P w K mg base (L2.CX P w) 1 f fd ["n"] (PF K mg 1 m_encode_number) := by
  have sc := sc_encode_number
  refine def_ok F sc_encode_number rfl (by decide) fun cdv A outer s H E hr tk po => ?_
  exact (eb_cons (es_seto (i := 1) (ef_lst ea_nil) sc.nd rfl (Or.inl rfl)) (eb_cons (es_set (i := 2) (ee_var 0) sc.nd rfl (Or.inl rfl)) (eb_cons (es_while 100000 po (et_cmpw op_gt opw_cmp (EE.w (ee_var 2)) (EE.w ee_int) (nomark _)) (eb_cons (es_app 1 (ee_add ee_int (ee_mod (ee_var 2) ee_int))) (eb_one (es_set (i := 2) (ee_div (ee_var 2) ee_int) sc.nd rfl (Or.inl rfl))))) (eb_cons (es_app 1 (ee_var 2)) (eb_one (es_ret (EE.w (ee_tupO 1 T.z_tuple rfl))))))))
theorem ok_encode_number (T : Tx K mg) : Ok P w K mg base 1 "encode_number" 1 m_encode_number := by
  obtain ⟨f, fd, F, g⟩ := T.d_encode_number
  exact ⟨f, fd, ["n"], g, F.kp, F.binds fun _ _ _ _ _ _ us hl => match us, hl with | [_], _ => rfl, fn_encode_number T F⟩
theorem fn_law_groups (T : Tx K mg) {f : Addr} {fd : FuncData} (F : Fun K "_law_groups" "_law_groups" s_law_groups f fd) : FnOk P w K mg base (L2.CX P w) 1 f fd ["_law_n"] (PF K mg 1 m_law_groups) := by
  have sc := sc_law_groups
  refine def_ok F sc_law_groups rfl (by decide) fun cdv A outer s H E hr tk po => ?_
  exact (eb_cons (es_seto (i := 1) (ef_lst ea_nil) sc.nd rfl (Or.inl rfl)) (eb_cons (es_set (i := 2) (ee_var 0) sc.nd rfl (Or.inl rfl)) (eb_cons (es_for po rfl (ei_range1 T.z_range rfl (ea_cons ee_int ea_nil) (al_cons al_nil)) (eg_name (i := 3) sc.nd rfl (Or.inl rfl)) (eb_cons (es_if (et_cmpw op_lt opw_cmp (EE.w (ee_var 2)) (EE.w ee_int) (nomark _)) (eb_one es_break) eb_nil) (eb_cons (es_app 1 (ee_add ee_int (ee_mod (ee_intc T.z_int rfl (eaw_cons (EE.w (ee_var 2)) eaw_nil)) ee_int))) (eb_one (es_set (i := 2) (ee_div (ee_var 2) ee_int) sc.nd rfl (Or.inl rfl)))))) (eb_one (es_frz 1 (es_ret (EE.w (ee_add (ee_var 1) (EF.toE (ef_lst (ea_cons (ee_var 2) ea_nil)))))))))))
theorem ok_law_groups (T : Tx K mg) : Ok P w K mg base 1 "_law_groups" 1 m_law_groups := by
  obtain ⟨f, fd, F, g⟩ := T.d_law_groups
  exact ⟨f, fd, ["_law_n"], g, F.kp, F.binds fun _ _ _ _ _ _ us hl => match us, hl with | [_], _ => rfl, fn_law_groups T F⟩
theorem fn_law_whole (T : Tx K mg) {f : Addr} {fd : FuncData} (F : Fun K "_law_whole" "_law_whole" s_law_whole f fd) : FnOk P w K mg base (L2.CX P w) 1 f fd ["_law_value"] (PF K mg 1 m_law_whole) := by
  have sc := sc_law_whole
  refine def_ok F sc_law_whole rfl (by decide) fun cdv A outer s H E hr tk po => ?_
  exact (eb_one (es_ret (EE.w (ee_and (ee_isi T.z_isinstance rfl T.z_int rfl boot_int kit_int (EE.w (ee_var 0))) (ee_one (ee_not (ee_isi T.z_isinstance rfl T.z_bool rfl boot_bool kit_bool (EE.w (ee_var 0)))))))))
theorem ok_law_whole (T : Tx K mg) : Ok P w K mg base 1 "_law_whole" 1 m_law_whole := by
  obtain ⟨f, fd, F, g⟩ := T.d_law_whole
  exact ⟨f, fd, ["_law_value"], g, F.kp, F.binds fun _ _ _ _ _ _ us hl => match us, hl with | [_], _ => rfl, fn_law_whole T F⟩
theorem fn_last_index (T : Tx K mg) {f : Addr} {fd : FuncData} (F : Fun K "last_index" "last_index" s_last_index f fd) : FnOk P w K mg base (L2.CX P w) 3 f fd ["octets", "at"] (PF K mg 2 m_last_index) := by
  have sc := sc_last_index
  refine def_ok F sc_last_index rfl (by decide) fun cdv A outer s H E hr tk po => ?_
  exact (eb_cons (es_for po rfl (ei_range2 T.z_range rfl (ea_cons (ee_var 1) (ea_cons (ee_len T.z_len rfl (eaw_cons (EE.w (ee_var 0)) eaw_nil)) ea_nil)) (al_cons (al_cons al_nil))) (eg_name (i := 2) sc.nd rfl (Or.inl rfl)) (eb_one (es_if (et_cmpw op_lt opw_cmp (EE.w (ee_ix (ee_var 0) (ee_var 2))) (EE.w ee_int) (nomark _)) (eb_one (es_ret (EE.w (ee_var 2)))) eb_nil))) (eb_one (es_raise rfl tk (xc_BadCode T) hr (by decide) (ea_cons (ee_len T.z_len rfl (eaw_cons (EE.w (ee_var 0)) eaw_nil)) ea_nil) (al_cons al_nil))))
theorem ok_last_index (T : Tx K mg) : Ok P w K mg base 3 "last_index" 2 m_last_index := by
  obtain ⟨f, fd, F, g⟩ := T.d_last_index
  exact ⟨f, fd, ["octets", "at"], g, F.kp, F.binds fun _ _ _ _ _ _ us hl => match us, hl with | [_, _], _ => rfl, fn_last_index T F⟩
theorem fn_decode_number (T : Tx K mg) {f : Addr} {fd : FuncData} (F : Fun K "decode_number" "decode_number" s_decode_number f fd) : FnOk P w K mg base (L2.CX P w) 4 f fd ["octets", "at"] (PF K mg 2 m_decode_number) := by
  have sc := sc_decode_number
  refine def_ok F sc_decode_number rfl (by decide) fun cdv A outer s H E hr tk po => ?_
  exact (eb_cons (es_set (i := 2) (ee_callO tk (ok_last_index T) hr (by decide) (ea_cons (ee_var 0) (ea_cons (ee_var 1) ea_nil)) (al_cons (al_cons al_nil))) sc.nd rfl (Or.inl rfl)) (eb_cons (es_if (EV2.t (ev_or (et_cmpw op_gt opw_cmp (EE.w (ee_sub (ee_var 2) (ee_var 1))) (EE.w ee_int) (nomark _)) (ev_or1 (EV2.t (ev_and (et_cmpw op_gt opw_cmp (EE.w (ee_var 2)) (EE.w (ee_var 1)) (nomark _)) (ev_and1 (et_cmpw (or_eq hr.units) opw_eq (EE.w (ee_ix (ee_var 0) (ee_var 2))) (EE.w ee_int) (nomark _)))))))) (eb_one (es_raise rfl tk (xc_BadCode T) hr (by decide) (ea_cons (ee_var 1) ea_nil) (al_cons al_nil))) eb_nil) (eb_cons (es_set (i := 3) (ee_ix (ee_var 0) (ee_var 2)) sc.nd rfl (Or.inl rfl)) (eb_cons (es_for po rfl (ei_range3 T.z_range rfl (ea_cons (ee_sub (ee_var 2) ee_int) (ea_cons (ee_sub (ee_var 1) ee_int) (ea_cons (ee_neg ee_int) ea_nil))) (al_cons (al_cons (al_cons al_nil)))) (eg_name (i := 4) sc.nd rfl (Or.inl rfl)) (eb_one (es_set (i := 3) (ee_sub (ee_add (ee_mul ee_int (ee_var 3)) (ee_ix (ee_var 0) (ee_var 4))) ee_int) sc.nd rfl (Or.inl rfl)))) (eb_one (es_ret (EE.w (ee_tup (ea_cons (ee_var 3) (ea_cons (ee_add (ee_var 2) ee_int) ea_nil))))))))))
theorem ok_decode_number (T : Tx K mg) : Ok P w K mg base 4 "decode_number" 2 m_decode_number := by
  obtain ⟨f, fd, F, g⟩ := T.d_decode_number
  exact ⟨f, fd, ["octets", "at"], g, F.kp, F.binds fun _ _ _ _ _ _ us hl => match us, hl with | [_, _], _ => rfl, fn_decode_number T F⟩
theorem fn_law_decoded (T : Tx K mg) {f : Addr} {fd : FuncData} (F : Fun K "_law_decoded" "_law_decoded" s_law_decoded f fd) : FnOk P w K mg base (L2.CX P w) 5 f fd ["_law_octets", "_law_spot"] (PF K mg 2 m_law_decoded) := by
  obtain ⟨_, hq_QuietError⟩ := T.q_QuietError
  have sc := sc_law_decoded
  refine def_ok F sc_law_decoded rfl (by decide) fun cdv A outer s H E hr tk po => ?_
  exact (eb_cons (es_try rfl rfl ⟨rfl, by decide, .inl hq_QuietError⟩ tk (ct_list hq_QuietError (ctT_QuietError T)) (fun _ _ _ tk po => (eb_one (es_set (i := 2) (ee_callO tk (ok_decode_number T) hr (by decide) (ea_cons (ee_var 0) (ea_cons (ee_var 1) ea_nil)) (al_cons (al_cons al_nil))) sc.nd rfl (Or.inl rfl)))) (fun _ _ _ _ _ _ _ => (eb_one (es_ret (EE.w (ee_tup ea_nil)))))) (eb_cons (es_if (EV2.t (ev_or (et_not (et_val (ee_isi T.z_isinstance rfl T.z_tuple rfl boot_tuple kit_tuple (EE.w (ee_var 2))))) (ev_or (et_cmpw (or_ne hr.units) opw_ne (EE.w (ee_len T.z_len rfl (eaw_cons (EE.w (ee_var 2)) eaw_nil))) (EE.w ee_int) (nomark _)) (ev_or (et_not (et_val (ee_callO tk (ok_law_whole T) hr (by decide) (ea_cons (ee_ix (ee_var 2) ee_int) ea_nil) (al_cons al_nil)))) (ev_or1 (et_not (et_val (ee_callO tk (ok_law_whole T) hr (by decide) (ea_cons (ee_ix (ee_var 2) ee_int) ea_nil) (al_cons al_nil))))))))) (eb_one (es_ret (EE.w (ee_tup ea_nil)))) eb_nil) (eb_one (es_ret (EE.w (ee_var 2))))))
theorem ok_law_decoded (T : Tx K mg) : Ok P w K mg base 5 "_law_decoded" 2 m_law_decoded := by
  obtain ⟨f, fd, F, g⟩ := T.d_law_decoded
  exact ⟨f, fd, ["_law_octets", "_law_spot"], g, F.kp, F.binds fun _ _ _ _ _ _ us hl => match us, hl with | [_, _], _ => rfl, fn_law_decoded T F⟩
theorem fn_law (T : Tx K mg) {f : Addr} {fd : FuncData} (F : Fun K "law" "law" s_law f fd) : FnOk P w K mg base (L2.CX P w) 6 f fd ["_law_script"] (PF K mg 1 m_law) := by
  have sc := sc_law
  refine def_ok F sc_law rfl (by decide) fun cdv A outer s H E hr tk po => ?_
  exact (eb_cons (es_set (i := 1) (ee_min rfl T.z_min rfl (eaw_cons (EE.w ee_int) (eaw_cons (EE.w (ee_max rfl T.z_max rfl (eaw_cons (EE.w ee_int) (eaw_cons (EE.w (ee_sub (ee_len T.z_len rfl (eaw_cons (EE.w (ee_var 0)) eaw_nil)) ee_int)) eaw_nil)))) eaw_nil))) sc.nd rfl (Or.inl rfl)) (eb_cons (es_seto (i := 2) (ef_lst ea_nil) sc.nd rfl (Or.inl rfl)) (eb_cons (es_set (i := 3) (EF.toE (ef_lst ea_nil)) sc.nd rfl (Or.inl rfl)) (eb_cons (es_for po rfl (ei_range1 T.z_range rfl (ea_cons (ee_var 1) ea_nil) (al_cons al_nil)) (eg_name (i := 4) sc.nd rfl (Or.inl rfl)) (eb_cons (es_set (i := 5) (ee_callO tk (ok_law_drawn_integer T) hr (by decide) (ea_cons (ee_callO tk (ok_law_digits T) hr (by decide) (ea_cons (ee_callO tk (ok_law_cell T) hr (by decide) (ea_cons (ee_var 0) (ea_cons (ee_add ee_int (ee_var 4)) ea_nil)) (al_cons (al_cons al_nil))) (ea_cons (EF.toE (ef_lst (ea_cons ee_int (ea_cons ee_int (ea_cons ee_int ea_nil))))) ea_nil)) (al_cons (al_cons al_nil))) ea_nil) (al_cons al_nil)) sc.nd rfl (Or.inl rfl)) (eb_cons (es_set (i := 6) (ee_callO tk (ok_encode_number T) hr (by decide) (ea_cons (ee_var 5) ea_nil) (al_cons al_nil)) sc.nd rfl (Or.inl rfl)) (eb_cons (es_if (EV2.t (ev_or (et_not (et_val (ee_isi T.z_isinstance rfl T.z_tuple rfl boot_tuple kit_tuple (EE.w (ee_var 6))))) (ev_or1 (et_cmpw (or_ne hr.units) opw_ne (EE.w (EF.toE (ef_listc T.z_list rfl (ea_cons (ee_var 6) ea_nil)))) (EE.w (ee_callO tk (ok_law_groups T) hr (by decide) (ea_cons (ee_var 5) ea_nil) (al_cons al_nil))) (nomark _))))) (eb_one (es_ret (EE.w ee_bl))) eb_nil) (eb_cons (es_if (EV2.t (ev_or (et_cmpw op_gt opw_cmp (EE.w (ee_len T.z_len rfl (eaw_cons (EE.w (EF.toE (ef_lc rfl sc.nd (ei_any (ee_var 6)) (blkOk_by (N := ["_law_script", "_law_many", "_law_numbers", "_law_row", "_law_k", "_law_n", "_law_told", "_law_each", "_law_around", "_law_octets", "_law_spot"]) (sc := defScope s_law) (own := [("_law_each", 7)]) (by decide +kernel)) rfl (fun _ => (cg_name (i := 7) sc.nd rfl (by first | exact .inl rfl | exact .inr rfl) (by decide))) (fun _ => (ec_one (et_not (et_val (ee_callO takes0 (ok_law_whole T) hr (by decide) (ea_cons (ee_var 7) ea_nil) (al_cons al_nil)))))) (fun _ => (ee_var 7))))) eaw_nil))) (EE.w ee_int) (nomark _)) (ev_or1 (et_cmpw (or_ne hr.units) opw_ne (EE.w (ee_callO tk (ok_encode_number T) hr (by decide) (ea_cons (ee_var 5) ea_nil) (al_cons al_nil))) (EE.w (ee_var 6)) (nomark _))))) (eb_one (es_ret (EE.w ee_bl))) eb_nil) (eb_cons (es_app 2 (ee_var 5)) (eb_one (es_set (i := 3) (ee_add (ee_var 3) (ee_callO tk (ok_law_groups T) hr (by decide) (ea_cons (ee_var 5) ea_nil) (al_cons al_nil))) sc.nd rfl (Or.inl rfl))))))))) (eb_cons (es_set (i := 8) (ee_callO tk (ok_law_digits T) hr (by decide) (ea_cons (ee_callO tk (ok_law_cell T) hr (by decide) (ea_cons (ee_var 0) (ea_cons ee_int ea_nil)) (al_cons (al_cons al_nil))) (ea_cons (ee_add (EF.toE (ef_lst (ea_cons ee_int (ea_cons ee_int (ea_cons ee_int ea_nil))))) (ee_mul (EF.toE (ef_lst (ea_cons ee_int ea_nil))) ee_int)) ea_nil)) (al_cons (al_cons al_nil))) sc.nd rfl (Or.inl rfl)) (eb_cons (es_set (i := 3) (ee_add (ee_add (ee_cut (ee_var 8) (eo_some ee_int) (eo_some (ee_add ee_int (ee_ix (ee_var 8) ee_int)))) (ee_var 3)) (ee_cut (ee_var 8) (eo_some ee_int) (eo_some (ee_add ee_int (ee_ix (ee_var 8) ee_int))))) sc.nd rfl (Or.inl rfl)) (eb_cons (es_set (i := 9) (EF.toE (ef_listc T.z_list rfl (ea_cons (ee_var 3) ea_nil))) sc.nd rfl (Or.inl rfl)) (eb_cons (es_if (et_cmpw (or_eq hr.units) opw_eq (EE.w (ee_ix (ee_var 8) ee_int)) (EE.w ee_int) (nomark _)) (eb_one (es_set (i := 9) (ee_tupc T.z_tuple rfl (ea_cons (ee_var 3) ea_nil)) sc.nd rfl (Or.inl rfl))) eb_nil) (eb_cons (es_set (i := 10) (ee_ix (ee_var 8) ee_int) sc.nd rfl (Or.inl rfl)) (eb_cons (es_frz 2 (es_for po rfl (ei_any (ee_var 2)) (eg_name (i := 5) sc.nd rfl (Or.inl rfl)) (eb_cons (es_if (et_cmpw (or_ne hr.units) opw_ne (EE.w (ee_callO tk (ok_law_decoded T) hr (by decide) (ea_cons (ee_var 9) (ea_cons (ee_var 10) ea_nil)) (al_cons (al_cons al_nil)))) (EE.w (ee_tup (ea_cons (ee_var 5) (ea_cons (ee_add (ee_var 10) (ee_len T.z_len rfl (eaw_cons (EE.w (ee_callO tk (ok_law_groups T) hr (by decide) (ea_cons (ee_var 5) ea_nil) (al_cons al_nil))) eaw_nil))) ea_nil)))) (nomark _)) (eb_one (es_ret (EE.w ee_bl))) eb_nil) (eb_one (es_set (i := 10) (ee_add (ee_var 10) (ee_len T.z_len rfl (eaw_cons (EE.w (ee_callO tk (ok_law_groups T) hr (by decide) (ea_cons (ee_var 5) ea_nil) (al_cons al_nil))) eaw_nil))) sc.nd rfl (Or.inl rfl)))))) (eb_cons (es_set (i := 10) (ee_ix (ee_var 8) ee_int) sc.nd rfl (Or.inl rfl)) (eb_one (es_ret (EE.w (ee_and (ee_cmpw (or_eq hr.units) opw_eq (EE.w (EF.toE (ef_listc T.z_list rfl (ea_cons (ee_var 9) ea_nil)))) (EE.w (ee_var 3)) (nomark _)) (ee_one (ee_cmpw (or_eq hr.units) opw_eq (EE.w (ee_callO tk (ok_law_decoded T) hr (by decide) (ea_cons (ee_var 9) (ea_cons (ee_var 10) ea_nil)) (al_cons (al_cons al_nil)))) (EE.w (ee_tup (ea_cons (ee_ix (ee_var 2) ee_int) (ea_cons (ee_add (ee_var 10) (ee_len T.z_len rfl (eaw_cons (EE.w (ee_callO tk (ok_law_groups T) hr (by decide) (ea_cons (ee_ix (ee_var 2) ee_int) ea_nil) (al_cons al_nil))) eaw_nil))) ea_nil)))) (nomark _))))))))))))))))))
theorem ok_law (T : Tx K mg) : Ok P w K mg base 6 "law" 1 m_law := by
  obtain ⟨f, fd, F, g⟩ := T.d_law
  exact ⟨f, fd, ["_law_script"], g, F.kp, F.binds fun _ _ _ _ _ _ us hl => match us, hl with | [_], _ => rfl, fn_law T F⟩
end
/-! ### the head's facts -/
theorem all_mk {K : PySem.W.Frag} {h : Heap} {mg : Str → Option Value} (X : K.In h) (G : h.Ns mainGlobals mg) {f0 f1 f2 f3 f4 f5 f6 f7 f8 f9 : Addr}
    {od0 an0 : Option Addr} {sl0 : Array (Option Value)} {oc0 kV0 dc0 pm0 cd0 ct0 : Value}
    (a0 : PySem.W.nsIn K mainGlobals "_law_drawn_integer" = some (some (.ref f0))) (l0 : K.lookup f0 = some ⟨oc0, od0, .func (PySem.W.fnOf "_law_drawn_integer" "_law_drawn_integer" (defArgs s_law_drawn_integer) (defBody s_law_drawn_integer) (defScope s_law_drawn_integer) .none kV0 dc0 pm0 an0 cd0 ct0), sl0⟩) (c0 : PySem.W.codeIn K cd0 "_law_drawn_integer" = true) (k0 : PySem.W.keepIn K (.ref f0) = true)
    {od1 an1 : Option Addr} {sl1 : Array (Option Value)} {oc1 kV1 dc1 pm1 cd1 ct1 : Value}
    (a1 : PySem.W.nsIn K mainGlobals "_law_digits" = some (some (.ref f1))) (l1 : K.lookup f1 = some ⟨oc1, od1, .func (PySem.W.fnOf "_law_digits" "_law_digits" (defArgs s_law_digits) (defBody s_law_digits) (defScope s_law_digits) .none kV1 dc1 pm1 an1 cd1 ct1), sl1⟩) (c1 : PySem.W.codeIn K cd1 "_law_digits" = true) (k1 : PySem.W.keepIn K (.ref f1) = true)
    {od2 an2 : Option Addr} {sl2 : Array (Option Value)} {oc2 kV2 dc2 pm2 cd2 ct2 : Value}
    (a2 : PySem.W.nsIn K mainGlobals "_law_cell" = some (some (.ref f2))) (l2 : K.lookup f2 = some ⟨oc2, od2, .func (PySem.W.fnOf "_law_cell" "_law_cell" (defArgs s_law_cell) (defBody s_law_cell) (defScope s_law_cell) .none kV2 dc2 pm2 an2 cd2 ct2), sl2⟩) (c2 : PySem.W.codeIn K cd2 "_law_cell" = true) (k2 : PySem.W.keepIn K (.ref f2) = true)
    {od3 an3 : Option Addr} {sl3 : Array (Option Value)} {oc3 kV3 dc3 pm3 cd3 ct3 : Value}
    (a3 : PySem.W.nsIn K mainGlobals "encode_number" = some (some (.ref f3))) (l3 : K.lookup f3 = some ⟨oc3, od3, .func (PySem.W.fnOf "encode_number" "encode_number" (defArgs s_encode_number) (defBody s_encode_number) (defScope s_encode_number) .none kV3 dc3 pm3 an3 cd3 ct3), sl3⟩) (c3 : PySem.W.codeIn K cd3 "encode_number" = true) (k3 : PySem.W.keepIn K (.ref f3) = true)
    {od4 an4 : Option Addr} {sl4 : Array (Option Value)} {oc4 kV4 dc4 pm4 cd4 ct4 : Value}
    (a4 : PySem.W.nsIn K mainGlobals "_law_groups" = some (some (.ref f4))) (l4 : K.lookup f4 = some ⟨oc4, od4, .func (PySem.W.fnOf "_law_groups" "_law_groups" (defArgs s_law_groups) (defBody s_law_groups) (defScope s_law_groups) .none kV4 dc4 pm4 an4 cd4 ct4), sl4⟩) (c4 : PySem.W.codeIn K cd4 "_law_groups" = true) (k4 : PySem.W.keepIn K (.ref f4) = true)
    {od5 an5 : Option Addr} {sl5 : Array (Option Value)} {oc5 kV5 dc5 pm5 cd5 ct5 : Value}
    (a5 : PySem.W.nsIn K mainGlobals "_law_whole" = some (some (.ref f5))) (l5 : K.lookup f5 = some ⟨oc5, od5, .func (PySem.W.fnOf "_law_whole" "_law_whole" (defArgs s_law_whole) (defBody s_law_whole) (defScope s_law_whole) .none kV5 dc5 pm5 an5 cd5 ct5), sl5⟩) (c5 : PySem.W.codeIn K cd5 "_law_whole" = true) (k5 : PySem.W.keepIn K (.ref f5) = true)
    {od6 an6 : Option Addr} {sl6 : Array (Option Value)} {oc6 kV6 dc6 pm6 cd6 ct6 : Value}
    (a6 : PySem.W.nsIn K mainGlobals "last_index" = some (some (.ref f6))) (l6 : K.lookup f6 = some ⟨oc6, od6, .func (PySem.W.fnOf "last_index" "last_index" (defArgs s_last_index) (defBody s_last_index) (defScope s_last_index) .none kV6 dc6 pm6 an6 cd6 ct6), sl6⟩) (c6 : PySem.W.codeIn K cd6 "last_index" = true) (k6 : PySem.W.keepIn K (.ref f6) = true)
    {od7 an7 : Option Addr} {sl7 : Array (Option Value)} {oc7 kV7 dc7 pm7 cd7 ct7 : Value}
    (a7 : PySem.W.nsIn K mainGlobals "decode_number" = some (some (.ref f7))) (l7 : K.lookup f7 = some ⟨oc7, od7, .func (PySem.W.fnOf "decode_number" "decode_number" (defArgs s_decode_number) (defBody s_decode_number) (defScope s_decode_number) .none kV7 dc7 pm7 an7 cd7 ct7), sl7⟩) (c7 : PySem.W.codeIn K cd7 "decode_number" = true) (k7 : PySem.W.keepIn K (.ref f7) = true)
    {od8 an8 : Option Addr} {sl8 : Array (Option Value)} {oc8 kV8 dc8 pm8 cd8 ct8 : Value}
    (a8 : PySem.W.nsIn K mainGlobals "_law_decoded" = some (some (.ref f8))) (l8 : K.lookup f8 = some ⟨oc8, od8, .func (PySem.W.fnOf "_law_decoded" "_law_decoded" (defArgs s_law_decoded) (defBody s_law_decoded) (defScope s_law_decoded) .none kV8 dc8 pm8 an8 cd8 ct8), sl8⟩) (c8 : PySem.W.codeIn K cd8 "_law_decoded" = true) (k8 : PySem.W.keepIn K (.ref f8) = true)
    {od9 an9 : Option Addr} {sl9 : Array (Option Value)} {oc9 kV9 dc9 pm9 cd9 ct9 : Value}
    (a9 : PySem.W.nsIn K mainGlobals "law" = some (some (.ref f9))) (l9 : K.lookup f9 = some ⟨oc9, od9, .func (PySem.W.fnOf "law" "law" (defArgs s_law) (defBody s_law) (defScope s_law) .none kV9 dc9 pm9 an9 cd9 ct9), sl9⟩) (c9 : PySem.W.codeIn K cd9 "law" = true) (k9 : PySem.W.keepIn K (.ref f9) = true)
    {q0 : Addr} (aq0 : PySem.W.nsIn K mainGlobals "QuietError" = some (some (.ref q0)))
    {xC0 xI0 xN0 : Addr} {xnm0 xq0 : Str} {xbs0 : List Value} {xsn0 : List Str} {xsub0 : List Value} {xab0 : Bool} {xcol0 : Option Bool} {xdd0 xod0 xan0 : Option Addr} {xk00 xk10 xk20 xk30 xk50 : Option Value} {xsl0 : Array (Option Value)} {xoc0 xkV0 xdc0 xpm0 xcd0 xct0 : Value}
    (xa0 : PySem.W.nsIn K mainGlobals "BadCode" = some (some (.ref xC0)))
    (xl0 : K.lookup xC0 = some (excClassObj xnm0 xq0 xC0 xN0 xbs0 [.ref q0, .type "ValueError", .type "Exception", .type "BaseException", .type "object"] true xsn0 xsub0 xab0 xcol0 xdd0 xk00 xk10 xk20 xk30 xk50 "ValueError.__new__"))
    (xs0 : PySem.W.findIn K (.ref xC0) "__setattr__" = some (some (.builtin "object.__setattr__"))) (xi0 : PySem.W.findIn K (.ref xC0) "__init__" = some (some (.ref xI0))) (xt0 : PySem.W.typeIn K (.ref xI0) = some (.type "function"))
    (xf0 : K.lookup xI0 = some ⟨xoc0, xod0, .func (PySem.W.fnOf "__init__" "BadCode.__init__" (defArgs clsS_BadCode) (defBody clsS_BadCode) (defScope clsS_BadCode) .none xkV0 xdc0 xpm0 xan0 xcd0 xct0), xsl0⟩) (xc0 : PySem.W.codeIn K xcd0 "BadCode.__init__" = true) (xkI0 : PySem.W.keepIn K (.ref xI0) = true)
    (xkC0 : PySem.W.keepIn K (.ref xC0) = true) (xe0 : PySem.W.subIn K (.ref xC0) (.type "BaseException") = some true) (xT0 : PySem.W.typeIn K (.ref xC0) = some (.type "type"))
    (xn0_0 : PySem.W.findIn K (.ref xC0) "at" = some none)
    (xm0_QuietError : PySem.W.subIn K (.ref xC0) (.ref q0) = some true)
    (qe_QuietError : PySem.W.subIn K (.ref q0) (.type "BaseException") = some true) (qi_QuietError : PySem.W.isClsIn K q0 = true) (qt_QuietError : PySem.W.typeIn K (.ref q0) = some (.type "type"))
    (z0 : PySem.W.nsIn K mainGlobals "bool" = some none)
    (z1 : PySem.W.nsIn K mainGlobals "int" = some none)
    (z2 : PySem.W.nsIn K mainGlobals "isinstance" = some none)
    (z3 : PySem.W.nsIn K mainGlobals "len" = some none)
    (z4 : PySem.W.nsIn K mainGlobals "list" = some none)
    (z5 : PySem.W.nsIn K mainGlobals "max" = some none)
    (z6 : PySem.W.nsIn K mainGlobals "min" = some none)
    (z7 : PySem.W.nsIn K mainGlobals "range" = some none)
    (z8 : PySem.W.nsIn K mainGlobals "tuple" = some none)
    : Tx K mg :=
  { d_law_drawn_integer := ⟨f0, _, fun_mk (st := s_law_drawn_integer) l0 c0 k0, PySem.W.mg_of X G a0⟩
    d_law_digits := ⟨f1, _, fun_mk (st := s_law_digits) l1 c1 k1, PySem.W.mg_of X G a1⟩
    d_law_cell := ⟨f2, _, fun_mk (st := s_law_cell) l2 c2 k2, PySem.W.mg_of X G a2⟩
    d_encode_number := ⟨f3, _, fun_mk (st := s_encode_number) l3 c3 k3, PySem.W.mg_of X G a3⟩
    d_law_groups := ⟨f4, _, fun_mk (st := s_law_groups) l4 c4 k4, PySem.W.mg_of X G a4⟩
    d_law_whole := ⟨f5, _, fun_mk (st := s_law_whole) l5 c5 k5, PySem.W.mg_of X G a5⟩
    d_last_index := ⟨f6, _, fun_mk (st := s_last_index) l6 c6 k6, PySem.W.mg_of X G a6⟩
    d_decode_number := ⟨f7, _, fun_mk (st := s_decode_number) l7 c7 k7, PySem.W.mg_of X G a7⟩
    d_law_decoded := ⟨f8, _, fun_mk (st := s_law_decoded) l8 c8 k8, PySem.W.mg_of X G a8⟩
    d_law := ⟨f9, _, fun_mk (st := s_law) l9 c9 k9, PySem.W.mg_of X G a9⟩
    x_BadCode := ⟨xC0, xI0, _, PySem.W.mg_of X G xa0, ⟨⟨_, _, _, _, _, _, _, _, _, _, _, _, _, _, _, xl0, rfl⟩, xs0, xe0, xT0, xkC0⟩, (fun f hf => (List.mem_cons.mp hf).elim (fun e => by rw [e]; exact xn0_0) fun hf => (fun _ h => by cases h) f hf), xi0, xt0, fun_mk (st := clsS_BadCode) xf0 xc0 xkI0⟩
    q_QuietError := ⟨q0, PySem.W.mg_of X G aq0⟩
    e_BadCode_QuietError := ⟨xC0, q0, PySem.W.mg_of X G xa0, PySem.W.mg_of X G aq0, exm_mk qe_QuietError qi_QuietError qt_QuietError xm0_QuietError⟩
    z_bool := PySem.W.mg_none_of X G z0
    z_int := PySem.W.mg_none_of X G z1
    z_isinstance := PySem.W.mg_none_of X G z2
    z_len := PySem.W.mg_none_of X G z3
    z_list := PySem.W.mg_none_of X G z4
    z_max := PySem.W.mg_none_of X G z5
    z_min := PySem.W.mg_none_of X G z6
    z_range := PySem.W.mg_none_of X G z7
    z_tuple := PySem.W.mg_none_of X G z8 }
/-! ### the law's own end -/
theorem law_bind {K : PySem.W.Frag} {f : Addr} {fd : FuncData} (F : Fun K "law" "law" s_law f fd) (s : Shared) (u : Value) : BindsTo s fd ⟨[u], []⟩ [("_law_script", u)] := by
  obtain ⟨oc, od, kV, doc, pm, an, cdv, ct, osl, rfl, lk, hcd⟩ := F.ex
  exact .of_eq rfl
theorem law_fn {P : Program} {w : World} {K : PySem.W.Frag} {mg : Str → Option Value} {base : Heap} (T : Tx K mg) {f : Addr} {fd : FuncData} (F : Fun K "law" "law" s_law f fd) (hm : ∀ ns : List Int, ns.length ≤ 63 → (∀ z ∈ ns, Builtin.Int.intBits z ≤ 1048576) → m_law [.slst (ns.map D.int)] = .ok (.bl true)) :
    FnOk P w K mg base (L2.CX P w) 6 f fd ["_law_script"] (spLaw K) := (fn_law T F).imp fun vs H Q E h => law_imp hm h
end LK

namespace LK
open PySem QB
open Builtin.Int (intBits)
/-! ### groups -/
def gi : Nat → Int → List Int × Int
  | 0, n => ([], n)
  | f + 1, n => if n < 128 then ([], n) else ((128 + n % 128) :: (gi f (n / 128)).1, (gi f (n / 128)).2)
theorem gi_lt {f : Nat} {n : Int} (h : n < 128) : gi f n = ([], n) := by
  cases f with
  | zero => rfl
  | succ f => show (if n < 128 then _ else _) = _; rw [if_pos h]
theorem gi_ge {f : Nat} {n : Int} (h : ¬ n < 128) : gi (f + 1) n = ((128 + n % 128) :: (gi f (n / 128)).1, (gi f (n / 128)).2) := by
  show (if n < 128 then _ else _) = _
  rw [if_neg h]
/-- f more octets at most -/
inductive Fit : Nat → Int → Prop
  | last {f : Nat} {n : Int} : 0 ≤ n → n < 128 → Fit f n
  | more {f : Nat} {n : Int} : 128 ≤ n → Fit f (n / 128) → Fit (f + 1) n
theorem fit4 {n : Int} (h0 : 0 ≤ n) (h1 : n < 34359738368) : Fit 4 n := by
  by_cases a : n < 128
  · exact .last h0 a
  refine .more (by omega) ?_
  by_cases a2 : n / 128 < 128
  · exact .last (by omega) a2
  refine .more (by omega) ?_
  by_cases a3 : n / 128 / 128 < 128
  · exact .last (by omega) a3
  refine .more (by omega) ?_
  by_cases a4 : n / 128 / 128 / 128 < 128
  · exact .last (by omega) a4
  refine .more (by omega) ?_
  exact .last (by omega) (by omega)
def val : List Int → Int → Int
  | [], l => l
  | x :: xs, l => 128 * val xs l + x - 128
structure GOk (f : Nat) (n : Int) (g : List Int × Int) : Prop where
  v : val g.1 g.2 = n
  l0 : 0 ≤ g.2
  l1 : g.2 < 128
  g0 : ∀ x ∈ g.1, 128 ≤ x ∧ x < 256
  len : g.1.length ≤ f
  nz : g.1 ≠ [] → g.2 ≠ 0
  z : 0 < n → 0 < g.2
theorem gok {f : Nat} {n : Int} (h : Fit f n) : GOk f n (gi f n) := by
  induction h with
  | last h0 h1 =>
    rw [gi_lt h1]
    exact ⟨rfl, h0, h1, fun x hx => (by cases hx), Nat.zero_le _, fun h => absurd rfl h, fun h => h⟩
  | @more f n h0 h1 ih =>
    rw [gi_ge (by omega)]
    obtain ⟨v, l0, l1, g0, len, nz, z⟩ := ih
    refine ⟨?_, l0, l1, fun x hx => ?_, by simp; exact len, fun _ => by have := z (by omega); omega, fun _ => z (by omega)⟩
    · show 128 * val (gi f (n / 128)).1 (gi f (n / 128)).2 + (128 + n % 128) - 128 = n
      rw [v]
      omega
    · rcases List.mem_cons.mp hx with rfl | hx
      · omega
      · exact g0 x hx
def G (n : Int) : List Int := (gi 4 n).1 ++ [(gi 4 n).2]
theorem e_whole (n : Int) : m_law_whole [.int n] = .ok (.bl true) := rfl
theorem e_gloop : ∀ {f : Nat} {n : Int}, Fit f n → ∀ (ds : List D) (acc : List Int) (x3 : Option EV) (a : Option EV), f < ds.length → acc.length + f ≤ 100 → ∃ y3, loopL (bName 3) b_law_groups_1 ds [a, some (.own (.l (acc.map D.int))), some (.val (.int n)), x3] = .nx [a, some (.own (.l ((acc ++ (gi f n).1).map D.int))), some (.val (.int (gi f n).2)), y3] := by
  intro f n h
  induction h with
  | @last f n h0 h1 =>
    intro ds acc x3 a hl hc
    match ds, hl with
    | d :: ds, hl =>
      refine ⟨some (.val d), ?_⟩
      have e : b_law_groups_1 [a, some (.own (.l (acc.map D.int))), some (.val (.int n)), some (.val d)] = .bk [a, some (.own (.l (acc.map D.int))), some (.val (.int n)), some (.val d)] := by
        simp (disch := omega) only [b_law_groups_1, q_df, q_st, q_sq, q_at_nx, q_at_rt, q_at_bk, q_at_ct, q_at_ex, q_mi, q_sel_t, q_sel_f, q_out_rt, q_out_nx, q_out_ex, q_rb_ok, q_rb_bad, q_rb_exc, q_tf_ok, q_v0, q_vs, q_w0, q_w0o, q_ws, q_tbq, q_asb, q_nt, q_rsel_t, q_rsel_f, q_ta, q_to, q_va, q_vo, q_vn, q_sett, q_seto, q_bin, q_c, q_callb, q_cons, q_nil, q_tup, q_lst, q_celle, q_ret, q_nx, q_thl, q_thd, q_isi, q_neg, q_neg_i, q_callk, q_drop, q_retn, q_brk, q_cnt, q_ife, q_add_i, q_sub_i, List.map_cons, List.map_nil, List.length_cons, List.length_nil, List.replicate, List.append_nil, List.nil_append, List.cons_append, Nat.reduceAdd, Nat.reduceSub, List.getElem?_cons_zero, List.getElem?_cons_succ, List.set_cons_zero, List.set_cons_succ, Bool.not_true, Bool.not_false, decide_true, decide_false, if_true, if_false, t_lt_t, t_lt_f, t_le_t, t_le_f, t_gt_t, t_gt_f, t_ge_t, t_ge_f, t_eq_t, t_eq_f, t_ne_t, t_ne_f, t_is_b, t_isn_b, t_is_i, t_is_n, t_isn_i, t_isn_n, t_abs_n, t_abs_p, t_min, t_max, t_ixl, t_ixt, t_ixs, t_ixL, q_opt, q_ixo, q_oc0, q_ocs, q_oa0, q_oas, t_appd, q_app, t_putd, q_six, q_flopt, q_frz, q_int_i, q_mul_s, q_mod_i, q_div_i, q_len_s, q_len_l, q_len_t, q_items_s, q_items_l, q_items_t, t_szl, Int.reduceToNat, Int.reduceNeg, permL, List.filterMap_cons, List.filterMap_nil, eq_self, if_true, if_false, ite_true, ite_false, Bool.true_eq_false, Bool.false_eq_true]
      show loopL (bName 3) b_law_groups_1 (d :: ds) _ = _
      simp only [loopL, bName, List.set_cons_succ, List.set_cons_zero, e, gi_lt h1, List.append_nil]
  | @more f n h0 h1 ih =>
    intro ds acc x3 a hl hc
    match ds, hl with
    | d :: ds, hl =>
      have e : b_law_groups_1 [a, some (.own (.l (acc.map D.int))), some (.val (.int n)), some (.val d)] = .nx [a, some (.own (.l ((acc ++ [128 + n % 128]).map D.int))), some (.val (.int (n / 128))), some (.val d)] := by
        unfold b_law_groups_1
        rw [seq_nx (r' := [a, some (.own (.l (acc.map D.int))), some (.val (.int n)), some (.val d)]) (by simp (disch := omega) only [q_df, q_st, q_sq, q_at_nx, q_at_rt, q_at_bk, q_at_ct, q_at_ex, q_mi, q_sel_t, q_sel_f, q_out_rt, q_out_nx, q_out_ex, q_rb_ok, q_rb_bad, q_rb_exc, q_tf_ok, q_v0, q_vs, q_w0, q_w0o, q_ws, q_tbq, q_asb, q_nt, q_rsel_t, q_rsel_f, q_ta, q_to, q_va, q_vo, q_vn, q_sett, q_seto, q_bin, q_c, q_callb, q_cons, q_nil, q_tup, q_lst, q_celle, q_ret, q_nx, q_thl, q_thd, q_isi, q_neg, q_neg_i, q_callk, q_drop, q_retn, q_brk, q_cnt, q_ife, q_add_i, q_sub_i, List.map_cons, List.map_nil, List.length_cons, List.length_nil, List.replicate, List.append_nil, List.nil_append, List.cons_append, Nat.reduceAdd, Nat.reduceSub, List.getElem?_cons_zero, List.getElem?_cons_succ, List.set_cons_zero, List.set_cons_succ, Bool.not_true, Bool.not_false, decide_true, decide_false, if_true, if_false, t_lt_t, t_lt_f, t_le_t, t_le_f, t_gt_t, t_gt_f, t_ge_t, t_ge_f, t_eq_t, t_eq_f, t_ne_t, t_ne_f, t_is_b, t_isn_b, t_is_i, t_is_n, t_isn_i, t_isn_n, t_abs_n, t_abs_p, t_min, t_max, t_ixl, t_ixt, t_ixs, t_ixL, q_opt, q_ixo, q_oc0, q_ocs, q_oa0, q_oas, t_appd, q_app, t_putd, q_six, q_flopt, q_frz, q_int_i, q_mul_s, q_mod_i, q_div_i, q_len_s, q_len_l, q_len_t, q_items_s, q_items_l, q_items_t, t_szl, Int.reduceToNat, Int.reduceNeg, permL, List.filterMap_cons, List.filterMap_nil, eq_self, if_true, if_false, ite_true, ite_false, Bool.true_eq_false, Bool.false_eq_true])]
        rw [seq_nx (r' := [a, some (.own (.l ((acc ++ [128 + n % 128]).map D.int))), some (.val (.int n)), some (.val d)]) (by
          rw [t_app (xs := acc.map D.int) rfl (by rw [List.length_map]; omega), List.map_append]
          simp (disch := omega) only [q_df, q_st, q_sq, q_at_nx, q_at_rt, q_at_bk, q_at_ct, q_at_ex, q_mi, q_sel_t, q_sel_f, q_out_rt, q_out_nx, q_out_ex, q_rb_ok, q_rb_bad, q_rb_exc, q_tf_ok, q_v0, q_vs, q_w0, q_w0o, q_ws, q_tbq, q_asb, q_nt, q_rsel_t, q_rsel_f, q_ta, q_to, q_va, q_vo, q_vn, q_sett, q_seto, q_bin, q_c, q_callb, q_cons, q_nil, q_tup, q_lst, q_celle, q_ret, q_nx, q_thl, q_thd, q_isi, q_neg, q_neg_i, q_callk, q_drop, q_retn, q_brk, q_cnt, q_ife, q_add_i, q_sub_i, List.map_cons, List.map_nil, List.length_cons, List.length_nil, List.replicate, List.append_nil, List.nil_append, List.cons_append, Nat.reduceAdd, Nat.reduceSub, List.getElem?_cons_zero, List.getElem?_cons_succ, List.set_cons_zero, List.set_cons_succ, Bool.not_true, Bool.not_false, decide_true, decide_false, if_true, if_false, t_lt_t, t_lt_f, t_le_t, t_le_f, t_gt_t, t_gt_f, t_ge_t, t_ge_f, t_eq_t, t_eq_f, t_ne_t, t_ne_f, t_is_b, t_isn_b, t_is_i, t_is_n, t_isn_i, t_isn_n, t_abs_n, t_abs_p, t_min, t_max, t_ixl, t_ixt, t_ixs, t_ixL, q_opt, q_ixo, q_oc0, q_ocs, q_oa0, q_oas, t_appd, q_app, t_putd, q_six, q_flopt, q_frz, q_int_i, q_mul_s, q_mod_i, q_div_i, q_len_s, q_len_l, q_len_t, q_items_s, q_items_l, q_items_t, t_szl, Int.reduceToNat, Int.reduceNeg, permL, List.filterMap_cons, List.filterMap_nil, eq_self, if_true, if_false, ite_true, ite_false, Bool.true_eq_false, Bool.false_eq_true])]
        simp (disch := omega) only [q_df, q_st, q_sq, q_at_nx, q_at_rt, q_at_bk, q_at_ct, q_at_ex, q_mi, q_sel_t, q_sel_f, q_out_rt, q_out_nx, q_out_ex, q_rb_ok, q_rb_bad, q_rb_exc, q_tf_ok, q_v0, q_vs, q_w0, q_w0o, q_ws, q_tbq, q_asb, q_nt, q_rsel_t, q_rsel_f, q_ta, q_to, q_va, q_vo, q_vn, q_sett, q_seto, q_bin, q_c, q_callb, q_cons, q_nil, q_tup, q_lst, q_celle, q_ret, q_nx, q_thl, q_thd, q_isi, q_neg, q_neg_i, q_callk, q_drop, q_retn, q_brk, q_cnt, q_ife, q_add_i, q_sub_i, List.map_cons, List.map_nil, List.length_cons, List.length_nil, List.replicate, List.append_nil, List.nil_append, List.cons_append, Nat.reduceAdd, Nat.reduceSub, List.getElem?_cons_zero, List.getElem?_cons_succ, List.set_cons_zero, List.set_cons_succ, Bool.not_true, Bool.not_false, decide_true, decide_false, if_true, if_false, t_lt_t, t_lt_f, t_le_t, t_le_f, t_gt_t, t_gt_f, t_ge_t, t_ge_f, t_eq_t, t_eq_f, t_ne_t, t_ne_f, t_is_b, t_isn_b, t_is_i, t_is_n, t_isn_i, t_isn_n, t_abs_n, t_abs_p, t_min, t_max, t_ixl, t_ixt, t_ixs, t_ixL, q_opt, q_ixo, q_oc0, q_ocs, q_oa0, q_oas, t_appd, q_app, t_putd, q_six, q_flopt, q_frz, q_int_i, q_mul_s, q_mod_i, q_div_i, q_len_s, q_len_l, q_len_t, q_items_s, q_items_l, q_items_t, t_szl, Int.reduceToNat, Int.reduceNeg, permL, List.filterMap_cons, List.filterMap_nil, eq_self, if_true, if_false, ite_true, ite_false, Bool.true_eq_false, Bool.false_eq_true]
      obtain ⟨y3, e2⟩ := ih ds (acc ++ [128 + n % 128]) (some (.val d)) a (by simp at hl; omega) (by simp; omega)
      refine ⟨y3, ?_⟩
      rw [loop_cons (r2 := [a, some (.own (.l ((acc ++ [128 + n % 128]).map D.int))), some (.val (.int (n / 128))), some (.val d)]) (by exact e), e2, gi_ge (by omega)]
      simp only [List.append_assoc, List.singleton_append]
theorem e_groups {n : Int} (h : Fit 4 n) : m_law_groups [.int n] = .ok (.lst ((G n).map D.int)) := by
  obtain ⟨y3, e⟩ := e_gloop h (rgD 0 5) [] none (some (.val (.int n))) (by rw [rgD_len]; omega) (by simp)
  rw [List.map_nil, List.nil_append] at e
  have gl := (gok h).len
  refine def_of ?_
  rw [show mStart 4 [D.int n] = [some (.val (.int n)), none, none, none] from rfl]
  rw [seq_nx (r' := [some (.val (.int n)), some (.own (.l [])), none, none]) (by rfl)]
  rw [seq_nx (r' := [some (.val (.int n)), some (.own (.l [])), some (.val (.int n)), none]) (by rfl)]
  rw [seq_nx (for_nx (ds := rgD 0 5) (by simp only [q_df, q_st, q_sq, q_at_nx, q_at_rt, q_at_bk, q_at_ct, q_at_ex, q_mi, q_sel_t, q_sel_f, q_out_rt, q_out_nx, q_out_ex, q_rb_ok, q_rb_bad, q_rb_exc, q_tf_ok, q_v0, q_vs, q_w0, q_w0o, q_ws, q_tbq, q_asb, q_nt, q_rsel_t, q_rsel_f, q_ta, q_to, q_va, q_vo, q_vn, q_sett, q_seto, q_bin, q_c, q_callb, q_cons, q_nil, q_tup, q_lst, q_celle, q_ret, q_nx, q_thl, q_thd, q_isi, q_neg, q_neg_i, q_callk, q_drop, q_retn, q_brk, q_cnt, q_ife, q_add_i, q_sub_i, q_lt_i, q_le_i, q_gt_i, q_ge_i, q_eq_i, q_ne_i, List.map_cons, List.map_nil, List.length_cons, List.length_nil, List.replicate, List.append_nil, List.nil_append, List.cons_append, Nat.reduceAdd, Nat.reduceSub, List.getElem?_cons_zero, List.getElem?_cons_succ, List.set_cons_zero, List.set_cons_succ, Bool.not_true, Bool.not_false, decide_true, decide_false, if_true, if_false, q_rg]; exact q_rg1 (by omega) (by omega)) e)]
  rw [q_frz]
  simp only [q_df, q_st, q_sq, q_at_nx, q_at_rt, q_at_bk, q_at_ct, q_at_ex, q_mi, q_sel_t, q_sel_f, q_out_rt, q_out_nx, q_out_ex, q_rb_ok, q_rb_bad, q_rb_exc, q_tf_ok, q_v0, q_vs, q_w0, q_w0o, q_ws, q_tbq, q_asb, q_nt, q_rsel_t, q_rsel_f, q_ta, q_to, q_va, q_vo, q_vn, q_sett, q_seto, q_bin, q_c, q_callb, q_cons, q_nil, q_tup, q_lst, q_celle, q_ret, q_nx, q_thl, q_thd, q_isi, q_neg, q_neg_i, q_callk, q_drop, q_retn, q_brk, q_cnt, q_ife, q_add_i, q_sub_i, q_lt_i, q_le_i, q_gt_i, q_ge_i, q_eq_i, q_ne_i, List.map_cons, List.map_nil, List.length_cons, List.length_nil, List.replicate, List.append_nil, List.nil_append, List.cons_append, Nat.reduceAdd, Nat.reduceSub, List.getElem?_cons_zero, List.getElem?_cons_succ, List.set_cons_zero, List.set_cons_succ, Bool.not_true, Bool.not_false, decide_true, decide_false, if_true, if_false, q_ocs, q_oc0, q_flopt, show (1 : Nat) ≤ sizeLine from by decide]
  rw [t_addl (by simp; omega)]
  simp only [q_tf_ok, G, List.map_append, List.map_cons, List.map_nil]
theorem e_eloop : ∀ {f : Nat} {n : Int}, Fit f n → ∀ (k : Nat) (acc : List Int) (a : Option EV), f < k → acc.length + f ≤ 100 → whileL (mTB (mBin dGt (mVar 2) (mC (.int 127)))) b_encode_number_1 k [a, some (.own (.l (acc.map D.int))), some (.val (.int n))] = .nx [a, some (.own (.l ((acc ++ (gi f n).1).map D.int))), some (.val (.int (gi f n).2))] := by
  intro f n h
  induction h with
  | @last f n h0 h1 =>
    intro k acc a hl hc
    match k, hl with
    | k + 1, hl =>
      simp (disch := omega) only [whileL, q_df, q_st, q_sq, q_at_nx, q_at_rt, q_at_bk, q_at_ct, q_at_ex, q_mi, q_sel_t, q_sel_f, q_out_rt, q_out_nx, q_out_ex, q_rb_ok, q_rb_bad, q_rb_exc, q_tf_ok, q_v0, q_vs, q_w0, q_w0o, q_ws, q_tbq, q_asb, q_nt, q_rsel_t, q_rsel_f, q_ta, q_to, q_va, q_vo, q_vn, q_sett, q_seto, q_bin, q_c, q_callb, q_cons, q_nil, q_tup, q_lst, q_celle, q_ret, q_nx, q_thl, q_thd, q_isi, q_neg, q_neg_i, q_callk, q_drop, q_retn, q_brk, q_cnt, q_ife, q_add_i, q_sub_i, List.map_cons, List.map_nil, List.length_cons, List.length_nil, List.replicate, List.append_nil, List.nil_append, List.cons_append, Nat.reduceAdd, Nat.reduceSub, List.getElem?_cons_zero, List.getElem?_cons_succ, List.set_cons_zero, List.set_cons_succ, Bool.not_true, Bool.not_false, decide_true, decide_false, if_true, if_false, t_lt_t, t_lt_f, t_le_t, t_le_f, t_gt_t, t_gt_f, t_ge_t, t_ge_f, t_eq_t, t_eq_f, t_ne_t, t_ne_f, t_is_b, t_isn_b, t_is_i, t_is_n, t_isn_i, t_isn_n, t_abs_n, t_abs_p, t_min, t_max, t_ixl, t_ixt, t_ixs, t_ixL, q_opt, q_ixo, q_oc0, q_ocs, q_oa0, q_oas, t_appd, q_app, t_putd, q_six, q_flopt, q_frz, q_int_i, q_mul_s, q_mod_i, q_div_i, q_len_s, q_len_l, q_len_t, q_items_s, q_items_l, q_items_t, t_szl, Int.reduceToNat, Int.reduceNeg, permL, List.filterMap_cons, List.filterMap_nil, eq_self, if_true, if_false, ite_true, ite_false, Bool.true_eq_false, Bool.false_eq_true, gi_lt h1]
  | @more f n h0 h1 ih =>
    intro k acc a hl hc
    match k, hl with
    | k + 1, hl =>
      have e : b_encode_number_1 [a, some (.own (.l (acc.map D.int))), some (.val (.int n))] = .nx [a, some (.own (.l ((acc ++ [128 + n % 128]).map D.int))), some (.val (.int (n / 128)))] := by
        unfold b_encode_number_1
        rw [seq_nx (r' := [a, some (.own (.l ((acc ++ [128 + n % 128]).map D.int))), some (.val (.int n))]) (by
          rw [t_app (xs := acc.map D.int) rfl (by rw [List.length_map]; omega), List.map_append]
          simp (disch := omega) only [q_df, q_st, q_sq, q_at_nx, q_at_rt, q_at_bk, q_at_ct, q_at_ex, q_mi, q_sel_t, q_sel_f, q_out_rt, q_out_nx, q_out_ex, q_rb_ok, q_rb_bad, q_rb_exc, q_tf_ok, q_v0, q_vs, q_w0, q_w0o, q_ws, q_tbq, q_asb, q_nt, q_rsel_t, q_rsel_f, q_ta, q_to, q_va, q_vo, q_vn, q_sett, q_seto, q_bin, q_c, q_callb, q_cons, q_nil, q_tup, q_lst, q_celle, q_ret, q_nx, q_thl, q_thd, q_isi, q_neg, q_neg_i, q_callk, q_drop, q_retn, q_brk, q_cnt, q_ife, q_add_i, q_sub_i, List.map_cons, List.map_nil, List.length_cons, List.length_nil, List.replicate, List.append_nil, List.nil_append, List.cons_append, Nat.reduceAdd, Nat.reduceSub, List.getElem?_cons_zero, List.getElem?_cons_succ, List.set_cons_zero, List.set_cons_succ, Bool.not_true, Bool.not_false, decide_true, decide_false, if_true, if_false, t_lt_t, t_lt_f, t_le_t, t_le_f, t_gt_t, t_gt_f, t_ge_t, t_ge_f, t_eq_t, t_eq_f, t_ne_t, t_ne_f, t_is_b, t_isn_b, t_is_i, t_is_n, t_isn_i, t_isn_n, t_abs_n, t_abs_p, t_min, t_max, t_ixl, t_ixt, t_ixs, t_ixL, q_opt, q_ixo, q_oc0, q_ocs, q_oa0, q_oas, t_appd, q_app, t_putd, q_six, q_flopt, q_frz, q_int_i, q_mul_s, q_mod_i, q_div_i, q_len_s, q_len_l, q_len_t, q_items_s, q_items_l, q_items_t, t_szl, Int.reduceToNat, Int.reduceNeg, permL, List.filterMap_cons, List.filterMap_nil, eq_self, if_true, if_false, ite_true, ite_false, Bool.true_eq_false, Bool.false_eq_true])]
        simp (disch := omega) only [q_df, q_st, q_sq, q_at_nx, q_at_rt, q_at_bk, q_at_ct, q_at_ex, q_mi, q_sel_t, q_sel_f, q_out_rt, q_out_nx, q_out_ex, q_rb_ok, q_rb_bad, q_rb_exc, q_tf_ok, q_v0, q_vs, q_w0, q_w0o, q_ws, q_tbq, q_asb, q_nt, q_rsel_t, q_rsel_f, q_ta, q_to, q_va, q_vo, q_vn, q_sett, q_seto, q_bin, q_c, q_callb, q_cons, q_nil, q_tup, q_lst, q_celle, q_ret, q_nx, q_thl, q_thd, q_isi, q_neg, q_neg_i, q_callk, q_drop, q_retn, q_brk, q_cnt, q_ife, q_add_i, q_sub_i, List.map_cons, List.map_nil, List.length_cons, List.length_nil, List.replicate, List.append_nil, List.nil_append, List.cons_append, Nat.reduceAdd, Nat.reduceSub, List.getElem?_cons_zero, List.getElem?_cons_succ, List.set_cons_zero, List.set_cons_succ, Bool.not_true, Bool.not_false, decide_true, decide_false, if_true, if_false, t_lt_t, t_lt_f, t_le_t, t_le_f, t_gt_t, t_gt_f, t_ge_t, t_ge_f, t_eq_t, t_eq_f, t_ne_t, t_ne_f, t_is_b, t_isn_b, t_is_i, t_is_n, t_isn_i, t_isn_n, t_abs_n, t_abs_p, t_min, t_max, t_ixl, t_ixt, t_ixs, t_ixL, q_opt, q_ixo, q_oc0, q_ocs, q_oa0, q_oas, t_appd, q_app, t_putd, q_six, q_flopt, q_frz, q_int_i, q_mul_s, q_mod_i, q_div_i, q_len_s, q_len_l, q_len_t, q_items_s, q_items_l, q_items_t, t_szl, Int.reduceToNat, Int.reduceNeg, permL, List.filterMap_cons, List.filterMap_nil, eq_self, if_true, if_false, ite_true, ite_false, Bool.true_eq_false, Bool.false_eq_true]
      have t : mTB (mBin dGt (mVar 2) (mC (.int 127))) [a, some (.own (.l (acc.map D.int))), some (.val (.int n))] = .ok true := by
        simp (disch := omega) only [q_df, q_st, q_sq, q_at_nx, q_at_rt, q_at_bk, q_at_ct, q_at_ex, q_mi, q_sel_t, q_sel_f, q_out_rt, q_out_nx, q_out_ex, q_rb_ok, q_rb_bad, q_rb_exc, q_tf_ok, q_v0, q_vs, q_w0, q_w0o, q_ws, q_tbq, q_asb, q_nt, q_rsel_t, q_rsel_f, q_ta, q_to, q_va, q_vo, q_vn, q_sett, q_seto, q_bin, q_c, q_callb, q_cons, q_nil, q_tup, q_lst, q_celle, q_ret, q_nx, q_thl, q_thd, q_isi, q_neg, q_neg_i, q_callk, q_drop, q_retn, q_brk, q_cnt, q_ife, q_add_i, q_sub_i, List.map_cons, List.map_nil, List.length_cons, List.length_nil, List.replicate, List.append_nil, List.nil_append, List.cons_append, Nat.reduceAdd, Nat.reduceSub, List.getElem?_cons_zero, List.getElem?_cons_succ, List.set_cons_zero, List.set_cons_succ, Bool.not_true, Bool.not_false, decide_true, decide_false, if_true, if_false, t_lt_t, t_lt_f, t_le_t, t_le_f, t_gt_t, t_gt_f, t_ge_t, t_ge_f, t_eq_t, t_eq_f, t_ne_t, t_ne_f, t_is_b, t_isn_b, t_is_i, t_is_n, t_isn_i, t_isn_n, t_abs_n, t_abs_p, t_min, t_max, t_ixl, t_ixt, t_ixs, t_ixL, q_opt, q_ixo, q_oc0, q_ocs, q_oa0, q_oas, t_appd, q_app, t_putd, q_six, q_flopt, q_frz, q_int_i, q_mul_s, q_mod_i, q_div_i, q_len_s, q_len_l, q_len_t, q_items_s, q_items_l, q_items_t, t_szl, Int.reduceToNat, Int.reduceNeg, permL, List.filterMap_cons, List.filterMap_nil, eq_self, if_true, if_false, ite_true, ite_false, Bool.true_eq_false, Bool.false_eq_true]
      simp only [whileL, t, q_tf_ok, e]
      rw [ih k (acc ++ [128 + n % 128]) a (by omega) (by simp; omega), gi_ge (by omega)]
      simp only [List.append_assoc, List.singleton_append]
theorem e_encode {n : Int} (h : Fit 4 n) : m_encode_number [.int n] = .ok (.tup ((G n).map D.int)) := by
  have e := e_eloop h 100000 [] (some (.val (.int n))) (by omega) (by simp)
  rw [List.map_nil, List.nil_append, show whileL (mTB (mBin dGt (mVar 2) (mC (.int 127)))) b_encode_number_1 100000 = mWhile 100000 (mTB (mBin dGt (mVar 2) (mC (.int 127)))) b_encode_number_1 from rfl] at e
  have gl := (gok h).len
  refine def_of ?_
  rw [show mStart 3 [D.int n] = [some (.val (.int n)), none, none] from rfl]
  rw [seq_nx (r' := [some (.val (.int n)), some (.own (.l [])), none]) (by rfl)]
  rw [seq_nx (r' := [some (.val (.int n)), some (.own (.l [])), some (.val (.int n))]) (by rfl)]
  rw [seq_nx e]
  rw [seq_nx (r' := [some (.val (.int n)), some (.own (.l ((G n).map D.int))), some (.val (.int (gi 4 n).2))]) (by
    rw [t_app (xs := (gi 4 n).1.map D.int) rfl (by rw [List.length_map]; omega)]
    simp only [q_df, q_st, q_sq, q_at_nx, q_at_rt, q_at_bk, q_at_ct, q_at_ex, q_mi, q_sel_t, q_sel_f, q_out_rt, q_out_nx, q_out_ex, q_rb_ok, q_rb_bad, q_rb_exc, q_tf_ok, q_v0, q_vs, q_w0, q_w0o, q_ws, q_tbq, q_asb, q_nt, q_rsel_t, q_rsel_f, q_ta, q_to, q_va, q_vo, q_vn, q_sett, q_seto, q_bin, q_c, q_callb, q_cons, q_nil, q_tup, q_lst, q_celle, q_ret, q_nx, q_thl, q_thd, q_isi, q_neg, q_neg_i, q_callk, q_drop, q_retn, q_brk, q_cnt, q_ife, q_add_i, q_sub_i, q_lt_i, q_le_i, q_gt_i, q_ge_i, q_eq_i, q_ne_i, List.map_cons, List.map_nil, List.length_cons, List.length_nil, List.replicate, List.append_nil, List.nil_append, List.cons_append, Nat.reduceAdd, Nat.reduceSub, List.getElem?_cons_zero, List.getElem?_cons_succ, List.set_cons_zero, List.set_cons_succ, Bool.not_true, Bool.not_false, decide_true, decide_false, if_true, if_false, G, List.map_append])]
  simp only [q_df, q_st, q_sq, q_at_nx, q_at_rt, q_at_bk, q_at_ct, q_at_ex, q_mi, q_sel_t, q_sel_f, q_out_rt, q_out_nx, q_out_ex, q_rb_ok, q_rb_bad, q_rb_exc, q_tf_ok, q_v0, q_vs, q_w0, q_w0o, q_ws, q_tbq, q_asb, q_nt, q_rsel_t, q_rsel_f, q_ta, q_to, q_va, q_vo, q_vn, q_sett, q_seto, q_bin, q_c, q_callb, q_cons, q_nil, q_tup, q_lst, q_celle, q_ret, q_nx, q_thl, q_thd, q_isi, q_neg, q_neg_i, q_callk, q_drop, q_retn, q_brk, q_cnt, q_ife, q_add_i, q_sub_i, q_lt_i, q_le_i, q_gt_i, q_ge_i, q_eq_i, q_ne_i, List.map_cons, List.map_nil, List.length_cons, List.length_nil, List.replicate, List.append_nil, List.nil_append, List.cons_append, Nat.reduceAdd, Nat.reduceSub, List.getElem?_cons_zero, List.getElem?_cons_succ, List.set_cons_zero, List.set_cons_succ, Bool.not_true, Bool.not_false, decide_true, decide_false, if_true, if_false, q_tupo, q_oas, q_oa0, q_opt]
/-! ### decoding -/
def seqK (X : D) (xs : List Int) : Prop := X = .lst (xs.map D.int) ∨ X = .tup (xs.map D.int)
theorem seqK.ix {X : D} {xs : List Int} (h : seqK X xs) {i : Int} {x : Int} (h0 : 0 ≤ i) (h1 : xs[i.toNat]? = some x) : dIx X (.int i) = .ok (.int x) := by
  rcases h with rfl | rfl
  · exact q_ix rfl h0 (by rw [List.getElem?_map, h1]; rfl)
  · exact q_ix rfl h0 (by rw [List.getElem?_map, h1]; rfl)
theorem seqK.len {X : D} {xs : List Int} (h : seqK X xs) : dLen [X] = .ok (.int xs.length) := by
  rcases h with rfl | rfl
  · rw [q_len_l, List.length_map]
  · rw [q_len_t, List.length_map]
theorem rgD_cons {lo : Int} {n : Nat} : rgD lo (n + 1) = .int lo :: rgD (lo + 1) n := by
  unfold rgD
  rw [List.range_succ_eq_map, List.map_cons, List.map_map]
  congr 1
  · simp
  · apply List.map_congr_left
    intro i _
    show D.int (lo + ((i + 1 : Nat) : Int)) = D.int (lo + 1 + (i : Int))
    congr 1
    omega
theorem e_lloop {X : D} {xs : List Int} (hX : seqK X xs) : ∀ (g : List Int) (l : Int) (at_ : Nat) (n : Nat) (y : Option EV) (x2 : Option EV), (∀ i x, (g ++ [l])[i]? = some x → xs[at_ + i]? = some x) → (∀ x ∈ g, 128 ≤ x) → l < 128 → g.length < n → loopL (bName 2) b_last_index_1 (rgD at_ n) [some (.val X), y, x2] = .rt (.int ((at_ + g.length : Nat) : Int)) := by
  intro g
  induction g with
  | nil =>
    intro l at_ n y x2 h1 h2 h3 h4
    match n, h4 with
    | n + 1, h4 =>
      have e := hX.ix (i := (at_ : Int)) (x := l) (by omega) (by rw [show ((at_ : Int)).toNat = at_ + 0 by omega]; exact h1 0 l rfl)
      rw [rgD_cons]
      have eb : b_last_index_1 [some (.val X), y, some (.val (.int at_))] = .rt (.int at_) := by
        simp (disch := omega) only [b_last_index_1, q_df, q_st, q_sq, q_at_nx, q_at_rt, q_at_bk, q_at_ct, q_at_ex, q_mi, q_sel_t, q_sel_f, q_out_rt, q_out_nx, q_out_ex, q_rb_ok, q_rb_bad, q_rb_exc, q_tf_ok, q_v0, q_vs, q_w0, q_w0o, q_ws, q_tbq, q_asb, q_nt, q_rsel_t, q_rsel_f, q_ta, q_to, q_va, q_vo, q_vn, q_sett, q_seto, q_bin, q_c, q_callb, q_cons, q_nil, q_tup, q_lst, q_celle, q_ret, q_nx, q_thl, q_thd, q_isi, q_neg, q_neg_i, q_callk, q_drop, q_retn, q_brk, q_cnt, q_ife, q_add_i, q_sub_i, List.map_cons, List.map_nil, List.length_cons, List.length_nil, List.replicate, List.append_nil, List.nil_append, List.cons_append, Nat.reduceAdd, Nat.reduceSub, List.getElem?_cons_zero, List.getElem?_cons_succ, List.set_cons_zero, List.set_cons_succ, Bool.not_true, Bool.not_false, decide_true, decide_false, if_true, if_false, t_lt_t, t_lt_f, t_le_t, t_le_f, t_gt_t, t_gt_f, t_ge_t, t_ge_f, t_eq_t, t_eq_f, t_ne_t, t_ne_f, t_is_b, t_isn_b, t_is_i, t_is_n, t_isn_i, t_isn_n, t_abs_n, t_abs_p, t_min, t_max, t_ixl, t_ixt, t_ixs, t_ixL, q_opt, q_ixo, q_oc0, q_ocs, q_oa0, q_oas, t_appd, q_app, t_putd, q_six, q_flopt, q_frz, q_int_i, q_mul_s, q_mod_i, q_div_i, q_len_s, q_len_l, q_len_t, q_items_s, q_items_l, q_items_t, t_szl, Int.reduceToNat, Int.reduceNeg, permL, List.filterMap_cons, List.filterMap_nil, eq_self, if_true, if_false, ite_true, ite_false, Bool.true_eq_false, Bool.false_eq_true, e]
      simp only [loopL, bName, List.set_cons_succ, List.set_cons_zero, eb]
      rfl
  | cons x g ih =>
    intro l at_ n y x2 h1 h2 h3 h4
    match n, h4 with
    | n + 1, h4 =>
      have e := hX.ix (i := (at_ : Int)) (x := x) (by omega) (by rw [show ((at_ : Int)).toNat = at_ + 0 by omega]; exact h1 0 x rfl)
      have hx := h2 x List.mem_cons_self
      rw [rgD_cons]
      have eb : b_last_index_1 [some (.val X), y, some (.val (.int at_))] = .nx [some (.val X), y, some (.val (.int at_))] := by
        simp (disch := omega) only [b_last_index_1, q_df, q_st, q_sq, q_at_nx, q_at_rt, q_at_bk, q_at_ct, q_at_ex, q_mi, q_sel_t, q_sel_f, q_out_rt, q_out_nx, q_out_ex, q_rb_ok, q_rb_bad, q_rb_exc, q_tf_ok, q_v0, q_vs, q_w0, q_w0o, q_ws, q_tbq, q_asb, q_nt, q_rsel_t, q_rsel_f, q_ta, q_to, q_va, q_vo, q_vn, q_sett, q_seto, q_bin, q_c, q_callb, q_cons, q_nil, q_tup, q_lst, q_celle, q_ret, q_nx, q_thl, q_thd, q_isi, q_neg, q_neg_i, q_callk, q_drop, q_retn, q_brk, q_cnt, q_ife, q_add_i, q_sub_i, List.map_cons, List.map_nil, List.length_cons, List.length_nil, List.replicate, List.append_nil, List.nil_append, List.cons_append, Nat.reduceAdd, Nat.reduceSub, List.getElem?_cons_zero, List.getElem?_cons_succ, List.set_cons_zero, List.set_cons_succ, Bool.not_true, Bool.not_false, decide_true, decide_false, if_true, if_false, t_lt_t, t_lt_f, t_le_t, t_le_f, t_gt_t, t_gt_f, t_ge_t, t_ge_f, t_eq_t, t_eq_f, t_ne_t, t_ne_f, t_is_b, t_isn_b, t_is_i, t_is_n, t_isn_i, t_isn_n, t_abs_n, t_abs_p, t_min, t_max, t_ixl, t_ixt, t_ixs, t_ixL, q_opt, q_ixo, q_oc0, q_ocs, q_oa0, q_oas, t_appd, q_app, t_putd, q_six, q_flopt, q_frz, q_int_i, q_mul_s, q_mod_i, q_div_i, q_len_s, q_len_l, q_len_t, q_items_s, q_items_l, q_items_t, t_szl, Int.reduceToNat, Int.reduceNeg, permL, List.filterMap_cons, List.filterMap_nil, eq_self, if_true, if_false, ite_true, ite_false, Bool.true_eq_false, Bool.false_eq_true, e]
      rw [loop_cons (r2 := [some (.val X), y, some (.val (.int at_))]) (by exact eb)]
      have := ih l (at_ + 1) n y (some (.val (.int at_))) (fun i z hz => by
        have := h1 (i + 1) z (by simpa using hz)
        rw [show at_ + 1 + i = at_ + (i + 1) by omega]
        exact this) (fun z hz => h2 z (List.mem_cons_of_mem _ hz)) h3 (by simp at h4; omega)
      rw [show ((at_ : Int)) + 1 = ((at_ + 1 : Nat) : Int) by omega, this, List.length_cons]
      congr 2
      omega
theorem e_last {X : D} {xs : List Int} (hX : seqK X xs) (hs : xs.length ≤ 1000000) {g : List Int} {l : Int} {at_ : Nat} (h1 : ∀ i x, (g ++ [l])[i]? = some x → xs[at_ + i]? = some x) (h2 : ∀ x ∈ g, 128 ≤ x) (h3 : l < 128) : m_last_index [X, .int at_] = .ok (.int ((at_ + g.length : Nat) : Int)) := by
  have hl : at_ + g.length < xs.length := (List.getElem?_eq_some_iff.mp (h1 g.length l (by simp))).1
  refine def_of ?_
  rw [show mStart 3 [X, D.int at_] = [some (.val X), some (.val (.int at_)), none] from rfl]
  refine seq_rt (for_rt (ds := rgD at_ ((xs.length : Int) - at_).toNat) ?_ (e_lloop hX g l at_ _ _ _ h1 h2 h3 (by omega)))
  simp only [q_df, q_st, q_sq, q_at_nx, q_at_rt, q_at_bk, q_at_ct, q_at_ex, q_mi, q_sel_t, q_sel_f, q_out_rt, q_out_nx, q_out_ex, q_rb_ok, q_rb_bad, q_rb_exc, q_tf_ok, q_v0, q_vs, q_w0, q_w0o, q_ws, q_tbq, q_asb, q_nt, q_rsel_t, q_rsel_f, q_ta, q_to, q_va, q_vo, q_vn, q_sett, q_seto, q_bin, q_c, q_callb, q_cons, q_nil, q_tup, q_lst, q_celle, q_ret, q_nx, q_thl, q_thd, q_isi, q_neg, q_neg_i, q_callk, q_drop, q_retn, q_brk, q_cnt, q_ife, q_add_i, q_sub_i, q_lt_i, q_le_i, q_gt_i, q_ge_i, q_eq_i, q_ne_i, List.map_cons, List.map_nil, List.length_cons, List.length_nil, List.replicate, List.append_nil, List.nil_append, List.cons_append, Nat.reduceAdd, Nat.reduceSub, List.getElem?_cons_zero, List.getElem?_cons_succ, List.set_cons_zero, List.set_cons_succ, Bool.not_true, Bool.not_false, decide_true, decide_false, if_true, if_false, q_rg, hX.len]
  exact q_rg2 (by omega) (by omega) (by omega) (by omega)
theorem rgC_get {lo c : Int} {n i : Nat} {d : D} (h : (rgC lo c n)[i]? = some d) : i < n ∧ d = .int (lo + (i : Int) * c) := by
  unfold rgC at h
  rw [List.getElem?_map] at h
  by_cases hi : i < n
  · simp [hi] at h
    exact ⟨hi, h.symm⟩
  · simp [hi] at h
theorem val_nn {l : Int} (h0 : 0 ≤ l) : ∀ {xs : List Int}, (∀ x ∈ xs, 128 ≤ x) → 0 ≤ val xs l
  | [], _ => h0
  | x :: xs, h => by
    have := val_nn h0 fun y hy => h y (List.mem_cons_of_mem _ hy)
    have := h x List.mem_cons_self
    show 0 ≤ 128 * val xs l + x - 128
    omega
theorem val_drop {l : Int} (h0 : 0 ≤ l) : ∀ {xs : List Int}, (∀ x ∈ xs, 128 ≤ x) → ∀ k, 0 ≤ val (xs.drop k) l ∧ val (xs.drop k) l ≤ val xs l
  | [], _, k => by
    rw [List.drop_nil]
    exact ⟨h0, Int.le_refl _⟩
  | x :: xs, h, 0 => ⟨val_nn h0 h, Int.le_refl _⟩
  | x :: xs, h, k + 1 => by
    have h2 := val_drop h0 (fun y hy => h y (List.mem_cons_of_mem _ hy)) k
    have := h x List.mem_cons_self
    rw [List.drop_succ_cons]
    refine ⟨h2.1, ?_⟩
    show _ ≤ 128 * val xs l + x - 128
    omega
theorem e_decode {X : D} {xs : List Int} (hX : seqK X xs) (hs : xs.length ≤ 1000000) {n : Int} (n0 : 0 ≤ n) (n1 : n < 34359738368) {at_ : Nat} (h1 : ∀ i x, (G n)[i]? = some x → xs[at_ + i]? = some x) : m_decode_number [X, .int at_] = .ok (.tup [.int n, .int ((at_ + (G n).length : Nat) : Int)]) := by
  obtain ⟨gv, gl0, gl1, gg0, glen, gnz, gz⟩ := gok (fit4 n0 n1)
  have hG : (G n).length = (gi 4 n).1.length + 1 := by unfold G; simp
  unfold G at h1
  rw [hG]
  generalize (gi 4 n).1 = g at *
  generalize (gi 4 n).2 = l at *
  have e1 := e_last hX hs h1 (fun x hx => (gg0 x hx).1) gl1
  have hl : at_ + g.length < xs.length := (List.getElem?_eq_some_iff.mp (h1 g.length l (by simp))).1
  have e2 := hX.ix (i := ((at_ + g.length : Nat) : Int)) (x := l) (by omega) (by rw [show (((at_ + g.length : Nat) : Int)).toNat = at_ + g.length by omega]; exact h1 g.length l (by simp))
  have vd := val_drop (xs := g) gl0 (fun x hx => (gg0 x hx).1)
  obtain ⟨r2, e3, x4, hr⟩ := for_inv (i := 4) (body := b_decode_number_1) (fun j r => ∃ x4, r = [some (.val X), some (.val (.int at_)), some (.val (.int ((at_ + g.length : Nat) : Int))), some (.val (.int (val (g.drop (g.length - j)) l))), x4])
    (ds := rgC (((at_ + g.length : Nat) : Int) - 1) (-1) g.length) (r := [some (.val X), some (.val (.int at_)), some (.val (.int ((at_ + g.length : Nat) : Int))), some (.val (.int l)), none]) ⟨none, by simp [val]⟩ (fun j d r hd ⟨x4, hr⟩ => by
      subst hr
      obtain ⟨hj, rfl⟩ := rgC_get hd
      have hx : g.length - (j + 1) < g.length := by omega
      have ed : g.drop (g.length - (j + 1)) = g[g.length - (j + 1)] :: g.drop (g.length - j) := by
        rw [List.drop_eq_getElem_cons hx, show g.length - (j + 1) + 1 = g.length - j by omega]
      have ex := hX.ix (i := ((at_ + g.length : Nat) : Int) - 1 + (j : Int) * (-1)) (x := g[g.length - (j + 1)]) (by omega) (by
        rw [show (((at_ + g.length : Nat) : Int) - 1 + (j : Int) * (-1)).toNat = at_ + (g.length - (j + 1)) by omega]
        refine h1 _ _ ?_
        rw [List.getElem?_append_left hx, List.getElem?_eq_getElem hx])
      have v1 := vd (g.length - j)
      refine ⟨[some (.val X), some (.val (.int at_)), some (.val (.int ((at_ + g.length : Nat) : Int))), some (.val (.int (128 * val (g.drop (g.length - j)) l + g[g.length - (j + 1)] - 128))), some (.val (.int (((at_ + g.length : Nat) : Int) - 1 + (j : Int) * (-1))))], ?_, _, by rw [ed]; rfl⟩
      show b_decode_number_1 [some (.val X), some (.val (.int at_)), some (.val (.int ((at_ + g.length : Nat) : Int))), some (.val (.int (val (g.drop (g.length - j)) l))), some (.val (.int (((at_ + g.length : Nat) : Int) - 1 + (j : Int) * (-1))))] = .nx [some (.val X), some (.val (.int at_)), some (.val (.int ((at_ + g.length : Nat) : Int))), some (.val (.int (128 * val (g.drop (g.length - j)) l + g[g.length - (j + 1)] - 128))), some (.val (.int (((at_ + g.length : Nat) : Int) - 1 + (j : Int) * (-1))))]
      rw [gv] at v1
      generalize val (g.drop (g.length - j)) l = v at *
      generalize ((at_ + g.length : Nat) : Int) - 1 + (j : Int) * (-1) = i at *
      simp (disch := omega) only [b_decode_number_1, q_df, q_st, q_sq, q_at_nx, q_at_rt, q_at_bk, q_at_ct, q_at_ex, q_mi, q_sel_t, q_sel_f, q_out_rt, q_out_nx, q_out_ex, q_rb_ok, q_rb_bad, q_rb_exc, q_tf_ok, q_v0, q_vs, q_w0, q_w0o, q_ws, q_tbq, q_asb, q_nt, q_rsel_t, q_rsel_f, q_ta, q_to, q_va, q_vo, q_vn, q_sett, q_seto, q_bin, q_c, q_callb, q_cons, q_nil, q_tup, q_lst, q_celle, q_ret, q_nx, q_thl, q_thd, q_isi, q_neg, q_neg_i, q_callk, q_drop, q_retn, q_brk, q_cnt, q_ife, q_add_i, q_sub_i, List.map_cons, List.map_nil, List.length_cons, List.length_nil, List.replicate, List.append_nil, List.nil_append, List.cons_append, Nat.reduceAdd, Nat.reduceSub, List.getElem?_cons_zero, List.getElem?_cons_succ, List.set_cons_zero, List.set_cons_succ, Bool.not_true, Bool.not_false, decide_true, decide_false, if_true, if_false, t_lt_t, t_lt_f, t_le_t, t_le_f, t_gt_t, t_gt_f, t_ge_t, t_ge_f, t_eq_t, t_eq_f, t_ne_t, t_ne_f, t_is_b, t_isn_b, t_is_i, t_is_n, t_isn_i, t_isn_n, t_abs_n, t_abs_p, t_min, t_max, t_ixl, t_ixt, t_ixs, t_ixL, q_opt, q_ixo, q_oc0, q_ocs, q_oa0, q_oas, t_appd, q_app, t_putd, q_six, q_flopt, q_frz, q_int_i, q_mul_s, q_mod_i, q_div_i, q_len_s, q_len_l, q_len_t, q_items_s, q_items_l, q_items_t, t_szl, Int.reduceToNat, Int.reduceNeg, permL, List.filterMap_cons, List.filterMap_nil, eq_self, if_true, if_false, ite_true, ite_false, Bool.true_eq_false, Bool.false_eq_true, ex])
  have hlen : (rgC (((at_ + g.length : Nat) : Int) - 1) (-1) g.length).length = g.length := by simp [rgC]
  rw [hlen, Nat.sub_self, List.drop_zero, gv] at hr
  subst hr
  refine def_of ?_
  rw [show mStart 5 [X, D.int at_] = [some (.val X), some (.val (.int at_)), none, none, none] from rfl]
  rw [seq_nx (r' := [some (.val X), some (.val (.int at_)), some (.val (.int ((at_ + g.length : Nat) : Int))), none, none]) (by simp only [q_df, q_st, q_sq, q_at_nx, q_at_rt, q_at_bk, q_at_ct, q_at_ex, q_mi, q_sel_t, q_sel_f, q_out_rt, q_out_nx, q_out_ex, q_rb_ok, q_rb_bad, q_rb_exc, q_tf_ok, q_v0, q_vs, q_w0, q_w0o, q_ws, q_tbq, q_asb, q_nt, q_rsel_t, q_rsel_f, q_ta, q_to, q_va, q_vo, q_vn, q_sett, q_seto, q_bin, q_c, q_callb, q_cons, q_nil, q_tup, q_lst, q_celle, q_ret, q_nx, q_thl, q_thd, q_isi, q_neg, q_neg_i, q_callk, q_drop, q_retn, q_brk, q_cnt, q_ife, q_add_i, q_sub_i, q_lt_i, q_le_i, q_gt_i, q_ge_i, q_eq_i, q_ne_i, List.map_cons, List.map_nil, List.length_cons, List.length_nil, List.replicate, List.append_nil, List.nil_append, List.cons_append, Nat.reduceAdd, Nat.reduceSub, List.getElem?_cons_zero, List.getElem?_cons_succ, List.set_cons_zero, List.set_cons_succ, Bool.not_true, Bool.not_false, decide_true, decide_false, if_true, if_false, e1])]
  rw [seq_nx (r' := [some (.val X), some (.val (.int at_)), some (.val (.int ((at_ + g.length : Nat) : Int))), none, none]) (by
    by_cases hg : g = []
    · have hz : g.length = 0 := by rw [hg]; rfl
      simp (disch := omega) only [q_df, q_st, q_sq, q_at_nx, q_at_rt, q_at_bk, q_at_ct, q_at_ex, q_mi, q_sel_t, q_sel_f, q_out_rt, q_out_nx, q_out_ex, q_rb_ok, q_rb_bad, q_rb_exc, q_tf_ok, q_v0, q_vs, q_w0, q_w0o, q_ws, q_tbq, q_asb, q_nt, q_rsel_t, q_rsel_f, q_ta, q_to, q_va, q_vo, q_vn, q_sett, q_seto, q_bin, q_c, q_callb, q_cons, q_nil, q_tup, q_lst, q_celle, q_ret, q_nx, q_thl, q_thd, q_isi, q_neg, q_neg_i, q_callk, q_drop, q_retn, q_brk, q_cnt, q_ife, q_add_i, q_sub_i, List.map_cons, List.map_nil, List.length_cons, List.length_nil, List.replicate, List.append_nil, List.nil_append, List.cons_append, Nat.reduceAdd, Nat.reduceSub, List.getElem?_cons_zero, List.getElem?_cons_succ, List.set_cons_zero, List.set_cons_succ, Bool.not_true, Bool.not_false, decide_true, decide_false, if_true, if_false, t_lt_t, t_lt_f, t_le_t, t_le_f, t_gt_t, t_gt_f, t_ge_t, t_ge_f, t_eq_t, t_eq_f, t_ne_t, t_ne_f, t_is_b, t_isn_b, t_is_i, t_is_n, t_isn_i, t_isn_n, t_abs_n, t_abs_p, t_min, t_max, t_ixl, t_ixt, t_ixs, t_ixL, q_opt, q_ixo, q_oc0, q_ocs, q_oa0, q_oas, t_appd, q_app, t_putd, q_six, q_flopt, q_frz, q_int_i, q_mul_s, q_mod_i, q_div_i, q_len_s, q_len_l, q_len_t, q_items_s, q_items_l, q_items_t, t_szl, Int.reduceToNat, Int.reduceNeg, permL, List.filterMap_cons, List.filterMap_nil, eq_self, if_true, if_false, ite_true, ite_false, Bool.true_eq_false, Bool.false_eq_true, e2]
    · have := gnz hg
      have : 0 < g.length := List.length_pos_iff.mpr hg
      simp (disch := omega) only [q_df, q_st, q_sq, q_at_nx, q_at_rt, q_at_bk, q_at_ct, q_at_ex, q_mi, q_sel_t, q_sel_f, q_out_rt, q_out_nx, q_out_ex, q_rb_ok, q_rb_bad, q_rb_exc, q_tf_ok, q_v0, q_vs, q_w0, q_w0o, q_ws, q_tbq, q_asb, q_nt, q_rsel_t, q_rsel_f, q_ta, q_to, q_va, q_vo, q_vn, q_sett, q_seto, q_bin, q_c, q_callb, q_cons, q_nil, q_tup, q_lst, q_celle, q_ret, q_nx, q_thl, q_thd, q_isi, q_neg, q_neg_i, q_callk, q_drop, q_retn, q_brk, q_cnt, q_ife, q_add_i, q_sub_i, List.map_cons, List.map_nil, List.length_cons, List.length_nil, List.replicate, List.append_nil, List.nil_append, List.cons_append, Nat.reduceAdd, Nat.reduceSub, List.getElem?_cons_zero, List.getElem?_cons_succ, List.set_cons_zero, List.set_cons_succ, Bool.not_true, Bool.not_false, decide_true, decide_false, if_true, if_false, t_lt_t, t_lt_f, t_le_t, t_le_f, t_gt_t, t_gt_f, t_ge_t, t_ge_f, t_eq_t, t_eq_f, t_ne_t, t_ne_f, t_is_b, t_isn_b, t_is_i, t_is_n, t_isn_i, t_isn_n, t_abs_n, t_abs_p, t_min, t_max, t_ixl, t_ixt, t_ixs, t_ixL, q_opt, q_ixo, q_oc0, q_ocs, q_oa0, q_oas, t_appd, q_app, t_putd, q_six, q_flopt, q_frz, q_int_i, q_mul_s, q_mod_i, q_div_i, q_len_s, q_len_l, q_len_t, q_items_s, q_items_l, q_items_t, t_szl, Int.reduceToNat, Int.reduceNeg, permL, List.filterMap_cons, List.filterMap_nil, eq_self, if_true, if_false, ite_true, ite_false, Bool.true_eq_false, Bool.false_eq_true, e2])]
  rw [seq_nx (r' := [some (.val X), some (.val (.int at_)), some (.val (.int ((at_ + g.length : Nat) : Int))), some (.val (.int l)), none]) (by simp only [q_df, q_st, q_sq, q_at_nx, q_at_rt, q_at_bk, q_at_ct, q_at_ex, q_mi, q_sel_t, q_sel_f, q_out_rt, q_out_nx, q_out_ex, q_rb_ok, q_rb_bad, q_rb_exc, q_tf_ok, q_v0, q_vs, q_w0, q_w0o, q_ws, q_tbq, q_asb, q_nt, q_rsel_t, q_rsel_f, q_ta, q_to, q_va, q_vo, q_vn, q_sett, q_seto, q_bin, q_c, q_callb, q_cons, q_nil, q_tup, q_lst, q_celle, q_ret, q_nx, q_thl, q_thd, q_isi, q_neg, q_neg_i, q_callk, q_drop, q_retn, q_brk, q_cnt, q_ife, q_add_i, q_sub_i, q_lt_i, q_le_i, q_gt_i, q_ge_i, q_eq_i, q_ne_i, List.map_cons, List.map_nil, List.length_cons, List.length_nil, List.replicate, List.append_nil, List.nil_append, List.cons_append, Nat.reduceAdd, Nat.reduceSub, List.getElem?_cons_zero, List.getElem?_cons_succ, List.set_cons_zero, List.set_cons_succ, Bool.not_true, Bool.not_false, decide_true, decide_false, if_true, if_false, e2])]
  rw [seq_nx (for_nx (ds := rgC (((at_ + g.length : Nat) : Int) - 1) (-1) g.length) (by
    show mRg3 _ _ = _
    unfold mRg3
    simp only [q_df, q_st, q_sq, q_at_nx, q_at_rt, q_at_bk, q_at_ct, q_at_ex, q_mi, q_sel_t, q_sel_f, q_out_rt, q_out_nx, q_out_ex, q_rb_ok, q_rb_bad, q_rb_exc, q_tf_ok, q_v0, q_vs, q_w0, q_w0o, q_ws, q_tbq, q_asb, q_nt, q_rsel_t, q_rsel_f, q_ta, q_to, q_va, q_vo, q_vn, q_sett, q_seto, q_bin, q_c, q_callb, q_cons, q_nil, q_tup, q_lst, q_celle, q_ret, q_nx, q_thl, q_thd, q_isi, q_neg, q_neg_i, q_callk, q_drop, q_retn, q_brk, q_cnt, q_ife, q_add_i, q_sub_i, q_lt_i, q_le_i, q_gt_i, q_ge_i, q_eq_i, q_ne_i, List.map_cons, List.map_nil, List.length_cons, List.length_nil, List.replicate, List.append_nil, List.nil_append, List.cons_append, Nat.reduceAdd, Nat.reduceSub, List.getElem?_cons_zero, List.getElem?_cons_succ, List.set_cons_zero, List.set_cons_succ, Bool.not_true, Bool.not_false, decide_true, decide_false, if_true, if_false]
    show (if okR _ ∧ okR _ ∧ (-1 : Int) = -1 then R.ok (rgC _ (-1) _) else R.bad) = _
    rw [if_pos ⟨by unfold okR; omega, by unfold okR; omega, rfl⟩]
    congr 2
    omega) e3)]
  simp only [q_df, q_st, q_sq, q_at_nx, q_at_rt, q_at_bk, q_at_ct, q_at_ex, q_mi, q_sel_t, q_sel_f, q_out_rt, q_out_nx, q_out_ex, q_rb_ok, q_rb_bad, q_rb_exc, q_tf_ok, q_v0, q_vs, q_w0, q_w0o, q_ws, q_tbq, q_asb, q_nt, q_rsel_t, q_rsel_f, q_ta, q_to, q_va, q_vo, q_vn, q_sett, q_seto, q_bin, q_c, q_callb, q_cons, q_nil, q_tup, q_lst, q_celle, q_ret, q_nx, q_thl, q_thd, q_isi, q_neg, q_neg_i, q_callk, q_drop, q_retn, q_brk, q_cnt, q_ife, q_add_i, q_sub_i, q_lt_i, q_le_i, q_gt_i, q_ge_i, q_eq_i, q_ne_i, List.map_cons, List.map_nil, List.length_cons, List.length_nil, List.replicate, List.append_nil, List.nil_append, List.cons_append, Nat.reduceAdd, Nat.reduceSub, List.getElem?_cons_zero, List.getElem?_cons_succ, List.set_cons_zero, List.set_cons_succ, Bool.not_true, Bool.not_false, decide_true, decide_false, if_true, if_false, show (2 : Nat) ≤ sizeLine from by decide]
  rw [show ((at_ + g.length : Nat) : Int) + 1 = ((at_ + (g.length + 1) : Nat) : Int) by omega]
theorem e_decoded {X : D} {xs : List Int} (hX : seqK X xs) (hs : xs.length ≤ 1000000) {n : Int} (n0 : 0 ≤ n) (n1 : n < 34359738368) {at_ : Nat} (h1 : ∀ i x, (G n)[i]? = some x → xs[at_ + i]? = some x) : m_law_decoded [X, .int at_] = .ok (.tup [.int n, .int ((at_ + (G n).length : Nat) : Int)]) := by
  have e := e_decode hX hs n0 n1 h1
  generalize ((at_ + (G n).length : Nat) : Int) = q at *
  refine def_of ?_
  rw [show mStart 3 [X, D.int at_] = [some (.val X), some (.val (.int at_)), none] from rfl]
  rw [seq_nx (r' := [some (.val X), some (.val (.int at_)), some (.val (.tup [.int n, .int q]))]) (by
    unfold mTry
    simp only [q_df, q_st, q_sq, q_at_nx, q_at_rt, q_at_bk, q_at_ct, q_at_ex, q_mi, q_sel_t, q_sel_f, q_out_rt, q_out_nx, q_out_ex, q_rb_ok, q_rb_bad, q_rb_exc, q_tf_ok, q_v0, q_vs, q_w0, q_w0o, q_ws, q_tbq, q_asb, q_nt, q_rsel_t, q_rsel_f, q_ta, q_to, q_va, q_vo, q_vn, q_sett, q_seto, q_bin, q_c, q_callb, q_cons, q_nil, q_tup, q_lst, q_celle, q_ret, q_nx, q_thl, q_thd, q_isi, q_neg, q_neg_i, q_callk, q_drop, q_retn, q_brk, q_cnt, q_ife, q_add_i, q_sub_i, q_lt_i, q_le_i, q_gt_i, q_ge_i, q_eq_i, q_ne_i, List.map_cons, List.map_nil, List.length_cons, List.length_nil, List.replicate, List.append_nil, List.nil_append, List.cons_append, Nat.reduceAdd, Nat.reduceSub, List.getElem?_cons_zero, List.getElem?_cons_succ, List.set_cons_zero, List.set_cons_succ, Bool.not_true, Bool.not_false, decide_true, decide_false, if_true, if_false, e])]
  have ei : dIsi "tuple" (.tup [.int n, .int q]) = .ok (.bl true) := rfl
  rw [seq_nx (r' := [some (.val X), some (.val (.int at_)), some (.val (.tup [.int n, .int q]))]) (by
    simp (disch := omega) only [q_df, q_st, q_sq, q_at_nx, q_at_rt, q_at_bk, q_at_ct, q_at_ex, q_mi, q_sel_t, q_sel_f, q_out_rt, q_out_nx, q_out_ex, q_rb_ok, q_rb_bad, q_rb_exc, q_tf_ok, q_v0, q_vs, q_w0, q_w0o, q_ws, q_tbq, q_asb, q_nt, q_rsel_t, q_rsel_f, q_ta, q_to, q_va, q_vo, q_vn, q_sett, q_seto, q_bin, q_c, q_callb, q_cons, q_nil, q_tup, q_lst, q_celle, q_ret, q_nx, q_thl, q_thd, q_isi, q_neg, q_neg_i, q_callk, q_drop, q_retn, q_brk, q_cnt, q_ife, q_add_i, q_sub_i, List.map_cons, List.map_nil, List.length_cons, List.length_nil, List.replicate, List.append_nil, List.nil_append, List.cons_append, Nat.reduceAdd, Nat.reduceSub, List.getElem?_cons_zero, List.getElem?_cons_succ, List.set_cons_zero, List.set_cons_succ, Bool.not_true, Bool.not_false, decide_true, decide_false, if_true, if_false, t_lt_t, t_lt_f, t_le_t, t_le_f, t_gt_t, t_gt_f, t_ge_t, t_ge_f, t_eq_t, t_eq_f, t_ne_t, t_ne_f, t_is_b, t_isn_b, t_is_i, t_is_n, t_isn_i, t_isn_n, t_abs_n, t_abs_p, t_min, t_max, t_ixl, t_ixt, t_ixs, t_ixL, q_opt, q_ixo, q_oc0, q_ocs, q_oa0, q_oas, t_appd, q_app, t_putd, q_six, q_flopt, q_frz, q_int_i, q_mul_s, q_mod_i, q_div_i, q_len_s, q_len_l, q_len_t, q_items_s, q_items_l, q_items_t, t_szl, Int.reduceToNat, Int.reduceNeg, permL, List.filterMap_cons, List.filterMap_nil, eq_self, if_true, if_false, ite_true, ite_false, Bool.true_eq_false, Bool.false_eq_true, ei, e_whole, List.getElem?_cons_zero, List.getElem?_cons_succ])]
  simp only [q_df, q_st, q_sq, q_at_nx, q_at_rt, q_at_bk, q_at_ct, q_at_ex, q_mi, q_sel_t, q_sel_f, q_out_rt, q_out_nx, q_out_ex, q_rb_ok, q_rb_bad, q_rb_exc, q_tf_ok, q_v0, q_vs, q_w0, q_w0o, q_ws, q_tbq, q_asb, q_nt, q_rsel_t, q_rsel_f, q_ta, q_to, q_va, q_vo, q_vn, q_sett, q_seto, q_bin, q_c, q_callb, q_cons, q_nil, q_tup, q_lst, q_celle, q_ret, q_nx, q_thl, q_thd, q_isi, q_neg, q_neg_i, q_callk, q_drop, q_retn, q_brk, q_cnt, q_ife, q_add_i, q_sub_i, q_lt_i, q_le_i, q_gt_i, q_ge_i, q_eq_i, q_ne_i, List.map_cons, List.map_nil, List.length_cons, List.length_nil, List.replicate, List.append_nil, List.nil_append, List.cons_append, Nat.reduceAdd, Nat.reduceSub, List.getElem?_cons_zero, List.getElem?_cons_succ, List.set_cons_zero, List.set_cons_succ, Bool.not_true, Bool.not_false, decide_true, decide_false, if_true, if_false]
/-! ### the drawn integer -/
theorem e_drawn {x0 x1 x2 : Int} (a0 : 0 ≤ x0) (b0 : x0 < 20) (a1 : 0 ≤ x1) (b1 : x1 < 5) (a2 : 0 ≤ x2) (b2 : x2 < 34359738368) : ∃ n, m_law_drawn_integer [.lst [.int x0, .int x1, .int x2]] = .ok (.int n) ∧ 0 ≤ n ∧ n < 34359738368 := by
  obtain ⟨v1, p1, l1⟩ := pick_ok (L := [128, 16384, 2097152, 268435456, 34359738368]) (i := x1) (fun z => 0 < z ∧ z ≤ 34359738368) a1 b1 (by decide)
  simp only [List.map_cons, List.map_nil] at p1
  by_cases h : x0 < 14
  · obtain ⟨v, p, l⟩ := pick_ok (L := [0, 1, 127, 128, 129, 255, 256, 16383, 16384, 2097151, 2097152, 268435455, 268435456, 34359738367]) (i := x0) (fun z => 0 ≤ z ∧ z < 34359738368) a0 (by simpa using h) (by decide)
    simp only [List.map_cons, List.map_nil] at p
    refine ⟨v, ?_, l.1, l.2⟩
    simp (disch := first | omega | (simp only [List.length_cons, List.length_nil, List.length_map, List.length_append]; omega)) only [m_law_drawn_integer, q_df, q_st, q_sq, q_at_nx, q_at_rt, q_at_bk, q_at_ct, q_at_ex, q_mi, q_sel_t, q_sel_f, q_out_rt, q_out_nx, q_out_ex, q_rb_ok, q_rb_bad, q_rb_exc, q_tf_ok, q_v0, q_vs, q_w0, q_w0o, q_ws, q_tbq, q_asb, q_nt, q_rsel_t, q_rsel_f, q_ta, q_to, q_va, q_vo, q_vn, q_sett, q_seto, q_bin, q_c, q_callb, q_cons, q_nil, q_tup, q_lst, q_celle, q_ret, q_nx, q_thl, q_thd, q_isi, q_neg, q_neg_i, q_callk, q_drop, q_retn, q_brk, q_cnt, q_ife, q_add_i, q_sub_i, List.map_cons, List.map_nil, List.length_cons, List.length_nil, List.replicate, List.append_nil, List.nil_append, List.cons_append, Nat.reduceAdd, Nat.reduceSub, List.getElem?_cons_zero, List.getElem?_cons_succ, List.set_cons_zero, List.set_cons_succ, Bool.not_true, Bool.not_false, decide_true, decide_false, if_true, if_false, t_lt_t, t_lt_f, t_le_t, t_le_f, t_gt_t, t_gt_f, t_ge_t, t_ge_f, t_eq_t, t_eq_f, t_ne_t, t_ne_f, t_is_b, t_isn_b, t_is_i, t_is_n, t_isn_i, t_isn_n, t_abs_n, t_abs_p, t_min, t_max, t_ixl, t_ixt, t_ixs, t_ixL, q_opt, q_ixo, q_oc0, q_ocs, q_oa0, q_oas, t_appd, q_app, t_putd, q_six, q_flopt, q_frz, q_int_i, q_mul_s, q_mod_i, q_div_i, q_len_s, q_len_l, q_len_t, q_items_s, q_items_l, q_items_t, t_szl, Int.reduceToNat, Int.reduceNeg, permL, List.filterMap_cons, List.filterMap_nil, eq_self, if_true, if_false, ite_true, ite_false, Bool.true_eq_false, Bool.false_eq_true, p]
  · refine ⟨(x2 * 2654435761 + 974711) % v1, ?_, Int.emod_nonneg _ (by omega), ?_⟩
    · simp (disch := first | omega | (simp only [List.length_cons, List.length_nil, List.length_map, List.length_append]; omega)) only [m_law_drawn_integer, q_df, q_st, q_sq, q_at_nx, q_at_rt, q_at_bk, q_at_ct, q_at_ex, q_mi, q_sel_t, q_sel_f, q_out_rt, q_out_nx, q_out_ex, q_rb_ok, q_rb_bad, q_rb_exc, q_tf_ok, q_v0, q_vs, q_w0, q_w0o, q_ws, q_tbq, q_asb, q_nt, q_rsel_t, q_rsel_f, q_ta, q_to, q_va, q_vo, q_vn, q_sett, q_seto, q_bin, q_c, q_callb, q_cons, q_nil, q_tup, q_lst, q_celle, q_ret, q_nx, q_thl, q_thd, q_isi, q_neg, q_neg_i, q_callk, q_drop, q_retn, q_brk, q_cnt, q_ife, q_add_i, q_sub_i, List.map_cons, List.map_nil, List.length_cons, List.length_nil, List.replicate, List.append_nil, List.nil_append, List.cons_append, Nat.reduceAdd, Nat.reduceSub, List.getElem?_cons_zero, List.getElem?_cons_succ, List.set_cons_zero, List.set_cons_succ, Bool.not_true, Bool.not_false, decide_true, decide_false, if_true, if_false, t_lt_t, t_lt_f, t_le_t, t_le_f, t_gt_t, t_gt_f, t_ge_t, t_ge_f, t_eq_t, t_eq_f, t_ne_t, t_ne_f, t_is_b, t_isn_b, t_is_i, t_is_n, t_isn_i, t_isn_n, t_abs_n, t_abs_p, t_min, t_max, t_ixl, t_ixt, t_ixs, t_ixL, q_opt, q_ixo, q_oc0, q_ocs, q_oa0, q_oas, t_appd, q_app, t_putd, q_six, q_flopt, q_frz, q_int_i, q_mul_s, q_mod_i, q_div_i, q_len_s, q_len_l, q_len_t, q_items_s, q_items_l, q_items_t, t_szl, Int.reduceToNat, Int.reduceNeg, permL, List.filterMap_cons, List.filterMap_nil, eq_self, if_true, if_false, ite_true, ite_false, Bool.true_eq_false, Bool.false_eq_true, p1]
    · have := Int.emod_lt_of_pos (x2 * 2654435761 + 974711) l1.1
      omega
theorem lc_none {vs : List Nat} {mi : MA} {tb : D → Sc → Option Sc} {mt : MT} {me : ME} {r : Sc} {ds : List D} (h0 : notOwn r vs = true) (h1 : mi r = .ok ds) (h2 : ∀ d ∈ ds, ∃ r1, tb d (wipeS r vs) = some r1 ∧ mt r1 = .ok false) : mLC vs mi tb mt me r = .ok (.l []) := by
  unfold mLC
  rw [h0, h1]
  show compL tb mt me (wipeS r vs) ds [] = _
  clear h1
  induction ds with
  | nil => rfl
  | cons d ds ih =>
    obtain ⟨r1, e1, e2⟩ := h2 d List.mem_cons_self
    simp only [compL, e1, e2, R.ne, q_rb_ok]
    exact ih fun d hd => h2 d (List.mem_cons_of_mem _ hd)
/-! ### the law -/
def Num (n : Int) : Prop := 0 ≤ n ∧ n < 34359738368
theorem G_len {n : Int} (h : Num n) : (G n).length ≤ 5 := by
  have := (gok (fit4 h.1 h.2)).len
  unfold G
  simp
  omega
theorem flat_len : ∀ {as : List Int}, (∀ z ∈ as, Num z) → (as.flatMap G).length ≤ 5 * as.length
  | [], _ => by simp
  | a :: as, h => by
    rw [List.flatMap_cons, List.length_append, List.length_cons]
    have := G_len (h a List.mem_cons_self)
    have := flat_len fun z hz => h z (List.mem_cons_of_mem _ hz)
    omega
theorem e_b2 (ns : List Int) (hb : ∀ z ∈ ns, intBits z ≤ 1048576) (as : List Int) (ha : ∀ z ∈ as, Num z) (hl : as.length ≤ 1000) (k : Nat) (hk : k < 1000) (x1 x5 x6 x7 : Option EV) :
    ∃ n y5 y6, Num n ∧ b_law_2 [some (.val (.slst (ns.map D.int))), x1, some (.own (.l (as.map D.int))), some (.val (.lst ((as.flatMap G).map D.int))), some (.val (.int (0 + (k : Int)))), x5, x6, none, none, none, none] = .nx [some (.val (.slst (ns.map D.int))), x1, some (.own (.l ((as ++ [n]).map D.int))), some (.val (.lst (((as ++ [n]).flatMap G).map D.int))), some (.val (.int (0 + (k : Int)))), y5, y6, none, none, none, none] := by
  obtain ⟨c, ec, hc⟩ := cell_ok ns hb (1 + (0 + (k : Int))) (by omega) (by omega)
  have ec' : m_law_cell [.slst (ns.map D.int), .int (1 + (0 + (k : Int)))] = .ok (.int c) := ec
  obtain ⟨row, ed, hd⟩ := digits_ok c [20, 5, 34359738368] (by
    intro s hs
    simp only [List.mem_cons, List.not_mem_nil, or_false] at hs
    omega) (by simp)
  have ed' : m_law_digits [.int c, .lst [.int 20, .int 5, .int 34359738368]] = .ok (.lst (row.map D.int)) := ed
  obtain ⟨y0, _, rfl, a0, b0, hd⟩ := hd.cons
  obtain ⟨y1, _, rfl, a1, b1, hd⟩ := hd.cons
  obtain ⟨y2, _, rfl, a2, b2, hd⟩ := hd.cons
  have := hd.nil
  subst this
  simp only [List.map_cons, List.map_nil] at ed'
  obtain ⟨n, en, n0, n1⟩ := e_drawn a0 b0 a1 b1 a2 b2
  have eg := e_groups (fit4 n0 n1)
  have ee := e_encode (fit4 n0 n1)
  have gl := G_len ⟨n0, n1⟩
  have fl := flat_len ha
  refine ⟨n, some (.val (.int n)), some (.val (.tup ((G n).map D.int))), ⟨n0, n1⟩, ?_⟩
  unfold b_law_2
  have s3 : (3 : Nat) ≤ sizeLine := by decide
  rw [seq_nx (r' := [some (.val (.slst (ns.map D.int))), x1, some (.own (.l (as.map D.int))), some (.val (.lst ((as.flatMap G).map D.int))), some (.val (.int (0 + (k : Int)))), some (.val (.int n)), x6, none, none, none, none]) (by simp only [q_df, q_st, q_sq, q_at_nx, q_at_rt, q_at_bk, q_at_ct, q_at_ex, q_mi, q_sel_t, q_sel_f, q_out_rt, q_out_nx, q_out_ex, q_rb_ok, q_rb_bad, q_rb_exc, q_tf_ok, q_v0, q_vs, q_w0, q_w0o, q_ws, q_tbq, q_asb, q_nt, q_rsel_t, q_rsel_f, q_ta, q_to, q_va, q_vo, q_vn, q_sett, q_seto, q_bin, q_c, q_callb, q_cons, q_nil, q_tup, q_lst, q_celle, q_ret, q_nx, q_thl, q_thd, q_isi, q_neg, q_neg_i, q_callk, q_drop, q_retn, q_brk, q_cnt, q_ife, q_add_i, q_sub_i, q_lt_i, q_le_i, q_gt_i, q_ge_i, q_eq_i, q_ne_i, List.map_cons, List.map_nil, List.length_cons, List.length_nil, List.replicate, List.append_nil, List.nil_append, List.cons_append, Nat.reduceAdd, Nat.reduceSub, List.getElem?_cons_zero, List.getElem?_cons_succ, List.set_cons_zero, List.set_cons_succ, Bool.not_true, Bool.not_false, decide_true, decide_false, if_true, if_false, ec', ed', en, s3])]
  rw [seq_nx (r' := [some (.val (.slst (ns.map D.int))), x1, some (.own (.l (as.map D.int))), some (.val (.lst ((as.flatMap G).map D.int))), some (.val (.int (0 + (k : Int)))), some (.val (.int n)), some (.val (.tup ((G n).map D.int))), none, none, none, none]) (by simp only [q_df, q_st, q_sq, q_at_nx, q_at_rt, q_at_bk, q_at_ct, q_at_ex, q_mi, q_sel_t, q_sel_f, q_out_rt, q_out_nx, q_out_ex, q_rb_ok, q_rb_bad, q_rb_exc, q_tf_ok, q_v0, q_vs, q_w0, q_w0o, q_ws, q_tbq, q_asb, q_nt, q_rsel_t, q_rsel_f, q_ta, q_to, q_va, q_vo, q_vn, q_sett, q_seto, q_bin, q_c, q_callb, q_cons, q_nil, q_tup, q_lst, q_celle, q_ret, q_nx, q_thl, q_thd, q_isi, q_neg, q_neg_i, q_callk, q_drop, q_retn, q_brk, q_cnt, q_ife, q_add_i, q_sub_i, q_lt_i, q_le_i, q_gt_i, q_ge_i, q_eq_i, q_ne_i, List.map_cons, List.map_nil, List.length_cons, List.length_nil, List.replicate, List.append_nil, List.nil_append, List.cons_append, Nat.reduceAdd, Nat.reduceSub, List.getElem?_cons_zero, List.getElem?_cons_succ, List.set_cons_zero, List.set_cons_succ, Bool.not_true, Bool.not_false, decide_true, decide_false, if_true, if_false, ee])]
  have ei : dIsi "tuple" (.tup ((G n).map D.int)) = .ok (.bl true) := rfl
  have q1 : dNe (.lst ((G n).map D.int)) (.lst ((G n).map D.int)) = .ok (.bl false) := ne_f (b := false) (by simp only [clean]; exact clean_ints) (by simp only [depD, dep_ints]; omega)
  have q2 : dNe (.tup ((G n).map D.int)) (.tup ((G n).map D.int)) = .ok (.bl false) := ne_f (b := false) (by simp only [clean]; exact clean_ints) (by simp only [depD, dep_ints]; omega)
  rw [seq_nx (r' := [some (.val (.slst (ns.map D.int))), x1, some (.own (.l (as.map D.int))), some (.val (.lst ((as.flatMap G).map D.int))), some (.val (.int (0 + (k : Int)))), some (.val (.int n)), some (.val (.tup ((G n).map D.int))), none, none, none, none]) (by simp only [q_df, q_st, q_sq, q_at_nx, q_at_rt, q_at_bk, q_at_ct, q_at_ex, q_mi, q_sel_t, q_sel_f, q_out_rt, q_out_nx, q_out_ex, q_rb_ok, q_rb_bad, q_rb_exc, q_tf_ok, q_v0, q_vs, q_w0, q_w0o, q_ws, q_tbq, q_asb, q_nt, q_rsel_t, q_rsel_f, q_ta, q_to, q_va, q_vo, q_vn, q_sett, q_seto, q_bin, q_c, q_callb, q_cons, q_nil, q_tup, q_lst, q_celle, q_ret, q_nx, q_thl, q_thd, q_isi, q_neg, q_neg_i, q_callk, q_drop, q_retn, q_brk, q_cnt, q_ife, q_add_i, q_sub_i, q_lt_i, q_le_i, q_gt_i, q_ge_i, q_eq_i, q_ne_i, List.map_cons, List.map_nil, List.length_cons, List.length_nil, List.replicate, List.append_nil, List.nil_append, List.cons_append, Nat.reduceAdd, Nat.reduceSub, List.getElem?_cons_zero, List.getElem?_cons_succ, List.set_cons_zero, List.set_cons_succ, Bool.not_true, Bool.not_false, decide_true, decide_false, if_true, if_false, ei, q_lstof, q_lstof_t, eg, q1])]
  have lc : mLC [7] (mItems (mVar 6)) (bName 7) (mTNot (mTB (mCallB m_law_whole (mCons (mVar 7) mNil)))) e_law_1 [some (.val (.slst (ns.map D.int))), x1, some (.own (.l (as.map D.int))), some (.val (.lst ((as.flatMap G).map D.int))), some (.val (.int (0 + (k : Int)))), some (.val (.int n)), some (.val (.tup ((G n).map D.int))), none, none, none, none] = .ok (.l []) := by
    refine lc_none (ds := (G n).map D.int) rfl (by simp only [q_df, q_st, q_sq, q_at_nx, q_at_rt, q_at_bk, q_at_ct, q_at_ex, q_mi, q_sel_t, q_sel_f, q_out_rt, q_out_nx, q_out_ex, q_rb_ok, q_rb_bad, q_rb_exc, q_tf_ok, q_v0, q_vs, q_w0, q_w0o, q_ws, q_tbq, q_asb, q_nt, q_rsel_t, q_rsel_f, q_ta, q_to, q_va, q_vo, q_vn, q_sett, q_seto, q_bin, q_c, q_callb, q_cons, q_nil, q_tup, q_lst, q_celle, q_ret, q_nx, q_thl, q_thd, q_isi, q_neg, q_neg_i, q_callk, q_drop, q_retn, q_brk, q_cnt, q_ife, q_add_i, q_sub_i, q_lt_i, q_le_i, q_gt_i, q_ge_i, q_eq_i, q_ne_i, List.map_cons, List.map_nil, List.length_cons, List.length_nil, List.replicate, List.append_nil, List.nil_append, List.cons_append, Nat.reduceAdd, Nat.reduceSub, List.getElem?_cons_zero, List.getElem?_cons_succ, List.set_cons_zero, List.set_cons_succ, Bool.not_true, Bool.not_false, decide_true, decide_false, if_true, if_false, q_it, q_items_t]) fun d hd => ?_
    obtain ⟨z, _, rfl⟩ := List.mem_map.mp hd
    refine ⟨_, rfl, ?_⟩
    show mTNot (mTB (mCallB m_law_whole (mCons (mVar 7) mNil))) [some (.val (.slst (ns.map D.int))), x1, some (.own (.l (as.map D.int))), some (.val (.lst ((as.flatMap G).map D.int))), some (.val (.int (0 + (k : Int)))), some (.val (.int n)), some (.val (.tup ((G n).map D.int))), some (.val (.int z)), none, none, none] = _
    simp only [q_df, q_st, q_sq, q_at_nx, q_at_rt, q_at_bk, q_at_ct, q_at_ex, q_mi, q_sel_t, q_sel_f, q_out_rt, q_out_nx, q_out_ex, q_rb_ok, q_rb_bad, q_rb_exc, q_tf_ok, q_v0, q_vs, q_w0, q_w0o, q_ws, q_tbq, q_asb, q_nt, q_rsel_t, q_rsel_f, q_ta, q_to, q_va, q_vo, q_vn, q_sett, q_seto, q_bin, q_c, q_callb, q_cons, q_nil, q_tup, q_lst, q_celle, q_ret, q_nx, q_thl, q_thd, q_isi, q_neg, q_neg_i, q_callk, q_drop, q_retn, q_brk, q_cnt, q_ife, q_add_i, q_sub_i, q_lt_i, q_le_i, q_gt_i, q_ge_i, q_eq_i, q_ne_i, List.map_cons, List.map_nil, List.length_cons, List.length_nil, List.replicate, List.append_nil, List.nil_append, List.cons_append, Nat.reduceAdd, Nat.reduceSub, List.getElem?_cons_zero, List.getElem?_cons_succ, List.set_cons_zero, List.set_cons_succ, Bool.not_true, Bool.not_false, decide_true, decide_false, if_true, if_false, e_whole]
  rw [seq_nx (r' := [some (.val (.slst (ns.map D.int))), x1, some (.own (.l (as.map D.int))), some (.val (.lst ((as.flatMap G).map D.int))), some (.val (.int (0 + (k : Int)))), some (.val (.int n)), some (.val (.tup ((G n).map D.int))), none, none, none, none]) (by
    rw [q_mi, q_to]
    have lcE : mTB (mBin dGt (mCallB dLen (mCons (mCellE (mLC [7] (mItems (mVar 6)) (bName 7) (mTNot (mTB (mCallB m_law_whole (mCons (mVar 7) mNil)))) e_law_1)) mNil)) (mC (.int 0))) [some (.val (.slst (ns.map D.int))), x1, some (.own (.l (as.map D.int))), some (.val (.lst ((as.flatMap G).map D.int))), some (.val (.int (0 + (k : Int)))), some (.val (.int n)), some (.val (.tup ((G n).map D.int))), none, none, none, none] = .ok false := by
      rw [q_tbq, q_bin, q_callb, q_cons, q_celle, lc]
      rfl
    rw [lcE]
    simp only [q_df, q_st, q_sq, q_at_nx, q_at_rt, q_at_bk, q_at_ct, q_at_ex, q_mi, q_sel_t, q_sel_f, q_out_rt, q_out_nx, q_out_ex, q_rb_ok, q_rb_bad, q_rb_exc, q_tf_ok, q_v0, q_vs, q_w0, q_w0o, q_ws, q_tbq, q_asb, q_nt, q_rsel_t, q_rsel_f, q_ta, q_to, q_va, q_vo, q_vn, q_sett, q_seto, q_bin, q_c, q_callb, q_cons, q_nil, q_tup, q_lst, q_celle, q_ret, q_nx, q_thl, q_thd, q_isi, q_neg, q_neg_i, q_callk, q_drop, q_retn, q_brk, q_cnt, q_ife, q_add_i, q_sub_i, q_lt_i, q_le_i, q_gt_i, q_ge_i, q_eq_i, q_ne_i, List.map_cons, List.map_nil, List.length_cons, List.length_nil, List.replicate, List.append_nil, List.nil_append, List.cons_append, Nat.reduceAdd, Nat.reduceSub, List.getElem?_cons_zero, List.getElem?_cons_succ, List.set_cons_zero, List.set_cons_succ, Bool.not_true, Bool.not_false, decide_true, decide_false, if_true, if_false, ee, q2])]
  rw [seq_nx (r' := [some (.val (.slst (ns.map D.int))), x1, some (.own (.l ((as ++ [n]).map D.int))), some (.val (.lst ((as.flatMap G).map D.int))), some (.val (.int (0 + (k : Int)))), some (.val (.int n)), some (.val (.tup ((G n).map D.int))), none, none, none, none]) (by
    rw [t_app (xs := as.map D.int) rfl (by rw [List.length_map]; omega)]
    simp only [q_df, q_st, q_sq, q_at_nx, q_at_rt, q_at_bk, q_at_ct, q_at_ex, q_mi, q_sel_t, q_sel_f, q_out_rt, q_out_nx, q_out_ex, q_rb_ok, q_rb_bad, q_rb_exc, q_tf_ok, q_v0, q_vs, q_w0, q_w0o, q_ws, q_tbq, q_asb, q_nt, q_rsel_t, q_rsel_f, q_ta, q_to, q_va, q_vo, q_vn, q_sett, q_seto, q_bin, q_c, q_callb, q_cons, q_nil, q_tup, q_lst, q_celle, q_ret, q_nx, q_thl, q_thd, q_isi, q_neg, q_neg_i, q_callk, q_drop, q_retn, q_brk, q_cnt, q_ife, q_add_i, q_sub_i, q_lt_i, q_le_i, q_gt_i, q_ge_i, q_eq_i, q_ne_i, List.map_cons, List.map_nil, List.length_cons, List.length_nil, List.replicate, List.append_nil, List.nil_append, List.cons_append, Nat.reduceAdd, Nat.reduceSub, List.getElem?_cons_zero, List.getElem?_cons_succ, List.set_cons_zero, List.set_cons_succ, Bool.not_true, Bool.not_false, decide_true, decide_false, if_true, if_false, List.map_append])]
  simp only [q_df, q_st, q_sq, q_at_nx, q_at_rt, q_at_bk, q_at_ct, q_at_ex, q_mi, q_sel_t, q_sel_f, q_out_rt, q_out_nx, q_out_ex, q_rb_ok, q_rb_bad, q_rb_exc, q_tf_ok, q_v0, q_vs, q_w0, q_w0o, q_ws, q_tbq, q_asb, q_nt, q_rsel_t, q_rsel_f, q_ta, q_to, q_va, q_vo, q_vn, q_sett, q_seto, q_bin, q_c, q_callb, q_cons, q_nil, q_tup, q_lst, q_celle, q_ret, q_nx, q_thl, q_thd, q_isi, q_neg, q_neg_i, q_callk, q_drop, q_retn, q_brk, q_cnt, q_ife, q_add_i, q_sub_i, q_lt_i, q_le_i, q_gt_i, q_ge_i, q_eq_i, q_ne_i, List.map_cons, List.map_nil, List.length_cons, List.length_nil, List.replicate, List.append_nil, List.nil_append, List.cons_append, Nat.reduceAdd, Nat.reduceSub, List.getElem?_cons_zero, List.getElem?_cons_succ, List.set_cons_zero, List.set_cons_succ, Bool.not_true, Bool.not_false, decide_true, decide_false, if_true, if_false, eg]
  rw [t_addl (by rw [List.length_map, List.length_map]; omega)]
  simp only [q_tf_ok, List.flatMap_append, List.flatMap_cons, List.flatMap_nil, List.append_nil, List.map_append, q_df, q_st, q_sq, q_at_nx, q_at_rt, q_at_bk, q_at_ct, q_at_ex, q_mi, q_sel_t, q_sel_f, q_out_rt, q_out_nx, q_out_ex, q_rb_ok, q_rb_bad, q_rb_exc, q_tf_ok, q_v0, q_vs, q_w0, q_w0o, q_ws, q_tbq, q_asb, q_nt, q_rsel_t, q_rsel_f, q_ta, q_to, q_va, q_vo, q_vn, q_sett, q_seto, q_bin, q_c, q_callb, q_cons, q_nil, q_tup, q_lst, q_celle, q_ret, q_nx, q_thl, q_thd, q_isi, q_neg, q_neg_i, q_callk, q_drop, q_retn, q_brk, q_cnt, q_ife, q_add_i, q_sub_i, q_lt_i, q_le_i, q_gt_i, q_ge_i, q_eq_i, q_ne_i, List.map_cons, List.map_nil, List.length_cons, List.length_nil, List.replicate, List.append_nil, List.nil_append, List.cons_append, Nat.reduceAdd, Nat.reduceSub, List.getElem?_cons_zero, List.getElem?_cons_succ, List.set_cons_zero, List.set_cons_succ, Bool.not_true, Bool.not_false, decide_true, decide_false, if_true, if_false]
/-- what stands behind the first j numbers -/
theorem flat_at {as : List Int} {j : Nat} {n : Int} (h : as[j]? = some n) {pre post : List Int} : ∀ i x, (G n)[i]? = some x → (pre ++ as.flatMap G ++ post)[pre.length + ((as.take j).flatMap G).length + i]? = some x := by
  intro i x hx
  have hj := (List.getElem?_eq_some_iff.mp h).1
  have e : as = as.take j ++ n :: as.drop (j + 1) := by
    have h2 : as[j] = n := by
      have := List.getElem?_eq_getElem hj
      rw [this] at h
      exact Option.some.inj h
    rw [← h2, ← List.drop_eq_getElem_cons hj, List.take_append_drop]
  have hi := (List.getElem?_eq_some_iff.mp hx).1
  rw [show pre ++ as.flatMap G ++ post = (pre ++ (as.take j).flatMap G) ++ (G n ++ ((as.drop (j + 1)).flatMap G ++ post)) by
    conv => lhs; rw [e]
    simp only [List.flatMap_append, List.flatMap_cons, List.append_assoc]]
  rw [List.getElem?_append_right (by rw [List.length_append]; omega), List.length_append, show pre.length + ((as.take j).flatMap G).length + i - (pre.length + ((as.take j).flatMap G).length) = i by omega, List.getElem?_append_left hi, hx]
theorem cut_pre {α : Type} {xs : List α} {a b : Nat} (h : a + b ≤ xs.length) : ∃ ys, cutD xs (some (a : Int)) (some ((a + b : Nat) : Int)) = ys ∧ ys.length = b := by
  refine ⟨_, rfl, ?_⟩
  unfold cutD
  rw [HT.sIx_nat, HT.sIx_nat, List.length_take, List.length_drop]
  omega
theorem law_true (ns : List Int) (hl : ns.length ≤ 63) (hb : ∀ z ∈ ns, intBits z ≤ 1048576) : m_law [.slst (ns.map D.int)] = .ok (.bl true) := by
  obtain ⟨many, em, m0, m1⟩ : ∃ many : Nat, mSet 1 (mCallB dMin (mCons (mC (.int 62)) (mCons (mCallB dMax (mCons (mC (.int 3)) (mCons (mBin dSub (mCallB dLen (mCons (mVar 0) mNil)) (mC (.int 1))) mNil))) mNil))) [some (.val (.slst (ns.map D.int))), none, none, none, none, none, none, none, none, none, none] = .nx [some (.val (.slst (ns.map D.int))), some (.val (.int (many : Int))), none, none, none, none, none, none, none, none, none] ∧ 3 ≤ many ∧ many ≤ 62 := by
    refine ⟨min 62 (max 3 (ns.length - 1)), ?_, by omega, by omega⟩
    simp only [q_df, q_st, q_sq, q_at_nx, q_at_rt, q_at_bk, q_at_ct, q_at_ex, q_mi, q_sel_t, q_sel_f, q_out_rt, q_out_nx, q_out_ex, q_rb_ok, q_rb_bad, q_rb_exc, q_tf_ok, q_v0, q_vs, q_w0, q_w0o, q_ws, q_tbq, q_asb, q_nt, q_rsel_t, q_rsel_f, q_ta, q_to, q_va, q_vo, q_vn, q_sett, q_seto, q_bin, q_c, q_callb, q_cons, q_nil, q_tup, q_lst, q_celle, q_ret, q_nx, q_thl, q_thd, q_isi, q_neg, q_neg_i, q_callk, q_drop, q_retn, q_brk, q_cnt, q_ife, q_add_i, q_sub_i, q_lt_i, q_le_i, q_gt_i, q_ge_i, q_eq_i, q_ne_i, List.map_cons, List.map_nil, List.length_cons, List.length_nil, List.replicate, List.append_nil, List.nil_append, List.cons_append, Nat.reduceAdd, Nat.reduceSub, List.getElem?_cons_zero, List.getElem?_cons_succ, List.set_cons_zero, List.set_cons_succ, Bool.not_true, Bool.not_false, decide_true, decide_false, if_true, if_false, q_len_s, t_max, t_min, List.length_map]
    congr 6
    split <;> split <;> omega
  obtain ⟨r2, e2, as, x4, x5, x6, hr, han, hal⟩ := for_inv (i := 4) (body := b_law_2) (fun j r => ∃ (as : List Int) (x4 x5 x6 : Option EV), r = [some (.val (.slst (ns.map D.int))), some (.val (.int (many : Int))), some (.own (.l (as.map D.int))), some (.val (.lst ((as.flatMap G).map D.int))), x4, x5, x6, none, none, none, none] ∧ (∀ z ∈ as, Num z) ∧ as.length = j) (ds := rgD 0 ((many : Int)).toNat)
    (r := [some (.val (.slst (ns.map D.int))), some (.val (.int (many : Int))), some (.own (.l [])), some (.val (.lst [])), none, none, none, none, none, none, none]) ⟨[], none, none, none, rfl, by simp, rfl⟩ (fun j d r hd ⟨as, x4, x5, x6, hr, han, hal⟩ => by
      subst hr
      obtain ⟨hj, rfl⟩ := rgD_get hd
      obtain ⟨n, y5, y6, hn, e⟩ := e_b2 ns hb as han (by omega) j (by omega) (some (.val (.int (many : Int)))) x5 x6 none
      refine ⟨_, e, as ++ [n], _, y5, y6, rfl, fun z hz => ?_, by simp [hal]⟩
      rcases List.mem_append.mp hz with hz | hz
      · exact han z hz
      · cases List.mem_singleton.mp hz
        exact hn)
  subst hr
  rw [rgD_len, show ((many : Int)).toNat = many by omega] at hal
  obtain ⟨c, ec, hc⟩ := cell_ok ns hb 0 (by omega) (by omega)
  have ec' : m_law_cell [.slst (ns.map D.int), .int 0] = .ok (.int c) := ec
  obtain ⟨row, ed, hd⟩ := digits_ok c (([9, 9, 2] : List Int) ++ List.replicate 16 256) (by
    intro s hs
    rcases List.mem_append.mp hs with hs | hs
    · simp only [List.mem_cons, List.not_mem_nil, or_false] at hs
      omega
    · rw [List.eq_of_mem_replicate hs]
      omega) (by simp)
  have hrl := hd.len
  have ed' : m_law_digits [.int c, .lst ((([9, 9, 2] : List Int) ++ List.replicate 16 256).map D.int)] = .ok (.lst (row.map D.int)) := ed
  obtain ⟨y0, g0, a0, b0⟩ := hd.get (i := 0) rfl
  obtain ⟨y1, g1, a1, b1⟩ := hd.get (i := 1) rfl
  obtain ⟨y2, g2, a2, b2⟩ := hd.get (i := 2) rfl
  have hrl : row.length = 19 := by rw [hrl]; simp
  obtain ⟨pre, cp, pl⟩ := cut_pre (xs := row) (a := 3) (b := y0.toNat) (by omega)
  obtain ⟨post, cq, ql⟩ := cut_pre (xs := row) (a := 11) (b := y1.toNat) (by omega)
  rw [show ((3 + y0.toNat : Nat) : Int) = 3 + y0 by omega, show ((3 : Nat) : Int) = 3 from rfl] at cp
  rw [show ((11 + y1.toNat : Nat) : Int) = 11 + y1 by omega, show ((11 : Nat) : Int) = 11 from rfl] at cq
  have ix0 : dIx (.lst (row.map D.int)) (.int 0) = .ok (.int y0) := q_ix rfl (by omega) (by rw [List.getElem?_map, show (0 : Int).toNat = 0 from rfl, g0]; rfl)
  have ix1 : dIx (.lst (row.map D.int)) (.int 1) = .ok (.int y1) := q_ix rfl (by omega) (by rw [List.getElem?_map, show (1 : Int).toNat = 1 from rfl, g1]; rfl)
  have ix2 : dIx (.lst (row.map D.int)) (.int 2) = .ok (.int y2) := q_ix rfl (by omega) (by rw [List.getElem?_map, show (2 : Int).toNat = 2 from rfl, g2]; rfl)
  have fl := flat_len han
  obtain ⟨full, hfull⟩ : ∃ full, full = pre ++ as.flatMap G ++ post := ⟨_, rfl⟩
  have flen : full.length ≤ 1000 := by
    rw [hfull, List.length_append, List.length_append]
    omega
  obtain ⟨X, eX, hX⟩ : ∃ X, (∀ x6, mIf (mTB (mBin dEq (mBin dIx (mVar 8) (mC (.int 2))) (mC (.int 1)))) (mSet 9 (mCallB dTupOf (mCons (mVar 3) mNil))) mNx [some (.val (.slst (ns.map D.int))), some (.val (.int (many : Int))), some (.own (.l (as.map D.int))), some (.val (.lst (full.map D.int))), x4, x5, x6, none, some (.val (.lst (row.map D.int))), some (.val (.lst (full.map D.int))), none] = .nx [some (.val (.slst (ns.map D.int))), some (.val (.int (many : Int))), some (.own (.l (as.map D.int))), some (.val (.lst (full.map D.int))), x4, x5, x6, none, some (.val (.lst (row.map D.int))), some (.val X), none]) ∧ seqK X full := by
    by_cases h : y2 = 1
    · refine ⟨.tup (full.map D.int), fun x6 => ?_, .inr rfl⟩
      subst h
      simp only [q_df, q_st, q_sq, q_at_nx, q_at_rt, q_at_bk, q_at_ct, q_at_ex, q_mi, q_sel_t, q_sel_f, q_out_rt, q_out_nx, q_out_ex, q_rb_ok, q_rb_bad, q_rb_exc, q_tf_ok, q_v0, q_vs, q_w0, q_w0o, q_ws, q_tbq, q_asb, q_nt, q_rsel_t, q_rsel_f, q_ta, q_to, q_va, q_vo, q_vn, q_sett, q_seto, q_bin, q_c, q_callb, q_cons, q_nil, q_tup, q_lst, q_celle, q_ret, q_nx, q_thl, q_thd, q_isi, q_neg, q_neg_i, q_callk, q_drop, q_retn, q_brk, q_cnt, q_ife, q_add_i, q_sub_i, q_lt_i, q_le_i, q_gt_i, q_ge_i, q_eq_i, q_ne_i, List.map_cons, List.map_nil, List.length_cons, List.length_nil, List.replicate, List.append_nil, List.nil_append, List.cons_append, Nat.reduceAdd, Nat.reduceSub, List.getElem?_cons_zero, List.getElem?_cons_succ, List.set_cons_zero, List.set_cons_succ, Bool.not_true, Bool.not_false, decide_true, decide_false, if_true, if_false, ix2, q_tupof_l]
    · refine ⟨.lst (full.map D.int), fun x6 => ?_, .inl rfl⟩
      simp only [q_df, q_st, q_sq, q_at_nx, q_at_rt, q_at_bk, q_at_ct, q_at_ex, q_mi, q_sel_t, q_sel_f, q_out_rt, q_out_nx, q_out_ex, q_rb_ok, q_rb_bad, q_rb_exc, q_tf_ok, q_v0, q_vs, q_w0, q_w0o, q_ws, q_tbq, q_asb, q_nt, q_rsel_t, q_rsel_f, q_ta, q_to, q_va, q_vo, q_vn, q_sett, q_seto, q_bin, q_c, q_callb, q_cons, q_nil, q_tup, q_lst, q_celle, q_ret, q_nx, q_thl, q_thd, q_isi, q_neg, q_neg_i, q_callk, q_drop, q_retn, q_brk, q_cnt, q_ife, q_add_i, q_sub_i, q_lt_i, q_le_i, q_gt_i, q_ge_i, q_eq_i, q_ne_i, List.map_cons, List.map_nil, List.length_cons, List.length_nil, List.replicate, List.append_nil, List.nil_append, List.cons_append, Nat.reduceAdd, Nat.reduceSub, List.getElem?_cons_zero, List.getElem?_cons_succ, List.set_cons_zero, List.set_cons_succ, Bool.not_true, Bool.not_false, decide_true, decide_false, if_true, if_false, ix2, decide_eq_false h]
  have dec : ∀ (j : Nat) (n : Int), as[j]? = some n → m_law_decoded [X, .int ((y0.toNat + ((as.take j).flatMap G).length : Nat) : Int)] = .ok (.tup [.int n, .int ((y0.toNat + ((as.take j).flatMap G).length + (G n).length : Nat) : Int)]) := fun j n hj => by
    obtain ⟨n0, n1⟩ := han n (List.mem_of_getElem? hj)
    refine e_decoded hX (by omega) n0 n1 fun i x hx => ?_
    rw [hfull, ← pl]
    exact flat_at hj i x hx
  have pairq : ∀ (n q : Int), dNe (.tup [.int n, .int q]) (.tup [.int n, .int q]) = .ok (.bl false) := fun n q => ne_f (b := false) (by simp [clean, cleanL]) (by simp [depD, depL])
  have paire : ∀ (n q : Int), dEq (.tup [.int n, .int q]) (.tup [.int n, .int q]) = .ok (.bl true) := fun n q => eq_t (b := false) (by simp [clean, cleanL]) (by simp [depD, depL])
  have s2 : (2 : Nat) ≤ sizeLine := by decide
  have s3 : (3 : Nat) ≤ sizeLine := by decide
  have s1 : (1 : Nat) ≤ sizeLine := by decide
  obtain ⟨r3, e3, x5', hr3⟩ := for_inv (i := 5) (body := b_law_3) (fun j r => ∃ x5, r = [some (.val (.slst (ns.map D.int))), some (.val (.int (many : Int))), some (.val (.lst (as.map D.int))), some (.val (.lst (full.map D.int))), x4, x5, x6, none, some (.val (.lst (row.map D.int))), some (.val X), some (.val (.int ((y0.toNat + ((as.take j).flatMap G).length : Nat) : Int)))]) (ds := as.map D.int)
    (r := [some (.val (.slst (ns.map D.int))), some (.val (.int (many : Int))), some (.val (.lst (as.map D.int))), some (.val (.lst (full.map D.int))), x4, x5, x6, none, some (.val (.lst (row.map D.int))), some (.val X), some (.val (.int y0))]) ⟨x5, by
      rw [List.take_zero, List.flatMap_nil, List.length_nil, show ((y0.toNat + 0 : Nat) : Int) = y0 by omega]⟩ (fun j d r hd ⟨x5, hr⟩ => by
      subst hr
      rw [List.getElem?_map] at hd
      obtain ⟨n, hn, rfl⟩ := Option.map_eq_some_iff.mp hd
      obtain ⟨n0, n1⟩ := han n (List.mem_of_getElem? hn)
      have e := dec j n hn
      have eg := e_groups (fit4 n0 n1)
      refine ⟨_, ?_, some (.val (.int n)), rfl⟩
      rw [List.take_succ, hn]
      simp only [Option.toList_some, List.flatMap_append, List.flatMap_cons, List.flatMap_nil, List.append_nil, List.length_append]
      rw [← Nat.add_assoc]
      generalize y0.toNat + ((as.take j).flatMap G).length = p at *
      simp only [List.set_cons_succ, List.set_cons_zero]
      unfold b_law_3
      have eq2 : ((p : Nat) : Int) + ((G n).length : Int) = ((p + (G n).length : Nat) : Int) := by omega
      simp only [q_df, q_st, q_sq, q_at_nx, q_at_rt, q_at_bk, q_at_ct, q_at_ex, q_mi, q_sel_t, q_sel_f, q_out_rt, q_out_nx, q_out_ex, q_rb_ok, q_rb_bad, q_rb_exc, q_tf_ok, q_v0, q_vs, q_w0, q_w0o, q_ws, q_tbq, q_asb, q_nt, q_rsel_t, q_rsel_f, q_ta, q_to, q_va, q_vo, q_vn, q_sett, q_seto, q_bin, q_c, q_callb, q_cons, q_nil, q_tup, q_lst, q_celle, q_ret, q_nx, q_thl, q_thd, q_isi, q_neg, q_neg_i, q_callk, q_drop, q_retn, q_brk, q_cnt, q_ife, q_add_i, q_sub_i, q_lt_i, q_le_i, q_gt_i, q_ge_i, q_eq_i, q_ne_i, List.map_cons, List.map_nil, List.length_cons, List.length_nil, List.replicate, List.append_nil, List.nil_append, List.cons_append, Nat.reduceAdd, Nat.reduceSub, List.getElem?_cons_zero, List.getElem?_cons_succ, List.set_cons_zero, List.set_cons_succ, Bool.not_true, Bool.not_false, decide_true, decide_false, if_true, if_false, e, eg, q_len_l, List.length_map, eq2, pairq, s2])
  subst hr3
  obtain ⟨n0, hn0⟩ : ∃ n0, as[0]? = some n0 := by
    match as, hal with
    | a :: _, _ => exact ⟨a, rfl⟩
    | [], h => simp at h; omega
  have dec0 := dec 0 n0 hn0
  rw [List.take_zero, List.flatMap_nil, List.length_nil, show ((y0.toNat + 0 : Nat) : Int) = y0 by omega, show ((y0.toNat + 0 + (G n0).length : Nat) : Int) = y0 + ((G n0).length : Int) by omega] at dec0
  obtain ⟨z0, z1⟩ := han n0 (List.mem_of_getElem? hn0)
  have eg0 := e_groups (fit4 z0 z1)
  have ixn : dIx (.lst (as.map D.int)) (.int 0) = .ok (.int n0) := q_ix rfl (by omega) (by rw [List.getElem?_map, show (0 : Int).toNat = 0 from rfl, hn0]; rfl)
  refine def_of ?_
  rw [show mStart 11 [D.slst (ns.map D.int)] = [some (EV.val (D.slst (ns.map D.int))), none, none, none, none, none, none, none, none, none, none] from rfl]
  rw [seq_nx em]
  rw [seq_nx (r' := [some (.val (.slst (ns.map D.int))), some (.val (.int (many : Int))), some (.own (.l [])), none, none, none, none, none, none, none, none]) (by rfl)]
  rw [seq_nx (r' := [some (.val (.slst (ns.map D.int))), some (.val (.int (many : Int))), some (.own (.l [])), some (.val (.lst [])), none, none, none, none, none, none, none]) (by rfl)]
  rw [seq_nx (for_nx (by simp only [q_df, q_st, q_sq, q_at_nx, q_at_rt, q_at_bk, q_at_ct, q_at_ex, q_mi, q_sel_t, q_sel_f, q_out_rt, q_out_nx, q_out_ex, q_rb_ok, q_rb_bad, q_rb_exc, q_tf_ok, q_v0, q_vs, q_w0, q_w0o, q_ws, q_tbq, q_asb, q_nt, q_rsel_t, q_rsel_f, q_ta, q_to, q_va, q_vo, q_vn, q_sett, q_seto, q_bin, q_c, q_callb, q_cons, q_nil, q_tup, q_lst, q_celle, q_ret, q_nx, q_thl, q_thd, q_isi, q_neg, q_neg_i, q_callk, q_drop, q_retn, q_brk, q_cnt, q_ife, q_add_i, q_sub_i, q_lt_i, q_le_i, q_gt_i, q_ge_i, q_eq_i, q_ne_i, List.map_cons, List.map_nil, List.length_cons, List.length_nil, List.replicate, List.append_nil, List.nil_append, List.cons_append, Nat.reduceAdd, Nat.reduceSub, List.getElem?_cons_zero, List.getElem?_cons_succ, List.set_cons_zero, List.set_cons_succ, Bool.not_true, Bool.not_false, decide_true, decide_false, if_true, if_false, q_rg]; exact q_rg1 (by omega) (by omega)) e2)]
  have em3 : mCallB m_law_digits (mCons (mCallB m_law_cell (mCons (mVar 0) (mCons (mC (.int 0)) mNil))) (mCons (mBin dAdd (mCellE (mLst (mCons (mC (.int 9)) (mCons (mC (.int 9)) (mCons (mC (.int 2)) mNil))))) (mBin dMul (mCellE (mLst (mCons (mC (.int 256)) mNil))) (mC (.int 16)))) mNil)) [some (.val (.slst (ns.map D.int))), some (.val (.int (many : Int))), some (.own (.l (as.map D.int))), some (.val (.lst ((as.flatMap G).map D.int))), x4, x5, x6, none, none, none, none] = .ok (.lst (row.map D.int)) := by
    have em2 : mBin dAdd (mCellE (mLst (mCons (mC (.int 9)) (mCons (mC (.int 9)) (mCons (mC (.int 2)) mNil))))) (mBin dMul (mCellE (mLst (mCons (mC (.int 256)) mNil))) (mC (.int 16))) [some (.val (.slst (ns.map D.int))), some (.val (.int (many : Int))), some (.own (.l (as.map D.int))), some (.val (.lst ((as.flatMap G).map D.int))), x4, x5, x6, none, none, none, none] = .ok (.lst ((([9, 9, 2] : List Int) ++ List.replicate 16 256).map D.int)) := by rfl
    have em1 : mCallB m_law_cell (mCons (mVar 0) (mCons (mC (.int 0)) mNil)) [some (.val (.slst (ns.map D.int))), some (.val (.int (many : Int))), some (.own (.l (as.map D.int))), some (.val (.lst ((as.flatMap G).map D.int))), x4, x5, x6, none, none, none, none] = .ok (.int c) := by simp only [q_df, q_st, q_sq, q_at_nx, q_at_rt, q_at_bk, q_at_ct, q_at_ex, q_mi, q_sel_t, q_sel_f, q_out_rt, q_out_nx, q_out_ex, q_rb_ok, q_rb_bad, q_rb_exc, q_tf_ok, q_v0, q_vs, q_w0, q_w0o, q_ws, q_tbq, q_asb, q_nt, q_rsel_t, q_rsel_f, q_ta, q_to, q_va, q_vo, q_vn, q_sett, q_seto, q_bin, q_c, q_callb, q_cons, q_nil, q_tup, q_lst, q_celle, q_ret, q_nx, q_thl, q_thd, q_isi, q_neg, q_neg_i, q_callk, q_drop, q_retn, q_brk, q_cnt, q_ife, q_add_i, q_sub_i, q_lt_i, q_le_i, q_gt_i, q_ge_i, q_eq_i, q_ne_i, List.map_cons, List.map_nil, List.length_cons, List.length_nil, List.replicate, List.append_nil, List.nil_append, List.cons_append, Nat.reduceAdd, Nat.reduceSub, List.getElem?_cons_zero, List.getElem?_cons_succ, List.set_cons_zero, List.set_cons_succ, Bool.not_true, Bool.not_false, decide_true, decide_false, if_true, if_false, ec']
    rw [q_callb, q_cons, em1, q_rb_ok, q_cons, em2, q_rb_ok, q_nil, q_rb_ok, q_rb_ok, q_rb_ok]
    exact ed'
  rw [seq_nx (r' := [some (.val (.slst (ns.map D.int))), some (.val (.int (many : Int))), some (.own (.l (as.map D.int))), some (.val (.lst ((as.flatMap G).map D.int))), x4, x5, x6, none, some (.val (.lst (row.map D.int))), none, none]) (by
    rw [q_sett, em3]
    rfl)]
  rw [seq_nx (r' := [some (.val (.slst (ns.map D.int))), some (.val (.int (many : Int))), some (.own (.l (as.map D.int))), some (.val (.lst (full.map D.int))), x4, x5, x6, none, some (.val (.lst (row.map D.int))), none, none]) (by
    simp only [q_df, q_st, q_sq, q_at_nx, q_at_rt, q_at_bk, q_at_ct, q_at_ex, q_mi, q_sel_t, q_sel_f, q_out_rt, q_out_nx, q_out_ex, q_rb_ok, q_rb_bad, q_rb_exc, q_tf_ok, q_v0, q_vs, q_w0, q_w0o, q_ws, q_tbq, q_asb, q_nt, q_rsel_t, q_rsel_f, q_ta, q_to, q_va, q_vo, q_vn, q_sett, q_seto, q_bin, q_c, q_callb, q_cons, q_nil, q_tup, q_lst, q_celle, q_ret, q_nx, q_thl, q_thd, q_isi, q_neg, q_neg_i, q_callk, q_drop, q_retn, q_brk, q_cnt, q_ife, q_add_i, q_sub_i, q_lt_i, q_le_i, q_gt_i, q_ge_i, q_eq_i, q_ne_i, List.map_cons, List.map_nil, List.length_cons, List.length_nil, List.replicate, List.append_nil, List.nil_append, List.cons_append, Nat.reduceAdd, Nat.reduceSub, List.getElem?_cons_zero, List.getElem?_cons_succ, List.set_cons_zero, List.set_cons_succ, Bool.not_true, Bool.not_false, decide_true, decide_false, if_true, if_false, q_cut, q_part1, q_asio, ix0, ix1, q_cut_l, cut_map]
    rw [cp, cq]
    rw [t_addl (by simp only [List.length_map]; omega), q_rb_ok, t_addl (by simp only [List.length_map, List.length_append]; omega), q_tf_ok, hfull]
    simp only [List.map_append, q_df, q_st, q_sq, q_at_nx, q_at_rt, q_at_bk, q_at_ct, q_at_ex, q_mi, q_sel_t, q_sel_f, q_out_rt, q_out_nx, q_out_ex, q_rb_ok, q_rb_bad, q_rb_exc, q_tf_ok, q_v0, q_vs, q_w0, q_w0o, q_ws, q_tbq, q_asb, q_nt, q_rsel_t, q_rsel_f, q_ta, q_to, q_va, q_vo, q_vn, q_sett, q_seto, q_bin, q_c, q_callb, q_cons, q_nil, q_tup, q_lst, q_celle, q_ret, q_nx, q_thl, q_thd, q_isi, q_neg, q_neg_i, q_callk, q_drop, q_retn, q_brk, q_cnt, q_ife, q_add_i, q_sub_i, q_lt_i, q_le_i, q_gt_i, q_ge_i, q_eq_i, q_ne_i, List.map_cons, List.map_nil, List.length_cons, List.length_nil, List.replicate, List.append_nil, List.nil_append, List.cons_append, Nat.reduceAdd, Nat.reduceSub, List.getElem?_cons_zero, List.getElem?_cons_succ, List.set_cons_zero, List.set_cons_succ, Bool.not_true, Bool.not_false, decide_true, decide_false, if_true, if_false])]
  rw [seq_nx (r' := [some (.val (.slst (ns.map D.int))), some (.val (.int (many : Int))), some (.own (.l (as.map D.int))), some (.val (.lst (full.map D.int))), x4, x5, x6, none, some (.val (.lst (row.map D.int))), some (.val (.lst (full.map D.int))), none]) (by simp only [q_df, q_st, q_sq, q_at_nx, q_at_rt, q_at_bk, q_at_ct, q_at_ex, q_mi, q_sel_t, q_sel_f, q_out_rt, q_out_nx, q_out_ex, q_rb_ok, q_rb_bad, q_rb_exc, q_tf_ok, q_v0, q_vs, q_w0, q_w0o, q_ws, q_tbq, q_asb, q_nt, q_rsel_t, q_rsel_f, q_ta, q_to, q_va, q_vo, q_vn, q_sett, q_seto, q_bin, q_c, q_callb, q_cons, q_nil, q_tup, q_lst, q_celle, q_ret, q_nx, q_thl, q_thd, q_isi, q_neg, q_neg_i, q_callk, q_drop, q_retn, q_brk, q_cnt, q_ife, q_add_i, q_sub_i, q_lt_i, q_le_i, q_gt_i, q_ge_i, q_eq_i, q_ne_i, List.map_cons, List.map_nil, List.length_cons, List.length_nil, List.replicate, List.append_nil, List.nil_append, List.cons_append, Nat.reduceAdd, Nat.reduceSub, List.getElem?_cons_zero, List.getElem?_cons_succ, List.set_cons_zero, List.set_cons_succ, Bool.not_true, Bool.not_false, decide_true, decide_false, if_true, if_false, q_lstof, q_lstof_l])]
  rw [seq_nx (eX x6)]
  rw [seq_nx (r' := [some (.val (.slst (ns.map D.int))), some (.val (.int (many : Int))), some (.own (.l (as.map D.int))), some (.val (.lst (full.map D.int))), x4, x5, x6, none, some (.val (.lst (row.map D.int))), some (.val X), some (.val (.int y0))]) (by simp only [q_df, q_st, q_sq, q_at_nx, q_at_rt, q_at_bk, q_at_ct, q_at_ex, q_mi, q_sel_t, q_sel_f, q_out_rt, q_out_nx, q_out_ex, q_rb_ok, q_rb_bad, q_rb_exc, q_tf_ok, q_v0, q_vs, q_w0, q_w0o, q_ws, q_tbq, q_asb, q_nt, q_rsel_t, q_rsel_f, q_ta, q_to, q_va, q_vo, q_vn, q_sett, q_seto, q_bin, q_c, q_callb, q_cons, q_nil, q_tup, q_lst, q_celle, q_ret, q_nx, q_thl, q_thd, q_isi, q_neg, q_neg_i, q_callk, q_drop, q_retn, q_brk, q_cnt, q_ife, q_add_i, q_sub_i, q_lt_i, q_le_i, q_gt_i, q_ge_i, q_eq_i, q_ne_i, List.map_cons, List.map_nil, List.length_cons, List.length_nil, List.replicate, List.append_nil, List.nil_append, List.cons_append, Nat.reduceAdd, Nat.reduceSub, List.getElem?_cons_zero, List.getElem?_cons_succ, List.set_cons_zero, List.set_cons_succ, Bool.not_true, Bool.not_false, decide_true, decide_false, if_true, if_false, ix0])]
  rw [seq_nx (frz_nx rfl (for_nx (by simp only [q_df, q_st, q_sq, q_at_nx, q_at_rt, q_at_bk, q_at_ct, q_at_ex, q_mi, q_sel_t, q_sel_f, q_out_rt, q_out_nx, q_out_ex, q_rb_ok, q_rb_bad, q_rb_exc, q_tf_ok, q_v0, q_vs, q_w0, q_w0o, q_ws, q_tbq, q_asb, q_nt, q_rsel_t, q_rsel_f, q_ta, q_to, q_va, q_vo, q_vn, q_sett, q_seto, q_bin, q_c, q_callb, q_cons, q_nil, q_tup, q_lst, q_celle, q_ret, q_nx, q_thl, q_thd, q_isi, q_neg, q_neg_i, q_callk, q_drop, q_retn, q_brk, q_cnt, q_ife, q_add_i, q_sub_i, q_lt_i, q_le_i, q_gt_i, q_ge_i, q_eq_i, q_ne_i, List.map_cons, List.map_nil, List.length_cons, List.length_nil, List.replicate, List.append_nil, List.nil_append, List.cons_append, Nat.reduceAdd, Nat.reduceSub, List.getElem?_cons_zero, List.getElem?_cons_succ, List.set_cons_zero, List.set_cons_succ, Bool.not_true, Bool.not_false, decide_true, decide_false, if_true, if_false, q_it, q_items_l]) e3))]
  rw [seq_nx (r' := [some (.val (.slst (ns.map D.int))), some (.val (.int (many : Int))), some (.val (.lst (as.map D.int))), some (.val (.lst (full.map D.int))), x4, x5', x6, none, some (.val (.lst (row.map D.int))), some (.val X), some (.val (.int y0))]) (by simp only [q_df, q_st, q_sq, q_at_nx, q_at_rt, q_at_bk, q_at_ct, q_at_ex, q_mi, q_sel_t, q_sel_f, q_out_rt, q_out_nx, q_out_ex, q_rb_ok, q_rb_bad, q_rb_exc, q_tf_ok, q_v0, q_vs, q_w0, q_w0o, q_ws, q_tbq, q_asb, q_nt, q_rsel_t, q_rsel_f, q_ta, q_to, q_va, q_vo, q_vn, q_sett, q_seto, q_bin, q_c, q_callb, q_cons, q_nil, q_tup, q_lst, q_celle, q_ret, q_nx, q_thl, q_thd, q_isi, q_neg, q_neg_i, q_callk, q_drop, q_retn, q_brk, q_cnt, q_ife, q_add_i, q_sub_i, q_lt_i, q_le_i, q_gt_i, q_ge_i, q_eq_i, q_ne_i, List.map_cons, List.map_nil, List.length_cons, List.length_nil, List.replicate, List.append_nil, List.nil_append, List.cons_append, Nat.reduceAdd, Nat.reduceSub, List.getElem?_cons_zero, List.getElem?_cons_succ, List.set_cons_zero, List.set_cons_succ, Bool.not_true, Bool.not_false, decide_true, decide_false, if_true, if_false, ix0])]
  have ql : lstOfD [X] = .ok (.l (full.map D.int)) := by
    rcases hX with rfl | rfl
    · rfl
    · rfl
  have qf : dEq (.lst (full.map D.int)) (.lst (full.map D.int)) = .ok (.bl true) := eq_t (b := false) (by simp only [clean]; exact clean_ints) (by simp only [depD, dep_ints]; omega)
  simp only [q_df, q_st, q_sq, q_at_nx, q_at_rt, q_at_bk, q_at_ct, q_at_ex, q_mi, q_sel_t, q_sel_f, q_out_rt, q_out_nx, q_out_ex, q_rb_ok, q_rb_bad, q_rb_exc, q_tf_ok, q_v0, q_vs, q_w0, q_w0o, q_ws, q_tbq, q_asb, q_nt, q_rsel_t, q_rsel_f, q_ta, q_to, q_va, q_vo, q_vn, q_sett, q_seto, q_bin, q_c, q_callb, q_cons, q_nil, q_tup, q_lst, q_celle, q_ret, q_nx, q_thl, q_thd, q_isi, q_neg, q_neg_i, q_callk, q_drop, q_retn, q_brk, q_cnt, q_ife, q_add_i, q_sub_i, q_lt_i, q_le_i, q_gt_i, q_ge_i, q_eq_i, q_ne_i, List.map_cons, List.map_nil, List.length_cons, List.length_nil, List.replicate, List.append_nil, List.nil_append, List.cons_append, Nat.reduceAdd, Nat.reduceSub, List.getElem?_cons_zero, List.getElem?_cons_succ, List.set_cons_zero, List.set_cons_succ, Bool.not_true, Bool.not_false, decide_true, decide_false, if_true, if_false, q_lstof, ql, qf, dec0, ixn, eg0, q_len_l, List.length_map, s2, paire]
end LK

namespace LK
open PySem PySem.Spec PyProof.Rows L2 QB
theorem all_end {P : Program} {w : World} {K : PySem.W.Frag} {h : Heap} {mg : Str → Option Value} {fa : Addr} (_X : K.In h) (hfa : mg "law" = some (.ref fa)) (T : Tx K mg) :
    ∃ fd : FuncData, (∀ (s : Shared) (u : Value), BindsTo s fd ⟨[u], []⟩ [("_law_script", u)]) ∧ ∀ base : Heap, K.In base → base.Ns mainGlobals mg → FnOk P w K mg base (L2.CX P w) 6 fa fd ["_law_script"] (spLaw K) := by
  obtain ⟨f, fd, F, g⟩ := T.d_law
  have e := hfa.symm.trans g
  cases e
  exact ⟨fd, fun s u => law_bind F s u, fun base _ _ => law_fn T F law_true⟩
end LK
open PySem PySem.W PyProof.Rows in
set_option maxRecDepth 100000 in
set_option maxHeartbeats 0 in
theorem PySem.Challenge.cw_quietbroom_k13_octet_numbers_holds : PySem.Challenge.rw_quietbroom_k13_octet_numbers.Holds := by
  w_on; o_law; k_head; (case hw => w_witness2)
  k_fill
  refine L2.walk_ofB (l := PySem.Challenge.rw_quietbroom_k13_octet_numbers) (n := 63) (k := 6) (x := "_law_script") (CX := fun w => L2.CX (PySem.Challenge.rw_quietbroom_k13_octet_numbers).prog w) (sp := fun w => QB.spLaw _) rfl (by decide) rfl ⟨rfl, by decide, by decide⟩ (fun w h Y => PySem.W.kIn_of Y) ?F (fun w H a ns hl hb _ hS => ⟨a, ns, rfl, hS, hl, hb, fun _ => rfl⟩) (fun w H s e s' => QB.no_exc (P := (PySem.Challenge.rw_quietbroom_k13_octet_numbers).prog))
  case F =>
    intro w mg fa h KX G hmg
    refine' LK.all_end KX hmg (LK.all_mk KX G ?a0 ?l0 ?c0 ?k0 ?a1 ?l1 ?c1 ?k1 ?a2 ?l2 ?c2 ?k2 ?a3 ?l3 ?c3 ?k3 ?a4 ?l4 ?c4 ?k4 ?a5 ?l5 ?c5 ?k5 ?a6 ?l6 ?c6 ?k6 ?a7 ?l7 ?c7 ?k7 ?a8 ?l8 ?c8 ?k8 ?a9 ?l9 ?c9 ?k9 ?aq0 ?xa0 ?xl0 ?xs0 ?xi0 ?xt0 ?xf0 ?xc0 ?xkI0 ?xkC0 ?xe0 ?xT0 ?xn0_0 ?xm0_QuietError ?qe_QuietError ?qi_QuietError ?qt_QuietError ?z0 ?z1 ?z2 ?z3 ?z4 ?z5 ?z6 ?z7 ?z8)
    (case a0 => first | k_is | rfl)
    (case l0 => first | k_is | rfl)
    (case c0 => first | k_is | rfl)
    (case k0 => first | k_is | rfl)
    (case a1 => first | k_is | rfl)
    (case l1 => first | k_is | rfl)
    (case c1 => first | k_is | rfl)
    (case k1 => first | k_is | rfl)
    (case a2 => first | k_is | rfl)
    (case l2 => first | k_is | rfl)
    (case c2 => first | k_is | rfl)
    (case k2 => first | k_is | rfl)
    (case a3 => first | k_is | rfl)
    (case l3 => first | k_is | rfl)
    (case c3 => first | k_is | rfl)
    (case k3 => first | k_is | rfl)
    (case a4 => first | k_is | rfl)
    (case l4 => first | k_is | rfl)
    (case c4 => first | k_is | rfl)
    (case k4 => first | k_is | rfl)
    (case a5 => first | k_is | rfl)
    (case l5 => first | k_is | rfl)
    (case c5 => first | k_is | rfl)
    (case k5 => first | k_is | rfl)
    (case a6 => first | k_is | rfl)
    (case l6 => first | k_is | rfl)
    (case c6 => first | k_is | rfl)
    (case k6 => first | k_is | rfl)
    (case a7 => first | k_is | rfl)
    (case l7 => first | k_is | rfl)
    (case c7 => first | k_is | rfl)
    (case k7 => first | k_is | rfl)
    (case a8 => first | k_is | rfl)
    (case l8 => first | k_is | rfl)
    (case c8 => first | k_is | rfl)
    (case k8 => first | k_is | rfl)
    (case a9 => first | k_is | rfl)
    (case l9 => first | k_is | rfl)
    (case c9 => first | k_is | rfl)
    (case k9 => first | k_is | rfl)
    (case aq0 => first | k_is | rfl)
    (case xa0 => first | k_is | rfl)
    (case xl0 => first | k_is | rfl)
    (case xs0 => first | k_is | rfl)
    (case xi0 => first | k_is | rfl)
    (case xt0 => first | k_is | rfl)
    (case xf0 => first | k_is | rfl)
    (case xc0 => first | k_is | rfl)
    (case xkI0 => first | k_is | rfl)
    (case xkC0 => first | k_is | rfl)
    (case xe0 => first | k_is | rfl)
    (case xT0 => first | k_is | rfl)
    (case xn0_0 => first | k_is | rfl)
    (case xm0_QuietError => first | k_is | rfl)
    (case qe_QuietError => first | k_is | rfl)
    (case qi_QuietError => first | k_is | rfl)
    (case qt_QuietError => first | k_is | rfl)
    (case z0 => first | k_is | rfl)
    (case z1 => first | k_is | rfl)
    (case z2 => first | k_is | rfl)
    (case z3 => first | k_is | rfl)
    (case z4 => first | k_is | rfl)
    (case z5 => first | k_is | rfl)
    (case z6 => first | k_is | rfl)
    (case z7 => first | k_is | rfl)
    (case z8 => first | k_is | rfl)
