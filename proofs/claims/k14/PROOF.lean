import PyProof.Rows.All
import Wide.All
import OpenK.AllK
import Wide.FinOn
import HandS.ForMost
import HandS.ForExc
import HandS.Wide
import HandS.IsInst
import HandS.Deep
import HandS.TupAny
import HandS.Defaults
import HandS.ExcInit
import HandS.WideBits
import HandS.TupLe
import HandS.Iter
import HandS.TryOnly
import HandS.EndBits
import HandS.Comp
import HandS.List
import HandS.Text
import HandS.RaiseMore
import PyProof.StrOps2
import HandS.Exc
import HandS.NoneIn
import HandS.Dict
import HandS.More
import HandS.DictComp
import HandS.TupMul
import HandS.ExcField
import KE.KExcIs
import HandS.ExcIs
import HandS.ExcOwn
import HandS.ExcValue
import HandS.HotCalls
import HandS.ExcInitHot
import PyProof.P3Eq
import PySem.Challenge.RW_quietbroom_k14_octets_cut
set_option Elab.async false
set_option linter.all false
set_option maxRecDepth 100000
set_option maxHeartbeats 4000000
/-! QB: a functional mirror of Python over plain data, tied to the hand layer. -/
namespace QB
open PySem PySem.Spec PyProof.Rows L2

/-! ### data -/
/-- a value without a heap -/
inductive D where
  | non | bl (b : Bool) | int (i : Int) | str (s : Str) | tup (xs : List D) | lst (xs : List D) | slst (xs : List D)
  | ins (c : Str) (ns : List Str) (xs : List D) | dct (ks : List Key) (xs : List D)
  /-- an error object that was made and not raised; one that a clause caught, at a, its dict at dx -/
  | xob (c : Str) (ns : List Str) (xs : List D) | exv (a dx : Nat) (c : Str) (ns : List Str) (xs : List D)

/-- results: a value, a raised error (class, field names, fields), stuck -/
inductive R (α : Type) where
  | ok (a : α) | exc (c : Str) (ns : List Str) (xs : List D) | bad
@[simp] def R.bind {α β : Type} : R α → (α → R β) → R β
  | .ok a, f => f a
  | .exc c ns xs, _ => .exc c ns xs
  | .bad, _ => .bad
inductive Cell where
  | l (xs : List D) | d (ks : List Key) (xs : List D)
inductive EV where
  | val (d : D) | own (c : Cell)
abbrev Sc := List (Option EV)
inductive Fl where
  | nx (r : Sc) | rt (d : D) | rc (c : Cell) | bk (r : Sc) | ct (r : Sc) | ex (c : Str) (ns : List Str) (xs : List D) (r : Sc) | bad
abbrev ME := Sc → R D
abbrev MA := Sc → R (List D)
abbrev MT := Sc → R Bool
abbrev MF := Sc → R Cell
abbrev MS := Sc → Fl

/-! ### how a value stands in the heap -/
mutual
def Rep (K : PySem.W.Frag) (mg : Str → Option Value) (G : Hp) : D → V → Prop
  | .non, v => v = .non
  | .bl b, v => v = .bl b
  | .int i, v => v = .int i
  | .str s, v => v = .str s
  | .tup xs, v => ∃ (a : Addr) (vs : List V), v = .ref a ∧ SqT K G a vs ∧ RepL K mg G xs vs
  | .lst xs, v => ∃ (a : Addr) (vs : List V), v = .ref a ∧ G a = some (.lst vs) ∧ RepL K mg G xs vs
  | .slst xs, v => ∃ (a : Addr) (vs : List V), v = .ref a ∧ SqL K G a vs ∧ RepL K mg G xs vs
  | .ins c ns xs, v => ∃ (a C dx : Addr) (vs : List V), v = .ref a ∧ mg c = some (.ref C) ∧ G a = some (.ins C dx (ns.zip vs)) ∧ ns.length = xs.length ∧ RepL K mg G xs vs
  | .dct ks xs, v => ∃ (a : Addr) (vs : List V), v = .ref a ∧ G a = some (.dK (ks.zip vs)) ∧ ks.length = xs.length ∧ RepL K mg G xs vs
  | .xob c ns xs, v => ∃ (a C : Addr) (od : Option Addr) (vs : List V), v = .ref a ∧ mg c = some (.ref C) ∧ G a = some (exo a C od) ∧ (∀ dx, od = some dx → G dx = some (exd dx (ns.zip vs))) ∧ (od = none → ns = []) ∧ ns.length = xs.length ∧ RepL K mg G xs vs
  | .exv a dx c ns xs, v => ∃ (C : Addr) (vs : List V), v = .ref a ∧ mg c = some (.ref C) ∧ G dx = some (.xd (ns.zip vs)) ∧ ns.length = xs.length ∧ RepL K mg G xs vs
def RepL (K : PySem.W.Frag) (mg : Str → Option Value) (G : Hp) : List D → List V → Prop
  | [], vs => vs = []
  | d :: ds, vs => ∃ (v : V) (us : List V), vs = v :: us ∧ Rep K mg G d v ∧ RepL K mg G ds us
end
theorem Same.seqT {K : PySem.W.Frag} {H H' : Hp} {a : Addr} {xs : List V} (e : Same H H') (h : SqT K H a xs) : SqT K H' a xs := by
  rcases h with (h | ⟨o, h⟩) | h
  · exact .inl (.inl (e _ _ h))
  · exact .inl (.inr ⟨o, e _ _ h⟩)
  · exact .inr h
section
variable {K : PySem.W.Frag} {mg : Str → Option Value} {G G' : Hp}
mutual
theorem Rep.mono (s : Same G G') : ∀ (d : D) (v : V), Rep K mg G d v → Rep K mg G' d v
  | .non, v, h => by simpa [Rep] using h
  | .bl b, v, h => by simpa [Rep] using h
  | .int i, v, h => by simpa [Rep] using h
  | .str x, v, h => by simpa [Rep] using h
  | .tup xs, v, h => by
    simp only [Rep] at h ⊢
    obtain ⟨a, vs, e, q, r⟩ := h
    exact ⟨a, vs, e, Same.seqT s q, RepL.mono s xs vs r⟩
  | .lst xs, v, h => by
    simp only [Rep] at h ⊢
    obtain ⟨a, vs, e, q, r⟩ := h
    exact ⟨a, vs, e, s _ _ q, RepL.mono s xs vs r⟩
  | .slst xs, v, h => by
    simp only [Rep] at h ⊢
    obtain ⟨a, vs, e, q, r⟩ := h
    exact ⟨a, vs, e, Same.seq s q, RepL.mono s xs vs r⟩
  | .ins c ns xs, v, h => by
    simp only [Rep] at h ⊢
    obtain ⟨a, C, dx, vs, e, m, q, l, r⟩ := h
    exact ⟨a, C, dx, vs, e, m, s _ _ q, l, RepL.mono s xs vs r⟩
  | .dct ks xs, v, h => by
    simp only [Rep] at h ⊢
    obtain ⟨a, vs, e, q, l, r⟩ := h
    exact ⟨a, vs, e, s _ _ q, l, RepL.mono s xs vs r⟩
  | .xob c ns xs, v, h => by
    simp only [Rep] at h ⊢
    obtain ⟨a, C, od, vs, e, m, q, d, n, l, r⟩ := h
    exact ⟨a, C, od, vs, e, m, s _ _ q, fun dx e => s _ _ (d dx e), n, l, RepL.mono s xs vs r⟩
  | .exv a dx c ns xs, v, h => by
    simp only [Rep] at h ⊢
    obtain ⟨C, vs, e, m, q, l, r⟩ := h
    exact ⟨C, vs, e, m, s _ _ q, l, RepL.mono s xs vs r⟩
theorem RepL.mono (s : Same G G') : ∀ (ds : List D) (vs : List V), RepL K mg G ds vs → RepL K mg G' ds vs
  | [], vs, h => by simpa [RepL] using h
  | d :: ds, vs, h => by
    simp only [RepL] at h ⊢
    obtain ⟨v, us, e, r, t⟩ := h
    exact ⟨v, us, e, Rep.mono s d v r, RepL.mono s ds us t⟩
end
theorem RepL.nil : RepL K mg G [] [] := by simp [RepL]
theorem RepL.cons {d : D} {ds : List D} {v : V} {vs : List V} (h : Rep K mg G d v) (t : RepL K mg G ds vs) : RepL K mg G (d :: ds) (v :: vs) := by
  simp only [RepL]
  exact ⟨v, vs, rfl, h, t⟩
theorem RepL.length : ∀ {ds : List D} {vs : List V}, RepL K mg G ds vs → vs.length = ds.length
  | [], vs, h => by
    simp only [RepL] at h
    rw [h]
    rfl
  | d :: ds, vs, h => by
    simp only [RepL] at h
    obtain ⟨v, us, e, _, t⟩ := h
    rw [e, List.length_cons, List.length_cons, RepL.length t]
theorem RepL.get : ∀ {ds : List D} {vs : List V} {i : Nat} {d : D}, RepL K mg G ds vs → ds[i]? = some d → ∃ v, vs[i]? = some v ∧ Rep K mg G d v
  | [], _, i, d, _, h => by simp at h
  | x :: ds, vs, i, d, h, hi => by
    simp only [RepL] at h
    obtain ⟨v, us, e, r, t⟩ := h
    subst e
    cases i with
    | zero =>
      simp at hi
      subst hi
      exact ⟨v, rfl, r⟩
    | succ j =>
      simp at hi
      obtain ⟨w, hw, rw'⟩ := RepL.get (i := j) t hi
      exact ⟨w, by simpa using hw, rw'⟩
theorem RepL.getV : ∀ {ds : List D} {vs : List V} {i : Nat} {v : V}, RepL K mg G ds vs → vs[i]? = some v → ∃ d, ds[i]? = some d ∧ Rep K mg G d v := fun {ds vs i v} h hv => by
  have hl := h.length
  have hi : i < ds.length := by
    rw [← hl]
    exact (List.getElem?_eq_some_iff.mp hv).1
  obtain ⟨w, hw, r⟩ := h.get (List.getElem?_eq_getElem hi)
  rw [hv] at hw
  cases hw
  exact ⟨_, List.getElem?_eq_getElem hi, r⟩
theorem RepL.append : ∀ {ds es : List D} {vs us : List V}, RepL K mg G ds vs → RepL K mg G es us → RepL K mg G (ds ++ es) (vs ++ us)
  | [], es, vs, us, h, t => by
    simp only [RepL] at h
    subst h
    exact t
  | d :: ds, es, vs, us, h, t => by
    simp only [RepL] at h
    obtain ⟨v, ws, e, r, q⟩ := h
    subst e
    exact RepL.cons r (RepL.append q t)
theorem RepL.take : ∀ {ds : List D} {vs : List V} (n : Nat), RepL K mg G ds vs → RepL K mg G (ds.take n) (vs.take n)
  | [], vs, n, h => by
    simp only [RepL] at h
    subst h
    simp [RepL]
  | d :: ds, vs, 0, h => by simp [RepL]
  | d :: ds, vs, n + 1, h => by
    simp only [RepL] at h
    obtain ⟨v, ws, e, r, q⟩ := h
    subst e
    exact RepL.cons r (RepL.take n q)
theorem RepL.drop : ∀ {ds : List D} {vs : List V} (n : Nat), RepL K mg G ds vs → RepL K mg G (ds.drop n) (vs.drop n)
  | [], vs, n, h => by
    simp only [RepL] at h
    subst h
    simp [RepL]
  | d :: ds, vs, 0, h => h
  | d :: ds, vs, n + 1, h => by
    simp only [RepL] at h
    obtain ⟨v, ws, e, r, q⟩ := h
    subst e
    exact RepL.drop n q
theorem RepL.set : ∀ {ds : List D} {vs : List V} (i : Nat) {d : D} {v : V}, RepL K mg G ds vs → Rep K mg G d v → RepL K mg G (ds.set i d) (vs.set i v)
  | [], vs, i, d, v, h, r => by
    simp only [RepL] at h
    subst h
    simp [RepL]
  | x :: ds, vs, 0, d, v, h, r => by
    simp only [RepL] at h
    obtain ⟨w, ws, e, _, q⟩ := h
    subst e
    exact RepL.cons r q
  | x :: ds, vs, i + 1, d, v, h, r => by
    simp only [RepL] at h
    obtain ⟨w, ws, e, r0, q⟩ := h
    subst e
    exact RepL.cons r0 (RepL.set i q r)
end

/-! ### the heap without what is hidden: Z, a caller's own things; m, the things that the slots own -/
noncomputable def hid (Z : Addr → Prop) (m : Nat → Option Addr) (H : Hp) : Hp := fun b => open Classical in if Z b ∨ ∃ i, m i = some b then none else H b
abbrev nom : Nat → Option Addr := fun _ => none
section
variable {Z : Addr → Prop} {m : Nat → Option Addr} {H H' : Hp} {b : Addr} {o : HO}
theorem hid_of (h : H b = some o) (hz : ¬ Z b) (hm : ∀ i, m i ≠ some b) : hid Z m H b = some o := by
  unfold hid
  rw [if_neg (fun q => q.elim hz fun ⟨i, e⟩ => hm i e)]
  exact h
theorem of_hid (h : hid Z m H b = some o) : H b = some o ∧ ¬ Z b ∧ ∀ i, m i ≠ some b := by
  unfold hid at h
  split at h
  · cases h
  · rename_i q
    exact ⟨h, fun z => q (.inl z), fun i e => q (.inr ⟨i, e⟩)⟩
theorem hid_sub : Same (hid Z m H) H := fun _ _ h => (of_hid h).1
theorem hid_mono (s : Same H H') : Same (hid Z m H) (hid Z m H') := fun b o h => by
  obtain ⟨h1, h2, h3⟩ := of_hid h
  exact hid_of (s _ _ h1) h2 h3
theorem hid_less {m' : Nat → Option Addr} (hm : ∀ i a, m' i = some a → ∃ j, m j = some a) : Same (hid Z m H) (hid Z m' H) := fun b o h => by
  obtain ⟨h1, h2, h3⟩ := of_hid h
  exact hid_of h1 h2 fun i e => by
    obtain ⟨j, q⟩ := hm i b e
    exact h3 j q
theorem hid_nom : Same (hid Z m H) (hid Z nom H) := hid_less fun _ _ e => by cases e
end

def CellOk (K : PySem.W.Frag) (mg : Str → Option Value) (G : Hp) (o : HO) : Cell → Prop
  | .l xs => ∃ vs, o = .lst vs ∧ RepL K mg G xs vs
  | .d ks xs => ∃ vs, o = .dK (ks.zip vs) ∧ ks.length = xs.length ∧ RepL K mg G xs vs
theorem CellOk.mono {K : PySem.W.Frag} {mg : Str → Option Value} {G G' : Hp} {o : HO} {c : Cell} (s : Same G G') (h : CellOk K mg G o c) : CellOk K mg G' o c := by
  cases c with
  | l xs =>
    obtain ⟨vs, e, r⟩ := h
    exact ⟨vs, e, r.mono s⟩
  | d ks xs =>
    obtain ⟨vs, e, l, r⟩ := h
    exact ⟨vs, e, l, r.mono s⟩

/-- the slots of a body and its mirror -/
structure Rel (K : PySem.W.Frag) (mg : Str → Option Value) (n : Nat) (Z : Addr → Prop) (H0 : Hp) (m : Nat → Option Addr) (r : Sc) (σ : L2.St) (H : Hp) : Prop where
  lenr : r.length = n
  lens : σ.length = n
  val : ∀ (i : Nat) (d : D), r[i]? = some (some (.val d)) → ∃ v, σ[i]? = some (some v) ∧ Rep K mg (hid Z m H) d v
  own : ∀ (i : Nat) (c : Cell), r[i]? = some (some (.own c)) → ∃ a o, m i = some a ∧ σ[i]? = some (some (.ref a)) ∧ H a = some o ∧ CellOk K mg (hid Z m H) o c
  dom : ∀ (i : Nat) (a : Addr), m i = some a → ∃ c, r[i]? = some (some (.own c))
  inj : ∀ (i j : Nat) (a : Addr), m i = some a → m j = some a → i = j
  frs : ∀ (i : Nat) (a : Addr), m i = some a → H0 a = none ∧ ¬ Z a
  zed : ∀ b, Z b → H b ≠ none
  same : Same H0 H
section
variable {K : PySem.W.Frag} {mg : Str → Option Value} {n : Nat} {Z : Addr → Prop} {H0 : Hp} {m : Nat → Option Addr} {r : Sc} {σ : L2.St} {H H' : Hp}
theorem Rel.alive (q : Rel K mg n Z H0 m r σ H) {i : Nat} {a : Addr} (h : m i = some a) : ∃ o, H a = some o := by
  obtain ⟨c, hc⟩ := q.dom i a h
  obtain ⟨a', o, h1, _, h2, _⟩ := q.own i c hc
  rw [h] at h1
  cases h1
  exact ⟨o, h2⟩
theorem Rel.grow (q : Rel K mg n Z H0 m r σ H) (s : Same H H') : Rel K mg n Z H0 m r σ H' := by
  refine ⟨q.lenr, q.lens, fun i d h => ?_, fun i c h => ?_, q.dom, q.inj, q.frs, fun b hb e => ?_, q.same.trans s⟩
  · obtain ⟨v, h1, h2⟩ := q.val i d h
    exact ⟨v, h1, h2.mono (hid_mono s)⟩
  · obtain ⟨a, o, h1, h2, h3, h4⟩ := q.own i c h
    exact ⟨a, o, h1, h2, s _ _ h3, h4.mono (hid_mono s)⟩
  · cases e2 : H b with
    | none => exact q.zed b hb e2
    | some o =>
      rw [s _ _ e2] at e
      cases e
/-- a new address is not hidden -/
theorem Rel.new (q : Rel K mg n Z H0 m r σ H) {p : Addr} (h : H p = none) : ¬ Z p ∧ ∀ i, m i ≠ some p :=
  ⟨fun z => q.zed p z h, fun i e => by
    obtain ⟨o, ho⟩ := q.alive e
    rw [h] at ho
    cases ho⟩
theorem Rel.hidNew (q : Rel K mg n Z H0 m r σ H) {p : Addr} {o : HO} (h : H p = none) : hid Z m (upd H p o) p = some o :=
  hid_of upd_same (q.new h).1 (q.new h).2
theorem same_upd {H : Hp} {p : Addr} {o : HO} (h : H p = none) : Same H (upd H p o) := fun b x e => by
  rw [upd_ne (ne_of_none e h)]
  exact e
def drp (m : Nat → Option Addr) (i : Nat) : Nat → Option Addr := fun j => if j = i then none else m j
def put (m : Nat → Option Addr) (i : Nat) (p : Addr) : Nat → Option Addr := fun j => if j = i then some p else m j
theorem drp_less {i : Nat} : ∀ j a, drp m i j = some a → ∃ k, m k = some a := fun j a e => by
  unfold drp at e
  split at e
  · cases e
  · exact ⟨j, e⟩
theorem same_drp {i : Nat} : Same (hid Z m H) (hid Z (drp m i) H) := hid_less drp_less
theorem getset {α : Type} {l : List α} {i j : Nat} {x : α} {y : α} (h : (l.set i x)[j]? = some y) : (j = i ∧ y = x) ∨ (j ≠ i ∧ l[j]? = some y) := by
  by_cases e : j = i
  · subst e
    rw [List.getElem?_set_self'] at h
    cases q : l[j]? with
    | none =>
      rw [q] at h
      cases h
    | some z =>
      rw [q] at h
      exact .inl ⟨rfl, (Option.some.inj h).symm⟩
  · rw [List.getElem?_set_ne (Ne.symm e)] at h
    exact .inr ⟨e, h⟩
/-- a slot takes a value -/
theorem Rel.setv (q : Rel K mg n Z H0 m r σ H) {i : Nat} {d : D} {v : V} (hi : i < n) (h : Rep K mg (hid Z m H) d v) : Rel K mg n Z H0 (drp m i) (r.set i (some (.val d))) (σ.set i (some v)) H := by
  refine ⟨by rw [List.length_set, q.lenr], by rw [List.length_set, q.lens], fun j e hj => ?_, fun j c hj => ?_, fun j a hj => ?_, fun j k a h1 h2 => ?_, fun j a hj => ?_, q.zed, q.same⟩
  · rcases getset hj with ⟨e1, e2⟩ | ⟨e1, e2⟩
    · subst e1
      cases e2
      exact ⟨v, List.getElem?_set_self (by rw [q.lens]; exact hi), h.mono same_drp⟩
    · obtain ⟨w, h1, h2⟩ := q.val j e e2
      exact ⟨w, by rw [List.getElem?_set_ne (Ne.symm e1)]; exact h1, h2.mono same_drp⟩
  · rcases getset hj with ⟨e1, e2⟩ | ⟨e1, e2⟩
    · cases e2
    · obtain ⟨a, o, h1, h2, h3, h4⟩ := q.own j c e2
      exact ⟨a, o, by unfold drp; rw [if_neg e1]; exact h1, by rw [List.getElem?_set_ne (Ne.symm e1)]; exact h2, h3, h4.mono same_drp⟩
  · unfold drp at hj
    split at hj
    · cases hj
    · rename_i e1
      obtain ⟨c, hc⟩ := q.dom j a hj
      exact ⟨c, by rw [List.getElem?_set_ne (Ne.symm e1)]; exact hc⟩
  · unfold drp at h1 h2
    split at h1
    · cases h1
    · split at h2
      · cases h2
      · exact q.inj j k a h1 h2
  · unfold drp at hj
    split at hj
    · cases hj
    · exact q.frs j a hj
/-- a slot is emptied -/
theorem Rel.unset (q : Rel K mg n Z H0 m r σ H) (i : Nat) : Rel K mg n Z H0 (drp m i) (r.set i none) (σ.set i none) H := by
  refine ⟨by rw [List.length_set, q.lenr], by rw [List.length_set, q.lens], fun j e hj => ?_, fun j c hj => ?_, fun j a hj => ?_, fun j k a h1 h2 => ?_, fun j a hj => ?_, q.zed, q.same⟩
  · rcases getset hj with ⟨e1, e2⟩ | ⟨e1, e2⟩
    · cases e2
    · obtain ⟨w, h1, h2⟩ := q.val j e e2
      exact ⟨w, by rw [List.getElem?_set_ne (Ne.symm e1)]; exact h1, h2.mono same_drp⟩
  · rcases getset hj with ⟨e1, e2⟩ | ⟨e1, e2⟩
    · cases e2
    · obtain ⟨a, o, h1, h2, h3, h4⟩ := q.own j c e2
      exact ⟨a, o, by unfold drp; rw [if_neg e1]; exact h1, by rw [List.getElem?_set_ne (Ne.symm e1)]; exact h2, h3, h4.mono same_drp⟩
  · unfold drp at hj
    split at hj
    · cases hj
    · rename_i e1
      obtain ⟨c, hc⟩ := q.dom j a hj
      exact ⟨c, by rw [List.getElem?_set_ne (Ne.symm e1)]; exact hc⟩
  · unfold drp at h1 h2
    split at h1
    · cases h1
    · split at h2
      · cases h2
      · exact q.inj j k a h1 h2
  · unfold drp at hj
    split at hj
    · cases hj
    · exact q.frs j a hj
/-- a slot takes a new thing of its own -/
theorem Rel.seto (q : Rel K mg n Z H0 m r σ H) {i : Nat} {c : Cell} {p : Addr} {o : HO} (hi : i < n) (hp : H p = none) (h : CellOk K mg (hid Z m H) o c) :
    Rel K mg n Z H0 (put m i p) (r.set i (some (.own c))) (σ.set i (some (.ref p))) (upd H p o) ∧ Same (hid Z m H) (hid Z (put m i p) (upd H p o)) := by
  have sm : Same (hid Z m H) (hid Z (put m i p) (upd H p o)) := fun b x e => by
    obtain ⟨h1, h2, h3⟩ := of_hid e
    refine hid_of (same_upd hp _ _ h1) h2 fun j ej => ?_
    unfold put at ej
    split at ej
    · cases ej
      rw [hp] at h1
      cases h1
    · exact h3 j ej
  refine ⟨⟨by rw [List.length_set, q.lenr], by rw [List.length_set, q.lens], fun j e hj => ?_, fun j c' hj => ?_, fun j a hj => ?_, fun j k a h1 h2 => ?_, fun j a hj => ?_, fun b hb e => ?_, q.same.trans (same_upd hp)⟩, sm⟩
  · rcases getset hj with ⟨e1, e2⟩ | ⟨e1, e2⟩
    · cases e2
    · obtain ⟨w, h1, h2⟩ := q.val j e e2
      exact ⟨w, by rw [List.getElem?_set_ne (Ne.symm e1)]; exact h1, h2.mono sm⟩
  · rcases getset hj with ⟨e1, e2⟩ | ⟨e1, e2⟩
    · subst e1
      cases e2
      exact ⟨p, o, by unfold put; rw [if_pos rfl], List.getElem?_set_self (by rw [q.lens]; exact hi), upd_same, h.mono sm⟩
    · obtain ⟨a, o', h1, h2, h3, h4⟩ := q.own j c' e2
      exact ⟨a, o', by unfold put; rw [if_neg e1]; exact h1, by rw [List.getElem?_set_ne (Ne.symm e1)]; exact h2, same_upd hp _ _ h3, h4.mono sm⟩
  · unfold put at hj
    split at hj
    · rename_i e1
      subst e1
      exact ⟨c, List.getElem?_set_self (by rw [q.lenr]; exact hi)⟩
    · rename_i e1
      obtain ⟨c, hc⟩ := q.dom j a hj
      exact ⟨c, by rw [List.getElem?_set_ne (Ne.symm e1)]; exact hc⟩
  · unfold put at h1 h2
    split at h1
    · rename_i e1
      cases h1
      split at h2
      · rename_i e2
        rw [e1, e2]
      · exact absurd h2 ((q.new hp).2 k)
    · split at h2
      · cases h2
        exact absurd h1 ((q.new hp).2 j)
      · exact q.inj j k a h1 h2
  · unfold put at hj
    split at hj
    · cases hj
      exact ⟨q.same.free hp, (q.new hp).1⟩
    · exact q.frs j a hj
  · by_cases eb : b = p
    · subst eb
      rw [upd_same] at e
      cases e
    · rw [upd_ne eb] at e
      exact q.zed b hb e
/-- a slot's own thing is changed -/
theorem hid_upd {i : Nat} {a : Addr} {o : HO} (h : m i = some a) : hid Z m (upd H a o) = hid Z m H := by
  funext b
  unfold hid
  split
  · rfl
  · rename_i q
    rw [upd_ne fun e => q (.inr ⟨i, by rw [h, e]⟩)]
theorem Rel.chg (q : Rel K mg n Z H0 m r σ H) {i : Nat} {c c' : Cell} {a : Addr} {o' : HO} (hc : r[i]? = some (some (.own c))) (ha : m i = some a) (h : CellOk K mg (hid Z m H) o' c') :
    Rel K mg n Z H0 m (r.set i (some (.own c'))) σ (upd H a o') := by
  refine ⟨by rw [List.length_set, q.lenr], q.lens, fun j e hj => ?_, fun j c2 hj => ?_, fun j b hj => ?_, q.inj, q.frs, fun b hb e => ?_, fun b x e => ?_⟩
  · rw [hid_upd ha]
    rcases getset hj with ⟨e1, e2⟩ | ⟨e1, e2⟩
    · cases e2
    · exact q.val j e e2
  · rw [hid_upd ha]
    rcases getset hj with ⟨e1, e2⟩ | ⟨e1, e2⟩
    · subst e1
      cases e2
      obtain ⟨a', o, h1, h2, h3, h4⟩ := q.own j c hc
      rw [ha] at h1
      cases h1
      exact ⟨a, o', ha, h2, upd_same, h⟩
    · obtain ⟨b, o, h1, h2, h3, h4⟩ := q.own j c2 e2
      have nb : b ≠ a := fun e => by
        subst e
        exact e1 (q.inj j i b h1 ha)
      exact ⟨b, o, h1, h2, by rw [upd_ne nb]; exact h3, h4⟩
  · by_cases e1 : j = i
    · subst e1
      refine ⟨c', List.getElem?_set_self ?_⟩
      exact (List.getElem?_eq_some_iff.mp hc).1
    · obtain ⟨c2, h2⟩ := q.dom j b hj
      exact ⟨c2, by rw [List.getElem?_set_ne (Ne.symm e1)]; exact h2⟩
  · by_cases eb : b = a
    · subst eb
      exact (q.frs i b ha).2 hb
    · rw [upd_ne eb] at e
      exact q.zed b hb e
  · have nb : b ≠ a := fun z => by
      subst z
      rw [(q.frs i b ha).1] at e
      cases e
    rw [upd_ne nb]
    exact q.same _ _ e
/-- a slot's own thing becomes a plain value -/
def thawed : Cell → D
  | .l xs => .lst xs
  | .d ks xs => .dct ks xs
theorem Rel.frz (q : Rel K mg n Z H0 m r σ H) {i : Nat} {c : Cell} (hc : r[i]? = some (some (.own c))) : Rel K mg n Z H0 (drp m i) (r.set i (some (.val (thawed c)))) σ H := by
  have hi : i < n := by
    rw [← q.lenr]
    exact (List.getElem?_eq_some_iff.mp hc).1
  obtain ⟨a, o, h1, h2, h3, h4⟩ := q.own i c hc
  have hv : Rep K mg (hid Z (drp m i) H) (thawed c) (.ref a) := by
    have ha : hid Z (drp m i) H a = some o := hid_of h3 (q.frs i a h1).2 fun j e => by
      unfold drp at e
      split at e
      · cases e
      · rename_i ne
        exact ne (q.inj j i a e h1)
    have h5 := h4.mono (G' := hid Z (drp m i) H) same_drp
    cases c with
    | l xs =>
      obtain ⟨vs, e, t⟩ := h5
      subst e
      simp only [thawed, Rep]
      exact ⟨a, vs, rfl, ha, t⟩
    | d ks xs =>
      obtain ⟨vs, e, l, t⟩ := h5
      subst e
      simp only [thawed, Rep]
      exact ⟨a, vs, rfl, ha, l, t⟩
  have es : σ.set i (some (.ref a)) = σ := by
    have hl : i < σ.length := by
      rw [q.lens]
      exact hi
    have e : σ[i] = some (.ref a) := by
      have := h2
      rw [List.getElem?_eq_getElem hl] at this
      exact Option.some.inj this
    rw [← e]
    exact List.set_getElem_self hl
  refine ⟨by rw [List.length_set, q.lenr], q.lens, fun j e hj => ?_, fun j c2 hj => ?_, fun j b hj => ?_, fun j k b h1 h2 => ?_, fun j b hj => ?_, q.zed, q.same⟩
  · rcases getset hj with ⟨e1, e2⟩ | ⟨e1, e2⟩
    · subst e1
      cases e2
      exact ⟨.ref a, h2, hv⟩
    · obtain ⟨w, g1, g2⟩ := q.val j e e2
      exact ⟨w, g1, g2.mono same_drp⟩
  · rcases getset hj with ⟨e1, e2⟩ | ⟨e1, e2⟩
    · cases e2
    · obtain ⟨b, o2, g1, g2, g3, g4⟩ := q.own j c2 e2
      exact ⟨b, o2, by unfold drp; rw [if_neg e1]; exact g1, g2, g3, g4.mono same_drp⟩
  · unfold drp at hj
    split at hj
    · cases hj
    · rename_i e1
      obtain ⟨c2, g⟩ := q.dom j b hj
      exact ⟨c2, by rw [List.getElem?_set_ne (Ne.symm e1)]; exact g⟩
  · unfold drp at h1 h2
    split at h1
    · cases h1
    · split at h2
      · cases h2
      · exact q.inj j k b h1 h2
  · unfold drp at hj
    split at hj
    · cases hj
    · exact q.frs j b hj
end
end QB

namespace QB
open PySem PySem.Spec PyProof.Rows L2

/-! ### what is wanted of a result -/
def ExcAt (K : PySem.W.Frag) (mg : Str → Option Value) (G : Hp) (c : Str) (ns : List Str) (xs : List D) (C : Addr) (d : Option Addr) : Prop :=
  mg c = some (.ref C) ∧ ((ns = [] ∧ xs = [] ∧ d = none) ∨ ∃ (dd : Addr) (vs : List V), d = some dd ∧ G dd = some (.xd (ns.zip vs)) ∧ ns.length = xs.length ∧ RepL K mg G xs vs)
theorem ExcAt.mono {K : PySem.W.Frag} {mg : Str → Option Value} {G G' : Hp} {c : Str} {ns : List Str} {xs : List D} {C : Addr} {d : Option Addr} (s : Same G G') (h : ExcAt K mg G c ns xs C d) : ExcAt K mg G' c ns xs C d := by
  obtain ⟨h1, h2⟩ := h
  refine ⟨h1, ?_⟩
  rcases h2 with h2 | ⟨dd, vs, e, g, l, t⟩
  · exact .inl h2
  · exact .inr ⟨dd, vs, e, s _ _ g, l, t.mono s⟩
def PostG (K : PySem.W.Frag) (mg : Str → Option Value) (Z : Addr → Prop) (m : Nat → Option Addr) (W : WX) (σ : L2.St) (H : Hp) {β : Type} (x : R β) (k : β → Prop) : Prop := match x with
  | .ok b => k b
  | .exc c ns xs => ∀ (C : Addr) (d : Option Addr) (H' : Hp), Same H H' → ExcAt K mg (hid Z m H') c ns xs C d → W (.ref C) d σ H'
  | .bad => False
section
variable {K : PySem.W.Frag} {mg : Str → Option Value} {Z : Addr → Prop} {m : Nat → Option Addr} {W : WX} {σ : L2.St} {H H' : Hp} {β γ : Type} {x : R β} {k k' : β → Prop}
theorem PostG.imp (h : PostG K mg Z m W σ H x k) (f : ∀ b, k b → k' b) : PostG K mg Z m W σ H x k' := by
  cases x with
  | ok b => exact f b h
  | exc c ns xs => exact h
  | bad => exact h
theorem PostG.grow (h : PostG K mg Z m W σ H x k) (s : Same H H') : PostG K mg Z m W σ H' x k := by
  cases x with
  | ok b => exact h
  | exc c ns xs => exact fun C d H'' s' e => h C d H'' (s.trans s') e
  | bad => exact h
theorem PostG.bind {f : β → R γ} {k : γ → Prop} (h : PostG K mg Z m W σ H (x.bind f) k) : PostG K mg Z m W σ H x (fun b => PostG K mg Z m W σ H (f b) k) := by
  cases x with
  | ok b => exact h
  | exc c ns xs => exact h
  | bad => exact h
end

/-! ### an expression's reading keeps to its mirror -/
def SimE (X : Cx) (W : WX) (te : TE) (me : ME) : Prop := ∀ (n : Nat) (Z : Addr → Prop) (H0 : Hp) (m : Nat → Option Addr) (r : Sc) (σ : L2.St) (H : Hp), Rel X.K X.mg n Z H0 m r σ H → ∀ Q : VK,
  PostG X.K X.mg Z m W σ H (me r) (fun d => ∀ (v : V) (H' : Hp), Same H H' → Rep X.K X.mg (hid Z m H') d v → Q v H') → te σ H Q
/-- the value may be a slot's own thing: it is read, not kept -/
def SimW (X : Cx) (W : WX) (te : TE) (me : ME) : Prop := ∀ (n : Nat) (Z : Addr → Prop) (H0 : Hp) (m : Nat → Option Addr) (r : Sc) (σ : L2.St) (H : Hp), Rel X.K X.mg n Z H0 m r σ H → ∀ Q : VK,
  PostG X.K X.mg Z m W σ H (me r) (fun d => ∀ (v : V) (H' : Hp), Same H H' → Rep X.K X.mg (hid Z nom H') d v → Q v H') → te σ H Q
def SimA (X : Cx) (W : WX) (ta : TA) (ma : MA) : Prop := ∀ (n : Nat) (Z : Addr → Prop) (H0 : Hp) (m : Nat → Option Addr) (r : Sc) (σ : L2.St) (H : Hp), Rel X.K X.mg n Z H0 m r σ H → ∀ Q : List V → Hp → Prop,
  PostG X.K X.mg Z m W σ H (ma r) (fun ds => ∀ (vs : List V) (H' : Hp), Same H H' → RepL X.K X.mg (hid Z m H') ds vs → Q vs H') → ta σ H Q
def SimAW (X : Cx) (W : WX) (ta : TA) (ma : MA) : Prop := ∀ (n : Nat) (Z : Addr → Prop) (H0 : Hp) (m : Nat → Option Addr) (r : Sc) (σ : L2.St) (H : Hp), Rel X.K X.mg n Z H0 m r σ H → ∀ Q : List V → Hp → Prop,
  PostG X.K X.mg Z m W σ H (ma r) (fun ds => ∀ (vs : List V) (H' : Hp), Same H H' → RepL X.K X.mg (hid Z nom H') ds vs → Q vs H') → ta σ H Q
def SimT (X : Cx) (W : WX) (tt : TT) (mt : MT) : Prop := ∀ (n : Nat) (Z : Addr → Prop) (H0 : Hp) (m : Nat → Option Addr) (r : Sc) (σ : L2.St) (H : Hp), Rel X.K X.mg n Z H0 m r σ H → ∀ Q : Bool → Hp → Prop,
  PostG X.K X.mg Z m W σ H (mt r) (fun b => ∀ (H' : Hp), Same H H' → Q b H') → tt σ H Q
/-- the value is a new thing -/
def SimF (X : Cx) (W : WX) (te : TE) (mf : MF) : Prop := ∀ (n : Nat) (Z : Addr → Prop) (H0 : Hp) (m : Nat → Option Addr) (r : Sc) (σ : L2.St) (H : Hp), Rel X.K X.mg n Z H0 m r σ H → ∀ Q : VK,
  PostG X.K X.mg Z m W σ H (mf r) (fun c => ∀ (p : Addr) (o : HO) (H' : Hp), Same H H' → H' p = none → CellOk X.K X.mg (hid Z m H') o c → Q (.ref p) (upd H' p o)) → te σ H Q
structure EE (X : Cx) (W : WX) (e : Expr) (me : ME) : Prop where
  ex : ∃ te, PE X e te ∧ SimE X W te me
structure EW (X : Cx) (W : WX) (e : Expr) (me : ME) : Prop where
  ex : ∃ te, PE X e te ∧ SimW X W te me
structure EA (X : Cx) (W : WX) (es : List Expr) (ma : MA) : Prop where
  ex : ∃ ta, PA X es ta ∧ SimA X W ta ma
structure EAW (X : Cx) (W : WX) (es : List Expr) (ma : MA) : Prop where
  ex : ∃ ta, PA X es ta ∧ SimAW X W ta ma
structure ET (X : Cx) (W : WX) (e : Expr) (mt : MT) : Prop where
  ex : ∃ tt, PT X e tt ∧ SimT X W tt mt
structure EV2 (X : Cx) (W : WX) (e : Expr) (mt : MT) : Prop where
  ex : ∃ tt, PW X e tt ∧ SimT X W tt mt
structure EF (X : Cx) (W : WX) (e : Expr) (mf : MF) : Prop where
  ex : ∃ te, PE X e te ∧ SimF X W te mf
section
variable {X : Cx} {W : WX} {e : Expr} {es : List Expr} {me : ME} {ma : MA} {mf : MF} {te : TE} {ta : TA}
theorem EE.w (h : EE X W e me) : EW X W e me := by
  obtain ⟨te, h1, h2⟩ := h.ex
  exact ⟨te, h1, fun n Z H0 m r σ H q Q p => h2 n Z H0 m r σ H q Q (p.imp fun d k v H' s t => k v H' s (t.mono hid_nom))⟩
theorem EA.w (h : EA X W es ma) : EAW X W es ma := by
  obtain ⟨te, h1, h2⟩ := h.ex
  exact ⟨te, h1, fun n Z H0 m r σ H q Q p => h2 n Z H0 m r σ H q Q (p.imp fun d k v H' s t => k v H' s (t.mono hid_nom))⟩
def mCellE (mf : MF) : ME := fun r => (mf r).bind fun c => .ok (thawed c)
theorem CellOk.rep {K : PySem.W.Frag} {mg : Str → Option Value} {G : Hp} {a : Addr} {o : HO} {c : Cell} (h : CellOk K mg G o c) (ha : G a = some o) : Rep K mg G (thawed c) (.ref a) := by
  cases c with
  | l xs =>
    obtain ⟨vs, e, t⟩ := h
    subst e
    simp only [thawed, Rep]
    exact ⟨a, vs, rfl, ha, t⟩
  | d ks xs =>
    obtain ⟨vs, e, l, t⟩ := h
    subst e
    simp only [thawed, Rep]
    exact ⟨a, vs, rfl, ha, l, t⟩
theorem EF.toE (h : EF X W e mf) : EE X W e (mCellE mf) := by
  obtain ⟨te, h1, h2⟩ := h.ex
  refine ⟨te, h1, fun n Z H0 m r σ H q Q p => h2 n Z H0 m r σ H q Q (p.bind.imp fun c k b o H' s e t => ?_)⟩
  have q' := q.grow s
  exact k (.ref b) (upd H' b o) (s.trans (same_upd e)) ((t.mono (hid_mono (same_upd e))).rep (q'.hidNew e))

/-! ### names, constants -/
def mVar (i : Nat) : ME := fun r => match r[i]? with
  | some (some (.val d)) => .ok d
  | _ => .bad
def mVarW (i : Nat) : ME := fun r => match r[i]? with
  | some (some (.val d)) => .ok d
  | some (some (.own c)) => .ok (thawed c)
  | _ => .bad
def mC (d : D) : ME := fun _ => .ok d
theorem SimE.var (i : Nat) : SimE X W (tVar i) (mVar i) := fun n Z H0 m r σ H q Q p => by
  unfold mVar at p
  split at p
  · rename_i d e
    obtain ⟨v, h1, h2⟩ := q.val i d e
    exact ⟨v, h1, p v H (Same.refl H) h2⟩
  · exact False.elim p
theorem SimW.var (i : Nat) : SimW X W (tVar i) (mVarW i) := fun n Z H0 m r σ H q Q p => by
  unfold mVarW at p
  split at p
  · rename_i d e
    obtain ⟨v, h1, h2⟩ := q.val i d e
    exact ⟨v, h1, p v H (Same.refl H) (h2.mono hid_nom)⟩
  · rename_i c e
    obtain ⟨a, o, h1, h2, h3, h4⟩ := q.own i c e
    refine ⟨.ref a, h2, p (.ref a) H (Same.refl H) ((h4.mono hid_nom).rep (hid_of h3 (q.frs i a h1).2 fun j e => by cases e))⟩
  · exact False.elim p
theorem SimE.const {d : D} {v : V} (h : ∀ G, Rep X.K X.mg G d v) : SimE X W (tC v) (mC d) := fun n Z H0 m r σ H q Q p => p v H (Same.refl H) (h _)
theorem ee_var (i : Nat) {x : Str} {pos : Pos} (hN : X.N[i]? = some x := by rfl) (hv : Vis X.env.scope x := by first | exact Or.inl rfl | exact Or.inr (Or.inl rfl) | exact Or.inr (Or.inr rfl)) (hd : (x == ("__debug__" : Str)) = false := by decide)
    (hcd : (x == ("__classdict__" : Str)) = false := by decide) : EE X W (.Name x pos) (mVar i) := ⟨_, pv i hN hv hd hcd, SimE.var i⟩
theorem ew_var (i : Nat) {x : Str} {pos : Pos} (hN : X.N[i]? = some x := by rfl) (hv : Vis X.env.scope x := by first | exact Or.inl rfl | exact Or.inr (Or.inl rfl) | exact Or.inr (Or.inr rfl)) (hd : (x == ("__debug__" : Str)) = false := by decide)
    (hcd : (x == ("__classdict__" : Str)) = false := by decide) : EW X W (.Name x pos) (mVarW i) := ⟨_, pv i hN hv hd hcd, SimW.var i⟩
theorem ee_int {i : Int} {j pos} : EE X W (.Constant (.int i) j pos) (mC (.int i)) := ⟨_, pe_int, SimE.const fun _ => by simp [Rep]⟩
theorem ee_bl {b : Bool} {j pos} : EE X W (.Constant (.bool b) j pos) (mC (.bl b)) := ⟨_, pe_bl, SimE.const fun _ => by simp [Rep]⟩
theorem ee_non {j pos} : EE X W (.Constant .none j pos) (mC .non) := ⟨_, pe_non, SimE.const fun _ => by simp [Rep]⟩
theorem ee_str {s : Str} {j pos} : EE X W (.Constant (.str s) j pos) (mC (.str s)) := ⟨_, pe_str, SimE.const fun _ => by simp [Rep]⟩
/-- a module's name: a constant -/
theorem ee_glob {x : Str} {pos : Pos} {u : Value} {v : V} {d : D} (hg : Gl X x) (hm : X.mg x = some u) (hr : RelV v u) (h : ∀ G, Rep X.K X.mg G d v) (hdb : (x == ("__debug__" : Str)) = false := by decide) : EE X W (.Name x pos) (mC d) := ⟨_, pe_glob hg hm hr hdb, SimE.const h⟩
end
end QB

namespace QB
open PySem PySem.Spec PyProof.Rows L2

/-! ### operators by values -/
def mBin (f : D → D → R D) (ma mb : ME) : ME := fun r => (ma r).bind fun a => (mb r).bind fun b => f a b
def OpS (X : Cx) (W : WX) (rr : R2) (f : D → D → R D) : Prop := ∀ (n : Nat) (Z : Addr → Prop) (H0 : Hp) (m : Nat → Option Addr) (r : Sc) (σ : L2.St) (H : Hp), Rel X.K X.mg n Z H0 m r σ H → ∀ (a b : D) (x y : V) (Q : VK),
  Rep X.K X.mg (hid Z m H) a x → Rep X.K X.mg (hid Z m H) b y → PostG X.K X.mg Z m W σ H (f a b) (fun d => ∀ (v : V) (H' : Hp), Same H H' → Rep X.K X.mg (hid Z m H') d v → Q v H') → rr x y H Q
/-- operands that are read only, the answer a plain value -/
def OpW (X : Cx) (W : WX) (rr : R2) (f : D → D → R D) : Prop := ∀ (n : Nat) (Z : Addr → Prop) (H0 : Hp) (m : Nat → Option Addr) (r : Sc) (σ : L2.St) (H : Hp), Rel X.K X.mg n Z H0 m r σ H → ∀ (a b : D) (x y : V) (Q : VK),
  Rep X.K X.mg (hid Z nom H) a x → Rep X.K X.mg (hid Z nom H) b y → PostG X.K X.mg Z m W σ H (f a b) (fun d => ∀ (v : V) (H' : Hp), Same H H' → Rep X.K X.mg (hid Z m H') d v → Q v H') → rr x y H Q
section
variable {X : Cx} {W : WX} {a b e : Expr} {es : List Expr} {ma mb : ME} {ta tb te : TE} {pos : Pos} {f : D → D → R D} {rr : R2}
theorem SimE.op (ha : SimE X W ta ma) (hb : SimE X W tb mb) (ho : OpS X W rr f) : SimE X W (tOp rr ta tb) (mBin f ma mb) := fun n Z H0 m r σ H q Q p => by
  unfold mBin at p
  refine ha n Z H0 m r σ H q _ (p.bind.imp fun d k x H1 s1 rx => ?_)
  refine hb n Z H0 m r σ H1 (q.grow s1) _ ((k.grow s1).bind.imp fun e k2 y H2 s2 ry => ?_)
  exact ho n Z H0 m r σ H2 ((q.grow s1).grow s2) d e x y Q (rx.mono (hid_mono s2)) ry ((k2.grow s2).imp fun d' k3 v H' s3 rv => k3 v H' (s1.trans (s2.trans s3)) rv)
theorem SimE.opw (ha : SimW X W ta ma) (hb : SimW X W tb mb) (ho : OpW X W rr f) : SimE X W (tOp rr ta tb) (mBin f ma mb) := fun n Z H0 m r σ H q Q p => by
  unfold mBin at p
  refine ha n Z H0 m r σ H q _ (p.bind.imp fun d k x H1 s1 rx => ?_)
  refine hb n Z H0 m r σ H1 (q.grow s1) _ ((k.grow s1).bind.imp fun e k2 y H2 s2 ry => ?_)
  exact ho n Z H0 m r σ H2 ((q.grow s1).grow s2) d e x y Q (rx.mono (hid_mono s2)) ry ((k2.grow s2).imp fun d' k3 v H' s3 rv => k3 v H' (s1.trans (s2.trans s3)) rv)
end
/-! the operators -/
def dAdd : D → D → R D
  | .int i, .int j => .ok (.int (i + j))
  | .str s, .str t => if s.length + t.length ≤ sizeLine then .ok (.str (s ++ t)) else .bad
  | .lst xs, .lst ys => if xs.length + ys.length ≤ sizeLine then .ok (.lst (xs ++ ys)) else .bad
  | .tup xs, .tup ys => if xs.length + ys.length ≤ sizeLine then .ok (.tup (xs ++ ys)) else .bad
  | _, _ => .bad
def dSub : D → D → R D
  | .int i, .int j => .ok (.int (i - j))
  | _, _ => .bad
def dMul : D → D → R D
  | .int i, .int j => if Builtin.Int.intBits i + Builtin.Int.intBits j ≤ 134217728 then .ok (.int (i * j)) else .bad
  | .lst xs, .int k => if k < 9223372036854775808 ∧ -9223372036854775808 ≤ k ∧ xs.length * k.toNat ≤ sizeLine then .ok (.lst (List.replicate k.toNat xs).flatten) else .bad
  | _, _ => .bad
def dMod : D → D → R D
  | .int i, .int j => if 0 < j then .ok (.int (i % j)) else .bad
  | _, _ => .bad
def dDiv : D → D → R D
  | .int i, .int j => if 0 < j ∧ j.natAbs.log2 < 9000 then .ok (.int (i / j)) else .bad
  | _, _ => .bad
def dPow : D → D → R D
  | .int i, .int j => if 0 ≤ j ∧ j ≤ 1000000 ∧ i.natAbs < 18446744073709551616 then .ok (.int (i ^ j.toNat)) else .bad
  | _, _ => .bad
def rAddS (K : PySem.W.Frag) : R2 := fun x y H Q => (rI0 fun i j => V.int (i + j)) x y H Q ∨ ((∃ i j, x = .str i ∧ y = .str j ∧ i.length + j.length ≤ sizeLine ∧ Q (.str (i ++ j)) H) ∨ (rCat x y H Q ∨ rCatA K x y H Q))
def rMulS : R2 := fun x y H Q => (rI CMulX fun i j => V.int (i * j)) x y H Q ∨ rRep x y H Q
section
variable {X : Cx} {W : WX} {a b e : Expr} {es : List Expr} {ma mb : ME} {ta tb te : TE} {pos : Pos}
theorem ops_add : OpS X W (rAddS X.K) dAdd := fun n Z H0 m r σ H q a b x y Q ha hb p => by
  cases a <;> cases b <;> try exact False.elim p
  · simp only [Rep] at ha hb
    subst ha hb
    exact .inl ⟨_, _, rfl, rfl, p _ H (Same.refl H) (by simp [Rep])⟩
  · rename_i s t
    simp only [Rep] at ha hb
    subst ha hb
    simp only [dAdd] at p
    split at p
    · rename_i h
      exact .inr (.inl ⟨_, _, rfl, rfl, h, p _ H (Same.refl H) (by simp [Rep])⟩)
    · exact False.elim p
  · rename_i xs ys
    simp only [Rep] at ha hb
    obtain ⟨a1, v1, rfl, h1, t1⟩ := ha
    obtain ⟨a2, v2, rfl, h2, t2⟩ := hb
    simp only [dAdd] at p
    split at p
    · rename_i h
      have hl : v1.length + v2.length ≤ sizeLine := by rw [t1.length, t2.length]; exact h
      refine .inr (.inr (.inr ⟨a1, a2, v1, v2, rfl, rfl, Same.seqT hid_sub h1, Same.seqT hid_sub h2, hl, fun e => ?_, fun e1 e2 => ?_, fun e1 e2 c hc => ?_⟩))
      · refine p _ H (Same.refl H) ?_
        have l := t1.length
        rw [e] at l
        have : xs = [] := List.length_eq_zero_iff.mp l.symm
        subst this
        simp only [Rep]
        exact ⟨a2, v2, rfl, h2, t2⟩
      · refine p _ H (Same.refl H) ?_
        have l := t2.length
        rw [e2] at l
        have : ys = [] := List.length_eq_zero_iff.mp l.symm
        subst this
        simp only [Rep, List.append_nil]
        exact ⟨a1, v1, rfl, h1, t1⟩
      · refine p _ _ (same_upd hc) ?_
        simp only [Rep]
        exact ⟨c, _, rfl, .inl (.inl (q.hidNew hc)), (t1.append t2).mono (hid_mono (same_upd hc))⟩
    · exact False.elim p
  · rename_i xs ys
    simp only [Rep] at ha hb
    obtain ⟨a1, v1, rfl, h1, t1⟩ := ha
    obtain ⟨a2, v2, rfl, h2, t2⟩ := hb
    simp only [dAdd] at p
    split at p
    · rename_i h
      have hl : v1.length + v2.length ≤ sizeLine := by rw [t1.length, t2.length]; exact h
      refine .inr (.inr (.inl ⟨a1, a2, v1, v2, rfl, rfl, hid_sub _ _ h1, hid_sub _ _ h2, hl, fun c hc => p _ _ (same_upd hc) ?_⟩))
      simp only [Rep]
      exact ⟨c, _, rfl, q.hidNew hc, (t1.append t2).mono (hid_mono (same_upd hc))⟩
    · exact False.elim p
theorem ee_add (ha : EE X W a ma) (hb : EE X W b mb) : EE X W (.BinOp a .Add b pos) (mBin dAdd ma mb) := by
  obtain ⟨ta, h1, h2⟩ := ha.ex
  obtain ⟨tb, h3, h4⟩ := hb.ex
  exact ⟨_, pe_op (OpR.or op_add (OpR.or op_add_str (OpR.or op_cat op_catA))) h1 h3, h2.op h4 ops_add⟩
/-- ints alone -/
theorem ops_int {C : Int → Int → Prop} {g : Int → Int → Int} {f : D → D → R D} (h0 : ∀ a b, (∃ i j, a = D.int i ∧ b = D.int j) ∨ f a b = .bad) (h1 : ∀ i j, (C i j ∧ f (.int i) (.int j) = .ok (.int (g i j))) ∨ f (.int i) (.int j) = .bad) : OpS X W (rI C fun i j => V.int (g i j)) f := fun n Z H0 m r σ H q a b x y Q ha hb p => by
  rcases h0 a b with ⟨i, j, rfl, rfl⟩ | e
  · simp only [Rep] at ha hb
    subst ha hb
    rcases h1 i j with ⟨hc, e⟩ | e
    · rw [e] at p
      exact ⟨i, j, rfl, rfl, hc, p _ H (Same.refl H) (by simp [Rep])⟩
    · rw [e] at p
      exact False.elim p
  · rw [e] at p
    exact False.elim p
theorem ops_sub : OpS X W (rI0 fun i j => V.int (i - j)) dSub := fun n Z H0 m r σ H q a b x y Q ha hb p => by
  cases a <;> cases b <;> try exact False.elim p
  simp only [Rep] at ha hb
  subst ha hb
  exact ⟨_, _, rfl, rfl, p _ H (Same.refl H) (by simp [Rep])⟩
theorem ee_sub (ha : EE X W a ma) (hb : EE X W b mb) : EE X W (.BinOp a .Sub b pos) (mBin dSub ma mb) := by
  obtain ⟨ta, h1, h2⟩ := ha.ex
  obtain ⟨tb, h3, h4⟩ := hb.ex
  exact ⟨_, pe_op op_sub h1 h3, h2.op h4 ops_sub⟩
theorem ops_mod : OpS X W (rI (fun _ j => 0 < j) fun i j => V.int (i % j)) dMod := ops_int (fun a b => by cases a <;> cases b <;> simp [dMod]) fun i j => by
  simp only [dMod]
  split
  · exact .inl ⟨‹_›, rfl⟩
  · exact .inr rfl
theorem ee_mod (ha : EE X W a ma) (hb : EE X W b mb) : EE X W (.BinOp a .Mod b pos) (mBin dMod ma mb) := by
  obtain ⟨ta, h1, h2⟩ := ha.ex
  obtain ⟨tb, h3, h4⟩ := hb.ex
  exact ⟨_, pe_op op_mod h1 h3, h2.op h4 ops_mod⟩
theorem ops_div : OpS X W (rI CDivW fun i j => V.int (i / j)) dDiv := ops_int (fun a b => by cases a <;> cases b <;> simp [dDiv]) fun i j => by
  simp only [dDiv]
  split
  · exact .inl ⟨‹_›, rfl⟩
  · exact .inr rfl
theorem ee_div (ha : EE X W a ma) (hb : EE X W b mb) : EE X W (.BinOp a .FloorDiv b pos) (mBin dDiv ma mb) := by
  obtain ⟨ta, h1, h2⟩ := ha.ex
  obtain ⟨tb, h3, h4⟩ := hb.ex
  exact ⟨_, pe_op op_fdivW h1 h3, h2.op h4 ops_div⟩
theorem ops_pow : OpS X W (rI CPow fun i j => V.int (i ^ j.toNat)) dPow := ops_int (fun a b => by cases a <;> cases b <;> simp [dPow]) fun i j => by
  simp only [dPow]
  split
  · exact .inl ⟨‹_›, rfl⟩
  · exact .inr rfl
theorem ee_pow (ha : EE X W a ma) (hb : EE X W b mb) : EE X W (.BinOp a .Pow b pos) (mBin dPow ma mb) := by
  obtain ⟨ta, h1, h2⟩ := ha.ex
  obtain ⟨tb, h3, h4⟩ := hb.ex
  exact ⟨_, pe_op op_pow h1 h3, h2.op h4 ops_pow⟩
theorem RepL.rep {K : PySem.W.Frag} {mg : Str → Option Value} {G : Hp} {ds : List D} {vs : List V} (h : RepL K mg G ds vs) : ∀ k : Nat, RepL K mg G (List.replicate k ds).flatten (List.replicate k vs).flatten
  | 0 => by simp [RepL]
  | k + 1 => by
    rw [List.replicate_succ, List.replicate_succ, List.flatten_cons, List.flatten_cons]
    exact h.append (RepL.rep h k)
theorem ops_mul : OpS X W rMulS dMul := fun n Z H0 m r σ H q a b x y Q ha hb p => by
  cases a <;> cases b <;> try exact False.elim p
  · simp only [Rep] at ha hb
    subst ha hb
    simp only [dMul] at p
    split at p
    · rename_i h
      exact .inl ⟨_, _, rfl, rfl, (by unfold CMulX; omega), p _ H (Same.refl H) (by simp [Rep])⟩
    · exact False.elim p
  · rename_i xs k
    simp only [Rep] at ha hb
    obtain ⟨a1, v1, rfl, h1, t1⟩ := ha
    subst hb
    simp only [dMul] at p
    split at p
    · rename_i h
      obtain ⟨h3, h4, h5⟩ := h
      refine .inr ⟨a1, k, v1, rfl, rfl, hid_sub _ _ h1, by simpa using h4, by simpa using h3, by rw [t1.length]; exact h5, fun c hc => p _ _ (same_upd hc) ?_⟩
      simp only [Rep]
      exact ⟨c, _, rfl, q.hidNew hc, (t1.rep k.toNat).mono (hid_mono (same_upd hc))⟩
    · exact False.elim p
theorem ee_mul (ha : EE X W a ma) (hb : EE X W b mb) : EE X W (.BinOp a .Mult b pos) (mBin dMul ma mb) := by
  obtain ⟨ta, h1, h2⟩ := ha.ex
  obtain ⟨tb, h3, h4⟩ := hb.ex
  exact ⟨_, pe_op (OpR.or op_mulX op_rep) h1 h3, h2.op h4 ops_mul⟩
def mNeg (ma : ME) : ME := fun r => (ma r).bind fun d => match d with
  | .int i => .ok (.int (-i))
  | _ => .bad
theorem ee_neg (ha : EE X W a ma) : EE X W (.UnaryOp .USub a pos) (mNeg ma) := by
  obtain ⟨ta, h1, h2⟩ := ha.ex
  refine ⟨_, pe_un un_neg h1, fun n Z H0 m r σ H q Q p => h2 n Z H0 m r σ H q _ (p.bind.imp fun d k x H1 s1 rx => ?_)⟩
  cases d <;> try exact False.elim k
  simp only [Rep] at rx
  subst rx
  exact ⟨_, rfl, k _ H1 s1 (by simp [Rep])⟩

/-! ### comparisons -/
def flatD : D → Option V
  | .non => some .non
  | .bl b => some (.bl b)
  | .int i => some (.int i)
  | .str s => some (.str s)
  | _ => none
theorem flatD_rep {K : PySem.W.Frag} {mg : Str → Option Value} {G : Hp} {d : D} {v x : V} (h : flatD d = some v) (r : Rep K mg G d x) : x = v := by
  cases d <;> simp only [flatD, Option.some.injEq, reduceCtorEq] at h <;> simp only [Rep] at r <;> rw [r, h]
mutual
def toPy : D → Option PyData
  | .non => some .none
  | .bl b => some (.bool b)
  | .int i => some (.int i)
  | .str s => some (.str s)
  | .tup xs => (toPyL xs).map .tuple
  | .lst xs => (toPyL xs).map .list
  | .slst xs => (toPyL xs).map .list
  | .ins _ _ _ => none
  | .dct _ _ => none
  | .xob _ _ _ => none
  | .exv _ _ _ _ _ => none
def toPyL : List D → Option (List PyData)
  | [] => some []
  | d :: ds => (toPy d).bind fun p => (toPyL ds).map fun ps => p :: ps
end
mutual
theorem dp_of {K : PySem.W.Frag} {mg : Str → Option Value} {G : Hp} : ∀ (d : D) (v : V) (p : PyData), Rep K mg G d v → toPy d = some p → Dp K G v p
  | .non, v, p, h, e => by
    simp only [Rep] at h
    simp only [toPy, Option.some.injEq] at e
    subst h e
    exact .non
  | .bl b, v, p, h, e => by
    simp only [Rep] at h
    simp only [toPy, Option.some.injEq] at e
    subst h e
    exact .bl b
  | .int i, v, p, h, e => by
    simp only [Rep] at h
    simp only [toPy, Option.some.injEq] at e
    subst h e
    exact .int i
  | .str s, v, p, h, e => by
    simp only [Rep] at h
    simp only [toPy, Option.some.injEq] at e
    subst h e
    exact .str s
  | .tup xs, v, p, h, e => by
    simp only [Rep] at h
    obtain ⟨a, vs, rfl, h1, t⟩ := h
    simp only [toPy, Option.map_eq_some_iff] at e
    obtain ⟨ps, e, rfl⟩ := e
    exact .tup h1 (dp_ofL xs vs ps t e)
  | .lst xs, v, p, h, e => by
    simp only [Rep] at h
    obtain ⟨a, vs, rfl, h1, t⟩ := h
    simp only [toPy, Option.map_eq_some_iff] at e
    obtain ⟨ps, e, rfl⟩ := e
    exact .lst (.inl (.inl h1)) (dp_ofL xs vs ps t e)
  | .slst xs, v, p, h, e => by
    simp only [Rep] at h
    obtain ⟨a, vs, rfl, h1, t⟩ := h
    simp only [toPy, Option.map_eq_some_iff] at e
    obtain ⟨ps, e, rfl⟩ := e
    exact .lst h1 (dp_ofL xs vs ps t e)
  | .ins _ _ _, v, p, h, e => by simp [toPy] at e
  | .dct _ _, v, p, h, e => by simp [toPy] at e
  | .xob _ _ _, v, p, h, e => by simp [toPy] at e
  | .exv _ _ _ _ _, v, p, h, e => by simp [toPy] at e
theorem dp_ofL {K : PySem.W.Frag} {mg : Str → Option Value} {G : Hp} : ∀ (ds : List D) (vs : List V) (ps : List PyData), RepL K mg G ds vs → toPyL ds = some ps → DpAll K G vs ps
  | [], vs, ps, h, e => by
    simp only [RepL] at h
    simp only [toPyL, Option.some.injEq] at e
    subst h e
    exact .nil
  | d :: ds, vs, ps, h, e => by
    simp only [RepL] at h
    obtain ⟨v, us, rfl, r, t⟩ := h
    simp only [toPyL, Option.bind_eq_some_iff, Option.map_eq_some_iff] at e
    obtain ⟨p, e1, qs, e2, rfl⟩ := e
    exact .cons (dp_of d v p r e1) (dp_ofL ds us qs t e2)
end
/-- == of data -/
def dEqB (a b : D) : R Bool := match flatD a, flatD b with
  | some x, some y => if scal x y = true then .ok (decide (x = y)) else .bad
  | _, _ => match toPy a, toPy b with
    | some p, some q => if SeqAt.shaped p = true ∧ SeqAt.shaped q = true then .ok (PyData.eqv p q) else .bad
    | _, _ => .bad
def dEq (a b : D) : R D := (dEqB a b).bind fun c => .ok (.bl c)
def dNe (a b : D) : R D := (dEqB a b).bind fun c => .ok (.bl (!c))
theorem dEqB_cases {K : PySem.W.Frag} {mg : Str → Option Value} {G : Hp} {a b : D} {x y : V} (ha : Rep K mg G a x) (hb : Rep K mg G b y) : (∃ c, dEqB a b = .ok c ∧ ((scal x y = true ∧ c = decide (x = y)) ∨ ∃ p q, Dp K G x p ∧ Dp K G y q ∧ SeqAt.shaped p = true ∧ SeqAt.shaped q = true ∧ c = PyData.eqv p q)) ∨ dEqB a b = .bad := by
  unfold dEqB
  split
  · rename_i u v e1 e2
    have := flatD_rep e1 ha
    have := flatD_rep e2 hb
    subst x y
    split
    · exact .inl ⟨_, rfl, .inl ⟨‹_›, rfl⟩⟩
    · exact .inr rfl
  · split
    · rename_i p q e1 e2
      split
      · rename_i h
        exact .inl ⟨_, rfl, .inr ⟨p, q, dp_of _ _ _ ha e1, dp_of _ _ _ hb e2, h.1, h.2, rfl⟩⟩
      · exact .inr rfl
    · exact .inr rfl
mutual
theorem Dp.mono {K : PySem.W.Frag} {G G' : Hp} (s : Same G G') : ∀ (p : PyData) (v : V), Dp K G v p → Dp K G' v p
  | .none, _, h => by cases h; exact .non
  | .bool b, _, h => by cases h; exact .bl b
  | .int i, _, h => by cases h; exact .int i
  | .str x, _, h => by cases h; exact .str x
  | .list ds, _, h => by
    cases h with
    | lst h1 h2 => exact .lst (Same.seq s h1) (DpAll.mono s ds _ h2)
  | .tuple ds, _, h => by
    cases h with
    | tup h1 h2 => exact .tup (Same.seqT s h1) (DpAll.mono s ds _ h2)
  | .dict _, _, h => by cases h
theorem DpAll.mono {K : PySem.W.Frag} {G G' : Hp} (s : Same G G') : ∀ (ps : List PyData) (vs : List V), DpAll K G vs ps → DpAll K G' vs ps
  | [], _, h => by cases h; exact .nil
  | p :: ps, _, h => by
    cases h with
    | cons h1 h2 => exact .cons (Dp.mono s p _ h1) (DpAll.mono s ps _ h2)
end
def rEqS (K : PySem.W.Frag) : R2 := fun x y H Q => rEq x y H Q ∨ rEqD K x y H Q
def rNeS (K : PySem.W.Frag) : R2 := fun x y H Q => rNe x y H Q ∨ rNeD K x y H Q
theorem opw_eq : OpW X W (rEqS X.K) dEq := fun n Z H0 m r σ H q a b x y Q ha hb p => by
  unfold dEq at p
  rcases dEqB_cases ha hb with ⟨c, e, h⟩ | e
  · rw [e] at p
    rcases h with ⟨h1, h2⟩ | ⟨p1, q1, h1, h2, h3, h4, h5⟩
    · subst h2
      exact .inl ⟨h1, p _ H (Same.refl H) (by simp [Rep])⟩
    · subst h5
      exact .inr ⟨p1, q1, Dp.mono hid_sub _ _ h1, Dp.mono hid_sub _ _ h2, h3, h4, p _ H (Same.refl H) (by simp [Rep])⟩
  · rw [e] at p
    exact False.elim p
theorem opw_ne : OpW X W (rNeS X.K) dNe := fun n Z H0 m r σ H q a b x y Q ha hb p => by
  unfold dNe at p
  rcases dEqB_cases ha hb with ⟨c, e, h⟩ | e
  · rw [e] at p
    rcases h with ⟨h1, h2⟩ | ⟨p1, q1, h1, h2, h3, h4, h5⟩
    · subst h2
      exact .inl ⟨h1, p _ H (Same.refl H) (by simp [Rep])⟩
    · subst h5
      exact .inr ⟨p1, q1, Dp.mono hid_sub _ _ h1, Dp.mono hid_sub _ _ h2, h3, h4, p _ H (Same.refl H) (by simp [Rep])⟩
  · rw [e] at p
    exact False.elim p
def dCmp (g : Int → Int → Bool) : D → D → R D
  | .int i, .int j => .ok (.bl (g i j))
  | _, _ => .bad
theorem opw_cmp {g : Int → Int → Bool} : OpW X W (rI0 fun i j => V.bl (g i j)) (dCmp g) := fun n Z H0 m r σ H q a b x y Q ha hb p => by
  cases a <;> cases b <;> try exact False.elim p
  simp only [Rep] at ha hb
  subst ha hb
  exact ⟨_, _, rfl, rfl, p _ H (Same.refl H) (by simp [Rep])⟩
/-- is None, True, False -/
def dIs : D → D → R D
  | .non, .non => .ok (.bl true)
  | .bl _, .non => .ok (.bl false)
  | .int _, .non => .ok (.bl false)
  | .str _, .non => .ok (.bl false)
  | .tup _, .non => .ok (.bl false)
  | .lst _, .non => .ok (.bl false)
  | .slst _, .non => .ok (.bl false)
  | .ins _ _ _, .non => .ok (.bl false)
  | .dct _ _, .non => .ok (.bl false)
  | .bl a, .bl b => .ok (.bl (decide (a = b)))
  | _, _ => .bad
def dIsNot (a b : D) : R D := (dIs a b).bind fun d => match d with
  | .bl c => .ok (.bl (!c))
  | _ => .bad
def rIsS : R2 := fun x y H Q => (y = .non ∧ Q (.bl (decide (x = .non))) H) ∨ ∃ a b, x = .bl a ∧ y = .bl b ∧ Q (.bl (decide (a = b))) H
def rIsNotS : R2 := fun x y H Q => (y = .non ∧ Q (.bl (!decide (x = .non))) H) ∨ ∃ a b, x = .bl a ∧ y = .bl b ∧ Q (.bl (!decide (a = b))) H
theorem dIs_cases {K : PySem.W.Frag} {mg : Str → Option Value} {G : Hp} {a b : D} {x y : V} (ha : Rep K mg G a x) (hb : Rep K mg G b y) : (∃ c, dIs a b = .ok (.bl c) ∧ ((y = .non ∧ c = decide (x = .non)) ∨ ∃ a b, x = .bl a ∧ y = .bl b ∧ c = decide (a = b))) ∨ dIs a b = .bad := by
  cases b <;> cases a <;> (try exact .inr rfl)
  all_goals simp only [Rep] at ha hb
  all_goals first
    | (obtain ⟨a1, C, dx, vs, rfl, _⟩ := ha; subst hb; exact .inl ⟨_, rfl, .inl ⟨rfl, rfl⟩⟩)
    | (obtain ⟨a1, vs, rfl, _⟩ := ha; subst hb; exact .inl ⟨_, rfl, .inl ⟨rfl, rfl⟩⟩)
    | (subst ha hb; exact .inl ⟨_, rfl, .inl ⟨rfl, by simp⟩⟩)
    | (subst ha hb; exact .inl ⟨_, rfl, .inr ⟨_, _, rfl, rfl, rfl⟩⟩)
theorem opw_is : OpW X W rIsS dIs := fun n Z H0 m r σ H q a b x y Q ha hb p => by
  rcases dIs_cases ha hb with ⟨c, e, h⟩ | e
  · rw [e] at p
    rcases h with ⟨h1, h2⟩ | ⟨a, b, h1, h2, h3⟩
    · subst h2
      exact .inl ⟨h1, p _ H (Same.refl H) (by simp [Rep])⟩
    · subst h3
      exact .inr ⟨a, b, h1, h2, p _ H (Same.refl H) (by simp [Rep])⟩
  · rw [e] at p
    exact False.elim p
theorem opw_isNot : OpW X W rIsNotS dIsNot := fun n Z H0 m r σ H q a b x y Q ha hb p => by
  unfold dIsNot at p
  rcases dIs_cases ha hb with ⟨c, e, h⟩ | e
  · rw [e] at p
    rcases h with ⟨h1, h2⟩ | ⟨a, b, h1, h2, h3⟩
    · subst h2
      exact .inl ⟨h1, p _ H (Same.refl H) (by simp [Rep])⟩
    · subst h3
      exact .inr ⟨a, b, h1, h2, p _ H (Same.refl H) (by simp [Rep])⟩
  · rw [e] at p
    exact False.elim p
end
end QB

namespace QB
open PySem PySem.Spec PyProof.Rows L2
section
variable {X : Cx} {W : WX} {a b c e : Expr} {es rest : List Expr} {ma mb mc me : ME} {mt mu : MT} {ta tb te : TE} {pos : Pos} {f : D → D → R D} {rr : R2} {op : CmpOp}

/-! ### comparisons as values, as tests -/
theorem ee_cmpw (ho : OpR X (compareOp op) rr) (hs : OpW X W rr f) (ha : EW X W a ma) (hb : EW X W b mb) (hm : behindInMarks op b = false) : EE X W (.Compare a [op] [b] pos) (mBin f ma mb) := by
  obtain ⟨ta, h1, h2⟩ := ha.ex
  obtain ⟨tb, h3, h4⟩ := hb.ex
  exact ⟨_, pe_cmpR ho h1 h3 hm, SimE.opw h2 h4 hs⟩
def mTB (me : ME) : MT := fun r => (me r).bind fun d => match d with
  | .bl k => .ok k
  | _ => .bad
theorem SimT.of (h : SimE X W te me) : SimT X W (tTest te) (mTB me) := fun n Z H0 m r σ H q Q p => h n Z H0 m r σ H q _ (p.bind.imp fun d k x H1 s1 rx => by
  cases d <;> try exact False.elim k
  simp only [Rep] at rx
  subst rx
  exact ⟨_, rfl, k H1 s1⟩)
theorem et_cmpw (ho : OpR X (compareOp op) rr) (hs : OpW X W rr f) (ha : EW X W a ma) (hb : EW X W b mb) (hm : behindInMarks op b = false) : ET X W (.Compare a [op] [b] pos) (mTB (mBin f ma mb)) := by
  obtain ⟨ta, h1, h2⟩ := ha.ex
  obtain ⟨tb, h3, h4⟩ := hb.ex
  exact ⟨_, pt_cmpR ho h1 h3 hm, SimT.of (SimE.opw h2 h4 hs)⟩
theorem or_eq (hu : X.A.units + 64 < cLine) : OpR X (compareOp .Eq) (rEqS X.K) := OpR.or op_eq (op_eqD hu)
theorem or_ne (hu : X.A.units + 64 < cLine) : OpR X (compareOp .NotEq) (rNeS X.K) := OpR.or op_ne (op_neD hu)
theorem or_is : OpR X (compareOp .Is) rIsS := OpR.or op_isN op_is_bl
theorem or_isNot : OpR X (compareOp .IsNot) rIsNotS := OpR.or op_notN op_isnot_bl
def dLt := dCmp fun i j => decide (i < j)
def dLe := dCmp fun i j => decide (i ≤ j)
def dGt := dCmp fun i j => decide (j < i)
def dGe := dCmp fun i j => decide (j ≤ i)
/-- an expression whose value is a bool, as a test -/
theorem et_val (h : EE X W e me) (he : ∀ whole, isTrue e X.env whole = (do let v ← whole; standAt e.pos; holding [v] (truthy v)) := by intro _; rfl) : ET X W e (mTB me) := by
  obtain ⟨te, h1, h2⟩ := h.ex
  exact ⟨_, pt_val h1 he, SimT.of h2⟩

/-! ### and, or, not -/
def mTAnd (mt mu : MT) : MT := fun r => (mt r).bind fun k => match k with
  | true => mu r
  | false => .ok false
def mTOr (mt mu : MT) : MT := fun r => (mt r).bind fun k => match k with
  | true => .ok true
  | false => mu r
def mTNot (mt : MT) : MT := fun r => (mt r).bind fun k => .ok (!k)
theorem EV2.t (h : EV2 X W e mt) : ET X W e mt := by
  obtain ⟨t, h1, h2⟩ := h.ex
  exact ⟨t, h1.pt, h2⟩
theorem ev_and1 (h : ET X W a mt) : EV2 X W (.BoolOp .And [a] pos) mt := by
  obtain ⟨t, h1, h2⟩ := h.ex
  exact ⟨t, pw_and1 h1, h2⟩
theorem ev_or1 (h : ET X W a mt) : EV2 X W (.BoolOp .Or [a] pos) mt := by
  obtain ⟨t, h1, h2⟩ := h.ex
  exact ⟨t, pw_or1 h1, h2⟩
theorem ev_and (h : ET X W a mt) (g : EV2 X W (.BoolOp .And (b :: rest) pos) mu) : EV2 X W (.BoolOp .And (a :: b :: rest) pos) (mTAnd mt mu) := by
  obtain ⟨t, h1, h2⟩ := h.ex
  obtain ⟨u, h3, h4⟩ := g.ex
  refine ⟨_, pw_and h1 h3, fun n Z H0 m r σ H q Q p => h2 n Z H0 m r σ H q _ (p.bind.imp fun k kk H1 s1 => ?_)⟩
  cases k with
  | true => exact h4 n Z H0 m r σ H1 (q.grow s1) Q ((kk.grow s1).imp fun b z H' s2 => z H' (s1.trans s2))
  | false => exact kk H1 s1
theorem ev_or (h : ET X W a mt) (g : EV2 X W (.BoolOp .Or (b :: rest) pos) mu) : EV2 X W (.BoolOp .Or (a :: b :: rest) pos) (mTOr mt mu) := by
  obtain ⟨t, h1, h2⟩ := h.ex
  obtain ⟨u, h3, h4⟩ := g.ex
  refine ⟨_, pw_or h1 h3, fun n Z H0 m r σ H q Q p => h2 n Z H0 m r σ H q _ (p.bind.imp fun k kk H1 s1 => ?_)⟩
  cases k with
  | false => exact h4 n Z H0 m r σ H1 (q.grow s1) Q ((kk.grow s1).imp fun b z H' s2 => z H' (s1.trans s2))
  | true => exact kk H1 s1
theorem et_not (h : ET X W a mt) : ET X W (.UnaryOp .Not a pos) (mTNot mt) := by
  obtain ⟨t, h1, h2⟩ := h.ex
  exact ⟨_, pt_not h1, fun n Z H0 m r σ H q Q p => h2 n Z H0 m r σ H q _ (p.bind.imp fun k kk H1 s1 => kk H1 s1)⟩
/-- .. as values -/
def mAnd (ma mb : ME) : ME := fun r => (ma r).bind fun d => match d with
  | .bl true => mb r
  | .bl false => .ok (.bl false)
  | _ => .bad
def mOr (ma mb : ME) : ME := fun r => (ma r).bind fun d => match d with
  | .bl true => .ok (.bl true)
  | .bl false => mb r
  | _ => .bad
def mNot (ma : ME) : ME := fun r => (ma r).bind fun d => match d with
  | .bl k => .ok (.bl (!k))
  | _ => .bad
theorem ee_one {bo} (h : EE X W a ma) : EE X W (.BoolOp bo [a] pos) ma := by
  obtain ⟨t, h1, h2⟩ := h.ex
  exact ⟨t, pe_one h1, h2⟩
theorem ee_and (h : EE X W a ma) (g : EE X W (.BoolOp .And (b :: rest) pos) mb) : EE X W (.BoolOp .And (a :: b :: rest) pos) (mAnd ma mb) := by
  obtain ⟨t, h1, h2⟩ := h.ex
  obtain ⟨u, h3, h4⟩ := g.ex
  refine ⟨_, pe_and h1 h3, fun n Z H0 m r σ H q Q p => h2 n Z H0 m r σ H q _ (p.bind.imp fun d k x H1 s1 rx => ?_)⟩
  cases d <;> try exact False.elim k
  rename_i c
  simp only [Rep] at rx
  subst rx
  refine ⟨c, rfl, ?_⟩
  cases c with
  | true => exact h4 n Z H0 m r σ H1 (q.grow s1) Q ((PostG.grow k s1).imp fun d z v H' s2 => z v H' (s1.trans s2))
  | false => exact k _ H1 s1 (by simp [Rep])
theorem ee_or (h : EE X W a ma) (g : EE X W (.BoolOp .Or (b :: rest) pos) mb) : EE X W (.BoolOp .Or (a :: b :: rest) pos) (mOr ma mb) := by
  obtain ⟨t, h1, h2⟩ := h.ex
  obtain ⟨u, h3, h4⟩ := g.ex
  refine ⟨_, pe_or h1 h3, fun n Z H0 m r σ H q Q p => h2 n Z H0 m r σ H q _ (p.bind.imp fun d k x H1 s1 rx => ?_)⟩
  cases d <;> try exact False.elim k
  rename_i c
  simp only [Rep] at rx
  subst rx
  refine ⟨c, rfl, ?_⟩
  cases c with
  | false => exact h4 n Z H0 m r σ H1 (q.grow s1) Q ((PostG.grow k s1).imp fun d z v H' s2 => z v H' (s1.trans s2))
  | true => exact k _ H1 s1 (by simp [Rep])
theorem ee_not (h : EE X W a ma) : EE X W (.UnaryOp .Not a pos) (mNot ma) := by
  obtain ⟨t, h1, h2⟩ := h.ex
  refine ⟨_, pe_not h1, fun n Z H0 m r σ H q Q p => h2 n Z H0 m r σ H q _ (p.bind.imp fun d k x H1 s1 rx => ?_)⟩
  cases d <;> try exact False.elim k
  rename_i c
  simp only [Rep] at rx
  subst rx
  exact ⟨c, rfl, k _ H1 s1 (by simp [Rep])⟩
def mIfE (mt : MT) (ma mb : ME) : ME := fun r => (mt r).bind fun k => match k with
  | true => ma r
  | false => mb r
theorem ee_ifE (hc : ET X W c mt) (ha : EE X W a ma) (hb : EE X W b mb) : EE X W (.IfExp c a b pos) (mIfE mt ma mb) := by
  obtain ⟨t, h1, h2⟩ := hc.ex
  obtain ⟨u, h3, h4⟩ := ha.ex
  obtain ⟨v, h5, h6⟩ := hb.ex
  refine ⟨_, pe_ifExp h1 h3 h5, fun n Z H0 m r σ H q Q p => h2 n Z H0 m r σ H q _ (p.bind.imp fun k kk H1 s1 => ?_)⟩
  cases k with
  | true => exact h4 n Z H0 m r σ H1 (q.grow s1) Q ((PostG.grow kk s1).imp fun d z v H' s2 => z v H' (s1.trans s2))
  | false => exact h6 n Z H0 m r σ H1 (q.grow s1) Q ((PostG.grow kk s1).imp fun d z v H' s2 => z v H' (s1.trans s2))

/-! ### argument lists, displays -/
def mNil : MA := fun _ => .ok []
def mCons (ma : ME) (ms : MA) : MA := fun r => (ma r).bind fun d => (ms r).bind fun ds => .ok (d :: ds)
variable {ms : MA}
theorem ea_nil : EA X W [] mNil := ⟨_, pa_nil, fun n Z H0 m r σ H q Q p => p [] H (Same.refl H) RepL.nil⟩
theorem ea_cons (h : EE X W a ma) (g : EA X W es ms) (hs : starEach (a :: es) X.env = (false, eval a X.env) :: starEach es X.env := by rfl) : EA X W (a :: es) (mCons ma ms) := by
  obtain ⟨t, h1, h2⟩ := h.ex
  obtain ⟨u, h3, h4⟩ := g.ex
  refine ⟨_, pa_cons h1 h3 hs, fun n Z H0 m r σ H q Q p => h2 n Z H0 m r σ H q _ (p.bind.imp fun d k x H1 s1 rx => ?_)⟩
  refine h4 n Z H0 m r σ H1 (q.grow s1) _ ((k.grow s1).bind.imp fun ds k2 xs H2 s2 rxs => ?_)
  exact k2 (x :: xs) H2 (s1.trans s2) (RepL.cons (rx.mono (hid_mono s2)) rxs)
theorem eaw_nil : EAW X W [] mNil := ea_nil.w
theorem eaw_cons (h : EW X W a ma) (g : EAW X W es ms) (hs : starEach (a :: es) X.env = (false, eval a X.env) :: starEach es X.env := by rfl) : EAW X W (a :: es) (mCons ma ms) := by
  obtain ⟨t, h1, h2⟩ := h.ex
  obtain ⟨u, h3, h4⟩ := g.ex
  refine ⟨_, pa_cons h1 h3 hs, fun n Z H0 m r σ H q Q p => h2 n Z H0 m r σ H q _ (p.bind.imp fun d k x H1 s1 rx => ?_)⟩
  refine h4 n Z H0 m r σ H1 (q.grow s1) _ ((k.grow s1).bind.imp fun ds k2 xs H2 s2 rxs => ?_)
  exact k2 (x :: xs) H2 (s1.trans s2) (RepL.cons (rx.mono (hid_mono s2)) rxs)
def mTup (ms : MA) : ME := fun r => (ms r).bind fun ds => if ds.length ≤ sizeLine then .ok (.tup ds) else .bad
def mLst (ms : MA) : MF := fun r => (ms r).bind fun ds => if ds.length ≤ sizeLine then .ok (.l ds) else .bad
theorem ee_tup {x1} (h : EA X W es ms) : EE X W (.Tuple es x1 pos) (mTup ms) := by
  obtain ⟨t, h1, h2⟩ := h.ex
  refine ⟨_, pe_tup h1, fun n Z H0 m r σ H q Q p => h2 n Z H0 m r σ H q _ (p.bind.imp fun ds k xs H1 s1 rx => ?_)⟩
  split at k
  · refine ⟨by rw [rx.length]; assumption, fun c hc => k _ _ (s1.trans (same_upd hc)) ?_⟩
    simp only [Rep]
    exact ⟨c, xs, rfl, .inl (.inl ((q.grow s1).hidNew hc)), rx.mono (hid_mono (same_upd hc))⟩
  · exact False.elim k
theorem ef_lst (h : EA X W es ms) : EF X W (.List es pos) (mLst ms) := by
  obtain ⟨t, h1, h2⟩ := h.ex
  refine ⟨_, pe_lst h1, fun n Z H0 m r σ H q Q p => h2 n Z H0 m r σ H q _ (p.bind.imp fun ds k xs H1 s1 rx => ?_)⟩
  split at k
  · exact ⟨by rw [rx.length]; assumption, fun c hc => k c _ H1 s1 hc ⟨xs, rfl, rx⟩⟩
  · exact False.elim k
theorem ee_lst (h : EA X W es ms) : EE X W (.List es pos) (mCellE (mLst ms)) := (ef_lst h).toE

/-! ### items, slices -/
def seqD : D → Option (List D)
  | .lst xs => some xs
  | .tup xs => some xs
  | .slst xs => some xs
  | _ => none
def dIx : D → D → R D
  | .str z, .int i => if z.length ≤ sizeLine then (match atI z.cps.toList i with
    | some c => .ok (.str ⟨#[c]⟩)
    | none => .bad) else .bad
  | d, .int i => (match seqD d with
    | some xs => (match atI xs i with
      | some x => .ok x
      | none => .bad)
    | none => .bad)
  | _, _ => .bad
theorem RepL.at {K : PySem.W.Frag} {mg : Str → Option Value} {G : Hp} {ds : List D} {vs : List V} {i : Int} {d : D} (h : RepL K mg G ds vs) (e : atI ds i = some d) : ∃ v, atI vs i = some v ∧ Rep K mg G d v := by
  unfold atI at e ⊢
  rw [h.length]
  cases q : ixN ds.length i with
  | none =>
    rw [q] at e
    cases e
  | some j =>
    rw [q] at e
    exact h.get e
theorem seqD_rep {K : PySem.W.Frag} {mg : Str → Option Value} {G : Hp} {d : D} {v : V} {xs : List D} (r : Rep K mg G d v) (h : seqD d = some xs) : ∃ a vs, v = .ref a ∧ (SqL K G a vs ∨ SqT K G a vs) ∧ RepL K mg G xs vs := by
  cases d <;> simp only [seqD, Option.some.injEq, reduceCtorEq] at h <;> subst h <;> simp only [Rep] at r
  · obtain ⟨a, vs, rfl, h1, t⟩ := r
    exact ⟨a, vs, rfl, .inr h1, t⟩
  · obtain ⟨a, vs, rfl, h1, t⟩ := r
    exact ⟨a, vs, rfl, .inl (.inl (.inl h1)), t⟩
  · obtain ⟨a, vs, rfl, h1, t⟩ := r
    exact ⟨a, vs, rfl, .inl h1, t⟩
theorem dIx_cases {K : PySem.W.Frag} {mg : Str → Option Value} {G H : Hp} {d i : D} {x y : V} (s : Same G H) (hd : Rep K mg G d x) (hi : Rep K mg G i y) : (∃ e v, dIx d i = .ok e ∧ Rep K mg G e v ∧ ∀ Q : VK, Q v H → rIx K x y H Q) ∨ dIx d i = .bad := by
  have gen : ∀ (d : D) (i : Int) (xs : List D), Rep K mg G d x → y = .int i → seqD d = some xs → (∃ e v, (match atI xs i with | some x => R.ok x | none => .bad) = .ok e ∧ Rep K mg G e v ∧ ∀ Q : VK, Q v H → rIx K x y H Q) ∨ (match atI xs i with | some x => R.ok x | none => .bad) = .bad := by
    intro d i xs hd hy hs
    cases e : atI xs i with
    | none => exact .inr rfl
    | some z =>
      obtain ⟨a, vs, rfl, hq, t⟩ := seqD_rep hd hs
      obtain ⟨v, e2, rv⟩ := t.at e
      refine .inl ⟨z, v, rfl, rv, fun Q q => ?_⟩
      rcases hq with hq | hq
      · exact .inl ⟨a, vs, i, v, rfl, hy, Same.seq s hq, e2, q⟩
      · exact .inr (.inl ⟨a, vs, i, v, rfl, hy, Same.seqT s hq, e2, q⟩)
  cases i <;> try (cases d <;> exact .inr rfl)
  rename_i i
  have hy : y = .int i := by simpa [Rep] using hi
  cases d
  case str z =>
    have hx : x = .str z := by simpa [Rep] using hd
    simp only [dIx]
    split
    · rename_i hz
      cases e : atI z.cps.toList i with
      | none => exact .inr rfl
      | some c => exact .inl ⟨_, .str ⟨#[c]⟩, rfl, by simp [Rep], fun Q q => .inr (.inr ⟨z, i, c, hx, hy, hz, e, q⟩)⟩
    · exact .inr rfl
  case tup xs => exact gen _ i xs hd hy rfl
  case lst xs => exact gen _ i xs hd hy rfl
  case slst xs => exact gen _ i xs hd hy rfl
  all_goals exact .inr rfl
theorem ops_ix : OpS X W (rIx X.K) dIx := fun n Z H0 m r σ H q a b x y Q ha hb p => by
  rcases dIx_cases (G := hid Z m H) (H := H) hid_sub ha hb with ⟨e, v, h1, h2, h3⟩ | h
  · rw [h1] at p
    exact h3 Q (p v H (Same.refl H) h2)
  · rw [h] at p
    exact False.elim p
theorem ee_ix (ha : EE X W a ma) (hb : EE X W b mb) (hs : PlainIx b := by exact fun _ _ => rfl) : EE X W (.Subscript a b pos) (mBin dIx ma mb) := by
  obtain ⟨ta, h1, h2⟩ := ha.ex
  obtain ⟨tb, h3, h4⟩ := hb.ex
  exact ⟨_, pe_ix ix_seq h1 h3 hs, h2.op h4 ops_ix⟩
/-- an item of a thing that is only read -/
theorem ew_ix (ha : EW X W a ma) (hb : EE X W b mb) (hs : PlainIx b := by exact fun _ _ => rfl) : EW X W (.Subscript a b pos) (mBin dIx ma mb) := by
  obtain ⟨ta, h1, h2⟩ := ha.ex
  obtain ⟨tb, h3, h4⟩ := hb.ex
  refine ⟨_, pe_ix ix_seq h1 h3 hs, fun n Z H0 m r σ H q Q p => ?_⟩
  unfold mBin at p
  refine h2 n Z H0 m r σ H q _ (p.bind.imp fun d k x H1 s1 rx => ?_)
  refine h4 n Z H0 m r σ H1 (q.grow s1) _ ((k.grow s1).bind.imp fun e k2 y H2 s2 ry => ?_)
  rcases dIx_cases (G := hid Z nom H2) (H := H2) hid_sub (rx.mono (hid_mono s2)) (ry.mono hid_nom) with ⟨e, v, g1, g2, g3⟩ | g
  · rw [g1] at k2
    exact g3 Q (k2 v H2 (s1.trans s2) g2)
  · rw [g] at k2
    exact False.elim k2
/-- an item of a slot's own list -/
def dIxL (xs : List D) : D → R D
  | .int j => (match atI xs j with
    | some x => .ok x
    | none => .bad)
  | _ => .bad
def mIxO (i : Nat) (mb : ME) : ME := fun r => match r[i]? with
  | some (some (.own (.l xs))) => (mb r).bind (dIxL xs)
  | _ => .bad
theorem ee_ixo (i : Nat) {x : Str} {p1 : Pos} (hb : EE X W b mb) (hN : X.N[i]? = some x := by rfl) (hv : Vis X.env.scope x := by first | exact Or.inl rfl | exact Or.inr (Or.inl rfl) | exact Or.inr (Or.inr rfl)) (hd : (x == ("__debug__" : Str)) = false := by decide)
    (hcd : (x == ("__classdict__" : Str)) = false := by decide) (hs : PlainIx b := by exact fun _ _ => rfl) : EE X W (.Subscript (.Name x p1) b pos) (mIxO i mb) := by
  obtain ⟨tb, h3, h4⟩ := hb.ex
  refine ⟨_, pe_ix ix_seq (pv i hN hv hd hcd) h3 hs, fun n Z H0 m r σ H q Q p => ?_⟩
  unfold mIxO at p
  split at p
  · rename_i xs e
    obtain ⟨a, o, g1, g2, g3, g4⟩ := q.own i _ e
    obtain ⟨vs, rfl, t⟩ := g4
    refine ⟨_, g2, h4 n Z H0 m r σ H q _ (p.bind.imp fun d k y H1 s1 ry => ?_)⟩
    cases d <;> try exact False.elim k
    rename_i j
    simp only [Rep] at ry
    subst ry
    simp only [dIxL] at k
    cases e2 : atI xs j with
    | none =>
      rw [e2] at k
      exact False.elim k
    | some z =>
      rw [e2] at k
      obtain ⟨v, e3, rv⟩ := t.at e2
      exact .inl ⟨a, vs, j, v, rfl, rfl, .inl (.inl (s1 _ _ g3)), e3, k v H1 s1 (rv.mono (hid_mono s1))⟩
  · exact False.elim p

/-! slices -/
def mPart (o : Option ME) : Sc → R (Option Int) := fun r => match o with
  | none => .ok none
  | some me => (me r).bind fun d => match d with
    | .int i => .ok (some i)
    | _ => .bad
structure EO (X : Cx) (W : WX) (o : Option Expr) (mo : Option ME) : Prop where
  ex : ∃ t, PO X o t ∧ ∀ (n : Nat) (Z : Addr → Prop) (H0 : Hp) (m : Nat → Option Addr) (r : Sc) (σ : L2.St) (H : Hp), Rel X.K X.mg n Z H0 m r σ H → ∀ Q : Option Int → Hp → Prop,
    PostG X.K X.mg Z m W σ H (mPart mo r) (fun i => ∀ (H' : Hp), Same H H' → Q i H') → t σ H Q
theorem eo_none : EO X W none none := ⟨_, po_none, fun n Z H0 m r σ H q Q p => p H (Same.refl H)⟩
theorem eo_some (h : EE X W e me) : EO X W (some e) (some me) := by
  obtain ⟨t, h1, h2⟩ := h.ex
  refine ⟨_, po_some h1, fun n Z H0 m r σ H q Q p => h2 n Z H0 m r σ H q _ (p.bind.imp fun d k x H1 s1 rx => ?_)⟩
  cases d <;> try exact False.elim k
  simp only [Rep] at rx
  subst rx
  exact ⟨_, rfl, k H1 s1⟩
def cutD {α : Type} (xs : List α) (lo hi : Option Int) : List α := (xs.drop (HT.sIx xs.length 0 lo)).take (HT.sIx xs.length xs.length hi - HT.sIx xs.length 0 lo)
def dCut (d : D) (lo hi : Option Int) : R D := match d with
  | .lst xs => .ok (.lst (cutD xs lo hi))
  | .slst xs => .ok (.lst (cutD xs lo hi))
  | .tup xs => .ok (.tup (cutD xs lo hi))
  | .str z => if z.length ≤ sizeLine then .ok (.str (cutS z lo hi)) else .bad
  | _ => .bad
def mCut (me : ME) (lo hi : Option ME) : ME := fun r => (me r).bind fun d => (mPart lo r).bind fun l => (mPart hi r).bind fun h => dCut d l h
theorem RepL.cut {K : PySem.W.Frag} {mg : Str → Option Value} {G : Hp} {ds : List D} {vs : List V} (h : RepL K mg G ds vs) (lo hi : Option Int) : RepL K mg G (cutD ds lo hi) (cutV vs lo hi) := by
  unfold cutD cutV
  rw [h.length]
  exact (h.drop _).take _
theorem cut_all {α : Type} {xs : List α} {lo hi : Option Int} (h : HT.sIx xs.length 0 lo = 0 ∧ HT.sIx xs.length xs.length hi = xs.length) : cutD xs lo hi = xs := by
  unfold cutD
  rw [h.1, h.2]
  simp
variable {lo hi : Option Expr} {ml mh : Option ME} {p2 : Pos}
theorem ee_cut (ha : EE X W a ma) (hl : EO X W lo ml) (hh : EO X W hi mh) : EE X W (.Subscript a (.Slice lo hi none p2) pos) (mCut ma ml mh) := by
  obtain ⟨ta, h1, h2⟩ := ha.ex
  obtain ⟨tl, h3, h4⟩ := hl.ex
  obtain ⟨th, h5, h6⟩ := hh.ex
  refine ⟨_, pe_slice (SlR.or sl_list (SlR.or sl_tupA sl_str)) h1 h3 h5, fun n Z H0 m r σ H q Q p => ?_⟩
  unfold mCut at p
  refine h2 n Z H0 m r σ H q _ (p.bind.imp fun d k x H1 s1 rx => ?_)
  refine h4 n Z H0 m r σ H1 (q.grow s1) _ ((k.grow s1).bind.imp fun l k2 H2 s2 => ?_)
  refine h6 n Z H0 m r σ H2 ((q.grow s1).grow s2) _ ((k2.grow s2).bind.imp fun u k3 H3 s3 => ?_)
  have sA := s1.trans (s2.trans s3)
  have q3 := ((q.grow s1).grow s2).grow s3
  have rx3 := rx.mono (hid_mono (s2.trans s3))
  cases d <;> try exact False.elim k3
  · rename_i z
    simp only [Rep] at rx3
    subst rx3
    simp only [dCut] at k3
    split at k3
    · exact .inr (.inr ⟨z, rfl, ‹_›, k3 _ H3 sA (by simp [Rep])⟩)
    · exact False.elim k3
  · rename_i xs
    simp only [Rep] at rx3
    obtain ⟨a1, vs, rfl, hq, t⟩ := rx3
    refine .inr (.inl ⟨a1, vs, rfl, Same.seqT hid_sub hq, fun hc => ?_, fun hc c nc => ?_⟩)
    · rw [t.length] at hc
      refine k3 _ H3 sA ?_
      rw [cut_all hc]
      simp only [Rep]
      exact ⟨a1, vs, rfl, hq, t⟩
    · refine k3 _ _ (sA.trans (same_upd nc)) ?_
      simp only [Rep]
      exact ⟨c, _, rfl, .inl (.inl (q3.hidNew nc)), (t.cut l u).mono (hid_mono (same_upd nc))⟩
  · rename_i xs
    simp only [Rep] at rx3
    obtain ⟨a1, vs, rfl, hq, t⟩ := rx3
    refine .inl ⟨a1, vs, rfl, .inl (.inl (hid_sub _ _ hq)), fun c nc => k3 _ _ (sA.trans (same_upd nc)) ?_⟩
    simp only [Rep]
    exact ⟨c, _, rfl, q3.hidNew nc, (t.cut l u).mono (hid_mono (same_upd nc))⟩
  · rename_i xs
    simp only [Rep] at rx3
    obtain ⟨a1, vs, rfl, hq, t⟩ := rx3
    refine .inl ⟨a1, vs, rfl, Same.seq hid_sub hq, fun c nc => k3 _ _ (sA.trans (same_upd nc)) ?_⟩
    simp only [Rep]
    exact ⟨c, _, rfl, q3.hidNew nc, (t.cut l u).mono (hid_mono (same_upd nc))⟩

/-! ### built-ins of one argument that is read only -/
def mCallB (f : List D → R D) (ms : MA) : ME := fun r => (ms r).bind f
/-- a built-in by values: arguments read only, the answer a plain value of its own -/
def BuW (X : Cx) (W : WX) (rr : List V → Hp → VK → Prop) (f : List D → R D) : Prop := ∀ (n : Nat) (Z : Addr → Prop) (H0 : Hp) (m : Nat → Option Addr) (r : Sc) (σ : L2.St) (H : Hp), Rel X.K X.mg n Z H0 m r σ H → ∀ (ds : List D) (vs : List V) (Q : VK),
  RepL X.K X.mg (hid Z nom H) ds vs → PostG X.K X.mg Z m W σ H (f ds) (fun d => ∀ (v : V) (H' : Hp), Same H H' → Rep X.K X.mg (hid Z m H') d v → Q v H') → rr vs H Q
def BuS (X : Cx) (W : WX) (rr : List V → Hp → VK → Prop) (f : List D → R D) : Prop := ∀ (n : Nat) (Z : Addr → Prop) (H0 : Hp) (m : Nat → Option Addr) (r : Sc) (σ : L2.St) (H : Hp), Rel X.K X.mg n Z H0 m r σ H → ∀ (ds : List D) (vs : List V) (Q : VK),
  RepL X.K X.mg (hid Z m H) ds vs → PostG X.K X.mg Z m W σ H (f ds) (fun d => ∀ (v : V) (H' : Hp), Same H H' → Rep X.K X.mg (hid Z m H') d v → Q v H') → rr vs H Q
variable {tt : TA} {ff : List D → R D} {br : List V → Hp → VK → Prop} {x id T : String}
theorem SimE.bw (ha : SimAW X W tt ms) (hb : BuW X W br ff) : SimE X W (tCB br tt) (mCallB ff ms) := fun n Z H0 m r σ H q Q p => by
  unfold mCallB at p
  refine ha n Z H0 m r σ H q _ (p.bind.imp fun ds k vs H1 s1 rx => ?_)
  exact hb n Z H0 m r σ H1 (q.grow s1) ds vs Q rx ((k.grow s1).imp fun d k3 v H' s3 rv => k3 v H' (s1.trans s3) rv)
theorem SimE.bs (ha : SimA X W tt ms) (hb : BuS X W br ff) : SimE X W (tCB br tt) (mCallB ff ms) := fun n Z H0 m r σ H q Q p => by
  unfold mCallB at p
  refine ha n Z H0 m r σ H q _ (p.bind.imp fun ds k vs H1 s1 rx => ?_)
  exact hb n Z H0 m r σ H1 (q.grow s1) ds vs Q rx ((k.grow s1).imp fun d k3 v H' s3 rv => k3 v H' (s1.trans s3) rv)
/-- len(x) -/
def dLen : List D → R D
  | [.str z] => if z.length ≤ sizeLine then .ok (.int z.length) else .bad
  | [d] => (match seqD d with
    | some xs => .ok (.int xs.length)
    | none => .bad)
  | _ => .bad
theorem RepL.one {K : PySem.W.Frag} {mg : Str → Option Value} {G : Hp} {d : D} {vs : List V} (h : RepL K mg G [d] vs) : ∃ v, vs = [v] ∧ Rep K mg G d v := by
  simp only [RepL] at h
  obtain ⟨v, us, rfl, r, rfl⟩ := h
  exact ⟨v, rfl, r⟩
theorem RepL.two {K : PySem.W.Frag} {mg : Str → Option Value} {G : Hp} {d e : D} {vs : List V} (h : RepL K mg G [d, e] vs) : ∃ v w, vs = [v, w] ∧ Rep K mg G d v ∧ Rep K mg G e w := by
  simp only [RepL] at h
  obtain ⟨v, us, rfl, r, w, us', rfl, r', rfl⟩ := h
  exact ⟨v, w, rfl, r, r'⟩
theorem bu_len : BuW X W (fun xs H Q => ∃ x n, xs = [x] ∧ LenV X.K x H n ∧ Q (.int n) H) dLen := fun n Z H0 m r σ H q ds vs Q h p => by
  have gen : ∀ (d : D) (xs : List D), ds = [d] → seqD d = some xs → (∀ (v : V) (H' : Hp), Same H H' → Rep X.K X.mg (hid Z m H') (.int xs.length) v → Q v H') → ∃ x n, vs = [x] ∧ LenV X.K x H n ∧ Q (.int n) H := by
    intro d xs e hs k
    subst e
    obtain ⟨v, rfl, rv⟩ := h.one
    obtain ⟨a, us, rfl, hq, t⟩ := seqD_rep rv hs
    refine ⟨_, us.length, rfl, ?_, k _ H (Same.refl H) (by simp [Rep, t.length])⟩
    rcases hq with hq | hq
    · exact .inl ⟨us, Same.seq hid_sub hq, rfl⟩
    · exact .inr ⟨us, Same.seqT hid_sub hq, rfl⟩
  cases ds with
  | nil => exact False.elim p
  | cons d r =>
    cases r with
    | cons _ _ => cases d <;> exact False.elim p
    | nil =>
      cases d <;> try exact False.elim p
      · rename_i z
        obtain ⟨v, rfl, rv⟩ := h.one
        simp only [Rep] at rv
        subst rv
        simp only [dLen] at p
        split at p
        · exact ⟨_, z.length, rfl, ⟨‹_›, rfl⟩, p _ H (Same.refl H) (by simp [Rep])⟩
        · exact False.elim p
      · exact gen _ _ rfl rfl p
      · exact gen _ _ rfl rfl p
      · exact gen _ _ rfl rfl p
theorem ee_len {p1} (hm : X.mg "len" = none) (hg : Gl X "len") (ha : EAW X W (a :: es) ms) (he : starEach (a :: es) X.env = (false, eval a X.env) :: starEach es X.env := by rfl) (hpl : (backTo pos (starEach es X.env)).any (·.1) = false := by rfl) :
    EE X W (.Call (.Name "len" p1) (a :: es) [] pos) (mCallB dLen ms) := by
  obtain ⟨ta, h1, h2⟩ := ha.ex
  exact ⟨_, pe_callB call_len hg hm boot_len h1 (by decide) (by decide) he hpl, SimE.bw h2 bu_len⟩
/-- int(x) -/
def dInt : List D → R D
  | [.int i] => .ok (.int i)
  | [.bl k] => .ok (.int (if k then 1 else 0))
  | _ => .bad
theorem bu_int : BuW X W (fun xs H Q => (∃ i, xs = [.int i] ∧ Q (.int i) H) ∨ ∃ k, xs = [.bl k] ∧ Q (.int (if k then 1 else 0)) H) dInt := fun n Z H0 m r σ H q ds vs Q h p => by
  cases ds with
  | nil => exact False.elim p
  | cons d r =>
    cases r with
    | cons _ _ => cases d <;> exact False.elim p
    | nil =>
      cases d <;> try exact False.elim p
      all_goals
        obtain ⟨v, rfl, rv⟩ := h.one
        simp only [Rep] at rv
        subst rv
      · exact .inr ⟨_, rfl, p _ H (Same.refl H) (by simp [Rep])⟩
      · exact .inl ⟨_, rfl, p _ H (Same.refl H) (by simp [Rep])⟩
theorem ee_intc {p1} (hm : X.mg "int" = none) (hg : Gl X "int") (ha : EAW X W (a :: es) ms) (he : starEach (a :: es) X.env = (false, eval a X.env) :: starEach es X.env := by rfl) (hpl : (backTo pos (starEach es X.env)).any (·.1) = false := by rfl) :
    EE X W (.Call (.Name "int" p1) (a :: es) [] pos) (mCallB dInt ms) := by
  obtain ⟨ta, h1, h2⟩ := ha.ex
  exact ⟨_, pe_callTy call_int1 hg hm boot_int h1 (by decide) (by decide) he hpl, SimE.bw h2 bu_int⟩
/-- isinstance(x, T), T a built-in type -/
def tyN : D → Option String
  | .non => some "NoneType"
  | .bl _ => some "bool"
  | .int _ => some "int"
  | .str _ => some "str"
  | .tup _ => some "tuple"
  | .lst _ => some "list"
  | .slst _ => some "list"
  | .ins _ _ _ => none
  | .dct _ _ => some "dict"
  | .xob _ _ _ => none
  | .exv _ _ _ _ _ => none
theorem tyx_of {K : PySem.W.Frag} {mg : Str → Option Value} {G : Hp} {d : D} {v : V} {t : String} (r : Rep K mg G d v) (h : tyN d = some t) : TyX K G v (.type t) := by
  cases d <;> simp only [tyN, Option.some.injEq, reduceCtorEq] at h <;> subst h <;> simp only [Rep] at r
  · subst r
    exact .base .non
  · subst r
    exact .base (.bl _)
  · subst r
    exact .base (.int _)
  · subst r
    exact .base (.str _)
  · obtain ⟨a, vs, rfl, hq, t⟩ := r
    rcases hq with (hq | ⟨o, hq⟩) | ⟨o, its, n, hk, hc, _⟩
    · exact .base (.tup hq)
    · exact .fTuple hq
    · exact .kTuple hk hc
  · obtain ⟨a, vs, rfl, hq, t⟩ := r
    exact .base (.lst hq)
  · obtain ⟨a, vs, rfl, hq, t⟩ := r
    rcases hq with (hq | ⟨o, hq⟩) | ⟨o, its, n, hk, hc, _⟩
    · exact .base (.lst hq)
    · exact .base (.frz hq)
    · exact .kList hk hc
  · obtain ⟨a, vs, rfl, hq, l, t⟩ := r
    exact .base (.dK hq)
theorem TyX.mono {K : PySem.W.Frag} {G G' : Hp} {v : V} {t : String} (s : Same G G') (h : TyX K G v (.type t)) : TyX K G' v (.type t) := by
  cases h with
  | base h =>
    cases h with
    | non => exact .base .non
    | bl b => exact .base (.bl b)
    | int i => exact .base (.int i)
    | str s => exact .base (.str s)
    | flt s => exact .base (.flt s)
    | lst e => exact .base (.lst (s _ _ e))
    | frz e => exact .base (.frz (s _ _ e))
    | tup e => exact .base (.tup (s _ _ e))
    | dK e => exact .base (.dK (s _ _ e))
    | dT e => exact .base (.dT (s _ _ e))
  | byt b => exact .byt b
  | set e => exact .set (s _ _ e)
  | kList e c => exact .kList e c
  | kTuple e c => exact .kTuple e c
  | kDict e c => exact .kDict e c
  | fTuple e => exact .fTuple (s _ _ e)
  | fDict e => exact .fDict (s _ _ e)
/-- the answers, by the type's name -/
def isiB (T : String) (t : String) : Bool := t == T || (t == "bool" && T == "int")
def KitT (T : String) : Prop := ∀ t ∈ ["NoneType", "bool", "int", "str", "tuple", "list", "dict"], kitB t T = some (isiB T t)
theorem kit_int : KitT "int" := by
  intro t h
  simp only [List.mem_cons, List.not_mem_nil, or_false] at h
  rcases h with rfl | rfl | rfl | rfl | rfl | rfl | rfl <;> decide +kernel
theorem kit_bool : KitT "bool" := by
  intro t h
  simp only [List.mem_cons, List.not_mem_nil, or_false] at h
  rcases h with rfl | rfl | rfl | rfl | rfl | rfl | rfl <;> decide +kernel
theorem kit_str : KitT "str" := by
  intro t h
  simp only [List.mem_cons, List.not_mem_nil, or_false] at h
  rcases h with rfl | rfl | rfl | rfl | rfl | rfl | rfl <;> decide +kernel
theorem kit_tuple : KitT "tuple" := by
  intro t h
  simp only [List.mem_cons, List.not_mem_nil, or_false] at h
  rcases h with rfl | rfl | rfl | rfl | rfl | rfl | rfl <;> decide +kernel
theorem kit_list : KitT "list" := by
  intro t h
  simp only [List.mem_cons, List.not_mem_nil, or_false] at h
  rcases h with rfl | rfl | rfl | rfl | rfl | rfl | rfl <;> decide +kernel
def dIsi (T : String) (d : D) : R D := match tyN d with
  | some t => .ok (.bl (isiB T t))
  | none => .bad
def mIsi (T : String) (me : ME) : ME := fun r => (me r).bind (dIsi T)
theorem tyN_mem {d : D} {t : String} (h : tyN d = some t) : t ∈ ["NoneType", "bool", "int", "str", "tuple", "list", "dict"] := by
  cases d <;> simp only [tyN, Option.some.injEq, reduceCtorEq] at h <;> subst h <;> simp
theorem ee_isi {T : Str} {Ts : String} {p1 p3 : Pos} (hm : X.mg "isinstance" = none) (hg : Gl X "isinstance") (hmT : X.mg T = none) (hgT : Gl X T) (hbT : bootBuiltins T = some (.type Ts)) (kt : KitT Ts) (ha : EW X W a ma) (hn : T ≠ "__name__" := by decide) (hd : (T == ("__debug__" : Str)) = false := by decide)
    (he : starEach [a, .Name T p3] X.env = (false, eval a X.env) :: starEach [.Name T p3] X.env := by rfl) (he2 : starEach [.Name T p3] X.env = (false, eval (.Name T p3) X.env) :: starEach [] X.env := by rfl) (hpl : (backTo pos (starEach [.Name T p3] X.env)).any (·.1) = false := by rfl) :
    EE X W (.Call (.Name "isinstance" p1) [a, .Name T p3] [] pos) (mIsi Ts ma) := by
  obtain ⟨ta, h1, h2⟩ := ha.ex
  refine ⟨_, pe_callB call_isi hg hm boot_isinstance (pa_cons h1 (pa_cons (pe_bltn (v := .ty Ts) hgT hmT hbT rfl hn hd) pa_nil he2) he) (by decide) (by decide) he hpl, fun n Z H0 m r σ H q Q p => ?_⟩
  unfold mIsi at p
  refine h2 n Z H0 m r σ H q _ (p.bind.imp fun d k x H1 s1 rx => ?_)
  unfold dIsi at k
  split at k
  · rename_i t e
    exact ⟨x, _, _, _, _, rfl, .ty Ts, TyX.mono hid_sub (tyx_of rx e), kit_ty (kt t (tyN_mem e)), k _ H1 s1 (by simp [Rep])⟩
  · exact False.elim k
end
end QB

namespace QB
open PySem PySem.Spec PyProof.Rows L2

/-! ### the promise of a def by its mirror -/
def PostF (K : PySem.W.Frag) (mg : Str → Option Value) (Z : Addr → Prop) (H : Hp) (x : R D) (Q : VK) (E : XK) : Prop := match x with
  | .ok d => ∀ (v : V) (H' : Hp), Same H H' → Rep K mg (hid Z nom H') d v → Q v H'
  | .exc c ns xs => ∀ (C : Addr) (d : Option Addr) (H' : Hp), Same H H' → ExcAt K mg (hid Z nom H') c ns xs C d → E (.ref C) d H'
  | .bad => False
def PF (K : PySem.W.Frag) (mg : Str → Option Value) (n : Nat) (mf : List D → R D) : Sp := fun vs H Q E => vs.length = n ∧ ∃ (ds : List D) (Z : Addr → Prop), (∀ b, Z b → H b ≠ none) ∧ RepL K mg (hid Z nom H) ds vs ∧ PostF K mg Z H (mf ds) Q E
theorem hid_join {Z : Addr → Prop} {m : Nat → Option Addr} {H : Hp} : hid (fun b => Z b ∨ ∃ i, m i = some b) nom H = hid Z m H := by
  funext b
  unfold hid
  by_cases h : Z b ∨ ∃ i, m i = some b
  · rw [if_pos h, if_pos (.inl h)]
  · rw [if_neg h, if_neg]
    rintro (q | ⟨i, q⟩)
    · exact h q
    · cases q
theorem Rel.zed' {K : PySem.W.Frag} {mg : Str → Option Value} {n : Nat} {Z : Addr → Prop} {H0 : Hp} {m : Nat → Option Addr} {r : Sc} {σ : L2.St} {H : Hp} (q : Rel K mg n Z H0 m r σ H) : ∀ b, (Z b ∨ ∃ i, m i = some b) → H b ≠ none := fun b h => by
  rcases h with h | ⟨i, h⟩
  · exact q.zed b h
  · obtain ⟨o, ho⟩ := q.alive h
    rw [ho]
    intro z
    cases z
section
variable {X : Cx} {W : WX} {a b c e : Expr} {es rest : List Expr} {ma mb mc me : ME} {ms : MA} {pos : Pos} {f : Addr} {fd : FuncData} {ps : List Str} {mf : List D → R D} {k kk n : Nat} {x : Str} {p1 : Pos} {CX : CXT}
theorem pf_strong {m : Nat → Option Addr} {r : Sc} {σ : L2.St} {H0 H : Hp} {Z : Addr → Prop} {nn : Nat} (q : Rel X.K X.mg nn Z H0 m r σ H) {ds : List D} {vs : List V} {Q : VK} (hl : vs.length = n) (h : RepL X.K X.mg (hid Z m H) ds vs)
    (p : PostG X.K X.mg Z m W σ H (mf ds) (fun d => ∀ (v : V) (H' : Hp), Same H H' → Rep X.K X.mg (hid Z m H') d v → Q v H')) : PF X.K X.mg n mf vs H Q (WE W σ) := by
  refine ⟨hl, ds, fun b => Z b ∨ ∃ i, m i = some b, q.zed', by rw [hid_join]; exact h, ?_⟩
  cases e : mf ds with
  | ok d =>
    rw [e] at p
    intro v H' s t
    rw [hid_join] at t
    exact p v H' s t
  | exc cc ns xs =>
    rw [e] at p
    intro C d H' s t
    rw [hid_join] at t
    exact p C d H' s t
  | bad =>
    rw [e] at p
    exact p
theorem pf_weak {m : Nat → Option Addr} {r : Sc} {σ : L2.St} {H0 H : Hp} {Z : Addr → Prop} {nn : Nat} (q : Rel X.K X.mg nn Z H0 m r σ H) {ds : List D} {vs : List V} {Q : VK} (hl : vs.length = n) (h : RepL X.K X.mg (hid Z nom H) ds vs) (hx : ∀ c ns xs, mf ds ≠ .exc c ns xs)
    (p : PostG X.K X.mg Z m W σ H (mf ds) (fun d => ∀ (v : V) (H' : Hp), Same H H' → Rep X.K X.mg (hid Z nom H') d v → Q v H')) : PF X.K X.mg n mf vs H Q (WE W σ) := by
  refine ⟨hl, ds, Z, q.zed, h, ?_⟩
  cases e : mf ds with
  | ok d =>
    rw [e] at p
    exact p
  | exc cc ns xs => exact absurd e (hx _ _ _)
  | bad =>
    rw [e] at p
    exact p
theorem SimA.len {t : TA} (ha : SimA X W t ms) (hl : ∀ r ds, ms r = .ok ds → ds.length = n) (sp : Sp) : SimE X W (tCallS (PF X.K X.mg n mf) (WE W) t) (mCallB mf ms) := fun nn Z H0 m r σ H q Q p => by
  unfold mCallB at p
  have p' := p.bind
  cases e : ms r with
  | ok ds =>
    refine ha nn Z H0 m r σ H q _ ?_
    rw [e] at p' ⊢
    intro vs H1 s1 rx
    have p2 : PostG X.K X.mg Z m W σ H (mf ds) (fun d => ∀ (v : V) (H' : Hp), Same H H' → Rep X.K X.mg (hid Z m H') d v → Q v H') := p'
    exact pf_strong (q.grow s1) (by rw [rx.length, hl r ds e]) rx ((p2.grow s1).imp fun d k3 v H' s3 rv => k3 v H' (s1.trans s3) rv)
  | exc cc ns xs =>
    refine ha nn Z H0 m r σ H q _ ?_
    rw [e] at p' ⊢
    exact p'
  | bad =>
    rw [e] at p'
    exact False.elim p'
/-- how many values a mirror of arguments hands on -/
def ALen (ms : MA) (n : Nat) : Prop := ∀ r ds, ms r = .ok ds → ds.length = n
theorem al_nil : ALen mNil 0 := fun r ds h => by
  cases h
  rfl
theorem al_cons {n : Nat} (h : ALen ms n) : ALen (mCons ma ms) (n + 1) := fun r ds e => by
  unfold mCons at e
  cases e1 : ma r with
  | ok d =>
    rw [e1] at e
    cases e2 : ms r with
    | ok dd =>
      rw [e2] at e
      simp only [R.bind] at e
      cases e
      rw [List.length_cons, h r dd e2]
    | exc _ _ _ =>
      rw [e2] at e
      cases e
    | bad =>
      rw [e2] at e
      cases e
  | exc _ _ _ =>
    rw [e1] at e
    cases e
  | bad =>
    rw [e1] at e
    cases e
theorem ee_call (tk : Takes X W) (F : FnOk X.prog X.w X.K X.mg X.base (L2.CX X.prog X.w) k f fd ps (PF X.K X.mg n mf)) (hr : Room kk X.A) (hk : k ≤ kk) (hm : X.mg x = some (.ref f)) (hkp : PySem.W.keepIn X.K (.ref f) = true) (hb : Binds X.K fd ps [])
    (ha : EA X W (a :: es) ms) (hl : ALen ms n) (hg : Gl X x := by rfl) (hdb : (x == ("__debug__" : Str)) = false := by decide) (he : starEach (a :: es) X.env = (false, eval a X.env) :: starEach es X.env := by rfl) (hpl : (backTo pos (starEach es X.env)).any (·.1) = false := by rfl) :
    EE X W (.Call (.Name x p1) (a :: es) [] pos) (mCallB mf ms) := by
  obtain ⟨t, h1, h2⟩ := ha.ex
  exact ⟨_, pe_callS F (hr.mono hk) hg hm hkp hb (fun σ => passAt tk σ) h1 hdb he hpl, h2.len hl (PF X.K X.mg n mf)⟩
/-- a plain answer of a thing that is only read -/
def mScal (me : ME) : ME := fun r => (me r).bind fun d => match d with
  | .non => .ok .non
  | .bl b => .ok (.bl b)
  | .int i => .ok (.int i)
  | .str s => .ok (.str s)
  | _ => .bad
theorem EW.s (h : EW X W e me) : EE X W e (mScal me) := by
  obtain ⟨te, h1, h2⟩ := h.ex
  refine ⟨te, h1, fun n Z H0 m r σ H q Q p => h2 n Z H0 m r σ H q Q (p.bind.imp fun d k v H' s rv => ?_)⟩
  cases d <;> first | exact False.elim k | (refine k v H' s ?_; simp only [Rep] at rv ⊢; exact rv)
end

/-! ### statements -/
def PostS (K : PySem.W.Frag) (mg : Str → Option Value) (n : Nat) (Z : Addr → Prop) (H0 : Hp) (W : WX) (G : Hp) (x : Fl) (D : Ends) : Prop := match x with
  | .nx r => ∀ (m : Nat → Option Addr) (σ : L2.St) (H : Hp), Rel K mg n Z H0 m r σ H → Same G (hid Z m H) → D.nx σ H
  | .bk r => ∀ (m : Nat → Option Addr) (σ : L2.St) (H : Hp), Rel K mg n Z H0 m r σ H → Same G (hid Z m H) → D.bk σ H
  | .ct r => ∀ (m : Nat → Option Addr) (σ : L2.St) (H : Hp), Rel K mg n Z H0 m r σ H → Same G (hid Z m H) → D.ct σ H
  | .rt d => ∀ (v : V) (H : Hp), Same H0 H → Rep K mg (hid Z nom H) d v → D.rt v H
  | .rc c => ∀ (p : Addr) (o : HO) (H : Hp), Same H0 H → H p = none → CellOk K mg (hid Z nom H) o c → D.rt (.ref p) (upd H p o)
  | .ex c ns xs r => ∀ (m : Nat → Option Addr) (σ : L2.St) (H : Hp) (C : Addr) (d : Option Addr), Rel K mg n Z H0 m r σ H → Same G (hid Z m H) → ExcAt K mg (hid Z m H) c ns xs C d → W (.ref C) d σ H
  | .bad => False
section
variable {K : PySem.W.Frag} {mg : Str → Option Value} {n : Nat} {Z : Addr → Prop} {H0 G G' : Hp} {W : WX} {x : Fl} {D D' : Ends}
theorem PostS.grow (h : PostS K mg n Z H0 W G x D) (s : Same G G') : PostS K mg n Z H0 W G' x D := by
  cases x with
  | nx r => exact fun m σ H q t => h m σ H q (s.trans t)
  | bk r => exact fun m σ H q t => h m σ H q (s.trans t)
  | ct r => exact fun m σ H q t => h m σ H q (s.trans t)
  | rt d => exact h
  | rc d => exact h
  | ex c ns xs r => exact fun m σ H C d q t e => h m σ H C d q (s.trans t) e
  | bad => exact h
end
def toFl {β : Type} (r : Sc) (x : R β) (k : β → Fl) : Fl := match x with
  | .ok b => k b
  | .exc c ns xs => .ex c ns xs r
  | .bad => .bad
theorem toFl_post {K : PySem.W.Frag} {mg : Str → Option Value} {n : Nat} {Z : Addr → Prop} {H0 H : Hp} {m : Nat → Option Addr} {σ : L2.St} {W : WX} {D : Ends} {β : Type} {r : Sc} {x : R β} {k : β → Fl} (q : Rel K mg n Z H0 m r σ H)
    (h : PostS K mg n Z H0 W (hid Z m H) (toFl r x k) D) : PostG K mg Z m W σ H x (fun b => PostS K mg n Z H0 W (hid Z m H) (k b) D) := by
  cases x with
  | ok b => exact h
  | exc c ns xs => exact fun C d H' s e => h m σ H' C d (q.grow s) (hid_mono s) e
  | bad => exact h
def SimS (X : Cx) (W : WX) (ts : TS) (ms : MS) : Prop := ∀ (n : Nat) (Z : Addr → Prop) (H0 : Hp) (m : Nat → Option Addr) (r : Sc) (σ : L2.St) (H : Hp), n = X.N.length → Rel X.K X.mg n Z H0 m r σ H → ∀ D : Ends,
  PostS X.K X.mg n Z H0 W (hid Z m H) (ms r) D → ts D σ H
structure ES (X : Cx) (W : WX) (st : Stmt) (ms : MS) : Prop where
  ex : ∃ ts, PS X st ts ∧ SimS X W ts ms
structure EB (X : Cx) (W : WX) (sts : List Stmt) (ms : MS) : Prop where
  ex : ∃ ts, PSs X sts ts ∧ SimS X W ts ms
def mNx : MS := fun r => .nx r
def mSeq (a b : MS) : MS := fun r => match a r with
  | .nx r' => b r'
  | f => f
section
variable {X : Cx} {W : WX} {st : Stmt} {sts : List Stmt} {ms mu : MS} {me : ME} {mf : MF} {mt : MT} {e : Expr} {pos : Pos} {ts tu : TS}
theorem SimS.nx : SimS X W tNext mNx := fun n Z H0 m r σ H _ q D p => p m σ H q (Same.refl _)
theorem SimS.seq (h : SimS X W ts ms) (g : SimS X W tu mu) : SimS X W (tSeq ts tu) (mSeq ms mu) := fun n Z H0 m r σ H hn q D p => by
  refine h n Z H0 m r σ H hn q _ ?_
  unfold mSeq at p
  cases e : ms r with
  | nx r' =>
    rw [e] at p
    exact fun m' σ' H' q' s => g n Z H0 m' r' σ' H' hn q' D (p.grow s)
  | bk r' =>
    rw [e] at p
    exact p
  | ct r' =>
    rw [e] at p
    exact p
  | rt d =>
    rw [e] at p
    exact p
  | rc d =>
    rw [e] at p
    exact p
  | ex c ns xs r' =>
    rw [e] at p
    exact p
  | bad =>
    rw [e] at p
    exact p
theorem eb_nil : EB X W [] mNx := ⟨_, pss_nil, SimS.nx⟩
theorem eb_one (h : ES X W st ms) : EB X W [st] ms := by
  obtain ⟨t, h1, h2⟩ := h.ex
  exact ⟨t, pss_one h1, h2⟩
theorem eb_cons (h : ES X W st ms) (g : EB X W sts mu) : EB X W (st :: sts) (mSeq ms mu) := by
  obtain ⟨t, h1, h2⟩ := h.ex
  obtain ⟨u, h3, h4⟩ := g.ex
  exact ⟨_, pss_cons h1 h3, h2.seq h4⟩
def mSet (i : Nat) (me : ME) : MS := fun r => toFl r (me r) fun d => .nx (r.set i (some (.val d)))
def mSetO (i : Nat) (mf : MF) : MS := fun r => toFl r (mf r) fun c => .nx (r.set i (some (.own c)))
theorem SimS.set {te : TE} {i : Nat} (hi : i < X.N.length) (h : SimE X W te me) : SimS X W (tAsg te (gName i)) (mSet i me) := fun n Z H0 m r σ H hn q D p => by
  refine h n Z H0 m r σ H q _ ((toFl_post q p).imp fun d k v H' s rv => ?_)
  exact k _ _ H' ((q.grow s).setv (by rw [hn]; exact hi) rv) ((hid_mono s).trans same_drp)
theorem SimS.setO {te : TE} {i : Nat} (hi : i < X.N.length) (h : SimF X W te mf) : SimS X W (tAsg te (gName i)) (mSetO i mf) := fun n Z H0 m r σ H hn q D p => by
  refine h n Z H0 m r σ H q _ ((toFl_post q p).imp fun c k b o H' s nb hc => ?_)
  obtain ⟨q2, s2⟩ := (q.grow s).seto (i := i) (by rw [hn]; exact hi) nb hc
  exact k _ _ _ q2 ((hid_mono s).trans s2)
theorem es_set {i : Nat} {x : Str} {pos' : Pos} (he : EE X W e me) (hN : X.N.Nodup) (hi : X.N[i]? = some x) (hx : Loc X.env.scope x) (hs : swapsWith e (some (.Name x pos')) pos.line X.env = pure false := by rfl)
    (hf : X.fn x = true ∨ X.env.scope.names.lookup x = some .local := by first | exact .inl rfl | exact .inr rfl | assumption) : ES X W (.Assign [.Name x pos'] e pos) (mSet i me) := by
  obtain ⟨t, h1, h2⟩ := he.ex
  exact ⟨_, ps_set hN hi hx h1 hs hf, SimS.set (List.getElem?_eq_some_iff.mp hi).1 h2⟩
theorem es_seto {i : Nat} {x : Str} {pos' : Pos} (he : EF X W e mf) (hN : X.N.Nodup) (hi : X.N[i]? = some x) (hx : Loc X.env.scope x) (hs : swapsWith e (some (.Name x pos')) pos.line X.env = pure false := by rfl)
    (hf : X.fn x = true ∨ X.env.scope.names.lookup x = some .local := by first | exact .inl rfl | exact .inr rfl | assumption) : ES X W (.Assign [.Name x pos'] e pos) (mSetO i mf) := by
  obtain ⟨t, h1, h2⟩ := he.ex
  exact ⟨_, ps_set hN hi hx h1 hs hf, SimS.setO (List.getElem?_eq_some_iff.mp hi).1 h2⟩
/-- a slot's own thing becomes a plain value, ahead of a statement -/
def mFrz (i : Nat) (ms : MS) : MS := fun r => match r[i]? with
  | some (some (.own c)) => ms (r.set i (some (.val (thawed c))))
  | _ => .bad
theorem SimS.frz {i : Nat} (h : SimS X W ts ms) : SimS X W ts (mFrz i ms) := fun n Z H0 m r σ H hn q D p => by
  unfold mFrz at p
  split at p
  · rename_i c e
    exact h n Z H0 _ _ σ H hn (q.frz e) D (p.grow same_drp)
  · exact False.elim p
theorem es_frz (i : Nat) (h : ES X W st ms) : ES X W st (mFrz i ms) := by
  obtain ⟨t, h1, h2⟩ := h.ex
  exact ⟨t, h1, h2.frz⟩
theorem eb_frz (i : Nat) (h : EB X W sts ms) : EB X W sts (mFrz i ms) := by
  obtain ⟨t, h1, h2⟩ := h.ex
  exact ⟨t, h1, h2.frz⟩
def mRet (me : ME) : MS := fun r => toFl r (me r) fun d => .rt d
theorem es_ret (he : EW X W e me) : ES X W (.Return (some e) pos) (mRet me) := by
  obtain ⟨t, h1, h2⟩ := he.ex
  refine ⟨_, ps_ret h1, fun n Z H0 m r σ H hn q D p => h2 n Z H0 m r σ H q _ ((toFl_post q p).imp fun d k v H' s rv => ?_)⟩
  exact k v H' (q.same.trans s) rv
def mRetN : MS := fun _ => .rt .non
theorem es_retN : ES X W (.Return none pos) mRetN := ⟨_, ps_retN, fun n Z H0 m r σ H hn q D p => p .non H q.same (by simp [Rep])⟩
theorem es_pass : ES X W (.Pass pos) mNx := ⟨_, ps_pass, SimS.nx⟩
def mBrk : MS := fun r => .bk r
def mCnt : MS := fun r => .ct r
theorem es_break : ES X W (.Break pos) mBrk := ⟨_, ps_break, fun n Z H0 m r σ H hn q D p => p m σ H q (Same.refl _)⟩
theorem es_continue : ES X W (.Continue pos) mCnt := ⟨_, ps_continue, fun n Z H0 m r σ H hn q D p => p m σ H q (Same.refl _)⟩
def mDrop (me : ME) : MS := fun r => toFl r (me r) fun _ => .nx r
theorem es_expr (he : EW X W e me) (hs : swapsWith e none pos.line X.env = pure false := by rfl) : ES X W (.Expr e pos) (mDrop me) := by
  obtain ⟨t, h1, h2⟩ := he.ex
  refine ⟨_, ps_expr h1 hs, fun n Z H0 m r σ H hn q D p => h2 n Z H0 m r σ H q _ ((toFl_post q p).imp fun d k v H' s rv => ?_)⟩
  exact k m σ H' (q.grow s) (hid_mono s)
def mIf (mt : MT) (ms mu : MS) : MS := fun r => toFl r (mt r) fun k => match k with
  | true => ms r
  | false => mu r
theorem es_if {c : Expr} {sa sb : List Stmt} (hc : ET X W c mt) (ha : EB X W sa ms) (hb : EB X W sb mu) : ES X W (.If c sa sb pos) (mIf mt ms mu) := by
  obtain ⟨t, h1, h2⟩ := hc.ex
  obtain ⟨u, h3, h4⟩ := ha.ex
  obtain ⟨v, h5, h6⟩ := hb.ex
  refine ⟨_, ps_if h1 h3 h5, fun n Z H0 m r σ H hn q D p => h2 n Z H0 m r σ H q _ ((toFl_post q p).imp fun k kk H' s => ?_)⟩
  cases k with
  | true => exact h4 n Z H0 m r σ H' hn (q.grow s) D (PostS.grow kk (hid_mono s))
  | false => exact h6 n Z H0 m r σ H' hn (q.grow s) D (PostS.grow kk (hid_mono s))
/-- xs.append(e), xs a slot's own list -/
def mApp (i : Nat) (me : ME) : MS := fun r => match r[i]? with
  | some (some (.own (.l xs))) => toFl r (me r) fun d => if xs.length < sizeLine then .nx (r.set i (some (.own (.l (xs ++ [d]))))) else .bad
  | _ => .bad
theorem es_app (i : Nat) {x : Str} {p1 p2 p3 : Pos} (he : EE X W e me) (hN : X.N[i]? = some x := by rfl) (hv : Vis X.env.scope x := by first | exact Or.inl rfl | exact Or.inr (Or.inl rfl) | exact Or.inr (Or.inr rfl)) (hd : (x == ("__debug__" : Str)) = false := by decide)
    (hcd : (x == ("__classdict__" : Str)) = false := by decide) (hbase : attributeBase (.Name x p1) "append" X.env (eval (.Name x p1) X.env) = eval (.Name x p1) X.env := by rfl)
    (hfew : ((backTo p3 (starEach [e] X.env)).all (fun x => !x.1) && (backToKw p3 (keywordEach [] X.env)).all (fun x => x.1.isSome)
      && decide (([e] : List Expr).length + ([] : List Keyword).length + (if ([] : List Keyword).isEmpty then 0 else 1) < 30)) = true := by rfl)
    (hline : (p2.endLine == p3.line) = true := by rfl) (hs : starEach [e] X.env = (false, eval e X.env) :: starEach [] X.env := by rfl) (hplain : (backTo p3 (starEach [] X.env)).any (·.1) = false := by rfl)
    (hsw : swapsWith (.Call (.Attribute (.Name x p1) "append" p2) [e] [] p3) none pos.line X.env = pure false := by rfl) :
    ES X W (.Expr (.Call (.Attribute (.Name x p1) "append" p2) [e] [] p3) pos) (mApp i me) := by
  obtain ⟨t, h1, h2⟩ := he.ex
  refine ⟨_, ps_expr (pe_bm PySem.F.plainAttrs_list PySem.F.slot_list_append PySem.F.type_list_append mt_append (pv i hN hv hd hcd) (pa_cons h1 pa_nil hs) hbase hfew hline hs hplain) hsw, fun n Z H0 m r σ H hn q D p => ?_⟩
  unfold mApp at p
  split at p
  · rename_i xs ei
    obtain ⟨a, o, g1, g2, g3, g4⟩ := q.own i _ ei
    obtain ⟨vs, rfl, tt⟩ := g4
    refine ⟨_, g2, .inl ⟨rfl, _, .inl (.inl g3)⟩, h2 n Z H0 m r σ H q _ ((toFl_post q p).imp fun d k v H' s rv => ?_)⟩
    split at k
    · rename_i hz
      have q' := q.grow s
      refine ⟨a, vs, v, rfl, rfl, s _ _ g3, by rw [tt.length]; exact hz, ?_⟩
      have hc : CellOk X.K X.mg (hid Z m H') (.lst (vs ++ [v])) (.l (xs ++ [d])) := ⟨_, rfl, (tt.mono (hid_mono s)).append (RepL.cons rv RepL.nil)⟩
      refine k m σ _ (q'.chg ei g1 hc) ?_
      rw [hid_upd g1]
      exact hid_mono s
    · exact False.elim k
  · exact False.elim p

/-! ### for -/
structure ItOk (K : PySem.W.Frag) (mg : Str → Option Value) (G : Hp) (J : It) (ds : List D) : Prop where
  go : ∀ (H : Hp) (i : Nat), Same G H → i < ds.length → J.go i H ∧ ∀ x H', J.yld i H x H' → H' = H ∧ ∃ d, ds[i]? = some d ∧ Rep K mg G d x
  stop : ∀ H, Same G H → J.stop ds.length H
structure EI (X : Cx) (W : WX) (tg iter : Expr) (mi : MA) : Prop where
  ex : ∃ wi, PI X tg iter wi ∧ ∀ (n : Nat) (Z : Addr → Prop) (H0 : Hp) (m : Nat → Option Addr) (r : Sc) (σ : L2.St) (H : Hp), Rel X.K X.mg n Z H0 m r σ H → ∀ R' : It → Hp → Prop,
    PostG X.K X.mg Z m W σ H (mi r) (fun ds => ∀ (J : It) (H' : Hp), Same H H' → ItOk X.K X.mg (hid Z m H') J ds → R' J H') → wi σ H R'
/-- a target takes a value -/
structure EG (X : Cx) (tg : Expr) (tb : D → Sc → Option Sc) : Prop where
  ex : ∃ g, PG X tg g ∧ ∀ (n : Nat) (Z : Addr → Prop) (H0 : Hp) (m : Nat → Option Addr) (r : Sc) (σ : L2.St) (H : Hp), n = X.N.length → Rel X.K X.mg n Z H0 m r σ H → ∀ (d : D) (v : V) (Q : L2.St → Hp → Prop), Rep X.K X.mg (hid Z m H) d v →
    (match tb d r with
      | some r' => ∀ (m' : Nat → Option Addr) (σ' : L2.St), Rel X.K X.mg n Z H0 m' r' σ' H → Same (hid Z m H) (hid Z m' H) → Q σ' H
      | none => False) → g v σ H Q
def bName (i : Nat) : D → Sc → Option Sc := fun d r => some (r.set i (some (.val d)))
theorem eg_name {i : Nat} {x : Str} (hN : X.N.Nodup) (hi : X.N[i]? = some x) (hx : Loc X.env.scope x) (hf : X.fn x = true ∨ X.env.scope.names.lookup x = some .local := by first | exact .inl rfl | exact .inr rfl | assumption) : EG X (.Name x pos) (bName i) := by
  refine ⟨_, pg_name hN hi hx hf, fun n Z H0 m r σ H hn q d v Q rv p => ?_⟩
  exact p _ _ (q.setv (by rw [hn]; exact (List.getElem?_eq_some_iff.mp hi).1) rv) same_drp
def loopL (tb : D → Sc → Option Sc) (body : MS) : List D → Sc → Fl
  | [], r => .nx r
  | d :: ds, r => match tb d r with
    | none => .bad
    | some r1 => match body r1 with
      | .nx r2 => loopL tb body ds r2
      | .ct r2 => loopL tb body ds r2
      | .bk r2 => .nx r2
      | f => f
def mFor (mi : MA) (tb : D → Sc → Option Sc) (body : MS) : MS := fun r => toFl r (mi r) fun ds => loopL tb body ds r
theorem es_for {tg iter : Expr} {body : List Stmt} {mi : MA} {tb : D → Sc → Option Sc} (hp : PassesOwn (model X.prog X.w) X.A X.env X.xe) (hc : X.calm = true) (hi : EI X W tg iter mi) (hg : EG X tg tb) (hb : EB X W body ms)
    (hs : ∀ x, foldedSetIterable iter X.env x = pure x := by intro _; rfl) : ES X W (.For tg iter body [] pos) (mFor mi tb ms) := by
  obtain ⟨wi, h1, h2⟩ := hi.ex
  obtain ⟨g, h3, h4⟩ := hg.ex
  obtain ⟨t, h5, h6⟩ := hb.ex
  refine ⟨_, ps_for hp hc h1 h3 h5 hs, fun n Z H0 m r σ H hn q D p => ?_⟩
  refine h2 n Z H0 m r σ H q _ ((toFl_post q p).imp fun ds k J H1 s1 io => ?_)
  have k1 := PostS.grow k (hid_mono s1)
  refine ⟨fun i j σ' H' => i + j = ds.length ∧ ∃ m' r', Rel X.K X.mg n Z H0 m' r' σ' H' ∧ Same (hid Z m H1) (hid Z m' H') ∧ PostS X.K X.mg n Z H0 W (hid Z m H1) (loopL tb ms (ds.drop i) r') D, ⟨ds.length, by omega, m, r, q.grow s1, Same.refl _, k1⟩, ?_⟩
  rintro i j σ2 H2 ⟨hij, m2, r2, q2, s2, p2⟩
  have sG : Same (hid Z m H1) H2 := s2.trans hid_sub
  by_cases hlt : i < ds.length
  · obtain ⟨g1, g2⟩ := io.go H2 i sG hlt
    refine .inr ⟨g1, fun σ' H' => ∃ m' r', Rel X.K X.mg n Z H0 m' r' σ' H' ∧ Same (hid Z m H1) (hid Z m' H') ∧ PostS X.K X.mg n Z H0 W (hid Z m H1) (loopL tb ms (ds.drop (i + 1)) r') D, fun σ' H' ⟨m', r', z1, z2, z3⟩ => ⟨j - 1, by omega, by omega, m', r', z1, z2, z3⟩, fun x H' hy => ?_⟩
    obtain ⟨rfl, d, hd, rd⟩ := g2 x H' hy
    have ed : ds.drop i = d :: ds.drop (i + 1) := by
      have : ds[i] = d := by
        rw [List.getElem?_eq_getElem hlt] at hd
        exact Option.some.inj hd
      rw [← this]
      exact List.drop_eq_getElem_cons hlt
    rw [ed] at p2
    refine h4 n Z H0 m2 r2 σ2 H' hn q2 d x _ (rd.mono s2) ?_
    simp only [loopL] at p2
    cases e1 : tb d r2 with
    | none =>
      rw [e1] at p2
      exact p2
    | some r3 =>
      rw [e1] at p2
      intro m3 σ3 q3 s3
      refine h6 n Z H0 m3 r3 σ3 H' hn q3 _ ?_
      have s13 := s2.trans s3
      simp only at p2
      cases e2 : ms r3 with
      | nx r4 =>
        rw [e2] at p2
        exact fun m' σ' H' q' s' => ⟨m', r4, q', s13.trans s', p2⟩
      | ct r4 =>
        rw [e2] at p2
        exact fun m' σ' H' q' s' => ⟨m', r4, q', s13.trans s', p2⟩
      | bk r4 =>
        rw [e2] at p2
        exact fun m' σ' H' q' s' => p2 m' σ' H' q' (s13.trans s')
      | rt d =>
        rw [e2] at p2
        exact p2
      | rc d =>
        rw [e2] at p2
        exact p2
      | ex c ns xs r4 =>
        rw [e2] at p2
        exact fun m' σ' H' C d q' s' e => p2 m' σ' H' C d q' (s13.trans s') e
      | bad =>
        rw [e2] at p2
        exact p2
  · have e : i = ds.length := by omega
    subst e
    refine .inl ⟨io.stop H2 sG, ?_⟩
    rw [List.drop_length] at p2
    exact p2 m2 σ2 H2 q2 s2

/-! what a for walks -/
variable {tg : Expr}
def mSeqOf (me : ME) : MA := fun r => (me r).bind fun d => match d with
  | .lst xs => .ok xs
  | .slst xs => .ok xs
  | _ => .bad
def mTupOf (me : ME) : MA := fun r => (me r).bind fun d => match d with
  | .tup xs => .ok xs
  | _ => .bad
theorem itok_l {K : PySem.W.Frag} {mg : Str → Option Value} {G : Hp} {a : Addr} {ds : List D} {vs : List V} (h : SqL K G a vs) (t : RepL K mg G ds vs) : ItOk K mg G (Itl K a) ds := by
  refine ⟨fun H i s hi => ⟨?_, fun x H' hy => ?_⟩, fun H s => ⟨vs, Same.seq s h, by rw [t.length]; exact Nat.le_refl _⟩⟩
  · obtain ⟨v, hv, _⟩ := t.get (List.getElem?_eq_getElem hi)
    exact ⟨vs, v, Same.seq s h, hv⟩
  · obtain ⟨e, f⟩ := hy
    obtain ⟨v, hv, rv⟩ := t.get (List.getElem?_eq_getElem hi)
    have := f vs (Same.seq s h)
    rw [hv] at this
    cases this
    exact ⟨e, _, List.getElem?_eq_getElem hi, rv⟩
theorem itok_t {K : PySem.W.Frag} {mg : Str → Option Value} {G : Hp} {a : Addr} {ds : List D} {vs : List V} (h : SqT K G a vs) (t : RepL K mg G ds vs) : ItOk K mg G (Itt K a) ds := by
  refine ⟨fun H i s hi => ⟨?_, fun x H' hy => ?_⟩, fun H s => ⟨vs, Same.seqT s h, by rw [t.length]; exact Nat.le_refl _⟩⟩
  · obtain ⟨v, hv, _⟩ := t.get (List.getElem?_eq_getElem hi)
    exact ⟨vs, v, Same.seqT s h, hv⟩
  · obtain ⟨e, f⟩ := hy
    obtain ⟨v, hv, rv⟩ := t.get (List.getElem?_eq_getElem hi)
    have := f vs (Same.seqT s h)
    rw [hv] at this
    cases this
    exact ⟨e, _, List.getElem?_eq_getElem hi, rv⟩
theorem ei_list (h : EE X W e me) : EI X W tg e (mSeqOf me) := by
  obtain ⟨t, h1, h2⟩ := h.ex
  refine ⟨_, pi_list h1, fun n Z H0 m r σ H q R' p => h2 n Z H0 m r σ H q _ (p.bind.imp fun d k x H1 s1 rx => ?_)⟩
  cases d <;> try exact False.elim k
  · simp only [Rep] at rx
    obtain ⟨a, vs, rfl, hq, tt⟩ := rx
    exact ⟨a, rfl, ⟨vs, .inl (.inl (hid_sub _ _ hq))⟩, k _ H1 s1 (itok_l (.inl (.inl hq)) tt)⟩
  · simp only [Rep] at rx
    obtain ⟨a, vs, rfl, hq, tt⟩ := rx
    exact ⟨a, rfl, ⟨vs, Same.seq hid_sub hq⟩, k _ H1 s1 (itok_l hq tt)⟩
theorem ei_tup (h : EE X W e me) : EI X W tg e (mTupOf me) := by
  obtain ⟨t, h1, h2⟩ := h.ex
  refine ⟨_, pi_tup h1, fun n Z H0 m r σ H q R' p => h2 n Z H0 m r σ H q _ (p.bind.imp fun d k x H1 s1 rx => ?_)⟩
  cases d <;> try exact False.elim k
  simp only [Rep] at rx
  obtain ⟨a, vs, rfl, hq, tt⟩ := rx
  exact ⟨a, rfl, ⟨vs, Same.seqT hid_sub hq⟩, k _ H1 s1 (itok_t hq tt)⟩
def rgD (lo : Int) (n : Nat) : List D := (List.range n).map fun (i : Nat) => D.int (lo + (i : Int))
theorem itok_r {K : PySem.W.Frag} {mg : Str → Option Value} {G : Hp} {lo : Int} {n : Nat} : ItOk K mg G (Itr lo n) (rgD lo n) := by
  have hl : (rgD lo n).length = n := by simp [rgD]
  refine ⟨fun H i s hi => ⟨by rw [hl] at hi; exact hi, fun x H' hy => ?_⟩, fun H s => by rw [hl]; exact Nat.le_refl n⟩
  obtain ⟨e, ex⟩ := hy
  rw [hl] at hi
  refine ⟨e, .int (lo + (i : Int)), ?_, by simp only [Rep]; exact ex⟩
  simp [rgD, List.getElem?_map, hi]
def okR (i : Int) : Prop := -4611686018427387904 ≤ i ∧ i < 4611686018427387904
instance (i : Int) : Decidable (okR i) := inferInstanceAs (Decidable (_ ∧ _))
def dRg : List D → R (List D)
  | [.int j] => if okR j then .ok (rgD 0 j.toNat) else .bad
  | [.int i, .int j] => if okR i ∧ okR j then .ok (rgD i (j - i).toNat) else .bad
  | _ => .bad
def mRg (ma : MA) : MA := fun r => (ma r).bind dRg
variable {ma : MA}
theorem ei_range1 {a : Expr} {p1 : Pos} (hm : X.mg "range" = none) (hg : Gl X "range") (ha : EA X W [a] ma) (hl : ALen ma 1) (hs : starEach [a] X.env = [(false, eval a X.env)] := by rfl) : EI X W tg (.Call (.Name "range" p1) [a] [] pos) (mRg ma) := by
  obtain ⟨t, h1, h2⟩ := ha.ex
  refine ⟨_, pi_range1 hg hm h1 hs, fun n Z H0 m r σ H q R' p => ?_⟩
  unfold mRg at p
  have p' := p.bind
  refine h2 n Z H0 m r σ H q _ ?_
  cases e : ma r with
  | ok ds =>
    rw [e] at p'
    have hd := hl r ds e
    intro vs H1 s1 rx
    obtain ⟨d, rfl⟩ := List.length_eq_one_iff.mp hd
    obtain ⟨v, rfl, rv⟩ := rx.one
    cases d <;> try exact False.elim p'
    rename_i j
    simp only [Rep] at rv
    subst rv
    simp only [PostG, dRg] at p'
    split at p'
    · rename_i x hz
      split at hz
      · rename_i hz2
        cases hz
        simp only [okR] at hz2
        exact ⟨j, rfl, by simpa using hz2.1, by simpa using hz2.2, p' _ H1 s1 itok_r⟩
      · cases hz
    · rename_i hz
      split at hz <;> cases hz
    · exact False.elim p'
  | exc c ns xs =>
    rw [e] at p'
    exact p'
  | bad =>
    rw [e] at p'
    exact False.elim p'
theorem ei_range2 {a b : Expr} {p1 : Pos} (hm : X.mg "range" = none) (hg : Gl X "range") (ha : EA X W [a, b] ma) (hl : ALen ma 2) (hs : starEach [a, b] X.env = [(false, eval a X.env), (false, eval b X.env)] := by rfl) (hs2 : starEach [b] X.env = [(false, eval b X.env)] := by rfl) : EI X W tg (.Call (.Name "range" p1) [a, b] [] pos) (mRg ma) := by
  obtain ⟨t, h1, h2⟩ := ha.ex
  refine ⟨_, pi_range2 hg hm h1 hs hs2, fun n Z H0 m r σ H q R' p => ?_⟩
  unfold mRg at p
  have p' := p.bind
  refine h2 n Z H0 m r σ H q _ ?_
  cases e : ma r with
  | ok ds =>
    rw [e] at p'
    have hd := hl r ds e
    intro vs H1 s1 rx
    obtain ⟨d, d2, rfl⟩ : ∃ d e, ds = [d, e] := by
      match ds, hd with
      | [d, e], _ => exact ⟨d, e, rfl⟩
    obtain ⟨v, w, rfl, rv, rw'⟩ := rx.two
    cases d <;> cases d2 <;> try exact False.elim p'
    rename_i i j
    simp only [Rep] at rv rw'
    subst rv rw'
    simp only [PostG, dRg] at p'
    split at p'
    · rename_i x hz
      split at hz
      · rename_i hz2
        cases hz
        simp only [okR] at hz2
        exact ⟨i, j, rfl, ⟨by simpa using hz2.1.1, by simpa using hz2.1.2, by simpa using hz2.2.1, by simpa using hz2.2.2⟩, p' _ H1 s1 itok_r⟩
      · cases hz
    · rename_i hz
      split at hz <;> cases hz
    · exact False.elim p'
  | exc c ns xs =>
    rw [e] at p'
    exact p'
  | bad =>
    rw [e] at p'
    exact False.elim p'

/-! ### while -/
def whileL (mt : MT) (body : MS) : Nat → Sc → Fl
  | 0, _ => .bad
  | n + 1, r => toFl r (mt r) fun k => match k with
    | true => (match body r with
      | .nx r2 => whileL mt body n r2
      | .ct r2 => whileL mt body n r2
      | .bk r2 => .nx r2
      | f => f)
    | false => .nx r
def mWhile (fuel : Nat) (mt : MT) (body : MS) : MS := whileL mt body fuel
theorem es_while (fuel : Nat) {c : Expr} {body : List Stmt} (hp : PassesOwn (model X.prog X.w) X.A X.env X.xe) (hc : ET X W c mt) (hb : EB X W body ms) : ES X W (.While c body [] pos) (mWhile fuel mt ms) := by
  obtain ⟨t, h1, h2⟩ := hc.ex
  obtain ⟨u, h3, h4⟩ := hb.ex
  refine ⟨_, ps_while hp h1 h3, fun n Z H0 m r σ H hn q D p => ?_⟩
  refine ⟨fun j σ' H' => ∃ m' r', Rel X.K X.mg n Z H0 m' r' σ' H' ∧ PostS X.K X.mg n Z H0 W (hid Z m' H') (whileL mt ms j r') D, ⟨fuel, m, r, q, p⟩, ?_⟩
  rintro j σ2 H2 ⟨m2, r2, q2, p2⟩
  cases j with
  | zero => exact False.elim p2
  | succ j =>
    simp only [whileL] at p2
    refine h2 n Z H0 m2 r2 σ2 H2 q2 _ ((toFl_post q2 p2).imp fun k kk H3 s3 => ?_)
    have q3 := q2.grow s3
    have k3 := PostS.grow kk (hid_mono s3)
    cases k with
    | false =>
      rw [if_neg Bool.false_ne_true]
      exact k3 m2 σ2 H3 q3 (Same.refl _)
    | true =>
      rw [if_pos rfl]
      refine ⟨fun σ' H' => ∃ m' r', Rel X.K X.mg n Z H0 m' r' σ' H' ∧ PostS X.K X.mg n Z H0 W (hid Z m' H') (whileL mt ms j r') D, fun σ' H' z => ⟨j, Nat.lt_succ_self j, z⟩, ?_⟩
      refine h4 n Z H0 m2 r2 σ2 H3 hn q3 _ ?_
      simp only at k3
      cases e2 : ms r2 with
      | nx r4 =>
        rw [e2] at k3
        exact fun m' σ' H' q' s' => ⟨m', r4, q', PostS.grow k3 s'⟩
      | ct r4 =>
        rw [e2] at k3
        exact fun m' σ' H' q' s' => ⟨m', r4, q', PostS.grow k3 s'⟩
      | bk r4 =>
        rw [e2] at k3
        exact k3
      | rt d =>
        rw [e2] at k3
        exact k3
      | rc d =>
        rw [e2] at k3
        exact k3
      | ex c ns xs r4 =>
        rw [e2] at k3
        exact k3
      | bad =>
        rw [e2] at k3
        exact k3

/-! ### a def -/
def mStart (n : Nat) (ds : List D) : Sc := ds.map (fun d => some (EV.val d)) ++ List.replicate (n - ds.length) none
def mDef (n : Nat) (ms : MS) : List D → R D := fun ds => match ms (mStart n ds) with
  | .rt d => .ok d
  | .nx _ => .ok .non
  | .ex c ns xs _ => .exc c ns xs
  | _ => .bad
theorem start_rel {K : PySem.W.Frag} {mg : Str → Option Value} {N : List Str} {Z : Addr → Prop} {H : Hp} {ds : List D} {vs : List V} (hZ : ∀ b, Z b → H b ≠ none) (h : RepL K mg (hid Z nom H) ds vs) (hl : vs.length ≤ N.length) :
    Rel K mg N.length Z H nom (mStart N.length ds) (L2.start N vs) H := by
  have l := h.length
  refine ⟨by simp [mStart]; omega, by simp [L2.start]; omega, fun i d hi => ?_, fun i c hi => ?_, fun i a e => (nomatch e), fun i j a e => (nomatch e), fun i a e => (nomatch e), hZ, Same.refl H⟩
  · unfold mStart at hi
    rw [List.getElem?_append] at hi
    split at hi
    · rw [List.getElem?_map] at hi
      cases e : ds[i]? with
      | none =>
        rw [e] at hi
        cases hi
      | some d' =>
        rw [e] at hi
        cases hi
        obtain ⟨v, hv, rv⟩ := h.get e
        refine ⟨v, ?_, rv⟩
        unfold L2.start
        rw [List.getElem?_append_left (by rw [List.length_map]; exact (List.getElem?_eq_some_iff.mp hv).1), List.getElem?_map, hv]
        rfl
    · rw [List.getElem?_replicate] at hi
      split at hi
      · cases hi
      · cases hi
  · unfold mStart at hi
    rw [List.getElem?_append] at hi
    split at hi
    · rw [List.getElem?_map] at hi
      cases e : ds[i]? with
      | none =>
        rw [e] at hi
        cases hi
      | some d' =>
        rw [e] at hi
        cases hi
    · rw [List.getElem?_replicate] at hi
      split at hi
      · cases hi
      · cases hi
end
theorem def_ok {P : Program} {w : World} {K : PySem.W.Frag} {mg : Str → Option Value} {base : Heap} {x qual : Str} {st : Stmt} {f : Addr} {fd : FuncData} {N ps : List Str} {k np : Nat} {ms : MS} (F : Fun K x qual st f fd) (S : FnScope N ps (defScope st)) (hp : ps.length = np) (hN : np ≤ N.length)
    (hb : ∀ (cdv : Value) (A : Around) (outer : List Env) (s : Shared) (H : Hp) (E : XK), Room k (A.deeper (envOfC qual (defScope st) s.heap.objs.size f cdv)) →
      Takes (cxOf (L2.CX P w) P w K mg base N qual (defScope st) f cdv A outer s H E) (fun cls d _ H => E cls d H) →
      PassesOwn (model P w) (cxOf (L2.CX P w) P w K mg base N qual (defScope st) f cdv A outer s H E).A (cxOf (L2.CX P w) P w K mg base N qual (defScope st) f cdv A outer s H E).env (cxOf (L2.CX P w) P w K mg base N qual (defScope st) f cdv A outer s H E).xe →
      EB (cxOf (L2.CX P w) P w K mg base N qual (defScope st) f cdv A outer s H E) (fun cls d _ H => E cls d H) (defBody st) ms) : FnOk P w K mg base (L2.CX P w) (k + 1) f fd ps (PF K mg np (mDef N.length ms)) := by
  refine F.okX S (fun vs H Q E h => by rw [hp]; exact h.1) fun cdv A outer s H vs Q E hr h => ?_
  obtain ⟨hl, ds, Z, hZ, rl, p⟩ := h
  obtain ⟨t, h1, h2⟩ := (hb cdv A outer s H E hr (takes_of rfl rfl rfl rfl) (passes_of rfl)).ex
  refine ⟨t, h1, ?_⟩
  have q : Rel K mg N.length Z H nom (mStart N.length ds) (L2.start N vs) H := start_rel hZ rl (by omega)
  refine h2 N.length Z H nom _ _ H rfl q _ ?_
  unfold mDef at p
  cases e : ms (mStart N.length ds) with
  | nx r =>
    rw [e] at p
    exact fun m σ H' q' _ => p .non H' q'.same (by simp [Rep])
  | rt d =>
    rw [e] at p
    exact fun v H' s' rv => p v H' s' rv
  | ex c ns xs r =>
    rw [e] at p
    exact fun m σ H' C d q' _ ea => p C d H' q'.same (ea.mono hid_nom)
  | rc d =>
    rw [e] at p
    exact False.elim p
  | bk r =>
    rw [e] at p
    exact False.elim p
  | ct r =>
    rw [e] at p
    exact False.elim p
  | bad =>
    rw [e] at p
    exact False.elim p
end QB

namespace QB
open PySem PySem.Spec PyProof.Rows L2
section
variable {X : Cx} {W : WX} {a b c e tg : Expr} {es rest : List Expr} {ma mb mc me : ME} {ms : MA} {pos : Pos} {te tl : TE}

/-! ### what a for walks: a list, a tuple, a text -/
def iAny (K : PySem.W.Frag) (tl : TE) : TI := fun σ H R => tl σ H fun x H1 =>
  (∃ a, x = .ref a ∧ (∃ xs, SqL K H1 a xs) ∧ R (Itl K a) H1) ∨ (∃ a, x = .ref a ∧ (∃ xs, SqT K H1 a xs) ∧ R (Itt K a) H1) ∨ ∃ z, x = .str z ∧ R (Its z) H1
theorem pi_any {l : Expr} (hl : PE X l tl) : PI X tg l (iAny X.K tl) := by
  refine ⟨fun pins s σ H R I h => ?_⟩
  refine thn (hl.run pins s σ H _ I h) fun v s1 ⟨x, H1, I1, r1, q1⟩ => ?_
  rcases q1 with ⟨a, e, ⟨xs, hq⟩, q⟩ | ⟨a, e, ⟨xs, hq⟩, q⟩ | ⟨z, e, q⟩
  · subst e
    cases r1
    obtain ⟨its, rv, p, hz⟩ := I1.list hq
    refine wpAny_pyIter_list p.isList ?_
    refine ⟨s1.heap.objs.size, [s1.heap.objs.size], _, _, H1, rfl, I1.kept (t' := s1.toks) fun b o e => Heap.get?_push_of_some _ e, turn_list a _, ⟨_, Heap.get?_push_size _ rfl, rfl, rfl⟩, fun b hb => ?_, q⟩
    have e : b = s1.heap.objs.size := by simpa using hb
    subst e
    exact I1.fpOk (Nat.le_refl _) (I1.hok.fresh (Nat.le_refl _))
  · subst e
    cases r1
    obtain ⟨its, rv, p, hz⟩ := I1.tuple hq
    refine wpAny_pyIter_tuple (show s1.heap.IsTuple a its.toArray from p) ?_
    refine ⟨s1.heap.objs.size, [s1.heap.objs.size], _, _, H1, rfl, I1.kept (t' := s1.toks) fun b o e => Heap.get?_push_of_some _ e, turn_tuple a _, ⟨_, Heap.get?_push_size _ rfl, rfl, rfl⟩, fun b hb => ?_, q⟩
    have e : b = s1.heap.objs.size := by simpa using hb
    subst e
    exact I1.fpOk (Nat.le_refl _) (I1.hok.fresh (Nat.le_refl _))
  · subst e
    obtain ⟨t, rfl⟩ := r1
    cases ha : z.cps.all (· < 128)
    · exact wpAny_pyIter_wide ha (pi_one (tk := s1.toks) I1 _ (turn_str _ z t "str_iterator" (.inr rfl)) ⟨_, Heap.get?_push_size _ rfl, rfl, rfl⟩ q)
    · exact wpAny_pyIter_ascii ha (pi_one (tk := s1.toks) I1 _ (turn_str _ z t "str_ascii_iterator" (.inl rfl)) ⟨_, Heap.get?_push_size _ rfl, rfl, rfl⟩ q)
def signs (z : Str) : List D := z.cps.toList.map fun c => D.str ⟨#[c]⟩
def dItems (d : D) : R (List D) := match d with
  | .lst xs => .ok xs
  | .slst xs => .ok xs
  | .tup xs => .ok xs
  | .str z => .ok (signs z)
  | _ => .bad
def mItems (me : ME) : MA := fun r => (me r).bind dItems
theorem itok_s {K : PySem.W.Frag} {mg : Str → Option Value} {G : Hp} {z : Str} : ItOk K mg G (Its z) (signs z) := by
  have hl : (signs z).length = z.cps.size := by simp [signs]
  refine ⟨fun H i s hi => ⟨by rw [hl] at hi; exact hi, fun x H' hy => ?_⟩, fun H s => by rw [hl]; exact Nat.le_refl _⟩
  obtain ⟨e, c, hc, ex⟩ := hy
  refine ⟨e, .str ⟨#[c]⟩, ?_, by simp only [Rep]; exact ex⟩
  simp only [signs, List.getElem?_map, Array.getElem?_toList, hc, Option.map_some]
theorem ei_any (h : EE X W e me) : EI X W tg e (mItems me) := by
  obtain ⟨t, h1, h2⟩ := h.ex
  refine ⟨_, pi_any h1, fun n Z H0 m r σ H q R' p => h2 n Z H0 m r σ H q _ (p.bind.imp fun d k x H1 s1 rx => ?_)⟩
  cases d <;> try exact False.elim k
  · simp only [Rep] at rx
    exact .inr (.inr ⟨_, rx, k _ H1 s1 itok_s⟩)
  · simp only [Rep] at rx
    obtain ⟨a, vs, rfl, hq, tt⟩ := rx
    exact .inr (.inl ⟨a, rfl, ⟨vs, Same.seqT hid_sub hq⟩, k _ H1 s1 (itok_t hq tt)⟩)
  · simp only [Rep] at rx
    obtain ⟨a, vs, rfl, hq, tt⟩ := rx
    exact .inl ⟨a, rfl, ⟨vs, .inl (.inl (hid_sub _ _ hq))⟩, k _ H1 s1 (itok_l (.inl (.inl hq)) tt)⟩
  · simp only [Rep] at rx
    obtain ⟨a, vs, rfl, hq, tt⟩ := rx
    exact .inl ⟨a, rfl, ⟨vs, Same.seq hid_sub hq⟩, k _ H1 s1 (itok_l hq tt)⟩

/-! ### a def by its name -/
structure Ok (P : Program) (w : World) (K : PySem.W.Frag) (mg : Str → Option Value) (base : Heap) (k : Nat) (x : Str) (n : Nat) (mf : List D → R D) : Prop where
  ex : ∃ (f : Addr) (fd : FuncData) (ps : List Str), mg x = some (.ref f) ∧ PySem.W.keepIn K (.ref f) = true ∧ Binds K fd ps [] ∧ FnOk P w K mg base (L2.CX P w) k f fd ps (PF K mg n mf)
/-- .. called with keywords ks behind nn values; is: which of them each parameter takes -/
def permL {α : Type} (is : List Nat) (l : List α) : List α := is.filterMap fun i => l[i]?
structure OkK (P : Program) (w : World) (K : PySem.W.Frag) (mg : Str → Option Value) (base : Heap) (k : Nat) (x : Str) (n nn : Nat) (ks : List Str) (is : List Nat) (mf : List D → R D) : Prop where
  ex : ∃ (f : Addr) (fd : FuncData) (ps : List Str), mg x = some (.ref f) ∧ PySem.W.keepIn K (.ref f) = true ∧ (∀ (s : Shared) (us ws : List Value), us.length = nn → ws.length = ks.length → BindsTo s fd ⟨us, ks.zip ws⟩ (ps.zip (permL is (us ++ ws)))) ∧ FnOk P w K mg base (L2.CX P w) k f fd ps (PF K mg n mf)
theorem Vals.perm {vs : List V} {us : List Value} (h : Vals vs us) : ∀ is : List Nat, Vals (permL is vs) (permL is us)
  | [] => .nil
  | i :: is => by
    unfold permL
    rw [List.filterMap_cons, List.filterMap_cons]
    cases e : vs[i]? with
    | none =>
      rw [h.none_of e]
      exact Vals.perm h is
    | some v =>
      obtain ⟨u, hu, r⟩ := h.get e
      rw [hu]
      exact .cons r (Vals.perm h is)
theorem RepL.perm {K : PySem.W.Frag} {mg : Str → Option Value} {G : Hp} {ds : List D} {vs : List V} (h : RepL K mg G ds vs) : ∀ is : List Nat, RepL K mg G (permL is ds) (permL is vs)
  | [] => RepL.nil
  | i :: is => by
    unfold permL
    rw [List.filterMap_cons, List.filterMap_cons]
    cases e : ds[i]? with
    | none =>
      have : vs[i]? = none := by
        rw [List.getElem?_eq_none_iff] at e ⊢
        rw [h.length]
        exact e
      rw [this]
      exact RepL.perm h is
    | some d =>
      obtain ⟨v, hv, r⟩ := h.get e
      rw [hv]
      exact RepL.cons r (RepL.perm h is)
variable {k kk n nn : Nat} {x : Str} {p1 : Pos} {mf : List D → R D}
theorem ee_callO (tk : Takes X W) (F : Ok X.prog X.w X.K X.mg X.base k x n mf) (hr : Room kk X.A) (hk : k ≤ kk) (ha : EA X W (a :: es) ms) (hl : ALen ms n) (hg : Gl X x := by rfl) (hdb : (x == ("__debug__" : Str)) = false := by decide)
    (he : starEach (a :: es) X.env = (false, eval a X.env) :: starEach es X.env := by rfl) (hpl : (backTo pos (starEach es X.env)).any (·.1) = false := by rfl) : EE X W (.Call (.Name x p1) (a :: es) [] pos) (mCallB mf ms) := by
  obtain ⟨f, fd, ps, h1, h2, h3, h4⟩ := F.ex
  exact ee_call tk h4 hr hk h1 h2 h3 ha hl hg hdb he hpl
theorem SimA.lenW {t : TA} (ha : SimAW X W t ms) (hl : ∀ r ds, ms r = .ok ds → ds.length = n) (hx : ∀ ds c ns xs, mf ds ≠ .exc c ns xs) : SimW X W (tCallS (PF X.K X.mg n mf) (WE W) t) (mCallB mf ms) := fun nn Z H0 m r σ H q Q p => by
  unfold mCallB at p
  have p' := p.bind
  cases e : ms r with
  | ok ds =>
    refine ha nn Z H0 m r σ H q _ ?_
    rw [e] at p' ⊢
    intro vs H1 s1 rx
    have p2 : PostG X.K X.mg Z m W σ H (mf ds) (fun d => ∀ (v : V) (H' : Hp), Same H H' → Rep X.K X.mg (hid Z nom H') d v → Q v H') := p'
    exact pf_weak (q.grow s1) (by rw [rx.length, hl r ds e]) rx (hx ds) ((p2.grow s1).imp fun d k3 v H' s3 rv => k3 v H' (s1.trans s3) rv)
  | exc cc ns xs =>
    refine ha nn Z H0 m r σ H q _ ?_
    rw [e] at p' ⊢
    exact p'
  | bad =>
    rw [e] at p'
    exact False.elim p'
/-- a keyword's values -/
structure EK (X : Cx) (W : WX) (kws : List Keyword) (ms : MA) : Prop where
  ex : ∃ t, PK X kws t ∧ SimA X W t ms
variable {kws : List Keyword} {nm : Option Str} {kpos : Pos} {mk : MA} {ks : List Str} {is : List Nat}
theorem ek_nil : EK X W [] mNil := ⟨_, pk_nil, fun n Z H0 m r σ H q Q p => p [] H (Same.refl H) RepL.nil⟩
theorem ek_cons (h : EE X W e me) (g : EK X W kws ms) : EK X W (⟨nm, e, kpos⟩ :: kws) (mCons me ms) := by
  obtain ⟨t, h1, h2⟩ := h.ex
  obtain ⟨u, h3, h4⟩ := g.ex
  refine ⟨_, pk_cons h1 h3, fun n Z H0 m r σ H q Q p => h2 n Z H0 m r σ H q _ (p.bind.imp fun d k x H1 s1 rx => ?_)⟩
  refine h4 n Z H0 m r σ H1 (q.grow s1) _ ((k.grow s1).bind.imp fun ds k2 xs H2 s2 rxs => ?_)
  exact k2 (x :: xs) H2 (s1.trans s2) (RepL.cons (rx.mono (hid_mono s2)) rxs)
def tCallKS (sp : Sp) (is : List Nat) (n m : Nat) (E : L2.St → XK) (t tk : TA) : TE := fun σ H Q => t σ H fun vs H1 => tk σ H1 fun zs H2 => vs.length = n ∧ zs.length = m ∧ sp (permL is (vs ++ zs)) H2 Q (E σ)
theorem run_fnK {CX : CXT} {f : Addr} {fd : FuncData} {ps : List Str} {sp : Sp} {E : L2.St → XK} {pins : List (Addr × Obj)} {σ : L2.St} {H : Hp} {s : Shared} {Q : VK} {us ws : List Value} {vs zs : List V} (F : FnOk X.prog X.w X.K X.mg X.base CX k f fd ps sp) (hr : Room k X.A)
    (hb : ∀ (s : Shared) (us ws : List Value), us.length = nn → ws.length = ks.length → BindsTo s fd ⟨us, ks.zip ws⟩ (ps.zip (permL is (us ++ ws)))) (hx : PassesAt CX X σ (E σ))
    (I : Inv X pins σ H s) (r : Vals vs us) (rz : Vals zs ws) (l1 : vs.length = nn) (l2 : zs.length = ks.length) (h : sp (permL is (vs ++ zs)) H Q (E σ)) : wpAny (model X.prog X.w) X.A (call (.ref f) us (ks.zip ws)) (EP X pins σ Q) X.xe s := by
  refine wpAny_call (codeAny_mono (F.run X.A X.stack s H ⟨us, ks.zip ws⟩ (permL is (us ++ ws)) (permL is (vs ++ zs)) Q (E σ) hr I.env0 (hb s us ws (r.length.symm.trans l1) (rz.length.symm.trans l2)) (Vals.perm (r.append rz) is) h) fun r s' hq => ?_)
  cases r with
  | error e => exact hx pins H s e s' I hq
  | ok fl =>
    cases fl with
    | ret u => exact I.after hq
    | next => exact False.elim hq
    | brk => exact False.elim hq
    | cont => exact False.elim hq
theorem pe_kw0 {CX : CXT} {f : Addr} {fd : FuncData} {ps : List Str} {sp : Sp} {E : L2.St → XK} {tk : TA} (F : FnOk X.prog X.w X.K X.mg X.base CX k f fd ps sp) (hr : Room k X.A) (hg : Gl X x) (hm : X.mg x = some (.ref f)) (hk : PySem.W.keepIn X.K (.ref f) = true)
    (hb : ∀ (s : Shared) (us ws : List Value), us.length = 0 → ws.length = ks.length → BindsTo s fd ⟨us, ks.zip ws⟩ (ps.zip (permL is (us ++ ws)))) (hx : ∀ σ, PassesAt CX X σ (E σ)) (hkw : PK X kws tk)
    (hall : (backToKw pos (keywordEach kws X.env)).all (·.1.isSome) = true) (hks : (backToKw pos (keywordEach kws X.env)).filterMap (·.1) = ks) (hdb : (x == ("__debug__" : Str)) = false)
    (hpl : ((backTo pos (starEach [] X.env)).any (·.1) || (backToKw pos (keywordEach kws X.env)).any (·.1.isNone)) = false) :
    PE X (.Call (.Name x p1) [] kws pos) (tCallKS sp is 0 ks.length E tNil tk) := by
  refine ⟨fun pins s σ H Q I h => ?_⟩
  refine wpAny_Call_Name_kw (ld_glob I hg hm ?_ hdb)
  refine PySem.W.callWith_KW0 (h₀ := X.base) I.ok.mod.kin hk hall ?_ hpl
  refine thn (hkw.run pos pins s σ H _ I h) fun ws s2 ⟨zs, H2, I2, rz, l1, l2, q2⟩ => ⟨I2.kIn, ?_⟩
  rw [hks]
  exact run_fnK (us := []) (vs := []) F hr hb (hx σ) I2 .nil rz rfl l2 q2
theorem pe_kw {CX : CXT} {f : Addr} {fd : FuncData} {ps : List Str} {sp : Sp} {E : L2.St → XK} {t tk : TA} (F : FnOk X.prog X.w X.K X.mg X.base CX k f fd ps sp) (hr : Room k X.A) (hg : Gl X x) (hm : X.mg x = some (.ref f)) (hk : PySem.W.keepIn X.K (.ref f) = true)
    (hb : ∀ (s : Shared) (us ws : List Value), us.length = nn → ws.length = ks.length → BindsTo s fd ⟨us, ks.zip ws⟩ (ps.zip (permL is (us ++ ws)))) (hx : ∀ σ, PassesAt CX X σ (E σ)) (ha : PA X (a :: es) t) (hkw : PK X kws tk)
    (hall : (backToKw pos (keywordEach kws X.env)).all (·.1.isSome) = true) (hks : (backToKw pos (keywordEach kws X.env)).filterMap (·.1) = ks) (hdb : (x == ("__debug__" : Str)) = false)
    (he : starEach (a :: es) X.env = (false, eval a X.env) :: starEach es X.env) (hpl : ((backTo pos (starEach (a :: es) X.env)).any (·.1) || (backToKw pos (keywordEach kws X.env)).any (·.1.isNone)) = false) :
    PE X (.Call (.Name x p1) (a :: es) kws pos) (tCallKS sp is nn ks.length E t tk) := by
  refine ⟨fun pins s σ H Q I h => ?_⟩
  refine wpAny_Call_Name_kw (ld_glob I hg hm ?_ hdb)
  refine PySem.W.callWith_KW (h₀ := X.base) I.ok.mod.kin hk hall (thn (ha.run pos pins s σ H _ I h) fun us s1 ⟨vs, H1, I1, r, q⟩ => ?_) hpl he
  refine thn (hkw.run pos pins s1 σ H1 _ I1 q) fun ws s2 ⟨zs, H2, I2, rz, l1, l2, q2⟩ => ⟨I2.kIn, ?_⟩
  rw [hks]
  exact run_fnK F hr hb (hx σ) I2 r rz l1 l2 q2
def mCallK (mf : List D → R D) (is : List Nat) (ms mk : MA) : ME := fun r => (ms r).bind fun ds => (mk r).bind fun es => mf (permL is (ds ++ es))
theorem SimE.kw {t tk : TA} (ha : SimA X W t ms) (hb : SimA X W tk mk) (h1 : ALen ms nn) (h2 : ALen mk ks.length) (hn : ∀ {α : Type} (l : List α), l.length = nn + ks.length → (permL is l).length = n) :
    SimE X W (tCallKS (PF X.K X.mg n mf) is nn ks.length (WE W) t tk) (mCallK mf is ms mk) := fun n' Z H0 m r σ H q Q p => by
  unfold mCallK at p
  have p' := p.bind
  cases e : ms r with
  | ok ds =>
    refine ha n' Z H0 m r σ H q _ ?_
    rw [e] at p' ⊢
    intro vs H1 s1 rx
    have p2 : PostG X.K X.mg Z m W σ H ((mk r).bind fun es => mf (permL is (ds ++ es))) (fun d => ∀ (v : V) (H' : Hp), Same H H' → Rep X.K X.mg (hid Z m H') d v → Q v H') := p'
    have p3 := p2.bind
    cases e2 : mk r with
    | ok fs =>
      refine hb n' Z H0 m r σ H1 (q.grow s1) _ ?_
      rw [e2] at p3 ⊢
      intro us H2 s2 ru
      have l1 := h1 r ds e
      have l2 := h2 r fs e2
      have p4 : PostG X.K X.mg Z m W σ H (mf (permL is (ds ++ fs))) (fun d => ∀ (v : V) (H' : Hp), Same H H' → Rep X.K X.mg (hid Z m H') d v → Q v H') := p3
      have rx2 := (rx.mono (hid_mono s2)).append ru
      refine ⟨by rw [rx.length, l1], by rw [ru.length, l2], pf_strong ((q.grow s1).grow s2) ?_ (rx2.perm is) ((p4.grow (s1.trans s2)).imp fun d k3 v H' s3 rv => k3 v H' ((s1.trans s2).trans s3) rv)⟩
      exact hn _ (by rw [List.length_append, rx.length, ru.length, l1, l2])
    | exc cc ns xs =>
      refine hb n' Z H0 m r σ H1 (q.grow s1) _ ?_
      rw [e2] at p3 ⊢
      intro C d H' s' e'
      exact p3 C d H' (s1.trans s') e'
    | bad =>
      rw [e2] at p3
      exact False.elim p3
  | exc cc ns xs =>
    refine ha n' Z H0 m r σ H q _ ?_
    rw [e] at p' ⊢
    exact p'
  | bad =>
    rw [e] at p'
    exact False.elim p'
theorem ee_kw0 (tk : Takes X W) (F : OkK X.prog X.w X.K X.mg X.base k x n 0 ks is mf) (hr : Room kk X.A) (hk : k ≤ kk) (hkw : EK X W kws mk) (h2 : ALen mk ks.length) (hn : ∀ {α : Type} (l : List α), l.length = 0 + ks.length → (permL is l).length = n)
    (hall : (backToKw pos (keywordEach kws X.env)).all (·.1.isSome) = true := by rfl) (hks : (backToKw pos (keywordEach kws X.env)).filterMap (·.1) = ks := by rfl) (hg : Gl X x := by rfl) (hdb : (x == ("__debug__" : Str)) = false := by decide)
    (hpl : ((backTo pos (starEach [] X.env)).any (·.1) || (backToKw pos (keywordEach kws X.env)).any (·.1.isNone)) = false := by rfl) : EE X W (.Call (.Name x p1) [] kws pos) (mCallK mf is mNil mk) := by
  obtain ⟨f, fd, ps, g1, g2, g3, g4⟩ := F.ex
  obtain ⟨t, h3, h4⟩ := hkw.ex
  exact ⟨_, pe_kw0 g4 (hr.mono hk) hg g1 g2 g3 (fun σ => passAt tk σ) h3 hall hks hdb hpl, SimE.kw (fun n Z H0 m r σ H q Q p => p [] H (Same.refl H) RepL.nil) h4 al_nil h2 hn⟩
theorem ee_kw (tk : Takes X W) (F : OkK X.prog X.w X.K X.mg X.base k x n nn ks is mf) (hr : Room kk X.A) (hk : k ≤ kk) (ha : EA X W (a :: es) ms) (h1 : ALen ms nn) (hkw : EK X W kws mk) (h2 : ALen mk ks.length) (hn : ∀ {α : Type} (l : List α), l.length = nn + ks.length → (permL is l).length = n)
    (hall : (backToKw pos (keywordEach kws X.env)).all (·.1.isSome) = true := by rfl) (hks : (backToKw pos (keywordEach kws X.env)).filterMap (·.1) = ks := by rfl) (hg : Gl X x := by rfl) (hdb : (x == ("__debug__" : Str)) = false := by decide)
    (he : starEach (a :: es) X.env = (false, eval a X.env) :: starEach es X.env := by rfl) (hpl : ((backTo pos (starEach (a :: es) X.env)).any (·.1) || (backToKw pos (keywordEach kws X.env)).any (·.1.isNone)) = false := by rfl) : EE X W (.Call (.Name x p1) (a :: es) kws pos) (mCallK mf is ms mk) := by
  obtain ⟨f, fd, ps, g1, g2, g3, g4⟩ := F.ex
  obtain ⟨u, h5, h6⟩ := ha.ex
  obtain ⟨t, h3, h4⟩ := hkw.ex
  exact ⟨_, pe_kw g4 (hr.mono hk) hg g1 g2 g3 (fun σ => passAt tk σ) h5 h3 hall hks hdb he hpl, SimE.kw h6 h4 h1 h2 hn⟩
end
end QB

namespace QB
open PySem PySem.Spec PyProof.Rows L2
theorem ee_globI {X : Cx} {W : WX} {x : Str} {pos : Pos} {i : Int} {t : Tok} (hm : X.mg x = some (.int i t)) (hg : Gl X x := by rfl) (hdb : (x == ("__debug__" : Str)) = false := by decide) : EE X W (.Name x pos) (mC (.int i)) :=
  ee_glob (v := .int i) hg hm ⟨t, rfl⟩ (fun _ => by simp [Rep]) hdb
theorem ee_globS {X : Cx} {W : WX} {x : Str} {pos : Pos} {i : Str} {t : Tok} (hm : X.mg x = some (.str i t)) (hg : Gl X x := by rfl) (hdb : (x == ("__debug__" : Str)) = false := by decide) : EE X W (.Name x pos) (mC (.str i)) :=
  ee_glob (v := .str i) hg hm ⟨t, rfl⟩ (fun _ => by simp [Rep]) hdb
/-! ### the law's end -/
def spLaw (K : PySem.W.Frag) : Sp := fun vs H Q _ => ∃ (a : Addr) (ns : List Int), vs = [.ref a] ∧ SqL K H a (ns.map V.int) ∧ ns.length ≤ 63 ∧ (∀ z ∈ ns, Builtin.Int.intBits z ≤ 1048576) ∧ ∀ H', Q (.bl true) H'
theorem repL_ints {K : PySem.W.Frag} {mg : Str → Option Value} {G : Hp} : ∀ ns : List Int, RepL K mg G (ns.map D.int) (ns.map V.int)
  | [] => by simp [RepL]
  | n :: ns => RepL.cons (by simp [Rep]) (repL_ints ns)
theorem law_imp {K : PySem.W.Frag} {mg : Str → Option Value} {m : List D → R D} (hm : ∀ ns : List Int, ns.length ≤ 63 → (∀ z ∈ ns, Builtin.Int.intBits z ≤ 1048576) → m [.slst (ns.map D.int)] = .ok (.bl true)) {vs : List V} {H : Hp} {Q : VK} {E : XK} (h : spLaw K vs H Q E) : PF K mg 1 m vs H Q E := by
  obtain ⟨a, ns, rfl, hS, hl, hb, k⟩ := h
  refine ⟨rfl, [.slst (ns.map D.int)], fun _ => False, fun _ z => z.elim, RepL.cons ?_ RepL.nil, ?_⟩
  · simp only [Rep]
    refine ⟨a, ns.map V.int, rfl, Same.seq (fun b o e => hid_of e (fun z => z) fun _ z => nomatch z) hS, repL_ints ns⟩
  · rw [hm ns hl hb]
    intro v H' _ r
    simp only [Rep] at r
    subst r
    exact k H'
theorem no_exc {P : Program} {w : World} {H : Hp} {s : Shared} {e : Value} {s' : Shared} (h : L2.CX P w [] H s (fun _ _ _ => False) e s') : False := by
  obtain ⟨_, _, _, _, _, _, _, _, _, _, _, _, z⟩ := h
  exact z
end QB

namespace QB
open PySem PySem.Spec PyProof.Rows L2
/-! ### list comprehensions -/
abbrev W0 : WX := fun _ _ _ _ => False
def R.ne {α : Type} (x : R α) : R α := match x with
  | .ok a => .ok a
  | _ => .bad
def notOwn (r : Sc) (vs : List Nat) : Bool := vs.all fun i => match r[i]? with
  | some (some (.own _)) => false
  | none => false
  | _ => true
def wipeS (r : Sc) : List Nat → Sc
  | [] => r
  | v :: vs => (wipeS r vs).set v none
def compL (tb : D → Sc → Option Sc) (mt : MT) (me : ME) (r0 : Sc) : List D → List D → R Cell
  | [], acc => .ok (.l acc)
  | d :: ds, acc => match tb d r0 with
    | none => .bad
    | some r1 => (mt r1).ne.bind fun k => match k with
      | true => (me r1).ne.bind fun x => if acc.length < sizeLine then compL tb mt me r0 ds (acc ++ [x]) else .bad
      | false => compL tb mt me r0 ds acc
def mLC (vs : List Nat) (mi : MA) (tb : D → Sc → Option Sc) (mt : MT) (me : ME) : MF := fun r => match notOwn r vs with
  | true => (mi r).bind fun ds => compL tb mt me (wipeS r vs) ds []
  | false => .bad
def mYes : MT := fun _ => .ok true
section
variable {X Y : Cx} {W : WX} {e elt tg iter : Expr} {ifs : List Expr} {scope : Scope} {own : List (Str × Nat)} {pos : Pos} {ma : MA} {me : ME} {mt : MT} {tb : D → Sc → Option Sc} {vs : List Nat}
structure EC (X : Cx) (ifs : List Expr) (mt : MT) : Prop where
  ex : ∃ t, PTs X ifs t ∧ SimT X W0 t mt
theorem ec_nil : EC X [] mYes := ⟨_, pts_nil, fun n Z H0 m r σ H q Q p => p H (Same.refl H)⟩
theorem ec_one (h : ET X W0 e mt) : EC X [e] mt := by
  obtain ⟨t, h1, h2⟩ := h.ex
  exact ⟨t, pts_one h1, h2⟩

/-- a comprehension's target: the slots vs alone change, none of them owns -/
structure CG (X : Cx) (vs : List Nat) (tg : Expr) (tb : D → Sc → Option Sc) : Prop where
  ex : ∃ g, PG X tg g ∧ ∀ (n : Nat) (Z : Addr → Prop) (H0 : Hp) (m : Nat → Option Addr) (r : Sc) (σ : L2.St) (H : Hp), (∀ i ∈ vs, i < n) → Rel X.K X.mg n Z H0 m r σ H → (∀ i ∈ vs, m i = none) → ∀ (d : D) (v : V) (Q : L2.St → Hp → Prop), Rep X.K X.mg (hid Z m H) d v →
    (match tb d r with
      | some r' => ∀ (σ' : L2.St), Rel X.K X.mg n Z H0 m r' σ' H → wipe σ' vs = wipe σ vs → Q σ' H
      | none => False) → g v σ H Q
theorem drp_none {m : Nat → Option Addr} {i : Nat} (h : m i = none) : drp m i = m := by
  funext j
  unfold drp
  split
  · rename_i e
    rw [e, h]
  · rfl
theorem wipe_set {σ : L2.St} {i : Nat} {x : Option V} : ∀ {vs : List Nat}, i ∈ vs → wipe (σ.set i x) vs = wipe σ vs
  | [], h => by cases h
  | v :: vs, h => by
    unfold wipe
    by_cases e : i ∈ vs
    · rw [wipe_set e]
    · have ev : i = v := by
        rcases List.mem_cons.mp h with e2 | e2
        · exact e2
        · exact absurd e2 e
      subst ev
      have key : ∀ (ws : List Nat) (τ : L2.St), (wipe (τ.set i x) ws).set i none = (wipe τ ws).set i none := by
        intro ws
        induction ws with
        | nil =>
          intro τ
          unfold wipe
          rw [List.set_set]
        | cons w ws ih =>
          intro τ
          unfold wipe
          by_cases ew : w = i
          · subst ew
            rw [List.set_set, List.set_set]
            exact ih τ
          · rw [List.set_comm _ _ ew, List.set_comm _ _ ew, ih τ]
      exact key vs σ
theorem cg_name {i : Nat} {x : Str} (hN : X.N.Nodup) (hi : X.N[i]? = some x) (hx : Loc X.env.scope x) (hv : i ∈ vs) (hf : X.fn x = true ∨ X.env.scope.names.lookup x = some .local := by first | exact .inl rfl | exact .inr rfl | assumption) : CG X vs (.Name x pos) (bName i) := by
  refine ⟨_, pg_name hN hi hx hf, fun n Z H0 m r σ H hn q hm d v Q rv p => ?_⟩
  have q' := q.setv (i := i) (hn i hv) rv
  rw [drp_none (hm i hv)] at q'
  exact p _ q' (wipe_set hv)
theorem own_none {K : PySem.W.Frag} {mg : Str → Option Value} {n : Nat} {Z : Addr → Prop} {H0 : Hp} {m : Nat → Option Addr} {r : Sc} {σ : L2.St} {H : Hp} (q : Rel K mg n Z H0 m r σ H) (h : notOwn r vs = true) : ∀ i ∈ vs, m i = none := by
  intro i hi
  cases e : m i with
  | none => rfl
  | some a =>
    obtain ⟨c, hc⟩ := q.dom i a e
    have h2 := List.all_eq_true.mp h i hi
    rw [hc] at h2
    cases h2
theorem own_lt {K : PySem.W.Frag} {mg : Str → Option Value} {n : Nat} {Z : Addr → Prop} {H0 : Hp} {m : Nat → Option Addr} {r : Sc} {σ : L2.St} {H : Hp} (q : Rel K mg n Z H0 m r σ H) (h : notOwn r vs = true) : ∀ i ∈ vs, i < n := by
  intro i hi
  have h2 := List.all_eq_true.mp h i hi
  rw [← q.lenr]
  refine Nat.lt_of_not_le fun z => ?_
  rw [List.getElem?_eq_none z] at h2
  cases h2
theorem wipe_rel {K : PySem.W.Frag} {mg : Str → Option Value} {n : Nat} {Z : Addr → Prop} {H0 : Hp} {m : Nat → Option Addr} {r : Sc} {σ : L2.St} {H : Hp} (q : Rel K mg n Z H0 m r σ H) : ∀ {vs : List Nat}, (∀ i ∈ vs, m i = none) → Rel K mg n Z H0 m (wipeS r vs) (wipe σ vs) H
  | [], _ => q
  | v :: vs, h => by
    have q1 := wipe_rel q (vs := vs) fun i hi => h i (List.mem_cons_of_mem _ hi)
    have hv := h v List.mem_cons_self
    unfold wipeS wipe
    refine ⟨by rw [List.length_set, q1.lenr], by rw [List.length_set, q1.lens], fun j d hj => ?_, fun j c hj => ?_, fun j a hj => ?_, q1.inj, q1.frs, q1.zed, q1.same⟩
    · rcases getset hj with ⟨_, e2⟩ | ⟨e1, e2⟩
      · cases e2
      · obtain ⟨w, h1, h2⟩ := q1.val j d e2
        exact ⟨w, by rw [List.getElem?_set_ne (Ne.symm e1)]; exact h1, h2⟩
    · rcases getset hj with ⟨_, e2⟩ | ⟨e1, e2⟩
      · cases e2
      · obtain ⟨a, o, h1, h2, h3, h4⟩ := q1.own j c e2
        exact ⟨a, o, h1, by rw [List.getElem?_set_ne (Ne.symm e1)]; exact h2, h3, h4⟩
    · have nv : j ≠ v := fun e => by
        subst e
        rw [hv] at hj
        cases hj
      obtain ⟨c, hc⟩ := q1.dom j a hj
      exact ⟨c, by rw [List.getElem?_set_ne (Ne.symm nv)]; exact hc⟩
theorem ne_post {K : PySem.W.Frag} {mg : Str → Option Value} {Z : Addr → Prop} {m : Nat → Option Addr} {σ : L2.St} {H : Hp} {β γ : Type} {x : R β} {f : β → R γ} {k : R γ → Prop} (h : k (x.ne.bind f)) (hb : ¬ k .bad) : PostG K mg Z m W0 σ H x (fun b => k (f b)) := by
  cases x with
  | ok b => exact h
  | exc c ns xs => exact absurd h hb
  | bad => exact absurd h hb
/-- the comprehension's reading -/
theorem SimF.lc {wi : TI} {g : TG} {tt : TT} {te : TE}
    (hi : ∀ (n : Nat) (Z : Addr → Prop) (H0 : Hp) (m : Nat → Option Addr) (r : Sc) (σ : L2.St) (H : Hp), Rel X.K X.mg n Z H0 m r σ H → ∀ R' : It → Hp → Prop, PostG X.K X.mg Z m W σ H (ma r) (fun ds => ∀ (J : It) (H' : Hp), Same H H' → ItOk X.K X.mg (hid Z m H') J ds → R' J H') → wi σ H R')
    (hg : ∀ (n : Nat) (Z : Addr → Prop) (H0 : Hp) (m : Nat → Option Addr) (r : Sc) (σ : L2.St) (H : Hp), (∀ i ∈ vs, i < n) → Rel X.K X.mg n Z H0 m r σ H → (∀ i ∈ vs, m i = none) → ∀ (d : D) (v : V) (Q : L2.St → Hp → Prop), Rep X.K X.mg (hid Z m H) d v → (match tb d r with
      | some r' => ∀ (σ' : L2.St), Rel X.K X.mg n Z H0 m r' σ' H → wipe σ' vs = wipe σ vs → Q σ' H
      | none => False) → g v σ H Q)
    (ht : SimT X W0 tt mt) (he : SimE X W0 te me) : ∀ (n : Nat) (Z : Addr → Prop) (H0 : Hp) (m : Nat → Option Addr) (r : Sc) (σ : L2.St) (H : Hp), Rel X.K X.mg n Z H0 m r σ H → ∀ Q : VK,
      PostG X.K X.mg Z m W σ H (mLC vs ma tb mt me r) (fun c => ∀ (p : Addr) (o : HO) (H' : Hp), Same H H' → H' p = none → CellOk X.K X.mg (hid Z m H') o c → Q (.ref p) (upd H' p o)) → tLc wi g tt te vs σ H Q := by
  intro n Z H0 m r σ H q Q p
  unfold mLC at p
  cases hno : notOwn r vs with
  | false =>
    rw [hno] at p
    exact False.elim p
  | true =>
    rw [hno] at p
    have hm := own_none q hno
    have hn := own_lt q hno
    refine hi n Z H0 m r σ H q _ (p.bind.imp fun ds k J H1 s1 io => ?_)
    intro D0 hD
    have q1 := q.grow s1
    -- the new list at D0 is hidden while it grows: Z2
    refine ⟨fun i j H2 => i + j = ds.length ∧ ∃ (acc : List D) (avs : List V) (G2 : Hp), Same H1 G2 ∧ G2 D0 = none ∧ H2 = upd G2 D0 (.lst avs) ∧ RepL X.K X.mg (hid Z m G2) acc avs ∧
      PostG X.K X.mg Z m W σ H (compL tb mt me (wipeS r vs) (ds.drop i) acc) (fun c => ∀ (p : Addr) (o : HO) (H' : Hp), Same H H' → H' p = none → CellOk X.K X.mg (hid Z m H') o c → Q (.ref p) (upd H' p o)), ⟨ds.length, by omega, [], [], H1, Same.refl _, hD, rfl, RepL.nil, k⟩, ?_⟩
    rintro i j H2 ⟨hij, acc, avs, G2, sG, nD, rfl, rA, k2⟩
    have q2 := q1.grow sG
    have sU : Same G2 (upd G2 D0 (.lst avs)) := same_upd nD
    have sI : Same (hid Z m H1) (upd G2 D0 (.lst avs)) := fun b o e => sU b o (sG b o (hid_sub b o e))
    by_cases hlt : i < ds.length
    · obtain ⟨g1, g2⟩ := io.go _ i sI hlt
      refine .inr ⟨g1, fun H' => ∃ (acc : List D) (avs : List V) (G2 : Hp), Same H1 G2 ∧ G2 D0 = none ∧ H' = upd G2 D0 (.lst avs) ∧ RepL X.K X.mg (hid Z m G2) acc avs ∧
        PostG X.K X.mg Z m W σ H (compL tb mt me (wipeS r vs) (ds.drop (i + 1)) acc) (fun c => ∀ (p : Addr) (o : HO) (H' : Hp), Same H H' → H' p = none → CellOk X.K X.mg (hid Z m H') o c → Q (.ref p) (upd H' p o)), fun H' z => ⟨j - 1, by omega, by omega, z⟩, fun x H' hy => ?_⟩
      obtain ⟨rfl, d, hd, rd⟩ := g2 x H' hy
      have ed : ds.drop i = d :: ds.drop (i + 1) := by
        have e : ds[i] = d := by
          rw [List.getElem?_eq_getElem hlt] at hd
          exact Option.some.inj hd
        rw [← e]
        exact List.drop_eq_getElem_cons hlt
      rw [ed] at k2
      -- D0 joins what is hidden
      let Z2 : Addr → Prop := fun b => Z b ∨ b = D0
      have hZ2 : ∀ {HH : Hp}, Same (hid Z2 m HH) (hid Z m HH) := fun {HH} b o e => by
        obtain ⟨e1, e2, e3⟩ := of_hid e
        exact hid_of e1 (fun z => e2 (.inl z)) e3
      have hG : ∀ {HH : Hp}, Same (upd G2 D0 (.lst avs)) HH → Same (hid Z m G2) (hid Z2 m HH) := fun {HH} s b o e => by
        obtain ⟨e1, e2, e3⟩ := of_hid e
        refine hid_of (s b o (sU b o e1)) (fun z => ?_) e3
        rcases z with z | z
        · exact e2 z
        · rw [z, nD] at e1
          cases e1
      have nmD : ∀ j, m j ≠ some D0 := (q2.new nD).2
      have qZ : Rel X.K X.mg n Z2 H0 m (wipeS r vs) (wipe σ vs) (upd G2 D0 (.lst avs)) := by
        have q3 := wipe_rel q2 hm
        refine ⟨q3.lenr, q3.lens, fun j d hj => ?_, fun j c hj => ?_, q3.dom, q3.inj, fun j a hj => ?_, fun b hb => ?_, q3.same.trans sU⟩
        · obtain ⟨w, h1, h2⟩ := q3.val j d hj
          exact ⟨w, h1, h2.mono (hG (Same.refl _))⟩
        · obtain ⟨a, o, h1, h2, h3, h4⟩ := q3.own j c hj
          exact ⟨a, o, h1, h2, sU _ _ h3, h4.mono (hG (Same.refl _))⟩
        · obtain ⟨f1, f2⟩ := q3.frs j a hj
          refine ⟨f1, fun z => ?_⟩
          rcases z with z | z
          · exact f2 z
          · exact nmD j (by rw [← z]; exact hj)
        · rcases hb with hb | hb
          · intro e
            cases e2 : G2 b with
            | none => exact q3.zed b hb e2
            | some o =>
              rw [sU _ _ e2] at e
              cases e
          · rw [hb, upd_same]
            intro z
            cases z
      have rdZ : Rep X.K X.mg (hid Z2 m (upd G2 D0 (.lst avs))) d x := by
        refine rd.mono fun b o e => ?_
        obtain ⟨e1, e2, e3⟩ := of_hid e
        refine hid_of (sU b o (sG b o e1)) (fun z => ?_) e3
        rcases z with z | z
        · exact e2 z
        · rw [z, hD] at e1
          cases e1
      refine hg n Z2 H0 m (wipeS r vs) (wipe σ vs) _ hn qZ hm d x _ rdZ ?_
      simp only [compL] at k2
      cases e1 : tb d (wipeS r vs) with
      | none =>
        rw [e1] at k2
        exact k2
      | some r1 =>
        rw [e1] at k2
        intro σ' q3 hw
        have hww : wipe (wipe σ vs) vs = wipe σ vs := by
          have key : ∀ (ws us : List Nat), (∀ a ∈ us, a ∈ ws) → ∀ τ : L2.St, wipe (wipe τ us) ws = wipe τ ws := by
            intro ws us
            induction us with
            | nil => intro _ τ; rfl
            | cons a us ih =>
              intro hs τ
              show wipe ((wipe τ us).set a none) ws = wipe τ ws
              rw [wipe_set (hs a List.mem_cons_self)]
              exact ih (fun b hb => hs b (List.mem_cons_of_mem _ hb)) τ
          exact key vs vs (fun _ h => h) σ
        refine ⟨hw.trans hww, ?_⟩
        refine ht n Z2 H0 m r1 σ' _ q3 _ (PostG.imp (ne_post (K := X.K) (mg := X.mg) (Z := Z2) (m := m) (k := fun z => PostG X.K X.mg Z m W σ H z _) k2 (fun z => z)) fun b k3 H3 s3 => ?_)
        have qB := q3.grow s3
        cases b with
        | false =>
          rw [if_neg Bool.false_ne_true]
          -- nothing is put in: the heap is H3, D0 still holds avs
          refine ⟨acc, avs, fun b => if b = D0 then none else H3 b, fun b o e => ?_, by simp, ?_, rA.mono ?_, k3⟩
          · have nb : b ≠ D0 := fun z => by
              rw [z, hD] at e
              cases e
            show (if b = D0 then none else H3 b) = some o
            rw [if_neg nb]
            exact s3 _ _ (sU _ _ (sG _ _ e))
          · funext b
            unfold upd
            by_cases eb : b = D0
            · rw [if_pos eb, eb]
              exact s3 _ _ upd_same
            · rw [if_neg eb]
              exact (if_neg eb).symm
          · intro b o e
            obtain ⟨z1, z2, z3⟩ := of_hid e
            have nb : b ≠ D0 := fun z => by
              rw [z, nD] at z1
              cases z1
            exact hid_of (by show (if b = D0 then none else H3 b) = some o; rw [if_neg nb]; exact s3 _ _ (sU _ _ z1)) z2 z3
        | true =>
          rw [if_pos rfl]
          refine he n Z2 H0 m r1 σ' _ qB _ (PostG.imp (ne_post (K := X.K) (mg := X.mg) (Z := Z2) (m := m) (k := fun z => PostG X.K X.mg Z m W σ H z _) k3 (fun z => z)) fun y k4 v H4 s4 ry => ?_)
          split at k4
          · rename_i hz
            have s34 : Same (upd G2 D0 (.lst avs)) H4 := s3.trans s4
            refine ⟨avs, s34 _ _ upd_same, by rw [rA.length]; exact hz, acc ++ [y], avs ++ [v], fun b => if b = D0 then none else H4 b, fun b o e => ?_, by simp, ?_, ?_, k4⟩
            · have nb : b ≠ D0 := fun z => by
                rw [z, hD] at e
                cases e
              show (if b = D0 then none else H4 b) = some o
              rw [if_neg nb]
              exact s34 _ _ (sU _ _ (sG _ _ e))
            · funext b
              unfold upd
              by_cases eb : b = D0
              · rw [if_pos eb, if_pos eb]
              · rw [if_neg eb, if_neg eb]
                exact (if_neg eb).symm
            · have toB : Same (hid Z2 m H4) (hid Z m (fun b => if b = D0 then none else H4 b)) := fun b o e => by
                obtain ⟨z1, z2, z3⟩ := of_hid e
                have nb : b ≠ D0 := fun z => z2 (.inr z)
                exact hid_of (by show (if b = D0 then none else H4 b) = some o; rw [if_neg nb]; exact z1) (fun z => z2 (.inl z)) z3
              exact (rA.mono ((hG s34).trans toB)).append (RepL.cons (ry.mono toB) RepL.nil)
          · exact False.elim k4
    · have e : i = ds.length := by omega
      subst e
      refine .inl ⟨io.stop _ sI, ?_⟩
      rw [List.drop_length] at k2
      exact k2 D0 (.lst avs) G2 (s1.trans sG) nD ⟨avs, rfl, rA⟩
/-- one reading for a family of contexts -/
theorem all_e {ι : Type} {F : ι → Cx} (h : ∀ i, EE (F i) W0 e me) (hK : ∀ i, (F i).K = X.K) (hm : ∀ i, (F i).mg = X.mg) : ∃ t, (∀ i, PE (F i) e t) ∧ SimE X W0 t me := by
  refine ⟨fun σ H Q => ∀ i, (h i).ex.choose σ H Q, fun i => ⟨fun pins s σ H Q I z => (h i).ex.choose_spec.1.run pins s σ H Q I (z i)⟩, fun n Z H0 m r σ H q Q p i => ?_⟩
  have z := (h i).ex.choose_spec.2 n Z H0 m r σ H
  rw [hK, hm] at z
  exact z q Q p
theorem all_t {ι : Type} {F : ι → Cx} (h : ∀ i, EC (F i) ifs mt) (hK : ∀ i, (F i).K = X.K) (hm : ∀ i, (F i).mg = X.mg) : ∃ t, (∀ i, PTs (F i) ifs t) ∧ SimT X W0 t mt := by
  refine ⟨fun σ H Q => ∀ i, (h i).ex.choose σ H Q, fun i => ⟨fun pins s σ H Q I z => (h i).ex.choose_spec.1.run pins s σ H Q I (z i)⟩, fun n Z H0 m r σ H q Q p i => ?_⟩
  have z := (h i).ex.choose_spec.2 n Z H0 m r σ H
  rw [hK, hm] at z
  exact z q Q p
theorem all_g {ι : Type} {F : ι → Cx} (h : ∀ i, CG (F i) vs tg tb) (hK : ∀ i, (F i).K = X.K) (hm : ∀ i, (F i).mg = X.mg) : ∃ g, (∀ i, PG (F i) tg g) ∧ ∀ (n : Nat) (Z : Addr → Prop) (H0 : Hp) (m : Nat → Option Addr) (r : Sc) (σ : L2.St) (H : Hp), (∀ i ∈ vs, i < n) → Rel X.K X.mg n Z H0 m r σ H → (∀ i ∈ vs, m i = none) → ∀ (d : D) (v : V) (Q : L2.St → Hp → Prop), Rep X.K X.mg (hid Z m H) d v → (match tb d r with
      | some r' => ∀ (σ' : L2.St), Rel X.K X.mg n Z H0 m r' σ' H → wipe σ' vs = wipe σ vs → Q σ' H
      | none => False) → g v σ H Q := by
  refine ⟨fun v σ H Q => ∀ i, (h i).ex.choose v σ H Q, fun i => ⟨fun pins s σ H v u Q I r z => (h i).ex.choose_spec.1.run pins s σ H v u Q I r (z i)⟩, fun n Z H0 m r σ H hn q hq d v Q rv p i => ?_⟩
  have z := (h i).ex.choose_spec.2 n Z H0 m r σ H hn
  show (h i).ex.choose v σ H Q
  generalize (h i).ex.choose = g at z ⊢
  rw [hK, hm] at z
  exact z q hq d v Q rv p
abbrev BI := Shared × Hp × Addr × List (Str × Addr) × List Addr
abbrev blkF (X : Cx) (scope : Scope) (i : BI) : Cx := X.blk i.1 i.2.1 scope (compEnvC scope i.2.2.2.1 i.2.2.1 X.env) i.2.2.2.2
theorem ef_lc {mi : MA} (hc : X.calm = true) (hN : X.N.Nodup) (hi : EI X W tg iter mi) (ok : BlkOk X.N X.env.scope scope own) (hv : own.map (·.2) = vs) (hg : ∀ i : BI, CG (blkF X scope i) vs tg tb) (ht : ∀ i : BI, EC (blkF X scope i) ifs mt) (he : ∀ i : BI, EE (blkF X scope i) W0 elt me)
    (hs : ∀ x, foldedSetIterable iter X.env x = pure x := by intro _; rfl) : EF X W (.ListComp elt [⟨tg, iter, ifs, 0⟩] scope pos) (mLC vs mi tb mt me) := by
  obtain ⟨wi, h1, h2⟩ := hi.ex
  obtain ⟨g, g1, g2⟩ := all_g (X := X) hg (fun _ => rfl) (fun _ => rfl)
  obtain ⟨tt, t1, t2⟩ := all_t (X := X) ht (fun _ => rfl) (fun _ => rfl)
  obtain ⟨te, e1, e2⟩ := all_e (X := X) he (fun _ => rfl) (fun _ => rfl)
  refine ⟨_, pe_lc hc hN h1 ok (fun s H C cl fp => g1 (s, H, C, cl, fp)) (fun s H C cl fp => t1 (s, H, C, cl, fp)) (fun s H C cl fp => e1 (s, H, C, cl, fp)) hs, ?_⟩
  rw [hv]
  exact SimF.lc h2 g2 t2 e2
/-- name = [..] on one line, the name a plain local -/
theorem es_setoLc {mi : MA} {i : Nat} {y : Str} {py spos : Pos} (hc : X.calm = true) (hN : X.N.Nodup) (hy : X.N[i]? = some y) (hyl : X.env.scope.names.lookup y = some .local) (hsw : swapsWith (.ListComp elt [⟨tg, iter, ifs, 0⟩] scope pos) (some (.Name y py)) spos.line X.env = pure true)
    (hi : EI X W tg iter mi) (ok : BlkOk X.N X.env.scope scope own) (hv : own.map (·.2) = vs) (hg : ∀ i : BI, CG (blkF X scope i) vs tg tb) (ht : ∀ i : BI, EC (blkF X scope i) ifs mt) (he : ∀ i : BI, EE (blkF X scope i) W0 elt me)
    (hs : ∀ x, foldedSetIterable iter X.env x = pure x := by intro _; rfl) : ES X W (.Assign [.Name y py] (.ListComp elt [⟨tg, iter, ifs, 0⟩] scope pos) spos) (mSetO i (mLC vs mi tb mt me)) := by
  obtain ⟨wi, h1, h2⟩ := hi.ex
  obtain ⟨g, g1, g2⟩ := all_g (X := X) hg (fun _ => rfl) (fun _ => rfl)
  obtain ⟨tt, t1, t2⟩ := all_t (X := X) ht (fun _ => rfl) (fun _ => rfl)
  obtain ⟨te, e1, e2⟩ := all_e (X := X) he (fun _ => rfl) (fun _ => rfl)
  refine ⟨_, ps_setLc hc hN hy hyl hsw h1 ok (fun s H C cl fp => g1 (s, H, C, cl, fp)) (fun s H C cl fp => t1 (s, H, C, cl, fp)) (fun s H C cl fp => e1 (s, H, C, cl, fp)) hs, ?_⟩
  rw [hv]
  exact SimS.setO (List.getElem?_eq_some_iff.mp hy).1 (SimF.lc h2 g2 t2 e2)
end
end QB

namespace QB
open PySem PySem.Spec PyProof.Rows L2
section
variable {X : Cx} {W : WX} {a b c e : Expr} {es rest : List Expr} {ma mb mc me : ME} {ms : MA} {pos : Pos} {te tl : TE} {x : Str} {p1 : Pos} {k kk n : Nat} {mf : List D → R D}
/-! ### a call with no argument -/
theorem ee_call0 (tk : Takes X W) (F : Ok X.prog X.w X.K X.mg X.base k x 0 mf) (hr : Room kk X.A) (hk : k ≤ kk) (hg : Gl X x := by rfl) (hdb : (x == ("__debug__" : Str)) = false := by decide) : EE X W (.Call (.Name x p1) [] [] pos) (mCallB mf mNil) := by
  obtain ⟨f, fd, ps, h1, h2, h3, h4⟩ := F.ex
  refine ⟨tCallS (PF X.K X.mg 0 mf) (WE W) tNil, ⟨fun pins s σ H Q I h => ?_⟩, ?_⟩
  · refine wpAny_Call_Name_kw (ld_glob I hg h1 ?_ hdb)
    exact PySem.W.callWith_K0 I.kIn h2 (run_fnS (us := []) h4 (hr.mono hk) h3 (passAt tk σ) I .nil h)
  · refine SimA.len (ms := mNil) (fun n Z H0 m r σ H q Q p => p [] H (Same.refl H) RepL.nil) (fun r ds e => ?_) (PF X.K X.mg 0 mf)
    cases e
    rfl
/-! ### abs, min, max -/
def dAbs : List D → R D
  | [.int i] => .ok (.int (if i < 0 then -i else i))
  | _ => .bad
def dMin : List D → R D
  | [.int i, .int j] => .ok (.int (if j < i then j else i))
  | _ => .bad
def dMax : List D → R D
  | [.int i, .int j] => .ok (.int (if j > i then j else i))
  | _ => .bad
theorem bu_abs : BuW X W (fun xs H Q => ∃ i, xs = [.int i] ∧ Q (.int (if i < 0 then -i else i)) H) dAbs := fun n Z H0 m r σ H q ds vs Q h p => by
  unfold dAbs at p
  split at p
  · obtain ⟨v, rfl, r1⟩ := h.one
    simp only [Rep] at r1
    subst r1
    exact ⟨_, rfl, p _ H (Same.refl H) (by simp [Rep])⟩
  · exact False.elim p
theorem bu_min : BuW X W (fun xs H Q => ∃ i j, xs = [.int i, .int j] ∧ Q (.int (if j < i then j else i)) H) dMin := fun n Z H0 m r σ H q ds vs Q h p => by
  unfold dMin at p
  split at p
  · obtain ⟨v, w, rfl, r1, r2⟩ := h.two
    simp only [Rep] at r1 r2
    subst r1 r2
    exact ⟨_, _, rfl, p _ H (Same.refl H) (by simp [Rep])⟩
  · exact False.elim p
theorem bu_max : BuW X W (fun xs H Q => ∃ i j, xs = [.int i, .int j] ∧ Q (.int (if j > i then j else i)) H) dMax := fun n Z H0 m r σ H q ds vs Q h p => by
  unfold dMax at p
  split at p
  · obtain ⟨v, w, rfl, r1, r2⟩ := h.two
    simp only [Rep] at r1 r2
    subst r1 r2
    exact ⟨_, _, rfl, p _ H (Same.refl H) (by simp [Rep])⟩
  · exact False.elim p
theorem ee_abs (hm : X.mg "abs" = none) (hg : Gl X "abs") (ha : EAW X W (a :: es) ms) (he : starEach (a :: es) X.env = (false, eval a X.env) :: starEach es X.env := by rfl) (hpl : (backTo pos (starEach es X.env)).any (·.1) = false := by rfl) : EE X W (.Call (.Name "abs" p1) (a :: es) [] pos) (mCallB dAbs ms) := by
  obtain ⟨ta, h1, h2⟩ := ha.ex
  exact ⟨_, pe_callB call_abs hg hm rfl h1 (by decide) (by decide) he hpl, SimE.bw h2 bu_abs⟩
theorem ee_min (hc : X.calm = true) (hm : X.mg "min" = none) (hg : Gl X "min") (ha : EAW X W (a :: es) ms) (he : starEach (a :: es) X.env = (false, eval a X.env) :: starEach es X.env := by rfl) (hpl : (backTo pos (starEach es X.env)).any (·.1) = false := by rfl) : EE X W (.Call (.Name "min" p1) (a :: es) [] pos) (mCallB dMin ms) := by
  obtain ⟨ta, h1, h2⟩ := ha.ex
  exact ⟨_, pe_callB (call_min2 hc) hg hm rfl h1 (by decide) (by decide) he hpl, SimE.bw h2 bu_min⟩
theorem ee_max (hc : X.calm = true) (hm : X.mg "max" = none) (hg : Gl X "max") (ha : EAW X W (a :: es) ms) (he : starEach (a :: es) X.env = (false, eval a X.env) :: starEach es X.env := by rfl) (hpl : (backTo pos (starEach es X.env)).any (·.1) = false := by rfl) : EE X W (.Call (.Name "max" p1) (a :: es) [] pos) (mCallB dMax ms) := by
  obtain ⟨ta, h1, h2⟩ := ha.ex
  exact ⟨_, pe_callB (call_max2 hc) hg hm rfl h1 (by decide) (by decide) he hpl, SimE.bw h2 bu_max⟩
/-! ### tuple(x), list(x) of a sequence -/
def dTupOf : List D → R D
  | [d] => (match seqD d with
    | some xs => .ok (.tup xs)
    | none => .bad)
  | _ => .bad
theorem bu_tup : BuS X W (fun xs H Q => ∃ p ys, xs = [.ref p] ∧ ((SqL X.K H p ys ∧ ∀ l, H l = none → Q (.ref l) (upd H l (.tup ys))) ∨ (SqT X.K H p ys ∧ Q (.ref p) H))) dTupOf := fun n Z H0 m r σ H q ds vs Q h p => by
  unfold dTupOf at p
  split at p
  · rename_i d
    split at p
    · rename_i xs e
      obtain ⟨v, rfl, r1⟩ := h.one
      obtain ⟨a, us, rfl, hq, t⟩ := seqD_rep r1 e
      rcases hq with hq | hq
      · refine ⟨a, us, rfl, .inl ⟨Same.seq hid_sub hq, fun l nl => p _ _ (same_upd nl) ?_⟩⟩
        simp only [Rep]
        exact ⟨l, us, rfl, .inl (.inl (q.hidNew nl)), t.mono (hid_mono (same_upd nl))⟩
      · refine ⟨a, us, rfl, .inr ⟨Same.seqT hid_sub hq, p _ H (Same.refl H) ?_⟩⟩
        simp only [Rep]
        exact ⟨a, us, rfl, hq, t⟩
    · exact False.elim p
  · exact False.elim p
theorem ee_tupc (hm : X.mg "tuple" = none) (hg : Gl X "tuple") (ha : EA X W (a :: es) ms) (he : starEach (a :: es) X.env = (false, eval a X.env) :: starEach es X.env := by rfl) (hpl : (backTo pos (starEach es X.env)).any (·.1) = false := by rfl) : EE X W (.Call (.Name "tuple" p1) (a :: es) [] pos) (mCallB dTupOf ms) := by
  obtain ⟨ta, h1, h2⟩ := ha.ex
  exact ⟨_, pe_callTy call_tuple_of hg hm boot_tuple h1 (by decide) (by decide) he hpl, SimE.bs h2 bu_tup⟩
def mLstOf (ms : MA) : MF := fun r => (ms r).bind fun ds => match ds with
  | [d] => (match seqD d with
    | some xs => .ok (.l xs)
    | none => .bad)
  | _ => .bad
theorem ef_listc (hm : X.mg "list" = none) (hg : Gl X "list") (ha : EA X W (a :: es) ms) (he : starEach (a :: es) X.env = (false, eval a X.env) :: starEach es X.env := by rfl) (hpl : (backTo pos (starEach es X.env)).any (·.1) = false := by rfl) : EF X W (.Call (.Name "list" p1) (a :: es) [] pos) (mLstOf ms) := by
  obtain ⟨ta, h1, h2⟩ := ha.ex
  refine ⟨_, pe_callTy call_list_of hg hm boot_list h1 (by decide) (by decide) he hpl, fun n Z H0 m r σ H q Q p => h2 n Z H0 m r σ H q _ (p.bind.imp fun ds k vs H1 s1 rx => ?_)⟩
  split at k
  · rename_i d
    split at k
    · rename_i xs e
      obtain ⟨v, rfl, r1⟩ := rx.one
      obtain ⟨a, us, rfl, hq, t⟩ := seqD_rep r1 e
      refine ⟨a, us, rfl, ?_, fun l nl => k l _ H1 s1 nl ⟨us, rfl, t⟩⟩
      rcases hq with hq | hq
      · exact .inl (Same.seq hid_sub hq)
      · exact .inr (Same.seqT hid_sub hq)
    · exact False.elim k
  · exact False.elim k
/-- tuple(xs), list(xs) of a slot's own list -/
def ownL (i : Nat) (r : Sc) : R (List D) := match r[i]? with
  | some (some (.own (.l xs))) => .ok xs
  | _ => .bad
def mTupO (i : Nat) : ME := fun r => (ownL i r).bind fun xs => .ok (.tup xs)
def mLstO (i : Nat) : MF := fun r => (ownL i r).bind fun xs => .ok (.l xs)
theorem ee_tupO (i : Nat) {p2 : Pos} (hm : X.mg "tuple" = none) (hg : Gl X "tuple") (hN : X.N[i]? = some x := by rfl) (hv : Vis X.env.scope x := by first | exact Or.inl rfl | exact Or.inr (Or.inl rfl) | exact Or.inr (Or.inr rfl)) (hd : (x == ("__debug__" : Str)) = false := by decide)
    (hcd : (x == ("__classdict__" : Str)) = false := by decide) (he : starEach [.Name x p2] X.env = (false, eval (.Name x p2) X.env) :: starEach [] X.env := by rfl) (hpl : (backTo pos (starEach [] X.env)).any (·.1) = false := by rfl) : EE X W (.Call (.Name "tuple" p1) [.Name x p2] [] pos) (mTupO i) := by
  refine ⟨_, pe_callTy call_tuple_of hg hm boot_tuple (pa_cons (pv i hN hv hd hcd) pa_nil he) (by decide) (by decide) he hpl, fun n Z H0 m r σ H q Q p => ?_⟩
  unfold mTupO ownL at p
  split at p
  · rename_i xs e
    obtain ⟨a, o, g1, g2, g3, g4⟩ := q.own i _ e
    obtain ⟨vs, rfl, t⟩ := g4
    refine ⟨_, g2, a, vs, rfl, .inl ⟨.inl (.inl g3), fun l nl => p _ _ (same_upd nl) ?_⟩⟩
    simp only [Rep]
    exact ⟨l, vs, rfl, .inl (.inl (q.hidNew nl)), t.mono (hid_mono (same_upd nl))⟩
  · exact False.elim p
theorem ef_listO (i : Nat) {p2 : Pos} (hm : X.mg "list" = none) (hg : Gl X "list") (hN : X.N[i]? = some x := by rfl) (hv : Vis X.env.scope x := by first | exact Or.inl rfl | exact Or.inr (Or.inl rfl) | exact Or.inr (Or.inr rfl)) (hd : (x == ("__debug__" : Str)) = false := by decide)
    (hcd : (x == ("__classdict__" : Str)) = false := by decide) (he : starEach [.Name x p2] X.env = (false, eval (.Name x p2) X.env) :: starEach [] X.env := by rfl) (hpl : (backTo pos (starEach [] X.env)).any (·.1) = false := by rfl) : EF X W (.Call (.Name "list" p1) [.Name x p2] [] pos) (mLstO i) := by
  refine ⟨_, pe_callTy call_list_of hg hm boot_list (pa_cons (pv i hN hv hd hcd) pa_nil he) (by decide) (by decide) he hpl, fun n Z H0 m r σ H q Q p => ?_⟩
  unfold mLstO ownL at p
  split at p
  · rename_i xs e
    obtain ⟨a, o, g1, g2, g3, g4⟩ := q.own i _ e
    obtain ⟨vs, rfl, t⟩ := g4
    exact ⟨_, g2, a, vs, rfl, .inl (.inl (.inl g3)), fun l nl => p l _ H (Same.refl H) nl ⟨vs, rfl, t⟩⟩
  · exact False.elim p
/-! ### xs[i] = v, xs a slot's own list -/
def mSetIx (i : Nat) (mb me : ME) : MS := fun r => toFl r (me r) fun d => match r[i]? with
  | some (some (.own (.l xs))) => toFl r (mb r) fun j => (match j with
    | .int z => (match ixN xs.length z with
      | some t => .nx (r.set i (some (.own (.l (xs.set t d)))))
      | none => .bad)
    | _ => .bad)
  | _ => .bad
theorem es_setIx (i : Nat) {p2 p3 : Pos} (he : EE X W e me) (hb : EE X W b mb) (hN : X.N[i]? = some x := by rfl) (hv : Vis X.env.scope x := by first | exact Or.inl rfl | exact Or.inr (Or.inl rfl) | exact Or.inr (Or.inr rfl)) (hd : (x == ("__debug__" : Str)) = false := by decide)
    (hcd : (x == ("__classdict__" : Str)) = false := by decide) (hs : swapsWithSole [.Subscript (.Name x p1) b p2] e p3.line X.env = pure false := by rfl) (hw : swappedStores [.Subscript (.Name x p1) b p2] e X.env = pure none := by rfl)
    (h1 : (assignEach [.Subscript (.Name x p1) b p2] X.env).map (·.2) = [assign (.Subscript (.Name x p1) b p2) X.env] := by rfl)
    (hx : ∀ v, assign (.Subscript (.Name x p1) b p2) X.env v = (do
      let ov ← holding [v] (eval (.Name x p1) X.env)
      let iv ← holding [v, ov] (eval b X.env)
      standAt p2
      holding [v, ov, iv] (setItem ov iv v)
      release [v, ov, iv] []) := by intro _; rfl) :
    ES X W (.Assign [.Subscript (.Name x p1) b p2] e p3) (mSetIx i mb me) := by
  obtain ⟨te, e1, e2⟩ := he.ex
  obtain ⟨tb, b1, b2⟩ := hb.ex
  refine ⟨_, ps_asg e1 (pg_sub (pv i hN hv hd hcd) b1 set_list hx) hs hw h1, fun n Z H0 m r σ H hn q D p => ?_⟩
  unfold mSetIx at p
  refine e2 n Z H0 m r σ H q _ ((toFl_post q p).imp fun d k v H1 s1 rv => ?_)
  have q1 := q.grow s1
  have k1 := PostS.grow k (hid_mono s1)
  split at k1
  · rename_i xs e
    obtain ⟨a, o, g1, g2, g3, g4⟩ := q1.own i _ e
    obtain ⟨vs, rfl, tt⟩ := g4
    refine ⟨_, g2, b2 n Z H0 m r σ H1 q1 _ ((toFl_post q1 k1).imp fun j k2 y H2 s2 ry => ?_)⟩
    have q2 := q1.grow s2
    have k3 := PostS.grow k2 (hid_mono s2)
    split at k3
    · rename_i z
      split at k3
      · rename_i t et
        simp only [Rep] at ry
        refine ⟨a, vs, z, t, rfl, ry, s2 _ _ g3, by rw [tt.length]; exact et, ?_⟩
        have hc : CellOk X.K X.mg (hid Z m H2) (.lst (vs.set t v)) (.l (xs.set t d)) := ⟨_, rfl, RepL.set t (tt.mono (hid_mono s2)) (rv.mono (hid_mono s2))⟩
        refine k3 m σ _ (q2.chg e g1 hc) ?_
        rw [hid_upd g1]
        exact Same.refl _
      · exact False.elim k3
    · exact False.elim k3
  · exact False.elim k1
end
end QB

namespace QB
open PySem PySem.Spec PyProof.Rows L2
/-- a slot's own thing becomes a plain value behind a block -/
theorem eb_end {X : Cx} {W : WX} {sts : List Stmt} {ms : MS} (i : Nat) (h : EB X W sts ms) : EB X W sts (mSeq ms (mFrz i mNx)) := by
  obtain ⟨ts, h1, h2⟩ := h.ex
  refine ⟨ts, h1, fun n Z H0 m r σ H hn q D p => h2 n Z H0 m r σ H hn q D ?_⟩
  unfold mSeq at p
  cases e : ms r with
  | nx r' =>
    rw [e] at p
    intro m' σ' H' q' s
    simp only [mFrz] at p
    split at p
    · rename_i c ei
      exact p _ σ' H' (q'.frz ei) (s.trans same_drp)
    · exact False.elim p
  | bk r' =>
    rw [e] at p
    exact p
  | ct r' =>
    rw [e] at p
    exact p
  | rt d =>
    rw [e] at p
    exact p
  | rc d =>
    rw [e] at p
    exact p
  | ex c ns xs r' =>
    rw [e] at p
    exact p
  | bad =>
    rw [e] at p
    exact p
section
variable {X : Cx} {W : WX} {a b c e : Expr} {es rest : List Expr} {ma mb mc me : ME} {ms : MA} {pos : Pos} {te tl : TE} {x : Str} {p1 : Pos}
/-! ### a module's tuple of plain values -/
def flatsD : List D → Option (List V)
  | [] => some []
  | d :: ds => match flatD d, flatsD ds with
    | some v, some vs => some (v :: vs)
    | _, _ => none
theorem flats_rep {K : PySem.W.Frag} {mg : Str → Option Value} {G : Hp} : ∀ {ds : List D} {us vs : List V}, flatsD ds = some us → RepL K mg G ds vs → vs = us
  | [], us, vs, h, r => by
    simp only [flatsD, Option.some.injEq] at h
    simp only [RepL] at r
    rw [r, ← h]
  | d :: ds, us, vs, h, r => by
    simp only [RepL] at r
    obtain ⟨v, ws, rfl, rv, rs⟩ := r
    simp only [flatsD] at h
    cases e1 : flatD d with
    | none => simp [e1] at h
    | some w =>
      cases e2 : flatsD ds with
      | none => simp [e1, e2] at h
      | some w2 =>
        simp only [e1, e2, Option.some.injEq] at h
        rw [← h, flatD_rep e1 rv, flats_rep e2 rs]
theorem flat_is {v : V} {d : D} (h : flatD d = some v) : flatV v = true := by
  cases d <;> simp only [flatD, Option.some.injEq, reduceCtorEq] at h <;> subst h <;> rfl
theorem flats_are : ∀ {ds : List D} {vs : List V}, flatsD ds = some vs → vs.all flatV = true
  | [], vs, h => by
    simp only [flatsD, Option.some.injEq] at h
    subst h
    rfl
  | d :: ds, vs, h => by
    simp only [flatsD] at h
    cases e1 : flatD d with
    | none => simp [e1] at h
    | some w =>
      cases e2 : flatsD ds with
      | none => simp [e1, e2] at h
      | some w2 =>
        simp only [e1, e2, Option.some.injEq] at h
        subst h
        simp only [List.all_cons, flat_is e1, flats_are e2, Bool.and_self]
theorem flat_mk {K : PySem.W.Frag} {mg : Str → Option Value} {G : Hp} {d : D} {v : V} (h : flatD d = some v) : Rep K mg G d v := by
  cases d <;> simp only [flatD, Option.some.injEq, reduceCtorEq] at h <;> subst h <;> simp [Rep]
theorem flats_mk {K : PySem.W.Frag} {mg : Str → Option Value} {G : Hp} : ∀ {ds : List D} {vs : List V}, flatsD ds = some vs → RepL K mg G ds vs
  | [], vs, h => by
    simp only [flatsD, Option.some.injEq] at h
    subst h
    exact RepL.nil
  | d :: ds, vs, h => by
    simp only [flatsD] at h
    cases e1 : flatD d with
    | none => simp [e1] at h
    | some w =>
      cases e2 : flatsD ds with
      | none => simp [e1, e2] at h
      | some w2 =>
        simp only [e1, e2, Option.some.injEq] at h
        subst h
        exact RepL.cons (flat_mk e1) (flats_mk e2)
/-- the fact that the top keeps of such a tuple -/
def TupC (K : PySem.W.Frag) (mg : Str → Option Value) (x : Str) (vs : List V) : Prop := ∃ (a : Addr) (o : Obj) (its : Array Value) (n : Nat), mg x = some (.ref a) ∧ K.lookup a = some o ∧ o.cls = .type "tuple" ∧ o.data = .seq its n ∧ its.size ≤ sizeLine ∧ Vals vs its.toList
theorem ee_globT {ds : List D} {vs : List V} (h : TupC X.K X.mg x vs) (hf : flatsD ds = some vs) (hg : Gl X x := by rfl) (hdb : (x == ("__debug__" : Str)) = false := by decide) : EE X W (.Name x pos) (mC (.tup ds)) := by
  obtain ⟨a, o, its, n, h1, h2, h3, h4, h5, h6⟩ := h
  refine ee_glob (v := .ref a) hg h1 rfl (fun G => ?_) hdb
  simp only [Rep]
  exact ⟨a, vs, rfl, .inr ⟨o, its, n, h2, h3, h4, h5, h6⟩, flats_mk hf⟩
/-! ### in, not in -/
def inS (i j : Str) : Bool := !(Builtin.Str.occurrences j i 0 j.length 1).isEmpty
def dInB (a b : D) : R Bool := match a, b with
  | .str i, .str j => .ok (inS i j)
  | a, b => (match flatD a, seqD b with
    | some x, some ds => (match flatsD ds with
      | some vs => .ok (inV x vs)
      | none => .bad)
    | _, _ => .bad)
def dIn (a b : D) : R D := (dInB a b).bind fun c => .ok (.bl c)
def dNotIn (a b : D) : R D := (dInB a b).bind fun c => .ok (.bl (!c))
def rInS (K : PySem.W.Frag) : R2 := fun x y H Q => (∃ i j, x = .str i ∧ y = .str j ∧ Q (.bl (!(Builtin.Str.occurrences j i 0 j.length 1).isEmpty)) H) ∨ rIn K false x y H Q
def rNotInS (K : PySem.W.Frag) : R2 := fun x y H Q => (∃ i j, x = .str i ∧ y = .str j ∧ Q (.bl (!(!(Builtin.Str.occurrences j i 0 j.length 1).isEmpty))) H) ∨ rIn K true x y H Q
theorem or_in : OpR X (compareOp .In) (rInS X.K) := OpR.or op_in_str op_in_seq
theorem or_notIn : OpR X (compareOp .NotIn) (rNotInS X.K) := OpR.or op_notIn_str op_notIn_seq
theorem dInB_cases {K : PySem.W.Frag} {mg : Str → Option Value} {G H : Hp} {a b : D} {x y : V} (s : Same G H) (ha : Rep K mg G a x) (hb : Rep K mg G b y) : (∃ c, dInB a b = .ok c ∧ ((∃ i j, x = .str i ∧ y = .str j ∧ c = inS i j) ∨ ∃ p xs, y = .ref p ∧ (SqL K H p xs ∨ SqT K H p xs) ∧ flatV x = true ∧ xs.all flatV = true ∧ c = inV x xs)) ∨ dInB a b = .bad := by
  have gen : ∀ b : D, Rep K mg G b y → (∃ c, (match flatD a, seqD b with
    | some x, some ds => (match flatsD ds with
      | some vs => R.ok (inV x vs)
      | none => .bad)
    | _, _ => .bad) = .ok c ∧ ∃ p xs, y = .ref p ∧ (SqL K H p xs ∨ SqT K H p xs) ∧ flatV x = true ∧ xs.all flatV = true ∧ c = inV x xs) ∨ (match flatD a, seqD b with
    | some x, some ds => (match flatsD ds with
      | some vs => R.ok (inV x vs)
      | none => .bad)
    | _, _ => .bad) = .bad := by
    intro b hb
    cases e1 : flatD a with
    | none => exact .inr rfl
    | some u =>
      cases e2 : seqD b with
      | none => exact .inr rfl
      | some ds =>
        simp only
        cases e3 : flatsD ds with
        | none => exact .inr rfl
        | some us =>
          obtain ⟨p, vs, rfl, hq, t⟩ := seqD_rep hb e2
          have h1 := flatD_rep e1 ha
          have h2 := flats_rep e3 t
          subst h1 h2
          refine .inl ⟨_, rfl, p, vs, rfl, ?_, flat_is e1, flats_are e3, rfl⟩
          rcases hq with hq | hq
          · exact .inl (Same.seq s hq)
          · exact .inr (Same.seqT s hq)
  by_cases hs : (∃ i, a = .str i) ∧ ∃ j, b = .str j
  · obtain ⟨⟨i, rfl⟩, j, rfl⟩ := hs
    simp only [Rep] at ha hb
    exact .inl ⟨_, rfl, .inl ⟨i, j, ha, hb, rfl⟩⟩
  · have e : dInB a b = (match flatD a, seqD b with
    | some x, some ds => (match flatsD ds with
      | some vs => R.ok (inV x vs)
      | none => .bad)
    | _, _ => .bad) := by
      cases a <;> cases b <;> first | rfl | exact absurd ⟨⟨_, rfl⟩, _, rfl⟩ hs
    rw [e]
    rcases gen b hb with ⟨c, h1, h2⟩ | h
    · exact .inl ⟨c, h1, .inr h2⟩
    · exact .inr h
theorem opw_in : OpW X W (rInS X.K) dIn := fun n Z H0 m r σ H q a b x y Q ha hb p => by
  unfold dIn at p
  rcases dInB_cases (G := hid Z nom H) (H := H) hid_sub ha hb with ⟨c, e, h⟩ | e
  · rw [e] at p
    have k := p (.bl c) H (Same.refl H) (by simp [Rep])
    rcases h with ⟨i, j, h1, h2, h3⟩ | ⟨p1, xs, h1, h2, h3, h4, h5⟩
    · exact .inl ⟨i, j, h1, h2, by rw [h3] at k; exact k⟩
    · exact .inr ⟨p1, xs, h1, h2, h3, h4, by rw [h5] at k; exact k⟩
  · rw [e] at p
    exact False.elim p
theorem opw_notIn : OpW X W (rNotInS X.K) dNotIn := fun n Z H0 m r σ H q a b x y Q ha hb p => by
  unfold dNotIn at p
  rcases dInB_cases (G := hid Z nom H) (H := H) hid_sub ha hb with ⟨c, e, h⟩ | e
  · rw [e] at p
    have k := p (.bl (!c)) H (Same.refl H) (by simp [Rep])
    rcases h with ⟨i, j, h1, h2, h3⟩ | ⟨p1, xs, h1, h2, h3, h4, h5⟩
    · exact .inl ⟨i, j, h1, h2, by rw [h3] at k; exact k⟩
    · exact .inr ⟨p1, xs, h1, h2, h3, h4, by rw [h5] at k; exact k⟩
  · rw [e] at p
    exact False.elim p
/-! ### all, any of a list of truths -/
def blsD : List D → Option (List Bool)
  | [] => some []
  | .bl b :: ds => (blsD ds).map (b :: ·)
  | _ :: _ => none
theorem bls_rep {K : PySem.W.Frag} {mg : Str → Option Value} {G : Hp} : ∀ {ds : List D} {bs : List Bool} {vs : List V}, blsD ds = some bs → RepL K mg G ds vs → vs = bs.map V.bl
  | [], bs, vs, h, r => by
    simp only [blsD, Option.some.injEq] at h
    simp only [RepL] at r
    subst h r
    rfl
  | d :: ds, bs, vs, h, r => by
    simp only [RepL] at r
    obtain ⟨v, ws, rfl, rv, rs⟩ := r
    cases d <;> simp only [blsD, reduceCtorEq] at h
    rename_i b
    cases e2 : blsD ds with
    | none => simp [e2] at h
    | some w2 =>
      simp only [e2, Option.map_some, Option.some.injEq] at h
      subst h
      simp only [Rep] at rv
      rw [rv, bls_rep e2 rs, List.map_cons]
def lstD : D → Option (List D)
  | .lst xs => some xs
  | .slst xs => some xs
  | _ => none
def dAll : List D → R D
  | [d] => (match lstD d with
    | some xs => (match blsD xs with
      | some bs => .ok (.bl (bs.all id))
      | none => .bad)
    | none => .bad)
  | _ => .bad
def dAny : List D → R D
  | [d] => (match lstD d with
    | some xs => (match blsD xs with
      | some bs => .ok (.bl (bs.any id))
      | none => .bad)
    | none => .bad)
  | _ => .bad
theorem lstD_rep {K : PySem.W.Frag} {mg : Str → Option Value} {G : Hp} {d : D} {v : V} {xs : List D} (r : Rep K mg G d v) (h : lstD d = some xs) : ∃ a vs, v = .ref a ∧ SqL K G a vs ∧ RepL K mg G xs vs := by
  cases d <;> simp only [lstD, Option.some.injEq, reduceCtorEq] at h <;> subst h <;> simp only [Rep] at r
  · obtain ⟨a, vs, rfl, h1, t⟩ := r
    exact ⟨a, vs, rfl, .inl (.inl h1), t⟩
  · obtain ⟨a, vs, rfl, h1, t⟩ := r
    exact ⟨a, vs, rfl, h1, t⟩
theorem bu_all : BuW X W (rAll X.K) dAll := fun n Z H0 m r σ H q ds vs Q h p => by
  unfold dAll at p
  split at p
  · split at p
    · split at p
      · rename_i d _ xs e1 _ bs e2
        obtain ⟨v, rfl, r1⟩ := h.one
        obtain ⟨a, us, rfl, hq, t⟩ := lstD_rep r1 e1
        have := bls_rep e2 t
        subst this
        exact ⟨a, bs, rfl, Same.seq hid_sub hq, p _ H (Same.refl H) (by simp [Rep])⟩
      · exact False.elim p
    · exact False.elim p
  · exact False.elim p
theorem bu_any : BuW X W (rAny X.K) dAny := fun n Z H0 m r σ H q ds vs Q h p => by
  unfold dAny at p
  split at p
  · split at p
    · split at p
      · rename_i d _ xs e1 _ bs e2
        obtain ⟨v, rfl, r1⟩ := h.one
        obtain ⟨a, us, rfl, hq, t⟩ := lstD_rep r1 e1
        have := bls_rep e2 t
        subst this
        exact ⟨a, bs, rfl, Same.seq hid_sub hq, p _ H (Same.refl H) (by simp [Rep])⟩
      · exact False.elim p
    · exact False.elim p
  · exact False.elim p
theorem ee_all (hc : X.calm = true) (hm : X.mg "all" = none) (hg : Gl X "all") (ha : EAW X W (a :: es) ms) (he : starEach (a :: es) X.env = (false, eval a X.env) :: starEach es X.env := by rfl) (hpl : (backTo pos (starEach es X.env)).any (·.1) = false := by rfl) : EE X W (.Call (.Name "all" p1) (a :: es) [] pos) (mCallB dAll ms) := by
  obtain ⟨ta, h1, h2⟩ := ha.ex
  exact ⟨_, pe_callB (cr_all hc) hg hm rfl h1 (by decide) (by decide) he hpl, SimE.bw h2 bu_all⟩
theorem ee_any (hc : X.calm = true) (hm : X.mg "any" = none) (hg : Gl X "any") (ha : EAW X W (a :: es) ms) (he : starEach (a :: es) X.env = (false, eval a X.env) :: starEach es X.env := by rfl) (hpl : (backTo pos (starEach es X.env)).any (·.1) = false := by rfl) : EE X W (.Call (.Name "any" p1) (a :: es) [] pos) (mCallB dAny ms) := by
  obtain ⟨ta, h1, h2⟩ := ha.ex
  exact ⟨_, pe_callB (cr_any hc) hg hm rfl h1 (by decide) (by decide) he hpl, SimE.bw h2 bu_any⟩
/-! ### str(x) -/
def dStr : List D → R D
  | [.int i] => if i.natAbs.log2 < 1920 then .ok (.str (toString i)) else .bad
  | [.str z] => .ok (.str z)
  | _ => .bad
theorem bu_str : BuW X W (fun xs H Q => (∃ i, xs = [.int i] ∧ i.natAbs.log2 < 1920 ∧ Q (.str (toString i)) H) ∨ ∃ a, xs = [.str a] ∧ Q (.str a) H) dStr := fun n Z H0 m r σ H q ds vs Q h p => by
  unfold dStr at p
  split at p
  · split at p
    · obtain ⟨v, rfl, r1⟩ := h.one
      simp only [Rep] at r1
      subst r1
      exact .inl ⟨_, rfl, ‹_›, p _ H (Same.refl H) (by simp [Rep])⟩
    · exact False.elim p
  · obtain ⟨v, rfl, r1⟩ := h.one
    simp only [Rep] at r1
    subst r1
    exact .inr ⟨_, rfl, p _ H (Same.refl H) (by simp [Rep])⟩
  · exact False.elim p
theorem ee_strc (hm : X.mg "str" = none) (hg : Gl X "str") (ha : EAW X W (a :: es) ms) (he : starEach (a :: es) X.env = (false, eval a X.env) :: starEach es X.env := by rfl) (hpl : (backTo pos (starEach es X.env)).any (·.1) = false := by rfl) : EE X W (.Call (.Name "str" p1) (a :: es) [] pos) (mCallB dStr ms) := by
  obtain ⟨ta, h1, h2⟩ := ha.ex
  exact ⟨_, pe_callTy (CallR.or call_str_int SkE.call_str_str) hg hm boot_str h1 (by decide) (by decide) he hpl, SimE.bw h2 bu_str⟩
/-! ### sep.join(texts) -/
def strsD : List D → Option (List Str)
  | [] => some []
  | .str b :: ds => (strsD ds).map (b :: ·)
  | _ :: _ => none
theorem strs_rep {K : PySem.W.Frag} {mg : Str → Option Value} {G : Hp} : ∀ {ds : List D} {bs : List Str} {vs : List V}, strsD ds = some bs → RepL K mg G ds vs → vs = bs.map V.str
  | [], bs, vs, h, r => by
    simp only [strsD, Option.some.injEq] at h
    simp only [RepL] at r
    subst h r
    rfl
  | d :: ds, bs, vs, h, r => by
    simp only [RepL] at r
    obtain ⟨v, ws, rfl, rv, rs⟩ := r
    cases d <;> simp only [strsD, reduceCtorEq] at h
    rename_i b
    cases e2 : strsD ds with
    | none => simp [e2] at h
    | some w2 =>
      simp only [e2, Option.map_some, Option.some.injEq] at h
      subst h
      simp only [Rep] at rv
      rw [rv, strs_rep e2 rs, List.map_cons]
def dJoin (z : Str) (b : D) : R D := match seqD b with
  | some xs => (match strsD xs with
    | some ys => if (ys.map (·.length)).sum + ys.length * z.length ≤ 16777216 then .ok (.str (Txt.join z ys)) else .bad
    | none => .bad)
  | none => .bad
def mJoin (ma mb : ME) : ME := fun r => (ma r).bind fun d => match d with
  | .str z => (mb r).bind (dJoin z)
  | _ => .bad
theorem ee_join {apos : Pos} {o : Expr} (ho : EE X W o ma) (hb : EW X W e mb) (hs : starEach [e] X.env = [(false, eval e X.env)] := by rfl) (hbase : attributeBase o "join" X.env (eval o X.env) = eval o X.env := by rfl) (hline : (apos.endLine == pos.line) = true := by rfl) :
    EE X W (.Call (.Attribute o "join" apos) [e] [] pos) (mJoin ma mb) := by
  obtain ⟨ta, h1, h2⟩ := ho.ex
  obtain ⟨tb, h3, h4⟩ := hb.ex
  refine ⟨_, pe_join h1 h3 hs hbase hline, fun n Z H0 m r σ H q Q p => ?_⟩
  unfold mJoin at p
  refine h2 n Z H0 m r σ H q _ (p.bind.imp fun d k v H1 s1 rv => ?_)
  have q1 := q.grow s1
  cases d with
  | str z =>
    simp only [Rep] at rv
    subst rv
    refine ⟨⟨z, rfl⟩, h4 n Z H0 m r σ H1 q1 _ ((k.grow s1).bind.imp fun d2 k2 w H2 s2 rw2 => ?_)⟩
    unfold dJoin at k2
    cases e1 : seqD d2 with
    | none =>
      simp only [e1] at k2
      exact False.elim k2
    | some xs =>
      simp only [e1] at k2
      cases e2 : strsD xs with
      | none =>
        simp only [e2] at k2
        exact False.elim k2
      | some ys =>
        simp only [e2] at k2
        split at k2
        · obtain ⟨a1, us, rfl, hq, t⟩ := seqD_rep rw2 e1
          have := strs_rep e2 t
          subst this
          refine ⟨z, a1, ys, rfl, rfl, ?_, ‹_›, k2 _ H2 (s1.trans s2) (by simp [Rep])⟩
          rcases hq with hq | hq
          · exact .inl (Same.seq hid_sub hq)
          · exact .inr (Same.seqT hid_sub hq)
        · exact False.elim k2
  | _ => exact False.elim k
/-! ### a text some times -/
def timesS (z : Str) (k : Int) : Str := if k < 1 then Str.empty else if (k == 1 || z.length == 0) = true then z else ⟨(List.replicate k.toNat z.cps).foldl (· ++ ·) #[]⟩
def rTimes : R2 := fun x y H Q => ∃ z k, x = .str z ∧ y = .int k ∧ -1000000000 < k ∧ k < 1000000000 ∧ z.length * k.toNat ≤ 16777216 ∧ (timesS z k).length ≤ 16777216 ∧ Q (.str (timesS z k)) H
theorem op_times : OpR X (binaryOp .Mult) rTimes := by
  intro pins s σ H x y v u Q I rx ry h
  obtain ⟨z, k, rfl, rfl, h1, h2, hz, hl, q⟩ := h
  obtain ⟨t, rfl⟩ := rx
  obtain ⟨t', rfl⟩ := ry
  have hs := sizeLine_eq
  refine PySem.P.mul_str ?_ (fun g1 g2 => ?_) (fun g1 g2 => ?_) ?_
  · rw [decide_eq_false (by omega), decide_eq_false (by omega)]
    rfl
  · intro g3
    have : (z.length : Int) * k ≤ 16777216 := by
      have e : (k.toNat : Int) = k := by omega
      have : ((z.length * k.toNat : Nat) : Int) ≤ 16777216 := Int.ofNat_le.mpr hz
      rw [Int.natCast_mul, e] at this
      exact this
    have g4 : (2 ^ 63 - 1) / k < (z.length : Int) := g3
    rw [Int.ediv_lt_iff_lt_mul (by omega)] at g4
    omega
  · show decide (z.length * k.toNat > sizeLine) = false
    exact decide_eq_false (by rw [hs]; omega)
  · unfold timesS at q hl
    split
    · rename_i g
      rw [if_pos g] at q
      exact ⟨by decide, ⟨.str _, H, I.tok _, ⟨_, rfl⟩, q⟩⟩
    · rename_i g
      rw [if_neg g] at q hl
      split
      · rename_i g2
        rw [if_pos g2] at q
        exact ⟨.str _, H, I, ⟨_, rfl⟩, q⟩
      · rename_i g2
        rw [if_neg g2] at q hl
        exact ⟨by rw [hs]; exact hl, ⟨.str _, H, I.tok _, ⟨_, rfl⟩, q⟩⟩
def dTimes : D → D → R D
  | .str z, .int k => if -1000000000 < k ∧ k < 1000000000 ∧ z.length * k.toNat ≤ 16777216 ∧ (timesS z k).length ≤ 16777216 then .ok (.str (timesS z k)) else .bad
  | _, _ => .bad
theorem ops_times : OpS X W rTimes dTimes := fun n Z H0 m r σ H q a b x y Q ha hb p => by
  cases a <;> cases b <;> try exact False.elim p
  simp only [Rep] at ha hb
  subst ha hb
  simp only [dTimes] at p
  split at p
  · rename_i h
    exact ⟨_, _, rfl, rfl, h.1, h.2.1, h.2.2.1, h.2.2.2, p _ H (Same.refl H) (by simp only [Rep])⟩
  · exact False.elim p
theorem ee_times (ha : EE X W a ma) (hb : EE X W b mb) : EE X W (.BinOp a .Mult b pos) (mBin dTimes ma mb) := by
  obtain ⟨ta, h1, h2⟩ := ha.ex
  obtain ⟨tb, h3, h4⟩ := hb.ex
  exact ⟨_, pe_op op_times h1 h3, h2.op h4 ops_times⟩
end
end QB

namespace QB
open PySem PySem.Spec PyProof.Rows L2
/-! ### a def that gives a thing of its own -/
def PostFF (K : PySem.W.Frag) (mg : Str → Option Value) (Z : Addr → Prop) (H : Hp) (x : R Cell) (Q : VK) (E : XK) : Prop := match x with
  | .ok c => ∀ (p : Addr) (o : HO) (H' : Hp), Same H H' → H' p = none → CellOk K mg (hid Z nom H') o c → Q (.ref p) (upd H' p o)
  | .exc c ns xs => ∀ (C : Addr) (d : Option Addr) (H' : Hp), Same H H' → ExcAt K mg (hid Z nom H') c ns xs C d → E (.ref C) d H'
  | .bad => False
def PFF (K : PySem.W.Frag) (mg : Str → Option Value) (n : Nat) (mf : List D → R Cell) : Sp := fun vs H Q E => vs.length = n ∧ ∃ (ds : List D) (Z : Addr → Prop), (∀ b, Z b → H b ≠ none) ∧ RepL K mg (hid Z nom H) ds vs ∧ PostFF K mg Z H (mf ds) Q E
section
variable {X : Cx} {W : WX} {a b c e : Expr} {es rest : List Expr} {ma mb mc me : ME} {ms : MA} {pos : Pos} {k kk n : Nat} {x : Str} {p1 : Pos} {mf : List D → R Cell} {mF : MF}
theorem pf_strongF {m : Nat → Option Addr} {r : Sc} {σ : L2.St} {H0 H : Hp} {Z : Addr → Prop} {nn : Nat} (q : Rel X.K X.mg nn Z H0 m r σ H) {ds : List D} {vs : List V} {Q : VK} (hl : vs.length = n) (h : RepL X.K X.mg (hid Z m H) ds vs)
    (p : PostG X.K X.mg Z m W σ H (mf ds) (fun c => ∀ (p : Addr) (o : HO) (H' : Hp), Same H H' → H' p = none → CellOk X.K X.mg (hid Z m H') o c → Q (.ref p) (upd H' p o))) : PFF X.K X.mg n mf vs H Q (WE W σ) := by
  refine ⟨hl, ds, fun b => Z b ∨ ∃ i, m i = some b, q.zed', by rw [hid_join]; exact h, ?_⟩
  cases e : mf ds with
  | ok d =>
    rw [e] at p
    intro v o H' s nv t
    rw [hid_join] at t
    exact p v o H' s nv t
  | exc cc ns xs =>
    rw [e] at p
    intro C d H' s t
    rw [hid_join] at t
    exact p C d H' s t
  | bad =>
    rw [e] at p
    exact p
def mCallF (f : List D → R Cell) (ms : MA) : MF := fun r => (ms r).bind f
theorem SimA.lenF {t : TA} (ha : SimA X W t ms) (hl : ∀ r ds, ms r = .ok ds → ds.length = n) : SimF X W (tCallS (PFF X.K X.mg n mf) (WE W) t) (mCallF mf ms) := fun nn Z H0 m r σ H q Q p => by
  unfold mCallF at p
  have p' := p.bind
  cases e : ms r with
  | ok ds =>
    refine ha nn Z H0 m r σ H q _ ?_
    rw [e] at p' ⊢
    intro vs H1 s1 rx
    have p2 : PostG X.K X.mg Z m W σ H (mf ds) (fun c => ∀ (p : Addr) (o : HO) (H' : Hp), Same H H' → H' p = none → CellOk X.K X.mg (hid Z m H') o c → Q (.ref p) (upd H' p o)) := p'
    exact pf_strongF (q.grow s1) (by rw [rx.length, hl r ds e]) rx ((p2.grow s1).imp fun d k3 v o H' s3 nv rv => k3 v o H' (s1.trans s3) nv rv)
  | exc cc ns xs =>
    refine ha nn Z H0 m r σ H q _ ?_
    rw [e] at p' ⊢
    exact p'
  | bad =>
    rw [e] at p'
    exact False.elim p'
structure OkF (P : Program) (w : World) (K : PySem.W.Frag) (mg : Str → Option Value) (base : Heap) (k : Nat) (x : Str) (n : Nat) (mf : List D → R Cell) : Prop where
  ex : ∃ (f : Addr) (fd : FuncData) (ps : List Str), mg x = some (.ref f) ∧ PySem.W.keepIn K (.ref f) = true ∧ Binds K fd ps [] ∧ FnOk P w K mg base (L2.CX P w) k f fd ps (PFF K mg n mf)
theorem ef_callO (tk : Takes X W) (F : OkF X.prog X.w X.K X.mg X.base k x n mf) (hr : Room kk X.A) (hk : k ≤ kk) (ha : EA X W (a :: es) ms) (hl : ALen ms n) (hg : Gl X x := by rfl) (hdb : (x == ("__debug__" : Str)) = false := by decide)
    (he : starEach (a :: es) X.env = (false, eval a X.env) :: starEach es X.env := by rfl) (hpl : (backTo pos (starEach es X.env)).any (·.1) = false := by rfl) : EF X W (.Call (.Name x p1) (a :: es) [] pos) (mCallF mf ms) := by
  obtain ⟨f, fd, ps, h1, h2, h3, h4⟩ := F.ex
  obtain ⟨t, g1, g2⟩ := ha.ex
  exact ⟨_, pe_callS h4 (hr.mono hk) hg h1 h2 h3 (fun σ => passAt tk σ) g1 hdb he hpl, g2.lenF hl⟩
theorem ef_call0 (tk : Takes X W) (F : OkF X.prog X.w X.K X.mg X.base k x 0 mf) (hr : Room kk X.A) (hk : k ≤ kk) (hg : Gl X x := by rfl) (hdb : (x == ("__debug__" : Str)) = false := by decide) : EF X W (.Call (.Name x p1) [] [] pos) (mCallF mf mNil) := by
  obtain ⟨f, fd, ps, h1, h2, h3, h4⟩ := F.ex
  refine ⟨tCallS (PFF X.K X.mg 0 mf) (WE W) tNil, ⟨fun pins s σ H Q I h => ?_⟩, ?_⟩
  · refine wpAny_Call_Name_kw (ld_glob I hg h1 ?_ hdb)
    exact PySem.W.callWith_K0 I.kIn h2 (run_fnS (us := []) h4 (hr.mono hk) h3 (passAt tk σ) I .nil h)
  · refine SimA.lenF (ms := mNil) (fun n Z H0 m r σ H q Q p => p [] H (Same.refl H) RepL.nil) (fun r ds e => ?_)
    cases e
    rfl
/-! what it returns -/
def mRetF (mf : MF) : MS := fun r => toFl r (mf r) fun c => .rc c
theorem es_retF (he : EF X W e mF) : ES X W (.Return (some e) pos) (mRetF mF) := by
  obtain ⟨t, h1, h2⟩ := he.ex
  refine ⟨_, ps_ret h1, fun n Z H0 m r σ H hn q D p => h2 n Z H0 m r σ H q _ ((toFl_post q p).imp fun d k v o H' s nv rv => ?_)⟩
  exact k v o H' (q.same.trans s) nv (rv.mono hid_nom)
def mRetO (i : Nat) : MS := fun r => match r[i]? with
  | some (some (.own c)) => .rc c
  | _ => .bad
theorem es_retO (i : Nat) (hN : X.N[i]? = some x := by rfl) (hv : Vis X.env.scope x := by first | exact Or.inl rfl | exact Or.inr (Or.inl rfl) | exact Or.inr (Or.inr rfl)) (hd : (x == ("__debug__" : Str)) = false := by decide)
    (hcd : (x == ("__classdict__" : Str)) = false := by decide) : ES X W (.Return (some (.Name x p1)) pos) (mRetO i) := by
  refine ⟨_, ps_ret (pv i hN hv hd hcd), fun n Z H0 m r σ H hn q D p => ?_⟩
  unfold mRetO at p
  split at p
  · rename_i c e
    obtain ⟨a, o, g1, g2, g3, g4⟩ := q.own i _ e
    refine ⟨_, g2, ?_⟩
    have z0 := (q.frs i a g1).1
    have hs : Same H0 (fun b => if b = a then none else H b) := fun b o' h => by
      show (if b = a then none else H b) = some o'
      rw [if_neg]
      · exact q.same b o' h
      · intro z
        rw [z, z0] at h
        cases h
    have key := p a o (fun b => if b = a then none else H b) hs (by simp) (g4.mono fun b o' h => by
      obtain ⟨e1, e2, e3⟩ := of_hid h
      refine hid_of (?_ : (if b = a then none else H b) = some o') e2 (fun _ z => by cases z)
      rw [if_neg fun z => e3 i (by rw [z]; exact g1)]
      exact e1)
    have eu : upd (fun b => if b = a then none else H b) a o = H := by
      funext b
      unfold upd
      by_cases eb : b = a
      · rw [if_pos eb, eb]
        exact g3.symm
      · rw [if_neg eb]
        exact if_neg eb
    rw [eu] at key
    exact key
  · exact False.elim p
def mDefF (n : Nat) (ms : MS) : List D → R Cell := fun ds => match ms (mStart n ds) with
  | .rc c => .ok c
  | .ex c ns xs _ => .exc c ns xs
  | _ => .bad
/-! a + b of lists, as a new list -/
def mCatF (ma mb : ME) : MF := fun r => (ma r).bind fun x => (mb r).bind fun y => match x, y with
  | .lst xs, .lst ys => if xs.length + ys.length ≤ sizeLine then .ok (.l (xs ++ ys)) else .bad
  | _, _ => .bad
theorem ef_cat (ha : EE X W a ma) (hb : EE X W b mb) : EF X W (.BinOp a .Add b pos) (mCatF ma mb) := by
  obtain ⟨ta, h1, h2⟩ := ha.ex
  obtain ⟨tb, h3, h4⟩ := hb.ex
  refine ⟨_, pe_op op_cat h1 h3, fun n Z H0 m r σ H q Q p => ?_⟩
  unfold mCatF at p
  refine h2 n Z H0 m r σ H q _ (p.bind.imp fun d k v H1 s1 rv => ?_)
  refine h4 n Z H0 m r σ H1 (q.grow s1) _ ((k.grow s1).bind.imp fun d2 k2 w H2 s2 rw2 => ?_)
  have rv2 := rv.mono (hid_mono s2)
  split at k2
  · simp only [Rep] at rv2 rw2
    obtain ⟨a1, vs, rfl, hq, t⟩ := rv2
    obtain ⟨a2, us, rfl, hq2, t2⟩ := rw2
    split at k2
    · refine ⟨a1, a2, vs, us, rfl, rfl, hid_sub _ _ hq, hid_sub _ _ hq2, by rw [t.length, t2.length]; assumption, fun p np => ?_⟩
      exact k2 p _ H2 (s1.trans s2) np ⟨_, rfl, t.append t2⟩
    · exact False.elim k2
  · exact False.elim k2
/-! xs * k, xs[a:b] as new lists -/
def mRepF (ma mb : ME) : MF := fun r => (ma r).bind fun x => (mb r).bind fun y => match x, y with
  | .lst xs, .int k => if k < 9223372036854775808 ∧ -9223372036854775808 ≤ k ∧ xs.length * k.toNat ≤ sizeLine then .ok (.l (List.replicate k.toNat xs).flatten) else .bad
  | _, _ => .bad
theorem ef_rep (ha : EE X W a ma) (hb : EE X W b mb) : EF X W (.BinOp a .Mult b pos) (mRepF ma mb) := by
  obtain ⟨ta, h1, h2⟩ := ha.ex
  obtain ⟨tb, h3, h4⟩ := hb.ex
  refine ⟨_, pe_op op_rep h1 h3, fun n Z H0 m r σ H q Q p => ?_⟩
  unfold mRepF at p
  refine h2 n Z H0 m r σ H q _ (p.bind.imp fun d k v H1 s1 rv => ?_)
  refine h4 n Z H0 m r σ H1 (q.grow s1) _ ((k.grow s1).bind.imp fun d2 k2 w H2 s2 rw2 => ?_)
  have rv2 := rv.mono (hid_mono s2)
  split at k2
  · simp only [Rep] at rv2 rw2
    obtain ⟨a1, vs, rfl, hq, t⟩ := rv2
    subst rw2
    split at k2
    · rename_i h
      obtain ⟨g1, g2, g3⟩ := h
      refine ⟨a1, _, vs, rfl, rfl, hid_sub _ _ hq, by simpa using g2, by simpa using g1, by rw [t.length]; exact g3, fun p np => ?_⟩
      exact k2 p _ H2 (s1.trans s2) np ⟨_, rfl, t.rep _⟩
    · exact False.elim k2
  · exact False.elim k2
def lstC : D → R (List D)
  | .lst xs => .ok xs
  | .slst xs => .ok xs
  | _ => .bad
def mCutF (me : ME) (lo hi : Option ME) : MF := fun r => (me r).bind fun d => (mPart lo r).bind fun l => (mPart hi r).bind fun h => (lstC d).bind fun xs => .ok (.l (cutD xs l h))
theorem ef_cut {lo hi : Option Expr} {ml mh : Option ME} {p2 : Pos} (ha : EE X W a ma) (hl : EO X W lo ml) (hh : EO X W hi mh) : EF X W (.Subscript a (.Slice lo hi none p2) pos) (mCutF ma ml mh) := by
  obtain ⟨ta, h1, h2⟩ := ha.ex
  obtain ⟨tl, h3, h4⟩ := hl.ex
  obtain ⟨th, h5, h6⟩ := hh.ex
  refine ⟨_, pe_slice sl_list h1 h3 h5, fun n Z H0 m r σ H q Q p => ?_⟩
  unfold mCutF at p
  refine h2 n Z H0 m r σ H q _ (p.bind.imp fun d k x H1 s1 rx => ?_)
  refine h4 n Z H0 m r σ H1 (q.grow s1) _ ((k.grow s1).bind.imp fun l k2 H2 s2 => ?_)
  refine h6 n Z H0 m r σ H2 ((q.grow s1).grow s2) _ ((k2.grow s2).bind.imp fun u k3 H3 s3 => ?_)
  have sA := s1.trans (s2.trans s3)
  have rx3 := rx.mono (hid_mono (s2.trans s3))
  cases d <;> try exact False.elim k3
  · rename_i xs
    simp only [Rep] at rx3
    obtain ⟨a1, vs, rfl, hq, t⟩ := rx3
    exact ⟨a1, vs, rfl, .inl (.inl (hid_sub _ _ hq)), fun c nc => k3 c _ H3 sA nc ⟨_, rfl, t.cut l u⟩⟩
  · rename_i xs
    simp only [Rep] at rx3
    obtain ⟨a1, vs, rfl, hq, t⟩ := rx3
    exact ⟨a1, vs, rfl, Same.seq hid_sub hq, fun c nc => k3 c _ H3 sA nc ⟨_, rfl, t.cut l u⟩⟩
end
theorem def_okF {P : Program} {w : World} {K : PySem.W.Frag} {mg : Str → Option Value} {base : Heap} {x qual : Str} {st : Stmt} {f : Addr} {fd : FuncData} {N ps : List Str} {k np : Nat} {ms : MS} (F : Fun K x qual st f fd) (S : FnScope N ps (defScope st)) (hp : ps.length = np) (hN : np ≤ N.length)
    (hb : ∀ (cdv : Value) (A : Around) (outer : List Env) (s : Shared) (H : Hp) (E : XK), Room k (A.deeper (envOfC qual (defScope st) s.heap.objs.size f cdv)) →
      Takes (cxOf (L2.CX P w) P w K mg base N qual (defScope st) f cdv A outer s H E) (fun cls d _ H => E cls d H) →
      PassesOwn (model P w) (cxOf (L2.CX P w) P w K mg base N qual (defScope st) f cdv A outer s H E).A (cxOf (L2.CX P w) P w K mg base N qual (defScope st) f cdv A outer s H E).env (cxOf (L2.CX P w) P w K mg base N qual (defScope st) f cdv A outer s H E).xe →
      EB (cxOf (L2.CX P w) P w K mg base N qual (defScope st) f cdv A outer s H E) (fun cls d _ H => E cls d H) (defBody st) ms) : FnOk P w K mg base (L2.CX P w) (k + 1) f fd ps (PFF K mg np (mDefF N.length ms)) := by
  refine F.okX S (fun vs H Q E h => by rw [hp]; exact h.1) fun cdv A outer s H vs Q E hr h => ?_
  obtain ⟨hl, ds, Z, hZ, rl, p⟩ := h
  obtain ⟨t, h1, h2⟩ := (hb cdv A outer s H E hr (takes_of rfl rfl rfl rfl) (passes_of rfl)).ex
  refine ⟨t, h1, ?_⟩
  have q : Rel K mg N.length Z H nom (mStart N.length ds) (L2.start N vs) H := start_rel hZ rl (by omega)
  refine h2 N.length Z H nom _ _ H rfl q _ ?_
  unfold mDefF at p
  cases e : ms (mStart N.length ds) with
  | nx r =>
    rw [e] at p
    exact False.elim p
  | rt d =>
    rw [e] at p
    exact False.elim p
  | rc d =>
    rw [e] at p
    exact fun v o H' s' nv rv => p v o H' s' nv rv
  | ex c ns xs r =>
    rw [e] at p
    exact fun m σ H' C d q' _ ea => p C d H' q'.same (ea.mono hid_nom)
  | bk r =>
    rw [e] at p
    exact False.elim p
  | ct r =>
    rw [e] at p
    exact False.elim p
  | bad =>
    rw [e] at p
    exact False.elim p
end QB

namespace QB
open PySem PySem.Spec PyProof.Rows L2
/-! ### an own error class: __init__ of plain stores -/
/-- what __init__ promises: the fields, in the order of the stores -/
def SpI (K : PySem.W.Frag) (fs : List Str) : Sp := fun vs H Q E => ∃ (a C : Addr) (ws : List V), vs = .ref a :: ws ∧ ws.length = fs.length ∧ fs.length ≤ 900 ∧ OexC K C ∧ (∀ f ∈ fs, PySem.W.findIn K (.ref C) f = some none) ∧ H a = some (exo a C none) ∧
  ∀ dx, H dx = none → dx ≠ a → Q .non (upd (upd H dx (exd dx (fs.zip ws).reverse)) a (exo a C (some dx)))
/-- stores of fields, from slot j on -/
def InitS (X : Cx) (ts : TS) (fs : List Str) (j : Nat) : Prop := ∀ (D : Ends) (σ : L2.St) (H : Hp) (a C : Addr) (ws : List V), σ[0]? = some (some (.ref a)) → (∀ i w, ws[i]? = some w → σ[j + i]? = some (some w)) → ws.length = fs.length → OexC X.K C → (∀ f ∈ fs, PySem.W.findIn X.K (.ref C) f = some none) →
  (fs ≠ [] → fs.length ≤ 900 → H a = some (exo a C none) → (∀ dx, H dx = none → dx ≠ a → D.nx σ (upd (upd H dx (exd dx (fs.zip ws).reverse)) a (exo a C (some dx)))) → ts D σ H) ∧
  ∀ dx gs, H a = some (exo a C (some dx)) → H dx = some (exd dx gs) → dx ≠ a → gs.length + fs.length ≤ 900 → D.nx σ (upd H dx (exd dx ((fs.zip ws).reverse ++ gs))) → ts D σ H
structure IB (X : Cx) (sts : List Stmt) (fs : List Str) (j : Nat) : Prop where
  ex : ∃ ts, PSs X sts ts ∧ InitS X ts fs j
theorem upd_id {H : Hp} {a : Addr} {o : HO} (h : H a = some o) : upd H a o = H := by
  funext b
  unfold upd
  split
  · rename_i e
    rw [e, h]
  · rfl
theorem upd_two {H : Hp} {a : Addr} {o u : HO} : upd (upd H a o) a u = upd H a u := by
  funext b
  unfold upd
  by_cases e : b = a <;> simp [e]
theorem upd_swap {H : Hp} {a b : Addr} {o u : HO} (n : a ≠ b) : upd (upd H a o) b u = upd (upd H b u) a o := by
  funext c
  unfold upd
  by_cases e : c = a
  · by_cases e2 : c = b
    · exact absurd (e.symm.trans e2) n
    · simp [e, n]
  · by_cases e2 : c = b <;> simp [e, e2, Ne.symm n]
section
variable {X : Cx} {W : WX} {a b e : Expr} {es : List Expr} {ms : MA} {pos : Pos}
theorem ib_nil {j : Nat} : IB X [] [] j := ⟨_, pss_nil, fun D σ H a C ws h0 hw hl T nof => ⟨fun h => absurd rfl h, fun dx gs ea ed nd hz k => by
  rw [List.zip_nil_left, List.reverse_nil, List.nil_append, upd_id ed] at k
  exact k⟩⟩
theorem ib_cons {f y z : Str} {fs : List Str} {j : Nat} {p1 p2 p3 p4 : Pos} {sts : List Stmt} (g : IB X sts fs (j + 1)) (h0 : X.N[0]? = some z) (hj : X.N[j]? = some y) (hv0 : Vis X.env.scope z) (hvj : Vis X.env.scope y) (d0 : (z == ("__debug__" : Str)) = false) (c0 : (z == ("__classdict__" : Str)) = false) (d1 : (y == ("__debug__" : Str)) = false) (c1 : (y == ("__classdict__" : Str)) = false)
    (hs : swapsWith (.Name y p3) (some (.Attribute (.Name z p1) f p2)) p4.line X.env = pure false := by rfl) : IB X (.Assign [.Attribute (.Name z p1) f p2] (.Name y p3) p4 :: sts) (f :: fs) j := by
  obtain ⟨u, g1, g2⟩ := g.ex
  refine ⟨_, pss_cons (ps_ost (pv 0 h0 hv0 d0 c0) (pv j hj hvj d1 c1) hs) g1, fun D σ H a C ws s0 hw hl T nof => ?_⟩
  match ws, hl with
  | w :: ws', hl =>
    have hl' : ws'.length = fs.length := by simpa using hl
    have wj : σ[j]? = some (some w) := hw 0 w rfl
    have hw' : ∀ i v, ws'[i]? = some v → σ[j + 1 + i]? = some (some v) := fun i v hv => by
      have := hw (i + 1) v (by simpa using hv)
      rw [show j + 1 + i = j + (i + 1) by omega]
      exact this
    have nf := nof f List.mem_cons_self
    have nofs : ∀ g ∈ fs, PySem.W.findIn X.K (.ref C) g = some none := fun g hg => nof g (List.mem_cons_of_mem _ hg)
    constructor
    · intro _ hz ea k
      refine ⟨w, wj, .ref a, s0, a, C, rfl, T, nf, .inl ⟨ea, fun dx ndx na => ?_⟩⟩
      refine (g2 D σ _ a C ws' s0 hw' hl' T nofs).2 dx [(f, w)] upd_same (by rw [upd_ne na]; exact upd_same) na (by simp at hz ⊢; omega) ?_
      have := k dx ndx na
      rw [List.zip_cons_cons, List.reverse_cons] at this
      rw [upd_swap (Ne.symm na), upd_two]
      exact this
    · intro dx gs ea ed nd hz k
      refine ⟨w, wj, .ref a, s0, a, C, rfl, T, nf, .inr ⟨dx, gs, ea, ed, by simp at hz; omega, ?_⟩⟩
      refine (g2 D σ _ a C ws' s0 hw' hl' T nofs).2 dx ((f, w) :: gs) (by rw [upd_ne (Ne.symm nd)]; exact ea) upd_same nd (by simp at hz ⊢; omega) ?_
      rw [upd_two]
      rw [List.zip_cons_cons, List.reverse_cons, List.append_assoc] at k
      exact k
end
theorem init_ok {P : Program} {w : World} {K : PySem.W.Frag} {mg : Str → Option Value} {base : Heap} {x qual : Str} {st : Stmt} {f : Addr} {fd : FuncData} {fs N : List Str} {k : Nat} (F : Fun K x qual st f fd) (S : FnScope N N (defScope st)) (hN : N.length = fs.length + 1) (hne : fs ≠ [])
    (hb : ∀ (cdv : Value) (A : Around) (outer : List Env) (s : Shared) (H : Hp) (E : XK), IB (cxOf (L2.CX P w) P w K mg base N qual (defScope st) f cdv A outer s H E) (defBody st) fs 1) : FnOk P w K mg base (L2.CX P w) (k + 1) f fd N (SpI K fs) := by
  refine F.okX S (fun vs H Q E h => ?_) fun cdv A outer s H vs Q E hr h => ?_
  · obtain ⟨a, C, ws, rfl, hl, _⟩ := h
    rw [List.length_cons, hl, hN]
  · obtain ⟨a, C, ws, rfl, hl, hz, T, nof, ea, k⟩ := h
    obtain ⟨t, h1, h2⟩ := (hb cdv A outer s H E).ex
    refine ⟨t, h1, ?_⟩
    have s0 : (L2.start N (.ref a :: ws))[0]? = some (some (.ref a)) := by simp [L2.start]
    refine (h2 _ _ H a C ws s0 (fun i v hv => ?_) hl T nof).1 hne hz ea fun dx n1 n2 => k dx n1 n2
    unfold L2.start
    rw [List.getElem?_append_left (by simp; have := (List.getElem?_eq_some_iff.mp hv).1; omega), List.getElem?_map, Nat.add_comm, List.getElem?_cons_succ, hv]
    rfl
/-- what a clause says of a class, from facts that the top has -/
theorem exm_mk {K : PySem.W.Frag} {C S : Addr} {b : Bool} (h1 : PySem.W.subIn K (.ref S) (.type "BaseException") = some true) (h2 : PySem.W.isClsIn K S = true) (h3 : PySem.W.typeIn K (.ref S) = some (.type "type")) (h4 : PySem.W.subIn K (.ref C) (.ref S) = some b) :
    PySem.W.exmOne K (.ref C) (.ref S) = some b := by
  have e1 : (PySem.W.subIn K (.ref S) (.type "BaseException") == some true) = true := by rw [h1] <;> rfl
  have e2 : ((PySem.W.clsIn K S).isSome && PySem.W.typeIn K (.ref S) == some (.type "type")) = true := by
    have h2' : (PySem.W.clsIn K S).isSome = true := h2
    rw [h2', h3] <;> rfl
  show (if (PySem.W.subIn K (.ref S) (.type "BaseException") == some true) = true then (if ((PySem.W.clsIn K S).isSome && PySem.W.typeIn K (.ref S) == some (.type "type")) = true then PySem.W.subIn K (.ref C) (.ref S) else none) else none) = some b
  rw [if_pos e1, if_pos e2]
  exact h4
/-- what the top has left of the class -/
structure XcTxt (P : Program) (w : World) (K : PySem.W.Frag) (mg : Str → Option Value) (base : Heap) (k : Nat) (c : Str) (fs : List Str) : Prop where
  ex : ∃ (C fI : Addr) (fd : FuncData) (ps : List Str), mg c = some (.ref C) ∧ OexC K C ∧ (∀ f ∈ fs, PySem.W.findIn K (.ref C) f = some none) ∧ PySem.W.findIn K (.ref C) "__init__" = some (some (.ref fI)) ∧ PySem.W.typeIn K (.ref fI) = some (.type "function") ∧ Binds K fd ps [] ∧ FnOk P w K mg base (L2.CX P w) k fI fd ps (SpI K fs) ∧ fs.length ≤ 900
/-- .. told of the text alone -/
structure XcF (K : PySem.W.Frag) (mg : Str → Option Value) (c : Str) (fs : List Str) (x qual : Str) (st : Stmt) : Prop where
  ex : ∃ (C fI : Addr) (fd : FuncData), mg c = some (.ref C) ∧ OexC K C ∧ (∀ f ∈ fs, PySem.W.findIn K (.ref C) f = some none) ∧ PySem.W.findIn K (.ref C) "__init__" = some (some (.ref fI)) ∧ PySem.W.typeIn K (.ref fI) = some (.type "function") ∧ Fun K x qual st fI fd
theorem RepL.rev {K : PySem.W.Frag} {mg : Str → Option Value} {G : Hp} : ∀ {ds : List D} {vs : List V}, RepL K mg G ds vs → RepL K mg G ds.reverse vs.reverse
  | [], vs, h => by
    simp only [RepL] at h
    subst h
    exact RepL.nil
  | d :: ds, vs, h => by
    simp only [RepL] at h
    obtain ⟨v, us, rfl, r, t⟩ := h
    rw [List.reverse_cons, List.reverse_cons]
    exact (RepL.rev t).append (RepL.cons r RepL.nil)
theorem zip_rev {α β : Type} : ∀ {as : List α} {bs : List β}, as.length = bs.length → (as.zip bs).reverse = as.reverse.zip bs.reverse
  | [], [], _ => rfl
  | a :: as, b :: bs, h => by
    have h' : as.length = bs.length := by simpa using h
    rw [List.zip_cons_cons, List.reverse_cons, List.reverse_cons, List.reverse_cons, zip_rev h', List.zip_append (by simp [h'])]
    rfl
  | [], _ :: _, h => by simp at h
  | _ :: _, [], h => by simp at h
section
variable {X : Cx} {W : WX} {a b e : Expr} {es : List Expr} {ms : MA} {pos pos2 p1 : Pos} {k kk : Nat} {c : Str} {fs : List Str}
/-- raise C(e, ..) -/
def mRaise (c : Str) (fs : List Str) (ms : MA) : MS := fun r => toFl r (ms r) fun ds => .ex c fs.reverse ds.reverse r
theorem es_raise (hc : X.calm = true) (tk : Takes X W) (T : XcTxt X.prog X.w X.K X.mg X.base k c fs) (hr : Room kk X.A) (hk : k + 1 ≤ kk) (ha : EA X W (a :: es) ms) (hl : ALen ms fs.length) (hg : Gl X c := by rfl) (hdb : (c == ("__debug__" : Str)) = false := by decide)
    (he : starEach (a :: es) X.env = (false, eval a X.env) :: starEach es X.env := by rfl) (hpl : (backTo pos (starEach es X.env)).any (·.1) = false := by rfl) : ES X W (.Raise (some (.Call (.Name c p1) (a :: es) [] pos)) none pos2) (mRaise c fs ms) := by
  obtain ⟨C, fI, fd, ps, gC, oC, nof, iC, tI, hb, F1, hz⟩ := T.ex
  obtain ⟨ta, h1, h2⟩ := ha.ex
  refine ⟨_, ps_raise hc tk (pmk_oex oC iC tI F1 (hr.mono hk) hb .nil (passes_call tk (fun _ _ _ _ z => z.elim)) hg gC h1 hdb he hpl), fun n Z H0 m r σ H hn q D p => ?_⟩
  unfold mRaise at p
  cases em : ms r with
  | ok ds =>
    have hlen := hl r ds em
    refine h2 n Z H0 m r σ H q _ ?_
    rw [em] at p ⊢
    intro vs H1 s1 rx
    have hv : vs.length = fs.length := by rw [rx.length, hlen]
    refine ⟨by omega, fun x nx => ?_⟩
    refine ⟨x, C, vs ++ [], rfl, by simp [hv], hz, oC, nof, upd_same, fun dx n1 n2 => ?_⟩
    have n1' : H1 dx = none := by
      rw [upd_ne n2] at n1
      exact n1
    refine ⟨rfl, dx, (fs.zip (vs ++ [])).reverse, upd_same, by rw [upd_ne n2]; exact upd_same, n1', ?_⟩
    have eh : upd (del (upd (upd (upd H1 x (exo x C none)) dx (exd dx (fs.zip (vs ++ [])).reverse)) x (exo x C (some dx))) x) dx (.xd (fs.zip (vs ++ [])).reverse) = upd H1 dx (.xd (fs.zip (vs ++ [])).reverse) := by
      funext y
      unfold upd del
      by_cases e1 : y = dx
      · simp [e1]
      · by_cases e2 : y = x
        · simp [e1, e2, nx]
        · simp [e1, e2]
    rw [eh]
    have s2 : Same H1 (upd H1 dx (.xd (fs.zip (vs ++ [])).reverse)) := same_upd n1'
    refine p m σ _ C (some dx) ((q.grow s1).grow s2) ((hid_mono s1).trans (hid_mono s2)) ⟨gC, .inr ⟨dx, vs.reverse, rfl, ?_, by simp [hlen], (rx.mono (hid_mono s2)).rev⟩⟩
    rw [(q.grow s1).hidNew n1', List.append_nil, zip_rev hv.symm]
  | exc cc ns xs =>
    refine h2 n Z H0 m r σ H q _ ?_
    rw [em] at p ⊢
    intro C' d H' s' ea
    exact p m σ H' C' d (q.grow s') (hid_mono s') ea
  | bad =>
    rw [em] at p
    exact False.elim p
/-! ### try: .. except x: .. -/
def mTry (ct : Str → Option Bool) (ms mu : MS) : MS := fun r => match ms r with
  | .ex c ns xs r' => (match ct c with
    | some true => (match mu r' with
      | .ex _ _ _ _ => .bad
      | f => f)
    | some false => .ex c ns xs r'
    | none => .bad)
  | f => f
theorem es_try {x : Str} {cv : Value} {body suite : List Stmt} {b₀ : Stmt} {np pos' : Pos} {mb mu : MS} {ct : Str → Option Bool} (hs : X.stack = X.env :: X.outer) (hf : X.env.frame = some X.env.locals) (hc : Names X x cv) (tk : Takes X W)
    (hct : ∀ c b, ct c = some b → ∀ C, X.mg c = some (.ref C) → PySem.W.exmOne X.K (.ref C) cv = some b)
    (hb : ∀ (W' : WX) (pn : List (Addr × Obj)) (xe : Value → Shared → Prop), Takes (X.tr pn xe) W' → PassesOwn (model X.prog X.w) X.A X.env xe → EB (X.tr pn xe) W' body mb)
    (hsu : ∀ (a : Addr) (oe : Obj) (cls : Value) (d : Option Addr) (pn : List (Addr × Obj)), Zc cls d oe → (∃ vs, oe.data = .fields vs) → EB (X.suite a ((a, oe) :: pn)) W0 (b₀ :: suite) mu) :
    ES X W (.Try body [.ExceptHandler (some (.Name x np)) none (b₀ :: suite) pos'] [] [] pos) (mTry ct mb mu) := by
  let tb : WX → TS := fun W' D σ H => ∀ (pn : List (Addr × Obj)) (xe : Value → Shared → Prop) (h1 : Takes (X.tr pn xe) W') (h2 : PassesOwn (model X.prog X.w) X.A X.env xe), (hb W' pn xe h1 h2).ex.choose D σ H
  let ts : Addr → Value → Option Addr → TS := fun a cls d D σ H => ∀ (oe : Obj) (pn : List (Addr × Obj)) (h1 : Zc cls d oe) (h2 : ∃ vs, oe.data = .fields vs), (hsu a oe cls d pn h1 h2).ex.choose D σ H
  refine ⟨fun D σ H => tb (wOnly X.K cv ts W D) D σ H, ps_try_only (tb := tb) (ts := ts) hs hf hc tk (fun W' pn xe h1 h2 => ⟨fun pins s σ H D I z => (hb W' pn xe h1 h2).ex.choose_spec.1.run pins s σ H D I (z pn xe h1 h2)⟩)
    (fun a oe cls d pn h1 h2 => ⟨fun pins s σ H D I z => (hsu a oe cls d pn h1 h2).ex.choose_spec.1.run pins s σ H D I (z oe pn h1 h2)⟩), fun n Z H0 m r σ H hn q D p pn xe h1 h2 => ?_⟩
  refine (hb _ pn xe h1 h2).ex.choose_spec.2 n Z H0 m r σ H hn q D ?_
  show PostS X.K X.mg n Z H0 (wOnly X.K cv ts W D) (hid Z m H) (mb r) D
  unfold mTry at p
  cases e : mb r with
  | nx r' =>
    rw [e] at p
    exact p
  | rt d =>
    rw [e] at p
    exact p
  | rc d =>
    rw [e] at p
    exact p
  | bk r' =>
    rw [e] at p
    exact p
  | ct r' =>
    rw [e] at p
    exact p
  | bad =>
    rw [e] at p
    exact p
  | ex c ns xs r' =>
    rw [e] at p
    intro m' σ' H' C d q' s' ea
    simp only at p
    cases ec : ct c with
    | none =>
      rw [ec] at p
      exact False.elim p
    | some b =>
      rw [ec] at p
      refine ⟨b, hct c b ec C ea.1, fun hb1 a na oe pn2 z1 z2 => ?_, fun hb0 => ?_⟩
      · subst hb1
        simp only at p
        refine (hsu a oe (.ref C) d pn2 z1 z2).ex.choose_spec.2 n Z H0 m' r' σ' H' hn q' D ?_
        show PostS X.K X.mg n Z H0 W0 (hid Z m' H') (mu r') D
        have p2 := PostS.grow p s'
        cases e2 : mu r' with
        | nx r4 =>
          rw [e2] at p2
          exact p2
        | rt d =>
          rw [e2] at p2
          exact p2
        | rc d =>
          rw [e2] at p2
          exact p2
        | bk r4 =>
          rw [e2] at p2
          exact p2
        | ct r4 =>
          rw [e2] at p2
          exact p2
        | bad =>
          rw [e2] at p2
          exact p2
        | ex c2 ns2 xs2 r4 =>
          rw [e2] at p2
          exact False.elim p2
      · subst hb0
        exact p m' σ' H' C d q' s' ea
/-! ### range with a step of -1 -/
def rgC (lo c : Int) (n : Nat) : List D := (List.range n).map fun (i : Nat) => D.int (lo + (i : Int) * c)
theorem itok_c {K : PySem.W.Frag} {mg : Str → Option Value} {G : Hp} {lo c : Int} {n : Nat} : ItOk K mg G (Itc lo c n) (rgC lo c n) := by
  have hl : (rgC lo c n).length = n := by simp [rgC]
  refine ⟨fun H i s hi => ⟨by rw [hl] at hi; exact hi, fun x H' hy => ?_⟩, fun H s => by rw [hl]; exact Nat.le_refl n⟩
  obtain ⟨e, ex⟩ := hy
  rw [hl] at hi
  refine ⟨e, .int (lo + (i : Int) * c), ?_, by simp only [Rep]; exact ex⟩
  simp [rgC, List.getElem?_map, hi]
def dRg3 : List D → R (List D)
  | [.int i, .int j, .int c] => if okR i ∧ okR j ∧ c = -1 then .ok (rgC i (-1) (i - j).toNat) else .bad
  | _ => .bad
def mRg3 (ma : MA) : MA := fun r => (ma r).bind dRg3
theorem RepL.three {K : PySem.W.Frag} {mg : Str → Option Value} {G : Hp} {d e f : D} {vs : List V} (h : RepL K mg G [d, e, f] vs) : ∃ v w x, vs = [v, w, x] ∧ Rep K mg G d v ∧ Rep K mg G e w ∧ Rep K mg G f x := by
  simp only [RepL] at h
  obtain ⟨v, us, rfl, r, w, us', rfl, r', x, us'', rfl, r'', rfl⟩ := h
  exact ⟨v, w, x, rfl, r, r', r''⟩
variable {b cc tg : Expr} {ma : MA}
theorem ei_range3 (hm : X.mg "range" = none) (hg : Gl X "range") (ha : EA X W [a, b, cc] ma) (hl : ALen ma 3)
    (hs : starEach [a, b, cc] X.env = (false, eval a X.env) :: starEach [b, cc] X.env := by rfl) (hpl : (backTo pos (starEach [b, cc] X.env)).any (·.1) = false := by rfl) : EI X W tg (.Call (.Name "range" p1) [a, b, cc] [] pos) (mRg3 ma) := by
  obtain ⟨t, h1, h2⟩ := ha.ex
  refine ⟨_, pi_range3 hg hm h1 hs hpl, fun n Z H0 m r σ H q R' p => ?_⟩
  unfold mRg3 at p
  have p' := p.bind
  refine h2 n Z H0 m r σ H q _ ?_
  cases e : ma r with
  | ok ds =>
    rw [e] at p'
    have hd := hl r ds e
    intro vs H1 s1 rx
    obtain ⟨d, d2, d3, rfl⟩ : ∃ d e f, ds = [d, e, f] := by
      match ds, hd with
      | [d, e, f], _ => exact ⟨d, e, f, rfl⟩
    obtain ⟨v, w, x, rfl, rv, rw', rx'⟩ := rx.three
    cases d <;> cases d2 <;> cases d3 <;> try exact False.elim p'
    rename_i i j c
    simp only [Rep] at rv rw' rx'
    subst rv rw' rx'
    simp only [PostG, dRg3] at p'
    split at p'
    · rename_i y hz
      split at hz
      · rename_i hz2
        cases hz
        obtain ⟨g1, g2, g3⟩ := hz2
        subst g3
        simp only [okR] at g1 g2
        exact ⟨i, j, -1, _, rfl, RgC.neg (by simpa using g1.1) (by simpa using g1.2) (by simpa using g2.1) (by simpa using g2.2), p' _ H1 s1 itok_c⟩
      · cases hz
    · rename_i hz
      split at hz <;> cases hz
    · exact False.elim p'
  | exc c ns xs =>
    rw [e] at p'
    exact p'
  | bad =>
    rw [e] at p'
    exact False.elim p'
end
/-! ### what a clause catches, told by a list -/
theorem ct_list {K : PySem.W.Frag} {mg : Str → Option Value} {x : Str} {Q : Addr} (hQ : mg x = some (.ref Q)) : ∀ {l : List (Str × Bool)}, (∀ p ∈ l, ∃ C Q' : Addr, mg p.1 = some (.ref C) ∧ mg x = some (.ref Q') ∧ PySem.W.exmOne K (.ref C) (.ref Q') = some p.2) → ∀ (c : Str) (b : Bool), l.lookup c = some b → ∀ C : Addr, mg c = some (.ref C) → PySem.W.exmOne K (.ref C) (.ref Q) = some b
  | [], _, c, b, h, _, _ => by simp at h
  | p :: l, hp, c, b, h, C, hC => by
    rw [List.lookup_cons] at h
    cases e : c == p.1 with
    | true =>
      rw [e] at h
      have e' : c = p.1 := by simpa using e
      obtain ⟨C', Q', g1, g2, g3⟩ := hp p List.mem_cons_self
      have : C' = C := by
        rw [← e', hC] at g1
        cases g1
        rfl
      subst this
      have : Q' = Q := by
        rw [hQ] at g2
        cases g2
        rfl
      subst this
      cases h
      exact g3
    | false =>
      rw [e] at h
      exact ct_list hQ (fun q hq => hp q (List.mem_cons_of_mem _ hq)) c b h C hC
theorem ct_nil {K : PySem.W.Frag} {mg : Str → Option Value} {x : Str} : ∀ p ∈ ([] : List (Str × Bool)), ∃ C Q' : Addr, mg p.1 = some (.ref C) ∧ mg x = some (.ref Q') ∧ PySem.W.exmOne K (.ref C) (.ref Q') = some p.2 := fun p h => by cases h
theorem ct_cons {K : PySem.W.Frag} {mg : Str → Option Value} {x c : Str} {b : Bool} {l : List (Str × Bool)} (h : ∃ C Q' : Addr, mg c = some (.ref C) ∧ mg x = some (.ref Q') ∧ PySem.W.exmOne K (.ref C) (.ref Q') = some b) (g : ∀ p ∈ l, ∃ C Q' : Addr, mg p.1 = some (.ref C) ∧ mg x = some (.ref Q') ∧ PySem.W.exmOne K (.ref C) (.ref Q') = some p.2) : ∀ p ∈ (c, b) :: l, ∃ C Q' : Addr, mg p.1 = some (.ref C) ∧ mg x = some (.ref Q') ∧ PySem.W.exmOne K (.ref C) (.ref Q') = some p.2 := fun p hp => by
  rcases List.mem_cons.mp hp with rfl | hp
  · exact h
  · exact g p hp
theorem xc_mk {P : Program} {w : World} {K : PySem.W.Frag} {mg : Str → Option Value} {base : Heap} {c x qual : Str} {st : Stmt} {fs N : List Str} (T : XcF K mg c fs x qual st) (hz : fs.length ≤ 900) (hb : ∀ {f : Addr} {fd : FuncData}, Fun K x qual st f fd → Binds K fd N [])
    (hf : ∀ {f : Addr} {fd : FuncData}, Fun K x qual st f fd → FnOk P w K mg base (L2.CX P w) 1 f fd N (SpI K fs)) : XcTxt P w K mg base 1 c fs := by
  obtain ⟨C, fI, fd, h1, h2, h3, h4, h5, F⟩ := T.ex
  exact ⟨C, fI, fd, N, h1, h2, h3, h4, h5, hb F, hf F, hz⟩
end QB

namespace QB
open PySem PySem.Spec PyProof.Rows L2
theorem all_nil {α : Type} {P : α → Prop} : ∀ x ∈ ([] : List α), P x := fun x h => by cases h
theorem all_cons {α : Type} {P : α → Prop} {a : α} {l : List α} (h : P a) (g : ∀ x ∈ l, P x) : ∀ x ∈ a :: l, P x := fun x hx => by
  rcases List.mem_cons.mp hx with rfl | hx
  · exact h
  · exact g x hx
section
variable {X : Cx} {W : WX} {a b c e : Expr} {es : List Expr} {ma mb mc me : ME} {ms : MA} {pos p1 p2 p3 p4 : Pos} {f g : D → D → R D} {op op' : CmpOp} {rr rr' : R2} {k kk n : Nat} {x : Str}
/-! ### a op b op' c -/
def mChain (f g : D → D → R D) (ma mb mc : ME) : ME := fun r => (ma r).bind fun x => (mb r).bind fun y => (f x y).bind fun k => match k with
  | .bl true => (mc r).bind fun z => g y z
  | .bl false => .ok (.bl false)
  | _ => .bad
theorem SimE.chain {ta tb tc : TE} (ha : SimE X W ta ma) (hb : SimE X W tb mb) (hc : SimE X W tc mc) (hf : OpW X W rr f) (hg : OpW X W rr' g) : SimE X W (tChain rr rr' ta tb tc) (mChain f g ma mb mc) := fun n Z H0 m r σ H q Q p => by
  unfold mChain at p
  refine ha n Z H0 m r σ H q _ (p.bind.imp fun d k x H1 s1 rx => ?_)
  refine hb n Z H0 m r σ H1 (q.grow s1) _ ((k.grow s1).bind.imp fun e k2 y H2 s2 ry => ?_)
  have q2 := (q.grow s1).grow s2
  refine hf n Z H0 m r σ H2 q2 d e x y _ ((rx.mono (hid_mono s2)).mono hid_nom) (ry.mono hid_nom) ((k2.grow s2).bind.imp fun k' k3 z H3 s3 rz => ?_)
  cases k' <;> try exact False.elim k3
  rename_i kb
  simp only [Rep] at rz
  subst rz
  refine ⟨kb, rfl, ?_⟩
  cases kb with
  | true =>
    rw [if_pos rfl]
    refine hc n Z H0 m r σ H3 (q2.grow s3) _ ((k3.grow s3).bind.imp fun e3 k4 w H4 s4 rw4 => ?_)
    exact hg n Z H0 m r σ H4 ((q2.grow s3).grow s4) e e3 y w Q ((ry.mono (hid_mono (s3.trans s4))).mono hid_nom) (rw4.mono hid_nom) ((k4.grow s4).imp fun d' k5 v H' s5 rv => k5 v H' (s1.trans (s2.trans (s3.trans (s4.trans s5)))) rv)
  | false =>
    rw [if_neg Bool.false_ne_true]
    exact k3 _ H3 (s1.trans (s2.trans s3)) (by simp [Rep])
theorem ee_chain (ho : OpR X (compareOp op) rr) (hs : OpW X W rr f) (ho' : OpR X (compareOp op') rr') (hs' : OpW X W rr' g) (ha : EE X W a ma) (hb : EE X W b mb) (hc : EE X W c mc) (hm : lastMarks [op, op'] [b, c] = false := by with_unfolding_all rfl) : EE X W (.Compare a [op, op'] [b, c] pos) (mChain f g ma mb mc) := by
  obtain ⟨ta, h1, h2⟩ := ha.ex
  obtain ⟨tb, h3, h4⟩ := hb.ex
  obtain ⟨tc, h5, h6⟩ := hc.ex
  exact ⟨_, pe_chain ho ho' h1 h3 h5 hm, h2.chain h4 h6 hs hs'⟩
theorem et_chain (ho : OpR X (compareOp op) rr) (hs : OpW X W rr f) (ho' : OpR X (compareOp op') rr') (hs' : OpW X W rr' g) (ha : EE X W a ma) (hb : EE X W b mb) (hc : EE X W c mc) (hm : lastMarks [op, op'] [b, c] = false := by with_unfolding_all rfl) : ET X W (.Compare a [op, op'] [b, c] pos) (mTB (mChain f g ma mb mc)) := by
  obtain ⟨ta, h1, h2⟩ := ha.ex
  obtain ⟨tb, h3, h4⟩ := hb.ex
  obtain ⟨tc, h5, h6⟩ := hc.ex
  exact ⟨_, pt_chain ho ho' h1 h3 h5 hm, SimT.of (h2.chain h4 h6 hs hs')⟩
/-! ### several names take the items of a tuple or a list -/
structure EGs (X : Cx) (es : List Expr) (tbs : List D → Sc → Option Sc) : Prop where
  ex : ∃ t, PGs X es t ∧ ∀ (n : Nat) (Z : Addr → Prop) (H0 : Hp) (m : Nat → Option Addr) (r : Sc) (σ : L2.St) (H : Hp), n = X.N.length → Rel X.K X.mg n Z H0 m r σ H → ∀ (ds : List D) (vs : List V) (Q : L2.St → Hp → Prop), RepL X.K X.mg (hid Z m H) ds vs →
    (match tbs ds r with
      | some r' => ∀ (m' : Nat → Option Addr) (σ' : L2.St), Rel X.K X.mg n Z H0 m' r' σ' H → Same (hid Z m H) (hid Z m' H) → Q σ' H
      | none => False) → t vs σ H Q
def bsNil : List D → Sc → Option Sc
  | [], r => some r
  | _, _ => none
def bsCons (tb : D → Sc → Option Sc) (tbs : List D → Sc → Option Sc) : List D → Sc → Option Sc
  | d :: ds, r => (match tb d r with
    | some r1 => tbs ds r1
    | none => none)
  | [], _ => none
def bTup (n : Nat) (tbs : List D → Sc → Option Sc) : D → Sc → Option Sc := fun d r => match seqD d with
  | some ds => if ds.length = n then tbs ds r else none
  | none => none
variable {tb : D → Sc → Option Sc} {tbs : List D → Sc → Option Sc} {vs : List Nat}
theorem egs_nil : EGs X [] bsNil := ⟨_, pgs_nil, fun n Z H0 m r σ H hn q ds us Q rl p => by
  cases ds with
  | nil =>
    simp only [RepL] at rl
    exact ⟨rl, p m σ q (Same.refl _)⟩
  | cons d ds => exact False.elim p⟩
theorem egs_cons (h : EG X e tb) (g : EGs X es tbs) (hs : (assignEach (e :: es) X.env).map (·.2) = assign e X.env :: (assignEach es X.env).map (·.2) := by rfl) : EGs X (e :: es) (bsCons tb tbs) := by
  obtain ⟨t, h1, h2⟩ := h.ex
  obtain ⟨u, h3, h4⟩ := g.ex
  refine ⟨_, pgs_cons h1 h3 hs, fun n Z H0 m r σ H hn q ds us Q rl p => ?_⟩
  cases ds with
  | nil => exact False.elim p
  | cons d ds =>
    simp only [RepL] at rl
    obtain ⟨v, ws, rfl, rv, rw'⟩ := rl
    refine ⟨v, ws, rfl, h2 n Z H0 m r σ H hn q d v _ rv ?_⟩
    simp only [bsCons] at p
    cases e1 : tb d r with
    | none =>
      rw [e1] at p
      exact False.elim p
    | some r1 =>
      rw [e1] at p
      simp only at p ⊢
      intro m1 σ1 q1 s1
      refine h4 n Z H0 m1 r1 σ1 H hn q1 ds ws Q (rw'.mono s1) ?_
      cases e2 : tbs ds r1 with
      | none =>
        rw [e2] at p
        exact False.elim p
      | some r2 =>
        rw [e2] at p
        exact fun m2 σ2 q2 s2 => p m2 σ2 q2 (s1.trans s2)
theorem pg_or {tg : Expr} {t u : TG} (h : PG X tg t) (g : PG X tg u) : PG X tg (fun v σ H Q => t v σ H Q ∨ u v σ H Q) := ⟨fun pins s σ H v w Q I r z => z.elim (h.run pins s σ H v w Q I r) (g.run pins s σ H v w Q I r)⟩
theorem eg_tup {j : Nat} (hc : X.calm = true) (h : EGs X es tbs) (hn : (assignEach es X.env).length = n := by rfl) (hst : (assignEach es X.env).findIdx? (·.1) = none := by rfl) : EG X (.Tuple es j pos) (bTup n tbs) := by
  obtain ⟨t, h1, h2⟩ := h.ex
  refine ⟨_, pg_or (pg_tup hc h1 hn hst) (pg_unl hc h1 hn hst), fun n' Z H0 m r σ H hn' q d v Q rv p => ?_⟩
  unfold bTup at p
  have go : ∀ (ds : List D) (us : List V), seqD d = some ds → RepL X.K X.mg (hid Z m H) ds us → us.length = n ∧ t us σ H Q := fun ds us e rl => by
    rw [e] at p
    simp only at p
    by_cases el : ds.length = n
    · rw [if_pos el] at p
      exact ⟨by rw [rl.length, el], h2 n' Z H0 m r σ H hn' q ds us Q rl p⟩
    · rw [if_neg el] at p
      exact False.elim p
  cases d <;> simp only [seqD] at p <;> try exact False.elim p
  · simp only [Rep] at rv
    obtain ⟨a, us, rfl, hq, t'⟩ := rv
    obtain ⟨g1, g2⟩ := go _ us rfl t'
    exact .inl ⟨a, us, rfl, Same.seqT hid_sub hq, g1, g2⟩
  · simp only [Rep] at rv
    obtain ⟨a, us, rfl, hq, t'⟩ := rv
    obtain ⟨g1, g2⟩ := go _ us rfl t'
    exact .inr ⟨a, us, rfl, .inl (.inl (hid_sub _ _ hq)), g1, g2⟩
  · simp only [Rep] at rv
    obtain ⟨a, us, rfl, hq, t'⟩ := rv
    obtain ⟨g1, g2⟩ := go _ us rfl t'
    exact .inr ⟨a, us, rfl, Same.seq hid_sub hq, g1, g2⟩
/-! .. in a comprehension -/
structure CGs (X : Cx) (vs : List Nat) (es : List Expr) (tbs : List D → Sc → Option Sc) : Prop where
  ex : ∃ t, PGs X es t ∧ ∀ (n : Nat) (Z : Addr → Prop) (H0 : Hp) (m : Nat → Option Addr) (r : Sc) (σ : L2.St) (H : Hp), (∀ i ∈ vs, i < n) → Rel X.K X.mg n Z H0 m r σ H → (∀ i ∈ vs, m i = none) → ∀ (ds : List D) (us : List V) (Q : L2.St → Hp → Prop), RepL X.K X.mg (hid Z m H) ds us →
    (match tbs ds r with
      | some r' => ∀ (σ' : L2.St), Rel X.K X.mg n Z H0 m r' σ' H → wipe σ' vs = wipe σ vs → Q σ' H
      | none => False) → t us σ H Q
theorem cgs_nil : CGs X vs [] bsNil := ⟨_, pgs_nil, fun n Z H0 m r σ H hn q hm ds us Q rl p => by
  cases ds with
  | nil =>
    simp only [RepL] at rl
    exact ⟨rl, p σ q rfl⟩
  | cons d ds => exact False.elim p⟩
theorem cgs_cons (h : CG X vs e tb) (g : CGs X vs es tbs) (hs : (assignEach (e :: es) X.env).map (·.2) = assign e X.env :: (assignEach es X.env).map (·.2) := by rfl) : CGs X vs (e :: es) (bsCons tb tbs) := by
  obtain ⟨t, h1, h2⟩ := h.ex
  obtain ⟨u, h3, h4⟩ := g.ex
  refine ⟨_, pgs_cons h1 h3 hs, fun n Z H0 m r σ H hn q hm ds us Q rl p => ?_⟩
  cases ds with
  | nil => exact False.elim p
  | cons d ds =>
    simp only [RepL] at rl
    obtain ⟨v, ws, rfl, rv, rw'⟩ := rl
    refine ⟨v, ws, rfl, h2 n Z H0 m r σ H hn q hm d v _ rv ?_⟩
    simp only [bsCons] at p
    cases e1 : tb d r with
    | none =>
      rw [e1] at p
      exact False.elim p
    | some r1 =>
      rw [e1] at p
      simp only at p ⊢
      intro σ1 q1 s1
      refine h4 n Z H0 m r1 σ1 H hn q1 hm ds ws Q rw' ?_
      cases e2 : tbs ds r1 with
      | none =>
        rw [e2] at p
        exact False.elim p
      | some r2 =>
        rw [e2] at p
        exact fun σ2 q2 s2 => p σ2 q2 (s2.trans s1)
theorem cg_tup {j : Nat} (hc : X.calm = true) (h : CGs X vs es tbs) (hn : (assignEach es X.env).length = n := by rfl) (hst : (assignEach es X.env).findIdx? (·.1) = none := by rfl) : CG X vs (.Tuple es j pos) (bTup n tbs) := by
  obtain ⟨t, h1, h2⟩ := h.ex
  refine ⟨_, pg_or (pg_tup hc h1 hn hst) (pg_unl hc h1 hn hst), fun n' Z H0 m r σ H hn' q hm d v Q rv p => ?_⟩
  unfold bTup at p
  have go : ∀ (ds : List D) (us : List V), seqD d = some ds → RepL X.K X.mg (hid Z m H) ds us → us.length = n ∧ t us σ H Q := fun ds us e rl => by
    rw [e] at p
    simp only at p
    by_cases el : ds.length = n
    · rw [if_pos el] at p
      exact ⟨by rw [rl.length, el], h2 n' Z H0 m r σ H hn' q hm ds us Q rl p⟩
    · rw [if_neg el] at p
      exact False.elim p
  cases d <;> simp only [seqD] at p <;> try exact False.elim p
  · simp only [Rep] at rv
    obtain ⟨a, us, rfl, hq, t'⟩ := rv
    obtain ⟨g1, g2⟩ := go _ us rfl t'
    exact .inl ⟨a, us, rfl, Same.seqT hid_sub hq, g1, g2⟩
  · simp only [Rep] at rv
    obtain ⟨a, us, rfl, hq, t'⟩ := rv
    obtain ⟨g1, g2⟩ := go _ us rfl t'
    exact .inr ⟨a, us, rfl, .inl (.inl (hid_sub _ _ hq)), g1, g2⟩
  · simp only [Rep] at rv
    obtain ⟨a, us, rfl, hq, t'⟩ := rv
    obtain ⟨g1, g2⟩ := go _ us rfl t'
    exact .inr ⟨a, us, rfl, Same.seq hid_sub hq, g1, g2⟩
/-! a, b, .. = e -/
def mAsg (tb : D → Sc → Option Sc) (me : ME) : MS := fun r => toFl r (me r) fun d => match tb d r with
  | some r' => .nx r'
  | none => .bad
theorem es_asgT {tg : Expr} (he : EE X W e me) (hg : EG X tg tb) (hs : swapsWithSole [tg] e pos.line X.env = pure false := by rfl) (hw : swappedStores [tg] e X.env = pure none := by rfl)
    (h1 : (assignEach [tg] X.env).map (·.2) = [assign tg X.env] := by rfl) : ES X W (.Assign [tg] e pos) (mAsg tb me) := by
  obtain ⟨t, g1, g2⟩ := he.ex
  obtain ⟨g, g3, g4⟩ := hg.ex
  refine ⟨_, ps_asg g1 g3 hs hw h1, fun n Z H0 m r σ H hn q D p => ?_⟩
  refine g2 n Z H0 m r σ H q _ ((toFl_post q p).imp fun d k v H1 s1 rv => ?_)
  refine g4 n Z H0 m r σ H1 hn (q.grow s1) d v _ rv ?_
  cases e1 : tb d r with
  | none =>
    rw [e1] at k
    exact False.elim k
  | some r' =>
    rw [e1] at k
    exact fun m' σ' q' s' => k m' σ' H1 q' ((hid_mono s1).trans s')
end
end QB

namespace QB
open PySem PySem.Spec PyProof.Rows L2
/-! ### own classes with an __init__ of stores -/
/-- the fields of c may be read -/
def ClsA (K : PySem.W.Frag) (mg : Str → Option Value) (fs : List Str) (c : Str) : Prop := ∃ C : Addr, mg c = some (.ref C) ∧ Cls K C ∧ ∀ f ∈ fs, NoAttr K C f
theorem Rel.updZ {K : PySem.W.Frag} {mg : Str → Option Value} {n : Nat} {Z : Addr → Prop} {H0 : Hp} {m : Nat → Option Addr} {r : Sc} {σ : L2.St} {H : Hp} (q : Rel K mg n Z H0 m r σ H) {a : Addr} {o : HO} (hz : Z a) (h0 : H0 a = none) : Rel K mg n Z H0 m r σ (upd H a o) ∧ hid Z m (upd H a o) = hid Z m H := by
  have hh : hid Z m (upd H a o) = hid Z m H := by
    funext b
    unfold hid
    split
    · rfl
    · rename_i g
      rw [upd_ne fun e => g (.inl (by rw [e]; exact hz))]
  refine ⟨⟨q.lenr, q.lens, fun i d h => ?_, fun i c h => ?_, q.dom, q.inj, q.frs, fun b hb e => ?_, fun b x e => ?_⟩, hh⟩
  · rw [hh]
    exact q.val i d h
  · rw [hh]
    obtain ⟨b, o', h1, h2, h3, h4⟩ := q.own i c h
    exact ⟨b, o', h1, h2, by rw [upd_ne fun e => (q.frs i b h1).2 (by rw [e]; exact hz)]; exact h3, h4⟩
  · by_cases eb : b = a
    · rw [eb, upd_same] at e
      cases e
    · rw [upd_ne eb] at e
      exact q.zed b hb e
  · rw [upd_ne fun z => by rw [z, h0] at e; cases e]
    exact q.same _ _ e
theorem putF_new {f : Str} {y : V} : ∀ {gs : List Str} {us : List V}, gs.length = us.length → f ∉ gs → putF f y (gs.zip us) = (gs ++ [f]).zip (us ++ [y])
  | [], [], _, _ => rfl
  | g :: gs, u :: us, h, hn => by
    have h1 : ¬ g = f := fun e => hn (by rw [e]; exact List.mem_cons_self)
    have h2 := putF_new (f := f) (y := y) (gs := gs) (us := us) (by simpa using h) (fun z => hn (List.mem_cons_of_mem _ z))
    show (if g = f then _ else (g, u) :: putF f y (gs.zip us)) = _
    rw [if_neg h1, h2]
    rfl
  | [], _ :: _, h, _ => by simp at h
  | _ :: _, [], h, _ => by simp at h
/-- stores of the fields fs, one after another -/
def InitC (X : Cx) (ts : TS) (fs : List Str) (ms : MA) : Prop := ∀ (D : Ends) (n : Nat) (Z : Addr → Prop) (H0 : Hp) (m : Nat → Option Addr) (r : Sc) (σ : L2.St) (H : Hp) (a C dx : Addr) (gs : List Str) (us : List V), Rel X.K X.mg n Z H0 m r σ H → Z a → H0 a = none → σ[0]? = some (some (.ref a)) →
  Cls X.K C → (∀ f ∈ fs, NoAttr X.K C f) → H a = some (.ins C dx (gs.zip us)) → gs.length = us.length → gs.length + fs.length ≤ 900 → (gs ++ fs).Nodup →
  (match ms r with
    | .ok ds => ∀ (ws : List V) (H' : Hp), (∀ b o, b ≠ a → H b = some o → H' b = some o) → H' a = some (.ins C dx ((gs ++ fs).zip (us ++ ws))) → ws.length = fs.length → RepL X.K X.mg (hid Z m H') ds ws → D.nx σ H'
    | _ => False) → ts D σ H
structure IC (X : Cx) (sts : List Stmt) (fs : List Str) (ms : MA) : Prop where
  ex : ∃ ts, PSs X sts ts ∧ InitC X ts fs ms
section
variable {X : Cx} {W : WX} {a b c e : Expr} {es : List Expr} {ma mb mc me : ME} {ms : MA} {pos p1 p2 p3 p4 : Pos} {k kk n : Nat} {x z f : Str} {fs : List Str} {sts : List Stmt}
theorem ic_nil : IC X [] [] mNil := ⟨_, pss_nil, fun D n Z H0 m r σ H a C dx gs us q hz h0 s0 cl nof ea hl hk hd p => by
  refine p [] H (fun b o _ h => h) ?_ rfl RepL.nil
  rw [List.append_nil, List.append_nil]
  exact ea⟩
theorem ic_cons (he : EE X W e me) (g : IC X sts fs ms) (h0 : X.N[0]? = some z) (hv0 : Vis X.env.scope z) (d0 : (z == ("__debug__" : Str)) = false) (c0 : (z == ("__classdict__" : Str)) = false)
    (hs : swapsWith e (some (.Attribute (.Name z p1) f p2)) p4.line X.env = pure false := by rfl) : IC X (.Assign [.Attribute (.Name z p1) f p2] e p4 :: sts) (f :: fs) (mCons me ms) := by
  obtain ⟨te, e1, e2⟩ := he.ex
  obtain ⟨u, g1, g2⟩ := g.ex
  refine ⟨_, pss_cons (ps_fld (pv 0 h0 hv0 d0 c0) e1 hs) g1, fun D n Z H0 m r σ H a C dx gs us q hz hn0 s0 cl nof ea hl hk hd p => ?_⟩
  unfold mCons at p
  cases em : me r with
  | exc cc ns xs =>
    rw [em] at p
    exact False.elim p
  | bad =>
    rw [em] at p
    exact False.elim p
  | ok d =>
    rw [em] at p
    simp only [R.bind] at p
    refine e2 n Z H0 m r σ H q _ ?_
    rw [em]
    intro y H1 s1 ry
    have q1 := q.grow s1
    have ea1 := s1 _ _ ea
    have hfg : f ∉ gs := fun z2 => by
      have := List.nodup_append.mp hd
      exact this.2.2 f z2 f List.mem_cons_self rfl
    refine ⟨.ref a, s0, a, C, dx, gs.zip us, rfl, ea1, cl, nof f List.mem_cons_self, ?_, ?_⟩
    · rw [List.length_zip, ← hl]
      simp at hk ⊢
      omega
    · rw [putF_new hl hfg]
      obtain ⟨q2, hh⟩ := q1.updZ (o := .ins C dx ((gs ++ [f]).zip (us ++ [y]))) hz hn0
      refine g2 _ n Z H0 m r σ _ a C dx (gs ++ [f]) (us ++ [y]) q2 hz hn0 s0 cl (fun f' hf' => nof f' (List.mem_cons_of_mem _ hf')) upd_same (by simp [hl]) (by simp at hk ⊢; omega) (by simpa using hd) ?_
      cases ems : ms r with
      | exc cc ns xs =>
        rw [ems] at p
        exact False.elim p
      | bad =>
        rw [ems] at p
        exact False.elim p
      | ok ds =>
        rw [ems] at p
        simp only at p ⊢
        intro ws H' kp ea' hw rl
        refine p (y :: ws) H' (fun b o hb h => kp b o hb (by rw [upd_ne hb]; exact s1 _ _ h)) ?_ (by simp [hw]) (RepL.cons ?_ rl)
        · rw [List.append_assoc, List.append_assoc] at ea'
          exact ea'
        · refine ry.mono fun b o h => ?_
          obtain ⟨g3, g4, g5⟩ := of_hid h
          exact hid_of (kp b o (fun z2 => g4 (by rw [z2]; exact hz)) (by rw [upd_ne fun z2 => g4 (by rw [z2]; exact hz)]; exact g3)) g4 g5
end
/-- what __init__ promises -/
def SpC (K : PySem.W.Frag) (mg : Str → Option Value) (fs : List Str) (n : Nat) (mi : List D → R (List D)) : Sp := fun vs H Q E => ∃ (a C dx : Addr) (ws : List V) (ds : List D) (Z : Addr → Prop), vs = .ref a :: ws ∧ ws.length = n ∧ Cls K C ∧ (∀ f ∈ fs, NoAttr K C f) ∧ H a = some (.ins C dx []) ∧ (∀ b, Z b → H b ≠ none) ∧ Z a ∧ RepL K mg (hid Z nom H) ds ws ∧
  (match mi ds with
    | .ok xs => ∀ (us : List V) (H' : Hp), (∀ b o, b ≠ a → H b = some o → H' b = some o) → H' a = some (.ins C dx (fs.zip us)) → us.length = fs.length → RepL K mg (hid Z nom H') xs us → Q .non H'
    | _ => False)
def mInit (n : Nat) (ms : MA) : List D → R (List D) := fun ds => ms (none :: mStart n ds)
theorem init_okC {P : Program} {w : World} {K : PySem.W.Frag} {mg : Str → Option Value} {base : Heap} {x qual : Str} {st : Stmt} {f : Addr} {fd : FuncData} {N ps : List Str} {fs : List Str} {k np nn : Nat} {ms : MA} (F : Fun K x qual st f fd) (S : FnScope N ps (defScope st)) (hp : ps.length = np + 1) (hN : N.length = nn + 1) (hnn : np ≤ nn) (hfs : fs.Nodup) (hfl : fs.length ≤ 900)
    (hb : ∀ (cdv : Value) (A : Around) (outer : List Env) (s : Shared) (H : Hp) (E : XK), Room k (A.deeper (envOfC qual (defScope st) s.heap.objs.size f cdv)) →
      Takes (cxOf (L2.CX P w) P w K mg base N qual (defScope st) f cdv A outer s H E) (fun cls d _ H => E cls d H) →
      PassesOwn (model P w) (cxOf (L2.CX P w) P w K mg base N qual (defScope st) f cdv A outer s H E).A (cxOf (L2.CX P w) P w K mg base N qual (defScope st) f cdv A outer s H E).env (cxOf (L2.CX P w) P w K mg base N qual (defScope st) f cdv A outer s H E).xe →
      IC (cxOf (L2.CX P w) P w K mg base N qual (defScope st) f cdv A outer s H E) (defBody st) fs ms) : FnOk P w K mg base (L2.CX P w) (k + 1) f fd ps (SpC K mg fs np (mInit nn ms)) := by
  refine F.okX S (fun vs H Q E h => ?_) fun cdv A outer s H vs Q E hr h => ?_
  · obtain ⟨a, C, dx, ws, ds, Z, rfl, hl, _⟩ := h
    rw [List.length_cons, hl, hp]
  · obtain ⟨a, C, dx, ws, ds, Z, rfl, hl, cl, nof, ea, hz, za, rl, p⟩ := h
    obtain ⟨t, h1, h2⟩ := (hb cdv A outer s H E hr (takes_of rfl rfl rfl rfl) (passes_of rfl)).ex
    refine ⟨t, h1, ?_⟩
    obtain ⟨y, N', rfl⟩ : ∃ y N', N = y :: N' := by
      cases N with
      | nil => simp at hN
      | cons y N' => exact ⟨y, N', rfl⟩
    have hN' : N'.length = nn := by simpa using hN
    have q0 : Rel K mg N'.length Z H nom (mStart N'.length ds) (L2.start N' ws) H := start_rel hz rl (by omega)
    have es : L2.start (y :: N') (.ref a :: ws) = some (.ref a) :: L2.start N' ws := by
      unfold L2.start
      simp
    let H0 : Hp := fun b => if b = a then none else H b
    have q : Rel K mg (N'.length + 1) Z H0 nom (none :: mStart N'.length ds) (L2.start (y :: N') (.ref a :: ws)) H := by
      rw [es]
      refine ⟨by rw [List.length_cons, q0.lenr], by rw [List.length_cons, q0.lens], fun i d hi => ?_, fun i c hi => ?_, fun i b e => (nomatch e), fun i j b e => (nomatch e), fun i b e => (nomatch e), hz, fun b o e => ?_⟩
      · cases i with
        | zero => simp at hi
        | succ i => exact q0.val i d (by simpa using hi)
      · cases i with
        | zero => simp at hi
        | succ i =>
          obtain ⟨b, o, h3, _⟩ := q0.own i c (by simpa using hi)
          cases h3
      · have e' : (if b = a then none else H b) = some o := e
        split at e'
        · cases e'
        · exact e'
    refine h2 _ _ Z H0 nom _ _ H a C dx [] [] q za (if_pos rfl) (by rw [es]; rfl) cl nof ea rfl (by simpa using hfl) (by simpa using hfs) ?_
    unfold mInit at p
    rw [← hN'] at p
    cases em : ms (none :: mStart N'.length ds) with
    | exc cc ns xs =>
      rw [em] at p
      exact False.elim p
    | bad =>
      rw [em] at p
      exact False.elim p
    | ok xs =>
      rw [em] at p
      simp only at p ⊢
      intro us H' kp ea' hu ru
      exact p us H' kp ea' hu ru
/-- what the top has of a class that may be made -/
structure ClsT (P : Program) (w : World) (K : PySem.W.Frag) (mg : Str → Option Value) (base : Heap) (k : Nat) (c : Str) (fs : List Str) (n : Nat) (mi : List D → R (List D)) : Prop where
  ex : ∃ (C fI : Addr) (fd : FuncData) (ps : List Str), mg c = some (.ref C) ∧ Cls K C ∧ (∀ f ∈ fs, NoAttr K C f) ∧ Mk K C fI ∧ Binds K fd ps [] ∧ FnOk P w K mg base (L2.CX P w) k fI fd ps (SpC K mg fs n mi)
/-- .. told of the text alone -/
structure ClsF (K : PySem.W.Frag) (mg : Str → Option Value) (c : Str) (fs : List Str) (x qual : Str) (st : Stmt) : Prop where
  ex : ∃ (C fI : Addr) (fd : FuncData), mg c = some (.ref C) ∧ Cls K C ∧ (∀ f ∈ fs, NoAttr K C f) ∧ Mk K C fI ∧ Fun K x qual st fI fd
theorem ClsF.a {K : PySem.W.Frag} {mg : Str → Option Value} {c x qual : Str} {fs : List Str} {st : Stmt} (T : ClsF K mg c fs x qual st) : ClsA K mg fs c := by
  obtain ⟨C, fI, fd, h1, h2, h3, _⟩ := T.ex
  exact ⟨C, h1, h2, h3⟩
theorem cls_mk {P : Program} {w : World} {K : PySem.W.Frag} {mg : Str → Option Value} {base : Heap} {c x qual : Str} {st : Stmt} {fs ps : List Str} {k n : Nat} {mi : List D → R (List D)} (T : ClsF K mg c fs x qual st) (hb : ∀ {f : Addr} {fd : FuncData}, Fun K x qual st f fd → Binds K fd ps [])
    (hf : ∀ {f : Addr} {fd : FuncData}, Fun K x qual st f fd → FnOk P w K mg base (L2.CX P w) k f fd ps (SpC K mg fs n mi)) : ClsT P w K mg base k c fs n mi := by
  obtain ⟨C, fI, fd, h1, h2, h3, h4, F⟩ := T.ex
  exact ⟨C, fI, fd, ps, h1, h2, h3, h4, hb F, hf F⟩
theorem ClsA.one {K : PySem.W.Frag} {mg : Str → Option Value} {c f : Str} {fs : List Str} (h : ClsA K mg fs c) (hf : f ∈ fs) : ClsA K mg [f] c := by
  obtain ⟨C, h1, h2, h3⟩ := h
  exact ⟨C, h1, h2, fun g hg => by rw [List.mem_singleton.mp hg]; exact h3 f hf⟩
theorem clsA_nil {K : PySem.W.Frag} {mg : Str → Option Value} {f : Str} : ∀ c ∈ ([] : List Str), ClsA K mg [f] c := fun c h => by cases h
theorem clsA_cons {K : PySem.W.Frag} {mg : Str → Option Value} {f c0 : Str} {cs : List Str} (h : ClsA K mg [f] c0) (g : ∀ c ∈ cs, ClsA K mg [f] c) : ∀ c ∈ c0 :: cs, ClsA K mg [f] c := fun c hc => by
  rcases List.mem_cons.mp hc with rfl | hc
  · exact h
  · exact g c hc
/-- a method, told of the text alone -/
structure MetF (K : PySem.W.Frag) (mg : Str → Option Value) (c mn qual : Str) (st : Stmt) : Prop where
  ex : ∃ (C f : Addr) (fd : FuncData), mg c = some (.ref C) ∧ Cls K C ∧ Meth K C mn f ∧ Fun K mn qual st f fd
section
variable {X : Cx} {W : WX} {a b c e : Expr} {es : List Expr} {ma mb mc me : ME} {ms : MA} {pos p1 p2 p3 p4 : Pos} {k kk n : Nat} {x z f : Str} {fs : List Str} {mi : List D → R (List D)}
/-- C(e, ..) -/
def mMake (c : Str) (fs : List Str) (mi : List D → R (List D)) (ms : MA) : ME := fun r => (ms r).bind fun ds => match mi ds with
  | .ok xs => if xs.length = fs.length then .ok (.ins c fs xs) else .bad
  | _ => .bad
theorem ee_make (tk : Takes X W) (T : ClsT X.prog X.w X.K X.mg X.base k x fs n mi) (hr : Room kk X.A) (hk : k + 1 ≤ kk) (ha : EA X W (a :: es) ms) (hl : ALen ms n) (hg : Gl X x := by rfl) (hdb : (x == ("__debug__" : Str)) = false := by decide)
    (he : starEach (a :: es) X.env = (false, eval a X.env) :: starEach es X.env := by rfl) (hpl : (backTo pos (starEach es X.env)).any (·.1) = false := by rfl) : EE X W (.Call (.Name x p1) (a :: es) [] pos) (mMake x fs mi ms) := by
  obtain ⟨C, fI, fd, ps, gC, cl, nof, mk, hb, F⟩ := T.ex
  obtain ⟨t, h1, h2⟩ := ha.ex
  refine ⟨_, pe_make mk F (hr.mono hk) hg gC hb .nil (passes_call (E := fun _ _ _ => False) tk (fun _ _ _ _ z => z.elim)) h1 hdb he hpl, fun nn Z H0 m r σ H q Q p => ?_⟩
  unfold mMake at p
  have p' := p.bind
  cases em : ms r with
  | exc cc ns xs =>
    refine h2 nn Z H0 m r σ H q _ ?_
    rw [em] at p' ⊢
    exact p'
  | bad =>
    rw [em] at p'
    exact False.elim p'
  | ok ds =>
    refine h2 nn Z H0 m r σ H q _ ?_
    rw [em] at p' ⊢
    have hlen := hl r ds em
    intro vs H1 s1 rx y dx ny nd ne
    have q1 := q.grow s1
    simp only [PostG] at p'
    refine ⟨y, C, dx, vs ++ [], ds, fun b => Z b ∨ (∃ i, m i = some b) ∨ b = y, rfl, by rw [List.append_nil, rx.length, hlen], cl, nof, upd_same, ?_, .inr (.inr rfl), ?_, ?_⟩
    · rintro b (h | ⟨i, h⟩ | h) e
      · have := q1.zed b h
        by_cases eb : b = y
        · rw [eb, upd_same] at e
          cases e
        · rw [upd_ne eb] at e
          by_cases ed : b = dx
          · rw [ed, upd_same] at e
            cases e
          · rw [upd_ne ed] at e
            exact this e
      · obtain ⟨o, ho⟩ := q1.alive h
        have eb : b ≠ y := fun z2 => by
          rw [z2, ny] at ho
          cases ho
        have ed : b ≠ dx := fun z2 => by
          rw [z2, nd] at ho
          cases ho
        rw [upd_ne eb, upd_ne ed, ho] at e
        cases e
      · rw [h, upd_same] at e
        cases e
    · rw [List.append_nil]
      refine rx.mono fun b o h => ?_
      obtain ⟨g1, g2, g3⟩ := of_hid h
      have eb : b ≠ y := fun z2 => by
        rw [z2, ny] at g1
        cases g1
      have ed : b ≠ dx := fun z2 => by
        rw [z2, nd] at g1
        cases g1
      refine hid_of (by rw [upd_ne eb, upd_ne ed]; exact g1) (fun z2 => ?_) (fun i e => by cases e)
      rcases z2 with z2 | ⟨i, z2⟩ | z2
      · exact g2 z2
      · exact g3 i z2
      · exact eb z2
    · cases emi : mi ds with
      | exc cc ns xs =>
        rw [emi] at p'
        exact False.elim p'
      | bad =>
        rw [emi] at p'
        exact False.elim p'
      | ok xs =>
        rw [emi] at p'
        simp only at p' ⊢
        intro us H' kp ea hu ru
        have hx : xs.length = fs.length := by rw [← ru.length, hu]
        rw [if_pos hx] at p'
        have sH : Same H1 H' := fun b o h => by
          have eb : b ≠ y := fun z2 => by
            rw [z2, ny] at h
            cases h
          have ed : b ≠ dx := fun z2 => by
            rw [z2, nd] at h
            cases h
          exact kp b o eb (by rw [upd_ne eb, upd_ne ed]; exact h)
        refine ⟨by trivial, p' (.ref y) H' (s1.trans sH) ?_⟩
        simp only [Rep]
        refine ⟨y, C, dx, us, rfl, gC, hid_of ea (q1.new ny).1 (q1.new ny).2, hx.symm, ru.mono fun b o h => ?_⟩
        obtain ⟨g1, g2, g3⟩ := of_hid h
        exact hid_of g1 (fun z2 => g2 (.inl z2)) (fun i z2 => g2 (.inr (.inl ⟨i, z2⟩)))
/-- e.f -/
def mFld (cs : List Str) (f : Str) (me : ME) : ME := fun r => (me r).bind fun d => match d with
  | .ins c ns xs => if c ∈ cs then (match (ns.zip xs).lookup f with
    | some x => .ok x
    | none => .bad) else .bad
  | _ => .bad
theorem look_rep {K : PySem.W.Frag} {mg : Str → Option Value} {G : Hp} {f : Str} : ∀ {ns : List Str} {xs : List D} {vs : List V} {x : D}, RepL K mg G xs vs → (ns.zip xs).lookup f = some x → ∃ v, (ns.zip vs).lookup f = some v ∧ Rep K mg G x v
  | [], xs, vs, x, _, h => by simp at h
  | n :: ns, [], vs, x, _, h => by simp at h
  | n :: ns, y :: xs, vs, x, rl, h => by
    simp only [RepL] at rl
    obtain ⟨v, us, rfl, rv, t⟩ := rl
    rw [List.zip_cons_cons, List.lookup_cons] at h ⊢
    cases e : f == n with
    | true =>
      rw [e] at h
      cases h
      exact ⟨v, rfl, rv⟩
    | false =>
      rw [e] at h
      exact look_rep t h
theorem ee_fld {cs : List Str} (ha : EE X W a me) (hc : ∀ c ∈ cs, ClsA X.K X.mg [f] c) (hb : attributeBase a f X.env (eval a X.env) = eval a X.env := by rfl) : EE X W (.Attribute a f pos) (mFld cs f me) := by
  obtain ⟨t, h1, h2⟩ := ha.ex
  refine ⟨_, pe_fld h1 hb, fun n Z H0 m r σ H q Q p => ?_⟩
  unfold mFld at p
  refine h2 n Z H0 m r σ H q _ (p.bind.imp fun d k v H1 s1 rv => ?_)
  cases d <;> try exact False.elim k
  rename_i c ns xs
  simp only [Rep] at rv
  obtain ⟨a1, C, dx, vs, rfl, gC, ea, hl, rl⟩ := rv
  simp only at k
  by_cases hm : c ∈ cs
  · rw [if_pos hm] at k
    obtain ⟨C', gC', cl, nof⟩ := hc c hm
    rw [gC] at gC'
    cases gC'
    cases el : (ns.zip xs).lookup f with
    | none =>
      rw [el] at k
      exact False.elim k
    | some x =>
      rw [el] at k
      obtain ⟨v, lv, rv⟩ := look_rep rl el
      exact ⟨a1, C, dx, _, v, rfl, hid_sub _ _ ea, cl, nof f (List.mem_singleton.mpr rfl), lv, k v H1 s1 rv⟩
  · rw [if_neg hm] at k
    exact False.elim k
/-! methods -/
structure MetT (P : Program) (w : World) (K : PySem.W.Frag) (mg : Str → Option Value) (base : Heap) (k : Nat) (c mn : Str) (n : Nat) (mf : List D → R D) : Prop where
  ex : ∃ (C f : Addr) (fd : FuncData) (ps : List Str), mg c = some (.ref C) ∧ Cls K C ∧ Meth K C mn f ∧ Binds K fd ps [] ∧ FnOk P w K mg base (L2.CX P w) k f fd ps (PF K mg (n + 1) mf)
theorem met_mk {P : Program} {w : World} {K : PySem.W.Frag} {mg : Str → Option Value} {base : Heap} {c mn qual : Str} {st : Stmt} {ps : List Str} {k n : Nat} {mf : List D → R D} (T : MetF K mg c mn qual st) (hb : ∀ {f : Addr} {fd : FuncData}, Fun K mn qual st f fd → Binds K fd ps [])
    (hf : ∀ {f : Addr} {fd : FuncData}, Fun K mn qual st f fd → FnOk P w K mg base (L2.CX P w) k f fd ps (PF K mg (n + 1) mf)) : MetT P w K mg base k c mn n mf := by
  obtain ⟨C, f, fd, h1, h2, h3, F⟩ := T.ex
  exact ⟨C, f, fd, ps, h1, h2, h3, hb F, hf F⟩
def mOk (x : R D) : R D := match x with
  | .ok d => .ok d
  | _ => .bad
def mMeth (c mn : Str) (mf : List D → R D) (me : ME) (ms : MA) : ME := fun r => (me r).bind fun d => match d with
  | .ins c' ns xs => if c' = c ∧ (ns.zip xs).lookup mn = none then (ms r).bind fun ds => mOk (mf (d :: ds)) else .bad
  | _ => .bad
theorem look_none {f : Str} : ∀ {ns : List Str} {xs : List D} {vs : List V}, xs.length = vs.length → (ns.zip xs).lookup f = none → (ns.zip vs).lookup f = none
  | [], xs, vs, _, h => by simp
  | n :: ns, [], vs, hl, h => by
    have : vs = [] := List.eq_nil_of_length_eq_zero hl.symm
    rw [this]
    simp
  | n :: ns, y :: xs, [], hl, h => by simp at hl
  | n :: ns, y :: xs, v :: vs, hl, h => by
    rw [List.zip_cons_cons, List.lookup_cons] at h ⊢
    cases e : f == n with
    | true =>
      rw [e] at h
      cases h
    | false =>
      rw [e] at h
      exact look_none (by simpa using hl) h
theorem SimE.meth {C : Addr} {mn cn : Str} {mf : List D → R D} {te : TE} {ta : TA} (h2 : SimE X W te me) (h4 : SimA X W ta ms) (gC : X.mg cn = some (.ref C)) (hl : ALen ms n) :
    SimE X W (tMeth C mn (PF X.K X.mg (n + 1) mf) [] (fun _ _ _ => False) te ta) (mMeth cn mn mf me ms) := fun nn Z H0 m r σ H q Q p => by
  unfold mMeth at p
  refine h2 nn Z H0 m r σ H q _ (p.bind.imp fun d k v H1 s1 rv => ?_)
  cases d <;> try exact False.elim k
  rename_i c ns xs
  have rv0 := rv
  simp only [Rep] at rv
  obtain ⟨a1, C', dx, vs, rfl, gC', ea, hlx, rl⟩ := rv
  simp only at k
  by_cases hm : c = cn ∧ (ns.zip xs).lookup mn = none
  · rw [if_pos hm] at k
    obtain ⟨rfl, hno⟩ := hm
    rw [gC] at gC'
    cases gC'
    refine ⟨a1, dx, _, rfl, hid_sub _ _ ea, look_none rl.length.symm hno, ?_⟩
    have q1 := q.grow s1
    have k' := (k.grow s1).bind
    cases em : ms r with
    | exc cc ns2 xs2 =>
      refine h4 nn Z H0 m r σ H1 q1 _ ?_
      rw [em] at k' ⊢
      exact k'
    | bad =>
      rw [em] at k'
      exact False.elim k'
    | ok ds =>
      refine h4 nn Z H0 m r σ H1 q1 _ ?_
      rw [em] at k' ⊢
      intro us H2 s2 rx
      have q2 := q1.grow s2
      refine ⟨by rw [List.length_cons, List.append_nil, rx.length, hl r ds em], .ins c ns xs :: ds, fun b => Z b ∨ ∃ i, m i = some b, q2.zed', ?_, ?_⟩
      · rw [hid_join, List.append_nil]
        exact RepL.cons (rv0.mono (hid_mono s2)) rx
      · have k2 := PostG.grow k' s2
        simp only [PostG] at k2
        cases ef : mf (.ins c ns xs :: ds) with
        | exc cc ns2 xs2 =>
          rw [ef] at k2
          exact False.elim k2
        | bad =>
          rw [ef] at k2
          exact False.elim k2
        | ok d2 =>
          rw [ef] at k2
          intro v2 H3 s3 r3
          rw [hid_join] at r3
          exact k2 v2 H3 (s1.trans (s2.trans s3)) r3
  · rw [if_neg hm] at k
    exact False.elim k
theorem ee_meth0 {pl : Sem Bool} {mn cn : Str} {mf : List D → R D} {apos : Pos} (tk : Takes X W) (T : MetT X.prog X.w X.K X.mg X.base k cn mn 0 mf) (hr : Room kk X.A) (hk : k ≤ kk) (ha : EE X W a me)
    (ht : eval (.Call (.Attribute a mn apos) [] [] pos) X.env = (do
      let ov ← eval a X.env
      standAt apos.atName
      let (f, first) ← holding [ov] (getMethod ov mn pl)
      callWith pos f first (backTo pos (starEach [] X.env)) (backToKw pos (keywordEach [] X.env))) := by rfl) : EE X W (.Call (.Attribute a mn apos) [] [] pos) (mMeth cn mn mf me mNil) := by
  obtain ⟨C, f, fd, ps, gC, cl, hm, hb, F⟩ := T.ex
  obtain ⟨t, h1, h2⟩ := ha.ex
  exact ⟨_, pe_meth0 h1 cl hm F (hr.mono hk) hb .nil (passes_call (E := fun _ _ _ => False) tk (fun _ _ _ _ z => z.elim)) ht, SimE.meth h2 (fun n Z H0 m r σ H q Q p => p [] H (Same.refl H) RepL.nil) gC (fun r ds e => by cases e; rfl)⟩
theorem ee_meth {pl : Sem Bool} {mn cn : Str} {mf : List D → R D} {apos : Pos} (tk : Takes X W) (T : MetT X.prog X.w X.K X.mg X.base k cn mn n mf) (hr : Room kk X.A) (hk : k ≤ kk) (ha : EE X W a me) (hs : EA X W (e :: es) ms) (hl : ALen ms n)
    (hst : starEach (e :: es) X.env = (false, eval e X.env) :: starEach es X.env := by rfl) (hpl : (backTo pos (starEach es X.env)).any (·.1) = false := by rfl)
    (ht : eval (.Call (.Attribute a mn apos) (e :: es) [] pos) X.env = (do
      let ov ← eval a X.env
      standAt apos.atName
      let (f, first) ← holding [ov] (getMethod ov mn pl)
      callWith pos f first (backTo pos (starEach (e :: es) X.env)) (backToKw pos (keywordEach [] X.env))) := by rfl) : EE X W (.Call (.Attribute a mn apos) (e :: es) [] pos) (mMeth cn mn mf me ms) := by
  obtain ⟨C, f, fd, ps, gC, cl, hm, hb, F⟩ := T.ex
  obtain ⟨t, h1, h2⟩ := ha.ex
  obtain ⟨u, h3, h4⟩ := hs.ex
  exact ⟨_, pe_meth h1 cl hm F (hr.mono hk) hb .nil (passes_call (E := fun _ _ _ => False) tk (fun _ _ _ _ z => z.elim)) h3 hst hpl ht, SimE.meth h2 h4 gC hl⟩
end
end QB

namespace QB
open PySem PySem.Spec PyProof.Rows L2
/-! ### dicts with numbers and texts as keys -/
def keyD : D → Option Key
  | .int i => some (.inl i)
  | .str s => some (.inr s)
  | _ => none
theorem keyD_rep {K : PySem.W.Frag} {mg : Str → Option Value} {G : Hp} {d : D} {v : V} {k : Key} (h : Rep K mg G d v) (e : keyD d = some k) : v = kV k := by
  cases d <;> simp only [keyD, Option.some.injEq, reduceCtorEq] at e <;> subst e <;> (simp only [Rep] at h; exact h)
def dlook : List Key → List D → Key → Option D
  | k :: ks, x :: xs, q => if k = q then some x else dlook ks xs q
  | _, _, _ => none
theorem dlook_some {K : PySem.W.Frag} {mg : Str → Option Value} {G : Hp} {q : Key} : ∀ {ks : List Key} {xs : List D} {vs : List V} {x : D}, RepL K mg G xs vs → dlook ks xs q = some x → ∃ v, valV (ks.zip vs) q = some v ∧ Rep K mg G x v
  | [], xs, vs, x, _, h => by simp [dlook] at h
  | k :: ks, [], vs, x, _, h => by simp [dlook] at h
  | k :: ks, y :: xs, vs, x, rl, h => by
    simp only [RepL] at rl
    obtain ⟨v, us, rfl, rv, t⟩ := rl
    simp only [dlook] at h
    by_cases e : k = q
    · rw [if_pos e] at h
      cases h
      exact ⟨v, by rw [List.zip_cons_cons]; exact valV_pos e, rv⟩
    · rw [if_neg e] at h
      obtain ⟨w, h1, h2⟩ := dlook_some t h
      refine ⟨w, ?_, h2⟩
      rw [List.zip_cons_cons]
      unfold valV at h1 ⊢
      rw [List.find?_cons]
      simp only [decide_eq_false e]
      exact h1
theorem val_zip {q : Key} : ∀ {ks : List Key} {vs : List V}, ks.length = vs.length → (valV (ks.zip vs) q).isSome = ks.any fun k => decide (k = q)
  | [], vs, _ => by simp [valV]
  | k :: ks, [], h => by simp at h
  | k :: ks, v :: vs, h => by
    have ih := val_zip (q := q) (ks := ks) (vs := vs) (by simpa using h)
    rw [List.zip_cons_cons, List.any_cons]
    unfold valV at ih ⊢
    rw [List.find?_cons]
    by_cases e : k = q
    · simp [e]
    · simp only [decide_eq_false e, Bool.false_or]
      exact ih
section
variable {X : Cx} {W : WX} {a b c e : Expr} {es : List Expr} {ma mb mc me : ME} {ms : MA} {pos p1 p2 p3 p4 : Pos} {k kk n : Nat} {x z f : Str}
def dDin (neg : Bool) (x d : D) : R D := match keyD x, d with
  | some q, .dct ks _ => .ok (.bl ((ks.any fun k => decide (k = q)) != neg))
  | _, _ => .bad
theorem SimE.din {te td : TE} (h2 : SimE X W te ma) (h4 : SimE X W td mb) : SimE X W (tDIn te td) (mBin (dDin false) ma mb) ∧ SimE X W (tDNotIn te td) (mBin (dDin true) ma mb) := by
  constructor
  all_goals
    intro n Z H0 m r σ H q Q p
    unfold mBin at p
    refine h2 n Z H0 m r σ H q _ (p.bind.imp fun d k v H1 s1 rv => ?_)
    refine h4 n Z H0 m r σ H1 (q.grow s1) _ ((k.grow s1).bind.imp fun d2 k2 w H2 s2 rw2 => ?_)
    unfold dDin at k2
    cases ek : keyD d with
    | none =>
      rw [ek] at k2
      exact False.elim k2
    | some q =>
      rw [ek] at k2
      cases d2 <;> try exact False.elim k2
      rename_i ks xs
      simp only [Rep] at rw2
      obtain ⟨a1, vs, rfl, ea, hl, rl⟩ := rw2
      have ev := keyD_rep (rv.mono (hid_mono s2)) ek
      subst ev
      refine ⟨a1, _, rfl, DGet.k (hid_sub _ _ ea), ?_⟩
      rw [val_zip (by rw [hl, rl.length])]
      refine k2 _ H2 (s1.trans s2) ?_
      simp [Rep]
theorem ee_din (hu : Room kk X.A) (ha : EE X W a ma) (hb : EE X W b mb) (hm : behindInMarks .In b = false := by first | exact nobehind _ (by decide) (by decide) | rfl) : EE X W (.Compare a [.In] [b] pos) (mBin (dDin false) ma mb) := by
  obtain ⟨ta, h1, h2⟩ := ha.ex
  obtain ⟨tb, h3, h4⟩ := hb.ex
  exact ⟨_, pe_cmp (pc_din (by have := hu.units; omega) h1 h3) hm, (h2.din h4).1⟩
theorem ee_dnotin (hu : Room kk X.A) (ha : EE X W a ma) (hb : EE X W b mb) (hm : behindInMarks .NotIn b = false := by first | exact nobehind _ (by decide) (by decide) | rfl) : EE X W (.Compare a [.NotIn] [b] pos) (mBin (dDin true) ma mb) := by
  obtain ⟨ta, h1, h2⟩ := ha.ex
  obtain ⟨tb, h3, h4⟩ := hb.ex
  exact ⟨_, pe_cmp (pc_dnotin (by have := hu.units; omega) h1 h3) hm, (h2.din h4).2⟩
theorem SimT.ofB {te : TE} (h : SimE X W te me) : SimT X W (tB te) (mTB me) := fun n Z H0 m r σ H q Q p => h n Z H0 m r σ H q _ (p.bind.imp fun d k x H1 s1 rx => by
  cases d <;> try exact False.elim k
  simp only [Rep] at rx
  subst rx
  exact ⟨_, rfl, k H1 s1⟩)
theorem et_din (hu : Room kk X.A) (ha : EE X W a ma) (hb : EE X W b mb) (hm : behindInMarks .In b = false := by first | exact nobehind _ (by decide) (by decide) | rfl) : ET X W (.Compare a [.In] [b] pos) (mTB (mBin (dDin false) ma mb)) := by
  obtain ⟨ta, h1, h2⟩ := ha.ex
  obtain ⟨tb, h3, h4⟩ := hb.ex
  exact ⟨_, pt_cmp (pc_din (by have := hu.units; omega) h1 h3) hm, SimT.ofB (h2.din h4).1⟩
theorem et_dnotin (hu : Room kk X.A) (ha : EE X W a ma) (hb : EE X W b mb) (hm : behindInMarks .NotIn b = false := by first | exact nobehind _ (by decide) (by decide) | rfl) : ET X W (.Compare a [.NotIn] [b] pos) (mTB (mBin (dDin true) ma mb)) := by
  obtain ⟨ta, h1, h2⟩ := ha.ex
  obtain ⟨tb, h3, h4⟩ := hb.ex
  exact ⟨_, pt_cmp (pc_dnotin (by have := hu.units; omega) h1 h3) hm, SimT.ofB (h2.din h4).2⟩
/-! d[x] -/
def dDget (d x : D) : R D := match keyD x, d with
  | some q, .dct ks xs => (match dlook ks xs q with
    | some y => .ok y
    | none => .bad)
  | _, _ => .bad
theorem ee_dget (hu : Room kk X.A) (ha : EE X W a ma) (hb : EE X W b mb) (hs : NoSl b := by exact fun _ _ => rfl) : EE X W (.Subscript a b pos) (mBin dDget ma mb) := by
  obtain ⟨ta, h1, h2⟩ := ha.ex
  obtain ⟨tb, h3, h4⟩ := hb.ex
  refine ⟨_, pe_dget (by have := hu.units; omega) h1 h3 hs, fun n Z H0 m r σ H q Q p => ?_⟩
  unfold mBin at p
  refine h2 n Z H0 m r σ H q _ (p.bind.imp fun d k v H1 s1 rv => ?_)
  refine h4 n Z H0 m r σ H1 (q.grow s1) _ ((k.grow s1).bind.imp fun d2 k2 w H2 s2 rw2 => ?_)
  unfold dDget at k2
  cases ek : keyD d2 with
  | none =>
    rw [ek] at k2
    exact False.elim k2
  | some q =>
    rw [ek] at k2
    cases d <;> try exact False.elim k2
    rename_i ks xs
    have rv2 := rv.mono (hid_mono s2)
    simp only [Rep] at rv2
    obtain ⟨a1, vs, rfl, ea, hl, rl⟩ := rv2
    have ev := keyD_rep rw2 ek
    subst ev
    simp only at k2
    cases el : dlook ks xs q with
    | none =>
      rw [el] at k2
      exact False.elim k2
    | some y =>
      rw [el] at k2
      obtain ⟨u, g1, g2⟩ := dlook_some rl el
      exact ⟨a1, u, rfl, by rw [← g1]; exact DGet.k (hid_sub _ _ ea), k2 u H2 (s1.trans s2) g2⟩
/-! {k: v, ..} with written keys -/
structure EPs (X : Cx) (W : WX) (pos : Pos) (keys : List (Option Expr)) (values : List Expr) (ks : List Key) (ms : MA) : Prop where
  ex : ∃ trs, PPs X pos keys values trs ∧ ∀ (n : Nat) (Z : Addr → Prop) (H0 : Hp) (m : Nat → Option Addr) (r : Sc) (σ : L2.St) (H : Hp), Rel X.K X.mg n Z H0 m r σ H → ∀ Q : List (V × V) → Hp → Prop,
    PostG X.K X.mg Z m W σ H (ms r) (fun ds => ∀ (vs : List V) (H' : Hp), Same H H' → RepL X.K X.mg (hid Z m H') ds vs → vs.length = ks.length → Q ((ks.zip vs).map fun kv => (kV kv.1, kv.2)) H') → tPairs trs σ H Q
theorem ep_nil : EPs X W pos [] [] [] mNil := ⟨_, pps_nil, fun n Z H0 m r σ H q Q p => p [] H (Same.refl H) RepL.nil rfl⟩
theorem ep_cons {key : Expr} {kc : Key} {keys : List (Option Expr)} {values : List Expr} {ks : List Key} (hk : PE X key (tC (kV kc))) (he : EE X W e me) (g : EPs X W pos keys values ks ms) : EPs X W pos (some key :: keys) (e :: values) (kc :: ks) (mCons me ms) := by
  obtain ⟨te, h1, h2⟩ := he.ex
  obtain ⟨trs, h3, h4⟩ := g.ex
  refine ⟨_, pps_cons hk h1 h3, fun n Z H0 m r σ H q Q p => ?_⟩
  unfold mCons at p
  refine h2 n Z H0 m r σ H q _ (p.bind.imp fun d k v H1 s1 rv => ?_)
  refine h4 n Z H0 m r σ H1 (q.grow s1) _ ((k.grow s1).bind.imp fun ds k2 vs H2 s2 rl hl => ?_)
  exact k2 (v :: vs) H2 (s1.trans s2) (RepL.cons (rv.mono (hid_mono s2)) rl) (by rw [List.length_cons, List.length_cons, hl])
theorem putK_new {kvs : List (Key × V)} {q : Key} {v : V} (h : q ∉ kvs.map (·.1)) : putK kvs q v = kvs ++ [(q, v)] := by
  unfold putK
  rw [if_neg]
  intro z
  obtain ⟨p, hp, e⟩ := List.any_eq_true.mp z
  exact h (List.mem_map.mpr ⟨p, hp, of_decide_eq_true e⟩)
theorem mergeK_new : ∀ {more kvs : List (Key × V)}, ((kvs ++ more).map (·.1)).Nodup → mergeK kvs more = kvs ++ more
  | [], kvs, _ => by
    show kvs = kvs ++ []
    rw [List.append_nil]
  | p :: more, kvs, h => by
    show mergeK (putK kvs p.1 p.2) more = _
    rw [putK_new, mergeK_new]
    · rw [List.append_assoc]
      rfl
    · rw [List.append_assoc]
      exact h
    · intro z
      rw [List.map_append, List.map_cons] at h
      exact (List.nodup_append.mp h).2.2 _ z _ List.mem_cons_self rfl
def mDisp (ks : List Key) (ms : MA) : MF := fun r => (ms r).bind fun ds => if ds.length = ks.length then .ok (.d ks ds) else .bad
theorem ef_disp {keys : List (Option Expr)} {values : List Expr} {ks : List Key} (h : EPs X W pos keys values ks ms) (hnd : ks.Nodup) (hk15 : ks.length ≤ 15) (hall : keys.all (·.isSome) = true := by rfl) (hl : keys.length = values.length := by rfl) (h0 : keys ≠ [] := by exact fun e => nomatch e) (h15 : keys.length ≤ 15 := by decide) : EF X W (.Dict keys values pos) (mDisp ks ms) := by
  obtain ⟨trs, h1, h2⟩ := h.ex
  refine ⟨_, pe_disp h1 hall hl h0 h15, fun n Z H0 m r σ H q Q p => ?_⟩
  intro pp np
  let Z' : Addr → Prop := fun b => Z b ∨ b = pp
  have nw := q.new np
  have hsame : Same (hid Z m H) (hid Z' m (upd H pp (.dK []))) := fun b o hb => by
    obtain ⟨g1, g2, g3⟩ := of_hid hb
    have nb : b ≠ pp := fun z => by
      rw [z, np] at g1
      cases g1
    exact hid_of (by rw [upd_ne nb]; exact g1) (fun z => z.elim g2 nb) g3
  have q1 : Rel X.K X.mg n Z' H0 m r σ (upd H pp (.dK [])) := by
    refine ⟨q.lenr, q.lens, fun i d hi => ?_, fun i c hi => ?_, q.dom, q.inj, fun i a hi => ?_, fun b hb e => ?_, q.same.trans (same_upd np)⟩
    · obtain ⟨v, g1, g2⟩ := q.val i d hi
      exact ⟨v, g1, g2.mono hsame⟩
    · obtain ⟨a, o, g1, g2, g3, g4⟩ := q.own i c hi
      exact ⟨a, o, g1, g2, same_upd np _ _ g3, g4.mono hsame⟩
    · exact ⟨(q.frs i a hi).1, fun z => z.elim (q.frs i a hi).2 fun e => nw.2 i (by rw [hi, e])⟩
    · rcases hb with hb | hb
      · have nb : b ≠ pp := fun z => nw.1 (by rw [← z]; exact hb)
        rw [upd_ne nb] at e
        exact q.zed b hb e
      · rw [hb, upd_same] at e
        cases e
  unfold mDisp at p
  have p' := p.bind
  refine h2 n Z' H0 m r σ _ q1 _ ?_
  cases em : ms r with
  | bad =>
    rw [em] at p'
    exact False.elim p'
  | exc cc ns xs =>
    rw [em] at p'
    intro C d H' s' ea
    refine p' C d H' ((same_upd np).trans s') (ea.mono ?_)
    exact fun b o hb => by
      obtain ⟨g1, g2, g3⟩ := of_hid hb
      exact hid_of g1 (fun z => g2 (.inl z)) g3
  | ok ds =>
    rw [em] at p'
    intro vs H2 s2 rl hl2
    simp only [PostG] at p'
    have hd : ds.length = ks.length := by rw [← rl.length, hl2]
    rw [if_pos hd] at p'
    refine ⟨s2 _ _ upd_same, ks.zip vs, rfl, by rw [List.length_zip]; omega, ?_⟩
    have hmk : ((ks.zip vs).map (·.1)) = ks := by
      rw [List.map_fst_zip]
      omega
    rw [mergeK_new (by rw [List.nil_append, hmk]; exact hnd), List.nil_append]
    have key := p' pp (.dK (ks.zip vs)) (fun b => if b = pp then none else H2 b) (fun b o hb => by
      have nb : b ≠ pp := fun z => by
        rw [z, np] at hb
        cases hb
      show (if b = pp then none else H2 b) = some o
      rw [if_neg nb]
      exact s2 _ _ (by rw [upd_ne nb]; exact hb)) (by simp) ⟨vs, rfl, hd.symm, rl.mono fun b o hb => by
      obtain ⟨g1, g2, g3⟩ := of_hid hb
      refine hid_of (?_ : (if b = pp then none else H2 b) = some o) (fun z => g2 (.inl z)) g3
      rw [if_neg fun z => g2 (.inr z)]
      exact g1⟩
    have eu : upd (fun b => if b = pp then none else H2 b) pp (.dK (ks.zip vs)) = upd H2 pp (.dK (ks.zip vs)) := by
      funext b
      unfold upd
      by_cases eb : b = pp <;> simp [eb]
    rw [eu] at key
    exact key
/-! a module's dict of tuples of texts -/
def DctC (K : PySem.W.Frag) (w : World) (mg : Str → Option Value) (x : Str) (tab : List (Str × List D)) : Prop := ∃ a : Addr, mg x = some (.ref a) ∧ ∀ z ds, tab.lookup z = some ds → ∃ v, KDct K w a z v ∧ ∀ G, Rep K mg G (.tup ds) v
def mKd (tab : List (Str × List D)) (me : ME) : ME := fun r => (me r).bind fun d => match d with
  | .str z => (match tab.lookup z with
    | some ds => .ok (.tup ds)
    | none => .bad)
  | _ => .bad
theorem ee_kd {tab : List (Str × List D)} (T : DctC X.K X.w X.mg x tab) (hb : EE X W b mb) (hg : Gl X x := by rfl) (hdb : (x == ("__debug__" : Str)) = false := by decide) (hs : PlainIx b := by exact fun _ _ => rfl) : EE X W (.Subscript (.Name x p1) b pos) (mKd tab mb) := by
  obtain ⟨a0, ga, T⟩ := T
  obtain ⟨tb, h3, h4⟩ := hb.ex
  refine ⟨_, pe_ix ix_kdict (pe_glob (v := .ref a0) hg ga rfl hdb) h3 hs, fun n Z H0 m r σ H q Q p => ?_⟩
  unfold mKd at p
  refine h4 n Z H0 m r σ H q _ (p.bind.imp fun d k v H1 s1 rv => ?_)
  cases d <;> try exact False.elim k
  rename_i z
  simp only [Rep] at rv
  subst rv
  simp only at k
  cases el : tab.lookup z with
  | none =>
    rw [el] at k
    exact False.elim k
  | some ds =>
    rw [el] at k
    obtain ⟨v, g1, g2⟩ := T z ds el
    exact ⟨a0, z, v, rfl, rfl, g1, k v H1 s1 (g2 _)⟩
theorem dct_nil {K : PySem.W.Frag} {w : World} {mg : Str → Option Value} {a : Addr} : ∀ z ds, ([] : List (Str × List D)).lookup z = some ds → ∃ v, KDct K w a z v ∧ ∀ G, Rep K mg G (.tup ds) v := fun z ds h => by simp at h
theorem dct_cons {K : PySem.W.Frag} {w : World} {mg : Str → Option Value} {a : Addr} {es : Array DictEntry} {n : Nat} {y : Str} {ds : List D} {vs : List V} {tab : List (Str × List D)} {t : Addr} {o : Obj} {its : Array Value} {m : Nat} (h1 : K.lookup a = some ⟨.type "dict", none, .dict es n, #[]⟩) (h2 : PySem.W.KeysLit w.params es.toList)
    (h3 : PySem.W.nsIn K a y = some (some (.ref t))) (h4 : K.lookup t = some o) (h5 : o.cls = .type "tuple") (h6 : o.data = .seq its m) (h7 : its.size ≤ sizeLine) (h8 : Vals vs its.toList) (hf : flatsD ds = some vs) (g : ∀ z ds, tab.lookup z = some ds → ∃ v, KDct K w a z v ∧ ∀ G, Rep K mg G (.tup ds) v) :
    ∀ z ds', ((y, ds) :: tab).lookup z = some ds' → ∃ v, KDct K w a z v ∧ ∀ G, Rep K mg G (.tup ds') v := fun z ds' h => by
  rw [List.lookup_cons] at h
  cases e : z == y with
  | true =>
    rw [e] at h
    cases h
    have e' : z = y := by simpa using e
    subst e'
    refine ⟨.ref t, ⟨es, n, .ref t, h1, h2, h3, rfl⟩, fun G => ?_⟩
    simp only [Rep]
    exact ⟨t, vs, rfl, .inr ⟨o, its, m, h4, h5, h6, h7, h8⟩, flats_mk hf⟩
  | false =>
    rw [e] at h
    exact g z ds' h
end
end QB

namespace QB
open PySem PySem.Spec PyProof.Rows L2
/-! ### a display of 17 pairs: each pair is stored as soon as it is made -/
section
variable {prog : Program} {w : World} {A : Around} {E : Value → Shared → Prop} {s : Shared}
def oneByOne (d : Addr) (p : Sem Value × Sem Value) : Sem PUnit := do
  let kv ← p.1
  let vv ← holding [kv] p.2
  holding [kv, vv] (dictSet d kv vv)
theorem gather_upto (f : (Option (Sem Value) × Sem Value) → (Option Addr × List (Sem Value × Sem Value)) → Sem (ForInStep (Option Addr × List (Sem Value × Sem Value)))) (more : List (Option (Sem Value) × Sem Value))
    (hf : ∀ (p : Sem Value × Sem Value) (run : List (Sem Value × Sem Value)), run.length + 1 < 17 → f (some p.1, p.2) (none, run) = pure (.yield (none, run ++ [p]))) :
    ∀ (items run : List (Sem Value × Sem Value)), run.length + items.length < 17 → forIn ((items.map fun p => (some p.1, p.2)) ++ more) ((none : Option Addr), run) f = forIn more (none, run ++ items) f
  | [], run, _ => by simp
  | p :: rest, run, h => by
    rw [List.map_cons, List.cons_append, List.forIn_cons, hf p run (by simp at h; omega), pure_bind]
    have := gather_upto f more hf rest (run ++ [p]) (by simp at h ⊢; omega)
    simpa using this
theorem display17 (init : List (Sem Value × Sem Value)) (last : Sem Value × Sem Value) (h16 : init.length = 16) :
    dictDisplay ((init ++ [last]).map fun p => (some p.1, p.2)) = (do let d ← subDict (init ++ [last]); pure (.ref d)) := by
  unfold dictDisplay
  dsimp only
  rw [List.map_append, gather_upto _ _ (fun p run h => by
    have hne : ((run ++ [(p.1, p.2)]).length == 17) = false := by simp; omega
    simp only [hne, Bool.false_eq_true, if_false]) init [] (by simp; omega)]
  simp [h16]
theorem sub17 {pairs : List (Sem Value × Sem Value)} {Q : Addr → Shared → Prop} (hlen : ¬ pairs.length ≤ 15)
    (h : wpAny (model prog w) A (forIn pairs PUnit.unit fun (x : Sem Value × Sem Value) (_ : PUnit) => (do oneByOne s.heap.objs.size x; pure (ForInStep.yield PUnit.unit) : Sem (ForInStep PUnit))) (fun _ s' => Q s.heap.objs.size s') E
      { s with heap := s.heap.push { cls := .type "dict", data := .dict #[] } }) :
    wpAny (model prog w) A (subDict pairs) Q E s := by
  unfold subDict
  refine wpAny_bind (wpAny_alloc ?_)
  refine wpAny_bind (wpAny_holding ?_)
  rw [if_neg hlen]
  refine wpAny_bind (wpAny_rule ?_)
  unfold oneByOne at h
  simp only [bind_assoc] at h ⊢
  refine wpAny_bind (wpAny_mono h (fun _ s1 q => wpAny_pure (wpAny_pure q)) fun _ _ e => e)
end
/-- the pairs of a long display, from the left -/
def tPairsL (p : Addr) : List (TE × TE) → L2.St → Hp → (Hp → Prop) → Prop
  | [], _, H, Q => Q H
  | (tk, tv) :: r, σ, H, Q => tk σ H fun x H1 => tv σ H1 fun y H2 => ∃ (kvs : List (Key × V)) (k : Key), H2 p = some (.dK kvs) ∧ x = kV k ∧ kvs.length < sizeLine ∧ tPairsL p r σ (upd H2 p (.dK (putK kvs k y))) Q
structure PPL (X : Cx) (pos : Pos) (keys : List (Option Expr)) (values : List Expr) (trs : List (TE × TE)) : Prop where
  run : ∀ (pins : List (Addr × Obj)) (s : Shared) (σ : L2.St) (H : Hp) (p : Addr) (Q : Hp → Prop), L2.Inv X pins σ H s → tPairsL p trs σ H Q →
    wpAny (model X.prog X.w) X.A (forIn (pairTrees keys values X.env pos) PUnit.unit fun (x : Sem Value × Sem Value) (_ : PUnit) => (do oneByOne p x; pure (ForInStep.yield PUnit.unit) : Sem (ForInStep PUnit))) (fun _ s' => ∃ H', L2.Inv X pins σ H' s' ∧ Q H') X.xe s
theorem ppl_nil {X : Cx} {pos : Pos} : PPL X pos [] [] [] := ⟨fun pins s σ H p Q I h => by
  show wpAny _ _ (forIn [] _ _) _ _ _
  rw [List.forIn_nil]
  exact wpAny_pure ⟨H, I, h⟩⟩
theorem ppl_cons {X : Cx} {pos : Pos} {k v : Expr} {ks : List (Option Expr)} {vs : List Expr} {tk tv : TE} {trs : List (TE × TE)} (hk : PE X k tk) (hv : PE X v tv) (hr : PPL X pos ks vs trs) :
    PPL X pos (some k :: ks) (v :: vs) ((tk, tv) :: trs) := ⟨fun pins s σ H p Q I h => by
  show wpAny _ _ (forIn ((eval k X.env, do let x ← eval v X.env; standAt pos; pure x) :: pairTrees ks vs X.env pos) _ _) _ _ _
  rw [List.forIn_cons]
  refine wpAny_bind (wpAny_bind ?_)
  unfold oneByOne
  refine wpAny_bind (thn (hk.run pins s σ H _ I h) fun u s1 ⟨x, H1, I1, rx, q1⟩ => ?_)
  refine wpAny_bind (wpAny_holding (wpAny_bind (thn (hv.run pins s1 σ H1 _ I1 q1) fun w2 s2 ⟨y, H2, I2, ry, kvs, kc, hp, ex, hz, q2⟩ => wpAny_bind (wpAny_standAt (wpAny_pure ?_)))))
  subst ex
  refine wpAny_holding (d_dictSet I2 hp hz rx ry fun s3 I3 => wpAny_pure (hr.run pins s3 σ _ p _ I3 q2))⟩
def tDispL (trs : List (TE × TE)) : TE := fun σ H Q => ∀ p, H p = none → tPairsL p trs σ (upd H p (.dK [])) fun H2 => Q (.ref p) H2
theorem pe_dispL {X : Cx} {pos : Pos} {keys : List (Option Expr)} {values : List Expr} {trs : List (TE × TE)} (h : PPL X pos keys values trs) (hall : keys.all (·.isSome) = true) (hl : keys.length = values.length) (h17 : keys.length = 17) : PE X (.Dict keys values pos) (tDispL trs) := by
  refine ⟨fun pins s σ H Q I q => ?_⟩
  have hn := I.hok.fresh (Nat.le_refl s.heap.objs.size)
  have I1 := I.laid (a := s.heap.objs.size) (o := .dK []) (h' := s.heap.push { cls := .type "dict", data := .dict #[] }) (t' := s.toks) (fun _ _ q => Heap.get?_push_of_some _ q) (Nat.le_refl _) (dk_empty s.heap I.big)
  have hlen := pairTrees_length keys values X.env pos hall hl
  rw [arm_eval_Dict, zip_pairTrees keys values X.env pos hall hl]
  have hne : pairTrees keys values X.env pos ≠ [] := fun e => by
    rw [e] at hlen
    simp at hlen
    omega
  have hsp := List.dropLast_concat_getLast hne
  rw [← hsp, display17 _ _ (by rw [List.length_dropLast, hlen, h17]), hsp]
  refine wpAny_bind (wpAny_standAt (wpAny_bind (sub17 (by rw [hlen, h17]; decide) ?_)))
  refine wpAny_mono (h.run pins _ σ _ _ _ I1 (q _ hn)) (fun _ s2 hh => ?_) fun _ _ e => e
  obtain ⟨H2, I2, q2⟩ := hh
  exact wpAny_pure ⟨.ref s.heap.objs.size, H2, I2, rfl, q2⟩

/-! ### the mirror of a long display -/
def del (p : Addr) (H : Hp) : Hp := fun b => if b = p then none else H b
theorem upd_del {p : Addr} {o : HO} {H : Hp} (h : H p = some o) : upd (del p H) p o = H := by
  funext b
  unfold upd del
  by_cases e : b = p <;> simp [e, h]
section
variable {X : Cx} {W : WX} {a b c e : Expr} {es : List Expr} {ma mb mc me : ME} {ms : MA} {pos p1 p2 p3 p4 : Pos} {k kk n : Nat} {x z f : Str}
structure EPL (X : Cx) (W : WX) (pos : Pos) (keys : List (Option Expr)) (values : List Expr) (ks : List Key) (ms : MA) : Prop where
  ex : ∃ trs, PPL X pos keys values trs ∧ ∀ (n : Nat) (Z : Addr → Prop) (H0 : Hp) (m : Nat → Option Addr) (r : Sc) (σ : L2.St) (H Hk : Hp) (p : Addr) (kvs : List (Key × V)), Z p → H0 p = none → Rel X.K X.mg n Z H0 m r σ Hk → H p = none → Same H Hk → Hk p = some (.dK kvs) →
    (kvs.map (·.1) ++ ks).Nodup → kvs.length + ks.length < sizeLine → ∀ Q : Hp → Prop,
    PostG X.K X.mg Z m W σ H (ms r) (fun ds => ∀ (vs : List V) (H' : Hp), Same (del p Hk) (del p H') → H' p = some (.dK (kvs ++ ks.zip vs)) → RepL X.K X.mg (hid Z m H') ds vs → vs.length = ks.length → Q H') → tPairsL p trs σ Hk Q
theorem el_nil : EPL X W pos [] [] [] mNil := ⟨_, ppl_nil, fun n Z H0 m r σ H Hk p kvs hz n0 q np s hp hd hl Q P => P [] Hk (Same.refl _) (by rw [hp]; simp) RepL.nil rfl⟩
theorem same_of_del {H Hk : Hp} {p : Addr} (s : Same H (del p Hk)) : Same H Hk := fun b o hb => by
  have := s b o hb
  unfold del at this
  split at this
  · cases this
  · exact this
theorem del_same {H Hk : Hp} {p : Addr} (np : H p = none) (s : Same H Hk) : Same H (del p Hk) := fun b o hb => by
  unfold del
  rw [if_neg fun e => by rw [e, np] at hb; cases hb]
  exact s b o hb
theorem del_upd {H : Hp} {p : Addr} {o : HO} : del p (upd H p o) = del p H := by
  funext b
  unfold del upd
  by_cases e : b = p <;> simp [e]
theorem del_grow {H H' : Hp} {p : Addr} (s : Same H H') : Same (del p H) (del p H') := fun b o hb => by
  unfold del at hb ⊢
  split at hb
  · cases hb
  · rename_i ne
    rw [if_neg ne]
    exact s b o hb
theorem hid_del {Z : Addr → Prop} {m : Nat → Option Addr} {H : Hp} {p : Addr} (hz : Z p) : hid Z m (del p H) = hid Z m H := by
  funext b
  unfold hid del
  by_cases e : b = p
  · subst e
    simp [hz]
  · simp [e]
theorem hid_same {Z : Addr → Prop} {m : Nat → Option Addr} {H H' : Hp} {p : Addr} (hz : Z p) (s : Same (del p H) (del p H')) : Same (hid Z m H) (hid Z m H') := by
  rw [← hid_del hz, ← hid_del (H := H') hz]
  exact hid_mono s
theorem el_cons {key : Expr} {kc : Key} {keys : List (Option Expr)} {values : List Expr} {ks : List Key} (hk : PE X key (tC (kV kc))) (he : EE X W e me) (g : EPL X W pos keys values ks ms) : EPL X W pos (some key :: keys) (e :: values) (kc :: ks) (mCons me ms) := by
  obtain ⟨te, h1, h2⟩ := he.ex
  obtain ⟨trs, h3, h4⟩ := g.ex
  refine ⟨_, ppl_cons hk h1 h3, fun n Z H0 m r σ H Hk p kvs hz n0 q np s hp hd hl Q P => ?_⟩
  unfold mCons at P
  refine h2 n Z H0 m r σ Hk q _ ((P.bind.imp fun d K1 v H1 s1 rv => ?_ : PostG _ _ _ _ _ _ H _ _).grow s)
  have K1 := K1.bind
  have hp1 := s1 _ _ hp
  have nk : kc ∉ kvs.map (·.1) := fun z => (List.nodup_append.mp hd).2.2 _ z _ List.mem_cons_self rfl
  refine ⟨kvs, kc, hp1, rfl, by simp at hl; omega, ?_⟩
  rw [putK_new nk]
  have q1 : Rel X.K X.mg n Z H0 m r σ (upd H1 p (.dK (kvs ++ [(kc, v)]))) := ((q.grow s1).updZ hz n0).1
  have sd : Same (del p H1) (del p (upd H1 p (.dK (kvs ++ [(kc, v)])))) := by
    rw [del_upd]
    exact Same.refl _
  have s2 : Same H (upd H1 p (.dK (kvs ++ [(kc, v)]))) := same_of_del ((del_same np (s.trans s1)).trans sd)
  refine h4 n Z H0 m r σ H _ p _ hz n0 q1 np s2 upd_same ?_ ?_ Q ?_
  · rw [List.map_append, List.append_assoc]
    exact hd
  · simp at hl ⊢
    omega
  · cases em : ms r with
    | bad =>
      rw [em] at K1
      exact False.elim K1
    | exc cc ns xs =>
      rw [em] at K1
      exact K1
    | ok ds =>
      rw [em] at K1
      intro vs H2 sd2 hp2 rl hl2
      refine K1 (v :: vs) H2 ((del_grow s1).trans (sd.trans sd2)) ?_ (RepL.cons (rv.mono (hid_same hz (sd.trans sd2))) rl) (by simp [hl2])
      rw [hp2, List.append_assoc]
      rfl
theorem ef_dispL {keys : List (Option Expr)} {values : List Expr} {ks : List Key} (h : EPL X W pos keys values ks ms) (hnd : ks.Nodup) (hk : ks.length ≤ 17 := by decide) (hall : keys.all (·.isSome) = true := by rfl) (hl : keys.length = values.length := by rfl) (h17 : keys.length = 17 := by rfl) : EF X W (.Dict keys values pos) (mDisp ks ms) := by
  obtain ⟨trs, h1, h2⟩ := h.ex
  refine ⟨_, pe_dispL h1 hall hl h17, fun n Z H0 m r σ H q Q p => ?_⟩
  intro pp np
  let Z' : Addr → Prop := fun b => Z b ∨ b = pp
  have nw := q.new np
  have hsame : Same (hid Z m H) (hid Z' m (upd H pp (.dK []))) := fun b o hb => by
    obtain ⟨g1, g2, g3⟩ := of_hid hb
    have nb : b ≠ pp := fun z => by
      rw [z, np] at g1
      cases g1
    exact hid_of (by rw [upd_ne nb]; exact g1) (fun z => z.elim g2 nb) g3
  have q1 : Rel X.K X.mg n Z' H0 m r σ (upd H pp (.dK [])) := by
    refine ⟨q.lenr, q.lens, fun i d hi => ?_, fun i c hi => ?_, q.dom, q.inj, fun i a hi => ?_, fun b hb e => ?_, q.same.trans (same_upd np)⟩
    · obtain ⟨v, g1, g2⟩ := q.val i d hi
      exact ⟨v, g1, g2.mono hsame⟩
    · obtain ⟨a, o, g1, g2, g3, g4⟩ := q.own i c hi
      exact ⟨a, o, g1, g2, same_upd np _ _ g3, g4.mono hsame⟩
    · exact ⟨(q.frs i a hi).1, fun z => z.elim (q.frs i a hi).2 fun e => nw.2 i (by rw [hi, e])⟩
    · rcases hb with hb | hb
      · have nb : b ≠ pp := fun z => nw.1 (by rw [← z]; exact hb)
        rw [upd_ne nb] at e
        exact q.zed b hb e
      · rw [hb, upd_same] at e
        cases e
  unfold mDisp at p
  have p' := p.bind
  refine h2 n Z' H0 m r σ H _ pp [] (.inr rfl) (q.same.free np) q1 np (same_upd np) upd_same (by simpa using hnd) (by rw [sizeLine_eq]; simp; omega) _ ?_
  cases em : ms r with
  | bad =>
    rw [em] at p'
    exact False.elim p'
  | exc cc ns xs =>
    rw [em] at p'
    intro C d H' s' ea
    refine p' C d H' s' (ea.mono ?_)
    exact fun b o hb => by
      obtain ⟨g1, g2, g3⟩ := of_hid hb
      exact hid_of g1 (fun z => g2 (.inl z)) g3
  | ok ds =>
    rw [em] at p'
    intro vs H2 s2 hp2 rl hl2
    simp only [PostG] at p'
    have hd : ds.length = ks.length := by rw [← rl.length, hl2]
    rw [if_pos hd] at p'
    rw [List.nil_append] at hp2
    rw [del_upd] at s2
    have key := p' pp (.dK (ks.zip vs)) (del pp H2) ((del_same np (Same.refl H)).trans s2) (by simp [del]) ⟨vs, rfl, hd.symm, rl.mono fun b o hb => by
      obtain ⟨g1, g2, g3⟩ := of_hid hb
      refine hid_of ?_ (fun z => g2 (.inl z)) g3
      unfold del
      rw [if_neg fun z => g2 (.inr z)]
      exact g1⟩
    rw [upd_del hp2] at key
    exact key
end
/-! ### `in` and d[x] of a module's dict of tuples of texts, any text asked -/
def KeysAre : List DictEntry → List Str → Prop
  | [], ks => ks = []
  | e :: es, k :: ks => (∃ t, e.key = .str k t) ∧ KeysAre es ks
  | _ :: _, [] => False
theorem keys_at {z : Str} : ∀ {es : List DictEntry} {ks : List Str}, KeysAre es ks → (es.find? (·.key.isStr z)).isSome = ks.any (fun k => k == z) ∧ es.any (·.refKey) = false
  | [], ks, h => by
    cases (show ks = [] from h)
    exact ⟨rfl, rfl⟩
  | e :: es, [], h => False.elim h
  | e :: es, k :: ks, h => by
    obtain ⟨⟨t, he⟩, h2⟩ := h
    obtain ⟨g1, g2⟩ := keys_at (z := z) h2
    refine ⟨?_, ?_⟩
    · rw [List.find?_cons, he, List.any_cons]
      have e2 : Value.isStr (Value.str k t) z = (k == z) := rfl
      rw [e2]
      cases e3 : k == z with
      | true => rfl
      | false =>
        rw [Bool.false_or]
        exact g1
    · rw [List.any_cons, g2]
      unfold DictEntry.refKey
      rw [he]
      rfl
def DctK (K : PySem.W.Frag) (w : World) (mg : Str → Option Value) (x : Str) (ks : List Str) : Prop := ∃ (a : Addr) (es : Array DictEntry) (n : Nat), mg x = some (.ref a) ∧ K.lookup a = some ⟨.type "dict", none, .dict es n, #[]⟩ ∧ PySem.W.KeysLit w.params es.toList ∧ KeysAre es.toList ks ∧ (a == sysModules) = false
theorem keys_ns {K : PySem.W.Frag} {a : Addr} {es : Array DictEntry} {n : Nat} {ks : List Str} (hl : K.lookup a = some ⟨.type "dict", none, .dict es n, #[]⟩) (h : KeysAre es.toList ks) (z : Str) : ∃ r, PySem.W.nsIn K a z = some r ∧ r.isSome = ks.any (fun k => k == z) := by
  obtain ⟨g1, g2⟩ := keys_at (z := z) h
  unfold PySem.W.nsIn
  rw [hl]
  dsimp only
  cases e : es.toList.find? (·.key.isStr z) with
  | some d =>
    rw [e] at g1
    exact ⟨_, rfl, g1⟩
  | none =>
    rw [e] at g1
    dsimp only
    rw [if_neg (by rw [g2]; decide)]
    exact ⟨_, rfl, g1⟩
def tKIn (neg : Bool) (K : PySem.W.Frag) (w : World) (ty td : TE) : TE := fun σ H Q => ty σ H fun y H1 => td σ H1 fun x H2 => ∃ a z es n r, x = .ref a ∧ y = .str z ∧ K.lookup a = some ⟨.type "dict", none, .dict es n, #[]⟩ ∧ PySem.W.KeysLit w.params es.toList ∧ (a == sysModules) = false ∧ PySem.W.nsIn K a z = some r ∧ Q (.bl (r.isSome != neg)) H2
theorem pc_kin {X : Cx} {i o : Expr} {ty td : TE} (hi : PE X i ty) (ho : PE X o td) : PC X .In i o (tKIn false X.K X.w ty td) := by
  refine ⟨fun pins s σ H Q I h => ?_⟩
  refine thn (hi.run pins s σ H _ I h) fun iv s1 ⟨y, H1, I1, ry, q1⟩ => thn (ho.run pins s1 σ H1 _ I1 q1) fun u s2 ⟨x, H2, I2, rx, a, z, es, n, r, ex, ey, hl, hk, lo, e, q2⟩ => ?_
  subst ex ey
  obtain rfl : u = Value.ref a := rx
  obtain ⟨t, rfl⟩ := ry
  refine wpAny_in_of (strKind_is X.prog X.w z t) lo (PySem.W.mapOf_K (prog := X.prog) (w := X.w) I2.kIn hl hk) ?_
  rw [PySem.W.find_K hl e]
  exact ⟨_, H2, I2.tok _, by cases r <;> rfl, q2⟩
theorem pc_knotin {X : Cx} {i o : Expr} {ty td : TE} (hi : PE X i ty) (ho : PE X o td) : PC X .NotIn i o (tKIn true X.K X.w ty td) := by
  refine ⟨fun pins s σ H Q I h => ?_⟩
  refine thn (hi.run pins s σ H _ I h) fun iv s1 ⟨y, H1, I1, ry, q1⟩ => thn (ho.run pins s1 σ H1 _ I1 q1) fun u s2 ⟨x, H2, I2, rx, a, z, es, n, r, ex, ey, hl, hk, lo, e, q2⟩ => ?_
  subst ex ey
  obtain rfl : u = Value.ref a := rx
  obtain ⟨t, rfl⟩ := ry
  refine wpAny_notIn_of (strKind_is X.prog X.w z t) lo (PySem.W.mapOf_K (prog := X.prog) (w := X.w) I2.kIn hl hk) ?_
  rw [PySem.W.find_K hl e]
  exact ⟨_, H2, I2.tok _, by cases r <;> rfl, q2⟩
def mKin (neg : Bool) (ks : List Str) (me : ME) : ME := fun r => (me r).bind fun d => match d with
  | .str z => .ok (.bl ((ks.any fun k => k == z) != neg))
  | _ => .bad
section
variable {X : Cx} {W : WX} {a b c e : Expr} {ma mb mc me : ME} {pos p1 : Pos} {x : Str} {ks : List Str} {neg : Bool}
theorem SimE.kin (T : DctK X.K X.w X.mg x ks) {te td : TE} (h2 : SimE X W te ma) (hd : ∀ (a0 : Addr) (_ : X.mg x = some (.ref a0)), SimE X W td (mC (.str x)) → True) (htd : ∀ (a0 : Addr), X.mg x = some (.ref a0) → td = tC (.ref a0)) : SimE X W (tKIn neg X.K X.w te td) (mKin neg ks ma) := by
  obtain ⟨a0, es, n0, ga, hl, hk, hks, lo⟩ := T
  intro n Z H0 m r σ H q Q p
  unfold mKin at p
  refine h2 n Z H0 m r σ H q _ (p.bind.imp fun d k v H1 s1 rv => ?_)
  cases d <;> try exact False.elim k
  rename_i z
  simp only [Rep] at rv
  subst rv
  rw [htd a0 ga]
  obtain ⟨r0, g1, g2⟩ := keys_ns hl hks z
  refine ⟨a0, z, es, n0, r0, rfl, rfl, hl, hk, lo, g1, ?_⟩
  rw [g2]
  exact k _ H1 s1 (by simp [Rep])
theorem ee_kdin (T : DctK X.K X.w X.mg x ks) (ha : EE X W a ma) (hg : Gl X x := by rfl) (hdb : (x == ("__debug__" : Str)) = false := by decide) (hm : behindInMarks .In (.Name x p1) = false := by first | exact nobehind _ (by decide) (by decide) | rfl) : EE X W (.Compare a [.In] [.Name x p1] pos) (mKin false ks ma) := by
  have T2 := T
  obtain ⟨a0, es, n0, ga, _⟩ := T
  obtain ⟨ta, h1, h2⟩ := ha.ex
  exact ⟨_, pe_cmp (pc_kin h1 (pe_glob (v := .ref a0) hg ga rfl hdb)) hm, SimE.kin T2 h2 (fun _ _ _ => trivial) (fun a1 g => by rw [ga] at g; cases g; rfl)⟩
theorem ee_kdnotin (T : DctK X.K X.w X.mg x ks) (ha : EE X W a ma) (hg : Gl X x := by rfl) (hdb : (x == ("__debug__" : Str)) = false := by decide) (hm : behindInMarks .NotIn (.Name x p1) = false := by first | exact nobehind _ (by decide) (by decide) | rfl) : EE X W (.Compare a [.NotIn] [.Name x p1] pos) (mKin true ks ma) := by
  have T2 := T
  obtain ⟨a0, es, n0, ga, _⟩ := T
  obtain ⟨ta, h1, h2⟩ := ha.ex
  exact ⟨_, pe_cmp (pc_knotin h1 (pe_glob (v := .ref a0) hg ga rfl hdb)) hm, SimE.kin T2 h2 (fun _ _ _ => trivial) (fun a1 g => by rw [ga] at g; cases g; rfl)⟩
theorem et_kdin (T : DctK X.K X.w X.mg x ks) (ha : EE X W a ma) (hg : Gl X x := by rfl) (hdb : (x == ("__debug__" : Str)) = false := by decide) (hm : behindInMarks .In (.Name x p1) = false := by first | exact nobehind _ (by decide) (by decide) | rfl) : ET X W (.Compare a [.In] [.Name x p1] pos) (mTB (mKin false ks ma)) := by
  have T2 := T
  obtain ⟨a0, es, n0, ga, _⟩ := T
  obtain ⟨ta, h1, h2⟩ := ha.ex
  exact ⟨_, pt_cmp (pc_kin h1 (pe_glob (v := .ref a0) hg ga rfl hdb)) hm, SimT.ofB (SimE.kin T2 h2 (fun _ _ _ => trivial) (fun a1 g => by rw [ga] at g; cases g; rfl))⟩
theorem et_kdnotin (T : DctK X.K X.w X.mg x ks) (ha : EE X W a ma) (hg : Gl X x := by rfl) (hdb : (x == ("__debug__" : Str)) = false := by decide) (hm : behindInMarks .NotIn (.Name x p1) = false := by first | exact nobehind _ (by decide) (by decide) | rfl) : ET X W (.Compare a [.NotIn] [.Name x p1] pos) (mTB (mKin true ks ma)) := by
  have T2 := T
  obtain ⟨a0, es, n0, ga, _⟩ := T
  obtain ⟨ta, h1, h2⟩ := ha.ex
  exact ⟨_, pt_cmp (pc_knotin h1 (pe_glob (v := .ref a0) hg ga rfl hdb)) hm, SimT.ofB (SimE.kin T2 h2 (fun _ _ _ => trivial) (fun a1 g => by rw [ga] at g; cases g; rfl))⟩
end

/-! ### xs.index(z), texts -/
def lsD : D → Option (List D)
  | .lst xs => some xs
  | .slst xs => some xs
  | _ => none
theorem lsD_rep {K : PySem.W.Frag} {mg : Str → Option Value} {G : Hp} {d : D} {v : V} {xs : List D} (h : Rep K mg G d v) (e : lsD d = some xs) : ∃ a vs, v = .ref a ∧ SqL K G a vs ∧ RepL K mg G xs vs := by
  cases d <;> simp only [lsD, reduceCtorEq, Option.some.injEq] at e
  all_goals
    subst e
    simp only [Rep] at h
    obtain ⟨a, vs, rfl, hq, rl⟩ := h
    first
    | exact ⟨a, vs, rfl, .inl (.inl hq), rl⟩
    | exact ⟨a, vs, rfl, .inl hq, rl⟩
    | exact ⟨a, vs, rfl, hq, rl⟩
theorem all_flat {ys : List Str} : (ys.map V.str).all flatV = true := by
  rw [List.all_map]
  exact List.all_eq_true.mpr fun _ _ => rfl
def mIndex (ma mb : ME) : ME := fun r => (ma r).bind fun d => match lsD d with
  | some xs => (mb r).bind fun d2 => (match d2, strsD xs with
    | .str z, some ys => if z ∈ ys then .ok (.int (ys.idxOf z : Nat)) else .bad
    | _, _ => .bad)
  | none => .bad
theorem ee_index {X : Cx} {W : WX} {o e : Expr} {ma mb : ME} {apos pos : Pos} (ho : EE X W o ma) (hb : EE X W e mb)
    (hbase : attributeBase o "index" X.env (eval o X.env) = eval o X.env := by rfl)
    (hfew : ((backTo pos (starEach [e] X.env)).all (fun x => !x.1) && (backToKw pos (keywordEach [] X.env)).all (fun x => x.1.isSome)
      && decide (([e] : List Expr).length + ([] : List Keyword).length + (if ([] : List Keyword).isEmpty then 0 else 1) < 30)) = true := by rfl)
    (hline : (apos.endLine == pos.line) = true := by rfl) (hs : starEach [e] X.env = [(false, eval e X.env)] := by rfl) :
    EE X W (.Call (.Attribute o "index" apos) [e] [] pos) (mIndex ma mb) := by
  obtain ⟨ta, h1, h2⟩ := ho.ex
  obtain ⟨tb, h3, h4⟩ := hb.ex
  refine ⟨_, pe_bm PySem.F.plainAttrs_list PySem.F.slot_list_index PySem.F.type_list_index mt_index h1 (pa_cons h3 pa_nil hs) hbase hfew hline hs, fun n Z H0 m r σ H q Q p => ?_⟩
  unfold mIndex at p
  refine h2 n Z H0 m r σ H q _ (p.bind.imp fun d k v H1 s1 rv => ?_)
  cases e1 : lsD d with
  | none =>
    rw [e1] at k
    exact False.elim k
  | some xs =>
    rw [e1] at k
    obtain ⟨a, vs, rfl, hq, rl⟩ := lsD_rep rv e1
    refine ⟨.inl ⟨rfl, vs, Same.seq hid_sub hq⟩, h4 n Z H0 m r σ H1 (q.grow s1) _ ((k.grow s1).bind.imp fun d2 k2 w H2 s2 rw2 => ?_)⟩
    cases d2 <;> try exact False.elim k2
    rename_i z
    cases e2 : strsD xs with
    | none =>
      simp only [e2] at k2
      exact False.elim k2
    | some ys =>
      simp only [e2] at k2
      split at k2
      · rename_i hz
        simp only [Rep] at rw2
        subst rw2
        have ev := strs_rep e2 rl
        subst ev
        have hl : ys.idxOf z < ys.length := List.idxOf_lt_length_iff.mpr hz
        refine ⟨a, ys.map V.str, .str z, ys.idxOf z, .str z, rfl, rfl, Same.seq s2 (Same.seq hid_sub hq), rfl, all_flat, ?_, ?_, fun m0 z' hm hz' => ?_, k2 _ H2 (s1.trans s2) (by simp [Rep])⟩
        · rw [List.getElem?_map, List.getElem?_eq_getElem hl, List.getElem_idxOf hl]
          rfl
        · show (z == z) = true
          exact beq_self_eq_true z
        · rw [List.getElem?_map] at hz'
          have hml : m0 < ys.length := by omega
          rw [List.getElem?_eq_getElem hml] at hz'
          cases hz'
          show (ys[m0] == z) = false
          have := List.not_of_lt_findIdx (xs := ys) (p := (· == z)) (i := m0) hm
          simpa using this
      · exact False.elim k2
end QB

namespace QB
open PySem PySem.Spec PyProof.Rows L2
/-! ### a tuple some times: also once, and no time -/
theorem tmul_one (l : Addr) (its : Array Value) (n : Nat) (dd : Option Addr) (sl : Array (Option Value)) (u : Tok) :
    Meets (Builtin.«tuple.__mul__» ⟨[.ref l, .int 1 u], []⟩)
      (fun _ R s => s.heap.get? l = some ⟨.type "tuple", dd, .seq its n, sl⟩ ∧ R (.ok (.ret (.ref l))) s) :=
  .of_wp fun prog w A R s h => by
    obtain ⟨hp, g, d, tk, os⟩ := s
    obtain ⟨hl, h⟩ := h
    have f1 := AutoSeq1.idx_int
    wp_walk using wpAny_loadPart' hl
    repeat (first
      | (refine wpAny_ite_false (by decide) ?_; wp_walk using wpAny_loadPart' hl)
      | (refine wpAny_ite_true (by simp) ?_; wp_walk using wpAny_loadPart' hl))
    exact ⟨_, rfl, h⟩
theorem tmul_none (l : Addr) (its : Array Value) (n : Nat) (dd : Option Addr) (sl : Array (Option Value)) (x : Int) (u : Tok)
    (c0 : (decide (x < -(2 ^ 63)) || decide (x ≥ 2 ^ 63)) = false) (c1 : (its.isEmpty || x == 1) = false) (c2 : (decide (x ≤ 0) || its.isEmpty) = true) :
    Meets (Builtin.«tuple.__mul__» ⟨[.ref l, .int x u], []⟩)
      (fun _ R s => s.heap.get? l = some ⟨.type "tuple", dd, .seq its n, sl⟩ ∧
        R (.ok (.ret (.ref s.heap.objs.size))) { s with heap := s.heap.push { cls := .type "tuple", data := .seq #[] } }) :=
  .of_wp fun prog w A R s h => by
    obtain ⟨hp, g, d, tk, os⟩ := s
    obtain ⟨hl, h⟩ := h
    have f1 := AutoSeq1.idx_int
    wp_walk using wpAny_loadPart' hl
    repeat (first
      | (refine wpAny_ite_false (by rw [c0]; decide) ?_; wp_walk using wpAny_loadPart' hl)
      | (refine wpAny_ite_false (by rw [c1]; decide) ?_; wp_walk using wpAny_loadPart' hl)
      | (refine wpAny_ite_true (by rw [c2]) ?_; wp_walk using wpAny_loadPart' hl))
    exact ⟨_, rfl, h⟩
/-- a tuple that is not empty, at most 1000 times -/
def rTimesT (K : PySem.W.Frag) : R2 := fun x y H Q => ∃ l k xs, x = .ref l ∧ y = .int k ∧ SqT K H l xs ∧ xs ≠ [] ∧ -1000 ≤ k ∧ k ≤ 1000 ∧ xs.length ≤ 1000 ∧
  ((k = 1 ∧ Q (.ref l) H) ∨ (k ≠ 1 ∧ ∀ p, H p = none → Q (.ref p) (upd H p (.tup (List.replicate k.toNat xs).flatten))))
theorem op_timesT {X : Cx} : OpR X (binaryOp .Mult) (rTimesT X.K) := by
  intro pins s σ H x y v u Q I rx ry h
  obtain ⟨l, k, xs, ex, ey, hT, hne, h1, h2, hz, q⟩ := h
  by_cases k2 : 2 ≤ k
  · exact op_repT pins s σ H x y v u Q I rx ry ⟨l, k, xs, ex, ey, hT, hne, k2, h2, hz, (q.resolve_left fun z => by omega).2⟩
  subst ex ey
  cases rx
  obtain ⟨t, rfl⟩ := ry
  obtain ⟨its, r, ⟨⟨cls, dd, data, sl⟩, ho, hc, n, hd⟩, hs⟩ := I.tuple hT
  simp only at hc hd
  subst hc hd
  have hn : its ≠ [] := fun e => hne (by
    have := r.length
    rw [e] at this
    exact List.eq_nil_of_length_eq_zero this)
  have hi : its.toArray.isEmpty = false := by
    cases its with
    | nil => exact absurd rfl hn
    | cons a b => rfl
  rcases q with ⟨k1, q⟩ | ⟨k1, q⟩
  · subst k1
    exact wpAny_binaryOp_repeat_ref (T := "tuple") (U := "int") (by decide) ⟨_, ho, rfl⟩ (fun s' => typeIs_int s' 1 t) noFill_tuple_mul F.fills_int_mul F.slot_int_rmul repeat_tuple F.slot_int_index.lookup
      (call_meets F.slot_int_rmul (typeIs_int s 1 t) F.entry_int_rmul (F.args_int_rmul_2 _ _) (int_rmul_tuple 1 t l its.toArray n dd sl)
        ⟨ho, rfl, ⟨_, ho, rfl⟩, call_meets F.slot_tuple_mul ⟨_, ho, rfl⟩ F.entry_tuple_mul (F.args_tuple_mul_2 _ _) (tmul_one l its.toArray n dd sl t) ⟨ho, .ref l, H, I, rfl, q⟩⟩)
  · have c0 : (decide (k < -(2 ^ 63)) || decide (k ≥ 2 ^ 63)) = false := by
      rw [decide_eq_false (by omega), decide_eq_false (by omega)]
      rfl
    have c1 : (its.toArray.isEmpty || k == 1) = false := by
      rw [hi, Bool.false_or]
      exact beq_eq_false_iff_ne.mpr k1
    have c2 : (decide (k ≤ 0) || its.toArray.isEmpty) = true := by
      rw [decide_eq_true (by omega)]
      rfl
    refine wpAny_binaryOp_repeat_ref (T := "tuple") (U := "int") (by decide) ⟨_, ho, rfl⟩ (fun s' => typeIs_int s' k t) noFill_tuple_mul F.fills_int_mul F.slot_int_rmul repeat_tuple F.slot_int_index.lookup
      (call_meets F.slot_int_rmul (typeIs_int s k t) F.entry_int_rmul (F.args_int_rmul_2 _ _) (int_rmul_tuple k t l its.toArray n dd sl)
        ⟨ho, rfl, ⟨_, ho, rfl⟩, call_meets F.slot_tuple_mul ⟨_, ho, rfl⟩ F.entry_tuple_mul (F.args_tuple_mul_2 _ _) (tmul_none l its.toArray n dd sl k t c0 c1 c2) ⟨ho, ?_⟩⟩)
    have z0 : k.toNat = 0 := by omega
    rw [z0, List.replicate_zero, List.flatten_nil] at q
    exact ⟨.ref s.heap.objs.size, _, I.laid (t' := s.toks) (o := .tup []) (fun b ob q => Heap.get?_push_of_some _ q) (Nat.le_refl _) ⟨Nat.zero_le _, _, .nil, IsTup.new _ _⟩, rfl, q _ (I.hok.fresh (Nat.le_refl _))⟩
def dTimesT : D → D → R D
  | .tup xs, .int k => if xs ≠ [] ∧ -1000 ≤ k ∧ k ≤ 1000 ∧ xs.length ≤ 1000 then .ok (.tup (List.replicate k.toNat xs).flatten) else .bad
  | _, _ => .bad
theorem ops_timesT {X : Cx} {W : WX} : OpS X W (rTimesT X.K) dTimesT := fun n Z H0 m r σ H q a b x y Q ha hb p => by
  cases a <;> cases b <;> try exact False.elim p
  rename_i xs k
  simp only [Rep] at ha hb
  obtain ⟨a1, v1, rfl, h1, t1⟩ := ha
  subst hb
  simp only [dTimesT] at p
  split at p
  · rename_i h
    obtain ⟨h2, h3, h4, h5⟩ := h
    have hne : v1 ≠ [] := fun e => h2 (by
      have := t1.length
      rw [e] at this
      exact List.eq_nil_of_length_eq_zero this.symm)
    refine ⟨a1, k, v1, rfl, rfl, Same.seqT hid_sub h1, hne, h3, h4, by rw [t1.length]; exact h5, ?_⟩
    by_cases k1 : k = 1
    · refine .inl ⟨k1, p _ H (Same.refl H) ?_⟩
      subst k1
      simp only [Rep]
      refine ⟨a1, v1, rfl, h1, ?_⟩
      have : (List.replicate (1 : Int).toNat xs).flatten = xs := by simp
      rw [this]
      exact t1
    · refine .inr ⟨k1, fun c hc => p _ _ (same_upd hc) ?_⟩
      simp only [Rep]
      exact ⟨c, _, rfl, .inl (.inl (q.hidNew hc)), (t1.rep k.toNat).mono (hid_mono (same_upd hc))⟩
  · exact False.elim p
theorem ee_timesT {X : Cx} {W : WX} {a b : Expr} {ma mb : ME} {pos : Pos} (ha : EE X W a ma) (hb : EE X W b mb) : EE X W (.BinOp a .Mult b pos) (mBin dTimesT ma mb) := by
  obtain ⟨ta, h1, h2⟩ := ha.ex
  obtain ⟨tb, h3, h4⟩ := hb.ex
  exact ⟨_, pe_op op_timesT h1 h3, h2.op h4 ops_timesT⟩
end QB

namespace QB
open PySem PySem.Spec PyProof.Rows L2
open PySem.Builtin PySem.Builtin.ObjectAttr PySem.HandSPX
/-! ### an own error class, made with its fields by name -/
section
variable {prog : Program} {w : World} {A : Around} {E : Value → Shared → Prop} {R : Result → Shared → Prop} {h : Heap} {g : Array GenState} {d : Drawn} {t : Nat} {os : OsState}
variable {nm q : Str} {C N : Addr} {bs bm bmB : List Value} {hdct : Bool} {sn : List Str} {sub : List Value} {ab : Bool} {col : Option Bool} {dd : Option Addr} {k0 k1 k2 k3 k5 : Option Value} {B newId initId : String}
theorem chk_new {M : Model} (F : ExcBaseFacts B newId initId bmB) (hT : ∀ X : String, bm.contains (.type X) = bmB.contains (.type X)) {kw : List (Str × Value)} {Q : Unit → Shared → Prop}
    (hC : h.get? C = some (excClassObj nm q C N bs bm hdct sn sub ab col dd k0 k1 k2 k3 k5 newId))
    (hq : Q () ⟨h, g, d, t, os⟩) :
    wpAny M A (checkBuiltinCall newId ⟨[.ref C], kw⟩) Q E ⟨h, g, d, t, os⟩ := by
  have hcont : (Value.ref C :: bm).contains (.type B) = true := by
    rw [List.contains_cons, hT, F.hasB, Bool.or_true]
  have hstar := F.noStar
  simp only [checkBuiltinCall, F.newKind, F.newSplit, F.newRow]
  repeat (first
    | refine wpAny_loadPart_at hC ?_
    | (refine wpAny_isSubtype_exc hC ?_; rw [hcont])
    | refine wpAny_staticBase_exc hC ?_
    | refine wpAny_madeBy_exc hC ?_
    | simp only [bne_self_eq_false, Bool.false_eq_true, if_false]
    | wp_step)
  exact hq
theorem chk_call {M : Model} {kw : List (Str × Value)} {Q : Unit → Shared → Prop} (hC : h.get? C = some (excClassObj nm q C N bs bm hdct sn sub ab col dd k0 k1 k2 k3 k5 newId))
    (hq : Q () ⟨h, g, d, t, os⟩) :
    wpAny M A (checkBuiltinCall "type.__call__" ⟨[.ref C], kw⟩) Q E ⟨h, g, d, t, os⟩ := by
  have f3 := tc_sub
  have hT : (⟨h, g, d, t, os⟩ : Shared).TypeIs (.ref C) "type" := ⟨_, hC, rfl⟩
  simp only [checkBuiltinCall, tc_kind, tc_split]
  repeat (any_goals (first
    | assumption
    | with_reducible refine wpAny_loadPart_at hC ?_
    | with_reducible refine wpAny_onRaise ?_
    | with_reducible refine wpAny_map ?_
    | wp_step))
theorem new_kw (F : ExcBaseFacts B newId initId bmB) (hT : ∀ X : String, bm.contains (.type X) = bmB.contains (.type X)) {kw : List (Str × Value)}
    (hC : h.get? C = some (excClassObj nm q C N bs bm hdct sn sub ab col dd k0 k1 k2 k3 k5 newId))
    (hq : R (.ok (.ret (.ref (h.objs.size + 1)))) ⟨(h.push (PySem.W.kdv_tup [])).push (excO C h.objs.size), g, d, t, os⟩) :
    codeAny (model prog w) A (.builtin newId ⟨[.ref C], kw⟩) R ⟨h, g, d, t, os⟩ := by
  have hends := F.ends
  have hcB : (Value.ref C :: bm).contains (.type B) = true := by
    rw [List.contains_cons, hT, F.hasB, Bool.or_true]
  have hcA : (Value.ref C :: bm).contains (.type "AttributeError") = false := by
    rw [List.contains_cons, hT, F.noAttr]
    rfl
  have hcN : (Value.ref C :: bm).contains (.type "NameError") = false := by
    rw [List.contains_cons, hT, F.noName]
    rfl
  refine codeAny_builtinAt F.entry ?_
  unfold Builtin.«BaseException.__new__»
  refine PySem.wpAt_bind ?_
  show PySem.wpAt _ _ _ (stack >>= _) _ _ _
  refine PySem.wpAt_bind (PySem.wpAt_stack fun p below => PySem.wpAt_of_wpAny ?_)
  wp_walk
  refine PySem.wpAt_of_wpAny ?_
  rw [F.owner]
  repeat (first
    | with_reducible refine wpAny_madeHere_exc F.canon hC ?_
    | with_reducible refine wpAny_loadPart_at hC ?_
    | (with_reducible refine wpAny_isSubtype_exc hC ?_; first | rw [hcB] | rw [hcA] | rw [hcN])
    | wp_step)
  show R _ _
  rw [Heap.size_push]
  exact hq
theorem type_call_kw (F : ExcBaseFacts B newId initId bmB) (hT : ∀ X : String, bm.contains (.type X) = bmB.contains (.type X)) {kw : List (Str × Value)} {fI : Addr} {Q : Fin → Shared → Prop}
    (hC : h.get? C = some (excClassObj nm q C N bs bm hdct sn sub ab col dd k0 k1 k2 k3 k5 newId))
    (hi : PySem.W.Looks (model prog w) h (typeLookup (.ref C) "__init__") (some (.ref fI))) (hb : ∀ self, PySem.W.Looks (model prog w) h (bindSpecial (.ref fI) self) (.ref fI, [self]))
    (hq : codeAny (model prog w) A (.call (.ref fI) ⟨[.ref (h.objs.size + 1)], kw⟩)
      (fun r s' => match r with
        | .ok (.ret v) => v = .none ∧ Q (.done (.ret (.ref (h.objs.size + 1)))) s'
        | .ok _ => False
        | .error e => E e s') ⟨(h.push (PySem.W.kdv_tup [])).push (excO C h.objs.size), g, d, t, os⟩) :
    wpAny (model prog w) A (Builtin.«type.__call__» ⟨[.ref C], kw⟩) Q E ⟨h, g, d, t, os⟩ := by
  repeat (first
    | with_reducible refine wpAny_loadPart_at hC ?_
    | with_reducible refine wpAny_madeBy_exc hC ?_
    | wp_step)
  refine codeAny_call_builtin_code (Code.quiet_builtin _ F.quiet) (chk_new F hT hC ?_)
  refine new_kw F hT hC ?_
  show wpAny _ _ _ _ _ _
  have k : ∀ b o, h.get? b = some o → ((h.push (PySem.W.kdv_tup [])).push (excO C h.objs.size)).get? b = some o :=
    fun b o e => Heap.get?_push_of_some _ (Heap.get?_push_of_some _ e)
  have hC₁ := k _ _ hC
  have hget : ((h.push (PySem.W.kdv_tup [])).push (excO C h.objs.size)).get? (h.objs.size + 1) = some (excO C h.objs.size) := by
    heap_get
  have hcC : (Value.ref C :: bm).contains (.ref C) = true := by simp
  have i1 := hi.keeps k
  have b1 := (hb (.ref (h.objs.size + 1))).keeps k
  unfold isInstance
  repeat (first
    | with_reducible refine wpAny_loadPart_at hget ?_
    | (with_reducible refine wpAny_isSubtype_exc hC₁ ?_; rw [hcC])
    | wp_step)
  show wpAny _ _ (typeLookup (.ref C) _) _ _ _
  refine i1.at ?_
  refine wpAny_holding (wpAny_bind (b1.at ?_))
  refine wpAny_bind (wpAny_call (codeAny_mono hq fun r s' z => ?_))
  rcases r with e | (v | _ | _ | _) <;> first
    | exact z
    | exact z.elim
    | skip
  obtain ⟨rfl, z⟩ := z
  first
    | exact wpAny_pure (wpAny_pure z)
    | (wp_walk; exact z)
theorem call_kw (F : ExcBaseFacts B newId initId bmB) (hT : ∀ X : String, bm.contains (.type X) = bmB.contains (.type X)) {kw : List (Str × Value)} {fI : Addr}
    (hC : h.get? C = some (excClassObj nm q C N bs bm hdct sn sub ab col dd k0 k1 k2 k3 k5 newId))
    (hi : PySem.W.Looks (model prog w) h (typeLookup (.ref C) "__init__") (some (.ref fI))) (hb : ∀ self, PySem.W.Looks (model prog w) h (bindSpecial (.ref fI) self) (.ref fI, [self]))
    (hq : codeAny (model prog w) (A.under (.builtin "type.__call__" ⟨[.ref C], kw⟩)) (.call (.ref fI) ⟨[.ref (h.objs.size + 1)], kw⟩) (PySem.W.InitBack (h.objs.size + 1) R) ⟨(h.push (PySem.W.kdv_tup [])).push (excO C h.objs.size), g, d, t, os⟩) :
    codeAny (model prog w) A (.call (.ref C) ⟨[], kw⟩) R ⟨h, g, d, t, os⟩ := by
  have f1 := tc_lookup
  have f2 := tc_bind (.ref C)
  have hTy : (⟨h, g, d, t, os⟩ : Shared).TypeIs (.ref C) "type" := ⟨_, hC, rfl⟩
  refine codeAny_of_tree ?_
  show wpAny _ _ (callAny (.ref C) _) _ _ _
  repeat (any_goals (first
    | assumption
    | with_reducible refine wpAny_loadPart_at hC ?_
    | wp_step))
  refine ⟨rfl, ?_⟩
  refine codeAny_call_builtin_at (Code.quiet_builtin _ (by decide +kernel)) entry_typeCall (chk_call hC (type_call_kw F hT hC hi hb ?_))
  refine codeAny_mono hq fun r s' z => ?_
  rcases r with e | (v | _ | _ | _) <;> exact z
end
end QB

namespace QB
open PySem PySem.Spec PyProof.Rows L2
/-! ### error objects: made ones, and one that a clause caught -/
/-- what the class of an error object must say -/
structure XqF (K : PySem.W.Frag) (mg : Str → Option Value) (c : Str) (fs : List Str) : Prop where
  ex : ∃ C : Addr, mg c = some (.ref C) ∧ ExcC K C ∧ ∀ f ∈ fs, PySem.W.findIn K (.ref C) f = some none
def IsX (X : Cx) (H : Hp) (a C : Addr) (fs : List (Str × V)) : Prop := ∀ (pins : List (Addr × Obj)) (σ : L2.St) (s : Shared), Inv X pins σ H s →
  ∃ (ox : Obj) (od : Option Obj), PySem.W.InstAt s.heap a ox C od ∧ ∀ f v, fs.lookup f = some v → ∃ o' u, od = some o' ∧ PySem.W.lookIn f o' = some (some u) ∧ RelV v u
def Vw (X : Cx) (vw : D → Option (Str × List Str × List D)) : Prop := ∀ (G : Hp) (d : D) (v : V) (c : Str) (ns : List Str) (xs : List D), vw d = some (c, ns, xs) → Rep X.K X.mg G d v →
  ∃ (a C : Addr) (vs : List V), v = .ref a ∧ X.mg c = some (.ref C) ∧ ns.length = xs.length ∧ RepL X.K X.mg G xs vs ∧ ∀ H, Same G H → IsX X H a C (ns.zip vs)
def vwO : D → Option (Str × List Str × List D)
  | .xob c ns xs => some (c, ns, xs)
  | _ => none
def vwE (a dx : Nat) (c : Str) : D → Option (Str × List Str × List D)
  | .exv a' dx' c' ns xs => if a' = a ∧ dx' = dx ∧ c' = c then some (c', ns, xs) else none
  | _ => none
theorem relO_look {o : Option V} {v : V} {m : Option Value} (h : o = some v) (r : RelO o m) : ∃ u, m = some u ∧ RelV v u := by
  obtain ⟨u, hu, ru⟩ := RelO.some_of (v := v) (o := m) (by rw [← h]; exact r)
  exact ⟨u, hu, ru⟩
theorem vw_O {X : Cx} : Vw X vwO := fun G d v c ns xs e r => by
  cases d <;> simp only [vwO, reduceCtorEq, Option.some.injEq, Prod.mk.injEq] at e
  obtain ⟨rfl, rfl, rfl⟩ := e
  simp only [Rep] at r
  obtain ⟨a, C, od, vs, rfl, m, q, hd, hn, l, rx⟩ := r
  refine ⟨a, C, vs, rfl, m, l, rx, fun H sm pins σ s I => ?_⟩
  obtain ⟨t1, ho⟩ := exo_at I.hok (sm _ _ q)
  cases od with
  | none =>
    refine ⟨_, none, ⟨ho, rfl, rfl, trivial⟩, fun f v h => ?_⟩
    rw [hn rfl] at h
    cases h
  | some dx =>
    obtain ⟨mA, hns, hr⟩ := exd_at I.hok (sm _ _ (hd dx rfl))
    obtain ⟨o', ho', hl⟩ := lookIn_ns hns
    refine ⟨_, some o', ⟨ho, rfl, rfl, ho'⟩, fun f v h => ?_⟩
    obtain ⟨u, hu, ru⟩ := relO_look h (hr f)
    exact ⟨o', u, rfl, by rw [hl, hu], ru⟩
theorem vw_E {X : Cx} {a dx C : Addr} {c : Str} {oe : Obj} {pn : List (Addr × Obj)} (hm : X.mg c = some (.ref C)) (hz : Zc (.ref C) (some dx) oe) (hf : ∃ vs, oe.data = .fields vs) : Vw (X.suite a ((a, oe) :: pn)) (vwE a dx c) := fun G d v c' ns xs e r => by
  cases d <;> simp only [vwE, reduceCtorEq] at e
  split at e
  · rename_i h
    obtain ⟨rfl, rfl, rfl⟩ := h
    simp only [Option.some.injEq, Prod.mk.injEq] at e
    obtain ⟨rfl, rfl, rfl⟩ := e
    simp only [Rep] at r
    obtain ⟨C', vs, rfl, m, q, l, rx⟩ := r
    have hm' := m.symm.trans hm
    cases hm'
    refine ⟨_, C, vs, rfl, m, l, rx, fun H sm pins σ s I => ?_⟩
    obtain ⟨hget, _⟩ := I.pin (_, oe) (List.mem_append.mpr (.inl List.mem_cons_self))
    obtain ⟨ws, hv⟩ := hf
    obtain ⟨mA, hns, hr⟩ := (show ObjOk X.prog X.w H s.heap _ (.xd _) from I.hok _ _ (sm _ _ q))
    obtain ⟨o', ho', hl⟩ := lookIn_ns hns
    refine ⟨oe, some o', ⟨hget, hz.1, by unfold PySem.W.notCls; rw [hv] <;> rfl, by rw [hz.2]; exact ho'⟩, fun f v h => ?_⟩
    obtain ⟨u, hu, ru⟩ := relO_look h (hr f)
    exact ⟨o', u, rfl, by rw [hl, hu], ru⟩
  · cases e
/-! ### isinstance -/
def rIsG (X : Cx) : List V → Hp → VK → Prop := fun xs H Q => ∃ (a C : Addr) (fs : List (Str × V)) (c : V) (cv : Value) (b : Bool), xs = [.ref a, c] ∧ IsX X H a C fs ∧ ExcC X.K C ∧ ClsV c cv ∧ PySem.W.kitOne X.K (.ref C) cv = some b ∧ Q (.bl b) H
def rIsGT (X : Cx) : List V → Hp → VK → Prop := fun xs H Q => ∃ (a C : Addr) (fs : List (Str × V)) (tp : Addr) (cs : List V) (us : List Value) (b : Bool), xs = [.ref a, .ref tp] ∧ H tp = some (.tup cs) ∧ Paired ClsV cs us ∧ IsX X H a C fs ∧ ExcC X.K C ∧ PySem.W.kitAny X.K (.ref C) us = some b ∧ Q (.bl b) H
section
variable {X : Cx} {W : WX} {a b e : Expr} {es : List Expr} {me ma : ME} {ms : MA} {pos : Pos}
theorem hd_cls {K : PySem.W.Frag} {C : Addr} (h : PySem.W.hasDictIn K C = true) : (PySem.W.clsIn K C).isSome = true := by
  obtain ⟨cd, hc, _⟩ := PySem.W.any_some h
  rw [hc] <;> rfl
theorem call_isG : CallR X (.builtin "isinstance") (rIsG X) := by
  intro pins s σ H xs us Q I r h
  obtain ⟨a, C, fs, c, cv, b, rfl, hx, T, k, e, q⟩ := h
  obtain ⟨u1, u2, rfl, r1, r2⟩ := vals2 r
  have e2 := k.eq r2
  subst e2
  cases (show u1 = Value.ref a from r1)
  obtain ⟨ox, od, J, _⟩ := hx pins σ s I
  exact PySem.W.kia_one (PySem.W.kitx_exc (hd_cls T.hd) T.hg T.hk T.hs T.ha T.hn T.ht T.hm) I.kIn J e (fun z => nomatch z) fun tk => ⟨.bl b, H, I.tok tk, rfl, q⟩
theorem call_isGT : CallR X (.builtin "isinstance") (rIsGT X) := by
  intro pins s σ H xs us Q I r h
  obtain ⟨a, C, fs, tp, cs, ws, b, rfl, hT, k, hx, T, e, q⟩ := h
  obtain ⟨u1, u2, rfl, r1, r2⟩ := vals2 r
  cases (show u1 = Value.ref a from r1)
  cases (show u2 = Value.ref tp from r2)
  obtain ⟨ox, od, J, _⟩ := hx pins σ s I
  obtain ⟨_, its, rv, o, h1, h2, n, h3⟩ := (show ObjOk X.prog X.w H s.heap tp (.tup cs) from I.hok tp _ hT)
  have e3 := ClsV.all k rv
  subst e3
  obtain ⟨oc, od2, dt, sl⟩ := o
  simp only at h2 h3
  subst h2 h3
  exact PySem.W.kia_tup (PySem.W.kitx_exc (hd_cls T.hd) T.hg T.hk T.hs T.ha T.hn T.ht T.hm) I.kIn J h1 e (fun z => nomatch z) fun tk => ⟨.bl b, H, I.tok tk, rfl, q⟩
def dIsx (vw : D → Option (Str × List Str × List D)) (tab : Str → Option Bool) (d : D) : R D := match vw d with
  | some (c, _, _) => (match tab c with
    | some b => .ok (.bl b)
    | none => .bad)
  | none => .bad
def mIsx (vw : D → Option (Str × List Str × List D)) (tab : Str → Option Bool) (me : ME) : ME := fun r => (me r).bind (dIsx vw tab)
/-- what the table of a clause's class says -/
def TabOk (K : PySem.W.Frag) (mg : Str → Option Value) (tab : Str → Option Bool) (cv : Value) : Prop := ∀ c b, tab c = some b → ∃ C : Addr, mg c = some (.ref C) ∧ ExcC K C ∧ PySem.W.kitOne K (.ref C) cv = some b
theorem tab_listB {K : PySem.W.Frag} {mg : Str → Option Value} {cv : Value} : ∀ {l : List (Str × Bool)}, (∀ p ∈ l, ∃ C : Addr, mg p.1 = some (.ref C) ∧ ExcC K C ∧ PySem.W.kitOne K (.ref C) cv = some p.2) → TabOk K mg (fun c => l.lookup c) cv
  | [], _, c, b, h => by simp at h
  | p :: l, hp, c, b, h => by
    have h : List.lookup c (p :: l) = some b := h
    rw [List.lookup_cons] at h
    cases e : c == p.1 with
    | true =>
      rw [e] at h
      have e' : c = p.1 := by simpa using e
      obtain ⟨C, g1, g2, g3⟩ := hp p List.mem_cons_self
      cases h
      exact ⟨C, e' ▸ g1, g2, g3⟩
    | false =>
      rw [e] at h
      exact tab_listB (fun q hq => hp q (List.mem_cons_of_mem _ hq)) c b h
theorem tab_list {K : PySem.W.Frag} {mg : Str → Option Value} {S : Str} {Q : Addr} (hQ : mg S = some (.ref Q)) {l : List (Str × Bool)} (h : ∀ p ∈ l, ∃ C Q' : Addr, mg p.1 = some (.ref C) ∧ mg S = some (.ref Q') ∧ ExcC K C ∧ PySem.W.kitOne K (.ref C) (.ref Q') = some p.2) : TabOk K mg (fun c => l.lookup c) (.ref Q) :=
  tab_listB fun p hp => by
    obtain ⟨C, Q', g1, g2, g3, g4⟩ := h p hp
    rw [hQ] at g2
    cases g2
    exact ⟨C, g1, g3, g4⟩
theorem XqF.sub {K : PySem.W.Frag} {mg : Str → Option Value} {c : Str} {fs gs : List Str} (h : XqF K mg c fs) (s : ∀ f ∈ gs, f ∈ fs) : XqF K mg c gs := by
  obtain ⟨C, h1, h2, h3⟩ := h.ex
  exact ⟨C, h1, h2, fun f hf => h3 f (s f hf)⟩
variable {vw : D → Option (Str × List Str × List D)} {tab : Str → Option Bool}
theorem dIsx_use {G : Hp} {d : D} {v : V} {β : Type} {k : D → R β} (hv : Vw X vw) (r : Rep X.K X.mg G d v) (tab : Str → Option Bool) : (∃ b c ns xs, dIsx vw tab d = .ok (.bl b) ∧ vw d = some (c, ns, xs) ∧ tab c = some b) ∨ dIsx vw tab d = .bad := by
  unfold dIsx
  split
  · rename_i c ns xs e
    split
    · rename_i b e2
      exact .inl ⟨b, c, ns, xs, rfl, e, e2⟩
    · exact .inr rfl
  · exact .inr rfl
theorem ee_isxV {f : V} {cv : Value} {T : Str} {p1 p3 : Pos} (hv : Vw X vw) (hm : X.mg "isinstance" = none) (hg : Gl X "isinstance") (hc : PE X (.Name T p3) (tC f)) (hk : ClsV f cv) (ht : TabOk X.K X.mg tab cv) (ha : EW X W a ma)
    (he : starEach [a, .Name T p3] X.env = (false, eval a X.env) :: starEach [.Name T p3] X.env := by rfl) (he2 : starEach [.Name T p3] X.env = (false, eval (.Name T p3) X.env) :: starEach [] X.env := by rfl) (hpl : (backTo pos (starEach [.Name T p3] X.env)).any (·.1) = false := by rfl) :
    EE X W (.Call (.Name "isinstance" p1) [a, .Name T p3] [] pos) (mIsx vw tab ma) := by
  obtain ⟨ta, h1, h2⟩ := ha.ex
  refine ⟨_, pe_callB call_isG hg hm boot_isinstance (pa_cons h1 (pa_cons hc pa_nil he2) he) (by decide) (by decide) he hpl, fun n Z H0 m r σ H q Q p => ?_⟩
  unfold mIsx at p
  refine h2 n Z H0 m r σ H q _ (p.bind.imp fun d k x H1 s1 rx => ?_)
  rcases dIsx_use (β := D) (k := fun x => .ok x) hv rx tab with ⟨b, c, ns, xs, e, ev, et⟩ | e
  · rw [e] at k
    obtain ⟨a', C, vs, rfl, mC, l, rx', hx⟩ := hv _ _ _ _ _ _ ev rx
    obtain ⟨C', mC', T', ko⟩ := ht c b et
    rw [mC] at mC'
    cases mC'
    exact ⟨a', C, _, _, _, b, rfl, hx H1 hid_sub, T', hk, ko, k _ H1 s1 (by simp [Rep])⟩
  · rw [e] at k
    exact False.elim k
theorem ee_isx {S : Addr} {T : Str} {p1 p3 : Pos} (hv : Vw X vw) (hm : X.mg "isinstance" = none) (hg : Gl X "isinstance") (hS : X.mg T = some (.ref S)) (hgT : Gl X T) (ht : TabOk X.K X.mg tab (.ref S)) (ha : EW X W a ma) (hd : (T == ("__debug__" : Str)) = false := by decide)
    (he : starEach [a, .Name T p3] X.env = (false, eval a X.env) :: starEach [.Name T p3] X.env := by rfl) (he2 : starEach [.Name T p3] X.env = (false, eval (.Name T p3) X.env) :: starEach [] X.env := by rfl) (hpl : (backTo pos (starEach [.Name T p3] X.env)).any (·.1) = false := by rfl) :
    EE X W (.Call (.Name "isinstance" p1) [a, .Name T p3] [] pos) (mIsx vw tab ma) := ee_isxV hv hm hg (pe_glob (v := .ref S) hgT hS rfl hd) (.own S) ht ha he he2 hpl
theorem ee_isxB {T : Str} {Ts : String} {p1 p3 : Pos} (hv : Vw X vw) (hm : X.mg "isinstance" = none) (hg : Gl X "isinstance") (hmT : X.mg T = none) (hgT : Gl X T) (hbT : bootBuiltins T = some (.type Ts)) (ht : TabOk X.K X.mg tab (.type Ts)) (ha : EW X W a ma) (hn : T ≠ "__name__" := by decide) (hd : (T == ("__debug__" : Str)) = false := by decide)
    (he : starEach [a, .Name T p3] X.env = (false, eval a X.env) :: starEach [.Name T p3] X.env := by rfl) (he2 : starEach [.Name T p3] X.env = (false, eval (.Name T p3) X.env) :: starEach [] X.env := by rfl) (hpl : (backTo pos (starEach [.Name T p3] X.env)).any (·.1) = false := by rfl) :
    EE X W (.Call (.Name "isinstance" p1) [a, .Name T p3] [] pos) (mIsx vw tab ma) := ee_isxV hv hm hg (pe_bltn (v := .ty Ts) hgT hmT hbT rfl hn hd) (.ty Ts) ht ha he he2 hpl
/-- a row of own classes -/
structure CL (X : Cx) (es : List Expr) (vs : List V) (us : List Value) : Prop where
  ex : ∃ t, PA X es t ∧ (∀ σ H Q, Q vs H → t σ H Q) ∧ Paired ClsV vs us
theorem cl_nil : CL X [] [] [] := ⟨_, pa_nil, fun _ _ _ q => q, .nil⟩
theorem cl_cons {S : Addr} {T : Str} {p3 : Pos} {vs : List V} {us : List Value} (hS : X.mg T = some (.ref S)) (hgT : Gl X T) (h : CL X es vs us) (hd : (T == ("__debug__" : Str)) = false := by decide)
    (he : starEach (.Name T p3 :: es) X.env = (false, eval (.Name T p3) X.env) :: starEach es X.env := by rfl) : CL X (.Name T p3 :: es) (.ref S :: vs) (.ref S :: us) := by
  obtain ⟨t, h1, h2, h3⟩ := h.ex
  exact ⟨_, pa_cons (pe_glob (v := .ref S) hgT hS rfl hd) h1 he, fun σ H Q q => h2 σ H _ q, .cons (.own S) h3⟩
/-- the answer of a row of classes -/
def anyB : List (Option Bool) → Option Bool
  | [] => some false
  | some true :: _ => some true
  | some false :: r => anyB r
  | none :: _ => none
def TabsOk (K : PySem.W.Frag) (mg : Str → Option Value) (tabs : List (Str → Option Bool)) (us : List Value) : Prop := ∀ c b, anyB (tabs.map (· c)) = some b → ∀ C : Addr, mg c = some (.ref C) → PySem.W.kitAny K (.ref C) us = some b
theorem tabs_nil {K : PySem.W.Frag} {mg : Str → Option Value} : TabsOk K mg [] [] := fun c b e C _ => by
  cases e
  rfl
theorem tabs_cons {K : PySem.W.Frag} {mg : Str → Option Value} {tabs : List (Str → Option Bool)} {cv : Value} {us : List Value} (h : TabOk K mg tab cv) (g : TabsOk K mg tabs us) : TabsOk K mg (tab :: tabs) (cv :: us) := fun c b e C mC => by
  rw [List.map_cons] at e
  cases et : tab c with
  | none =>
    rw [et] at e
    cases e
  | some t =>
    obtain ⟨C', mC', _, k⟩ := h c t et
    rw [mC] at mC'
    cases mC'
    rw [et] at e
    unfold PySem.W.kitAny
    rw [k]
    cases t with
    | true => exact e
    | false => exact g c b e C mC
def mIsxT (vw : D → Option (Str × List Str × List D)) (ok : List Str) (tabs : List (Str → Option Bool)) (me : ME) : ME := fun r => (me r).bind (dIsx vw fun c => if c ∈ ok then anyB (tabs.map (· c)) else none)
theorem ee_isxT {cs : List V} {us : List Value} {tabs : List (Str → Option Bool)} {ok : List Str} {p1 p2 : Pos} {x2 : Nat} (hv : Vw X vw) (hm : X.mg "isinstance" = none) (hg : Gl X "isinstance") (hc : CL X es cs us) (ht : TabsOk X.K X.mg tabs us) (hok : ∀ c ∈ ok, XqF X.K X.mg c []) (ha : EW X W a ma) (hz : cs.length ≤ sizeLine)
    (he : starEach [a, .Tuple es x2 p2] X.env = (false, eval a X.env) :: starEach [.Tuple es x2 p2] X.env := by rfl) (he2 : starEach [.Tuple es x2 p2] X.env = (false, eval (.Tuple es x2 p2) X.env) :: starEach [] X.env := by rfl) (hpl : (backTo pos (starEach [.Tuple es x2 p2] X.env)).any (·.1) = false := by rfl) :
    EE X W (.Call (.Name "isinstance" p1) [a, .Tuple es x2 p2] [] pos) (mIsxT vw ok tabs ma) := by
  obtain ⟨ta, h1, h2⟩ := ha.ex
  obtain ⟨tc, g1, g2, g3⟩ := hc.ex
  refine ⟨_, pe_callB call_isGT hg hm boot_isinstance (pa_cons h1 (pa_cons (pe_tup g1) pa_nil he2) he) (by decide) (by decide) he hpl, fun n Z H0 m r σ H q Q p => ?_⟩
  unfold mIsxT at p
  refine h2 n Z H0 m r σ H q _ (p.bind.imp fun d k x H1 s1 rx => ?_)
  rcases dIsx_use (β := D) (k := fun x => .ok x) hv rx (fun c => if c ∈ ok then anyB (tabs.map (· c)) else none) with ⟨b, c, ns, xs, e, ev, et⟩ | e
  · rw [e] at k
    obtain ⟨a', C, vs, rfl, mC, l, rx', hx⟩ := hv _ _ _ _ _ _ ev rx
    split at et
    · rename_i hin
      obtain ⟨C', mC', T', _⟩ := (hok c hin).ex
      rw [mC] at mC'
      cases mC'
      refine g2 _ _ _ ⟨hz, fun tp ntp => ?_⟩
      have s2 : Same H1 (upd H1 tp (.tup cs)) := same_upd ntp
      exact ⟨a', C, _, tp, cs, us, b, rfl, upd_same, g3, hx _ (Same.trans hid_sub s2), T', ht c b et C mC, k _ _ (s1.trans s2) (by simp [Rep])⟩
    · cases et
  · rw [e] at k
    exact False.elim k
/-! ### a field read -/
def dXf (vw : D → Option (Str × List Str × List D)) (L : List Str) (f : Str) (d : D) : R D := match vw d with
  | some (c, ns, xs) => if c ∈ L then (match (ns.zip xs).lookup f with
    | some x => .ok x
    | none => .bad) else .bad
  | none => .bad
def mXf (vw : D → Option (Str × List Str × List D)) (L : List Str) (f : Str) (me : ME) : ME := fun r => (me r).bind (dXf vw L f)
def tXg (X : Cx) (f : Str) (te : TE) : TE := fun σ H Q => te σ H fun x H1 => ∃ (a C : Addr) (fs : List (Str × V)) (v : V), x = .ref a ∧ IsX X H1 a C fs ∧ ExcC X.K C ∧ PySem.W.findIn X.K (.ref C) f = some none ∧ fs.lookup f = some v ∧ Q v H1
theorem pe_xg {f : Str} {te : TE} (he : PE X e te) (hb : attributeBase e f X.env (eval e X.env) = eval e X.env := by rfl) : PE X (.Attribute e f pos) (tXg X f te) := by
  refine ⟨fun pins s σ H Q I h => ?_⟩
  refine attr_of hb (thn (he.run pins s σ H _ I h) fun u s1 hh => ?_)
  obtain ⟨x, H1, I1, rx, a, C, fs, v, ex, hx, T, hno, l, q⟩ := hh
  subst ex
  obtain rfl : u = Value.ref a := rx
  obtain ⟨ox, od, J, hl⟩ := hx _ _ _ I1
  obtain ⟨o', w, rfl, hw, rw'⟩ := hl f v l
  exact HandSPX.exc_get I1.kIn J T.hg T.hk T.hs (PySem.W.findObj_own T.hd hno rfl hw) (handed_of rw') ⟨v, H1, I1.tok _, rw', q⟩
theorem ee_xf {L : List Str} {f : Str} (hv : Vw X vw) (hL : ∀ c ∈ L, XqF X.K X.mg c [f]) (ha : EE X W e me) (hb : attributeBase e f X.env (eval e X.env) = eval e X.env := by rfl) : EE X W (.Attribute e f pos) (mXf vw L f me) := by
  obtain ⟨ta, h1, h2⟩ := ha.ex
  refine ⟨_, pe_xg h1 hb, fun n Z H0 m r σ H q Q p => ?_⟩
  unfold mXf at p
  refine h2 n Z H0 m r σ H q _ (p.bind.imp fun d k x H1 s1 rx => ?_)
  unfold dXf at k
  split at k
  · rename_i c ns xs ev
    split at k
    · rename_i hin
      split at k
      · rename_i y hl
        obtain ⟨a', C, vs, rfl, mC, l, rx', hx⟩ := hv _ _ _ _ _ _ ev rx
        obtain ⟨C', mC', T', hno⟩ := (hL c hin).ex
        rw [mC] at mC'
        cases mC'
        obtain ⟨v, hv2, rv⟩ := look_rep rx' hl
        exact ⟨a', C, _, v, rfl, hx H1 hid_sub, T', hno f (List.mem_singleton.mpr rfl), hv2, k _ H1 s1 rv⟩
      · exact False.elim k
    · exact False.elim k
  · exact False.elim k
end
end QB

namespace QB
open PySem PySem.Spec PyProof.Rows L2
/-! ### an error object, made with its fields by name -/
structure XkTxt (P : Program) (w : World) (K : PySem.W.Frag) (mg : Str → Option Value) (base : Heap) (k : Nat) (c : Str) (fs : List Str) : Prop where
  ex : ∃ (C fI : Addr) (fd : FuncData) (ps : List Str), mg c = some (.ref C) ∧ OexC K C ∧ (∀ f ∈ fs, PySem.W.findIn K (.ref C) f = some none) ∧ PySem.W.findIn K (.ref C) "__init__" = some (some (.ref fI)) ∧ PySem.W.typeIn K (.ref fI) = some (.type "function") ∧
    (∀ (s : Shared) (us ws : List Value), us.length = 1 → ws.length = fs.length → BindsTo s fd ⟨us, fs.zip ws⟩ (ps.zip (us ++ ws))) ∧ FnOk P w K mg base (L2.CX P w) k fI fd ps (SpI K fs) ∧ fs.length ≤ 900
theorem xk_mk {P : Program} {w : World} {K : PySem.W.Frag} {mg : Str → Option Value} {base : Heap} {c x qual : Str} {st : Stmt} {fs N : List Str} (T : XcF K mg c fs x qual st) (hz : fs.length ≤ 900)
    (hb : ∀ {f : Addr} {fd : FuncData}, Fun K x qual st f fd → ∀ (s : Shared) (us ws : List Value), us.length = 1 → ws.length = fs.length → BindsTo s fd ⟨us, fs.zip ws⟩ (N.zip (us ++ ws)))
    (hf : ∀ {f : Addr} {fd : FuncData}, Fun K x qual st f fd → FnOk P w K mg base (L2.CX P w) 1 f fd N (SpI K fs)) : XkTxt P w K mg base 1 c fs := by
  obtain ⟨C, fI, fd, h1, h2, h3, h4, h5, F⟩ := T.ex
  exact ⟨C, fI, fd, N, h1, h2, h3, h4, h5, hb F, hf F, hz⟩
def tMkK (C : Addr) (fs : List Str) (tk : TA) : TE := fun σ H Q => tk σ H fun ws H1 => ws.length = fs.length ∧ ∀ a, H1 a = none → ∀ dx, H1 dx = none → dx ≠ a → Q (.ref a) (upd (upd (upd H1 a (exo a C none)) dx (exd dx (fs.zip ws).reverse)) a (exo a C (some dx)))
section
variable {X : Cx} {W : WX} {a b e : Expr} {es : List Expr} {me ma : ME} {ms mk : MA} {pos p1 : Pos} {k kk : Nat} {c : Str} {fs : List Str} {kws : List Keyword}
theorem pe_mkx {CX : CXT} {x : Str} {C fI : Addr} {fd : FuncData} {ps : List Str} {tk : TA} (T : OexC X.K C) (nof : ∀ f ∈ fs, PySem.W.findIn X.K (.ref C) f = some none) (iC : PySem.W.findIn X.K (.ref C) "__init__" = some (some (.ref fI))) (tI : PySem.W.typeIn X.K (.ref fI) = some (.type "function"))
    (F1 : FnOk X.prog X.w X.K X.mg X.base CX k fI fd ps (SpI X.K fs)) (hz : fs.length ≤ 900) (hr : Room (k + 1) X.A) (hb : ∀ (s : Shared) (us ws : List Value), us.length = 1 → ws.length = fs.length → BindsTo s fd ⟨us, fs.zip ws⟩ (ps.zip (us ++ ws))) (hx : Passes CX X (fun _ _ _ => False)) (hg : Gl X x) (hm : X.mg x = some (.ref C)) (hkw : PK X kws tk)
    (hall : (backToKw pos (keywordEach kws X.env)).all (·.1.isSome) = true) (hks : (backToKw pos (keywordEach kws X.env)).filterMap (·.1) = fs) (hdb : (x == ("__debug__" : Str)) = false)
    (hpl : ((backTo pos (starEach [] X.env)).any (·.1) || (backToKw pos (keywordEach kws X.env)).any (·.1.isNone)) = false) :
    PE X (.Call (.Name x p1) [] kws pos) (tMkK C fs tk) := by
  refine ⟨fun pins s σ H Q I h => ?_⟩
  obtain ⟨nm, q, N, bs, bm, sn, sub, ab, col, dd, k0, k1, k2, k3, k5, hC, hbm⟩ := T.cls
  refine wpAny_Call_Name_kw (ld_glob I hg hm ?_ hdb)
  refine PySem.W.callWith_KW0 (h₀ := X.base) I.ok.mod.kin T.kC hall ?_ hpl
  refine thn (hkw.run pos pins s σ H _ I h) fun ws s1 ⟨vs, H1, I1, r1, l, q1⟩ => ⟨I1.kIn, ?_⟩
  rw [hks]
  show wpAny _ _ (call (.ref C) [] (fs.zip ws)) _ _ _
  obtain ⟨hp, g, dr, tk, os⟩ := s1
  have hsz : hp.objs.size ≤ hp.objs.size + 1 := Nat.le_succ _
  have hn : H1 (hp.objs.size + 1) = none := I1.hok.fresh hsz
  have kk : ∀ b o, hp.get? b = some o → ((hp.push (PySem.W.kdv_tup [])).push (PySem.HandSPX.excO C hp.objs.size)).get? b = some o := fun b o e => Heap.get?_push_of_some _ (Heap.get?_push_of_some _ e)
  have hget : ((hp.push (PySem.W.kdv_tup [])).push (PySem.HandSPX.excO C hp.objs.size)).get? (hp.objs.size + 1) = some (PySem.HandSPX.excO C hp.objs.size) := by heap_get
  have I2 : Inv X pins σ (upd H1 (hp.objs.size + 1) (exo (hp.objs.size + 1) C none)) ⟨(hp.push (PySem.W.kdv_tup [])).push (PySem.HandSPX.excO C hp.objs.size), g, dr, tk, os⟩ :=
    I1.laid (t' := tk) (a := hp.objs.size + 1) (o := exo (hp.objs.size + 1) C none) (h' := (hp.push (PySem.W.kdv_tup [])).push (PySem.HandSPX.excO C hp.objs.size)) kk hsz (exo_ok hget)
  have r2 : Vals (V.ref (hp.objs.size + 1) :: vs) (Value.ref (hp.objs.size + 1) :: ws) := .cons rfl r1
  have hl : ws.length = fs.length := by rw [← r1.length, l]
  have hq : SpI X.K fs (.ref (hp.objs.size + 1) :: vs) (upd H1 (hp.objs.size + 1) (exo (hp.objs.size + 1) C none)) (fun v H2 => v = .non ∧ Q (.ref (hp.objs.size + 1)) H2) (fun _ _ _ => False) :=
    ⟨hp.objs.size + 1, C, vs, rfl, l, hz, T, nof, upd_same, fun dx n1 n2 => ⟨rfl, q1 _ hn dx (by rw [upd_ne n2] at n1; exact n1) n2⟩⟩
  refine wpAny_call (call_kw F.excBase_ValueError (fun Y => PySem.HandSPX.refsVE_contains Y bm hbm) (I1.kIn _ _ hC) (PySem.W.looks_findIn I1.kIn iC) (fun self => PySem.W.bind_fn I1.kIn self tI)
    (codeAny_mono (F1.run _ X.stack _ _ ⟨[Value.ref (hp.objs.size + 1)], fs.zip ws⟩ (Value.ref (hp.objs.size + 1) :: ws) _ _ (fun _ _ _ => False) (hr.make C [] (fs.zip ws)) (I2.env0.make C [] (fs.zip ws)) (hb _ [Value.ref (hp.objs.size + 1)] ws rfl hl) r2 hq) fun r s' hq' => ?_))
  cases r with
  | error er => exact hx pins σ _ _ er s' I2 hq'
  | ok fl =>
    cases fl with
    | ret u =>
      obtain ⟨v, H2, os2, bare2, un2, hok2, rv, ev, q2⟩ := hq'
      subst ev
      exact ⟨rv, .ref (hp.objs.size + 1), H2, I2.call' (ch := []) os2 un2 hok2 bare2 (fun b z => absurd z (by simp)), rfl, q2⟩
    | next => exact False.elim hq'
    | brk => exact False.elim hq'
    | cont => exact False.elim hq'
/-- C(f=e, ..), the keywords in the order of the fields -/
def mMkx (c : Str) (fs : List Str) (mk : MA) : ME := fun r => (mk r).bind fun ds => .ok (.xob c fs.reverse ds.reverse)
theorem ee_mkx (tk : Takes X W) (T : XkTxt X.prog X.w X.K X.mg X.base k c fs) (hr : Room kk X.A) (hk : k + 1 ≤ kk) (hkw : EK X W kws mk) (hl : ALen mk fs.length)
    (hall : (backToKw pos (keywordEach kws X.env)).all (·.1.isSome) = true := by rfl) (hks : (backToKw pos (keywordEach kws X.env)).filterMap (·.1) = fs := by rfl) (hg : Gl X c := by rfl) (hdb : (c == ("__debug__" : Str)) = false := by decide)
    (hpl : ((backTo pos (starEach [] X.env)).any (·.1) || (backToKw pos (keywordEach kws X.env)).any (·.1.isNone)) = false := by rfl) : EE X W (.Call (.Name c p1) [] kws pos) (mMkx c fs mk) := by
  obtain ⟨C, fI, fd, ps, gC, oC, nof, iC, tI, hb, F1, hz⟩ := T.ex
  obtain ⟨t, h1, h2⟩ := hkw.ex
  refine ⟨_, pe_mkx oC nof iC tI F1 hz (hr.mono hk) hb (passes_call tk (fun _ _ _ _ z => z.elim)) hg gC h1 hall hks hdb hpl, fun n Z H0 m r σ H q Q p => ?_⟩
  unfold mMkx at p
  have p' := p.bind
  refine h2 n Z H0 m r σ H q _ ?_
  cases em : mk r with
  | ok ds =>
    rw [em] at p'
    have hlen := hl r ds em
    intro vs H1 s1 rx
    have hv : vs.length = fs.length := by rw [rx.length, hlen]
    refine ⟨hv, fun x nx dx nd hne => ?_⟩
    have q1 := q.grow s1
    have nd' : upd H1 x (exo x C none) dx = none := by rw [upd_ne hne]; exact nd
    have s2 : Same H1 (upd (upd (upd H1 x (exo x C none)) dx (exd dx (fs.zip vs).reverse)) x (exo x C (some dx))) := fun b o e => by
      have n1 : b ≠ x := ne_of_none e nx
      have n2 : b ≠ dx := ne_of_none e nd
      rw [upd_ne n1, upd_ne n2, upd_ne n1]
      exact e
    obtain ⟨z1, m1⟩ := q1.new nx
    obtain ⟨z2, m2⟩ := q1.new nd
    refine p' _ _ (s1.trans s2) ?_
    simp only [Rep]
    refine ⟨x, C, some dx, vs.reverse, rfl, gC, hid_of upd_same z1 m1, fun dx' e => ?_, (fun e => by cases e), by simp [hlen], (rx.mono (hid_mono s2)).rev⟩
    cases e
    rw [← zip_rev hv.symm]
    exact hid_of (by rw [upd_ne hne]; exact upd_same) z2 m2
  | exc cc ns xs =>
    rw [em] at p'
    exact p'
  | bad =>
    rw [em] at p'
    exact False.elim p'
/-! a class of that kind, reckoned over lists -/
def nsOkL (K : PySem.W.Frag) (N : Addr) : Bool := match K.lookup N with
  | some ⟨_, _, .dict es _, _⟩ => es.toList.all fun e => match e.key with | .str _ _ => true | _ => false
  | _ => false
theorem nsOk_of {K : PySem.W.Frag} {N : Addr} : nsOkL K N = PySem.W.nsOkIn K N := by
  unfold nsOkL PySem.W.nsOkIn
  generalize K.lookup N = o
  split
  · exact Array.all_toList
  · rename_i h
    split
    · rename_i a b es n sl
      exact absurd rfl (h a b es n sl)
    · rfl
def tailInL (K : PySem.W.Frag) (bmB : List Value) : List Value → Bool
  | [] => bmB == []
  | v :: r => (v :: r) == bmB || match v with
    | .ref A => (match K.lookup A with
      | some ⟨_, _, .cls cd, _⟩ => nsOkL K cd.ns && PySem.W.nsIn K cd.ns "__init__" == some none && tailInL K bmB r
      | _ => false)
    | _ => false
theorem tailIn_of {K : PySem.W.Frag} {bmB : List Value} : ∀ l : List Value, tailInL K bmB l = PySem.W.tailIn K bmB l
  | [] => rfl
  | v :: r => by
    unfold tailInL PySem.W.tailIn
    rw [tailIn_of r]
    congr 1
    cases v <;> try rfl
    simp only [nsOk_of]
    rfl
def excInL (K : PySem.W.Frag) (C : Addr) (bmB : List Value) (newId : String) : Bool := match K.lookup C with
  | some ⟨.type "type", _, .cls cd, sl⟩ => (match cd.mro, sl.toList with
    | .ref C' :: bm, [_, _, _, _, some (.builtin n), _] => C' == C && n == newId && !cd.hasDel && tailInL K bmB bm && nsOkL K cd.ns && PySem.W.nsIn K cd.ns "__init__" == some none
    | _, _ => false)
  | _ => false
theorem excIn_of {K : PySem.W.Frag} {C : Addr} {bmB : List Value} {newId : String} (h : excInL K C bmB newId = true) : PySem.W.excIn K C bmB newId = true := by
  rw [← h]
  unfold excInL PySem.W.excIn
  simp only [tailIn_of, nsOk_of]
  rfl
/-! ### an own error class without __init__, made of nothing -/
def XoC (K : PySem.W.Frag) (mg : Str → Option Value) (bmB : List Value) (newId : String) (c : Str) : Prop := ∃ C : Addr, mg c = some (.ref C) ∧ PySem.W.excIn K C bmB newId = true ∧ PySem.W.keepIn K (.ref C) = true
def mMkx0 (c : Str) : ME := fun _ => .ok (.xob c [] [])
theorem ee_mkx0 {bmB : List Value} {B newId initId : String} (F : ExcBaseFacts B newId initId bmB) (T : XoC X.K X.mg bmB newId c) (hg : Gl X c := by rfl) (hdb : (c == ("__debug__" : Str)) = false := by decide)
    (hall : (backToKw pos (keywordEach [] X.env)).all (·.1.isSome) = true := by rfl) (hks : (backToKw pos (keywordEach [] X.env)).filterMap (·.1) = [] := by rfl)
    (hpl : ((backTo pos (starEach [] X.env)).any (·.1) || (backToKw pos (keywordEach [] X.env)).any (·.1.isNone)) = false := by rfl) : EE X W (.Call (.Name c p1) [] [] pos) (mMkx0 c) := by
  obtain ⟨C, gC, q, kC⟩ := T
  refine ⟨fun σ H Q => ∀ a, H a = none → Q (.ref a) (upd H a (exo a C none)), ⟨fun pins s σ H Q I h => ?_⟩, fun n Z H0 m r σ H hn Q p => fun x nx => ?_⟩
  · refine wpAny_Call_Name_kw (ld_glob I hg gC ?_ hdb)
    refine PySem.W.callWith_KW0 (h₀ := X.base) I.ok.mod.kin kC hall ?_ hpl
    refine thn (pk_nil.run pos pins s σ H (fun ws H1 => ws = [] ∧ H1 = H) I ⟨rfl, rfl⟩) fun ws s1 ⟨vs, H1, I1, r1, e1, e2⟩ => ⟨I1.kIn, ?_⟩
    subst e1 e2
    cases r1
    rw [hks]
    show wpAny _ _ (call (.ref C) []) _ _ _
    obtain ⟨bm, N, nm, qn, bs, hdct, sn, sub, ab, col, dd, k0, k1, k2, k3, k5, mN, hC, hN, hni, T⟩ := exc_obj I1.kIn q
    refine wpAny_call_exc_subT F T hC hN hni (fun h' a hm => ?_) (by show 0 ≤ sizeLine; rw [sizeLine_eq]; omega)
    have hn : H1 a = none := I1.hok.gone hm.new
    obtain ⟨t, ht, _, _⟩ := hm.there
    exact ⟨.ref a, upd H1 a (exo a C none), I1.laidN hm.keeps hm.new hn (exo_ok ht), rfl, h a hn⟩
  · obtain ⟨z1, m1⟩ := hn.new nx
    refine p _ _ (same_upd nx) ?_
    simp only [Rep]
    exact ⟨x, C, none, [], rfl, gC, hid_of upd_same z1 m1, (fun _ e => by cases e), (fun _ => trivial), rfl, RepL.nil⟩
/-! ### try: .. except X as n: .. -/
def fin (i : Nat) : Fl → Fl
  | .nx r => .nx (r.set i none)
  | .bk r => .bk (r.set i none)
  | .ct r => .ct (r.set i none)
  | .ex _ _ _ _ => .bad
  | f => f
open Classical in
noncomputable def mTryAs (i : Nat) (ct : Str → Option Bool) (ms : MS) (mu : Nat → Nat → Str → MS) : MS := fun r => match ms r with
  | .ex c ns xs r' => (match ct c with
    | some true => if ns ≠ [] ∧ ∀ a dx, fin i (mu a dx c (r'.set i (some (.val (.exv a dx c ns xs))))) = fin i (mu 0 0 c (r'.set i (some (.val (.exv 0 0 c ns xs))))) then fin i (mu 0 0 c (r'.set i (some (.val (.exv 0 0 c ns xs))))) else .bad
    | some false => .ex c ns xs r'
    | none => .bad)
  | f => f
theorem PostS.fin {K : PySem.W.Frag} {mg : Str → Option Value} {n : Nat} {Z : Addr → Prop} {H0 G : Hp} {W W' : WX} {f : Fl} {D : Ends} {i : Nat} (h : PostS K mg n Z H0 W G (QB.fin i f) D) :
    PostS K mg n Z H0 W' G f { nx := fun σ' H' => D.nx (σ'.set i none) H', rt := D.rt, bk := fun σ' H' => D.bk (σ'.set i none) H', ct := fun σ' H' => D.ct (σ'.set i none) H' } := by
  cases f with
  | nx r => exact fun m σ H q s => h (drp m i) (σ.set i none) H (q.unset i) (s.trans same_drp)
  | bk r => exact fun m σ H q s => h (drp m i) (σ.set i none) H (q.unset i) (s.trans same_drp)
  | ct r => exact fun m σ H q s => h (drp m i) (σ.set i none) H (q.unset i) (s.trans same_drp)
  | rt d => exact h
  | rc d => exact h
  | ex c ns xs r => exact False.elim h
  | bad => exact h
theorem es_tryAs {x nm : Str} {i : Nat} {cv : Value} {body suite : List Stmt} {b₀ : Stmt} {np pos' : Pos} {mb : MS} {mu : Nat → Nat → Str → MS} {ct : Str → Option Bool} (hs : X.stack = X.env :: X.outer) (hf : X.env.frame = some X.env.locals) (hN : X.N.Nodup) (hi : X.N[i]? = some nm) (hln : X.env.kindOf nm = some .local) (hc : Names X x cv) (tk : Takes X W)
    (hct : ∀ c b, ct c = some b → ∀ C, X.mg c = some (.ref C) → PySem.W.exmOne X.K (.ref C) cv = some b)
    (hb : ∀ (W' : WX) (pn : List (Addr × Obj)) (xe : Value → Shared → Prop), Takes (X.tr pn xe) W' → PassesOwn (model X.prog X.w) X.A X.env xe → EB (X.tr pn xe) W' body mb)
    (hsu : ∀ (c : Str) (C : Addr), X.mg c = some (.ref C) → ∀ (a : Addr) (oe : Obj) (dx : Addr) (pn : List (Addr × Obj)), Zc (.ref C) (some dx) oe → (∃ vs, oe.data = .fields vs) → EB (X.suite a ((a, oe) :: pn)) W0 (b₀ :: suite) (mu a dx c)) :
    ES X W (.Try body [.ExceptHandler (some (.Name x np)) (some nm) (b₀ :: suite) pos'] [] [] pos) (mTryAs i ct mb mu) := by
  let tb : WX → TS := fun W' D σ H => ∀ (pn : List (Addr × Obj)) (xe : Value → Shared → Prop) (h1 : Takes (X.tr pn xe) W') (h2 : PassesOwn (model X.prog X.w) X.A X.env xe), (hb W' pn xe h1 h2).ex.choose D σ H
  let ts : Addr → Value → Option Addr → TS := fun a cls d D σ H => ∃ (c : Str) (C dx : Addr) (hm : X.mg c = some (.ref C)) (e1 : cls = .ref C) (e2 : d = some dx), ∀ (oe : Obj) (pn : List (Addr × Obj)) (h1 : Zc (.ref C) (some dx) oe) (h2 : ∃ vs, oe.data = .fields vs), (hsu c C hm a oe dx pn h1 h2).ex.choose D σ H
  refine ⟨fun D σ H => tb (wAs X.K cv i ts W D) D σ H, ps_try_as (tb := tb) (ts := ts) hs hf hN hi hln hc tk (fun W' pn xe h1 h2 => ⟨fun pins s σ H D I z => (hb W' pn xe h1 h2).ex.choose_spec.1.run pins s σ H D I (z pn xe h1 h2)⟩)
    (fun a oe cls d pn h1 h2 => ⟨fun pins s σ H D I z => ?_⟩), fun n Z H0 m r σ H hn q D p pn xe h1 h2 => ?_⟩
  · obtain ⟨c, C, dx, hm, rfl, rfl, z⟩ := z
    exact (hsu c C hm a oe dx pn h1 h2).ex.choose_spec.1.run pins s σ H D I (z oe pn h1 h2)
  refine (hb _ pn xe h1 h2).ex.choose_spec.2 n Z H0 m r σ H hn q D ?_
  show PostS X.K X.mg n Z H0 (wAs X.K cv i ts W D) (hid Z m H) (mb r) D
  unfold mTryAs at p
  cases e : mb r with
  | nx r' =>
    rw [e] at p
    exact p
  | rt d =>
    rw [e] at p
    exact p
  | rc d =>
    rw [e] at p
    exact p
  | bk r' =>
    rw [e] at p
    exact p
  | ct r' =>
    rw [e] at p
    exact p
  | bad =>
    rw [e] at p
    exact p
  | ex c ns xs r' =>
    rw [e] at p
    intro m' σ' H' C d q' s' ea
    simp only at p
    cases ec : ct c with
    | none =>
      rw [ec] at p
      exact False.elim p
    | some b =>
      rw [ec] at p
      refine ⟨b, hct c b ec C ea.1, fun hb1 a na => ?_, fun hb0 => ?_⟩
      · subst hb1
        simp only at p
        split at p
        · rename_i hu
          obtain ⟨hne, hun⟩ := hu
          rcases ea.2 with ⟨e1, _, _⟩ | ⟨dd, vs, e1, e2, e3, e4⟩
          · exact absurd e1 hne
          · subst e1
            refine ⟨c, C, dd, ea.1, rfl, rfl, fun oe pn2 z1 z2 => ?_⟩
            have hlt : i < n := by
              rw [hn]
              exact (List.getElem?_eq_some_iff.mp hi).1
            have qs := q'.setv (i := i) (d := .exv a dd c ns xs) (v := .ref a) hlt (by simp only [Rep]; exact ⟨C, vs, trivial, ea.1, e2, e3, e4⟩)
            refine (hsu c C ea.1 a oe dd pn2 z1 z2).ex.choose_spec.2 n Z H0 (drp m' i) _ _ H' hn qs _ ?_
            rw [← hun a dd] at p
            exact PostS.fin ((PostS.grow p s').grow same_drp)
        · exact False.elim p
      · subst hb0
        exact p m' σ' H' C d q' s' ea
end
end QB

theorem L2H.RoomH.units {k : Nat} {A : PySem.Around} (r : L2H.RoomH k A) : A.units + 64 < PySem.cLine := by have := r.un; omega
namespace QB
open PySem PySem.Spec PyProof.Rows L2
/-! ### defs called within an except suite: they raise nothing -/
def nox {α : Type} : R α → R α
  | .exc _ _ _ => .bad
  | x => x
@[simp] theorem nox_ok {α : Type} (a : α) : nox (.ok a) = .ok a := rfl
abbrev PFn (K : PySem.W.Frag) (mg : Str → Option Value) (n : Nat) (mf : List D → R D) : Sp := PF K mg n (fun ds => nox (mf ds))
/-- a def that raises nothing, called where an error is being handled -/
structure FnC (P : Program) (w : World) (K : PySem.W.Frag) (mg : Str → Option Value) (base : Heap) (k : Nat) (f : Addr) (fd : FuncData) (ps : List Str) (sp : Sp) : Prop where
  len : ∀ vs H Q E, sp vs H Q E → vs.length = ps.length
  run : ∀ (A : Around) (a : Addr) (outer : List Env) (s : Shared) (H : Hp) (args : Args) (us : List Value) (vs : List V) (Q : VK) (E : XK), Room k A → Env0 P w K mg base A outer s H → BindsTo s fd args (ps.zip us) → Vals vs us → sp vs H Q E →
    codeAny (model P w) (A.mark (some (.ref a))) (.call (.ref f) args) (fun r s' => match r with
      | .ok (.ret u) => CE outer P w H s Q u s'
      | _ => False) s
theorem cold_inv {X : Cx} {σ : L2.St} {H : Hp} {s : Shared} (I : Inv X [] σ H s) (a : Addr) : Inv (X.suite a []) [] σ H s where
  ok := I.ok.suite a []
  os := I.os
  bare := I.bare
  base := I.base
  loc := I.loc
  cell := I.cell
  free := I.free
  freeC := I.freeC
  pin := fun p hp => by cases hp
  hok := I.hok
  len := I.len
theorem def_okH {P : Program} {w : World} {K : PySem.W.Frag} {mg : Str → Option Value} {base : Heap} {x qual : Str} {st : Stmt} {f : Addr} {fd : FuncData} {N ps : List Str} {k np : Nat} {ms : MS} (F : Fun K x qual st f fd) (S : FnScope N ps (defScope st)) (hp : ps.length = np) (hN : np ≤ N.length)
    (hb : ∀ (cdv : Value) (A : Around) (outer : List Env) (s : Shared) (H : Hp) (E : XK) (a : Addr), L2H.RoomH k ((A.deeper (envOfC qual (defScope st) s.heap.objs.size f cdv)).mark (some (.ref a))) →
      EB ((cxOf (L2.CX P w) P w K mg base N qual (defScope st) f cdv A outer s H E).suite a []) W0 (defBody st) ms) : FnC P w K mg base (k + 1) f fd ps (PFn K mg np (mDef N.length ms)) := by
  obtain ⟨oc, od, kV, doc, pm, an, cdv, ct, osl, rfl, lk, hcd⟩ := F.ex
  refine ⟨fun vs H Q E h => by rw [hp]; exact h.1, fun A a outer s H args us vs Q E hr e0 hbd r h => ?_⟩
  have KX : K.In s.heap := e0.mod.kin.keeps fun b o e => (e0.bs b o e).1
  have li := e0.mod.nolimit.keeps (h' := s.heap) fun b o e => (e0.bs b o e).1
  have hk : ∀ y ∈ ps.zip us, (defScope st).names.lookup y.1 = some .local ∨ ((defScope st).names.lookup y.1 = some .cell ∧ ((cellsFrom (s.heap.objs.size + 1) (defScope st).names []).lookup y.1).isSome = true) := by
    rintro ⟨n, v⟩ hy
    have z := S.par n (List.of_mem_zip hy).1
    exact z.elim .inl fun q => .inr ⟨q, PySem.W.cellsFrom_some _ _ _ (.inl q)⟩
  have hroom : (A.mark (some (.ref a))).depth < recursionLimit := hr.depth
  refine codeAny_call_function hroom (KX _ _ lk) rfl S.co S.gen rfl (PySem.W.codeRec_of KX hcd) (hbd _ _ _ _ ?_)
  refine wpAny_newFunctionEnv_cells S.kind hk fun env he s1 x => ?_
  subst he
  refine ⟨li.keeps x.toInCall.keep, codeAny_func ?_⟩
  obtain ⟨hl, ds, Z, hZ, rl, p⟩ := h
  simp only [] at p
  have hr2 := L2H.roomH_mark (hr.deeper (envOfC qual (defScope st) s.heap.objs.size f cdv)) (some (.ref a))
  obtain ⟨t, h1, h2⟩ := (hb cdv A outer s H E a hr2).ex
  have I0 := inv_start (CX := L2.CX P w) (E := E) S hr.hd e0 (by rw [hl, hp]) r x
  have I := cold_inv I0 a
  have q : Rel K mg N.length Z H nom (mStart N.length ds) (L2.start N vs) H := start_rel hZ rl (by omega)
  have hq : t { nx := fun _ H' => Q .non H', rt := Q } (L2.start N vs) H := by
    refine h2 N.length Z H nom _ _ H rfl q _ ?_
    unfold mDef at p
    cases e : ms (mStart N.length ds) with
    | nx r =>
      rw [e] at p
      exact fun m σ H' q' _ => p .non H' q'.same (by simp [Rep])
    | rt d =>
      rw [e] at p
      exact fun v H' s' rv => p v H' s' rv
    | _ =>
      rw [e] at p
      exact False.elim p
  refine wpAny_mono (h1.run [] s1 (L2.start N vs) H _ I hq) (fun fl s' hs => ?_) (fun e s' hs => False.elim hs)
  cases fl with
  | ret u =>
    obtain ⟨v, σ', H', J, rv, q⟩ := hs
    exact ⟨v, H', J.os, J.bare, J.base, J.hok, rv, q⟩
  | next =>
    obtain ⟨σ', H', J, q⟩ := hs
    exact ⟨.non, H', J.os, J.bare, J.base, J.hok, rfl, q⟩
  | brk => exact hs.elim fun _ z => z.elim fun _ z => False.elim z.2
  | cont => exact hs.elim fun _ z => z.elim fun _ z => False.elim z.2
structure OkH (P : Program) (w : World) (K : PySem.W.Frag) (mg : Str → Option Value) (base : Heap) (k : Nat) (x : Str) (n : Nat) (mf : List D → R D) : Prop where
  ex : ∃ (f : Addr) (fd : FuncData) (ps : List Str), mg x = some (.ref f) ∧ PySem.W.keepIn K (.ref f) = true ∧ Binds K fd ps [] ∧ FnC P w K mg base k f fd ps (PFn K mg n mf)
section
variable {X : Cx} {W : WX} {a b e : Expr} {es : List Expr} {me ma : ME} {ms mk : MA} {pos p1 : Pos} {k kk n : Nat} {x : Str} {mf : List D → R D}
def mCallH (mf : List D → R D) (ms : MA) : ME := mCallB (fun ds => nox (mf ds)) ms
/-- a call in a clause's suite -/
theorem ee_callH {X0 : Cx} {ad : Addr} {pn : List (Addr × Obj)} (F : OkH X0.prog X0.w X0.K X0.mg X0.base k x n mf) (hr : Room kk X0.A) (hk : k ≤ kk) (ha : EA (X0.suite ad pn) W (a :: es) ms) (hl : ALen ms n) (hg : Gl X0 x := by rfl) (hdb : (x == ("__debug__" : Str)) = false := by decide)
    (he : starEach (a :: es) X0.env = (false, eval a X0.env) :: starEach es X0.env := by rfl) (hpl : (backTo pos (starEach es X0.env)).any (·.1) = false := by rfl) : EE (X0.suite ad pn) W (.Call (.Name x p1) (a :: es) [] pos) (mCallH mf ms) := by
  obtain ⟨f, fd, ps, h1, h2, h3, h4⟩ := F.ex
  obtain ⟨t, g1, g2⟩ := ha.ex
  refine ⟨_, ⟨fun pins s σ H Q I h => ?_⟩, g2.len hl (PF X0.K X0.mg n (fun ds => nox (mf ds)))⟩
  refine wpAny_Call_Name_kw (ld_glob I hg h1 ?_ hdb)
  refine PySem.W.callWith_K (h₀ := X0.base) I.ok.mod.kin h2 (thn (g1.run pos pins s σ H _ I h) fun us s1 ⟨vs, H1, I1, r, q⟩ => ⟨I1.kIn, ?_⟩) he hpl
  have lu : us.length = ps.length := by
    rw [← r.length]
    exact h4.len _ _ _ _ q
  have b := h3 s1 us I1.kIn (by rw [List.append_nil]; exact lu)
  rw [List.append_nil] at b
  have e1 := I1.env0
  have e0 : Env0 X0.prog X0.w X0.K X0.mg X0.base X0.A X0.stack s1 H1 := ⟨e1.frames, e1.mod, e1.bs, e1.bsz, e1.funs, e1.frf, e1.hok, e1.bare⟩
  refine wpAny_call (codeAny_mono (h4.run X0.A ad X0.stack s1 H1 ⟨us, []⟩ us vs Q _ (hr.mono hk) e0 b r q) fun rr s' hq => ?_)
  cases rr with
  | error e => exact hq.elim
  | ok fl =>
    cases fl with
    | ret u => exact I1.after hq
    | _ => exact hq.elim
end
end QB

namespace QB
open PySem
open Builtin.Int (intBits)
/-! ### rows for simp: how a mirror is run -/
theorem q_rb_ok {α β : Type} {a : α} {f : α → R β} : R.bind (.ok a) f = f a := id rfl
theorem q_rb_bad {α β : Type} {f : α → R β} : R.bind (.bad) f = .bad := id rfl
theorem q_rb_exc {α β : Type} {c ns xs} {f : α → R β} : R.bind (.exc c ns xs) f = .exc c ns xs := id rfl
theorem q_tf_ok {β : Type} {r : Sc} {a : β} {k : β → Fl} : toFl r (.ok a) k = k a := id rfl
def Fl.andThen (a : Fl) (b : MS) : Fl := match a with
  | .nx r => b r
  | f => f
theorem q_sq {a b : MS} {r : Sc} : mSeq a b r = Fl.andThen (a r) b := id rfl
theorem q_at_nx {r : Sc} {b : MS} : Fl.andThen (.nx r) b = b r := id rfl
theorem q_at_rt {d : D} {b : MS} : Fl.andThen (.rt d) b = .rt d := id rfl
theorem q_at_bk {r : Sc} {b : MS} : Fl.andThen (.bk r) b = .bk r := id rfl
theorem q_at_ct {r : Sc} {b : MS} : Fl.andThen (.ct r) b = .ct r := id rfl
theorem q_at_ex {c ns xs} {r : Sc} {b : MS} : Fl.andThen (.ex c ns xs r) b = .ex c ns xs r := id rfl
def Fl.sel (k : Bool) (a b : Fl) : Fl := match k with
  | true => a
  | false => b
theorem q_mi {mt : MT} {a b : MS} {r : Sc} : mIf mt a b r = toFl r (mt r) (fun k => Fl.sel k (a r) (b r)) := by
  unfold mIf
  congr 1
theorem q_sel_t {a b : Fl} : Fl.sel true a b = a := id rfl
theorem q_sel_f {a b : Fl} : Fl.sel false a b = b := id rfl
def Fl.out (f : Fl) : R D := match f with
  | .rt d => .ok d
  | .nx _ => .ok .non
  | .ex c ns xs _ => .exc c ns xs
  | _ => .bad
theorem q_df {n : Nat} {ms : MS} {ds : List D} : mDef n ms ds = Fl.out (ms (mStart n ds)) := id rfl
theorem q_out_rt {d : D} : Fl.out (.rt d) = .ok d := id rfl
theorem q_out_nx {r : Sc} : Fl.out (.nx r) = .ok .non := id rfl
theorem q_out_ex {c ns xs} {r : Sc} : Fl.out (.ex c ns xs r) = .exc c ns xs := id rfl
theorem q_v0 {d : D} {r : Sc} : mVar 0 (some (.val d) :: r) = .ok d := id rfl
theorem q_vs {i : Nat} {x : Option EV} {r : Sc} : mVar (i + 1) (x :: r) = mVar i r := by simp [mVar]
theorem q_w0 {d : D} {r : Sc} : mVarW 0 (some (.val d) :: r) = .ok d := id rfl
theorem q_w0o {c : Cell} {r : Sc} : mVarW 0 (some (.own c) :: r) = .ok (thawed c) := id rfl
theorem q_ws {i : Nat} {x : Option EV} {r : Sc} : mVarW (i + 1) (x :: r) = mVarW i r := by simp [mVarW]
def asB : D → R Bool
  | .bl k => .ok k
  | _ => .bad
theorem q_tbq {me : ME} {r : Sc} : mTB me r = R.bind (me r) asB := by
  unfold mTB
  congr 1
theorem q_asb {b : Bool} : asB (.bl b) = .ok b := id rfl
theorem q_nt {mt : MT} {r : Sc} : mTNot mt r = R.bind (mt r) (fun k => .ok (!k)) := id rfl
def R.sel {α : Type} (k : Bool) (a b : R α) : R α := match k with
  | true => a
  | false => b
theorem q_rsel_t {α : Type} {a b : R α} : R.sel true a b = a := id rfl
theorem q_rsel_f {α : Type} {a b : R α} : R.sel false a b = b := id rfl
theorem q_ta {mt mu : MT} {r : Sc} : mTAnd mt mu r = R.bind (mt r) (fun k => R.sel k (mu r) (.ok false)) := by
  unfold mTAnd
  congr 1
theorem q_to {mt mu : MT} {r : Sc} : mTOr mt mu r = R.bind (mt r) (fun k => R.sel k (.ok true) (mu r)) := by
  unfold mTOr
  congr 1
theorem q_va {ma mb : ME} {r : Sc} : mAnd ma mb r = R.bind (ma r) (fun d => R.bind (asB d) fun k => R.sel k (mb r) (.ok (.bl false))) := by
  unfold mAnd
  congr 1
  funext d
  cases d <;> try rfl
  rename_i b
  cases b <;> rfl
theorem q_vo {ma mb : ME} {r : Sc} : mOr ma mb r = R.bind (ma r) (fun d => R.bind (asB d) fun k => R.sel k (.ok (.bl true)) (mb r)) := by
  unfold mOr
  congr 1
  funext d
  cases d <;> try rfl
  rename_i b
  cases b <;> rfl
theorem q_vn {ma : ME} {r : Sc} : mNot ma r = R.bind (ma r) (fun d => R.bind (asB d) fun k => .ok (.bl (!k))) := by
  unfold mNot
  congr 1
  funext d
  cases d <;> rfl
theorem q_sett {me : ME} {i : Nat} {r : Sc} : mSet i me r = toFl r (me r) (fun d => .nx (r.set i (some (.val d)))) := id rfl
theorem q_seto {me : MF} {i : Nat} {r : Sc} : mSetO i me r = toFl r (me r) (fun d => .nx (r.set i (some (.own d)))) := id rfl
theorem q_bin {f : D → D → R D} {ma mb : ME} {r : Sc} : mBin f ma mb r = (ma r).bind fun a => (mb r).bind fun b => f a b := id rfl
theorem q_c {d : D} {r : Sc} : mC d r = .ok d := id rfl
theorem q_callb {f : List D → R D} {ms : MA} {r : Sc} : mCallB f ms r = (ms r).bind f := id rfl
theorem q_cons {ma : ME} {ms : MA} {r : Sc} : mCons ma ms r = (ma r).bind fun d => (ms r).bind fun ds => .ok (d :: ds) := id rfl
theorem q_nil {r : Sc} : mNil r = .ok [] := id rfl
theorem q_tup {ms : MA} {r : Sc} : mTup ms r = (ms r).bind fun ds => if ds.length ≤ sizeLine then .ok (.tup ds) else .bad := id rfl
theorem q_lst {ms : MA} {r : Sc} : mLst ms r = (ms r).bind fun ds => if ds.length ≤ sizeLine then .ok (.l ds) else .bad := id rfl
theorem q_celle {mf : MF} {r : Sc} : mCellE mf r = (mf r).bind fun c => .ok (thawed c) := id rfl
theorem q_ret {me : ME} {r : Sc} : mRet me r = toFl r (me r) fun d => .rt d := id rfl
theorem q_nx {r : Sc} : mNx r = .nx r := id rfl
theorem q_thl {xs : List D} : thawed (.l xs) = .lst xs := id rfl
theorem q_thd {ks : List L2.Key} {xs : List D} : thawed (.d ks xs) = .dct ks xs := id rfl
theorem q_isi {T : String} {me : ME} {r : Sc} : mIsi T me r = (me r).bind (dIsi T) := id rfl
def negD : D → R D
  | .int i => .ok (.int (-i))
  | _ => .bad
theorem q_neg {ma : ME} {r : Sc} : mNeg ma r = (ma r).bind negD := by
  unfold mNeg
  congr 1
theorem q_neg_i {i : Int} : negD (.int i) = .ok (.int (-i)) := id rfl
theorem q_callk {mf : List D → R D} {is : List Nat} {ms mk : MA} {r : Sc} : mCallK mf is ms mk r = (ms r).bind fun ds => (mk r).bind fun es => mf (permL is (ds ++ es)) := id rfl
theorem q_st {n : Nat} {ds : List D} : mStart n ds = ds.map (fun d => some (EV.val d)) ++ List.replicate (n - ds.length) none := id rfl
theorem q_drop {me : ME} {r : Sc} : mDrop me r = toFl r (me r) fun _ => .nx r := id rfl
theorem q_retn {r : Sc} : mRetN r = .rt .non := id rfl
theorem q_brk {r : Sc} : mBrk r = .bk r := id rfl
theorem q_cnt {r : Sc} : mCnt r = .ct r := id rfl
theorem q_scal {me : ME} {r : Sc} : mScal me r = (me r).bind fun d => match d with
  | .non => .ok .non
  | .bl b => .ok (.bl b)
  | .int i => .ok (.int i)
  | .str s => .ok (.str s)
  | _ => .bad := id rfl
theorem q_ife {mt : MT} {ma mb : ME} {r : Sc} : mIfE mt ma mb r = (mt r).bind fun k => R.sel k (ma r) (mb r) := by
  unfold mIfE
  congr 1
theorem seq_nx {a b : MS} {r r' : Sc} (h : a r = .nx r') : mSeq a b r = b r' := by
  rw [q_sq, h, q_at_nx]
theorem seq_rt {a b : MS} {r : Sc} {d : D} (h : a r = .rt d) : mSeq a b r = .rt d := by
  rw [q_sq, h, q_at_rt]
theorem def_of {n : Nat} {ms : MS} {ds : List D} {d : D} (h : ms (mStart n ds) = .rt d) : mDef n ms ds = .ok d := by
  rw [q_df, h, q_out_rt]
theorem for_nx {mi : MA} {tb : D → Sc → Option Sc} {body : MS} {r r' : Sc} {ds : List D} (h1 : mi r = .ok ds) (h2 : loopL tb body ds r = .nx r') : mFor mi tb body r = .nx r' := by
  unfold mFor
  rw [h1]
  exact h2
theorem for_rt {mi : MA} {tb : D → Sc → Option Sc} {body : MS} {r : Sc} {d : D} {ds : List D} (h1 : mi r = .ok ds) (h2 : loopL tb body ds r = .rt d) : mFor mi tb body r = .rt d := by
  unfold mFor
  rw [h1]
  exact h2
theorem frz_nx {i : Nat} {ms : MS} {r : Sc} {c : Cell} {f : Fl} (h : r[i]? = some (some (.own c))) (h2 : ms (r.set i (some (.val (thawed c)))) = f) : mFrz i ms r = f := by
  unfold mFrz
  rw [h]
  exact h2
/-! own lists -/
theorem app_ok {i : Nat} {me : ME} {r : Sc} {xs : List D} {d : D} (h : r[i]? = some (some (.own (.l xs)))) (e : me r = .ok d) (hl : xs.length < sizeLine) : mApp i me r = .nx (r.set i (some (.own (.l (xs ++ [d]))))) := by
  unfold mApp
  rw [h]
  simp only [e, q_tf_ok, if_pos hl]
/-! ints -/
theorem q_add_i {i j : Int} : dAdd (.int i) (.int j) = .ok (.int (i + j)) := id rfl
theorem q_sub_i {i j : Int} : dSub (.int i) (.int j) = .ok (.int (i - j)) := id rfl
theorem q_mul_i {i j : Int} (h : intBits i + intBits j ≤ 134217728) : dMul (.int i) (.int j) = .ok (.int (i * j)) := if_pos h
theorem q_mod_i {i j : Int} (h : 0 < j) : dMod (.int i) (.int j) = .ok (.int (i % j)) := if_pos h
theorem q_div_i {i j : Int} (h : 0 < j) (h2 : j < 1000000000000000000000000000000) : dDiv (.int i) (.int j) = .ok (.int (i / j)) := by
  have : j.natAbs.log2 < 9000 := by
    have h0 : j.natAbs ≠ 0 := by omega
    have : j.natAbs.log2 < 100 := by
      rw [Nat.log2_lt h0]
      have : (2 : Nat) ^ 100 = 1267650600228229401496703205376 := by decide
      rw [this]
      omega
    omega
  exact if_pos ⟨h, this⟩
theorem q_cmp_i {g : Int → Int → Bool} {i j : Int} : dCmp g (.int i) (.int j) = .ok (.bl (g i j)) := id rfl
theorem q_lt_i {i j : Int} : dLt (.int i) (.int j) = .ok (.bl (decide (i < j))) := id rfl
theorem q_le_i {i j : Int} : dLe (.int i) (.int j) = .ok (.bl (decide (i ≤ j))) := id rfl
theorem q_gt_i {i j : Int} : dGt (.int i) (.int j) = .ok (.bl (decide (j < i))) := id rfl
theorem q_ge_i {i j : Int} : dGe (.int i) (.int j) = .ok (.bl (decide (j ≤ i))) := id rfl
theorem q_eqB_i {i j : Int} : dEqB (.int i) (.int j) = .ok (decide (i = j)) := by
  have : decide (L2.V.int i = L2.V.int j) = decide (i = j) := by
    by_cases h : i = j
    · subst h; simp
    · rw [decide_eq_false h, decide_eq_false fun e => h (L2.V.int.inj e)]
  unfold dEqB
  simp only [flatD]
  rw [if_pos (show L2.scal (L2.V.int i) (L2.V.int j) = true from rfl), this]
theorem q_eq_i {i j : Int} : dEq (.int i) (.int j) = .ok (.bl (decide (i = j))) := by unfold dEq; rw [q_eqB_i]; rfl
theorem q_ne_i {i j : Int} : dNe (.int i) (.int j) = .ok (.bl (!decide (i = j))) := by unfold dNe; rw [q_eqB_i]; rfl
theorem bits_lt {i : Int} (h1 : -1000000000000000000000000000000 < i) (h2 : i < 1000000000000000000000000000000) : intBits i ≤ 100 := intBits_le_iff.mpr (by
  have : (2 : Nat) ^ 100 = 1267650600228229401496703205376 := by decide
  rw [this]
  omega)
theorem q_mul_s {i j : Int} (h1 : -1000000000000000000000000000000 < i) (h2 : i < 1000000000000000000000000000000) (h3 : -1000000000000000000000000000000 < j) (h4 : j < 1000000000000000000000000000000) : dMul (.int i) (.int j) = .ok (.int (i * j)) :=
  q_mul_i (by have := bits_lt h1 h2; have := bits_lt h3 h4; omega)
/-! ### loops over mirrors -/
theorem loopL_inv {tb : D → Sc → Option Sc} {body : MS} (I : Nat → Sc → Prop) : ∀ (ds : List D) (i : Nat) (r : Sc), I i r → (∀ (j : Nat) (d : D) (r : Sc), ds[j]? = some d → I (i + j) r → ∃ r1 r2, tb d r = some r1 ∧ (body r1 = .nx r2 ∨ body r1 = .ct r2) ∧ I (i + j + 1) r2) → ∃ r', loopL tb body ds r = .nx r' ∧ I (i + ds.length) r'
  | [], i, r, h, _ => ⟨r, rfl, h⟩
  | d :: ds, i, r, h, st => by
    obtain ⟨r1, r2, e1, e2, h2⟩ := st 0 d r rfl h
    obtain ⟨r', e3, h3⟩ := loopL_inv I ds (i + 1) r2 h2 (fun j d' r' e h' => by
      have := st (j + 1) d' r' (by simpa using e) (by rw [show i + (j + 1) = i + 1 + j by omega]; exact h')
      rw [show i + (j + 1) + 1 = i + 1 + j + 1 by omega] at this
      exact this)
    refine ⟨r', ?_, by rw [List.length_cons, show i + (ds.length + 1) = i + 1 + ds.length by omega]; exact h3⟩
    simp only [loopL, e1]
    rcases e2 with e2 | e2 <;> rw [e2] <;> exact e3
/-- one name takes the items; the body never leaves -/
theorem for_inv {i : Nat} {body : MS} (I : Nat → Sc → Prop) {ds : List D} {r : Sc} (h0 : I 0 r) (st : ∀ (j : Nat) (d : D) (r : Sc), ds[j]? = some d → I j r → ∃ r2, body (r.set i (some (.val d))) = .nx r2 ∧ I (j + 1) r2) : ∃ r', loopL (bName i) body ds r = .nx r' ∧ I ds.length r' := by
  have := loopL_inv (tb := bName i) (body := body) I ds 0 r h0 (fun j d r e h => by
    rw [Nat.zero_add] at h
    obtain ⟨r2, h1, h2⟩ := st j d r e h
    refine ⟨_, r2, rfl, .inl h1, by rw [Nat.zero_add]; exact h2⟩)
  rw [Nat.zero_add] at this
  exact this
theorem sizeLine_big : 16777216 ≤ sizeLine := by decide
theorem rgD_get {lo : Int} {n i : Nat} {d : D} (h : (rgD lo n)[i]? = some d) : i < n ∧ d = .int (lo + (i : Int)) := by
  unfold rgD at h
  rw [List.getElem?_map] at h
  by_cases hi : i < n
  · simp [hi] at h
    exact ⟨hi, h.symm⟩
  · simp [hi] at h
theorem rgD_len {lo : Int} {n : Nat} : (rgD lo n).length = n := by simp [rgD]
end QB

namespace QB
open PySem
open Builtin.Int (intBits)
/-! ### what all laws draw with -/
theorem q_len_s {xs : List D} : dLen [.slst xs] = .ok (.int xs.length) := id rfl
theorem q_len_l {xs : List D} : dLen [.lst xs] = .ok (.int xs.length) := id rfl
theorem q_len_t {xs : List D} : dLen [.tup xs] = .ok (.int xs.length) := id rfl
theorem q_int_i {i : Int} : dInt [.int i] = .ok (.int i) := id rfl
theorem q_ix {d : D} {xs : List D} {i : Int} {x : D} (h : seqD d = some xs) (h0 : 0 ≤ i) (h1 : xs[i.toNat]? = some x) : dIx d (.int i) = .ok x := by
  have e : L2.atI xs i = some x := by
    unfold L2.atI L2.ixN
    have hl : i.toNat < xs.length := (List.getElem?_eq_some_iff.mp h1).1
    rw [if_pos h0, if_pos (by omega)]
    exact h1
  cases d <;> simp only [seqD, Option.some.injEq, reduceCtorEq] at h <;> subst h <;> simp only [dIx, seqD, e]
theorem q_items_s {xs : List D} : dItems (.slst xs) = .ok xs := id rfl
theorem q_items_l {xs : List D} : dItems (.lst xs) = .ok xs := id rfl
theorem q_items_t {xs : List D} : dItems (.tup xs) = .ok xs := id rfl
theorem q_for {mi : MA} {tb : D → Sc → Option Sc} {body : MS} {r : Sc} : mFor mi tb body r = toFl r (mi r) (fun ds => loopL tb body ds r) := id rfl
theorem q_it {me : ME} {r : Sc} : mItems me r = R.bind (me r) dItems := id rfl
theorem q_rg {ma : MA} {r : Sc} : mRg ma r = R.bind (ma r) dRg := id rfl
theorem q_rg1 {j : Int} (h0 : -1000000000 ≤ j) (h1 : j < 1000000000) : dRg [.int j] = .ok (rgD 0 j.toNat) := if_pos ⟨by omega, by omega⟩
theorem q_rg2 {i j : Int} (h0 : -1000000000 ≤ j) (h1 : j < 1000000000) (h2 : -1000000000 ≤ i) (h3 : i < 1000000000) : dRg [.int i, .int j] = .ok (rgD i (j - i).toNat) := if_pos ⟨⟨by omega, by omega⟩, by omega, by omega⟩
def cellM : List D → R D := mDef 4 (mSeq (mIf (mTB (mBin dLt (mVar 1) (mCallB dLen (mCons (mVar 0) mNil)))) (mRet (mBin dIx (mVar 0) (mVar 1))) mNx) (mSeq (mSet 2 (mC (.int 17))) (mSeq (mFor (mItems (mVar 0)) (bName 3) (mSet 2 (mBin dMod (mCallB dInt (mCons (mBin dAdd (mBin dMul (mVar 2) (mC (.int 31))) (mBin dMod (mCallB dInt (mCons (mVar 3) mNil)) (mC (.int 1000003)))) mNil)) (mC (.int 1000003))))) (mRet (mBin dMod (mCallB dInt (mCons (mBin dMul (mBin dMul (mBin dAdd (mVar 2) (mC (.int 7))) (mBin dAdd (mVar 1) (mC (.int 3)))) (mC (.int 69621))) mNil)) (mC (.int 2147483647)))))))
theorem cell_ok (ns : List Int) (hb : ∀ z ∈ ns, intBits z ≤ 1048576) (k : Int) (h0 : 0 ≤ k) (h1 : k < 1000000) : ∃ c, cellM [.slst (ns.map D.int), .int k] = .ok (.int c) ∧ intBits c ≤ 1048576 := by
  by_cases hk : k < ((ns.map D.int).length : Int)
  · have hl : k.toNat < ns.length := by
      rw [List.length_map] at hk
      omega
    have e1 : (ns.map D.int)[k.toNat]? = some (.int ns[k.toNat]) := by
      rw [List.getElem?_map, List.getElem?_eq_getElem hl]
      rfl
    refine ⟨ns[k.toNat], ?_, hb _ (List.getElem_mem hl)⟩
    simp only [cellM, q_df, q_st, q_sq, q_at_nx, q_at_rt, q_at_bk, q_at_ct, q_at_ex, q_mi, q_sel_t, q_sel_f, q_out_rt, q_out_nx, q_out_ex, q_rb_ok, q_rb_bad, q_rb_exc, q_tf_ok, q_v0, q_vs, q_w0, q_w0o, q_ws, q_tbq, q_asb, q_nt, q_rsel_t, q_rsel_f, q_ta, q_to, q_va, q_vo, q_vn, q_sett, q_seto, q_bin, q_c, q_callb, q_cons, q_nil, q_tup, q_lst, q_celle, q_ret, q_nx, q_thl, q_thd, q_isi, q_neg, q_neg_i, q_callk, q_drop, q_retn, q_brk, q_cnt, q_ife, q_add_i, q_sub_i, q_lt_i, q_le_i, q_gt_i, q_ge_i, q_eq_i, q_ne_i, List.map_cons, List.map_nil, List.length_cons, List.length_nil, List.replicate, List.append_nil, List.nil_append, List.cons_append, Nat.reduceAdd, Nat.reduceSub, List.getElem?_cons_zero, List.getElem?_cons_succ, List.set_cons_zero, List.set_cons_succ, Bool.not_true, Bool.not_false, decide_true, decide_false, if_true, if_false, q_len_s, decide_eq_true hk, q_ix (d := .slst (ns.map D.int)) rfl h0 e1]
  · obtain ⟨r', e, seed, y, hr, s0, s1⟩ := for_inv (i := 3) (body := mSet 2 (mBin dMod (mCallB dInt (mCons (mBin dAdd (mBin dMul (mVar 2) (mC (.int 31))) (mBin dMod (mCallB dInt (mCons (mVar 3) mNil)) (mC (.int 1000003)))) mNil)) (mC (.int 1000003))))
      (fun _ r => ∃ (seed : Int) (y : Option EV), r = [some (.val (.slst (ns.map D.int))), some (.val (.int k)), some (.val (.int seed)), y] ∧ 0 ≤ seed ∧ seed < 1000003) (ds := ns.map D.int) (r := [some (.val (.slst (ns.map D.int))), some (.val (.int k)), some (.val (.int 17)), none])
      ⟨17, none, rfl, by omega, by omega⟩ (fun j d r hd ⟨seed, y, hr, s0, s1⟩ => by
        subst hr
        rw [List.getElem?_map] at hd
        obtain ⟨z, _, rfl⟩ := Option.map_eq_some_iff.mp hd
        have m0 : 0 ≤ z % 1000003 := Int.emod_nonneg _ (by omega)
        have m1 : z % 1000003 < 1000003 := Int.emod_lt_of_pos _ (by omega)
        refine ⟨_, by simp only [q_df, q_st, q_sq, q_at_nx, q_at_rt, q_at_bk, q_at_ct, q_at_ex, q_mi, q_sel_t, q_sel_f, q_out_rt, q_out_nx, q_out_ex, q_rb_ok, q_rb_bad, q_rb_exc, q_tf_ok, q_v0, q_vs, q_w0, q_w0o, q_ws, q_tbq, q_asb, q_nt, q_rsel_t, q_rsel_f, q_ta, q_to, q_va, q_vo, q_vn, q_sett, q_seto, q_bin, q_c, q_callb, q_cons, q_nil, q_tup, q_lst, q_celle, q_ret, q_nx, q_thl, q_thd, q_isi, q_neg, q_neg_i, q_callk, q_drop, q_retn, q_brk, q_cnt, q_ife, q_add_i, q_sub_i, q_lt_i, q_le_i, q_gt_i, q_ge_i, q_eq_i, q_ne_i, List.map_cons, List.map_nil, List.length_cons, List.length_nil, List.replicate, List.append_nil, List.nil_append, List.cons_append, Nat.reduceAdd, Nat.reduceSub, List.getElem?_cons_zero, List.getElem?_cons_succ, List.set_cons_zero, List.set_cons_succ, Bool.not_true, Bool.not_false, decide_true, decide_false, if_true, if_false, q_int_i, q_mul_s (show -1000000000000000000000000000000 < seed by omega) (show seed < 1000000000000000000000000000000 by omega) (show (-1000000000000000000000000000000 : Int) < 31 by omega) (show (31 : Int) < 1000000000000000000000000000000 by omega), q_mod_i (show (0 : Int) < 1000003 by omega)], (seed * 31 + z % 1000003) % 1000003, some (.val (.int z)), rfl, Int.emod_nonneg _ (by omega), Int.emod_lt_of_pos _ (by omega)⟩)
    subst hr
    refine ⟨((seed + 7) * (k + 3) * 69621) % 2147483647, ?_, ?_⟩
    · have p0 : 0 ≤ (seed + 7) * (k + 3) := Int.mul_nonneg (by omega) (by omega)
      have p1 : (seed + 7) * (k + 3) ≤ 1000010 * 1000003 := Int.mul_le_mul (by omega) (by omega) (by omega) (by omega)
      simp only [cellM, q_df, q_st, q_sq, q_at_nx, q_at_rt, q_at_bk, q_at_ct, q_at_ex, q_mi, q_sel_t, q_sel_f, q_out_rt, q_out_nx, q_out_ex, q_rb_ok, q_rb_bad, q_rb_exc, q_tf_ok, q_v0, q_vs, q_w0, q_w0o, q_ws, q_tbq, q_asb, q_nt, q_rsel_t, q_rsel_f, q_ta, q_to, q_va, q_vo, q_vn, q_sett, q_seto, q_bin, q_c, q_callb, q_cons, q_nil, q_tup, q_lst, q_celle, q_ret, q_nx, q_thl, q_thd, q_isi, q_neg, q_neg_i, q_callk, q_drop, q_retn, q_brk, q_cnt, q_ife, q_add_i, q_sub_i, q_lt_i, q_le_i, q_gt_i, q_ge_i, q_eq_i, q_ne_i, List.map_cons, List.map_nil, List.length_cons, List.length_nil, List.replicate, List.append_nil, List.nil_append, List.cons_append, Nat.reduceAdd, Nat.reduceSub, List.getElem?_cons_zero, List.getElem?_cons_succ, List.set_cons_zero, List.set_cons_succ, Bool.not_true, Bool.not_false, decide_true, decide_false, if_true, if_false, q_len_s, decide_eq_false hk, q_for, q_it, q_items_s, e, q_int_i, q_mul_s (show -1000000000000000000000000000000 < seed + 7 by omega) (show seed + 7 < 1000000000000000000000000000000 by omega) (show -1000000000000000000000000000000 < k + 3 by omega) (show k + 3 < 1000000000000000000000000000000 by omega), q_mul_s (show -1000000000000000000000000000000 < (seed + 7) * (k + 3) by omega) (show (seed + 7) * (k + 3) < 1000000000000000000000000000000 by omega) (show (-1000000000000000000000000000000 : Int) < 69621 by omega) (show (69621 : Int) < 1000000000000000000000000000000 by omega), q_mod_i (show (0 : Int) < 2147483647 by omega)]
    · have m0 : 0 ≤ ((seed + 7) * (k + 3) * 69621) % 2147483647 := Int.emod_nonneg _ (by omega)
      have m1 : ((seed + 7) * (k + 3) * 69621) % 2147483647 < 2147483647 := Int.emod_lt_of_pos _ (by omega)
      exact Nat.le_trans (bits_lt (by omega) (by omega)) (by omega)
end QB

namespace QB
open PySem
open Builtin.Int (intBits)
/-! ### rows with conditions, for simp (disch := omega) -/
theorem t_lt_t {i j : Int} (h : i < j) : dLt (.int i) (.int j) = .ok (.bl true) := by rw [q_lt_i, decide_eq_true h]
theorem t_lt_f {i j : Int} (h : ¬ i < j) : dLt (.int i) (.int j) = .ok (.bl false) := by rw [q_lt_i, decide_eq_false h]
theorem t_le_t {i j : Int} (h : i ≤ j) : dLe (.int i) (.int j) = .ok (.bl true) := by rw [q_le_i, decide_eq_true h]
theorem t_le_f {i j : Int} (h : ¬ i ≤ j) : dLe (.int i) (.int j) = .ok (.bl false) := by rw [q_le_i, decide_eq_false h]
theorem t_gt_t {i j : Int} (h : j < i) : dGt (.int i) (.int j) = .ok (.bl true) := by rw [q_gt_i, decide_eq_true h]
theorem t_gt_f {i j : Int} (h : ¬ j < i) : dGt (.int i) (.int j) = .ok (.bl false) := by rw [q_gt_i, decide_eq_false h]
theorem t_ge_t {i j : Int} (h : j ≤ i) : dGe (.int i) (.int j) = .ok (.bl true) := by rw [q_ge_i, decide_eq_true h]
theorem t_ge_f {i j : Int} (h : ¬ j ≤ i) : dGe (.int i) (.int j) = .ok (.bl false) := by rw [q_ge_i, decide_eq_false h]
theorem t_eq_t {i j : Int} (h : i = j) : dEq (.int i) (.int j) = .ok (.bl true) := by rw [q_eq_i, decide_eq_true h]
theorem t_eq_f {i j : Int} (h : ¬ i = j) : dEq (.int i) (.int j) = .ok (.bl false) := by rw [q_eq_i, decide_eq_false h]
theorem t_ne_t {i j : Int} (h : ¬ i = j) : dNe (.int i) (.int j) = .ok (.bl true) := by rw [q_ne_i, decide_eq_false h]; rfl
theorem t_ne_f {i j : Int} (h : i = j) : dNe (.int i) (.int j) = .ok (.bl false) := by rw [q_ne_i, decide_eq_true h]; rfl
theorem t_is_b {a b : Bool} : dIs (.bl a) (.bl b) = .ok (.bl (decide (a = b))) := id rfl
theorem t_isn_b {a b : Bool} : dIsNot (.bl a) (.bl b) = .ok (.bl (!decide (a = b))) := id rfl
theorem t_isn {a b : D} : dIsNot a b = (dIs a b).bind fun d => match d with
  | .bl c => .ok (.bl (!c))
  | _ => .bad := id rfl
theorem t_is_i {i : Int} : dIs (.int i) .non = .ok (.bl false) := id rfl
theorem t_is_n : dIs .non .non = .ok (.bl true) := id rfl
theorem t_isn_i {i : Int} : dIsNot (.int i) .non = .ok (.bl true) := id rfl
theorem t_isn_n : dIsNot .non .non = .ok (.bl false) := id rfl
theorem t_abs_n {i : Int} (h : i < 0) : dAbs [.int i] = .ok (.int (-i)) := by show R.ok (D.int (if i < 0 then -i else i)) = _; rw [if_pos h]
theorem t_abs_p {i : Int} (h : ¬ i < 0) : dAbs [.int i] = .ok (.int i) := by show R.ok (D.int (if i < 0 then -i else i)) = _; rw [if_neg h]
theorem t_min {i j : Int} : dMin [.int i, .int j] = .ok (.int (if j < i then j else i)) := id rfl
theorem t_max {i j : Int} : dMax [.int i, .int j] = .ok (.int (if j > i then j else i)) := id rfl
theorem t_addl {xs ys : List D} (h : xs.length + ys.length ≤ 16777216) : dAdd (.lst xs) (.lst ys) = .ok (.lst (xs ++ ys)) := if_pos (Nat.le_trans h sizeLine_big)
theorem t_ix_l {xs : List D} {i : Int} {x : D} (h0 : 0 ≤ i) (h1 : xs[i.toNat]? = some x) : dIx (.lst xs) (.int i) = .ok x := q_ix rfl h0 h1
theorem t_ix_t {xs : List D} {i : Int} {x : D} (h0 : 0 ≤ i) (h1 : xs[i.toNat]? = some x) : dIx (.tup xs) (.int i) = .ok x := q_ix rfl h0 h1
theorem t_ix_l0 {x : D} {xs : List D} : dIx (.lst (x :: xs)) (.int 0) = .ok x := q_ix rfl (by omega) rfl
theorem t_ix_t0 {x : D} {xs : List D} : dIx (.tup (x :: xs)) (.int 0) = .ok x := q_ix rfl (by omega) rfl
/-- what stands at a place, or nothing -/
def R.opt {α : Type} (o : Option α) : R α := match o with
  | some x => .ok x
  | none => .bad
theorem q_opt {α : Type} {x : α} : R.opt (some x) = .ok x := id rfl
theorem at_nat {α : Type} {xs : List α} {i : Int} (h0 : 0 ≤ i) : L2.atI xs i = xs[i.toNat]? := by
  unfold L2.atI L2.ixN
  rw [if_pos h0]
  by_cases h : i < (xs.length : Int)
  · rw [if_pos h]
    rfl
  · rw [if_neg h]
    have : xs.length ≤ i.toNat := by omega
    rw [List.getElem?_eq_none this]
    rfl
theorem t_ixl {xs : List D} {i : Int} (h0 : 0 ≤ i) : dIx (.lst xs) (.int i) = R.opt xs[i.toNat]? := by
  simp only [dIx, seqD, at_nat h0]
  cases xs[i.toNat]? <;> rfl
theorem t_ixt {xs : List D} {i : Int} (h0 : 0 ≤ i) : dIx (.tup xs) (.int i) = R.opt xs[i.toNat]? := by
  simp only [dIx, seqD, at_nat h0]
  cases xs[i.toNat]? <;> rfl
theorem t_ixs {xs : List D} {i : Int} (h0 : 0 ≤ i) : dIx (.slst xs) (.int i) = R.opt xs[i.toNat]? := by
  simp only [dIx, seqD, at_nat h0]
  cases xs[i.toNat]? <;> rfl
theorem t_ixL {xs : List D} {i : Int} (h0 : 0 ≤ i) : dIxL xs (.int i) = R.opt xs[i.toNat]? := by
  simp only [dIxL, at_nat h0]
  cases xs[i.toNat]? <;> rfl
/-- an own slot's thing -/
def ownC (i : Nat) (r : Sc) : Option Cell := match r[i]? with
  | some (some (.own c)) => some c
  | _ => none
def ownAt (i : Nat) (r : Sc) : Option (List D) := match r[i]? with
  | some (some (.own (.l xs))) => some xs
  | _ => none
theorem q_oc0 {c : Cell} {r : Sc} : ownC 0 (some (.own c) :: r) = some c := id rfl
theorem q_ocs {i : Nat} {x : Option EV} {r : Sc} : ownC (i + 1) (x :: r) = ownC i r := by simp [ownC]
theorem q_oa0 {xs : List D} {r : Sc} : ownAt 0 (some (.own (.l xs)) :: r) = some xs := id rfl
theorem q_oas {i : Nat} {x : Option EV} {r : Sc} : ownAt (i + 1) (x :: r) = ownAt i r := by simp [ownAt]
def appD (i : Nat) (r : Sc) (xs : List D) (d : D) : Fl := if xs.length < sizeLine then .nx (r.set i (some (.own (.l (xs ++ [d]))))) else .bad
theorem t_appd {i : Nat} {r : Sc} {xs : List D} {d : D} (hl : xs.length < 16777216) : appD i r xs d = .nx (r.set i (some (.own (.l (xs ++ [d]))))) := if_pos (Nat.lt_of_lt_of_le hl sizeLine_big)
theorem q_app {i : Nat} {me : ME} {r : Sc} : mApp i me r = toFl r (R.opt (ownAt i r)) fun xs => toFl r (me r) fun d => appD i r xs d := by
  unfold mApp ownAt
  cases e : r[i]? with
  | none => rfl
  | some x =>
    cases x with
    | none => rfl
    | some y =>
      cases y with
      | val _ => rfl
      | own c => cases c <;> rfl
def putD (i : Nat) (r : Sc) (xs : List D) (d : D) (j : D) : Fl := match j with
  | .int z => (match L2.ixN xs.length z with
    | some t => .nx (r.set i (some (.own (.l (xs.set t d)))))
    | none => .bad)
  | _ => .bad
theorem t_putd {i : Nat} {r : Sc} {xs : List D} {d : D} {z : Int} (h0 : 0 ≤ z) (h1 : z < (xs.length : Int)) : putD i r xs d (.int z) = .nx (r.set i (some (.own (.l (xs.set z.toNat d))))) := by
  have hx : L2.ixN xs.length z = some z.toNat := by
    unfold L2.ixN
    rw [if_pos h0, if_pos h1]
  unfold putD
  simp only [hx]
theorem q_six {i : Nat} {mb me : ME} {r : Sc} : mSetIx i mb me r = toFl r (me r) fun d => toFl r (R.opt (ownAt i r)) fun xs => toFl r (mb r) fun j => putD i r xs d j := by
  unfold mSetIx ownAt
  congr 1
  funext d
  cases e : r[i]? with
  | none => rfl
  | some x =>
    cases x with
    | none => rfl
    | some y =>
      cases y with
      | val _ => rfl
      | own c => cases c <;> rfl
def Fl.opt {α : Type} (o : Option α) (f : α → Fl) : Fl := match o with
  | some c => f c
  | none => .bad
theorem q_flopt {α : Type} {c : α} {f : α → Fl} : Fl.opt (some c) f = f c := id rfl
theorem q_frz {i : Nat} {ms : MS} {r : Sc} : mFrz i ms r = Fl.opt (ownC i r) fun c => ms (r.set i (some (.val (thawed c)))) := by
  unfold mFrz ownC
  cases e : r[i]? with
  | none => rfl
  | some x =>
    cases x with
    | none => rfl
    | some y => cases y <;> rfl
theorem q_ixo {i : Nat} {mb : ME} {r : Sc} : mIxO i mb r = (R.opt (ownAt i r)).bind fun xs => (mb r).bind (dIxL xs) := by
  unfold mIxO ownAt
  cases e : r[i]? with
  | none => rfl
  | some x =>
    cases x with
    | none => rfl
    | some y =>
      cases y with
      | val _ => rfl
      | own c => cases c <;> rfl
/-- one of a written list's ints -/
theorem pick_ok {L : List Int} {i : Int} (P : Int → Prop) (h0 : 0 ≤ i) (h1 : i < (L.length : Int)) (hP : ∀ z ∈ L, P z) : ∃ v, dIx (.lst (L.map D.int)) (.int i) = .ok (.int v) ∧ P v := by
  have hl : i.toNat < L.length := by omega
  refine ⟨L[i.toNat], ?_, hP _ (List.getElem_mem hl)⟩
  rw [t_ixl h0, List.getElem?_map, List.getElem?_eq_getElem hl]
  rfl
theorem t_ixo {xs : List D} {i : Int} {x : D} (h0 : 0 ≤ i) (h1 : xs[i.toNat]? = some x) : dIxL xs (.int i) = .ok x := by
  have := q_ix (d := .lst xs) (x := x) rfl h0 h1
  simp only [dIx, seqD] at this
  exact this
theorem t_ixom {i : Nat} {mb : ME} {r : Sc} {xs : List D} (h : r[i]? = some (some (.own (.l xs)))) : mIxO i mb r = (mb r).bind (dIxL xs) := by
  unfold mIxO
  rw [h]
theorem t_if {α : Type} {p : Prop} [Decidable p] {a b : α} (h : p) : (if p then a else b) = a := if_pos h
theorem t_lst {ms : MA} {r : Sc} {ds : List D} (h : ms r = .ok ds) (hl : ds.length ≤ 16777216) : mLst ms r = .ok (.l ds) := by
  rw [q_lst, h, q_rb_ok, if_pos (Nat.le_trans hl sizeLine_big)]
theorem t_tup {ms : MA} {r : Sc} {ds : List D} (h : ms r = .ok ds) (hl : ds.length ≤ 16777216) : mTup ms r = .ok (.tup ds) := by
  rw [q_tup, h, q_rb_ok, if_pos (Nat.le_trans hl sizeLine_big)]
theorem t_app {i : Nat} {me : ME} {r : Sc} {xs : List D} (h : r[i]? = some (some (.own (.l xs)))) (hl : xs.length < 16777216) : mApp i me r = toFl r (me r) fun d => .nx (r.set i (some (.own (.l (xs ++ [d]))))) := by
  unfold mApp
  rw [h]
  simp only [if_pos (Nat.lt_of_lt_of_le hl sizeLine_big)]
theorem t_six {i : Nat} {mb me : ME} {r : Sc} {xs : List D} {d : D} {z : Int} (h : r[i]? = some (some (.own (.l xs)))) (e : me r = .ok d) (eb : mb r = .ok (.int z)) (h0 : 0 ≤ z) (h1 : z < xs.length) : mSetIx i mb me r = .nx (r.set i (some (.own (.l (xs.set z.toNat d))))) := by
  unfold mSetIx
  have hx : L2.ixN xs.length z = some z.toNat := by
    unfold L2.ixN
    rw [if_pos h0, if_pos h1]
  simp only [e, q_tf_ok, h, eb, hx]
theorem t_frz {i : Nat} {ms : MS} {r : Sc} {c : Cell} (h : r[i]? = some (some (.own c))) : mFrz i ms r = ms (r.set i (some (.val (thawed c)))) := by
  unfold mFrz
  rw [h]
theorem t_szl {a : Nat} (h : a ≤ 16777216) : (a ≤ sizeLine) = True := eq_true (Nat.le_trans h sizeLine_big)
theorem t_tupc {d : D} {xs : List D} (h : seqD d = some xs) : dTupOf [d] = .ok (.tup xs) := by
  unfold dTupOf
  simp only [h]
/-! ### a comprehension that takes every item -/
theorem lc_all {vs : List Nat} {mi : MA} {tb : D → Sc → Option Sc} {me : ME} {r : Sc} {ds : List D} {f : Nat → D} (h0 : notOwn r vs = true) (h1 : mi r = .ok ds) (hl : ds.length < 10000000) (h2 : ∀ (j : Nat) (d : D), ds[j]? = some d → ∃ r1, tb d (wipeS r vs) = some r1 ∧ me r1 = .ok (f j)) :
    mLC vs mi tb mYes me r = .ok (.l ((List.range ds.length).map f)) := by
  have key : ∀ (es : List D) (i : Nat) (acc : List D), (∀ (j : Nat) (d : D), es[j]? = some d → ∃ r1, tb d (wipeS r vs) = some r1 ∧ me r1 = .ok (f (i + j))) → acc.length + es.length < 16777216 → compL tb mYes me (wipeS r vs) es acc = .ok (.l (acc ++ (List.range es.length).map fun j => f (i + j))) := by
    intro es
    induction es with
    | nil =>
      intro i acc _ _
      simp [compL]
    | cons d es ih =>
      intro i acc h hl
      obtain ⟨r1, e1, e2⟩ := h 0 d rfl
      rw [List.length_cons] at hl
      have hs : acc.length < sizeLine := Nat.lt_of_lt_of_le (by omega) sizeLine_big
      simp only [compL, e1, mYes, R.ne, q_rb_ok, e2, if_pos hs]
      rw [ih (i + 1) (acc ++ [f (i + 0)]) (fun j d' hd => by
        have := h (j + 1) d' (by simpa using hd)
        rw [show i + (j + 1) = i + 1 + j by omega] at this
        exact this) (by rw [List.length_append]; simp; omega)]
      rw [List.length_cons, List.range_succ_eq_map, List.map_cons, List.map_map, List.append_assoc]
      congr 3
      simp only [List.singleton_append]
      congr 1
      apply List.map_congr_left
      intro j _
      show f (i + 1 + j) = f (i + (j + 1))
      congr 1
      omega
  unfold mLC
  simp only [h0, h1, q_rb_ok]
  rw [key ds 0 [] (fun j d hd => by rw [Nat.zero_add]; exact h2 j d hd) (by simp; omega)]
  simp
end QB

namespace QB
open PySem
open Builtin.Int (intBits)
/-! ### the row of a cell -/
def digitsM : List D → R D := mDef 8 (mSeq (mSetO 2 (mLst mNil)) (mSeq (mSet 3 (mCallB dInt (mCons (mVar 0) mNil))) (mSeq (mIf (mTB (mBin dGe (mVar 3) (mBin dPow (mC (.int 10)) (mC (.int 18))))) (mSeq (mSet 3 (mBin dSub (mVar 3) (mBin dPow (mC (.int 10)) (mC (.int 18))))) (mSeq (mFor (mItems (mVar 1)) (bName 4) (mSeq (mApp 2 (mBin dMod (mCallB dInt (mCons (mVar 3) mNil)) (mVar 4))) (mSet 3 (mBin dDiv (mCallB dInt (mCons (mVar 3) mNil)) (mVar 4))))) (mRet (mVarW 2)))) mNx) (mSeq (mSet 5 (mBin dMod (mCallB dInt (mCons (mVar 3) mNil)) (mC (.int 2147483629)))) (mSeq (mFor (mRg (mCons (mCallB dLen (mCons (mVar 1) mNil)) mNil)) (bName 6) (mSeq (mSet 5 (mBin dMod (mCallB dInt (mCons (mBin dAdd (mBin dAdd (mBin dMul (mVar 5) (mC (.int 48271))) (mBin dMul (mC (.int 974711)) (mVar 6))) (mC (.int 12345))) mNil)) (mC (.int 2147483647)))) (mSeq (mSet 7 (mBin dMod (mCallB dInt (mCons (mBin dMul (mVar 5) (mBin dAdd (mBin dDiv (mVar 5) (mC (.int 65537))) (mC (.int 3)))) mNil)) (mC (.int 2147483629)))) (mApp 2 (mBin dMod (mBin dDiv (mVar 7) (mC (.int 19))) (mBin dIx (mVar 1) (mVar 6))))))) (mRet (mVarW 2)))))))
def DigOk : List Int → List Int → Prop
  | [], [] => True
  | s :: ss, x :: xs => (0 ≤ x ∧ x < s) ∧ DigOk ss xs
  | _, _ => False
theorem DigOk.nil {row : List Int} (h : DigOk [] row) : row = [] := by
  cases row with
  | nil => rfl
  | cons x xs => exact h.elim
theorem DigOk.cons {s : Int} {ss row : List Int} (h : DigOk (s :: ss) row) : ∃ x xs, row = x :: xs ∧ 0 ≤ x ∧ x < s ∧ DigOk ss xs := by
  cases row with
  | nil => exact h.elim
  | cons x xs => exact ⟨x, xs, rfl, h.1.1, h.1.2, h.2⟩
theorem DigOk.snoc {s x : Int} (h0 : 0 ≤ x) (h1 : x < s) : ∀ {ss xs : List Int}, DigOk ss xs → DigOk (ss ++ [s]) (xs ++ [x])
  | [], [], _ => ⟨⟨h0, h1⟩, trivial⟩
  | _ :: _, _ :: _, h => ⟨h.1, DigOk.snoc h0 h1 h.2⟩
  | [], _ :: _, h => h.elim
  | _ :: _, [], h => h.elim
theorem DigOk.len : ∀ {ss xs : List Int}, DigOk ss xs → xs.length = ss.length
  | [], [], _ => rfl
  | _ :: _, _ :: _, h => congrArg (· + 1) (DigOk.len h.2)
  | [], _ :: _, h => h.elim
  | _ :: _, [], h => h.elim
theorem DigOk.get : ∀ {ss xs : List Int}, DigOk ss xs → ∀ {i : Nat} {s : Int}, ss[i]? = some s → ∃ x, xs[i]? = some x ∧ 0 ≤ x ∧ x < s
  | _ :: _, x :: _, h, 0, s, e => by
    cases e
    exact ⟨x, rfl, h.1.1, h.1.2⟩
  | _ :: _, _ :: _, h, i + 1, s, e => DigOk.get h.2 (by simpa using e)
  | [], [], _, i, s, e => by simp at e
  | [], _ :: _, h, _, _, _ => h.elim
  | _ :: _, [], h, _, _, _ => h.elim
theorem pow_10_18 : dPow (.int 10) (.int 18) = .ok (.int 1000000000000000000) := by
  unfold dPow
  simp only []
  rw [if_pos (by decide)]
  rfl
theorem digits_ok (c : Int) (sz : List Int) (hs : ∀ s ∈ sz, 0 < s ∧ s < 1000000000000000) (hl : sz.length < 10000) : ∃ row : List Int, digitsM [.int c, .lst (sz.map D.int)] = .ok (.lst (row.map D.int)) ∧ DigOk sz row := by
  have take1 : ∀ (j : Nat) (s : Int), sz[j]? = some s → sz.take (j + 1) = sz.take j ++ [s] := fun j s e => by
    rw [List.take_succ, e]
    rfl
  by_cases hc : 1000000000000000000 ≤ c
  · obtain ⟨r2, e2, row, rest, x4, hr, hd⟩ := for_inv (i := 4) (body := (mSeq (mApp 2 (mBin dMod (mCallB dInt (mCons (mVar 3) mNil)) (mVar 4))) (mSet 3 (mBin dDiv (mCallB dInt (mCons (mVar 3) mNil)) (mVar 4)))))
      (fun j r => ∃ (row : List Int) (rest : Int) (x4 : Option EV), r = [some (.val (.int c)), some (.val (.lst (sz.map D.int))), some (.own (.l (row.map D.int))), some (.val (.int rest)), x4, none, none, none] ∧ DigOk (sz.take j) row) (ds := sz.map D.int)
      (r := [some (.val (.int c)), some (.val (.lst (sz.map D.int))), some (.own (.l (([] : List Int).map D.int))), some (.val (.int (c - 1000000000000000000))), none, none, none, none]) ⟨[], _, _, rfl, by rw [List.take_zero]; trivial⟩ (fun j d r hd ⟨row, rest, x4, hr, hD⟩ => by
        subst hr
        rw [List.getElem?_map] at hd
        obtain ⟨s, hs1, rfl⟩ := Option.map_eq_some_iff.mp hd
        obtain ⟨p0, p1⟩ := hs s (List.mem_of_getElem? hs1)
        have hj : j < sz.length := (List.getElem?_eq_some_iff.mp hs1).1
        have lr : row.length ≤ 10000 := by
          rw [hD.len, List.length_take]
          omega
        refine ⟨[some (.val (.int c)), some (.val (.lst (sz.map D.int))), some (.own (.l ((row ++ [rest % s]).map D.int))), some (.val (.int (rest / s))), some (.val (.int s)), none, none, none], ?_, row ++ [rest % s], rest / s, _, rfl, ?_⟩
        · simp only [List.set_cons_succ, List.set_cons_zero]
          rw [seq_nx (a := mApp _ _) (by rw [t_app (xs := row.map D.int) rfl (by rw [List.length_map]; omega)]; simp (disch := omega) only [q_df, q_st, q_sq, q_at_nx, q_at_rt, q_at_bk, q_at_ct, q_at_ex, q_mi, q_sel_t, q_sel_f, q_out_rt, q_out_nx, q_out_ex, q_rb_ok, q_rb_bad, q_rb_exc, q_tf_ok, q_v0, q_vs, q_w0, q_w0o, q_ws, q_tbq, q_asb, q_nt, q_rsel_t, q_rsel_f, q_ta, q_to, q_va, q_vo, q_vn, q_sett, q_seto, q_bin, q_c, q_callb, q_cons, q_nil, q_tup, q_lst, q_celle, q_ret, q_nx, q_thl, q_thd, q_isi, q_neg, q_neg_i, q_callk, q_drop, q_retn, q_brk, q_cnt, q_ife, q_add_i, q_sub_i, List.map_cons, List.map_nil, List.length_cons, List.length_nil, List.replicate, List.append_nil, List.nil_append, List.cons_append, Nat.reduceAdd, Nat.reduceSub, List.getElem?_cons_zero, List.getElem?_cons_succ, List.set_cons_zero, List.set_cons_succ, Bool.not_true, Bool.not_false, decide_true, decide_false, if_true, if_false, t_lt_t, t_lt_f, t_le_t, t_le_f, t_gt_t, t_gt_f, t_ge_t, t_ge_f, t_eq_t, t_eq_f, t_ne_t, t_ne_f, t_is_b, t_isn_b, t_is_i, t_is_n, t_isn_i, t_isn_n, t_abs_n, t_abs_p, t_min, t_max, t_ixl, t_ixt, t_ixs, t_ixL, q_opt, q_ixo, q_oc0, q_ocs, q_oa0, q_oas, t_appd, q_app, t_putd, q_six, q_flopt, q_frz, q_int_i, q_mul_s, q_mod_i, q_div_i, q_len_s, q_len_l, q_len_t, q_items_s, q_items_l, q_items_t, t_szl, Int.reduceToNat, Int.reduceNeg, permL, List.filterMap_cons, List.filterMap_nil, eq_self, if_true, if_false, ite_true, ite_false, Bool.true_eq_false, Bool.false_eq_true]; rfl)]
          simp (disch := omega) only [q_df, q_st, q_sq, q_at_nx, q_at_rt, q_at_bk, q_at_ct, q_at_ex, q_mi, q_sel_t, q_sel_f, q_out_rt, q_out_nx, q_out_ex, q_rb_ok, q_rb_bad, q_rb_exc, q_tf_ok, q_v0, q_vs, q_w0, q_w0o, q_ws, q_tbq, q_asb, q_nt, q_rsel_t, q_rsel_f, q_ta, q_to, q_va, q_vo, q_vn, q_sett, q_seto, q_bin, q_c, q_callb, q_cons, q_nil, q_tup, q_lst, q_celle, q_ret, q_nx, q_thl, q_thd, q_isi, q_neg, q_neg_i, q_callk, q_drop, q_retn, q_brk, q_cnt, q_ife, q_add_i, q_sub_i, List.map_cons, List.map_nil, List.length_cons, List.length_nil, List.replicate, List.append_nil, List.nil_append, List.cons_append, Nat.reduceAdd, Nat.reduceSub, List.getElem?_cons_zero, List.getElem?_cons_succ, List.set_cons_zero, List.set_cons_succ, Bool.not_true, Bool.not_false, decide_true, decide_false, if_true, if_false, t_lt_t, t_lt_f, t_le_t, t_le_f, t_gt_t, t_gt_f, t_ge_t, t_ge_f, t_eq_t, t_eq_f, t_ne_t, t_ne_f, t_is_b, t_isn_b, t_is_i, t_is_n, t_isn_i, t_isn_n, t_abs_n, t_abs_p, t_min, t_max, t_ixl, t_ixt, t_ixs, t_ixL, q_opt, q_ixo, q_oc0, q_ocs, q_oa0, q_oas, t_appd, q_app, t_putd, q_six, q_flopt, q_frz, q_int_i, q_mul_s, q_mod_i, q_div_i, q_len_s, q_len_l, q_len_t, q_items_s, q_items_l, q_items_t, t_szl, Int.reduceToNat, Int.reduceNeg, permL, List.filterMap_cons, List.filterMap_nil, eq_self, if_true, if_false, ite_true, ite_false, Bool.true_eq_false, Bool.false_eq_true, List.map_append]
        · rw [take1 j s hs1]
          exact hD.snoc (Int.emod_nonneg _ (by omega)) (Int.emod_lt_of_pos _ p0))
    subst hr
    rw [List.map_nil] at e2
    refine ⟨row, ?_, by rw [List.length_map, List.take_length] at hd; exact hd⟩
    refine def_of ?_
    rw [show mStart 8 [D.int c, D.lst (sz.map D.int)] = [some (.val (.int c)), some (.val (.lst (sz.map D.int))), none, none, none, none, none, none] from rfl]
    rw [seq_nx (r' := [some (.val (.int c)), some (.val (.lst (sz.map D.int))), some (.own (.l [])), none, none, none, none, none]) (by simp (disch := omega) only [q_df, q_st, q_sq, q_at_nx, q_at_rt, q_at_bk, q_at_ct, q_at_ex, q_mi, q_sel_t, q_sel_f, q_out_rt, q_out_nx, q_out_ex, q_rb_ok, q_rb_bad, q_rb_exc, q_tf_ok, q_v0, q_vs, q_w0, q_w0o, q_ws, q_tbq, q_asb, q_nt, q_rsel_t, q_rsel_f, q_ta, q_to, q_va, q_vo, q_vn, q_sett, q_seto, q_bin, q_c, q_callb, q_cons, q_nil, q_tup, q_lst, q_celle, q_ret, q_nx, q_thl, q_thd, q_isi, q_neg, q_neg_i, q_callk, q_drop, q_retn, q_brk, q_cnt, q_ife, q_add_i, q_sub_i, List.map_cons, List.map_nil, List.length_cons, List.length_nil, List.replicate, List.append_nil, List.nil_append, List.cons_append, Nat.reduceAdd, Nat.reduceSub, List.getElem?_cons_zero, List.getElem?_cons_succ, List.set_cons_zero, List.set_cons_succ, Bool.not_true, Bool.not_false, decide_true, decide_false, if_true, if_false, t_lt_t, t_lt_f, t_le_t, t_le_f, t_gt_t, t_gt_f, t_ge_t, t_ge_f, t_eq_t, t_eq_f, t_ne_t, t_ne_f, t_is_b, t_isn_b, t_is_i, t_is_n, t_isn_i, t_isn_n, t_abs_n, t_abs_p, t_min, t_max, t_ixl, t_ixt, t_ixs, t_ixL, q_opt, q_ixo, q_oc0, q_ocs, q_oa0, q_oas, t_appd, q_app, t_putd, q_six, q_flopt, q_frz, q_int_i, q_mul_s, q_mod_i, q_div_i, q_len_s, q_len_l, q_len_t, q_items_s, q_items_l, q_items_t, t_szl, Int.reduceToNat, Int.reduceNeg, permL, List.filterMap_cons, List.filterMap_nil, eq_self, if_true, if_false, ite_true, ite_false, Bool.true_eq_false, Bool.false_eq_true])]
    rw [seq_nx (r' := [some (.val (.int c)), some (.val (.lst (sz.map D.int))), some (.own (.l [])), some (.val (.int c)), none, none, none, none]) (by simp (disch := omega) only [q_df, q_st, q_sq, q_at_nx, q_at_rt, q_at_bk, q_at_ct, q_at_ex, q_mi, q_sel_t, q_sel_f, q_out_rt, q_out_nx, q_out_ex, q_rb_ok, q_rb_bad, q_rb_exc, q_tf_ok, q_v0, q_vs, q_w0, q_w0o, q_ws, q_tbq, q_asb, q_nt, q_rsel_t, q_rsel_f, q_ta, q_to, q_va, q_vo, q_vn, q_sett, q_seto, q_bin, q_c, q_callb, q_cons, q_nil, q_tup, q_lst, q_celle, q_ret, q_nx, q_thl, q_thd, q_isi, q_neg, q_neg_i, q_callk, q_drop, q_retn, q_brk, q_cnt, q_ife, q_add_i, q_sub_i, List.map_cons, List.map_nil, List.length_cons, List.length_nil, List.replicate, List.append_nil, List.nil_append, List.cons_append, Nat.reduceAdd, Nat.reduceSub, List.getElem?_cons_zero, List.getElem?_cons_succ, List.set_cons_zero, List.set_cons_succ, Bool.not_true, Bool.not_false, decide_true, decide_false, if_true, if_false, t_lt_t, t_lt_f, t_le_t, t_le_f, t_gt_t, t_gt_f, t_ge_t, t_ge_f, t_eq_t, t_eq_f, t_ne_t, t_ne_f, t_is_b, t_isn_b, t_is_i, t_is_n, t_isn_i, t_isn_n, t_abs_n, t_abs_p, t_min, t_max, t_ixl, t_ixt, t_ixs, t_ixL, q_opt, q_ixo, q_oc0, q_ocs, q_oa0, q_oas, t_appd, q_app, t_putd, q_six, q_flopt, q_frz, q_int_i, q_mul_s, q_mod_i, q_div_i, q_len_s, q_len_l, q_len_t, q_items_s, q_items_l, q_items_t, t_szl, Int.reduceToNat, Int.reduceNeg, permL, List.filterMap_cons, List.filterMap_nil, eq_self, if_true, if_false, ite_true, ite_false, Bool.true_eq_false, Bool.false_eq_true])]
    refine seq_rt ?_
    rw [q_mi]
    simp (disch := omega) only [q_tbq, q_bin, q_vs, q_v0, q_c, q_rb_ok, pow_10_18, t_ge_t, q_asb, q_tf_ok, q_sel_t]
    rw [seq_nx (r' := [some (.val (.int c)), some (.val (.lst (sz.map D.int))), some (.own (.l [])), some (.val (.int (c - 1000000000000000000))), none, none, none, none]) (by simp (disch := omega) only [q_df, q_st, q_sq, q_at_nx, q_at_rt, q_at_bk, q_at_ct, q_at_ex, q_mi, q_sel_t, q_sel_f, q_out_rt, q_out_nx, q_out_ex, q_rb_ok, q_rb_bad, q_rb_exc, q_tf_ok, q_v0, q_vs, q_w0, q_w0o, q_ws, q_tbq, q_asb, q_nt, q_rsel_t, q_rsel_f, q_ta, q_to, q_va, q_vo, q_vn, q_sett, q_seto, q_bin, q_c, q_callb, q_cons, q_nil, q_tup, q_lst, q_celle, q_ret, q_nx, q_thl, q_thd, q_isi, q_neg, q_neg_i, q_callk, q_drop, q_retn, q_brk, q_cnt, q_ife, q_add_i, q_sub_i, List.map_cons, List.map_nil, List.length_cons, List.length_nil, List.replicate, List.append_nil, List.nil_append, List.cons_append, Nat.reduceAdd, Nat.reduceSub, List.getElem?_cons_zero, List.getElem?_cons_succ, List.set_cons_zero, List.set_cons_succ, Bool.not_true, Bool.not_false, decide_true, decide_false, if_true, if_false, t_lt_t, t_lt_f, t_le_t, t_le_f, t_gt_t, t_gt_f, t_ge_t, t_ge_f, t_eq_t, t_eq_f, t_ne_t, t_ne_f, t_is_b, t_isn_b, t_is_i, t_is_n, t_isn_i, t_isn_n, t_abs_n, t_abs_p, t_min, t_max, t_ixl, t_ixt, t_ixs, t_ixL, q_opt, q_ixo, q_oc0, q_ocs, q_oa0, q_oas, t_appd, q_app, t_putd, q_six, q_flopt, q_frz, q_int_i, q_mul_s, q_mod_i, q_div_i, q_len_s, q_len_l, q_len_t, q_items_s, q_items_l, q_items_t, t_szl, Int.reduceToNat, Int.reduceNeg, permL, List.filterMap_cons, List.filterMap_nil, eq_self, if_true, if_false, ite_true, ite_false, Bool.true_eq_false, Bool.false_eq_true, pow_10_18])]
    rw [seq_nx (for_nx (by simp only [q_df, q_st, q_sq, q_at_nx, q_at_rt, q_at_bk, q_at_ct, q_at_ex, q_mi, q_sel_t, q_sel_f, q_out_rt, q_out_nx, q_out_ex, q_rb_ok, q_rb_bad, q_rb_exc, q_tf_ok, q_v0, q_vs, q_w0, q_w0o, q_ws, q_tbq, q_asb, q_nt, q_rsel_t, q_rsel_f, q_ta, q_to, q_va, q_vo, q_vn, q_sett, q_seto, q_bin, q_c, q_callb, q_cons, q_nil, q_tup, q_lst, q_celle, q_ret, q_nx, q_thl, q_thd, q_isi, q_neg, q_neg_i, q_callk, q_drop, q_retn, q_brk, q_cnt, q_ife, q_add_i, q_sub_i, q_lt_i, q_le_i, q_gt_i, q_ge_i, q_eq_i, q_ne_i, List.map_cons, List.map_nil, List.length_cons, List.length_nil, List.replicate, List.append_nil, List.nil_append, List.cons_append, Nat.reduceAdd, Nat.reduceSub, List.getElem?_cons_zero, List.getElem?_cons_succ, List.set_cons_zero, List.set_cons_succ, Bool.not_true, Bool.not_false, decide_true, decide_false, if_true, if_false, q_it, q_items_l]) e2)]
    rfl
  · have m0 : 0 ≤ c % 2147483629 := Int.emod_nonneg _ (by omega)
    have m1 : c % 2147483629 < 2147483629 := Int.emod_lt_of_pos _ (by omega)
    obtain ⟨r2, e2, row, seed, x4, x6, x7, hr, hd, s0, s1⟩ := for_inv (i := 6) (body := (mSeq (mSet 5 (mBin dMod (mCallB dInt (mCons (mBin dAdd (mBin dAdd (mBin dMul (mVar 5) (mC (.int 48271))) (mBin dMul (mC (.int 974711)) (mVar 6))) (mC (.int 12345))) mNil)) (mC (.int 2147483647)))) (mSeq (mSet 7 (mBin dMod (mCallB dInt (mCons (mBin dMul (mVar 5) (mBin dAdd (mBin dDiv (mVar 5) (mC (.int 65537))) (mC (.int 3)))) mNil)) (mC (.int 2147483629)))) (mApp 2 (mBin dMod (mBin dDiv (mVar 7) (mC (.int 19))) (mBin dIx (mVar 1) (mVar 6)))))))
      (fun j r => ∃ (row : List Int) (seed : Int) (x4 x6 x7 : Option EV), r = [some (.val (.int c)), some (.val (.lst (sz.map D.int))), some (.own (.l (row.map D.int))), some (.val (.int c)), x4, some (.val (.int seed)), x6, x7] ∧ DigOk (sz.take j) row ∧ 0 ≤ seed ∧ seed < 2147483647) (ds := rgD 0 (((sz.map D.int).length : Int)).toNat)
      (r := [some (.val (.int c)), some (.val (.lst (sz.map D.int))), some (.own (.l (([] : List Int).map D.int))), some (.val (.int c)), none, some (.val (.int (c % 2147483629))), none, none]) ⟨[], _, _, _, _, rfl, by rw [List.take_zero]; trivial, m0, by omega⟩ (fun j d r hd ⟨row, seed, x4, x6, x7, hr, hD, s0, s1⟩ => by
        subst hr
        obtain ⟨hj, rfl⟩ := rgD_get hd
        rw [List.length_map] at hj
        have hj' : j < sz.length := by omega
        have hs1 : sz[j]? = some sz[j] := List.getElem?_eq_getElem hj'
        generalize sz[j] = s at hs1
        obtain ⟨p0, p1⟩ := hs s (List.mem_of_getElem? hs1)
        have lr : row.length ≤ 10000 := by
          rw [hD.len, List.length_take]
          omega
        have hx : (sz.map D.int)[(0 + (j : Int)).toNat]? = some (.int s) := by
          rw [List.getElem?_map, show (0 + (j : Int)).toNat = j by omega, hs1]
          rfl
        have hj2 : (j : Int) < 10000 := by omega
        have k0 := Int.emod_nonneg (seed * 48271 + 974711 * (0 + (j : Int)) + 12345) (show (2147483647 : Int) ≠ 0 by omega)
        have k1 := Int.emod_lt_of_pos (seed * 48271 + 974711 * (0 + (j : Int)) + 12345) (show (0 : Int) < 2147483647 by omega)
        have st1 : mSet 5 (mBin dMod (mCallB dInt (mCons (mBin dAdd (mBin dAdd (mBin dMul (mVar 5) (mC (.int 48271))) (mBin dMul (mC (.int 974711)) (mVar 6))) (mC (.int 12345))) mNil)) (mC (.int 2147483647))) [some (.val (.int c)), some (.val (.lst (sz.map D.int))), some (.own (.l (row.map D.int))), some (.val (.int c)), x4, some (.val (.int seed)), some (.val (.int (0 + (j : Int)))), x7]
          = .nx [some (.val (.int c)), some (.val (.lst (sz.map D.int))), some (.own (.l (row.map D.int))), some (.val (.int c)), x4, some (.val (.int ((seed * 48271 + 974711 * (0 + (j : Int)) + 12345) % 2147483647))), some (.val (.int (0 + (j : Int)))), x7] := by
          simp (disch := omega) only [q_df, q_st, q_sq, q_at_nx, q_at_rt, q_at_bk, q_at_ct, q_at_ex, q_mi, q_sel_t, q_sel_f, q_out_rt, q_out_nx, q_out_ex, q_rb_ok, q_rb_bad, q_rb_exc, q_tf_ok, q_v0, q_vs, q_w0, q_w0o, q_ws, q_tbq, q_asb, q_nt, q_rsel_t, q_rsel_f, q_ta, q_to, q_va, q_vo, q_vn, q_sett, q_seto, q_bin, q_c, q_callb, q_cons, q_nil, q_tup, q_lst, q_celle, q_ret, q_nx, q_thl, q_thd, q_isi, q_neg, q_neg_i, q_callk, q_drop, q_retn, q_brk, q_cnt, q_ife, q_add_i, q_sub_i, List.map_cons, List.map_nil, List.length_cons, List.length_nil, List.replicate, List.append_nil, List.nil_append, List.cons_append, Nat.reduceAdd, Nat.reduceSub, List.getElem?_cons_zero, List.getElem?_cons_succ, List.set_cons_zero, List.set_cons_succ, Bool.not_true, Bool.not_false, decide_true, decide_false, if_true, if_false, t_lt_t, t_lt_f, t_le_t, t_le_f, t_gt_t, t_gt_f, t_ge_t, t_ge_f, t_eq_t, t_eq_f, t_ne_t, t_ne_f, t_is_b, t_isn_b, t_is_i, t_is_n, t_isn_i, t_isn_n, t_abs_n, t_abs_p, t_min, t_max, t_ixl, t_ixt, t_ixs, t_ixL, q_opt, q_ixo, q_oc0, q_ocs, q_oa0, q_oas, t_appd, q_app, t_putd, q_six, q_flopt, q_frz, q_int_i, q_mul_s, q_mod_i, q_div_i, q_len_s, q_len_l, q_len_t, q_items_s, q_items_l, q_items_t, t_szl, Int.reduceToNat, Int.reduceNeg, permL, List.filterMap_cons, List.filterMap_nil, eq_self, if_true, if_false, ite_true, ite_false, Bool.true_eq_false, Bool.false_eq_true]
        generalize (seed * 48271 + 974711 * (0 + (j : Int)) + 12345) % 2147483647 = t at k0 k1 st1
        have st2 : mSet 7 (mBin dMod (mCallB dInt (mCons (mBin dMul (mVar 5) (mBin dAdd (mBin dDiv (mVar 5) (mC (.int 65537))) (mC (.int 3)))) mNil)) (mC (.int 2147483629))) [some (.val (.int c)), some (.val (.lst (sz.map D.int))), some (.own (.l (row.map D.int))), some (.val (.int c)), x4, some (.val (.int t)), some (.val (.int (0 + (j : Int)))), x7]
          = .nx [some (.val (.int c)), some (.val (.lst (sz.map D.int))), some (.own (.l (row.map D.int))), some (.val (.int c)), x4, some (.val (.int t)), some (.val (.int (0 + (j : Int)))), some (.val (.int (t * (t / 65537 + 3) % 2147483629)))] := by
          simp (disch := omega) only [q_df, q_st, q_sq, q_at_nx, q_at_rt, q_at_bk, q_at_ct, q_at_ex, q_mi, q_sel_t, q_sel_f, q_out_rt, q_out_nx, q_out_ex, q_rb_ok, q_rb_bad, q_rb_exc, q_tf_ok, q_v0, q_vs, q_w0, q_w0o, q_ws, q_tbq, q_asb, q_nt, q_rsel_t, q_rsel_f, q_ta, q_to, q_va, q_vo, q_vn, q_sett, q_seto, q_bin, q_c, q_callb, q_cons, q_nil, q_tup, q_lst, q_celle, q_ret, q_nx, q_thl, q_thd, q_isi, q_neg, q_neg_i, q_callk, q_drop, q_retn, q_brk, q_cnt, q_ife, q_add_i, q_sub_i, List.map_cons, List.map_nil, List.length_cons, List.length_nil, List.replicate, List.append_nil, List.nil_append, List.cons_append, Nat.reduceAdd, Nat.reduceSub, List.getElem?_cons_zero, List.getElem?_cons_succ, List.set_cons_zero, List.set_cons_succ, Bool.not_true, Bool.not_false, decide_true, decide_false, if_true, if_false, t_lt_t, t_lt_f, t_le_t, t_le_f, t_gt_t, t_gt_f, t_ge_t, t_ge_f, t_eq_t, t_eq_f, t_ne_t, t_ne_f, t_is_b, t_isn_b, t_is_i, t_is_n, t_isn_i, t_isn_n, t_abs_n, t_abs_p, t_min, t_max, t_ixl, t_ixt, t_ixs, t_ixL, q_opt, q_ixo, q_oc0, q_ocs, q_oa0, q_oas, t_appd, q_app, t_putd, q_six, q_flopt, q_frz, q_int_i, q_mul_s, q_mod_i, q_div_i, q_len_s, q_len_l, q_len_t, q_items_s, q_items_l, q_items_t, t_szl, Int.reduceToNat, Int.reduceNeg, permL, List.filterMap_cons, List.filterMap_nil, eq_self, if_true, if_false, ite_true, ite_false, Bool.true_eq_false, Bool.false_eq_true]
        refine ⟨[some (.val (.int c)), some (.val (.lst (sz.map D.int))), some (.own (.l ((row ++ [t * (t / 65537 + 3) % 2147483629 / 19 % s]).map D.int))), some (.val (.int c)), x4, some (.val (.int t)), some (.val (.int (0 + (j : Int)))), some (.val (.int (t * (t / 65537 + 3) % 2147483629)))], ?_, row ++ [t * (t / 65537 + 3) % 2147483629 / 19 % s], t, _, _, _, rfl, ?_, k0, k1⟩
        · simp only [List.set_cons_succ, List.set_cons_zero]
          rw [seq_nx st1, seq_nx st2, t_app (xs := row.map D.int) rfl (by rw [List.length_map]; omega)]
          simp (disch := omega) only [q_df, q_st, q_sq, q_at_nx, q_at_rt, q_at_bk, q_at_ct, q_at_ex, q_mi, q_sel_t, q_sel_f, q_out_rt, q_out_nx, q_out_ex, q_rb_ok, q_rb_bad, q_rb_exc, q_tf_ok, q_v0, q_vs, q_w0, q_w0o, q_ws, q_tbq, q_asb, q_nt, q_rsel_t, q_rsel_f, q_ta, q_to, q_va, q_vo, q_vn, q_sett, q_seto, q_bin, q_c, q_callb, q_cons, q_nil, q_tup, q_lst, q_celle, q_ret, q_nx, q_thl, q_thd, q_isi, q_neg, q_neg_i, q_callk, q_drop, q_retn, q_brk, q_cnt, q_ife, q_add_i, q_sub_i, List.map_cons, List.map_nil, List.length_cons, List.length_nil, List.replicate, List.append_nil, List.nil_append, List.cons_append, Nat.reduceAdd, Nat.reduceSub, List.getElem?_cons_zero, List.getElem?_cons_succ, List.set_cons_zero, List.set_cons_succ, Bool.not_true, Bool.not_false, decide_true, decide_false, if_true, if_false, t_lt_t, t_lt_f, t_le_t, t_le_f, t_gt_t, t_gt_f, t_ge_t, t_ge_f, t_eq_t, t_eq_f, t_ne_t, t_ne_f, t_is_b, t_isn_b, t_is_i, t_is_n, t_isn_i, t_isn_n, t_abs_n, t_abs_p, t_min, t_max, t_ixl, t_ixt, t_ixs, t_ixL, q_opt, q_ixo, q_oc0, q_ocs, q_oa0, q_oas, t_appd, q_app, t_putd, q_six, q_flopt, q_frz, q_int_i, q_mul_s, q_mod_i, q_div_i, q_len_s, q_len_l, q_len_t, q_items_s, q_items_l, q_items_t, t_szl, Int.reduceToNat, Int.reduceNeg, permL, List.filterMap_cons, List.filterMap_nil, eq_self, if_true, if_false, ite_true, ite_false, Bool.true_eq_false, Bool.false_eq_true, hx, List.map_append]
        · rw [take1 j s hs1]
          exact hD.snoc (Int.emod_nonneg _ (by omega)) (Int.emod_lt_of_pos _ p0))
    subst hr
    rw [List.map_nil] at e2
    refine ⟨row, ?_, ?_⟩
    · refine def_of ?_
      rw [show mStart 8 [D.int c, D.lst (sz.map D.int)] = [some (.val (.int c)), some (.val (.lst (sz.map D.int))), none, none, none, none, none, none] from rfl]
      rw [seq_nx (r' := [some (.val (.int c)), some (.val (.lst (sz.map D.int))), some (.own (.l [])), none, none, none, none, none]) (by simp (disch := omega) only [q_df, q_st, q_sq, q_at_nx, q_at_rt, q_at_bk, q_at_ct, q_at_ex, q_mi, q_sel_t, q_sel_f, q_out_rt, q_out_nx, q_out_ex, q_rb_ok, q_rb_bad, q_rb_exc, q_tf_ok, q_v0, q_vs, q_w0, q_w0o, q_ws, q_tbq, q_asb, q_nt, q_rsel_t, q_rsel_f, q_ta, q_to, q_va, q_vo, q_vn, q_sett, q_seto, q_bin, q_c, q_callb, q_cons, q_nil, q_tup, q_lst, q_celle, q_ret, q_nx, q_thl, q_thd, q_isi, q_neg, q_neg_i, q_callk, q_drop, q_retn, q_brk, q_cnt, q_ife, q_add_i, q_sub_i, List.map_cons, List.map_nil, List.length_cons, List.length_nil, List.replicate, List.append_nil, List.nil_append, List.cons_append, Nat.reduceAdd, Nat.reduceSub, List.getElem?_cons_zero, List.getElem?_cons_succ, List.set_cons_zero, List.set_cons_succ, Bool.not_true, Bool.not_false, decide_true, decide_false, if_true, if_false, t_lt_t, t_lt_f, t_le_t, t_le_f, t_gt_t, t_gt_f, t_ge_t, t_ge_f, t_eq_t, t_eq_f, t_ne_t, t_ne_f, t_is_b, t_isn_b, t_is_i, t_is_n, t_isn_i, t_isn_n, t_abs_n, t_abs_p, t_min, t_max, t_ixl, t_ixt, t_ixs, t_ixL, q_opt, q_ixo, q_oc0, q_ocs, q_oa0, q_oas, t_appd, q_app, t_putd, q_six, q_flopt, q_frz, q_int_i, q_mul_s, q_mod_i, q_div_i, q_len_s, q_len_l, q_len_t, q_items_s, q_items_l, q_items_t, t_szl, Int.reduceToNat, Int.reduceNeg, permL, List.filterMap_cons, List.filterMap_nil, eq_self, if_true, if_false, ite_true, ite_false, Bool.true_eq_false, Bool.false_eq_true])]
      rw [seq_nx (r' := [some (.val (.int c)), some (.val (.lst (sz.map D.int))), some (.own (.l [])), some (.val (.int c)), none, none, none, none]) (by simp (disch := omega) only [q_df, q_st, q_sq, q_at_nx, q_at_rt, q_at_bk, q_at_ct, q_at_ex, q_mi, q_sel_t, q_sel_f, q_out_rt, q_out_nx, q_out_ex, q_rb_ok, q_rb_bad, q_rb_exc, q_tf_ok, q_v0, q_vs, q_w0, q_w0o, q_ws, q_tbq, q_asb, q_nt, q_rsel_t, q_rsel_f, q_ta, q_to, q_va, q_vo, q_vn, q_sett, q_seto, q_bin, q_c, q_callb, q_cons, q_nil, q_tup, q_lst, q_celle, q_ret, q_nx, q_thl, q_thd, q_isi, q_neg, q_neg_i, q_callk, q_drop, q_retn, q_brk, q_cnt, q_ife, q_add_i, q_sub_i, List.map_cons, List.map_nil, List.length_cons, List.length_nil, List.replicate, List.append_nil, List.nil_append, List.cons_append, Nat.reduceAdd, Nat.reduceSub, List.getElem?_cons_zero, List.getElem?_cons_succ, List.set_cons_zero, List.set_cons_succ, Bool.not_true, Bool.not_false, decide_true, decide_false, if_true, if_false, t_lt_t, t_lt_f, t_le_t, t_le_f, t_gt_t, t_gt_f, t_ge_t, t_ge_f, t_eq_t, t_eq_f, t_ne_t, t_ne_f, t_is_b, t_isn_b, t_is_i, t_is_n, t_isn_i, t_isn_n, t_abs_n, t_abs_p, t_min, t_max, t_ixl, t_ixt, t_ixs, t_ixL, q_opt, q_ixo, q_oc0, q_ocs, q_oa0, q_oas, t_appd, q_app, t_putd, q_six, q_flopt, q_frz, q_int_i, q_mul_s, q_mod_i, q_div_i, q_len_s, q_len_l, q_len_t, q_items_s, q_items_l, q_items_t, t_szl, Int.reduceToNat, Int.reduceNeg, permL, List.filterMap_cons, List.filterMap_nil, eq_self, if_true, if_false, ite_true, ite_false, Bool.true_eq_false, Bool.false_eq_true])]
      rw [seq_nx (a := mIf _ _ _) (r' := [some (.val (.int c)), some (.val (.lst (sz.map D.int))), some (.own (.l [])), some (.val (.int c)), none, none, none, none]) (by
        rw [q_mi]
        simp (disch := omega) only [q_tbq, q_bin, q_vs, q_v0, q_c, q_rb_ok, pow_10_18, t_ge_f, q_asb, q_tf_ok, q_sel_f, q_nx])]
      rw [seq_nx (r' := [some (.val (.int c)), some (.val (.lst (sz.map D.int))), some (.own (.l [])), some (.val (.int c)), none, some (.val (.int (c % 2147483629))), none, none]) (by simp (disch := omega) only [q_df, q_st, q_sq, q_at_nx, q_at_rt, q_at_bk, q_at_ct, q_at_ex, q_mi, q_sel_t, q_sel_f, q_out_rt, q_out_nx, q_out_ex, q_rb_ok, q_rb_bad, q_rb_exc, q_tf_ok, q_v0, q_vs, q_w0, q_w0o, q_ws, q_tbq, q_asb, q_nt, q_rsel_t, q_rsel_f, q_ta, q_to, q_va, q_vo, q_vn, q_sett, q_seto, q_bin, q_c, q_callb, q_cons, q_nil, q_tup, q_lst, q_celle, q_ret, q_nx, q_thl, q_thd, q_isi, q_neg, q_neg_i, q_callk, q_drop, q_retn, q_brk, q_cnt, q_ife, q_add_i, q_sub_i, List.map_cons, List.map_nil, List.length_cons, List.length_nil, List.replicate, List.append_nil, List.nil_append, List.cons_append, Nat.reduceAdd, Nat.reduceSub, List.getElem?_cons_zero, List.getElem?_cons_succ, List.set_cons_zero, List.set_cons_succ, Bool.not_true, Bool.not_false, decide_true, decide_false, if_true, if_false, t_lt_t, t_lt_f, t_le_t, t_le_f, t_gt_t, t_gt_f, t_ge_t, t_ge_f, t_eq_t, t_eq_f, t_ne_t, t_ne_f, t_is_b, t_isn_b, t_is_i, t_is_n, t_isn_i, t_isn_n, t_abs_n, t_abs_p, t_min, t_max, t_ixl, t_ixt, t_ixs, t_ixL, q_opt, q_ixo, q_oc0, q_ocs, q_oa0, q_oas, t_appd, q_app, t_putd, q_six, q_flopt, q_frz, q_int_i, q_mul_s, q_mod_i, q_div_i, q_len_s, q_len_l, q_len_t, q_items_s, q_items_l, q_items_t, t_szl, Int.reduceToNat, Int.reduceNeg, permL, List.filterMap_cons, List.filterMap_nil, eq_self, if_true, if_false, ite_true, ite_false, Bool.true_eq_false, Bool.false_eq_true])]
      have hlm : (sz.map D.int).length < 10000 := by rw [List.length_map]; exact hl
      rw [seq_nx (for_nx (by simp only [q_df, q_st, q_sq, q_at_nx, q_at_rt, q_at_bk, q_at_ct, q_at_ex, q_mi, q_sel_t, q_sel_f, q_out_rt, q_out_nx, q_out_ex, q_rb_ok, q_rb_bad, q_rb_exc, q_tf_ok, q_v0, q_vs, q_w0, q_w0o, q_ws, q_tbq, q_asb, q_nt, q_rsel_t, q_rsel_f, q_ta, q_to, q_va, q_vo, q_vn, q_sett, q_seto, q_bin, q_c, q_callb, q_cons, q_nil, q_tup, q_lst, q_celle, q_ret, q_nx, q_thl, q_thd, q_isi, q_neg, q_neg_i, q_callk, q_drop, q_retn, q_brk, q_cnt, q_ife, q_add_i, q_sub_i, q_lt_i, q_le_i, q_gt_i, q_ge_i, q_eq_i, q_ne_i, List.map_cons, List.map_nil, List.length_cons, List.length_nil, List.replicate, List.append_nil, List.nil_append, List.cons_append, Nat.reduceAdd, Nat.reduceSub, List.getElem?_cons_zero, List.getElem?_cons_succ, List.set_cons_zero, List.set_cons_succ, Bool.not_true, Bool.not_false, decide_true, decide_false, if_true, if_false, q_rg, q_len_l, q_rg1 (show -1000000000 ≤ ((sz.map D.int).length : Int) by omega) (show ((sz.map D.int).length : Int) < 1000000000 by omega)]) e2)]
      rfl
    · rw [rgD_len, List.length_map, show ((sz.length : Int)).toNat = sz.length by omega, List.take_length] at hd
      exact hd
end QB

namespace QB
open PySem
/-! ### == of plain data, by = -/
mutual
def clean (b : Bool) : D → Bool
  | .non => true
  | .bl _ => b
  | .int _ => !b
  | .str s => PyData.strOk s
  | .tup xs => cleanL b xs
  | .lst xs => cleanL b xs
  | .slst _ => false
  | .ins _ _ _ => false
  | .dct _ _ => false
  | .xob _ _ _ => false
  | .exv _ _ _ _ _ => false
def cleanL (b : Bool) : List D → Bool
  | [] => true
  | d :: ds => clean b d && cleanL b ds
end
mutual
def depD : D → Nat
  | .tup xs => depL xs + 1
  | .lst xs => depL xs + 1
  | _ => 0
def depL : List D → Nat
  | [] => 0
  | d :: ds => max (depD d) (depL ds)
end
mutual
theorem clean_py {b : Bool} : ∀ d : D, clean b d = true → ∃ p, toPy d = some p ∧ p.canLay0 = true ∧ p.depth = depD d
  | .non, _ => ⟨_, rfl, rfl, rfl⟩
  | .bl _, _ => ⟨_, rfl, rfl, rfl⟩
  | .int _, _ => ⟨_, rfl, rfl, rfl⟩
  | .str s, h => ⟨_, rfl, by simp only [clean] at h; simp only [PyData.canLay0, h], rfl⟩
  | .tup xs, h => by
    simp only [clean] at h
    obtain ⟨ps, h1, h2, h3⟩ := clean_pyL xs h
    exact ⟨.tuple ps, by simp only [toPy, h1, Option.map_some], by simp only [PyData.canLay0, h2], by simp only [PyData.depth, depD, h3]⟩
  | .lst xs, h => by
    simp only [clean] at h
    obtain ⟨ps, h1, h2, h3⟩ := clean_pyL xs h
    exact ⟨.list ps, by simp only [toPy, h1, Option.map_some], by simp only [PyData.canLay0, h2], by simp only [PyData.depth, depD, h3]⟩
  | .slst _, h => by simp [clean] at h
  | .ins _ _ _, h => by simp [clean] at h
  | .dct _ _, h => by simp [clean] at h
  | .xob _ _ _, h => by simp [clean] at h
  | .exv _ _ _ _ _, h => by simp [clean] at h
theorem clean_pyL {b : Bool} : ∀ ds : List D, cleanL b ds = true → ∃ ps, toPyL ds = some ps ∧ PyData.canLayAll0 ps = true ∧ PyData.depthAll ps = depL ds
  | [], _ => ⟨[], rfl, rfl, rfl⟩
  | d :: ds, h => by
    simp only [cleanL, Bool.and_eq_true] at h
    obtain ⟨p, h1, h2, h3⟩ := clean_py d h.1
    obtain ⟨ps, g1, g2, g3⟩ := clean_pyL ds h.2
    exact ⟨p :: ps, by simp only [toPyL, h1, g1, Option.bind_some, Option.map_some], by simp only [PyData.canLayAll0, h2, g2, Bool.and_self], by simp only [PyData.depthAll, depL, h3, g3]⟩
end
mutual
theorem eqv_clean {b : Bool} : ∀ (d e : D) (p q : PyData), clean b d = true → clean b e = true → toPy d = some p → toPy e = some q → (PyData.eqv p q = true ↔ d = e)
  | .non, e, p, q, h, g, hp, hq => by
    cases e <;> simp only [clean, toPy, Option.some.injEq, Option.map_eq_some_iff, Bool.not_eq_true', Bool.false_eq_true, reduceCtorEq] at h g hp hq <;> first | (obtain ⟨_, _, rfl⟩ := hq; subst hp; simp [PyData.eqv]) | (subst hp hq; simp [PyData.eqv]) | (cases hq)
  | .bl x, e, p, q, h, g, hp, hq => by
    cases e <;> simp only [clean, toPy, Option.some.injEq, Option.map_eq_some_iff, Bool.not_eq_true', Bool.false_eq_true, reduceCtorEq] at h g hp hq <;> first | (exact absurd (h.symm.trans g) (by decide)) | (obtain ⟨_, _, rfl⟩ := hq; subst hp; simp [PyData.eqv]) | (subst hp hq; simp [PyData.eqv]) | (cases hq)
  | .int x, e, p, q, h, g, hp, hq => by
    cases e <;> simp only [clean, toPy, Option.some.injEq, Option.map_eq_some_iff, Bool.not_eq_true', Bool.false_eq_true, reduceCtorEq] at h g hp hq <;> first | (exact absurd (h.symm.trans g) (by decide)) | (obtain ⟨_, _, rfl⟩ := hq; subst hp; simp [PyData.eqv]) | (subst hp hq; simp [PyData.eqv]) | (cases hq)
  | .str x, e, p, q, h, g, hp, hq => by
    cases e <;> simp only [clean, toPy, Option.some.injEq, Option.map_eq_some_iff, Bool.not_eq_true', Bool.false_eq_true, reduceCtorEq] at h g hp hq <;> first | (obtain ⟨_, _, rfl⟩ := hq; subst hp; simp [PyData.eqv]) | (subst hp hq; simp [PyData.eqv]) | (cases hq)
  | .tup xs, e, p, q, h, g, hp, hq => by
    cases e <;> simp only [clean, toPy, Option.some.injEq, Option.map_eq_some_iff, Bool.not_eq_true', Bool.false_eq_true, reduceCtorEq] at h g hp hq <;> obtain ⟨ps, e1, rfl⟩ := hp
    case tup ys =>
      obtain ⟨qs, e2, rfl⟩ := hq
      simp only [PyData.eqv, D.tup.injEq]
      exact eqv_cleanL xs ys ps qs h g e1 e2
    all_goals first | (obtain ⟨_, _, rfl⟩ := hq; simp [PyData.eqv]) | (subst hq; simp [PyData.eqv])
  | .lst xs, e, p, q, h, g, hp, hq => by
    cases e <;> simp only [clean, toPy, Option.some.injEq, Option.map_eq_some_iff, Bool.not_eq_true', Bool.false_eq_true, reduceCtorEq] at h g hp hq <;> obtain ⟨ps, e1, rfl⟩ := hp
    case lst ys =>
      obtain ⟨qs, e2, rfl⟩ := hq
      simp only [PyData.eqv, D.lst.injEq]
      exact eqv_cleanL xs ys ps qs h g e1 e2
    all_goals first | (obtain ⟨_, _, rfl⟩ := hq; simp [PyData.eqv]) | (subst hq; simp [PyData.eqv])
  | .slst _, _, _, _, h, _, _, _ => by simp [clean] at h
  | .ins _ _ _, _, _, _, h, _, _, _ => by simp [clean] at h
  | .dct _ _, _, _, _, h, _, _, _ => by simp [clean] at h
  | .xob _ _ _, _, _, _, h, _, _, _ => by simp [clean] at h
  | .exv _ _ _ _ _, _, _, _, h, _, _, _ => by simp [clean] at h
theorem eqv_cleanL {b : Bool} : ∀ (ds es : List D) (ps qs : List PyData), cleanL b ds = true → cleanL b es = true → toPyL ds = some ps → toPyL es = some qs → (PyData.eqvAll ps qs = true ↔ ds = es)
  | [], [], ps, qs, _, _, hp, hq => by
    simp only [toPyL, Option.some.injEq] at hp hq
    subst hp hq
    simp [PyData.eqvAll]
  | [], e :: es, ps, qs, _, g, hp, hq => by
    simp only [toPyL, Option.some.injEq, Option.bind_eq_some_iff, Option.map_eq_some_iff] at hp hq
    obtain ⟨_, _, _, _, rfl⟩ := hq
    subst hp
    simp [PyData.eqvAll]
  | d :: ds, [], ps, qs, _, g, hp, hq => by
    simp only [toPyL, Option.some.injEq, Option.bind_eq_some_iff, Option.map_eq_some_iff] at hp hq
    obtain ⟨_, _, _, _, rfl⟩ := hp
    subst hq
    simp [PyData.eqvAll]
  | d :: ds, e :: es, ps, qs, h, g, hp, hq => by
    simp only [toPyL, Option.some.injEq, Option.bind_eq_some_iff, Option.map_eq_some_iff] at hp hq
    obtain ⟨p, e1, ps', e2, rfl⟩ := hp
    obtain ⟨q, e3, qs', e4, rfl⟩ := hq
    simp only [cleanL, Bool.and_eq_true] at h g
    simp only [PyData.eqvAll, Bool.and_eq_true, eqv_clean d e p q h.1 g.1 e1 e3, eqv_cleanL ds es ps' qs' h.2 g.2 e2 e4, List.cons.injEq]
end
theorem eqB_clean {b : Bool} {d e : D} (h : clean b d = true) (g : clean b e = true) (h1 : depD d ≤ 64) (g1 : depD e ≤ 64) : ∃ k, dEqB d e = .ok k ∧ (k = true ↔ d = e) := by
  obtain ⟨p, p1, p2, p3⟩ := clean_py d h
  obtain ⟨q, q1, q2, q3⟩ := clean_py e g
  have sp : SeqAt.shaped p = true := by unfold SeqAt.shaped; rw [p2, p3, decide_eq_true h1]; rfl
  have sq : SeqAt.shaped q = true := by unfold SeqAt.shaped; rw [q2, q3, decide_eq_true g1]; rfl
  have gen : ∃ k, (match toPy d, toPy e with
    | some p, some q => if SeqAt.shaped p = true ∧ SeqAt.shaped q = true then R.ok (PyData.eqv p q) else .bad
    | _, _ => .bad) = .ok k ∧ (k = true ↔ d = e) := by
    rw [p1, q1]
    simp only
    rw [if_pos ⟨sp, sq⟩]
    exact ⟨_, rfl, eqv_clean d e p q h g p1 q1⟩
  by_cases hf : (∃ x, flatD d = some x) ∧ ∃ y, flatD e = some y
  · obtain ⟨⟨x, hx⟩, y, hy⟩ := hf
    have hs : L2.scal x y = true ∧ (x = y ↔ d = e) := by
      cases d <;> simp only [flatD, Option.some.injEq, reduceCtorEq] at hx <;> cases e <;> simp only [flatD, Option.some.injEq, reduceCtorEq] at hy <;> subst hx hy <;> simp only [clean, Bool.not_eq_true'] at h g <;> first | (exact absurd (h.symm.trans g) (by decide)) | (refine ⟨rfl, ?_⟩; simp)
    unfold dEqB
    rw [hx, hy]
    simp only
    rw [if_pos hs.1]
    refine ⟨_, rfl, ?_⟩
    rw [decide_eq_true_iff]
    exact hs.2
  · have e1 : dEqB d e = (match toPy d, toPy e with
    | some p, some q => if SeqAt.shaped p = true ∧ SeqAt.shaped q = true then R.ok (PyData.eqv p q) else .bad
    | _, _ => .bad) := by
      unfold dEqB
      cases hx : flatD d with
      | none => rfl
      | some x =>
        cases hy : flatD e with
        | none => rfl
        | some y => exact absurd ⟨⟨x, hx⟩, y, hy⟩ hf
    rw [e1]
    exact gen
theorem eq_t {b : Bool} {d : D} (h : clean b d = true) (h1 : depD d ≤ 64) : dEq d d = .ok (.bl true) := by
  obtain ⟨k, e1, e2⟩ := eqB_clean h h h1 h1
  unfold dEq
  rw [e1, e2.mpr rfl]
  rfl
theorem eq_f {b : Bool} {d e : D} (h : clean b d = true) (g : clean b e = true) (h1 : depD d ≤ 64) (g1 : depD e ≤ 64) (n : d ≠ e) : dEq d e = .ok (.bl false) := by
  obtain ⟨k, e1, e2⟩ := eqB_clean h g h1 g1
  unfold dEq
  rw [e1, Bool.eq_false_iff.mpr fun z => n (e2.mp z)]
  rfl
theorem ne_f {b : Bool} {d : D} (h : clean b d = true) (h1 : depD d ≤ 64) : dNe d d = .ok (.bl false) := by
  obtain ⟨k, e1, e2⟩ := eqB_clean h h h1 h1
  unfold dNe
  rw [e1, e2.mpr rfl]
  rfl
theorem ne_t {b : Bool} {d e : D} (h : clean b d = true) (g : clean b e = true) (h1 : depD d ≤ 64) (g1 : depD e ≤ 64) (n : d ≠ e) : dNe d e = .ok (.bl true) := by
  obtain ⟨k, e1, e2⟩ := eqB_clean h g h1 g1
  unfold dNe
  rw [e1, Bool.eq_false_iff.mpr fun z => n (e2.mp z)]
  rfl
/-! texts -/
theorem eqB_s {a b : Str} : dEqB (.str a) (.str b) = .ok (decide (a = b)) := by
  have : decide (L2.V.str a = L2.V.str b) = decide (a = b) := by
    by_cases h : a = b
    · subst h; simp
    · rw [decide_eq_false h, decide_eq_false fun e => h (L2.V.str.inj e)]
  unfold dEqB
  simp only [flatD]
  rw [if_pos (show L2.scal (L2.V.str a) (L2.V.str b) = true from rfl), this]
theorem q_eq_s {a b : Str} : dEq (.str a) (.str b) = .ok (.bl (decide (a = b))) := by unfold dEq; rw [eqB_s]; rfl
theorem q_ne_s {a b : Str} : dNe (.str a) (.str b) = .ok (.bl (!decide (a = b))) := by unfold dNe; rw [eqB_s]; rfl
theorem q_ne_b {a b : Bool} : dNe (.bl a) (.bl b) = .ok (.bl (!decide (a = b))) := by cases a <;> cases b <;> rfl
theorem q_eq_b {a b : Bool} : dEq (.bl a) (.bl b) = .ok (.bl (decide (a = b))) := by cases a <;> cases b <;> rfl
theorem clean_strs {b : Bool} : ∀ {xs : List Str}, (∀ x ∈ xs, PyData.strOk x = true) → cleanL b (xs.map D.str) = true
  | [], _ => rfl
  | x :: xs, h => by
    simp only [List.map_cons, cleanL, clean, h x List.mem_cons_self, clean_strs fun y hy => h y (List.mem_cons_of_mem _ hy), Bool.and_self]
theorem dep_strs : ∀ {xs : List Str}, depL (xs.map D.str) = 0
  | [] => rfl
  | x :: xs => by
    simp only [List.map_cons, depL, depD, dep_strs, Nat.max_self]
theorem clean_ints : ∀ {xs : List Int}, cleanL false (xs.map D.int) = true
  | [] => rfl
  | x :: xs => by
    simp only [List.map_cons, cleanL, clean, Bool.not_false, clean_ints, Bool.and_self]
theorem dep_ints : ∀ {xs : List Int}, depL (xs.map D.int) = 0
  | [] => rfl
  | x :: xs => by
    simp only [List.map_cons, depL, depD, dep_ints, Nat.max_self]
end QB

namespace QB
open PySem
open Builtin.Int (intBits)
/-! ### more rows -/
def lstOfD : List D → R Cell
  | [d] => (match seqD d with
    | some xs => .ok (.l xs)
    | none => .bad)
  | _ => .bad
theorem q_lstof {ms : MA} {r : Sc} : mLstOf ms r = (ms r).bind lstOfD := by
  unfold mLstOf
  congr 1
theorem q_lstof_t {xs : List D} : lstOfD [.tup xs] = .ok (.l xs) := id rfl
theorem q_lstof_l {xs : List D} : lstOfD [.lst xs] = .ok (.l xs) := id rfl
theorem q_tupof_t {xs : List D} : dTupOf [.tup xs] = .ok (.tup xs) := id rfl
theorem q_tupof_l {xs : List D} : dTupOf [.lst xs] = .ok (.tup xs) := id rfl
theorem q_tupo {i : Nat} {r : Sc} : mTupO i r = (R.opt (ownAt i r)).bind fun xs => .ok (.tup xs) := by
  unfold mTupO ownL ownAt
  cases e : r[i]? with
  | none => rfl
  | some x =>
    cases x with
    | none => rfl
    | some y =>
      cases y with
      | val _ => rfl
      | own c => cases c <;> rfl
theorem q_lsto {i : Nat} {r : Sc} : mLstO i r = (R.opt (ownAt i r)).bind fun xs => .ok (.l xs) := by
  unfold mLstO ownL ownAt
  cases e : r[i]? with
  | none => rfl
  | some x =>
    cases x with
    | none => rfl
    | some y =>
      cases y with
      | val _ => rfl
      | own c => cases c <;> rfl
theorem q_int_b {b : Bool} : dInt [.bl b] = .ok (.int (if b then 1 else 0)) := id rfl
theorem q_ixsc {me : ME} {r : Sc} : mScal me r = (me r).bind fun d => match d with
  | .non => .ok .non
  | .bl b => .ok (.bl b)
  | .int i => .ok (.int i)
  | .str s => .ok (.str s)
  | _ => .bad := id rfl
/-- what int(b) picks of two -/
theorem pick2 {x y : D} {b : Bool} : (if (b = true) then (.int 1 : D) else .int 0) = (if b then .int 1 else .int 0) := rfl
/-! ### loops that may answer False -/
theorem for_all {i : Nat} {body : MS} (I : Nat → Sc → Prop) (c : Nat → Bool) {ds : List D} {r : Sc} (h0 : I 0 r) (st : ∀ (j : Nat) (d : D) (r : Sc), ds[j]? = some d → I j r → (c j = true → ∃ r2, body (r.set i (some (.val d))) = .nx r2 ∧ I (j + 1) r2) ∧ (c j = false → body (r.set i (some (.val d))) = .rt (.bl false))) :
    ((List.range ds.length).all c = true → ∃ r', loopL (bName i) body ds r = .nx r' ∧ I ds.length r') ∧ ((List.range ds.length).all c = false → loopL (bName i) body ds r = .rt (.bl false)) := by
  have key : ∀ (es : List D) (k : Nat) (r : Sc), I k r → (∀ (j : Nat) (d : D) (r : Sc), es[j]? = some d → I (k + j) r → (c (k + j) = true → ∃ r2, body (r.set i (some (.val d))) = .nx r2 ∧ I (k + j + 1) r2) ∧ (c (k + j) = false → body (r.set i (some (.val d))) = .rt (.bl false))) →
      ((List.range es.length).all (fun j => c (k + j)) = true → ∃ r', loopL (bName i) body es r = .nx r' ∧ I (k + es.length) r') ∧ ((List.range es.length).all (fun j => c (k + j)) = false → loopL (bName i) body es r = .rt (.bl false)) := by
    intro es
    induction es with
    | nil =>
      intro k r h _
      exact ⟨fun _ => ⟨r, rfl, h⟩, fun z => by simp at z⟩
    | cons d es ih =>
      intro k r h st
      obtain ⟨s1, s2⟩ := st 0 d r rfl h
      rw [List.length_cons, List.range_succ_eq_map, List.all_cons, List.all_map]
      have ec : ((fun j => c (k + j)) ∘ Nat.succ) = fun j => c (k + 1 + j) := by
        funext j
        show c (k + (j + 1)) = c (k + 1 + j)
        congr 1
        omega
      rw [ec]
      simp only [loopL, bName]
      cases e : c (k + 0) with
      | false =>
        refine ⟨fun z => by simp at z, fun _ => ?_⟩
        rw [s2 e]
      | true =>
        obtain ⟨r2, e2, h2⟩ := s1 e
        obtain ⟨i1, i2⟩ := ih (k + 1) r2 h2 (fun j d' r' hd hI => by
          have := st (j + 1) d' r' (by simpa using hd) (by rw [show k + (j + 1) = k + 1 + j by omega]; exact hI)
          rw [show k + (j + 1) = k + 1 + j by omega] at this
          exact this)
        rw [e2]
        simp only [Bool.true_and]
        refine ⟨fun z => ?_, i2⟩
        obtain ⟨r', g1, g2⟩ := i1 z
        exact ⟨r', g1, by rw [show k + (es.length + 1) = k + 1 + es.length by omega]; exact g2⟩
  have := key ds 0 r h0 (fun j d r hd h => by
    rw [Nat.zero_add] at h ⊢
    exact st j d r hd h)
  simpa only [Nat.zero_add] using this
theorem loop_cons {i : Nat} {body : MS} {d : D} {ds : List D} {r r2 : Sc} (h : body (r.set i (some (.val d))) = .nx r2) : loopL (bName i) body (d :: ds) r = loopL (bName i) body ds r2 := by
  simp only [loopL, bName, h]
theorem loop_nil {i : Nat} {body : MS} {r : Sc} : loopL (bName i) body [] r = .nx r := by simp only [loopL]
theorem range_map_zip {α β γ : Type} (a0 : α) (b0 : β) (g : α → β → γ) : ∀ (xs : List α) (ys : List β), xs.length = ys.length → (List.range xs.length).map (fun j => g (xs.getD j a0) (ys.getD j b0)) = List.zipWith g xs ys
  | [], [], _ => rfl
  | x :: xs, y :: ys, h => by
    rw [List.length_cons, List.range_succ_eq_map, List.map_cons, List.map_map, List.zipWith_cons_cons]
    have := range_map_zip a0 b0 g xs ys (by simpa using h)
    rw [← this]
    rfl
  | [], _ :: _, h => by simp at h
  | _ :: _, [], h => by simp at h
theorem range_all_zip {α β : Type} (a0 : α) (b0 : β) (g : α → β → Bool) (xs : List α) (ys : List β) (h : xs.length = ys.length) : (List.range xs.length).all (fun j => g (xs.getD j a0) (ys.getD j b0)) = (List.zipWith g xs ys).all id := by
  rw [← range_map_zip a0 b0 g xs ys h, List.all_map]
  rfl
theorem gets {xs : List Str} {j : Nat} (h : j < xs.length) : (xs.map D.str)[j]? = some (.str (xs.getD j Str.empty)) := by
  rw [List.getElem?_map, List.getElem?_eq_getElem h, List.getD_eq_getElem?_getD, List.getElem?_eq_getElem h]
  rfl
theorem blsD_map (bs : List Bool) : blsD (bs.map D.bl) = some bs := by
  induction bs with
  | nil => rfl
  | cons b bs ih => simp only [List.map_cons, blsD, ih, Option.map_some]
theorem q_all_l {bs : List Bool} : dAll [.lst (bs.map D.bl)] = .ok (.bl (bs.all id)) := by
  unfold dAll
  simp only [lstD, blsD_map]
theorem cut_map {α β : Type} (f : α → β) (xs : List α) (lo hi : Option Int) : cutD (xs.map f) lo hi = (cutD xs lo hi).map f := by
  unfold cutD
  rw [List.length_map, List.map_take, List.map_drop]
theorem cut_mem {α : Type} {xs : List α} {lo hi : Option Int} {x : α} (h : x ∈ cutD xs lo hi) : x ∈ xs := List.mem_of_mem_drop (List.mem_of_mem_take h)
theorem q_cut {me : ME} {lo hi : Option ME} {r : Sc} : mCut me lo hi r = (me r).bind fun d => (mPart lo r).bind fun l => (mPart hi r).bind fun h => dCut d l h := id rfl
theorem q_part0 {r : Sc} : mPart none r = .ok none := id rfl
def asIO : D → R (Option Int)
  | .int i => .ok (some i)
  | _ => .bad
theorem q_part1 {me : ME} {r : Sc} : mPart (some me) r = (me r).bind asIO := by
  unfold mPart
  simp only
  congr 1
theorem q_asio {i : Int} : asIO (.int i) = .ok (some i) := id rfl
theorem q_cut_t {xs : List D} {l h : Option Int} : dCut (.tup xs) l h = .ok (.tup (cutD xs l h)) := id rfl
theorem q_cut_l {xs : List D} {l h : Option Int} : dCut (.lst xs) l h = .ok (.lst (cutD xs l h)) := id rfl
theorem t_addt {xs ys : List D} (h : xs.length + ys.length ≤ 16777216) : dAdd (.tup xs) (.tup ys) = .ok (.tup (xs ++ ys)) := if_pos (Nat.le_trans h sizeLine_big)
end QB

namespace LK
open PySem PySem.Spec PyProof.Rows L2 QB
/-! ### the text -/
def topS (i : Nat) : Stmt := PySem.Challenge.pw_quietbroom_k14_octets_cut.main.body.getD i (.Pass ⟨0, 0, 0, 0⟩)
abbrev s_last_index : Stmt := topS 12
abbrev s_decode_number : Stmt := topS 13
abbrev s_law_whole : Stmt := topS 15
abbrev s_law_cell : Stmt := topS 16
abbrev s_law_digits : Stmt := topS 17
abbrev s_law_read_at : Stmt := topS 18
abbrev s_law_outcome : Stmt := topS 19
abbrev s_law_classes : Stmt := topS 20
abbrev s_law_apart : Stmt := topS 21
abbrev s_law_errors_kept : Stmt := topS 22
abbrev s_law_more_errors_kept : Stmt := topS 23
abbrev s_law : Stmt := topS 24
theorem sc_last_index : FnScope ["octets", "at", "spot"] ["octets", "at"] (defScope s_last_index) := ⟨rfl, rfl, rfl, by decide +kernel, rfl, by decide +kernel, by decide +kernel⟩
theorem sc_decode_number : FnScope ["octets", "at", "last", "n", "spot"] ["octets", "at"] (defScope s_decode_number) := ⟨rfl, rfl, rfl, by decide +kernel, rfl, by decide +kernel, by decide +kernel⟩
theorem sc_law_whole : FnScope ["_law_value"] ["_law_value"] (defScope s_law_whole) := ⟨rfl, rfl, rfl, by decide +kernel, rfl, by decide +kernel, by decide +kernel⟩
theorem sc_law_cell : FnScope ["_law_script", "_law_k", "_law_seed", "_law_cell_here"] ["_law_script", "_law_k"] (defScope s_law_cell) := ⟨rfl, rfl, rfl, by decide +kernel, rfl, by decide +kernel, by decide +kernel⟩
theorem sc_law_digits : FnScope ["_law_cell_here", "_law_sizes", "_law_row", "_law_rest", "_law_size", "_law_seed", "_law_k", "_law_twice"] ["_law_cell_here", "_law_sizes"] (defScope s_law_digits) := ⟨rfl, rfl, rfl, by decide +kernel, rfl, by decide +kernel, by decide +kernel⟩
theorem sc_law_read_at : FnScope ["_law_octets", "_law_spot", "_law_found", "_law_k", "_law_last", "_law_n"] ["_law_octets", "_law_spot"] (defScope s_law_read_at) := ⟨rfl, rfl, rfl, by decide +kernel, rfl, by decide +kernel, by decide +kernel⟩
theorem sc_law_outcome : FnScope ["_law_octets", "_law_spot", "_law_told", "_law_e"] ["_law_octets", "_law_spot"] (defScope s_law_outcome) := ⟨rfl, rfl, rfl, by decide +kernel, rfl, by decide +kernel, by decide +kernel⟩
theorem sc_law_classes : FnScope ["_law_e", "_law_row"] ["_law_e"] (defScope s_law_classes) := ⟨rfl, rfl, rfl, by decide +kernel, rfl, by decide +kernel, by decide +kernel⟩
theorem sc_law_apart : FnScope ["_law_e", "_law_k", "_law_j"] ["_law_e", "_law_k"] (defScope s_law_apart) := ⟨rfl, rfl, rfl, by decide +kernel, rfl, by decide +kernel, by decide +kernel⟩
theorem sc_law_errors_kept : FnScope ["_law_n", "_law_text", "_law_one", "_law_two", "_law_three", "_law_four"] ["_law_n", "_law_text"] (defScope s_law_errors_kept) := ⟨rfl, rfl, rfl, by decide +kernel, rfl, by decide +kernel, by decide +kernel⟩
theorem sc_law_more_errors_kept : FnScope ["_law_n", "_law_text", "_law_one", "_law_two", "_law_three", "_law_four", "_law_five"] ["_law_n", "_law_text"] (defScope s_law_more_errors_kept) := ⟨rfl, rfl, rfl, by decide +kernel, rfl, by decide +kernel, by decide +kernel⟩
theorem sc_law : FnScope ["_law_script", "_law_n", "_law_text", "_law_row", "_law_digits_here", "_law_octets", "_law_k", "_law_style", "_law_worth", "_law_mine", "_law_first", "_law_spot", "_law_told", "_law_again"] ["_law_script"] (defScope s_law) := ⟨rfl, rfl, rfl, by decide +kernel, rfl, by decide +kernel, by decide +kernel⟩
def clsS_BadCode : Stmt := match topS 4 with | .ClassDef _ _ _ body _ _ _ _ _ _ _ => body.getD 0 (.Pass ⟨0, 0, 0, 0⟩) | s => s
theorem sc_x_BadCode : FnScope ["self", "at"] ["self", "at"] (defScope clsS_BadCode) := ⟨rfl, rfl, rfl, by decide +kernel, rfl, by decide +kernel, by decide +kernel⟩
def clsS_BadProgram : Stmt := match topS 2 with | .ClassDef _ _ _ body _ _ _ _ _ _ _ => body.getD 0 (.Pass ⟨0, 0, 0, 0⟩) | s => s
theorem sc_x_BadProgram : FnScope ["self", "part", "number", "place", "why"] ["self", "part", "number", "place", "why"] (defScope clsS_BadProgram) := ⟨rfl, rfl, rfl, by decide +kernel, rfl, by decide +kernel, by decide +kernel⟩
def clsS_BadText : Stmt := match topS 3 with | .ClassDef _ _ _ body _ _ _ _ _ _ _ => body.getD 0 (.Pass ⟨0, 0, 0, 0⟩) | s => s
theorem sc_x_BadText : FnScope ["self", "line", "why"] ["self", "line", "why"] (defScope clsS_BadText) := ⟨rfl, rfl, rfl, by decide +kernel, rfl, by decide +kernel, by decide +kernel⟩
def clsS_Refused : Stmt := match topS 5 with | .ClassDef _ _ _ body _ _ _ _ _ _ _ => body.getD 0 (.Pass ⟨0, 0, 0, 0⟩) | s => s
theorem sc_x_Refused : FnScope ["self", "number", "why", "walk", "other"] ["self", "number", "why", "walk", "other"] (defScope clsS_Refused) := ⟨rfl, rfl, rfl, by decide +kernel, rfl, by decide +kernel, by decide +kernel⟩
def clsS_BadPicture : Stmt := match topS 7 with | .ClassDef _ _ _ body _ _ _ _ _ _ _ => body.getD 0 (.Pass ⟨0, 0, 0, 0⟩) | s => s
theorem sc_x_BadPicture : FnScope ["self", "part", "number", "why"] ["self", "part", "number", "why"] (defScope clsS_BadPicture) := ⟨rfl, rfl, rfl, by decide +kernel, rfl, by decide +kernel, by decide +kernel⟩
def clsS_BadImage : Stmt := match topS 8 with | .ClassDef _ _ _ body _ _ _ _ _ _ _ => body.getD 0 (.Pass ⟨0, 0, 0, 0⟩) | s => s
theorem sc_x_BadImage : FnScope ["self", "line", "why"] ["self", "line", "why"] (defScope clsS_BadImage) := ⟨rfl, rfl, rfl, by decide +kernel, rfl, by decide +kernel, by decide +kernel⟩
def clsS_NoRoom : Stmt := match topS 9 with | .ClassDef _ _ _ body _ _ _ _ _ _ _ => body.getD 0 (.Pass ⟨0, 0, 0, 0⟩) | s => s
theorem sc_x_NoRoom : FnScope ["self", "words"] ["self", "words"] (defScope clsS_NoRoom) := ⟨rfl, rfl, rfl, by decide +kernel, rfl, by decide +kernel, by decide +kernel⟩
def clsS_NoObject : Stmt := match topS 10 with | .ClassDef _ _ _ body _ _ _ _ _ _ _ => body.getD 0 (.Pass ⟨0, 0, 0, 0⟩) | s => s
theorem sc_x_NoObject : FnScope ["self", "number"] ["self", "number"] (defScope clsS_NoObject) := ⟨rfl, rfl, rfl, by decide +kernel, rfl, by decide +kernel, by decide +kernel⟩
def ct_BadCode : List (Str × Bool) := [("BadCode", true), ("BadProgram", false), ("BadText", false), ("Refused", false), ("BadPicture", false), ("BadImage", false), ("NoRoom", false), ("NoObject", false)]
def tb_QuietError : List (Str × Bool) := [(("BadCode" : Str), true), (("BadProgram" : Str), true), (("BadText" : Str), true), (("Refused" : Str), true), (("BadPicture" : Str), true), (("BadImage" : Str), true), (("NoRoom" : Str), true), (("NoObject" : Str), true), (("BadArguments" : Str), true)]
def tb_NoObject : List (Str × Bool) := [(("BadCode" : Str), false), (("BadProgram" : Str), false), (("BadText" : Str), false), (("Refused" : Str), false), (("BadPicture" : Str), false), (("BadImage" : Str), false), (("NoRoom" : Str), false), (("NoObject" : Str), true), (("BadArguments" : Str), false)]
def tb_NoRoom : List (Str × Bool) := [(("BadCode" : Str), false), (("BadProgram" : Str), false), (("BadText" : Str), false), (("Refused" : Str), false), (("BadPicture" : Str), false), (("BadImage" : Str), false), (("NoRoom" : Str), true), (("NoObject" : Str), false), (("BadArguments" : Str), false)]
def tb_BadImage : List (Str × Bool) := [(("BadCode" : Str), false), (("BadProgram" : Str), false), (("BadText" : Str), false), (("Refused" : Str), false), (("BadPicture" : Str), false), (("BadImage" : Str), true), (("NoRoom" : Str), false), (("NoObject" : Str), false), (("BadArguments" : Str), false)]
def tb_BadPicture : List (Str × Bool) := [(("BadCode" : Str), false), (("BadProgram" : Str), false), (("BadText" : Str), false), (("Refused" : Str), false), (("BadPicture" : Str), true), (("BadImage" : Str), false), (("NoRoom" : Str), false), (("NoObject" : Str), false), (("BadArguments" : Str), false)]
def tb_BadArguments : List (Str × Bool) := [(("BadCode" : Str), false), (("BadProgram" : Str), false), (("BadText" : Str), false), (("Refused" : Str), false), (("BadPicture" : Str), false), (("BadImage" : Str), false), (("NoRoom" : Str), false), (("NoObject" : Str), false), (("BadArguments" : Str), true)]
def tb_Refused : List (Str × Bool) := [(("BadCode" : Str), false), (("BadProgram" : Str), false), (("BadText" : Str), false), (("Refused" : Str), true), (("BadPicture" : Str), false), (("BadImage" : Str), false), (("NoRoom" : Str), false), (("NoObject" : Str), false), (("BadArguments" : Str), false)]
def tb_BadText : List (Str × Bool) := [(("BadCode" : Str), false), (("BadProgram" : Str), false), (("BadText" : Str), true), (("Refused" : Str), false), (("BadPicture" : Str), false), (("BadImage" : Str), false), (("NoRoom" : Str), false), (("NoObject" : Str), false), (("BadArguments" : Str), false)]
def tb_BadProgram : List (Str × Bool) := [(("BadCode" : Str), false), (("BadProgram" : Str), true), (("BadText" : Str), false), (("Refused" : Str), false), (("BadPicture" : Str), false), (("BadImage" : Str), false), (("NoRoom" : Str), false), (("NoObject" : Str), false), (("BadArguments" : Str), false)]
def tb_BadCode : List (Str × Bool) := [(("BadCode" : Str), true), (("BadProgram" : Str), false), (("BadText" : Str), false), (("Refused" : Str), false), (("BadPicture" : Str), false), (("BadImage" : Str), false), (("NoRoom" : Str), false), (("NoObject" : Str), false), (("BadArguments" : Str), false)]
def tb_ValueError : List (Str × Bool) := [(("BadCode" : Str), true), (("BadProgram" : Str), true), (("BadText" : Str), true), (("Refused" : Str), true), (("BadPicture" : Str), true), (("BadImage" : Str), true), (("NoRoom" : Str), true), (("NoObject" : Str), true), (("BadArguments" : Str), true)]
def xL_at : List Str := [("BadCode" : Str)]
def xL_why : List Str := [("BadProgram" : Str), ("BadText" : Str), ("Refused" : Str), ("BadPicture" : Str), ("BadImage" : Str)]
def xL_line : List Str := [("BadText" : Str), ("BadImage" : Str)]
def xL_place : List Str := [("BadProgram" : Str)]
def xL_number : List Str := [("BadProgram" : Str), ("Refused" : Str), ("BadPicture" : Str), ("NoObject" : Str)]
def xL_part : List Str := [("BadProgram" : Str), ("BadPicture" : Str)]
def xL_other : List Str := [("Refused" : Str)]
def xL_walk : List Str := [("Refused" : Str)]
def xL_words : List Str := [("NoRoom" : Str)]
def xAll : List Str := [("BadCode" : Str), ("BadProgram" : Str), ("BadText" : Str), ("Refused" : Str), ("BadPicture" : Str), ("BadImage" : Str), ("NoRoom" : Str), ("NoObject" : Str), ("BadArguments" : Str)]
/-! ### the mirrors -/
noncomputable def b_law_cell_1 : MS := (mSet 2 (mBin dMod (mCallB dInt (mCons (mBin dAdd (mBin dMul (mVar 2) (mC (.int 31))) (mBin dMod (mCallB dInt (mCons (mVar 3) mNil)) (mC (.int 1000003)))) mNil)) (mC (.int 1000003))))
noncomputable def m_law_cell : List D → R D := mDef 4 (mSeq (mIf (mTB (mBin dLt (mVar 1) (mCallB dLen (mCons (mVar 0) mNil)))) (mRet (mBin dIx (mVar 0) (mVar 1))) mNx) (mSeq (mSet 2 (mC (.int 17))) (mSeq (mFor (mItems (mVar 0)) (bName 3) b_law_cell_1) (mRet (mBin dMod (mCallB dInt (mCons (mBin dMul (mBin dMul (mBin dAdd (mVar 2) (mC (.int 7))) (mBin dAdd (mVar 1) (mC (.int 3)))) (mC (.int 69621))) mNil)) (mC (.int 2147483647)))))))
noncomputable def m_law_classes : List D → R D := mDef 2 (mSeq (mSet 1 (mCellE (mLst (mCons (mIsx vwO (fun c => List.lookup c tb_BadProgram) (mVar 0)) (mCons (mIsx vwO (fun c => List.lookup c tb_BadText) (mVar 0)) (mCons (mIsx vwO (fun c => List.lookup c tb_BadCode) (mVar 0)) (mCons (mIsx vwO (fun c => List.lookup c tb_Refused) (mVar 0)) mNil))))))) (mSeq (mSet 1 (mBin dAdd (mVar 1) (mCellE (mLst (mCons (mIsx vwO (fun c => List.lookup c tb_BadArguments) (mVar 0)) (mCons (mIsx vwO (fun c => List.lookup c tb_BadPicture) (mVar 0)) (mCons (mIsx vwO (fun c => List.lookup c tb_BadImage) (mVar 0)) mNil))))))) (mRet (mBin dAdd (mVar 1) (mCellE (mLst (mCons (mIsx vwO (fun c => List.lookup c tb_NoRoom) (mVar 0)) (mCons (mIsx vwO (fun c => List.lookup c tb_NoObject) (mVar 0)) mNil))))))))
noncomputable def e_law_apart_1 : ME := (mBin dEq (mVar 2) (mVar 1))
noncomputable def m_law_apart : List D → R D := mDef 3 (mSeq (mIf (mTOr (mTNot (mTB (mIsx vwO (fun c => List.lookup c tb_QuietError) (mVar 0)))) (mTNot (mTB (mIsx vwO (fun c => List.lookup c tb_ValueError) (mVar 0))))) (mRet (mC (.bl false))) mNx) (mRet (mBin dEq (mCallB m_law_classes (mCons (mVar 0) mNil)) (mCellE (mLC [2] (mRg (mCons (mC (.int 9)) mNil)) (bName 2) mYes e_law_apart_1)))))
noncomputable def m_law_more_errors_kept : List D → R D := mDef 7 (mSeq (mSet 2 (mMkx0 "BadArguments")) (mSeq (mSet 3 (mMkx "BadPicture" ["part", "number", "why"] (mCons (mVar 1) (mCons (mVar 0) (mCons (mBin dAdd (mVar 1) (mC (.str "x"))) mNil))))) (mSeq (mSet 4 (mMkx "BadImage" ["line", "why"] (mCons (mVar 0) (mCons (mVar 1) mNil)))) (mSeq (mSet 5 (mMkx "NoRoom" ["words"] (mCons (mVar 0) mNil))) (mSeq (mSet 6 (mMkx "NoObject" ["number"] (mCons (mVar 0) mNil))) (mSeq (mIf (mTOr (mTB (mBin dNe (mTup (mCons (mXf vwO xL_part "part" (mVar 3)) (mCons (mXf vwO xL_number "number" (mVar 3)) (mCons (mXf vwO xL_why "why" (mVar 3)) mNil)))) (mTup (mCons (mVar 1) (mCons (mVar 0) (mCons (mBin dAdd (mVar 1) (mC (.str "x"))) mNil)))))) (mTB (mBin dNe (mTup (mCons (mXf vwO xL_line "line" (mVar 4)) (mCons (mXf vwO xL_why "why" (mVar 4)) mNil))) (mTup (mCons (mVar 0) (mCons (mVar 1) mNil)))))) (mRet (mC (.bl false))) mNx) (mSeq (mIf (mTOr (mTB (mBin dNe (mXf vwO xL_words "words" (mVar 5)) (mVar 0))) (mTOr (mTB (mBin dNe (mXf vwO xL_number "number" (mVar 6)) (mVar 0))) (mTOr (mTNot (mTB (mCallB m_law_apart (mCons (mVar 2) (mCons (mC (.int 4)) mNil))))) (mTNot (mTB (mCallB m_law_apart (mCons (mVar 3) (mCons (mC (.int 5)) mNil)))))))) (mRet (mC (.bl false))) mNx) (mRet (mAnd (mCallB m_law_apart (mCons (mVar 4) (mCons (mC (.int 6)) mNil))) (mAnd (mCallB m_law_apart (mCons (mVar 5) (mCons (mC (.int 7)) mNil))) (mCallB m_law_apart (mCons (mVar 6) (mCons (mC (.int 8)) mNil)))))))))))))
noncomputable def m_law_errors_kept : List D → R D := mDef 6 (mSeq (mSet 2 (mMkx "BadProgram" ["part", "number", "place", "why"] (mCons (mVar 1) (mCons (mVar 0) (mCons (mBin dSub (mVar 0) (mC (.int 1))) (mCons (mBin dAdd (mVar 1) (mC (.str "x"))) mNil)))))) (mSeq (mSet 3 (mMkx "BadText" ["line", "why"] (mCons (mVar 0) (mCons (mVar 1) mNil)))) (mSeq (mSet 4 (mMkx "BadCode" ["at"] (mCons (mVar 0) mNil))) (mSeq (mSet 5 (mMkx "Refused" ["number", "why", "walk", "other"] (mCons (mVar 0) (mCons (mVar 1) (mCons (mTup (mCons (mC (.int 0)) (mCons (mVar 0) mNil))) (mCons (mTup (mCons (mVar 0) mNil)) mNil)))))) (mSeq (mIf (mTOr (mTB (mBin dNe (mTup (mCons (mXf vwO xL_part "part" (mVar 2)) (mCons (mXf vwO xL_number "number" (mVar 2)) (mCons (mXf vwO xL_place "place" (mVar 2)) (mCons (mXf vwO xL_why "why" (mVar 2)) mNil))))) (mTup (mCons (mVar 1) (mCons (mVar 0) (mCons (mBin dSub (mVar 0) (mC (.int 1))) (mCons (mBin dAdd (mVar 1) (mC (.str "x"))) mNil))))))) (mTB (mBin dNe (mTup (mCons (mXf vwO xL_line "line" (mVar 3)) (mCons (mXf vwO xL_why "why" (mVar 3)) mNil))) (mTup (mCons (mVar 0) (mCons (mVar 1) mNil)))))) (mRet (mC (.bl false))) mNx) (mSeq (mIf (mTOr (mTB (mBin dNe (mXf vwO xL_at "at" (mVar 4)) (mVar 0))) (mTB (mBin dNe (mTup (mCons (mXf vwO xL_number "number" (mVar 5)) (mCons (mXf vwO xL_why "why" (mVar 5)) (mCons (mXf vwO xL_walk "walk" (mVar 5)) (mCons (mXf vwO xL_other "other" (mVar 5)) mNil))))) (mTup (mCons (mVar 0) (mCons (mVar 1) (mCons (mTup (mCons (mC (.int 0)) (mCons (mVar 0) mNil))) (mCons (mTup (mCons (mVar 0) mNil)) mNil)))))))) (mRet (mC (.bl false))) mNx) (mRet (mAnd (mCallB m_law_apart (mCons (mVar 2) (mCons (mC (.int 0)) mNil))) (mAnd (mCallB m_law_apart (mCons (mVar 3) (mCons (mC (.int 1)) mNil))) (mAnd (mCallB m_law_apart (mCons (mVar 4) (mCons (mC (.int 2)) mNil))) (mCallB m_law_apart (mCons (mVar 5) (mCons (mC (.int 3)) mNil)))))))))))))
noncomputable def b_law_digits_1 : MS := (mSeq (mApp 2 (mBin dMod (mCallB dInt (mCons (mVar 3) mNil)) (mVar 4))) (mSet 3 (mBin dDiv (mCallB dInt (mCons (mVar 3) mNil)) (mVar 4))))
noncomputable def b_law_digits_2 : MS := (mSeq (mSet 5 (mBin dMod (mCallB dInt (mCons (mBin dAdd (mBin dAdd (mBin dMul (mVar 5) (mC (.int 48271))) (mBin dMul (mC (.int 974711)) (mVar 6))) (mC (.int 12345))) mNil)) (mC (.int 2147483647)))) (mSeq (mSet 7 (mBin dMod (mCallB dInt (mCons (mBin dMul (mVar 5) (mBin dAdd (mBin dDiv (mVar 5) (mC (.int 65537))) (mC (.int 3)))) mNil)) (mC (.int 2147483629)))) (mApp 2 (mBin dMod (mBin dDiv (mVar 7) (mC (.int 19))) (mBin dIx (mVar 1) (mVar 6))))))
noncomputable def m_law_digits : List D → R D := mDef 8 (mSeq (mSetO 2 (mLst mNil)) (mSeq (mSet 3 (mCallB dInt (mCons (mVar 0) mNil))) (mSeq (mIf (mTB (mBin dGe (mVar 3) (mBin dPow (mC (.int 10)) (mC (.int 18))))) (mSeq (mSet 3 (mBin dSub (mVar 3) (mBin dPow (mC (.int 10)) (mC (.int 18))))) (mSeq (mFor (mItems (mVar 1)) (bName 4) b_law_digits_1) (mRet (mVarW 2)))) mNx) (mSeq (mSet 5 (mBin dMod (mCallB dInt (mCons (mVar 3) mNil)) (mC (.int 2147483629)))) (mSeq (mFor (mRg (mCons (mCallB dLen (mCons (mVar 1) mNil)) mNil)) (bName 6) b_law_digits_2) (mRet (mVarW 2)))))))
noncomputable def b_last_index_1 : MS := (mIf (mTB (mBin dLt (mBin dIx (mVar 0) (mVar 2)) (mC (.int 128)))) (mRet (mVar 2)) mNx)
noncomputable def m_last_index : List D → R D := mDef 3 (mSeq (mFor (mRg (mCons (mVar 1) (mCons (mCallB dLen (mCons (mVar 0) mNil)) mNil))) (bName 2) b_last_index_1) (mRaise "BadCode" ["at"] (mCons (mCallB dLen (mCons (mVar 0) mNil)) mNil)))
noncomputable def b_decode_number_1 : MS := (mSet 3 (mBin dSub (mBin dAdd (mBin dMul (mC (.int 128)) (mVar 3)) (mBin dIx (mVar 0) (mVar 4))) (mC (.int 128))))
noncomputable def m_decode_number : List D → R D := mDef 5 (mSeq (mSet 2 (mCallB m_last_index (mCons (mVar 0) (mCons (mVar 1) mNil)))) (mSeq (mIf (mTOr (mTB (mBin dGt (mBin dSub (mVar 2) (mVar 1)) (mC (.int 4)))) (mTAnd (mTB (mBin dGt (mVar 2) (mVar 1))) (mTB (mBin dEq (mBin dIx (mVar 0) (mVar 2)) (mC (.int 0)))))) (mRaise "BadCode" ["at"] (mCons (mVar 1) mNil)) mNx) (mSeq (mSet 3 (mBin dIx (mVar 0) (mVar 2))) (mSeq (mFor (mRg3 (mCons (mBin dSub (mVar 2) (mC (.int 1))) (mCons (mBin dSub (mVar 1) (mC (.int 1))) (mCons (mNeg (mC (.int 1))) mNil)))) (bName 4) b_decode_number_1) (mRet (mTup (mCons (mVar 3) (mCons (mBin dAdd (mVar 2) (mC (.int 1))) mNil))))))))
noncomputable def m_law_whole : List D → R D := mDef 1 (mRet (mAnd (mIsi "int" (mVar 0)) (mNot (mIsi "bool" (mVar 0)))))
noncomputable def m_law_outcome : List D → R D := mDef 4 (mSeq (mTryAs 3 (fun c => List.lookup c ct_BadCode) (mSet 2 (mCallB m_decode_number (mCons (mVar 0) (mCons (mVar 1) mNil)))) (fun a dx c => (mSeq (mIf (mTOr (mTNot (mTB (mCallH m_law_whole (mCons (mXf (vwE a dx c) xL_at "at" (mVar 3)) mNil)))) (mTOr (mTNot (mTB (mIsx (vwE a dx c) (fun c => List.lookup c tb_QuietError) (mVar 3)))) (mTNot (mTB (mIsx (vwE a dx c) (fun c => List.lookup c tb_ValueError) (mVar 3)))))) (mRet (mCellE (mLst mNil))) mNx) (mSeq (mIf (mTB (mIsxT (vwE a dx c) xAll [fun c => List.lookup c tb_BadProgram, fun c => List.lookup c tb_BadText, fun c => List.lookup c tb_Refused, fun c => List.lookup c tb_BadArguments, fun c => List.lookup c tb_BadPicture, fun c => List.lookup c tb_BadImage, fun c => List.lookup c tb_NoRoom, fun c => List.lookup c tb_NoObject] (mVar 3))) (mRet (mCellE (mLst mNil))) mNx) (mRet (mCellE (mLst (mCons (mC .non) (mCons (mXf (vwE a dx c) xL_at "at" (mVar 3)) mNil))))))))) (mSeq (mIf (mTOr (mTNot (mTB (mIsi "tuple" (mVar 2)))) (mTOr (mTB (mBin dNe (mCallB dLen (mCons (mVar 2) mNil)) (mC (.int 2)))) (mTOr (mTNot (mTB (mCallB m_law_whole (mCons (mBin dIx (mVar 2) (mC (.int 0))) mNil)))) (mTNot (mTB (mCallB m_law_whole (mCons (mBin dIx (mVar 2) (mC (.int 1))) mNil))))))) (mRet (mCellE (mLst mNil))) mNx) (mRet (mCellE (mLst (mCons (mBin dIx (mVar 2) (mC (.int 0))) (mCons (mBin dIx (mVar 2) (mC (.int 1))) mNil)))))))
noncomputable def e_law_read_at_1 : ME := (mVar 3)
noncomputable def b_law_read_at_2 : MS := (mSet 5 (mBin dAdd (mBin dMul (mC (.int 128)) (mVar 5)) (mBin dMod (mCallB dInt (mCons (mBin dIx (mVar 0) (mBin dSub (mVar 4) (mVar 3))) mNil)) (mC (.int 128)))))
noncomputable def m_law_read_at : List D → R D := mDef 6 (mSeq (mSetO 2 (mLC [3] (mRg (mCons (mVar 1) (mCons (mCallB dLen (mCons (mVar 0) mNil)) mNil))) (bName 3) (mTB (mBin dLt (mBin dIx (mVar 0) (mVar 3)) (mC (.int 128)))) e_law_read_at_1)) (mSeq (mIf (mTB (mBin dEq (mCallB dLen (mCons (mVarW 2) mNil)) (mC (.int 0)))) (mRet (mCellE (mLst (mCons (mC .non) (mCons (mCallB dLen (mCons (mVar 0) mNil)) mNil))))) mNx) (mSeq (mSet 4 (mIxO 2 (mC (.int 0)))) (mSeq (mIf (mTOr (mTB (mBin dGt (mBin dSub (mVar 4) (mVar 1)) (mC (.int 4)))) (mTAnd (mTB (mBin dGt (mVar 4) (mVar 1))) (mTB (mBin dEq (mBin dIx (mVar 0) (mVar 4)) (mC (.int 0)))))) (mRet (mCellE (mLst (mCons (mC .non) (mCons (mVar 1) mNil))))) mNx) (mSeq (mSet 5 (mC (.int 0))) (mSeq (mFor (mRg (mCons (mBin dAdd (mBin dSub (mVar 4) (mVar 1)) (mC (.int 1))) mNil)) (bName 3) b_law_read_at_2) (mRet (mCellE (mLst (mCons (mVar 5) (mCons (mBin dAdd (mVar 4) (mC (.int 1))) mNil)))))))))))
noncomputable def b_law_1 : MS := (mSeq (mSet 7 (mBin dIx (mVar 4) (mBin dMul (mC (.int 2)) (mVar 6)))) (mSeq (mSet 8 (mBin dIx (mVar 4) (mBin dAdd (mC (.int 1)) (mBin dMul (mC (.int 2)) (mVar 6))))) (mSeq (mIf (mTOr (mTB (mBin dLt (mVar 7) (mC (.int 3)))) (mTAnd (mTB (mBin dEq (mBin dIx (mVar 3) (mC (.int 1))) (mC (.int 0)))) (mTB (mBin dLt (mVar 7) (mC (.int 7)))))) (mSet 8 (mBin dAdd (mC (.int 128)) (mBin dMod (mCallB dInt (mCons (mVar 8) mNil)) (mC (.int 128))))) (mIf (mTB (mBin dEq (mVar 7) (mC (.int 3)))) (mSet 8 (mC (.int 0))) (mIf (mTB (mBin dEq (mVar 7) (mC (.int 4)))) (mSet 8 (mC (.int 128))) mNx))) (mApp 5 (mVar 8)))))
noncomputable def e_law_2 : ME := (mBin dAdd (mC (.int 128)) (mVar 6))
noncomputable def b_law_3 : MS := (mSeq (mSet 12 (mCallB m_law_outcome (mCons (mVar 9) (mCons (mVar 11) mNil)))) (mSeq (mIf (mTB (mBin dNe (mVar 12) (mCallB m_law_read_at (mCons (mVar 5) (mCons (mVar 11) mNil))))) (mRet (mC (.bl false))) mNx) (mApp 10 (mVar 12))))
noncomputable def e_law_4 : ME := (mCallB m_law_outcome (mCons (mVar 9) (mCons (mVar 11) mNil)))
noncomputable def m_law : List D → R D := mDef 14 (mSeq (mSet 1 (mCallB dInt (mCons (mCallB m_law_cell (mCons (mVar 0) (mCons (mC (.int 2)) mNil))) mNil))) (mSeq (mSet 2 (mBin dIx (mCellE (mLst (mCons (mC (.str "count")) (mCons (mC (.str "")) (mCons (mC (.str "kind")) (mCons (mC (.str "x")) mNil)))))) (mBin dMod (mCallB dInt (mCons (mVar 1) mNil)) (mC (.int 4))))) (mSeq (mIf (mTOr (mTNot (mTB (mCallB m_law_errors_kept (mCons (mVar 1) (mCons (mVar 2) mNil))))) (mTNot (mTB (mCallB m_law_more_errors_kept (mCons (mVar 1) (mCons (mVar 2) mNil)))))) (mRet (mC (.bl false))) mNx) (mSeq (mSet 3 (mCallB m_law_digits (mCons (mCallB m_law_cell (mCons (mVar 0) (mCons (mC (.int 0)) mNil))) (mCons (mCellE (mLst (mCons (mC (.int 41)) (mCons (mC (.int 3)) (mCons (mC (.int 2)) (mCons (mC (.int 8)) mNil)))))) mNil)))) (mSeq (mSet 4 (mCallB m_law_digits (mCons (mCallB m_law_cell (mCons (mVar 0) (mCons (mC (.int 1)) mNil))) (mCons (mBin dMul (mCellE (mLst (mCons (mC (.int 8)) (mCons (mC (.int 256)) mNil)))) (mC (.int 40))) mNil)))) (mSeq (mSetO 5 (mLst mNil)) (mSeq (mFor (mRg (mCons (mBin dIx (mVar 3) (mC (.int 0))) mNil)) (bName 6) b_law_1) (mSeq (mIf (mTB (mBin dEq (mBin dIx (mVar 3) (mC (.int 3))) (mC (.int 0)))) (mFrz 5 (mSetO 5 (mCatF (mCellE (mLC [6] (mRg (mCons (mC (.int 90)) mNil)) (bName 6) mYes e_law_2)) (mVar 5)))) mNx) (mSeq (mSet 9 (mCellE (mLstO 5))) (mSeq (mIf (mTB (mBin dEq (mBin dIx (mVar 3) (mC (.int 2))) (mC (.int 1)))) (mSet 9 (mTupO 5)) mNx) (mSeq (mSetO 10 (mLst mNil)) (mSeq (mFrz 5 (mFor (mRg (mCons (mBin dAdd (mCallB dLen (mCons (mVar 5) mNil)) (mC (.int 1))) mNil)) (bName 11) b_law_3)) (mSeq (mSetO 13 (mLC [11] (mRg (mCons (mBin dAdd (mCallB dLen (mCons (mVar 5) mNil)) (mC (.int 1))) mNil)) (bName 11) mYes e_law_4)) (mRet (mAnd (mBin dEq (mVarW 13) (mVarW 10)) (mBin dEq (mCellE (mLstOf (mCons (mVar 9) mNil))) (mVar 5)))))))))))))))))
/-! ### what the top has written -/
structure Tx (w : World) (K : PySem.W.Frag) (mg : Str → Option Value) : Prop where
  d_law_cell : ∃ (f : Addr) (fd : FuncData), Fun K "_law_cell" "_law_cell" s_law_cell f fd ∧ mg "_law_cell" = some (.ref f)
  d_law_classes : ∃ (f : Addr) (fd : FuncData), Fun K "_law_classes" "_law_classes" s_law_classes f fd ∧ mg "_law_classes" = some (.ref f)
  d_law_apart : ∃ (f : Addr) (fd : FuncData), Fun K "_law_apart" "_law_apart" s_law_apart f fd ∧ mg "_law_apart" = some (.ref f)
  d_law_more_errors_kept : ∃ (f : Addr) (fd : FuncData), Fun K "_law_more_errors_kept" "_law_more_errors_kept" s_law_more_errors_kept f fd ∧ mg "_law_more_errors_kept" = some (.ref f)
  d_law_errors_kept : ∃ (f : Addr) (fd : FuncData), Fun K "_law_errors_kept" "_law_errors_kept" s_law_errors_kept f fd ∧ mg "_law_errors_kept" = some (.ref f)
  d_law_digits : ∃ (f : Addr) (fd : FuncData), Fun K "_law_digits" "_law_digits" s_law_digits f fd ∧ mg "_law_digits" = some (.ref f)
  d_last_index : ∃ (f : Addr) (fd : FuncData), Fun K "last_index" "last_index" s_last_index f fd ∧ mg "last_index" = some (.ref f)
  d_decode_number : ∃ (f : Addr) (fd : FuncData), Fun K "decode_number" "decode_number" s_decode_number f fd ∧ mg "decode_number" = some (.ref f)
  d_law_whole : ∃ (f : Addr) (fd : FuncData), Fun K "_law_whole" "_law_whole" s_law_whole f fd ∧ mg "_law_whole" = some (.ref f)
  d_law_outcome : ∃ (f : Addr) (fd : FuncData), Fun K "_law_outcome" "_law_outcome" s_law_outcome f fd ∧ mg "_law_outcome" = some (.ref f)
  d_law_read_at : ∃ (f : Addr) (fd : FuncData), Fun K "_law_read_at" "_law_read_at" s_law_read_at f fd ∧ mg "_law_read_at" = some (.ref f)
  d_law : ∃ (f : Addr) (fd : FuncData), Fun K "law" "law" s_law f fd ∧ mg "law" = some (.ref f)
  x_BadCode : XcF K mg "BadCode" ["at"] "__init__" "BadCode.__init__" clsS_BadCode
  x_BadProgram : XcF K mg "BadProgram" ["part", "number", "place", "why"] "__init__" "BadProgram.__init__" clsS_BadProgram
  x_BadText : XcF K mg "BadText" ["line", "why"] "__init__" "BadText.__init__" clsS_BadText
  x_Refused : XcF K mg "Refused" ["number", "why", "walk", "other"] "__init__" "Refused.__init__" clsS_Refused
  x_BadPicture : XcF K mg "BadPicture" ["part", "number", "why"] "__init__" "BadPicture.__init__" clsS_BadPicture
  x_BadImage : XcF K mg "BadImage" ["line", "why"] "__init__" "BadImage.__init__" clsS_BadImage
  x_NoRoom : XcF K mg "NoRoom" ["words"] "__init__" "NoRoom.__init__" clsS_NoRoom
  x_NoObject : XcF K mg "NoObject" ["number"] "__init__" "NoObject.__init__" clsS_NoObject
  y_BadCode : XqF K mg "BadCode" ["at"]
  y_BadProgram : XqF K mg "BadProgram" ["part", "number", "place", "why"]
  y_BadText : XqF K mg "BadText" ["line", "why"]
  y_Refused : XqF K mg "Refused" ["number", "why", "walk", "other"]
  y_BadPicture : XqF K mg "BadPicture" ["part", "number", "why"]
  y_BadImage : XqF K mg "BadImage" ["line", "why"]
  y_NoRoom : XqF K mg "NoRoom" ["words"]
  y_NoObject : XqF K mg "NoObject" ["number"]
  y_BadArguments : XqF K mg "BadArguments" []
  u_BadArguments : XoC K mg [.type "ValueError", .type "Exception", .type "BaseException", .type "object"] "ValueError.__new__" "BadArguments"
  i_QuietError_BadCode : ∃ C Q : Addr, mg "BadCode" = some (.ref C) ∧ mg "QuietError" = some (.ref Q) ∧ ExcC K C ∧ PySem.W.kitOne K (.ref C) (.ref Q) = some true
  i_QuietError_BadProgram : ∃ C Q : Addr, mg "BadProgram" = some (.ref C) ∧ mg "QuietError" = some (.ref Q) ∧ ExcC K C ∧ PySem.W.kitOne K (.ref C) (.ref Q) = some true
  i_QuietError_BadText : ∃ C Q : Addr, mg "BadText" = some (.ref C) ∧ mg "QuietError" = some (.ref Q) ∧ ExcC K C ∧ PySem.W.kitOne K (.ref C) (.ref Q) = some true
  i_QuietError_Refused : ∃ C Q : Addr, mg "Refused" = some (.ref C) ∧ mg "QuietError" = some (.ref Q) ∧ ExcC K C ∧ PySem.W.kitOne K (.ref C) (.ref Q) = some true
  i_QuietError_BadPicture : ∃ C Q : Addr, mg "BadPicture" = some (.ref C) ∧ mg "QuietError" = some (.ref Q) ∧ ExcC K C ∧ PySem.W.kitOne K (.ref C) (.ref Q) = some true
  i_QuietError_BadImage : ∃ C Q : Addr, mg "BadImage" = some (.ref C) ∧ mg "QuietError" = some (.ref Q) ∧ ExcC K C ∧ PySem.W.kitOne K (.ref C) (.ref Q) = some true
  i_QuietError_NoRoom : ∃ C Q : Addr, mg "NoRoom" = some (.ref C) ∧ mg "QuietError" = some (.ref Q) ∧ ExcC K C ∧ PySem.W.kitOne K (.ref C) (.ref Q) = some true
  i_QuietError_NoObject : ∃ C Q : Addr, mg "NoObject" = some (.ref C) ∧ mg "QuietError" = some (.ref Q) ∧ ExcC K C ∧ PySem.W.kitOne K (.ref C) (.ref Q) = some true
  i_QuietError_BadArguments : ∃ C Q : Addr, mg "BadArguments" = some (.ref C) ∧ mg "QuietError" = some (.ref Q) ∧ ExcC K C ∧ PySem.W.kitOne K (.ref C) (.ref Q) = some true
  i_NoObject_BadCode : ∃ C Q : Addr, mg "BadCode" = some (.ref C) ∧ mg "NoObject" = some (.ref Q) ∧ ExcC K C ∧ PySem.W.kitOne K (.ref C) (.ref Q) = some false
  i_NoObject_BadProgram : ∃ C Q : Addr, mg "BadProgram" = some (.ref C) ∧ mg "NoObject" = some (.ref Q) ∧ ExcC K C ∧ PySem.W.kitOne K (.ref C) (.ref Q) = some false
  i_NoObject_BadText : ∃ C Q : Addr, mg "BadText" = some (.ref C) ∧ mg "NoObject" = some (.ref Q) ∧ ExcC K C ∧ PySem.W.kitOne K (.ref C) (.ref Q) = some false
  i_NoObject_Refused : ∃ C Q : Addr, mg "Refused" = some (.ref C) ∧ mg "NoObject" = some (.ref Q) ∧ ExcC K C ∧ PySem.W.kitOne K (.ref C) (.ref Q) = some false
  i_NoObject_BadPicture : ∃ C Q : Addr, mg "BadPicture" = some (.ref C) ∧ mg "NoObject" = some (.ref Q) ∧ ExcC K C ∧ PySem.W.kitOne K (.ref C) (.ref Q) = some false
  i_NoObject_BadImage : ∃ C Q : Addr, mg "BadImage" = some (.ref C) ∧ mg "NoObject" = some (.ref Q) ∧ ExcC K C ∧ PySem.W.kitOne K (.ref C) (.ref Q) = some false
  i_NoObject_NoRoom : ∃ C Q : Addr, mg "NoRoom" = some (.ref C) ∧ mg "NoObject" = some (.ref Q) ∧ ExcC K C ∧ PySem.W.kitOne K (.ref C) (.ref Q) = some false
  i_NoObject_NoObject : ∃ C Q : Addr, mg "NoObject" = some (.ref C) ∧ mg "NoObject" = some (.ref Q) ∧ ExcC K C ∧ PySem.W.kitOne K (.ref C) (.ref Q) = some true
  i_NoObject_BadArguments : ∃ C Q : Addr, mg "BadArguments" = some (.ref C) ∧ mg "NoObject" = some (.ref Q) ∧ ExcC K C ∧ PySem.W.kitOne K (.ref C) (.ref Q) = some false
  i_NoRoom_BadCode : ∃ C Q : Addr, mg "BadCode" = some (.ref C) ∧ mg "NoRoom" = some (.ref Q) ∧ ExcC K C ∧ PySem.W.kitOne K (.ref C) (.ref Q) = some false
  i_NoRoom_BadProgram : ∃ C Q : Addr, mg "BadProgram" = some (.ref C) ∧ mg "NoRoom" = some (.ref Q) ∧ ExcC K C ∧ PySem.W.kitOne K (.ref C) (.ref Q) = some false
  i_NoRoom_BadText : ∃ C Q : Addr, mg "BadText" = some (.ref C) ∧ mg "NoRoom" = some (.ref Q) ∧ ExcC K C ∧ PySem.W.kitOne K (.ref C) (.ref Q) = some false
  i_NoRoom_Refused : ∃ C Q : Addr, mg "Refused" = some (.ref C) ∧ mg "NoRoom" = some (.ref Q) ∧ ExcC K C ∧ PySem.W.kitOne K (.ref C) (.ref Q) = some false
  i_NoRoom_BadPicture : ∃ C Q : Addr, mg "BadPicture" = some (.ref C) ∧ mg "NoRoom" = some (.ref Q) ∧ ExcC K C ∧ PySem.W.kitOne K (.ref C) (.ref Q) = some false
  i_NoRoom_BadImage : ∃ C Q : Addr, mg "BadImage" = some (.ref C) ∧ mg "NoRoom" = some (.ref Q) ∧ ExcC K C ∧ PySem.W.kitOne K (.ref C) (.ref Q) = some false
  i_NoRoom_NoRoom : ∃ C Q : Addr, mg "NoRoom" = some (.ref C) ∧ mg "NoRoom" = some (.ref Q) ∧ ExcC K C ∧ PySem.W.kitOne K (.ref C) (.ref Q) = some true
  i_NoRoom_NoObject : ∃ C Q : Addr, mg "NoObject" = some (.ref C) ∧ mg "NoRoom" = some (.ref Q) ∧ ExcC K C ∧ PySem.W.kitOne K (.ref C) (.ref Q) = some false
  i_NoRoom_BadArguments : ∃ C Q : Addr, mg "BadArguments" = some (.ref C) ∧ mg "NoRoom" = some (.ref Q) ∧ ExcC K C ∧ PySem.W.kitOne K (.ref C) (.ref Q) = some false
  i_BadImage_BadCode : ∃ C Q : Addr, mg "BadCode" = some (.ref C) ∧ mg "BadImage" = some (.ref Q) ∧ ExcC K C ∧ PySem.W.kitOne K (.ref C) (.ref Q) = some false
  i_BadImage_BadProgram : ∃ C Q : Addr, mg "BadProgram" = some (.ref C) ∧ mg "BadImage" = some (.ref Q) ∧ ExcC K C ∧ PySem.W.kitOne K (.ref C) (.ref Q) = some false
  i_BadImage_BadText : ∃ C Q : Addr, mg "BadText" = some (.ref C) ∧ mg "BadImage" = some (.ref Q) ∧ ExcC K C ∧ PySem.W.kitOne K (.ref C) (.ref Q) = some false
  i_BadImage_Refused : ∃ C Q : Addr, mg "Refused" = some (.ref C) ∧ mg "BadImage" = some (.ref Q) ∧ ExcC K C ∧ PySem.W.kitOne K (.ref C) (.ref Q) = some false
  i_BadImage_BadPicture : ∃ C Q : Addr, mg "BadPicture" = some (.ref C) ∧ mg "BadImage" = some (.ref Q) ∧ ExcC K C ∧ PySem.W.kitOne K (.ref C) (.ref Q) = some false
  i_BadImage_BadImage : ∃ C Q : Addr, mg "BadImage" = some (.ref C) ∧ mg "BadImage" = some (.ref Q) ∧ ExcC K C ∧ PySem.W.kitOne K (.ref C) (.ref Q) = some true
  i_BadImage_NoRoom : ∃ C Q : Addr, mg "NoRoom" = some (.ref C) ∧ mg "BadImage" = some (.ref Q) ∧ ExcC K C ∧ PySem.W.kitOne K (.ref C) (.ref Q) = some false
  i_BadImage_NoObject : ∃ C Q : Addr, mg "NoObject" = some (.ref C) ∧ mg "BadImage" = some (.ref Q) ∧ ExcC K C ∧ PySem.W.kitOne K (.ref C) (.ref Q) = some false
  i_BadImage_BadArguments : ∃ C Q : Addr, mg "BadArguments" = some (.ref C) ∧ mg "BadImage" = some (.ref Q) ∧ ExcC K C ∧ PySem.W.kitOne K (.ref C) (.ref Q) = some false
  i_BadPicture_BadCode : ∃ C Q : Addr, mg "BadCode" = some (.ref C) ∧ mg "BadPicture" = some (.ref Q) ∧ ExcC K C ∧ PySem.W.kitOne K (.ref C) (.ref Q) = some false
  i_BadPicture_BadProgram : ∃ C Q : Addr, mg "BadProgram" = some (.ref C) ∧ mg "BadPicture" = some (.ref Q) ∧ ExcC K C ∧ PySem.W.kitOne K (.ref C) (.ref Q) = some false
  i_BadPicture_BadText : ∃ C Q : Addr, mg "BadText" = some (.ref C) ∧ mg "BadPicture" = some (.ref Q) ∧ ExcC K C ∧ PySem.W.kitOne K (.ref C) (.ref Q) = some false
  i_BadPicture_Refused : ∃ C Q : Addr, mg "Refused" = some (.ref C) ∧ mg "BadPicture" = some (.ref Q) ∧ ExcC K C ∧ PySem.W.kitOne K (.ref C) (.ref Q) = some false
  i_BadPicture_BadPicture : ∃ C Q : Addr, mg "BadPicture" = some (.ref C) ∧ mg "BadPicture" = some (.ref Q) ∧ ExcC K C ∧ PySem.W.kitOne K (.ref C) (.ref Q) = some true
  i_BadPicture_BadImage : ∃ C Q : Addr, mg "BadImage" = some (.ref C) ∧ mg "BadPicture" = some (.ref Q) ∧ ExcC K C ∧ PySem.W.kitOne K (.ref C) (.ref Q) = some false
  i_BadPicture_NoRoom : ∃ C Q : Addr, mg "NoRoom" = some (.ref C) ∧ mg "BadPicture" = some (.ref Q) ∧ ExcC K C ∧ PySem.W.kitOne K (.ref C) (.ref Q) = some false
  i_BadPicture_NoObject : ∃ C Q : Addr, mg "NoObject" = some (.ref C) ∧ mg "BadPicture" = some (.ref Q) ∧ ExcC K C ∧ PySem.W.kitOne K (.ref C) (.ref Q) = some false
  i_BadPicture_BadArguments : ∃ C Q : Addr, mg "BadArguments" = some (.ref C) ∧ mg "BadPicture" = some (.ref Q) ∧ ExcC K C ∧ PySem.W.kitOne K (.ref C) (.ref Q) = some false
  i_BadArguments_BadCode : ∃ C Q : Addr, mg "BadCode" = some (.ref C) ∧ mg "BadArguments" = some (.ref Q) ∧ ExcC K C ∧ PySem.W.kitOne K (.ref C) (.ref Q) = some false
  i_BadArguments_BadProgram : ∃ C Q : Addr, mg "BadProgram" = some (.ref C) ∧ mg "BadArguments" = some (.ref Q) ∧ ExcC K C ∧ PySem.W.kitOne K (.ref C) (.ref Q) = some false
  i_BadArguments_BadText : ∃ C Q : Addr, mg "BadText" = some (.ref C) ∧ mg "BadArguments" = some (.ref Q) ∧ ExcC K C ∧ PySem.W.kitOne K (.ref C) (.ref Q) = some false
  i_BadArguments_Refused : ∃ C Q : Addr, mg "Refused" = some (.ref C) ∧ mg "BadArguments" = some (.ref Q) ∧ ExcC K C ∧ PySem.W.kitOne K (.ref C) (.ref Q) = some false
  i_BadArguments_BadPicture : ∃ C Q : Addr, mg "BadPicture" = some (.ref C) ∧ mg "BadArguments" = some (.ref Q) ∧ ExcC K C ∧ PySem.W.kitOne K (.ref C) (.ref Q) = some false
  i_BadArguments_BadImage : ∃ C Q : Addr, mg "BadImage" = some (.ref C) ∧ mg "BadArguments" = some (.ref Q) ∧ ExcC K C ∧ PySem.W.kitOne K (.ref C) (.ref Q) = some false
  i_BadArguments_NoRoom : ∃ C Q : Addr, mg "NoRoom" = some (.ref C) ∧ mg "BadArguments" = some (.ref Q) ∧ ExcC K C ∧ PySem.W.kitOne K (.ref C) (.ref Q) = some false
  i_BadArguments_NoObject : ∃ C Q : Addr, mg "NoObject" = some (.ref C) ∧ mg "BadArguments" = some (.ref Q) ∧ ExcC K C ∧ PySem.W.kitOne K (.ref C) (.ref Q) = some false
  i_BadArguments_BadArguments : ∃ C Q : Addr, mg "BadArguments" = some (.ref C) ∧ mg "BadArguments" = some (.ref Q) ∧ ExcC K C ∧ PySem.W.kitOne K (.ref C) (.ref Q) = some true
  i_Refused_BadCode : ∃ C Q : Addr, mg "BadCode" = some (.ref C) ∧ mg "Refused" = some (.ref Q) ∧ ExcC K C ∧ PySem.W.kitOne K (.ref C) (.ref Q) = some false
  i_Refused_BadProgram : ∃ C Q : Addr, mg "BadProgram" = some (.ref C) ∧ mg "Refused" = some (.ref Q) ∧ ExcC K C ∧ PySem.W.kitOne K (.ref C) (.ref Q) = some false
  i_Refused_BadText : ∃ C Q : Addr, mg "BadText" = some (.ref C) ∧ mg "Refused" = some (.ref Q) ∧ ExcC K C ∧ PySem.W.kitOne K (.ref C) (.ref Q) = some false
  i_Refused_Refused : ∃ C Q : Addr, mg "Refused" = some (.ref C) ∧ mg "Refused" = some (.ref Q) ∧ ExcC K C ∧ PySem.W.kitOne K (.ref C) (.ref Q) = some true
  i_Refused_BadPicture : ∃ C Q : Addr, mg "BadPicture" = some (.ref C) ∧ mg "Refused" = some (.ref Q) ∧ ExcC K C ∧ PySem.W.kitOne K (.ref C) (.ref Q) = some false
  i_Refused_BadImage : ∃ C Q : Addr, mg "BadImage" = some (.ref C) ∧ mg "Refused" = some (.ref Q) ∧ ExcC K C ∧ PySem.W.kitOne K (.ref C) (.ref Q) = some false
  i_Refused_NoRoom : ∃ C Q : Addr, mg "NoRoom" = some (.ref C) ∧ mg "Refused" = some (.ref Q) ∧ ExcC K C ∧ PySem.W.kitOne K (.ref C) (.ref Q) = some false
  i_Refused_NoObject : ∃ C Q : Addr, mg "NoObject" = some (.ref C) ∧ mg "Refused" = some (.ref Q) ∧ ExcC K C ∧ PySem.W.kitOne K (.ref C) (.ref Q) = some false
  i_Refused_BadArguments : ∃ C Q : Addr, mg "BadArguments" = some (.ref C) ∧ mg "Refused" = some (.ref Q) ∧ ExcC K C ∧ PySem.W.kitOne K (.ref C) (.ref Q) = some false
  i_BadText_BadCode : ∃ C Q : Addr, mg "BadCode" = some (.ref C) ∧ mg "BadText" = some (.ref Q) ∧ ExcC K C ∧ PySem.W.kitOne K (.ref C) (.ref Q) = some false
  i_BadText_BadProgram : ∃ C Q : Addr, mg "BadProgram" = some (.ref C) ∧ mg "BadText" = some (.ref Q) ∧ ExcC K C ∧ PySem.W.kitOne K (.ref C) (.ref Q) = some false
  i_BadText_BadText : ∃ C Q : Addr, mg "BadText" = some (.ref C) ∧ mg "BadText" = some (.ref Q) ∧ ExcC K C ∧ PySem.W.kitOne K (.ref C) (.ref Q) = some true
  i_BadText_Refused : ∃ C Q : Addr, mg "Refused" = some (.ref C) ∧ mg "BadText" = some (.ref Q) ∧ ExcC K C ∧ PySem.W.kitOne K (.ref C) (.ref Q) = some false
  i_BadText_BadPicture : ∃ C Q : Addr, mg "BadPicture" = some (.ref C) ∧ mg "BadText" = some (.ref Q) ∧ ExcC K C ∧ PySem.W.kitOne K (.ref C) (.ref Q) = some false
  i_BadText_BadImage : ∃ C Q : Addr, mg "BadImage" = some (.ref C) ∧ mg "BadText" = some (.ref Q) ∧ ExcC K C ∧ PySem.W.kitOne K (.ref C) (.ref Q) = some false
  i_BadText_NoRoom : ∃ C Q : Addr, mg "NoRoom" = some (.ref C) ∧ mg "BadText" = some (.ref Q) ∧ ExcC K C ∧ PySem.W.kitOne K (.ref C) (.ref Q) = some false
  i_BadText_NoObject : ∃ C Q : Addr, mg "NoObject" = some (.ref C) ∧ mg "BadText" = some (.ref Q) ∧ ExcC K C ∧ PySem.W.kitOne K (.ref C) (.ref Q) = some false
  i_BadText_BadArguments : ∃ C Q : Addr, mg "BadArguments" = some (.ref C) ∧ mg "BadText" = some (.ref Q) ∧ ExcC K C ∧ PySem.W.kitOne K (.ref C) (.ref Q) = some false
  i_BadProgram_BadCode : ∃ C Q : Addr, mg "BadCode" = some (.ref C) ∧ mg "BadProgram" = some (.ref Q) ∧ ExcC K C ∧ PySem.W.kitOne K (.ref C) (.ref Q) = some false
  i_BadProgram_BadProgram : ∃ C Q : Addr, mg "BadProgram" = some (.ref C) ∧ mg "BadProgram" = some (.ref Q) ∧ ExcC K C ∧ PySem.W.kitOne K (.ref C) (.ref Q) = some true
  i_BadProgram_BadText : ∃ C Q : Addr, mg "BadText" = some (.ref C) ∧ mg "BadProgram" = some (.ref Q) ∧ ExcC K C ∧ PySem.W.kitOne K (.ref C) (.ref Q) = some false
  i_BadProgram_Refused : ∃ C Q : Addr, mg "Refused" = some (.ref C) ∧ mg "BadProgram" = some (.ref Q) ∧ ExcC K C ∧ PySem.W.kitOne K (.ref C) (.ref Q) = some false
  i_BadProgram_BadPicture : ∃ C Q : Addr, mg "BadPicture" = some (.ref C) ∧ mg "BadProgram" = some (.ref Q) ∧ ExcC K C ∧ PySem.W.kitOne K (.ref C) (.ref Q) = some false
  i_BadProgram_BadImage : ∃ C Q : Addr, mg "BadImage" = some (.ref C) ∧ mg "BadProgram" = some (.ref Q) ∧ ExcC K C ∧ PySem.W.kitOne K (.ref C) (.ref Q) = some false
  i_BadProgram_NoRoom : ∃ C Q : Addr, mg "NoRoom" = some (.ref C) ∧ mg "BadProgram" = some (.ref Q) ∧ ExcC K C ∧ PySem.W.kitOne K (.ref C) (.ref Q) = some false
  i_BadProgram_NoObject : ∃ C Q : Addr, mg "NoObject" = some (.ref C) ∧ mg "BadProgram" = some (.ref Q) ∧ ExcC K C ∧ PySem.W.kitOne K (.ref C) (.ref Q) = some false
  i_BadProgram_BadArguments : ∃ C Q : Addr, mg "BadArguments" = some (.ref C) ∧ mg "BadProgram" = some (.ref Q) ∧ ExcC K C ∧ PySem.W.kitOne K (.ref C) (.ref Q) = some false
  i_BadCode_BadCode : ∃ C Q : Addr, mg "BadCode" = some (.ref C) ∧ mg "BadCode" = some (.ref Q) ∧ ExcC K C ∧ PySem.W.kitOne K (.ref C) (.ref Q) = some true
  i_BadCode_BadProgram : ∃ C Q : Addr, mg "BadProgram" = some (.ref C) ∧ mg "BadCode" = some (.ref Q) ∧ ExcC K C ∧ PySem.W.kitOne K (.ref C) (.ref Q) = some false
  i_BadCode_BadText : ∃ C Q : Addr, mg "BadText" = some (.ref C) ∧ mg "BadCode" = some (.ref Q) ∧ ExcC K C ∧ PySem.W.kitOne K (.ref C) (.ref Q) = some false
  i_BadCode_Refused : ∃ C Q : Addr, mg "Refused" = some (.ref C) ∧ mg "BadCode" = some (.ref Q) ∧ ExcC K C ∧ PySem.W.kitOne K (.ref C) (.ref Q) = some false
  i_BadCode_BadPicture : ∃ C Q : Addr, mg "BadPicture" = some (.ref C) ∧ mg "BadCode" = some (.ref Q) ∧ ExcC K C ∧ PySem.W.kitOne K (.ref C) (.ref Q) = some false
  i_BadCode_BadImage : ∃ C Q : Addr, mg "BadImage" = some (.ref C) ∧ mg "BadCode" = some (.ref Q) ∧ ExcC K C ∧ PySem.W.kitOne K (.ref C) (.ref Q) = some false
  i_BadCode_NoRoom : ∃ C Q : Addr, mg "NoRoom" = some (.ref C) ∧ mg "BadCode" = some (.ref Q) ∧ ExcC K C ∧ PySem.W.kitOne K (.ref C) (.ref Q) = some false
  i_BadCode_NoObject : ∃ C Q : Addr, mg "NoObject" = some (.ref C) ∧ mg "BadCode" = some (.ref Q) ∧ ExcC K C ∧ PySem.W.kitOne K (.ref C) (.ref Q) = some false
  i_BadCode_BadArguments : ∃ C Q : Addr, mg "BadArguments" = some (.ref C) ∧ mg "BadCode" = some (.ref Q) ∧ ExcC K C ∧ PySem.W.kitOne K (.ref C) (.ref Q) = some false
  i_ValueError_BadCode : ∃ C : Addr, mg "BadCode" = some (.ref C) ∧ ExcC K C ∧ PySem.W.kitOne K (.ref C) (.type "ValueError") = some true
  i_ValueError_BadProgram : ∃ C : Addr, mg "BadProgram" = some (.ref C) ∧ ExcC K C ∧ PySem.W.kitOne K (.ref C) (.type "ValueError") = some true
  i_ValueError_BadText : ∃ C : Addr, mg "BadText" = some (.ref C) ∧ ExcC K C ∧ PySem.W.kitOne K (.ref C) (.type "ValueError") = some true
  i_ValueError_Refused : ∃ C : Addr, mg "Refused" = some (.ref C) ∧ ExcC K C ∧ PySem.W.kitOne K (.ref C) (.type "ValueError") = some true
  i_ValueError_BadPicture : ∃ C : Addr, mg "BadPicture" = some (.ref C) ∧ ExcC K C ∧ PySem.W.kitOne K (.ref C) (.type "ValueError") = some true
  i_ValueError_BadImage : ∃ C : Addr, mg "BadImage" = some (.ref C) ∧ ExcC K C ∧ PySem.W.kitOne K (.ref C) (.type "ValueError") = some true
  i_ValueError_NoRoom : ∃ C : Addr, mg "NoRoom" = some (.ref C) ∧ ExcC K C ∧ PySem.W.kitOne K (.ref C) (.type "ValueError") = some true
  i_ValueError_NoObject : ∃ C : Addr, mg "NoObject" = some (.ref C) ∧ ExcC K C ∧ PySem.W.kitOne K (.ref C) (.type "ValueError") = some true
  i_ValueError_BadArguments : ∃ C : Addr, mg "BadArguments" = some (.ref C) ∧ ExcC K C ∧ PySem.W.kitOne K (.ref C) (.type "ValueError") = some true
  q_BadCode : ∃ Q : Addr, mg "BadCode" = some (.ref Q)
  q_QuietError : ∃ Q : Addr, mg "QuietError" = some (.ref Q)
  q_NoObject : ∃ Q : Addr, mg "NoObject" = some (.ref Q)
  q_NoRoom : ∃ Q : Addr, mg "NoRoom" = some (.ref Q)
  q_BadImage : ∃ Q : Addr, mg "BadImage" = some (.ref Q)
  q_BadPicture : ∃ Q : Addr, mg "BadPicture" = some (.ref Q)
  q_BadArguments : ∃ Q : Addr, mg "BadArguments" = some (.ref Q)
  q_Refused : ∃ Q : Addr, mg "Refused" = some (.ref Q)
  q_BadText : ∃ Q : Addr, mg "BadText" = some (.ref Q)
  q_BadProgram : ∃ Q : Addr, mg "BadProgram" = some (.ref Q)
  e_BadCode_BadCode : ∃ C Q : Addr, mg "BadCode" = some (.ref C) ∧ mg "BadCode" = some (.ref Q) ∧ PySem.W.exmOne K (.ref C) (.ref Q) = some true
  e_BadProgram_BadCode : ∃ C Q : Addr, mg "BadProgram" = some (.ref C) ∧ mg "BadCode" = some (.ref Q) ∧ PySem.W.exmOne K (.ref C) (.ref Q) = some false
  e_BadText_BadCode : ∃ C Q : Addr, mg "BadText" = some (.ref C) ∧ mg "BadCode" = some (.ref Q) ∧ PySem.W.exmOne K (.ref C) (.ref Q) = some false
  e_Refused_BadCode : ∃ C Q : Addr, mg "Refused" = some (.ref C) ∧ mg "BadCode" = some (.ref Q) ∧ PySem.W.exmOne K (.ref C) (.ref Q) = some false
  e_BadPicture_BadCode : ∃ C Q : Addr, mg "BadPicture" = some (.ref C) ∧ mg "BadCode" = some (.ref Q) ∧ PySem.W.exmOne K (.ref C) (.ref Q) = some false
  e_BadImage_BadCode : ∃ C Q : Addr, mg "BadImage" = some (.ref C) ∧ mg "BadCode" = some (.ref Q) ∧ PySem.W.exmOne K (.ref C) (.ref Q) = some false
  e_NoRoom_BadCode : ∃ C Q : Addr, mg "NoRoom" = some (.ref C) ∧ mg "BadCode" = some (.ref Q) ∧ PySem.W.exmOne K (.ref C) (.ref Q) = some false
  e_NoObject_BadCode : ∃ C Q : Addr, mg "NoObject" = some (.ref C) ∧ mg "BadCode" = some (.ref Q) ∧ PySem.W.exmOne K (.ref C) (.ref Q) = some false
  z_ValueError : mg "ValueError" = none
  z_bool : mg "bool" = none
  z_int : mg "int" = none
  z_isinstance : mg "isinstance" = none
  z_len : mg "len" = none
  z_list : mg "list" = none
  z_range : mg "range" = none
  z_tuple : mg "tuple" = none
/-! ### each def keeps to its mirror -/
section
variable {P : Program} {w : World} {K : PySem.W.Frag} {mg : Str → Option Value} {base : Heap}
theorem xc_BadCode (T : Tx w K mg) : XcTxt P w K mg base 1 "BadCode" ["at"] := xc_mk T.x_BadCode (by decide) (fun F => F.binds fun _ _ _ _ _ _ us hl => match us, hl with | [_, _], _ => rfl) (fun F => init_ok F sc_x_BadCode rfl (by simp) fun cdv A outer s H E => (ib_cons ib_nil rfl rfl (Or.inl rfl) (Or.inl rfl) (by decide) (by decide) (by decide) (by decide)))
theorem xk_BadCode (T : Tx w K mg) : XkTxt P w K mg base 1 "BadCode" ["at"] := xk_mk T.x_BadCode (by decide) (fun F => by obtain ⟨oc, od, kV, doc, pm, an, cdv, ct, osl, rfl, lk, hcd⟩ := F.ex; exact fun s us ws l1 l2 => match us, l1, ws, l2 with | [_], _, [_], _ => .of_eq rfl) (fun F => init_ok F sc_x_BadCode rfl (by simp) fun cdv A outer s H E => (ib_cons ib_nil rfl rfl (Or.inl rfl) (Or.inl rfl) (by decide) (by decide) (by decide) (by decide)))
theorem xc_BadProgram (T : Tx w K mg) : XcTxt P w K mg base 1 "BadProgram" ["part", "number", "place", "why"] := xc_mk T.x_BadProgram (by decide) (fun F => F.binds fun _ _ _ _ _ _ us hl => match us, hl with | [_, _, _, _, _], _ => rfl) (fun F => init_ok F sc_x_BadProgram rfl (by simp) fun cdv A outer s H E => (ib_cons (ib_cons (ib_cons (ib_cons ib_nil rfl rfl (Or.inl rfl) (Or.inl rfl) (by decide) (by decide) (by decide) (by decide)) rfl rfl (Or.inl rfl) (Or.inl rfl) (by decide) (by decide) (by decide) (by decide)) rfl rfl (Or.inl rfl) (Or.inl rfl) (by decide) (by decide) (by decide) (by decide)) rfl rfl (Or.inl rfl) (Or.inl rfl) (by decide) (by decide) (by decide) (by decide)))
theorem xk_BadProgram (T : Tx w K mg) : XkTxt P w K mg base 1 "BadProgram" ["part", "number", "place", "why"] := xk_mk T.x_BadProgram (by decide) (fun F => by obtain ⟨oc, od, kV, doc, pm, an, cdv, ct, osl, rfl, lk, hcd⟩ := F.ex; exact fun s us ws l1 l2 => match us, l1, ws, l2 with | [_], _, [_, _, _, _], _ => .of_eq rfl) (fun F => init_ok F sc_x_BadProgram rfl (by simp) fun cdv A outer s H E => (ib_cons (ib_cons (ib_cons (ib_cons ib_nil rfl rfl (Or.inl rfl) (Or.inl rfl) (by decide) (by decide) (by decide) (by decide)) rfl rfl (Or.inl rfl) (Or.inl rfl) (by decide) (by decide) (by decide) (by decide)) rfl rfl (Or.inl rfl) (Or.inl rfl) (by decide) (by decide) (by decide) (by decide)) rfl rfl (Or.inl rfl) (Or.inl rfl) (by decide) (by decide) (by decide) (by decide)))
theorem xc_BadText (T : Tx w K mg) : XcTxt P w K mg base 1 "BadText" ["line", "why"] := xc_mk T.x_BadText (by decide) (fun F => F.binds fun _ _ _ _ _ _ us hl => match us, hl with | [_, _, _], _ => rfl) (fun F => init_ok F sc_x_BadText rfl (by simp) fun cdv A outer s H E => (ib_cons (ib_cons ib_nil rfl rfl (Or.inl rfl) (Or.inl rfl) (by decide) (by decide) (by decide) (by decide)) rfl rfl (Or.inl rfl) (Or.inl rfl) (by decide) (by decide) (by decide) (by decide)))
theorem xk_BadText (T : Tx w K mg) : XkTxt P w K mg base 1 "BadText" ["line", "why"] := xk_mk T.x_BadText (by decide) (fun F => by obtain ⟨oc, od, kV, doc, pm, an, cdv, ct, osl, rfl, lk, hcd⟩ := F.ex; exact fun s us ws l1 l2 => match us, l1, ws, l2 with | [_], _, [_, _], _ => .of_eq rfl) (fun F => init_ok F sc_x_BadText rfl (by simp) fun cdv A outer s H E => (ib_cons (ib_cons ib_nil rfl rfl (Or.inl rfl) (Or.inl rfl) (by decide) (by decide) (by decide) (by decide)) rfl rfl (Or.inl rfl) (Or.inl rfl) (by decide) (by decide) (by decide) (by decide)))
theorem xc_Refused (T : Tx w K mg) : XcTxt P w K mg base 1 "Refused" ["number", "why", "walk", "other"] := xc_mk T.x_Refused (by decide) (fun F => F.binds fun _ _ _ _ _ _ us hl => match us, hl with | [_, _, _, _, _], _ => rfl) (fun F => init_ok F sc_x_Refused rfl (by simp) fun cdv A outer s H E => (ib_cons (ib_cons (ib_cons (ib_cons ib_nil rfl rfl (Or.inl rfl) (Or.inl rfl) (by decide) (by decide) (by decide) (by decide)) rfl rfl (Or.inl rfl) (Or.inl rfl) (by decide) (by decide) (by decide) (by decide)) rfl rfl (Or.inl rfl) (Or.inl rfl) (by decide) (by decide) (by decide) (by decide)) rfl rfl (Or.inl rfl) (Or.inl rfl) (by decide) (by decide) (by decide) (by decide)))
theorem xk_Refused (T : Tx w K mg) : XkTxt P w K mg base 1 "Refused" ["number", "why", "walk", "other"] := xk_mk T.x_Refused (by decide) (fun F => by obtain ⟨oc, od, kV, doc, pm, an, cdv, ct, osl, rfl, lk, hcd⟩ := F.ex; exact fun s us ws l1 l2 => match us, l1, ws, l2 with | [_], _, [_, _, _, _], _ => .of_eq rfl) (fun F => init_ok F sc_x_Refused rfl (by simp) fun cdv A outer s H E => (ib_cons (ib_cons (ib_cons (ib_cons ib_nil rfl rfl (Or.inl rfl) (Or.inl rfl) (by decide) (by decide) (by decide) (by decide)) rfl rfl (Or.inl rfl) (Or.inl rfl) (by decide) (by decide) (by decide) (by decide)) rfl rfl (Or.inl rfl) (Or.inl rfl) (by decide) (by decide) (by decide) (by decide)) rfl rfl (Or.inl rfl) (Or.inl rfl) (by decide) (by decide) (by decide) (by decide)))
theorem xc_BadPicture (T : Tx w K mg) : XcTxt P w K mg base 1 "BadPicture" ["part", "number", "why"] := xc_mk T.x_BadPicture (by decide) (fun F => F.binds fun _ _ _ _ _ _ us hl => match us, hl with | [_, _, _, _], _ => rfl) (fun F => init_ok F sc_x_BadPicture rfl (by simp) fun cdv A outer s H E => (ib_cons (ib_cons (ib_cons ib_nil rfl rfl (Or.inl rfl) (Or.inl rfl) (by decide) (by decide) (by decide) (by decide)) rfl rfl (Or.inl rfl) (Or.inl rfl) (by decide) (by decide) (by decide) (by decide)) rfl rfl (Or.inl rfl) (Or.inl rfl) (by decide) (by decide) (by decide) (by decide)))
theorem xk_BadPicture (T : Tx w K mg) : XkTxt P w K mg base 1 "BadPicture" ["part", "number", "why"] := xk_mk T.x_BadPicture (by decide) (fun F => by obtain ⟨oc, od, kV, doc, pm, an, cdv, ct, osl, rfl, lk, hcd⟩ := F.ex; exact fun s us ws l1 l2 => match us, l1, ws, l2 with | [_], _, [_, _, _], _ => .of_eq rfl) (fun F => init_ok F sc_x_BadPicture rfl (by simp) fun cdv A outer s H E => (ib_cons (ib_cons (ib_cons ib_nil rfl rfl (Or.inl rfl) (Or.inl rfl) (by decide) (by decide) (by decide) (by decide)) rfl rfl (Or.inl rfl) (Or.inl rfl) (by decide) (by decide) (by decide) (by decide)) rfl rfl (Or.inl rfl) (Or.inl rfl) (by decide) (by decide) (by decide) (by decide)))
theorem xc_BadImage (T : Tx w K mg) : XcTxt P w K mg base 1 "BadImage" ["line", "why"] := xc_mk T.x_BadImage (by decide) (fun F => F.binds fun _ _ _ _ _ _ us hl => match us, hl with | [_, _, _], _ => rfl) (fun F => init_ok F sc_x_BadImage rfl (by simp) fun cdv A outer s H E => (ib_cons (ib_cons ib_nil rfl rfl (Or.inl rfl) (Or.inl rfl) (by decide) (by decide) (by decide) (by decide)) rfl rfl (Or.inl rfl) (Or.inl rfl) (by decide) (by decide) (by decide) (by decide)))
theorem xk_BadImage (T : Tx w K mg) : XkTxt P w K mg base 1 "BadImage" ["line", "why"] := xk_mk T.x_BadImage (by decide) (fun F => by obtain ⟨oc, od, kV, doc, pm, an, cdv, ct, osl, rfl, lk, hcd⟩ := F.ex; exact fun s us ws l1 l2 => match us, l1, ws, l2 with | [_], _, [_, _], _ => .of_eq rfl) (fun F => init_ok F sc_x_BadImage rfl (by simp) fun cdv A outer s H E => (ib_cons (ib_cons ib_nil rfl rfl (Or.inl rfl) (Or.inl rfl) (by decide) (by decide) (by decide) (by decide)) rfl rfl (Or.inl rfl) (Or.inl rfl) (by decide) (by decide) (by decide) (by decide)))
theorem xc_NoRoom (T : Tx w K mg) : XcTxt P w K mg base 1 "NoRoom" ["words"] := xc_mk T.x_NoRoom (by decide) (fun F => F.binds fun _ _ _ _ _ _ us hl => match us, hl with | [_, _], _ => rfl) (fun F => init_ok F sc_x_NoRoom rfl (by simp) fun cdv A outer s H E => (ib_cons ib_nil rfl rfl (Or.inl rfl) (Or.inl rfl) (by decide) (by decide) (by decide) (by decide)))
theorem xk_NoRoom (T : Tx w K mg) : XkTxt P w K mg base 1 "NoRoom" ["words"] := xk_mk T.x_NoRoom (by decide) (fun F => by obtain ⟨oc, od, kV, doc, pm, an, cdv, ct, osl, rfl, lk, hcd⟩ := F.ex; exact fun s us ws l1 l2 => match us, l1, ws, l2 with | [_], _, [_], _ => .of_eq rfl) (fun F => init_ok F sc_x_NoRoom rfl (by simp) fun cdv A outer s H E => (ib_cons ib_nil rfl rfl (Or.inl rfl) (Or.inl rfl) (by decide) (by decide) (by decide) (by decide)))
theorem xc_NoObject (T : Tx w K mg) : XcTxt P w K mg base 1 "NoObject" ["number"] := xc_mk T.x_NoObject (by decide) (fun F => F.binds fun _ _ _ _ _ _ us hl => match us, hl with | [_, _], _ => rfl) (fun F => init_ok F sc_x_NoObject rfl (by simp) fun cdv A outer s H E => (ib_cons ib_nil rfl rfl (Or.inl rfl) (Or.inl rfl) (by decide) (by decide) (by decide) (by decide)))
theorem xk_NoObject (T : Tx w K mg) : XkTxt P w K mg base 1 "NoObject" ["number"] := xk_mk T.x_NoObject (by decide) (fun F => by obtain ⟨oc, od, kV, doc, pm, an, cdv, ct, osl, rfl, lk, hcd⟩ := F.ex; exact fun s us ws l1 l2 => match us, l1, ws, l2 with | [_], _, [_], _ => .of_eq rfl) (fun F => init_ok F sc_x_NoObject rfl (by simp) fun cdv A outer s H E => (ib_cons ib_nil rfl rfl (Or.inl rfl) (Or.inl rfl) (by decide) (by decide) (by decide) (by decide)))
theorem tbo_QuietError (T : Tx w K mg) {Q : Addr} (h : mg "QuietError" = some (.ref Q)) : TabOk K mg (fun c => List.lookup c tb_QuietError) (.ref Q) := tab_list h (all_cons T.i_QuietError_BadCode (all_cons T.i_QuietError_BadProgram (all_cons T.i_QuietError_BadText (all_cons T.i_QuietError_Refused (all_cons T.i_QuietError_BadPicture (all_cons T.i_QuietError_BadImage (all_cons T.i_QuietError_NoRoom (all_cons T.i_QuietError_NoObject (all_cons T.i_QuietError_BadArguments all_nil)))))))))
theorem tbo_NoObject (T : Tx w K mg) {Q : Addr} (h : mg "NoObject" = some (.ref Q)) : TabOk K mg (fun c => List.lookup c tb_NoObject) (.ref Q) := tab_list h (all_cons T.i_NoObject_BadCode (all_cons T.i_NoObject_BadProgram (all_cons T.i_NoObject_BadText (all_cons T.i_NoObject_Refused (all_cons T.i_NoObject_BadPicture (all_cons T.i_NoObject_BadImage (all_cons T.i_NoObject_NoRoom (all_cons T.i_NoObject_NoObject (all_cons T.i_NoObject_BadArguments all_nil)))))))))
theorem tbo_NoRoom (T : Tx w K mg) {Q : Addr} (h : mg "NoRoom" = some (.ref Q)) : TabOk K mg (fun c => List.lookup c tb_NoRoom) (.ref Q) := tab_list h (all_cons T.i_NoRoom_BadCode (all_cons T.i_NoRoom_BadProgram (all_cons T.i_NoRoom_BadText (all_cons T.i_NoRoom_Refused (all_cons T.i_NoRoom_BadPicture (all_cons T.i_NoRoom_BadImage (all_cons T.i_NoRoom_NoRoom (all_cons T.i_NoRoom_NoObject (all_cons T.i_NoRoom_BadArguments all_nil)))))))))
theorem tbo_BadImage (T : Tx w K mg) {Q : Addr} (h : mg "BadImage" = some (.ref Q)) : TabOk K mg (fun c => List.lookup c tb_BadImage) (.ref Q) := tab_list h (all_cons T.i_BadImage_BadCode (all_cons T.i_BadImage_BadProgram (all_cons T.i_BadImage_BadText (all_cons T.i_BadImage_Refused (all_cons T.i_BadImage_BadPicture (all_cons T.i_BadImage_BadImage (all_cons T.i_BadImage_NoRoom (all_cons T.i_BadImage_NoObject (all_cons T.i_BadImage_BadArguments all_nil)))))))))
theorem tbo_BadPicture (T : Tx w K mg) {Q : Addr} (h : mg "BadPicture" = some (.ref Q)) : TabOk K mg (fun c => List.lookup c tb_BadPicture) (.ref Q) := tab_list h (all_cons T.i_BadPicture_BadCode (all_cons T.i_BadPicture_BadProgram (all_cons T.i_BadPicture_BadText (all_cons T.i_BadPicture_Refused (all_cons T.i_BadPicture_BadPicture (all_cons T.i_BadPicture_BadImage (all_cons T.i_BadPicture_NoRoom (all_cons T.i_BadPicture_NoObject (all_cons T.i_BadPicture_BadArguments all_nil)))))))))
theorem tbo_BadArguments (T : Tx w K mg) {Q : Addr} (h : mg "BadArguments" = some (.ref Q)) : TabOk K mg (fun c => List.lookup c tb_BadArguments) (.ref Q) := tab_list h (all_cons T.i_BadArguments_BadCode (all_cons T.i_BadArguments_BadProgram (all_cons T.i_BadArguments_BadText (all_cons T.i_BadArguments_Refused (all_cons T.i_BadArguments_BadPicture (all_cons T.i_BadArguments_BadImage (all_cons T.i_BadArguments_NoRoom (all_cons T.i_BadArguments_NoObject (all_cons T.i_BadArguments_BadArguments all_nil)))))))))
theorem tbo_Refused (T : Tx w K mg) {Q : Addr} (h : mg "Refused" = some (.ref Q)) : TabOk K mg (fun c => List.lookup c tb_Refused) (.ref Q) := tab_list h (all_cons T.i_Refused_BadCode (all_cons T.i_Refused_BadProgram (all_cons T.i_Refused_BadText (all_cons T.i_Refused_Refused (all_cons T.i_Refused_BadPicture (all_cons T.i_Refused_BadImage (all_cons T.i_Refused_NoRoom (all_cons T.i_Refused_NoObject (all_cons T.i_Refused_BadArguments all_nil)))))))))
theorem tbo_BadText (T : Tx w K mg) {Q : Addr} (h : mg "BadText" = some (.ref Q)) : TabOk K mg (fun c => List.lookup c tb_BadText) (.ref Q) := tab_list h (all_cons T.i_BadText_BadCode (all_cons T.i_BadText_BadProgram (all_cons T.i_BadText_BadText (all_cons T.i_BadText_Refused (all_cons T.i_BadText_BadPicture (all_cons T.i_BadText_BadImage (all_cons T.i_BadText_NoRoom (all_cons T.i_BadText_NoObject (all_cons T.i_BadText_BadArguments all_nil)))))))))
theorem tbo_BadProgram (T : Tx w K mg) {Q : Addr} (h : mg "BadProgram" = some (.ref Q)) : TabOk K mg (fun c => List.lookup c tb_BadProgram) (.ref Q) := tab_list h (all_cons T.i_BadProgram_BadCode (all_cons T.i_BadProgram_BadProgram (all_cons T.i_BadProgram_BadText (all_cons T.i_BadProgram_Refused (all_cons T.i_BadProgram_BadPicture (all_cons T.i_BadProgram_BadImage (all_cons T.i_BadProgram_NoRoom (all_cons T.i_BadProgram_NoObject (all_cons T.i_BadProgram_BadArguments all_nil)))))))))
theorem tbo_BadCode (T : Tx w K mg) {Q : Addr} (h : mg "BadCode" = some (.ref Q)) : TabOk K mg (fun c => List.lookup c tb_BadCode) (.ref Q) := tab_list h (all_cons T.i_BadCode_BadCode (all_cons T.i_BadCode_BadProgram (all_cons T.i_BadCode_BadText (all_cons T.i_BadCode_Refused (all_cons T.i_BadCode_BadPicture (all_cons T.i_BadCode_BadImage (all_cons T.i_BadCode_NoRoom (all_cons T.i_BadCode_NoObject (all_cons T.i_BadCode_BadArguments all_nil)))))))))
theorem tbo_ValueError (T : Tx w K mg) : TabOk K mg (fun c => List.lookup c tb_ValueError) (.type "ValueError") := tab_listB (all_cons T.i_ValueError_BadCode (all_cons T.i_ValueError_BadProgram (all_cons T.i_ValueError_BadText (all_cons T.i_ValueError_Refused (all_cons T.i_ValueError_BadPicture (all_cons T.i_ValueError_BadImage (all_cons T.i_ValueError_NoRoom (all_cons T.i_ValueError_NoObject (all_cons T.i_ValueError_BadArguments all_nil)))))))))
theorem xl_at (T : Tx w K mg) : ∀ c ∈ xL_at, XqF K mg c ["at"] := (all_cons (T.y_BadCode.sub (by decide)) all_nil)
theorem xl_why (T : Tx w K mg) : ∀ c ∈ xL_why, XqF K mg c ["why"] := (all_cons (T.y_BadProgram.sub (by decide)) (all_cons (T.y_BadText.sub (by decide)) (all_cons (T.y_Refused.sub (by decide)) (all_cons (T.y_BadPicture.sub (by decide)) (all_cons (T.y_BadImage.sub (by decide)) all_nil)))))
theorem xl_line (T : Tx w K mg) : ∀ c ∈ xL_line, XqF K mg c ["line"] := (all_cons (T.y_BadText.sub (by decide)) (all_cons (T.y_BadImage.sub (by decide)) all_nil))
theorem xl_place (T : Tx w K mg) : ∀ c ∈ xL_place, XqF K mg c ["place"] := (all_cons (T.y_BadProgram.sub (by decide)) all_nil)
theorem xl_number (T : Tx w K mg) : ∀ c ∈ xL_number, XqF K mg c ["number"] := (all_cons (T.y_BadProgram.sub (by decide)) (all_cons (T.y_Refused.sub (by decide)) (all_cons (T.y_BadPicture.sub (by decide)) (all_cons (T.y_NoObject.sub (by decide)) all_nil))))
theorem xl_part (T : Tx w K mg) : ∀ c ∈ xL_part, XqF K mg c ["part"] := (all_cons (T.y_BadProgram.sub (by decide)) (all_cons (T.y_BadPicture.sub (by decide)) all_nil))
theorem xl_other (T : Tx w K mg) : ∀ c ∈ xL_other, XqF K mg c ["other"] := (all_cons (T.y_Refused.sub (by decide)) all_nil)
theorem xl_walk (T : Tx w K mg) : ∀ c ∈ xL_walk, XqF K mg c ["walk"] := (all_cons (T.y_Refused.sub (by decide)) all_nil)
theorem xl_words (T : Tx w K mg) : ∀ c ∈ xL_words, XqF K mg c ["words"] := (all_cons (T.y_NoRoom.sub (by decide)) all_nil)
theorem xal (T : Tx w K mg) : ∀ c ∈ xAll, XqF K mg c [] := (all_cons (T.y_BadCode.sub (fun _ z => by cases z)) (all_cons (T.y_BadProgram.sub (fun _ z => by cases z)) (all_cons (T.y_BadText.sub (fun _ z => by cases z)) (all_cons (T.y_Refused.sub (fun _ z => by cases z)) (all_cons (T.y_BadPicture.sub (fun _ z => by cases z)) (all_cons (T.y_BadImage.sub (fun _ z => by cases z)) (all_cons (T.y_NoRoom.sub (fun _ z => by cases z)) (all_cons (T.y_NoObject.sub (fun _ z => by cases z)) (all_cons (T.y_BadArguments.sub (fun _ z => by cases z)) all_nil)))))))))
theorem ctT_BadCode (T : Tx w K mg) : ∀ p ∈ ct_BadCode, ∃ C Q' : Addr, mg p.1 = some (.ref C) ∧ mg "BadCode" = some (.ref Q') ∧ PySem.W.exmOne K (.ref C) (.ref Q') = some p.2 := (ct_cons T.e_BadCode_BadCode (ct_cons T.e_BadProgram_BadCode (ct_cons T.e_BadText_BadCode (ct_cons T.e_Refused_BadCode (ct_cons T.e_BadPicture_BadCode (ct_cons T.e_BadImage_BadCode (ct_cons T.e_NoRoom_BadCode (ct_cons T.e_NoObject_BadCode ct_nil))))))))
theorem fn_law_cell (T : Tx w K mg) {f : Addr} {fd : FuncData} (F : Fun K "_law_cell" "_law_cell" s_law_cell f fd) : FnOk P w K mg base (L2.CX P w) 1 f fd ["_law_script", "_law_k"] (PF K mg 2 m_law_cell) := by
  have sc := sc_law_cell
  refine def_ok F sc_law_cell rfl (by decide) fun cdv A outer s H E hr tk po => ?_
  exact (eb_cons (es_if (et_cmpw op_lt opw_cmp (EE.w (ee_var 1)) (EE.w (ee_len T.z_len rfl (eaw_cons (EE.w (ee_var 0)) eaw_nil))) (nomark _)) (eb_one (es_ret (EE.w (ee_ix (ee_var 0) (ee_var 1))))) eb_nil) (eb_cons (es_set (i := 2) ee_int sc.nd rfl (Or.inl rfl)) (eb_cons (es_for po rfl (ei_any (ee_var 0)) (eg_name (i := 3) sc.nd rfl (Or.inl rfl)) (eb_one (es_set (i := 2) (ee_mod (ee_intc T.z_int rfl (eaw_cons (EE.w (ee_add (ee_mul (ee_var 2) ee_int) (ee_mod (ee_intc T.z_int rfl (eaw_cons (EE.w (ee_var 3)) eaw_nil)) ee_int))) eaw_nil)) ee_int) sc.nd rfl (Or.inl rfl)))) (eb_one (es_ret (EE.w (ee_mod (ee_intc T.z_int rfl (eaw_cons (EE.w (ee_mul (ee_mul (ee_add (ee_var 2) ee_int) (ee_add (ee_var 1) ee_int)) ee_int)) eaw_nil)) ee_int)))))))
theorem ok_law_cell (T : Tx w K mg) : Ok P w K mg base 1 "_law_cell" 2 m_law_cell := by
  obtain ⟨f, fd, F, g⟩ := T.d_law_cell
  exact ⟨f, fd, ["_law_script", "_law_k"], g, F.kp, F.binds fun _ _ _ _ _ _ us hl => match us, hl with | [_, _], _ => rfl, fn_law_cell T F⟩
theorem fn_law_classes (T : Tx w K mg) {f : Addr} {fd : FuncData} (F : Fun K "_law_classes" "_law_classes" s_law_classes f fd) : FnOk P w K mg base (L2.CX P w) 1 f fd ["_law_e"] (PF K mg 1 m_law_classes) := by
  obtain ⟨_, hq_BadArguments⟩ := T.q_BadArguments
  obtain ⟨_, hq_BadCode⟩ := T.q_BadCode
  obtain ⟨_, hq_BadImage⟩ := T.q_BadImage
  obtain ⟨_, hq_BadPicture⟩ := T.q_BadPicture
  obtain ⟨_, hq_BadProgram⟩ := T.q_BadProgram
  obtain ⟨_, hq_BadText⟩ := T.q_BadText
  obtain ⟨_, hq_NoObject⟩ := T.q_NoObject
  obtain ⟨_, hq_NoRoom⟩ := T.q_NoRoom
  obtain ⟨_, hq_Refused⟩ := T.q_Refused
  have sc := sc_law_classes
  refine def_ok F sc_law_classes rfl (by decide) fun cdv A outer s H E hr tk po => ?_
  exact (eb_cons (es_set (i := 1) (EF.toE (ef_lst (ea_cons (ee_isx vw_O T.z_isinstance rfl hq_BadProgram rfl (tbo_BadProgram T hq_BadProgram) (EE.w (ee_var 0))) (ea_cons (ee_isx vw_O T.z_isinstance rfl hq_BadText rfl (tbo_BadText T hq_BadText) (EE.w (ee_var 0))) (ea_cons (ee_isx vw_O T.z_isinstance rfl hq_BadCode rfl (tbo_BadCode T hq_BadCode) (EE.w (ee_var 0))) (ea_cons (ee_isx vw_O T.z_isinstance rfl hq_Refused rfl (tbo_Refused T hq_Refused) (EE.w (ee_var 0))) ea_nil)))))) sc.nd rfl (Or.inl rfl)) (eb_cons (es_set (i := 1) (ee_add (ee_var 1) (EF.toE (ef_lst (ea_cons (ee_isx vw_O T.z_isinstance rfl hq_BadArguments rfl (tbo_BadArguments T hq_BadArguments) (EE.w (ee_var 0))) (ea_cons (ee_isx vw_O T.z_isinstance rfl hq_BadPicture rfl (tbo_BadPicture T hq_BadPicture) (EE.w (ee_var 0))) (ea_cons (ee_isx vw_O T.z_isinstance rfl hq_BadImage rfl (tbo_BadImage T hq_BadImage) (EE.w (ee_var 0))) ea_nil)))))) sc.nd rfl (Or.inl rfl)) (eb_one (es_ret (EE.w (ee_add (ee_var 1) (EF.toE (ef_lst (ea_cons (ee_isx vw_O T.z_isinstance rfl hq_NoRoom rfl (tbo_NoRoom T hq_NoRoom) (EE.w (ee_var 0))) (ea_cons (ee_isx vw_O T.z_isinstance rfl hq_NoObject rfl (tbo_NoObject T hq_NoObject) (EE.w (ee_var 0))) ea_nil))))))))))
theorem ok_law_classes (T : Tx w K mg) : Ok P w K mg base 1 "_law_classes" 1 m_law_classes := by
  obtain ⟨f, fd, F, g⟩ := T.d_law_classes
  exact ⟨f, fd, ["_law_e"], g, F.kp, F.binds fun _ _ _ _ _ _ us hl => match us, hl with | [_], _ => rfl, fn_law_classes T F⟩
theorem fn_law_apart (T : Tx w K mg) {f : Addr} {fd : FuncData} (F : Fun K "_law_apart" "_law_apart" s_law_apart f fd) : FnOk P w K mg base (L2.CX P w) 2 f fd ["_law_e", "_law_k"] (PF K mg 2 m_law_apart) := by
  obtain ⟨_, hq_QuietError⟩ := T.q_QuietError
  have sc := sc_law_apart
  refine def_ok F sc_law_apart rfl (by decide) fun cdv A outer s H E hr tk po => ?_
  exact (eb_cons (es_if (EV2.t (ev_or (et_not (et_val (ee_isx vw_O T.z_isinstance rfl hq_QuietError rfl (tbo_QuietError T hq_QuietError) (EE.w (ee_var 0))))) (ev_or1 (et_not (et_val (ee_isxB vw_O T.z_isinstance rfl T.z_ValueError rfl PyProof.Rows.Boot.«ValueError» (tbo_ValueError T) (EE.w (ee_var 0)))))))) (eb_one (es_ret (EE.w ee_bl))) eb_nil) (eb_one (es_ret (EE.w (ee_cmpw (or_eq hr.units) opw_eq (EE.w (ee_callO tk (ok_law_classes T) hr (by decide) (ea_cons (ee_var 0) ea_nil) (al_cons al_nil))) (EE.w (EF.toE (ef_lc rfl sc.nd (ei_range1 T.z_range rfl (ea_cons ee_int ea_nil) (al_cons al_nil)) (blkOk_by (N := ["_law_e", "_law_k", "_law_j"]) (sc := defScope s_law_apart) (own := [("_law_j", 2)]) (by decide +kernel)) rfl (fun _ => (cg_name (i := 2) sc.nd rfl (by first | exact .inl rfl | exact .inr rfl) (by decide))) (fun _ => ec_nil) (fun _ => (ee_cmpw (or_eq hr.units) opw_eq (EE.w (ee_var 2)) (EE.w (ee_var 1)) (nomark _)))))) (nomark _))))))
theorem ok_law_apart (T : Tx w K mg) : Ok P w K mg base 2 "_law_apart" 2 m_law_apart := by
  obtain ⟨f, fd, F, g⟩ := T.d_law_apart
  exact ⟨f, fd, ["_law_e", "_law_k"], g, F.kp, F.binds fun _ _ _ _ _ _ us hl => match us, hl with | [_, _], _ => rfl, fn_law_apart T F⟩
theorem fn_law_more_errors_kept (T : Tx w K mg) {f : Addr} {fd : FuncData} (F : Fun K "_law_more_errors_kept" "_law_more_errors_kept" s_law_more_errors_kept f fd) : FnOk P w K mg base (L2.CX P w) 3 f fd ["_law_n", "_law_text"] (PF K mg 2 m_law_more_errors_kept) := by
  have sc := sc_law_more_errors_kept
  refine def_ok F sc_law_more_errors_kept rfl (by decide) fun cdv A outer s H E hr tk po => ?_
  exact (eb_cons (es_set (i := 2) (ee_mkx0 PySem.F.excBase_ValueError T.u_BadArguments) sc.nd rfl (Or.inl rfl)) (eb_cons (es_set (i := 3) (ee_mkx tk (xk_BadPicture T) hr (by decide) (ek_cons (ee_var 1) (ek_cons (ee_var 0) (ek_cons (ee_add (ee_var 1) ee_str) ek_nil))) (al_cons (al_cons (al_cons al_nil)))) sc.nd rfl (Or.inl rfl)) (eb_cons (es_set (i := 4) (ee_mkx tk (xk_BadImage T) hr (by decide) (ek_cons (ee_var 0) (ek_cons (ee_var 1) ek_nil)) (al_cons (al_cons al_nil))) sc.nd rfl (Or.inl rfl)) (eb_cons (es_set (i := 5) (ee_mkx tk (xk_NoRoom T) hr (by decide) (ek_cons (ee_var 0) ek_nil) (al_cons al_nil)) sc.nd rfl (Or.inl rfl)) (eb_cons (es_set (i := 6) (ee_mkx tk (xk_NoObject T) hr (by decide) (ek_cons (ee_var 0) ek_nil) (al_cons al_nil)) sc.nd rfl (Or.inl rfl)) (eb_cons (es_if (EV2.t (ev_or (et_cmpw (or_ne hr.units) opw_ne (EE.w (ee_tup (ea_cons (ee_xf vw_O (xl_part T) (ee_var 3)) (ea_cons (ee_xf vw_O (xl_number T) (ee_var 3)) (ea_cons (ee_xf vw_O (xl_why T) (ee_var 3)) ea_nil))))) (EE.w (ee_tup (ea_cons (ee_var 1) (ea_cons (ee_var 0) (ea_cons (ee_add (ee_var 1) ee_str) ea_nil))))) (nomark _)) (ev_or1 (et_cmpw (or_ne hr.units) opw_ne (EE.w (ee_tup (ea_cons (ee_xf vw_O (xl_line T) (ee_var 4)) (ea_cons (ee_xf vw_O (xl_why T) (ee_var 4)) ea_nil)))) (EE.w (ee_tup (ea_cons (ee_var 0) (ea_cons (ee_var 1) ea_nil)))) (nomark _))))) (eb_one (es_ret (EE.w ee_bl))) eb_nil) (eb_cons (es_if (EV2.t (ev_or (et_cmpw (or_ne hr.units) opw_ne (EE.w (ee_xf vw_O (xl_words T) (ee_var 5))) (EE.w (ee_var 0)) (nomark _)) (ev_or (et_cmpw (or_ne hr.units) opw_ne (EE.w (ee_xf vw_O (xl_number T) (ee_var 6))) (EE.w (ee_var 0)) (nomark _)) (ev_or (et_not (et_val (ee_callO tk (ok_law_apart T) hr (by decide) (ea_cons (ee_var 2) (ea_cons ee_int ea_nil)) (al_cons (al_cons al_nil))))) (ev_or1 (et_not (et_val (ee_callO tk (ok_law_apart T) hr (by decide) (ea_cons (ee_var 3) (ea_cons ee_int ea_nil)) (al_cons (al_cons al_nil)))))))))) (eb_one (es_ret (EE.w ee_bl))) eb_nil) (eb_one (es_ret (EE.w (ee_and (ee_callO tk (ok_law_apart T) hr (by decide) (ea_cons (ee_var 4) (ea_cons ee_int ea_nil)) (al_cons (al_cons al_nil))) (ee_and (ee_callO tk (ok_law_apart T) hr (by decide) (ea_cons (ee_var 5) (ea_cons ee_int ea_nil)) (al_cons (al_cons al_nil))) (ee_one (ee_callO tk (ok_law_apart T) hr (by decide) (ea_cons (ee_var 6) (ea_cons ee_int ea_nil)) (al_cons (al_cons al_nil))))))))))))))))
theorem ok_law_more_errors_kept (T : Tx w K mg) : Ok P w K mg base 3 "_law_more_errors_kept" 2 m_law_more_errors_kept := by
  obtain ⟨f, fd, F, g⟩ := T.d_law_more_errors_kept
  exact ⟨f, fd, ["_law_n", "_law_text"], g, F.kp, F.binds fun _ _ _ _ _ _ us hl => match us, hl with | [_, _], _ => rfl, fn_law_more_errors_kept T F⟩
theorem fn_law_errors_kept (T : Tx w K mg) {f : Addr} {fd : FuncData} (F : Fun K "_law_errors_kept" "_law_errors_kept" s_law_errors_kept f fd) : FnOk P w K mg base (L2.CX P w) 3 f fd ["_law_n", "_law_text"] (PF K mg 2 m_law_errors_kept) := by
  have sc := sc_law_errors_kept
  refine def_ok F sc_law_errors_kept rfl (by decide) fun cdv A outer s H E hr tk po => ?_
  exact (eb_cons (es_set (i := 2) (ee_mkx tk (xk_BadProgram T) hr (by decide) (ek_cons (ee_var 1) (ek_cons (ee_var 0) (ek_cons (ee_sub (ee_var 0) ee_int) (ek_cons (ee_add (ee_var 1) ee_str) ek_nil)))) (al_cons (al_cons (al_cons (al_cons al_nil))))) sc.nd rfl (Or.inl rfl)) (eb_cons (es_set (i := 3) (ee_mkx tk (xk_BadText T) hr (by decide) (ek_cons (ee_var 0) (ek_cons (ee_var 1) ek_nil)) (al_cons (al_cons al_nil))) sc.nd rfl (Or.inl rfl)) (eb_cons (es_set (i := 4) (ee_mkx tk (xk_BadCode T) hr (by decide) (ek_cons (ee_var 0) ek_nil) (al_cons al_nil)) sc.nd rfl (Or.inl rfl)) (eb_cons (es_set (i := 5) (ee_mkx tk (xk_Refused T) hr (by decide) (ek_cons (ee_var 0) (ek_cons (ee_var 1) (ek_cons (ee_tup (ea_cons ee_int (ea_cons (ee_var 0) ea_nil))) (ek_cons (ee_tup (ea_cons (ee_var 0) ea_nil)) ek_nil)))) (al_cons (al_cons (al_cons (al_cons al_nil))))) sc.nd rfl (Or.inl rfl)) (eb_cons (es_if (EV2.t (ev_or (et_cmpw (or_ne hr.units) opw_ne (EE.w (ee_tup (ea_cons (ee_xf vw_O (xl_part T) (ee_var 2)) (ea_cons (ee_xf vw_O (xl_number T) (ee_var 2)) (ea_cons (ee_xf vw_O (xl_place T) (ee_var 2)) (ea_cons (ee_xf vw_O (xl_why T) (ee_var 2)) ea_nil)))))) (EE.w (ee_tup (ea_cons (ee_var 1) (ea_cons (ee_var 0) (ea_cons (ee_sub (ee_var 0) ee_int) (ea_cons (ee_add (ee_var 1) ee_str) ea_nil)))))) (nomark _)) (ev_or1 (et_cmpw (or_ne hr.units) opw_ne (EE.w (ee_tup (ea_cons (ee_xf vw_O (xl_line T) (ee_var 3)) (ea_cons (ee_xf vw_O (xl_why T) (ee_var 3)) ea_nil)))) (EE.w (ee_tup (ea_cons (ee_var 0) (ea_cons (ee_var 1) ea_nil)))) (nomark _))))) (eb_one (es_ret (EE.w ee_bl))) eb_nil) (eb_cons (es_if (EV2.t (ev_or (et_cmpw (or_ne hr.units) opw_ne (EE.w (ee_xf vw_O (xl_at T) (ee_var 4))) (EE.w (ee_var 0)) (nomark _)) (ev_or1 (et_cmpw (or_ne hr.units) opw_ne (EE.w (ee_tup (ea_cons (ee_xf vw_O (xl_number T) (ee_var 5)) (ea_cons (ee_xf vw_O (xl_why T) (ee_var 5)) (ea_cons (ee_xf vw_O (xl_walk T) (ee_var 5)) (ea_cons (ee_xf vw_O (xl_other T) (ee_var 5)) ea_nil)))))) (EE.w (ee_tup (ea_cons (ee_var 0) (ea_cons (ee_var 1) (ea_cons (ee_tup (ea_cons ee_int (ea_cons (ee_var 0) ea_nil))) (ea_cons (ee_tup (ea_cons (ee_var 0) ea_nil)) ea_nil)))))) (nomark _))))) (eb_one (es_ret (EE.w ee_bl))) eb_nil) (eb_one (es_ret (EE.w (ee_and (ee_callO tk (ok_law_apart T) hr (by decide) (ea_cons (ee_var 2) (ea_cons ee_int ea_nil)) (al_cons (al_cons al_nil))) (ee_and (ee_callO tk (ok_law_apart T) hr (by decide) (ea_cons (ee_var 3) (ea_cons ee_int ea_nil)) (al_cons (al_cons al_nil))) (ee_and (ee_callO tk (ok_law_apart T) hr (by decide) (ea_cons (ee_var 4) (ea_cons ee_int ea_nil)) (al_cons (al_cons al_nil))) (ee_one (ee_callO tk (ok_law_apart T) hr (by decide) (ea_cons (ee_var 5) (ea_cons ee_int ea_nil)) (al_cons (al_cons al_nil))))))))))))))))
theorem ok_law_errors_kept (T : Tx w K mg) : Ok P w K mg base 3 "_law_errors_kept" 2 m_law_errors_kept := by
  obtain ⟨f, fd, F, g⟩ := T.d_law_errors_kept
  exact ⟨f, fd, ["_law_n", "_law_text"], g, F.kp, F.binds fun _ _ _ _ _ _ us hl => match us, hl with | [_, _], _ => rfl, fn_law_errors_kept T F⟩
theorem fn_law_digits (T : Tx w K mg) {f : Addr} {fd : FuncData} (F : Fun K "_law_digits" "_law_digits" s_law_digits f fd) : FnOk P w K mg base (L2.CX P w) 1 f fd ["_law_cell_here", "_law_sizes"] (PF K mg 2 m_law_digits) := by
  have sc := sc_law_digits
  refine def_ok F sc_law_digits rfl (by decide) fun cdv A outer s H E hr tk po => ?_
  exact (eb_cons (es_seto (i := 2) (ef_lst ea_nil) sc.nd rfl (Or.inl rfl)) (eb_cons (es_set (i := 3) (ee_intc T.z_int rfl (eaw_cons (EE.w (ee_var 0)) eaw_nil)) sc.nd rfl (Or.inl rfl)) (eb_cons (es_if (et_cmpw op_ge opw_cmp (EE.w (ee_var 3)) (EE.w (ee_pow ee_int ee_int)) (nomark _)) (eb_cons (es_set (i := 3) (ee_sub (ee_var 3) (ee_pow ee_int ee_int)) sc.nd rfl (Or.inl rfl)) (eb_cons (es_for po rfl (ei_any (ee_var 1)) (eg_name (i := 4) sc.nd rfl (Or.inl rfl)) (eb_cons (es_app 2 (ee_mod (ee_intc T.z_int rfl (eaw_cons (EE.w (ee_var 3)) eaw_nil)) (ee_var 4))) (eb_one (es_set (i := 3) (ee_div (ee_intc T.z_int rfl (eaw_cons (EE.w (ee_var 3)) eaw_nil)) (ee_var 4)) sc.nd rfl (Or.inl rfl))))) (eb_one (es_ret (ew_var 2))))) eb_nil) (eb_cons (es_set (i := 5) (ee_mod (ee_intc T.z_int rfl (eaw_cons (EE.w (ee_var 3)) eaw_nil)) ee_int) sc.nd rfl (Or.inl rfl)) (eb_cons (es_for po rfl (ei_range1 T.z_range rfl (ea_cons (ee_len T.z_len rfl (eaw_cons (EE.w (ee_var 1)) eaw_nil)) ea_nil) (al_cons al_nil)) (eg_name (i := 6) sc.nd rfl (Or.inl rfl)) (eb_cons (es_set (i := 5) (ee_mod (ee_intc T.z_int rfl (eaw_cons (EE.w (ee_add (ee_add (ee_mul (ee_var 5) ee_int) (ee_mul ee_int (ee_var 6))) ee_int)) eaw_nil)) ee_int) sc.nd rfl (Or.inl rfl)) (eb_cons (es_set (i := 7) (ee_mod (ee_intc T.z_int rfl (eaw_cons (EE.w (ee_mul (ee_var 5) (ee_add (ee_div (ee_var 5) ee_int) ee_int))) eaw_nil)) ee_int) sc.nd rfl (Or.inl rfl)) (eb_one (es_app 2 (ee_mod (ee_div (ee_var 7) ee_int) (ee_ix (ee_var 1) (ee_var 6)))))))) (eb_one (es_ret (ew_var 2))))))))
theorem ok_law_digits (T : Tx w K mg) : Ok P w K mg base 1 "_law_digits" 2 m_law_digits := by
  obtain ⟨f, fd, F, g⟩ := T.d_law_digits
  exact ⟨f, fd, ["_law_cell_here", "_law_sizes"], g, F.kp, F.binds fun _ _ _ _ _ _ us hl => match us, hl with | [_, _], _ => rfl, fn_law_digits T F⟩
theorem fn_last_index (T : Tx w K mg) {f : Addr} {fd : FuncData} (F : Fun K "last_index" "last_index" s_last_index f fd) : FnOk P w K mg base (L2.CX P w) 3 f fd ["octets", "at"] (PF K mg 2 m_last_index) := by
  have sc := sc_last_index
  refine def_ok F sc_last_index rfl (by decide) fun cdv A outer s H E hr tk po => ?_
  exact (eb_cons (es_for po rfl (ei_range2 T.z_range rfl (ea_cons (ee_var 1) (ea_cons (ee_len T.z_len rfl (eaw_cons (EE.w (ee_var 0)) eaw_nil)) ea_nil)) (al_cons (al_cons al_nil))) (eg_name (i := 2) sc.nd rfl (Or.inl rfl)) (eb_one (es_if (et_cmpw op_lt opw_cmp (EE.w (ee_ix (ee_var 0) (ee_var 2))) (EE.w ee_int) (nomark _)) (eb_one (es_ret (EE.w (ee_var 2)))) eb_nil))) (eb_one (es_raise rfl tk (xc_BadCode T) hr (by decide) (ea_cons (ee_len T.z_len rfl (eaw_cons (EE.w (ee_var 0)) eaw_nil)) ea_nil) (al_cons al_nil))))
theorem ok_last_index (T : Tx w K mg) : Ok P w K mg base 3 "last_index" 2 m_last_index := by
  obtain ⟨f, fd, F, g⟩ := T.d_last_index
  exact ⟨f, fd, ["octets", "at"], g, F.kp, F.binds fun _ _ _ _ _ _ us hl => match us, hl with | [_, _], _ => rfl, fn_last_index T F⟩
theorem fn_decode_number (T : Tx w K mg) {f : Addr} {fd : FuncData} (F : Fun K "decode_number" "decode_number" s_decode_number f fd) : FnOk P w K mg base (L2.CX P w) 4 f fd ["octets", "at"] (PF K mg 2 m_decode_number) := by
  have sc := sc_decode_number
  refine def_ok F sc_decode_number rfl (by decide) fun cdv A outer s H E hr tk po => ?_
  exact (eb_cons (es_set (i := 2) (ee_callO tk (ok_last_index T) hr (by decide) (ea_cons (ee_var 0) (ea_cons (ee_var 1) ea_nil)) (al_cons (al_cons al_nil))) sc.nd rfl (Or.inl rfl)) (eb_cons (es_if (EV2.t (ev_or (et_cmpw op_gt opw_cmp (EE.w (ee_sub (ee_var 2) (ee_var 1))) (EE.w ee_int) (nomark _)) (ev_or1 (EV2.t (ev_and (et_cmpw op_gt opw_cmp (EE.w (ee_var 2)) (EE.w (ee_var 1)) (nomark _)) (ev_and1 (et_cmpw (or_eq hr.units) opw_eq (EE.w (ee_ix (ee_var 0) (ee_var 2))) (EE.w ee_int) (nomark _)))))))) (eb_one (es_raise rfl tk (xc_BadCode T) hr (by decide) (ea_cons (ee_var 1) ea_nil) (al_cons al_nil))) eb_nil) (eb_cons (es_set (i := 3) (ee_ix (ee_var 0) (ee_var 2)) sc.nd rfl (Or.inl rfl)) (eb_cons (es_for po rfl (ei_range3 T.z_range rfl (ea_cons (ee_sub (ee_var 2) ee_int) (ea_cons (ee_sub (ee_var 1) ee_int) (ea_cons (ee_neg ee_int) ea_nil))) (al_cons (al_cons (al_cons al_nil)))) (eg_name (i := 4) sc.nd rfl (Or.inl rfl)) (eb_one (es_set (i := 3) (ee_sub (ee_add (ee_mul ee_int (ee_var 3)) (ee_ix (ee_var 0) (ee_var 4))) ee_int) sc.nd rfl (Or.inl rfl)))) (eb_one (es_ret (EE.w (ee_tup (ea_cons (ee_var 3) (ea_cons (ee_add (ee_var 2) ee_int) ea_nil))))))))))
theorem ok_decode_number (T : Tx w K mg) : Ok P w K mg base 4 "decode_number" 2 m_decode_number := by
  obtain ⟨f, fd, F, g⟩ := T.d_decode_number
  exact ⟨f, fd, ["octets", "at"], g, F.kp, F.binds fun _ _ _ _ _ _ us hl => match us, hl with | [_, _], _ => rfl, fn_decode_number T F⟩
theorem fn_law_whole (T : Tx w K mg) {f : Addr} {fd : FuncData} (F : Fun K "_law_whole" "_law_whole" s_law_whole f fd) : FnOk P w K mg base (L2.CX P w) 1 f fd ["_law_value"] (PF K mg 1 m_law_whole) := by
  have sc := sc_law_whole
  refine def_ok F sc_law_whole rfl (by decide) fun cdv A outer s H E hr tk po => ?_
  exact (eb_one (es_ret (EE.w (ee_and (ee_isi T.z_isinstance rfl T.z_int rfl boot_int kit_int (EE.w (ee_var 0))) (ee_one (ee_not (ee_isi T.z_isinstance rfl T.z_bool rfl boot_bool kit_bool (EE.w (ee_var 0)))))))))
theorem ok_law_whole (T : Tx w K mg) : Ok P w K mg base 1 "_law_whole" 1 m_law_whole := by
  obtain ⟨f, fd, F, g⟩ := T.d_law_whole
  exact ⟨f, fd, ["_law_value"], g, F.kp, F.binds fun _ _ _ _ _ _ us hl => match us, hl with | [_], _ => rfl, fn_law_whole T F⟩
theorem okH_law_whole (T : Tx w K mg) : OkH P w K mg base 1 "_law_whole" 1 m_law_whole := by
  have sc := sc_law_whole
  obtain ⟨f, fd, F, g⟩ := T.d_law_whole
  refine ⟨f, fd, ["_law_value"], g, F.kp, F.binds fun _ _ _ _ _ _ us hl => match us, hl with | [_], _ => rfl, def_okH F sc_law_whole rfl (by decide) fun cdv A outer s H E a hr => ?_⟩
  exact (eb_one (es_ret (EE.w (ee_and (ee_isi T.z_isinstance rfl T.z_int rfl boot_int kit_int (EE.w (ee_var 0))) (ee_one (ee_not (ee_isi T.z_isinstance rfl T.z_bool rfl boot_bool kit_bool (EE.w (ee_var 0)))))))))
theorem fn_law_outcome (T : Tx w K mg) {f : Addr} {fd : FuncData} (F : Fun K "_law_outcome" "_law_outcome" s_law_outcome f fd) : FnOk P w K mg base (L2.CX P w) 5 f fd ["_law_octets", "_law_spot"] (PF K mg 2 m_law_outcome) := by
  obtain ⟨_, hq_BadArguments⟩ := T.q_BadArguments
  obtain ⟨_, hq_BadCode⟩ := T.q_BadCode
  obtain ⟨_, hq_BadImage⟩ := T.q_BadImage
  obtain ⟨_, hq_BadPicture⟩ := T.q_BadPicture
  obtain ⟨_, hq_BadProgram⟩ := T.q_BadProgram
  obtain ⟨_, hq_BadText⟩ := T.q_BadText
  obtain ⟨_, hq_NoObject⟩ := T.q_NoObject
  obtain ⟨_, hq_NoRoom⟩ := T.q_NoRoom
  obtain ⟨_, hq_QuietError⟩ := T.q_QuietError
  obtain ⟨_, hq_Refused⟩ := T.q_Refused
  have sc := sc_law_outcome
  refine def_ok F sc_law_outcome rfl (by decide) fun cdv A outer s H E hr tk po => ?_
  exact (eb_cons (es_tryAs (i := 3) (mu := fun a dx c => (mSeq (mIf (mTOr (mTNot (mTB (mCallH m_law_whole (mCons (mXf (vwE a dx c) xL_at "at" (mVar 3)) mNil)))) (mTOr (mTNot (mTB (mIsx (vwE a dx c) (fun c => List.lookup c tb_QuietError) (mVar 3)))) (mTNot (mTB (mIsx (vwE a dx c) (fun c => List.lookup c tb_ValueError) (mVar 3)))))) (mRet (mCellE (mLst mNil))) mNx) (mSeq (mIf (mTB (mIsxT (vwE a dx c) xAll [fun c => List.lookup c tb_BadProgram, fun c => List.lookup c tb_BadText, fun c => List.lookup c tb_Refused, fun c => List.lookup c tb_BadArguments, fun c => List.lookup c tb_BadPicture, fun c => List.lookup c tb_BadImage, fun c => List.lookup c tb_NoRoom, fun c => List.lookup c tb_NoObject] (mVar 3))) (mRet (mCellE (mLst mNil))) mNx) (mRet (mCellE (mLst (mCons (mC .non) (mCons (mXf (vwE a dx c) xL_at "at" (mVar 3)) mNil)))))))) rfl rfl sc.nd rfl rfl ⟨rfl, by decide, .inl hq_BadCode⟩ tk (ct_list hq_BadCode (ctT_BadCode T)) (fun _ _ _ tk po => (eb_one (es_set (i := 2) (ee_callO tk (ok_decode_number T) hr (by decide) (ea_cons (ee_var 0) (ea_cons (ee_var 1) ea_nil)) (al_cons (al_cons al_nil))) sc.nd rfl (Or.inl rfl)))) (fun c C hm a oe dx pn z1 z2 => (eb_cons (es_if (EV2.t (ev_or (et_not (et_val (ee_callH (okH_law_whole T) hr (by decide) (ea_cons (ee_xf (vw_E hm z1 z2) (xl_at T) (ee_var 3)) ea_nil) (al_cons al_nil)))) (ev_or (et_not (et_val (ee_isx (vw_E hm z1 z2) T.z_isinstance rfl hq_QuietError rfl (tbo_QuietError T hq_QuietError) (EE.w (ee_var 3))))) (ev_or1 (et_not (et_val (ee_isxB (vw_E hm z1 z2) T.z_isinstance rfl T.z_ValueError rfl PyProof.Rows.Boot.«ValueError» (tbo_ValueError T) (EE.w (ee_var 3))))))))) (eb_one (es_ret (EE.w (EF.toE (ef_lst ea_nil))))) eb_nil) (eb_cons (es_if (et_val (ee_isxT (ok := xAll) (vw_E hm z1 z2) T.z_isinstance rfl (cl_cons hq_BadProgram rfl (cl_cons hq_BadText rfl (cl_cons hq_Refused rfl (cl_cons hq_BadArguments rfl (cl_cons hq_BadPicture rfl (cl_cons hq_BadImage rfl (cl_cons hq_NoRoom rfl (cl_cons hq_NoObject rfl cl_nil)))))))) (tabs_cons (tbo_BadProgram T hq_BadProgram) (tabs_cons (tbo_BadText T hq_BadText) (tabs_cons (tbo_Refused T hq_Refused) (tabs_cons (tbo_BadArguments T hq_BadArguments) (tabs_cons (tbo_BadPicture T hq_BadPicture) (tabs_cons (tbo_BadImage T hq_BadImage) (tabs_cons (tbo_NoRoom T hq_NoRoom) (tabs_cons (tbo_NoObject T hq_NoObject) tabs_nil)))))))) (xal T) (EE.w (ee_var 3)) (by show 8 ≤ sizeLine; decide))) (eb_one (es_ret (EE.w (EF.toE (ef_lst ea_nil))))) eb_nil) (eb_one (es_ret (EE.w (EF.toE (ef_lst (ea_cons ee_non (ea_cons (ee_xf (vw_E hm z1 z2) (xl_at T) (ee_var 3)) ea_nil))))))))))) (eb_cons (es_if (EV2.t (ev_or (et_not (et_val (ee_isi T.z_isinstance rfl T.z_tuple rfl boot_tuple kit_tuple (EE.w (ee_var 2))))) (ev_or (et_cmpw (or_ne hr.units) opw_ne (EE.w (ee_len T.z_len rfl (eaw_cons (EE.w (ee_var 2)) eaw_nil))) (EE.w ee_int) (nomark _)) (ev_or (et_not (et_val (ee_callO tk (ok_law_whole T) hr (by decide) (ea_cons (ee_ix (ee_var 2) ee_int) ea_nil) (al_cons al_nil)))) (ev_or1 (et_not (et_val (ee_callO tk (ok_law_whole T) hr (by decide) (ea_cons (ee_ix (ee_var 2) ee_int) ea_nil) (al_cons al_nil))))))))) (eb_one (es_ret (EE.w (EF.toE (ef_lst ea_nil))))) eb_nil) (eb_one (es_ret (EE.w (EF.toE (ef_lst (ea_cons (ee_ix (ee_var 2) ee_int) (ea_cons (ee_ix (ee_var 2) ee_int) ea_nil)))))))))
theorem ok_law_outcome (T : Tx w K mg) : Ok P w K mg base 5 "_law_outcome" 2 m_law_outcome := by
  obtain ⟨f, fd, F, g⟩ := T.d_law_outcome
  exact ⟨f, fd, ["_law_octets", "_law_spot"], g, F.kp, F.binds fun _ _ _ _ _ _ us hl => match us, hl with | [_, _], _ => rfl, fn_law_outcome T F⟩
theorem fn_law_read_at (T : Tx w K mg) {f : Addr} {fd : FuncData} (F : Fun K "_law_read_at" "_law_read_at" s_law_read_at f fd) : FnOk P w K mg base (L2.CX P w) 1 f fd ["_law_octets", "_law_spot"] (PF K mg 2 m_law_read_at) := by
  have sc := sc_law_read_at
  refine def_ok F sc_law_read_at rfl (by decide) fun cdv A outer s H E hr tk po => ?_
  exact (eb_cons (es_setoLc (i := 2) rfl sc.nd rfl rfl (sw_true rfl rfl rfl (by decide +kernel)) (ei_range2 T.z_range rfl (ea_cons (ee_var 1) (ea_cons (ee_len T.z_len rfl (eaw_cons (EE.w (ee_var 0)) eaw_nil)) ea_nil)) (al_cons (al_cons al_nil))) (blkOk_by (N := ["_law_octets", "_law_spot", "_law_found", "_law_k", "_law_last", "_law_n"]) (sc := defScope s_law_read_at) (own := [("_law_k", 3)]) (by decide +kernel)) rfl (fun _ => (cg_name (i := 3) sc.nd rfl (by first | exact .inl rfl | exact .inr rfl) (by decide))) (fun _ => (ec_one (et_cmpw op_lt opw_cmp (EE.w (ee_ix (ee_var 0) (ee_var 3))) (EE.w ee_int) (nomark _)))) (fun _ => (ee_var 3))) (eb_cons (es_if (et_cmpw (or_eq hr.units) opw_eq (EE.w (ee_len T.z_len rfl (eaw_cons (ew_var 2) eaw_nil))) (EE.w ee_int) (nomark _)) (eb_one (es_ret (EE.w (EF.toE (ef_lst (ea_cons ee_non (ea_cons (ee_len T.z_len rfl (eaw_cons (EE.w (ee_var 0)) eaw_nil)) ea_nil))))))) eb_nil) (eb_cons (es_set (i := 4) (ee_ixo 2 ee_int) sc.nd rfl (Or.inl rfl)) (eb_cons (es_if (EV2.t (ev_or (et_cmpw op_gt opw_cmp (EE.w (ee_sub (ee_var 4) (ee_var 1))) (EE.w ee_int) (nomark _)) (ev_or1 (EV2.t (ev_and (et_cmpw op_gt opw_cmp (EE.w (ee_var 4)) (EE.w (ee_var 1)) (nomark _)) (ev_and1 (et_cmpw (or_eq hr.units) opw_eq (EE.w (ee_ix (ee_var 0) (ee_var 4))) (EE.w ee_int) (nomark _)))))))) (eb_one (es_ret (EE.w (EF.toE (ef_lst (ea_cons ee_non (ea_cons (ee_var 1) ea_nil))))))) eb_nil) (eb_cons (es_set (i := 5) ee_int sc.nd rfl (Or.inl rfl)) (eb_cons (es_for po rfl (ei_range1 T.z_range rfl (ea_cons (ee_add (ee_sub (ee_var 4) (ee_var 1)) ee_int) ea_nil) (al_cons al_nil)) (eg_name (i := 3) sc.nd rfl (Or.inl rfl)) (eb_one (es_set (i := 5) (ee_add (ee_mul ee_int (ee_var 5)) (ee_mod (ee_intc T.z_int rfl (eaw_cons (EE.w (ee_ix (ee_var 0) (ee_sub (ee_var 4) (ee_var 3)))) eaw_nil)) ee_int)) sc.nd rfl (Or.inl rfl)))) (eb_one (es_ret (EE.w (EF.toE (ef_lst (ea_cons (ee_var 5) (ea_cons (ee_add (ee_var 4) ee_int) ea_nil)))))))))))))
theorem ok_law_read_at (T : Tx w K mg) : Ok P w K mg base 1 "_law_read_at" 2 m_law_read_at := by
  obtain ⟨f, fd, F, g⟩ := T.d_law_read_at
  exact ⟨f, fd, ["_law_octets", "_law_spot"], g, F.kp, F.binds fun _ _ _ _ _ _ us hl => match us, hl with | [_, _], _ => rfl, fn_law_read_at T F⟩
theorem fn_law (T : Tx w K mg) {f : Addr} {fd : FuncData} (F : Fun K "law" "law" s_law f fd) : FnOk P w K mg base (L2.CX P w) 6 f fd ["_law_script"] (PF K mg 1 m_law) := by
  have sc := sc_law
  refine def_ok F sc_law rfl (by decide) fun cdv A outer s H E hr tk po => ?_
  exact (eb_cons (es_set (i := 1) (ee_intc T.z_int rfl (eaw_cons (EE.w (ee_callO tk (ok_law_cell T) hr (by decide) (ea_cons (ee_var 0) (ea_cons ee_int ea_nil)) (al_cons (al_cons al_nil)))) eaw_nil)) sc.nd rfl (Or.inl rfl)) (eb_cons (es_set (i := 2) (ee_ix (EF.toE (ef_lst (ea_cons ee_str (ea_cons ee_str (ea_cons ee_str (ea_cons ee_str ea_nil)))))) (ee_mod (ee_intc T.z_int rfl (eaw_cons (EE.w (ee_var 1)) eaw_nil)) ee_int)) sc.nd rfl (Or.inl rfl)) (eb_cons (es_if (EV2.t (ev_or (et_not (et_val (ee_callO tk (ok_law_errors_kept T) hr (by decide) (ea_cons (ee_var 1) (ea_cons (ee_var 2) ea_nil)) (al_cons (al_cons al_nil))))) (ev_or1 (et_not (et_val (ee_callO tk (ok_law_more_errors_kept T) hr (by decide) (ea_cons (ee_var 1) (ea_cons (ee_var 2) ea_nil)) (al_cons (al_cons al_nil)))))))) (eb_one (es_ret (EE.w ee_bl))) eb_nil) (eb_cons (es_set (i := 3) (ee_callO tk (ok_law_digits T) hr (by decide) (ea_cons (ee_callO tk (ok_law_cell T) hr (by decide) (ea_cons (ee_var 0) (ea_cons ee_int ea_nil)) (al_cons (al_cons al_nil))) (ea_cons (EF.toE (ef_lst (ea_cons ee_int (ea_cons ee_int (ea_cons ee_int (ea_cons ee_int ea_nil)))))) ea_nil)) (al_cons (al_cons al_nil))) sc.nd rfl (Or.inl rfl)) (eb_cons (es_set (i := 4) (ee_callO tk (ok_law_digits T) hr (by decide) (ea_cons (ee_callO tk (ok_law_cell T) hr (by decide) (ea_cons (ee_var 0) (ea_cons ee_int ea_nil)) (al_cons (al_cons al_nil))) (ea_cons (ee_mul (EF.toE (ef_lst (ea_cons ee_int (ea_cons ee_int ea_nil)))) ee_int) ea_nil)) (al_cons (al_cons al_nil))) sc.nd rfl (Or.inl rfl)) (eb_cons (es_seto (i := 5) (ef_lst ea_nil) sc.nd rfl (Or.inl rfl)) (eb_cons (es_for po rfl (ei_range1 T.z_range rfl (ea_cons (ee_ix (ee_var 3) ee_int) ea_nil) (al_cons al_nil)) (eg_name (i := 6) sc.nd rfl (Or.inl rfl)) (eb_cons (es_set (i := 7) (ee_ix (ee_var 4) (ee_mul ee_int (ee_var 6))) sc.nd rfl (Or.inl rfl)) (eb_cons (es_set (i := 8) (ee_ix (ee_var 4) (ee_add ee_int (ee_mul ee_int (ee_var 6)))) sc.nd rfl (Or.inl rfl)) (eb_cons (es_if (EV2.t (ev_or (et_cmpw op_lt opw_cmp (EE.w (ee_var 7)) (EE.w ee_int) (nomark _)) (ev_or1 (EV2.t (ev_and (et_cmpw (or_eq hr.units) opw_eq (EE.w (ee_ix (ee_var 3) ee_int)) (EE.w ee_int) (nomark _)) (ev_and1 (et_cmpw op_lt opw_cmp (EE.w (ee_var 7)) (EE.w ee_int) (nomark _)))))))) (eb_one (es_set (i := 8) (ee_add ee_int (ee_mod (ee_intc T.z_int rfl (eaw_cons (EE.w (ee_var 8)) eaw_nil)) ee_int)) sc.nd rfl (Or.inl rfl))) (eb_one (es_if (et_cmpw (or_eq hr.units) opw_eq (EE.w (ee_var 7)) (EE.w ee_int) (nomark _)) (eb_one (es_set (i := 8) ee_int sc.nd rfl (Or.inl rfl))) (eb_one (es_if (et_cmpw (or_eq hr.units) opw_eq (EE.w (ee_var 7)) (EE.w ee_int) (nomark _)) (eb_one (es_set (i := 8) ee_int sc.nd rfl (Or.inl rfl))) eb_nil))))) (eb_one (es_app 5 (ee_var 8))))))) (eb_cons (es_if (et_cmpw (or_eq hr.units) opw_eq (EE.w (ee_ix (ee_var 3) ee_int)) (EE.w ee_int) (nomark _)) (eb_one (es_frz 5 (es_seto (i := 5) (ef_cat (EF.toE (ef_lc rfl sc.nd (ei_range1 T.z_range rfl (ea_cons ee_int ea_nil) (al_cons al_nil)) (blkOk_by (N := ["_law_script", "_law_n", "_law_text", "_law_row", "_law_digits_here", "_law_octets", "_law_k", "_law_style", "_law_worth", "_law_mine", "_law_first", "_law_spot", "_law_told", "_law_again"]) (sc := defScope s_law) (own := [("_law_k", 6)]) (by decide +kernel)) rfl (fun _ => (cg_name (i := 6) sc.nd rfl (by first | exact .inl rfl | exact .inr rfl) (by decide))) (fun _ => ec_nil) (fun _ => (ee_add ee_int (ee_var 6))))) (ee_var 5)) sc.nd rfl (Or.inl rfl)))) eb_nil) (eb_cons (es_set (i := 9) (EF.toE (ef_listO 5 T.z_list rfl)) sc.nd rfl (Or.inr rfl)) (eb_cons (es_if (et_cmpw (or_eq hr.units) opw_eq (EE.w (ee_ix (ee_var 3) ee_int)) (EE.w ee_int) (nomark _)) (eb_one (es_set (i := 9) (ee_tupO 5 T.z_tuple rfl) sc.nd rfl (Or.inr rfl))) eb_nil) (eb_cons (es_seto (i := 10) (ef_lst ea_nil) sc.nd rfl (Or.inl rfl)) (eb_cons (es_frz 5 (es_for po rfl (ei_range1 T.z_range rfl (ea_cons (ee_add (ee_len T.z_len rfl (eaw_cons (EE.w (ee_var 5)) eaw_nil)) ee_int) ea_nil) (al_cons al_nil)) (eg_name (i := 11) sc.nd rfl (Or.inl rfl)) (eb_cons (es_set (i := 12) (ee_callO tk (ok_law_outcome T) hr (by decide) (ea_cons (ee_var 9) (ea_cons (ee_var 11) ea_nil)) (al_cons (al_cons al_nil))) sc.nd rfl (Or.inl rfl)) (eb_cons (es_if (et_cmpw (or_ne hr.units) opw_ne (EE.w (ee_var 12)) (EE.w (ee_callO tk (ok_law_read_at T) hr (by decide) (ea_cons (ee_var 5) (ea_cons (ee_var 11) ea_nil)) (al_cons (al_cons al_nil)))) (nomark _)) (eb_one (es_ret (EE.w ee_bl))) eb_nil) (eb_one (es_app 10 (ee_var 12))))))) (eb_cons (es_setoLc (i := 13) rfl sc.nd rfl rfl (sw_true rfl rfl rfl (by decide +kernel)) (ei_range1 T.z_range rfl (ea_cons (ee_add (ee_len T.z_len rfl (eaw_cons (EE.w (ee_var 5)) eaw_nil)) ee_int) ea_nil) (al_cons al_nil)) (blkOk_by (N := ["_law_script", "_law_n", "_law_text", "_law_row", "_law_digits_here", "_law_octets", "_law_k", "_law_style", "_law_worth", "_law_mine", "_law_first", "_law_spot", "_law_told", "_law_again"]) (sc := defScope s_law) (own := [("_law_spot", 11)]) (by decide +kernel)) rfl (fun _ => (cg_name (i := 11) sc.nd rfl (by first | exact .inl rfl | exact .inr rfl) (by decide))) (fun _ => ec_nil) (fun _ => (ee_callO takes0 (ok_law_outcome T) hr (by decide) (ea_cons (ee_var 9) (ea_cons (ee_var 11) ea_nil)) (al_cons (al_cons al_nil))))) (eb_one (es_ret (EE.w (ee_and (ee_cmpw (or_eq hr.units) opw_eq (ew_var 13) (ew_var 10) (nomark _)) (ee_one (ee_cmpw (or_eq hr.units) opw_eq (EE.w (EF.toE (ef_listc T.z_list rfl (ea_cons (ee_var 9) ea_nil)))) (EE.w (ee_var 5)) (nomark _))))))))))))))))))))
theorem ok_law (T : Tx w K mg) : Ok P w K mg base 6 "law" 1 m_law := by
  obtain ⟨f, fd, F, g⟩ := T.d_law
  exact ⟨f, fd, ["_law_script"], g, F.kp, F.binds fun _ _ _ _ _ _ us hl => match us, hl with | [_], _ => rfl, fn_law T F⟩
end
/-! ### the head's facts -/
theorem all_mk {w : World} {K : PySem.W.Frag} {h : Heap} {mg : Str → Option Value} (X : K.In h) (G : h.Ns mainGlobals mg) {f0 f1 f2 f3 f4 f5 f6 f7 f8 f9 f10 f11 : Addr}
    {od0 an0 : Option Addr} {sl0 : Array (Option Value)} {oc0 kV0 dc0 pm0 cd0 ct0 : Value}
    (a0 : PySem.W.nsIn K mainGlobals "_law_cell" = some (some (.ref f0))) (l0 : K.lookup f0 = some ⟨oc0, od0, .func (PySem.W.fnOf "_law_cell" "_law_cell" (defArgs s_law_cell) (defBody s_law_cell) (defScope s_law_cell) .none kV0 dc0 pm0 an0 cd0 ct0), sl0⟩) (c0 : PySem.W.codeIn K cd0 "_law_cell" = true) (k0 : PySem.W.keepIn K (.ref f0) = true)
    {od1 an1 : Option Addr} {sl1 : Array (Option Value)} {oc1 kV1 dc1 pm1 cd1 ct1 : Value}
    (a1 : PySem.W.nsIn K mainGlobals "_law_classes" = some (some (.ref f1))) (l1 : K.lookup f1 = some ⟨oc1, od1, .func (PySem.W.fnOf "_law_classes" "_law_classes" (defArgs s_law_classes) (defBody s_law_classes) (defScope s_law_classes) .none kV1 dc1 pm1 an1 cd1 ct1), sl1⟩) (c1 : PySem.W.codeIn K cd1 "_law_classes" = true) (k1 : PySem.W.keepIn K (.ref f1) = true)
    {od2 an2 : Option Addr} {sl2 : Array (Option Value)} {oc2 kV2 dc2 pm2 cd2 ct2 : Value}
    (a2 : PySem.W.nsIn K mainGlobals "_law_apart" = some (some (.ref f2))) (l2 : K.lookup f2 = some ⟨oc2, od2, .func (PySem.W.fnOf "_law_apart" "_law_apart" (defArgs s_law_apart) (defBody s_law_apart) (defScope s_law_apart) .none kV2 dc2 pm2 an2 cd2 ct2), sl2⟩) (c2 : PySem.W.codeIn K cd2 "_law_apart" = true) (k2 : PySem.W.keepIn K (.ref f2) = true)
    {od3 an3 : Option Addr} {sl3 : Array (Option Value)} {oc3 kV3 dc3 pm3 cd3 ct3 : Value}
    (a3 : PySem.W.nsIn K mainGlobals "_law_more_errors_kept" = some (some (.ref f3))) (l3 : K.lookup f3 = some ⟨oc3, od3, .func (PySem.W.fnOf "_law_more_errors_kept" "_law_more_errors_kept" (defArgs s_law_more_errors_kept) (defBody s_law_more_errors_kept) (defScope s_law_more_errors_kept) .none kV3 dc3 pm3 an3 cd3 ct3), sl3⟩) (c3 : PySem.W.codeIn K cd3 "_law_more_errors_kept" = true) (k3 : PySem.W.keepIn K (.ref f3) = true)
    {od4 an4 : Option Addr} {sl4 : Array (Option Value)} {oc4 kV4 dc4 pm4 cd4 ct4 : Value}
    (a4 : PySem.W.nsIn K mainGlobals "_law_errors_kept" = some (some (.ref f4))) (l4 : K.lookup f4 = some ⟨oc4, od4, .func (PySem.W.fnOf "_law_errors_kept" "_law_errors_kept" (defArgs s_law_errors_kept) (defBody s_law_errors_kept) (defScope s_law_errors_kept) .none kV4 dc4 pm4 an4 cd4 ct4), sl4⟩) (c4 : PySem.W.codeIn K cd4 "_law_errors_kept" = true) (k4 : PySem.W.keepIn K (.ref f4) = true)
    {od5 an5 : Option Addr} {sl5 : Array (Option Value)} {oc5 kV5 dc5 pm5 cd5 ct5 : Value}
    (a5 : PySem.W.nsIn K mainGlobals "_law_digits" = some (some (.ref f5))) (l5 : K.lookup f5 = some ⟨oc5, od5, .func (PySem.W.fnOf "_law_digits" "_law_digits" (defArgs s_law_digits) (defBody s_law_digits) (defScope s_law_digits) .none kV5 dc5 pm5 an5 cd5 ct5), sl5⟩) (c5 : PySem.W.codeIn K cd5 "_law_digits" = true) (k5 : PySem.W.keepIn K (.ref f5) = true)
    {od6 an6 : Option Addr} {sl6 : Array (Option Value)} {oc6 kV6 dc6 pm6 cd6 ct6 : Value}
    (a6 : PySem.W.nsIn K mainGlobals "last_index" = some (some (.ref f6))) (l6 : K.lookup f6 = some ⟨oc6, od6, .func (PySem.W.fnOf "last_index" "last_index" (defArgs s_last_index) (defBody s_last_index) (defScope s_last_index) .none kV6 dc6 pm6 an6 cd6 ct6), sl6⟩) (c6 : PySem.W.codeIn K cd6 "last_index" = true) (k6 : PySem.W.keepIn K (.ref f6) = true)
    {od7 an7 : Option Addr} {sl7 : Array (Option Value)} {oc7 kV7 dc7 pm7 cd7 ct7 : Value}
    (a7 : PySem.W.nsIn K mainGlobals "decode_number" = some (some (.ref f7))) (l7 : K.lookup f7 = some ⟨oc7, od7, .func (PySem.W.fnOf "decode_number" "decode_number" (defArgs s_decode_number) (defBody s_decode_number) (defScope s_decode_number) .none kV7 dc7 pm7 an7 cd7 ct7), sl7⟩) (c7 : PySem.W.codeIn K cd7 "decode_number" = true) (k7 : PySem.W.keepIn K (.ref f7) = true)
    {od8 an8 : Option Addr} {sl8 : Array (Option Value)} {oc8 kV8 dc8 pm8 cd8 ct8 : Value}
    (a8 : PySem.W.nsIn K mainGlobals "_law_whole" = some (some (.ref f8))) (l8 : K.lookup f8 = some ⟨oc8, od8, .func (PySem.W.fnOf "_law_whole" "_law_whole" (defArgs s_law_whole) (defBody s_law_whole) (defScope s_law_whole) .none kV8 dc8 pm8 an8 cd8 ct8), sl8⟩) (c8 : PySem.W.codeIn K cd8 "_law_whole" = true) (k8 : PySem.W.keepIn K (.ref f8) = true)
    {od9 an9 : Option Addr} {sl9 : Array (Option Value)} {oc9 kV9 dc9 pm9 cd9 ct9 : Value}
    (a9 : PySem.W.nsIn K mainGlobals "_law_outcome" = some (some (.ref f9))) (l9 : K.lookup f9 = some ⟨oc9, od9, .func (PySem.W.fnOf "_law_outcome" "_law_outcome" (defArgs s_law_outcome) (defBody s_law_outcome) (defScope s_law_outcome) .none kV9 dc9 pm9 an9 cd9 ct9), sl9⟩) (c9 : PySem.W.codeIn K cd9 "_law_outcome" = true) (k9 : PySem.W.keepIn K (.ref f9) = true)
    {od10 an10 : Option Addr} {sl10 : Array (Option Value)} {oc10 kV10 dc10 pm10 cd10 ct10 : Value}
    (a10 : PySem.W.nsIn K mainGlobals "_law_read_at" = some (some (.ref f10))) (l10 : K.lookup f10 = some ⟨oc10, od10, .func (PySem.W.fnOf "_law_read_at" "_law_read_at" (defArgs s_law_read_at) (defBody s_law_read_at) (defScope s_law_read_at) .none kV10 dc10 pm10 an10 cd10 ct10), sl10⟩) (c10 : PySem.W.codeIn K cd10 "_law_read_at" = true) (k10 : PySem.W.keepIn K (.ref f10) = true)
    {od11 an11 : Option Addr} {sl11 : Array (Option Value)} {oc11 kV11 dc11 pm11 cd11 ct11 : Value}
    (a11 : PySem.W.nsIn K mainGlobals "law" = some (some (.ref f11))) (l11 : K.lookup f11 = some ⟨oc11, od11, .func (PySem.W.fnOf "law" "law" (defArgs s_law) (defBody s_law) (defScope s_law) .none kV11 dc11 pm11 an11 cd11 ct11), sl11⟩) (c11 : PySem.W.codeIn K cd11 "law" = true) (k11 : PySem.W.keepIn K (.ref f11) = true)
    {q0 : Addr} (aq0 : PySem.W.nsIn K mainGlobals "QuietError" = some (some (.ref q0)))
    {q2 : Addr} (aq2 : PySem.W.nsIn K mainGlobals "BadArguments" = some (some (.ref q2)))
    {xC0 xI0 xN0 : Addr} {xnm0 xq0 : Str} {xbs0 : List Value} {xsn0 : List Str} {xsub0 : List Value} {xab0 : Bool} {xcol0 : Option Bool} {xdd0 xod0 xan0 : Option Addr} {xk00 xk10 xk20 xk30 xk50 : Option Value} {xsl0 : Array (Option Value)} {xoc0 xkV0 xdc0 xpm0 xcd0 xct0 : Value}
    (xa0 : PySem.W.nsIn K mainGlobals "BadCode" = some (some (.ref xC0)))
    (xl0 : K.lookup xC0 = some (excClassObj xnm0 xq0 xC0 xN0 xbs0 [.ref q0, .type "ValueError", .type "Exception", .type "BaseException", .type "object"] true xsn0 xsub0 xab0 xcol0 xdd0 xk00 xk10 xk20 xk30 xk50 "ValueError.__new__"))
    (xs0 : PySem.W.findIn K (.ref xC0) "__setattr__" = some (some (.builtin "object.__setattr__"))) (xi0 : PySem.W.findIn K (.ref xC0) "__init__" = some (some (.ref xI0))) (xt0 : PySem.W.typeIn K (.ref xI0) = some (.type "function"))
    (xf0 : K.lookup xI0 = some ⟨xoc0, xod0, .func (PySem.W.fnOf "__init__" "BadCode.__init__" (defArgs clsS_BadCode) (defBody clsS_BadCode) (defScope clsS_BadCode) .none xkV0 xdc0 xpm0 xan0 xcd0 xct0), xsl0⟩) (xc0 : PySem.W.codeIn K xcd0 "BadCode.__init__" = true) (xkI0 : PySem.W.keepIn K (.ref xI0) = true)
    (xkC0 : PySem.W.keepIn K (.ref xC0) = true) (xe0 : PySem.W.subIn K (.ref xC0) (.type "BaseException") = some true) (xT0 : PySem.W.typeIn K (.ref xC0) = some (.type "type"))
    (xn0_0 : PySem.W.findIn K (.ref xC0) "at" = some none)
    (xm0_BadCode : PySem.W.subIn K (.ref xC0) (.ref xC0) = some true)
    {xC1 xI1 xN1 : Addr} {xnm1 xq1 : Str} {xbs1 : List Value} {xsn1 : List Str} {xsub1 : List Value} {xab1 : Bool} {xcol1 : Option Bool} {xdd1 xod1 xan1 : Option Addr} {xk01 xk11 xk21 xk31 xk51 : Option Value} {xsl1 : Array (Option Value)} {xoc1 xkV1 xdc1 xpm1 xcd1 xct1 : Value}
    (xa1 : PySem.W.nsIn K mainGlobals "BadProgram" = some (some (.ref xC1)))
    (xl1 : K.lookup xC1 = some (excClassObj xnm1 xq1 xC1 xN1 xbs1 [.ref q0, .type "ValueError", .type "Exception", .type "BaseException", .type "object"] true xsn1 xsub1 xab1 xcol1 xdd1 xk01 xk11 xk21 xk31 xk51 "ValueError.__new__"))
    (xs1 : PySem.W.findIn K (.ref xC1) "__setattr__" = some (some (.builtin "object.__setattr__"))) (xi1 : PySem.W.findIn K (.ref xC1) "__init__" = some (some (.ref xI1))) (xt1 : PySem.W.typeIn K (.ref xI1) = some (.type "function"))
    (xf1 : K.lookup xI1 = some ⟨xoc1, xod1, .func (PySem.W.fnOf "__init__" "BadProgram.__init__" (defArgs clsS_BadProgram) (defBody clsS_BadProgram) (defScope clsS_BadProgram) .none xkV1 xdc1 xpm1 xan1 xcd1 xct1), xsl1⟩) (xc1 : PySem.W.codeIn K xcd1 "BadProgram.__init__" = true) (xkI1 : PySem.W.keepIn K (.ref xI1) = true)
    (xkC1 : PySem.W.keepIn K (.ref xC1) = true) (xe1 : PySem.W.subIn K (.ref xC1) (.type "BaseException") = some true) (xT1 : PySem.W.typeIn K (.ref xC1) = some (.type "type"))
    (xn1_0 : PySem.W.findIn K (.ref xC1) "part" = some none)
    (xn1_1 : PySem.W.findIn K (.ref xC1) "number" = some none)
    (xn1_2 : PySem.W.findIn K (.ref xC1) "place" = some none)
    (xn1_3 : PySem.W.findIn K (.ref xC1) "why" = some none)
    (xm1_BadCode : PySem.W.subIn K (.ref xC1) (.ref xC0) = some false)
    {xC2 xI2 xN2 : Addr} {xnm2 xq2 : Str} {xbs2 : List Value} {xsn2 : List Str} {xsub2 : List Value} {xab2 : Bool} {xcol2 : Option Bool} {xdd2 xod2 xan2 : Option Addr} {xk02 xk12 xk22 xk32 xk52 : Option Value} {xsl2 : Array (Option Value)} {xoc2 xkV2 xdc2 xpm2 xcd2 xct2 : Value}
    (xa2 : PySem.W.nsIn K mainGlobals "BadText" = some (some (.ref xC2)))
    (xl2 : K.lookup xC2 = some (excClassObj xnm2 xq2 xC2 xN2 xbs2 [.ref q0, .type "ValueError", .type "Exception", .type "BaseException", .type "object"] true xsn2 xsub2 xab2 xcol2 xdd2 xk02 xk12 xk22 xk32 xk52 "ValueError.__new__"))
    (xs2 : PySem.W.findIn K (.ref xC2) "__setattr__" = some (some (.builtin "object.__setattr__"))) (xi2 : PySem.W.findIn K (.ref xC2) "__init__" = some (some (.ref xI2))) (xt2 : PySem.W.typeIn K (.ref xI2) = some (.type "function"))
    (xf2 : K.lookup xI2 = some ⟨xoc2, xod2, .func (PySem.W.fnOf "__init__" "BadText.__init__" (defArgs clsS_BadText) (defBody clsS_BadText) (defScope clsS_BadText) .none xkV2 xdc2 xpm2 xan2 xcd2 xct2), xsl2⟩) (xc2 : PySem.W.codeIn K xcd2 "BadText.__init__" = true) (xkI2 : PySem.W.keepIn K (.ref xI2) = true)
    (xkC2 : PySem.W.keepIn K (.ref xC2) = true) (xe2 : PySem.W.subIn K (.ref xC2) (.type "BaseException") = some true) (xT2 : PySem.W.typeIn K (.ref xC2) = some (.type "type"))
    (xn2_0 : PySem.W.findIn K (.ref xC2) "line" = some none)
    (xn2_1 : PySem.W.findIn K (.ref xC2) "why" = some none)
    (xm2_BadCode : PySem.W.subIn K (.ref xC2) (.ref xC0) = some false)
    {xC3 xI3 xN3 : Addr} {xnm3 xq3 : Str} {xbs3 : List Value} {xsn3 : List Str} {xsub3 : List Value} {xab3 : Bool} {xcol3 : Option Bool} {xdd3 xod3 xan3 : Option Addr} {xk03 xk13 xk23 xk33 xk53 : Option Value} {xsl3 : Array (Option Value)} {xoc3 xkV3 xdc3 xpm3 xcd3 xct3 : Value}
    (xa3 : PySem.W.nsIn K mainGlobals "Refused" = some (some (.ref xC3)))
    (xl3 : K.lookup xC3 = some (excClassObj xnm3 xq3 xC3 xN3 xbs3 [.ref q0, .type "ValueError", .type "Exception", .type "BaseException", .type "object"] true xsn3 xsub3 xab3 xcol3 xdd3 xk03 xk13 xk23 xk33 xk53 "ValueError.__new__"))
    (xs3 : PySem.W.findIn K (.ref xC3) "__setattr__" = some (some (.builtin "object.__setattr__"))) (xi3 : PySem.W.findIn K (.ref xC3) "__init__" = some (some (.ref xI3))) (xt3 : PySem.W.typeIn K (.ref xI3) = some (.type "function"))
    (xf3 : K.lookup xI3 = some ⟨xoc3, xod3, .func (PySem.W.fnOf "__init__" "Refused.__init__" (defArgs clsS_Refused) (defBody clsS_Refused) (defScope clsS_Refused) .none xkV3 xdc3 xpm3 xan3 xcd3 xct3), xsl3⟩) (xc3 : PySem.W.codeIn K xcd3 "Refused.__init__" = true) (xkI3 : PySem.W.keepIn K (.ref xI3) = true)
    (xkC3 : PySem.W.keepIn K (.ref xC3) = true) (xe3 : PySem.W.subIn K (.ref xC3) (.type "BaseException") = some true) (xT3 : PySem.W.typeIn K (.ref xC3) = some (.type "type"))
    (xn3_0 : PySem.W.findIn K (.ref xC3) "number" = some none)
    (xn3_1 : PySem.W.findIn K (.ref xC3) "why" = some none)
    (xn3_2 : PySem.W.findIn K (.ref xC3) "walk" = some none)
    (xn3_3 : PySem.W.findIn K (.ref xC3) "other" = some none)
    (xm3_BadCode : PySem.W.subIn K (.ref xC3) (.ref xC0) = some false)
    {xC4 xI4 xN4 : Addr} {xnm4 xq4 : Str} {xbs4 : List Value} {xsn4 : List Str} {xsub4 : List Value} {xab4 : Bool} {xcol4 : Option Bool} {xdd4 xod4 xan4 : Option Addr} {xk04 xk14 xk24 xk34 xk54 : Option Value} {xsl4 : Array (Option Value)} {xoc4 xkV4 xdc4 xpm4 xcd4 xct4 : Value}
    (xa4 : PySem.W.nsIn K mainGlobals "BadPicture" = some (some (.ref xC4)))
    (xl4 : K.lookup xC4 = some (excClassObj xnm4 xq4 xC4 xN4 xbs4 [.ref q0, .type "ValueError", .type "Exception", .type "BaseException", .type "object"] true xsn4 xsub4 xab4 xcol4 xdd4 xk04 xk14 xk24 xk34 xk54 "ValueError.__new__"))
    (xs4 : PySem.W.findIn K (.ref xC4) "__setattr__" = some (some (.builtin "object.__setattr__"))) (xi4 : PySem.W.findIn K (.ref xC4) "__init__" = some (some (.ref xI4))) (xt4 : PySem.W.typeIn K (.ref xI4) = some (.type "function"))
    (xf4 : K.lookup xI4 = some ⟨xoc4, xod4, .func (PySem.W.fnOf "__init__" "BadPicture.__init__" (defArgs clsS_BadPicture) (defBody clsS_BadPicture) (defScope clsS_BadPicture) .none xkV4 xdc4 xpm4 xan4 xcd4 xct4), xsl4⟩) (xc4 : PySem.W.codeIn K xcd4 "BadPicture.__init__" = true) (xkI4 : PySem.W.keepIn K (.ref xI4) = true)
    (xkC4 : PySem.W.keepIn K (.ref xC4) = true) (xe4 : PySem.W.subIn K (.ref xC4) (.type "BaseException") = some true) (xT4 : PySem.W.typeIn K (.ref xC4) = some (.type "type"))
    (xn4_0 : PySem.W.findIn K (.ref xC4) "part" = some none)
    (xn4_1 : PySem.W.findIn K (.ref xC4) "number" = some none)
    (xn4_2 : PySem.W.findIn K (.ref xC4) "why" = some none)
    (xm4_BadCode : PySem.W.subIn K (.ref xC4) (.ref xC0) = some false)
    {xC5 xI5 xN5 : Addr} {xnm5 xq5 : Str} {xbs5 : List Value} {xsn5 : List Str} {xsub5 : List Value} {xab5 : Bool} {xcol5 : Option Bool} {xdd5 xod5 xan5 : Option Addr} {xk05 xk15 xk25 xk35 xk55 : Option Value} {xsl5 : Array (Option Value)} {xoc5 xkV5 xdc5 xpm5 xcd5 xct5 : Value}
    (xa5 : PySem.W.nsIn K mainGlobals "BadImage" = some (some (.ref xC5)))
    (xl5 : K.lookup xC5 = some (excClassObj xnm5 xq5 xC5 xN5 xbs5 [.ref q0, .type "ValueError", .type "Exception", .type "BaseException", .type "object"] true xsn5 xsub5 xab5 xcol5 xdd5 xk05 xk15 xk25 xk35 xk55 "ValueError.__new__"))
    (xs5 : PySem.W.findIn K (.ref xC5) "__setattr__" = some (some (.builtin "object.__setattr__"))) (xi5 : PySem.W.findIn K (.ref xC5) "__init__" = some (some (.ref xI5))) (xt5 : PySem.W.typeIn K (.ref xI5) = some (.type "function"))
    (xf5 : K.lookup xI5 = some ⟨xoc5, xod5, .func (PySem.W.fnOf "__init__" "BadImage.__init__" (defArgs clsS_BadImage) (defBody clsS_BadImage) (defScope clsS_BadImage) .none xkV5 xdc5 xpm5 xan5 xcd5 xct5), xsl5⟩) (xc5 : PySem.W.codeIn K xcd5 "BadImage.__init__" = true) (xkI5 : PySem.W.keepIn K (.ref xI5) = true)
    (xkC5 : PySem.W.keepIn K (.ref xC5) = true) (xe5 : PySem.W.subIn K (.ref xC5) (.type "BaseException") = some true) (xT5 : PySem.W.typeIn K (.ref xC5) = some (.type "type"))
    (xn5_0 : PySem.W.findIn K (.ref xC5) "line" = some none)
    (xn5_1 : PySem.W.findIn K (.ref xC5) "why" = some none)
    (xm5_BadCode : PySem.W.subIn K (.ref xC5) (.ref xC0) = some false)
    {xC6 xI6 xN6 : Addr} {xnm6 xq6 : Str} {xbs6 : List Value} {xsn6 : List Str} {xsub6 : List Value} {xab6 : Bool} {xcol6 : Option Bool} {xdd6 xod6 xan6 : Option Addr} {xk06 xk16 xk26 xk36 xk56 : Option Value} {xsl6 : Array (Option Value)} {xoc6 xkV6 xdc6 xpm6 xcd6 xct6 : Value}
    (xa6 : PySem.W.nsIn K mainGlobals "NoRoom" = some (some (.ref xC6)))
    (xl6 : K.lookup xC6 = some (excClassObj xnm6 xq6 xC6 xN6 xbs6 [.ref q0, .type "ValueError", .type "Exception", .type "BaseException", .type "object"] true xsn6 xsub6 xab6 xcol6 xdd6 xk06 xk16 xk26 xk36 xk56 "ValueError.__new__"))
    (xs6 : PySem.W.findIn K (.ref xC6) "__setattr__" = some (some (.builtin "object.__setattr__"))) (xi6 : PySem.W.findIn K (.ref xC6) "__init__" = some (some (.ref xI6))) (xt6 : PySem.W.typeIn K (.ref xI6) = some (.type "function"))
    (xf6 : K.lookup xI6 = some ⟨xoc6, xod6, .func (PySem.W.fnOf "__init__" "NoRoom.__init__" (defArgs clsS_NoRoom) (defBody clsS_NoRoom) (defScope clsS_NoRoom) .none xkV6 xdc6 xpm6 xan6 xcd6 xct6), xsl6⟩) (xc6 : PySem.W.codeIn K xcd6 "NoRoom.__init__" = true) (xkI6 : PySem.W.keepIn K (.ref xI6) = true)
    (xkC6 : PySem.W.keepIn K (.ref xC6) = true) (xe6 : PySem.W.subIn K (.ref xC6) (.type "BaseException") = some true) (xT6 : PySem.W.typeIn K (.ref xC6) = some (.type "type"))
    (xn6_0 : PySem.W.findIn K (.ref xC6) "words" = some none)
    (xm6_BadCode : PySem.W.subIn K (.ref xC6) (.ref xC0) = some false)
    {xC7 xI7 xN7 : Addr} {xnm7 xq7 : Str} {xbs7 : List Value} {xsn7 : List Str} {xsub7 : List Value} {xab7 : Bool} {xcol7 : Option Bool} {xdd7 xod7 xan7 : Option Addr} {xk07 xk17 xk27 xk37 xk57 : Option Value} {xsl7 : Array (Option Value)} {xoc7 xkV7 xdc7 xpm7 xcd7 xct7 : Value}
    (xa7 : PySem.W.nsIn K mainGlobals "NoObject" = some (some (.ref xC7)))
    (xl7 : K.lookup xC7 = some (excClassObj xnm7 xq7 xC7 xN7 xbs7 [.ref q0, .type "ValueError", .type "Exception", .type "BaseException", .type "object"] true xsn7 xsub7 xab7 xcol7 xdd7 xk07 xk17 xk27 xk37 xk57 "ValueError.__new__"))
    (xs7 : PySem.W.findIn K (.ref xC7) "__setattr__" = some (some (.builtin "object.__setattr__"))) (xi7 : PySem.W.findIn K (.ref xC7) "__init__" = some (some (.ref xI7))) (xt7 : PySem.W.typeIn K (.ref xI7) = some (.type "function"))
    (xf7 : K.lookup xI7 = some ⟨xoc7, xod7, .func (PySem.W.fnOf "__init__" "NoObject.__init__" (defArgs clsS_NoObject) (defBody clsS_NoObject) (defScope clsS_NoObject) .none xkV7 xdc7 xpm7 xan7 xcd7 xct7), xsl7⟩) (xc7 : PySem.W.codeIn K xcd7 "NoObject.__init__" = true) (xkI7 : PySem.W.keepIn K (.ref xI7) = true)
    (xkC7 : PySem.W.keepIn K (.ref xC7) = true) (xe7 : PySem.W.subIn K (.ref xC7) (.type "BaseException") = some true) (xT7 : PySem.W.typeIn K (.ref xC7) = some (.type "type"))
    (xn7_0 : PySem.W.findIn K (.ref xC7) "number" = some none)
    (xm7_BadCode : PySem.W.subIn K (.ref xC7) (.ref xC0) = some false)
    (qe_BadCode : PySem.W.subIn K (.ref xC0) (.type "BaseException") = some true) (qi_BadCode : PySem.W.isClsIn K xC0 = true) (qt_BadCode : PySem.W.typeIn K (.ref xC0) = some (.type "type"))
    (yg_BadCode : PySem.W.findIn K (.ref xC0) "__getattribute__" = some (some (.builtin "BaseException.__getattribute__"))) (yk_BadCode : PySem.W.findIn K (.ref xC0) "__getattr__" = some none) (ys_BadCode : PySem.W.subIn K (.ref xC0) (.type "BaseException") = some true) (yd_BadCode : PySem.W.hasDictIn K xC0 = true) (ya_BadCode : PySem.W.findIn K (.ref xC0) "__class__" = some (some (.builtin "object.__class__"))) (ym_BadCode : PySem.W.mroIn K xC0 (.type "object") = some true)
    (yi_QuietError_BadCode : PySem.W.kitOne K (.ref xC0) (.ref q0) = some true)
    (yi_NoObject_BadCode : PySem.W.kitOne K (.ref xC0) (.ref xC7) = some false)
    (yi_NoRoom_BadCode : PySem.W.kitOne K (.ref xC0) (.ref xC6) = some false)
    (yi_BadImage_BadCode : PySem.W.kitOne K (.ref xC0) (.ref xC5) = some false)
    (yi_BadPicture_BadCode : PySem.W.kitOne K (.ref xC0) (.ref xC4) = some false)
    (yi_BadArguments_BadCode : PySem.W.kitOne K (.ref xC0) (.ref q2) = some false)
    (yi_Refused_BadCode : PySem.W.kitOne K (.ref xC0) (.ref xC3) = some false)
    (yi_BadText_BadCode : PySem.W.kitOne K (.ref xC0) (.ref xC2) = some false)
    (yi_BadProgram_BadCode : PySem.W.kitOne K (.ref xC0) (.ref xC1) = some false)
    (yi_BadCode_BadCode : PySem.W.kitOne K (.ref xC0) (.ref xC0) = some true)
    (yi_ValueError_BadCode : PySem.W.kitOne K (.ref xC0) (.type "ValueError") = some true)
    (yg_BadProgram : PySem.W.findIn K (.ref xC1) "__getattribute__" = some (some (.builtin "BaseException.__getattribute__"))) (yk_BadProgram : PySem.W.findIn K (.ref xC1) "__getattr__" = some none) (ys_BadProgram : PySem.W.subIn K (.ref xC1) (.type "BaseException") = some true) (yd_BadProgram : PySem.W.hasDictIn K xC1 = true) (ya_BadProgram : PySem.W.findIn K (.ref xC1) "__class__" = some (some (.builtin "object.__class__"))) (ym_BadProgram : PySem.W.mroIn K xC1 (.type "object") = some true)
    (yi_QuietError_BadProgram : PySem.W.kitOne K (.ref xC1) (.ref q0) = some true)
    (yi_NoObject_BadProgram : PySem.W.kitOne K (.ref xC1) (.ref xC7) = some false)
    (yi_NoRoom_BadProgram : PySem.W.kitOne K (.ref xC1) (.ref xC6) = some false)
    (yi_BadImage_BadProgram : PySem.W.kitOne K (.ref xC1) (.ref xC5) = some false)
    (yi_BadPicture_BadProgram : PySem.W.kitOne K (.ref xC1) (.ref xC4) = some false)
    (yi_BadArguments_BadProgram : PySem.W.kitOne K (.ref xC1) (.ref q2) = some false)
    (yi_Refused_BadProgram : PySem.W.kitOne K (.ref xC1) (.ref xC3) = some false)
    (yi_BadText_BadProgram : PySem.W.kitOne K (.ref xC1) (.ref xC2) = some false)
    (yi_BadProgram_BadProgram : PySem.W.kitOne K (.ref xC1) (.ref xC1) = some true)
    (yi_BadCode_BadProgram : PySem.W.kitOne K (.ref xC1) (.ref xC0) = some false)
    (yi_ValueError_BadProgram : PySem.W.kitOne K (.ref xC1) (.type "ValueError") = some true)
    (yg_BadText : PySem.W.findIn K (.ref xC2) "__getattribute__" = some (some (.builtin "BaseException.__getattribute__"))) (yk_BadText : PySem.W.findIn K (.ref xC2) "__getattr__" = some none) (ys_BadText : PySem.W.subIn K (.ref xC2) (.type "BaseException") = some true) (yd_BadText : PySem.W.hasDictIn K xC2 = true) (ya_BadText : PySem.W.findIn K (.ref xC2) "__class__" = some (some (.builtin "object.__class__"))) (ym_BadText : PySem.W.mroIn K xC2 (.type "object") = some true)
    (yi_QuietError_BadText : PySem.W.kitOne K (.ref xC2) (.ref q0) = some true)
    (yi_NoObject_BadText : PySem.W.kitOne K (.ref xC2) (.ref xC7) = some false)
    (yi_NoRoom_BadText : PySem.W.kitOne K (.ref xC2) (.ref xC6) = some false)
    (yi_BadImage_BadText : PySem.W.kitOne K (.ref xC2) (.ref xC5) = some false)
    (yi_BadPicture_BadText : PySem.W.kitOne K (.ref xC2) (.ref xC4) = some false)
    (yi_BadArguments_BadText : PySem.W.kitOne K (.ref xC2) (.ref q2) = some false)
    (yi_Refused_BadText : PySem.W.kitOne K (.ref xC2) (.ref xC3) = some false)
    (yi_BadText_BadText : PySem.W.kitOne K (.ref xC2) (.ref xC2) = some true)
    (yi_BadProgram_BadText : PySem.W.kitOne K (.ref xC2) (.ref xC1) = some false)
    (yi_BadCode_BadText : PySem.W.kitOne K (.ref xC2) (.ref xC0) = some false)
    (yi_ValueError_BadText : PySem.W.kitOne K (.ref xC2) (.type "ValueError") = some true)
    (yg_Refused : PySem.W.findIn K (.ref xC3) "__getattribute__" = some (some (.builtin "BaseException.__getattribute__"))) (yk_Refused : PySem.W.findIn K (.ref xC3) "__getattr__" = some none) (ys_Refused : PySem.W.subIn K (.ref xC3) (.type "BaseException") = some true) (yd_Refused : PySem.W.hasDictIn K xC3 = true) (ya_Refused : PySem.W.findIn K (.ref xC3) "__class__" = some (some (.builtin "object.__class__"))) (ym_Refused : PySem.W.mroIn K xC3 (.type "object") = some true)
    (yi_QuietError_Refused : PySem.W.kitOne K (.ref xC3) (.ref q0) = some true)
    (yi_NoObject_Refused : PySem.W.kitOne K (.ref xC3) (.ref xC7) = some false)
    (yi_NoRoom_Refused : PySem.W.kitOne K (.ref xC3) (.ref xC6) = some false)
    (yi_BadImage_Refused : PySem.W.kitOne K (.ref xC3) (.ref xC5) = some false)
    (yi_BadPicture_Refused : PySem.W.kitOne K (.ref xC3) (.ref xC4) = some false)
    (yi_BadArguments_Refused : PySem.W.kitOne K (.ref xC3) (.ref q2) = some false)
    (yi_Refused_Refused : PySem.W.kitOne K (.ref xC3) (.ref xC3) = some true)
    (yi_BadText_Refused : PySem.W.kitOne K (.ref xC3) (.ref xC2) = some false)
    (yi_BadProgram_Refused : PySem.W.kitOne K (.ref xC3) (.ref xC1) = some false)
    (yi_BadCode_Refused : PySem.W.kitOne K (.ref xC3) (.ref xC0) = some false)
    (yi_ValueError_Refused : PySem.W.kitOne K (.ref xC3) (.type "ValueError") = some true)
    (yg_BadPicture : PySem.W.findIn K (.ref xC4) "__getattribute__" = some (some (.builtin "BaseException.__getattribute__"))) (yk_BadPicture : PySem.W.findIn K (.ref xC4) "__getattr__" = some none) (ys_BadPicture : PySem.W.subIn K (.ref xC4) (.type "BaseException") = some true) (yd_BadPicture : PySem.W.hasDictIn K xC4 = true) (ya_BadPicture : PySem.W.findIn K (.ref xC4) "__class__" = some (some (.builtin "object.__class__"))) (ym_BadPicture : PySem.W.mroIn K xC4 (.type "object") = some true)
    (yi_QuietError_BadPicture : PySem.W.kitOne K (.ref xC4) (.ref q0) = some true)
    (yi_NoObject_BadPicture : PySem.W.kitOne K (.ref xC4) (.ref xC7) = some false)
    (yi_NoRoom_BadPicture : PySem.W.kitOne K (.ref xC4) (.ref xC6) = some false)
    (yi_BadImage_BadPicture : PySem.W.kitOne K (.ref xC4) (.ref xC5) = some false)
    (yi_BadPicture_BadPicture : PySem.W.kitOne K (.ref xC4) (.ref xC4) = some true)
    (yi_BadArguments_BadPicture : PySem.W.kitOne K (.ref xC4) (.ref q2) = some false)
    (yi_Refused_BadPicture : PySem.W.kitOne K (.ref xC4) (.ref xC3) = some false)
    (yi_BadText_BadPicture : PySem.W.kitOne K (.ref xC4) (.ref xC2) = some false)
    (yi_BadProgram_BadPicture : PySem.W.kitOne K (.ref xC4) (.ref xC1) = some false)
    (yi_BadCode_BadPicture : PySem.W.kitOne K (.ref xC4) (.ref xC0) = some false)
    (yi_ValueError_BadPicture : PySem.W.kitOne K (.ref xC4) (.type "ValueError") = some true)
    (yg_BadImage : PySem.W.findIn K (.ref xC5) "__getattribute__" = some (some (.builtin "BaseException.__getattribute__"))) (yk_BadImage : PySem.W.findIn K (.ref xC5) "__getattr__" = some none) (ys_BadImage : PySem.W.subIn K (.ref xC5) (.type "BaseException") = some true) (yd_BadImage : PySem.W.hasDictIn K xC5 = true) (ya_BadImage : PySem.W.findIn K (.ref xC5) "__class__" = some (some (.builtin "object.__class__"))) (ym_BadImage : PySem.W.mroIn K xC5 (.type "object") = some true)
    (yi_QuietError_BadImage : PySem.W.kitOne K (.ref xC5) (.ref q0) = some true)
    (yi_NoObject_BadImage : PySem.W.kitOne K (.ref xC5) (.ref xC7) = some false)
    (yi_NoRoom_BadImage : PySem.W.kitOne K (.ref xC5) (.ref xC6) = some false)
    (yi_BadImage_BadImage : PySem.W.kitOne K (.ref xC5) (.ref xC5) = some true)
    (yi_BadPicture_BadImage : PySem.W.kitOne K (.ref xC5) (.ref xC4) = some false)
    (yi_BadArguments_BadImage : PySem.W.kitOne K (.ref xC5) (.ref q2) = some false)
    (yi_Refused_BadImage : PySem.W.kitOne K (.ref xC5) (.ref xC3) = some false)
    (yi_BadText_BadImage : PySem.W.kitOne K (.ref xC5) (.ref xC2) = some false)
    (yi_BadProgram_BadImage : PySem.W.kitOne K (.ref xC5) (.ref xC1) = some false)
    (yi_BadCode_BadImage : PySem.W.kitOne K (.ref xC5) (.ref xC0) = some false)
    (yi_ValueError_BadImage : PySem.W.kitOne K (.ref xC5) (.type "ValueError") = some true)
    (yg_NoRoom : PySem.W.findIn K (.ref xC6) "__getattribute__" = some (some (.builtin "BaseException.__getattribute__"))) (yk_NoRoom : PySem.W.findIn K (.ref xC6) "__getattr__" = some none) (ys_NoRoom : PySem.W.subIn K (.ref xC6) (.type "BaseException") = some true) (yd_NoRoom : PySem.W.hasDictIn K xC6 = true) (ya_NoRoom : PySem.W.findIn K (.ref xC6) "__class__" = some (some (.builtin "object.__class__"))) (ym_NoRoom : PySem.W.mroIn K xC6 (.type "object") = some true)
    (yi_QuietError_NoRoom : PySem.W.kitOne K (.ref xC6) (.ref q0) = some true)
    (yi_NoObject_NoRoom : PySem.W.kitOne K (.ref xC6) (.ref xC7) = some false)
    (yi_NoRoom_NoRoom : PySem.W.kitOne K (.ref xC6) (.ref xC6) = some true)
    (yi_BadImage_NoRoom : PySem.W.kitOne K (.ref xC6) (.ref xC5) = some false)
    (yi_BadPicture_NoRoom : PySem.W.kitOne K (.ref xC6) (.ref xC4) = some false)
    (yi_BadArguments_NoRoom : PySem.W.kitOne K (.ref xC6) (.ref q2) = some false)
    (yi_Refused_NoRoom : PySem.W.kitOne K (.ref xC6) (.ref xC3) = some false)
    (yi_BadText_NoRoom : PySem.W.kitOne K (.ref xC6) (.ref xC2) = some false)
    (yi_BadProgram_NoRoom : PySem.W.kitOne K (.ref xC6) (.ref xC1) = some false)
    (yi_BadCode_NoRoom : PySem.W.kitOne K (.ref xC6) (.ref xC0) = some false)
    (yi_ValueError_NoRoom : PySem.W.kitOne K (.ref xC6) (.type "ValueError") = some true)
    (yg_NoObject : PySem.W.findIn K (.ref xC7) "__getattribute__" = some (some (.builtin "BaseException.__getattribute__"))) (yk_NoObject : PySem.W.findIn K (.ref xC7) "__getattr__" = some none) (ys_NoObject : PySem.W.subIn K (.ref xC7) (.type "BaseException") = some true) (yd_NoObject : PySem.W.hasDictIn K xC7 = true) (ya_NoObject : PySem.W.findIn K (.ref xC7) "__class__" = some (some (.builtin "object.__class__"))) (ym_NoObject : PySem.W.mroIn K xC7 (.type "object") = some true)
    (yi_QuietError_NoObject : PySem.W.kitOne K (.ref xC7) (.ref q0) = some true)
    (yi_NoObject_NoObject : PySem.W.kitOne K (.ref xC7) (.ref xC7) = some true)
    (yi_NoRoom_NoObject : PySem.W.kitOne K (.ref xC7) (.ref xC6) = some false)
    (yi_BadImage_NoObject : PySem.W.kitOne K (.ref xC7) (.ref xC5) = some false)
    (yi_BadPicture_NoObject : PySem.W.kitOne K (.ref xC7) (.ref xC4) = some false)
    (yi_BadArguments_NoObject : PySem.W.kitOne K (.ref xC7) (.ref q2) = some false)
    (yi_Refused_NoObject : PySem.W.kitOne K (.ref xC7) (.ref xC3) = some false)
    (yi_BadText_NoObject : PySem.W.kitOne K (.ref xC7) (.ref xC2) = some false)
    (yi_BadProgram_NoObject : PySem.W.kitOne K (.ref xC7) (.ref xC1) = some false)
    (yi_BadCode_NoObject : PySem.W.kitOne K (.ref xC7) (.ref xC0) = some false)
    (yi_ValueError_NoObject : PySem.W.kitOne K (.ref xC7) (.type "ValueError") = some true)
    (yg_BadArguments : PySem.W.findIn K (.ref q2) "__getattribute__" = some (some (.builtin "BaseException.__getattribute__"))) (yk_BadArguments : PySem.W.findIn K (.ref q2) "__getattr__" = some none) (ys_BadArguments : PySem.W.subIn K (.ref q2) (.type "BaseException") = some true) (yd_BadArguments : PySem.W.hasDictIn K q2 = true) (ya_BadArguments : PySem.W.findIn K (.ref q2) "__class__" = some (some (.builtin "object.__class__"))) (ym_BadArguments : PySem.W.mroIn K q2 (.type "object") = some true)
    (yi_QuietError_BadArguments : PySem.W.kitOne K (.ref q2) (.ref q0) = some true)
    (yi_NoObject_BadArguments : PySem.W.kitOne K (.ref q2) (.ref xC7) = some false)
    (yi_NoRoom_BadArguments : PySem.W.kitOne K (.ref q2) (.ref xC6) = some false)
    (yi_BadImage_BadArguments : PySem.W.kitOne K (.ref q2) (.ref xC5) = some false)
    (yi_BadPicture_BadArguments : PySem.W.kitOne K (.ref q2) (.ref xC4) = some false)
    (yi_BadArguments_BadArguments : PySem.W.kitOne K (.ref q2) (.ref q2) = some true)
    (yi_Refused_BadArguments : PySem.W.kitOne K (.ref q2) (.ref xC3) = some false)
    (yi_BadText_BadArguments : PySem.W.kitOne K (.ref q2) (.ref xC2) = some false)
    (yi_BadProgram_BadArguments : PySem.W.kitOne K (.ref q2) (.ref xC1) = some false)
    (yi_BadCode_BadArguments : PySem.W.kitOne K (.ref q2) (.ref xC0) = some false)
    (yi_ValueError_BadArguments : PySem.W.kitOne K (.ref q2) (.type "ValueError") = some true)
    (yx_BadArguments : excInL K q2 [.type "ValueError", .type "Exception", .type "BaseException", .type "object"] "ValueError.__new__" = true) (yp_BadArguments : PySem.W.keepIn K (.ref q2) = true)
    (yN : PySem.W.specialIn K (.builtin "object.__class__") "__get__" = some (some (.builtin "getset_descriptor.__get__"))) (yT : PySem.W.takesIn K (.builtin "object.__class__") = some true)
    (z0 : PySem.W.nsIn K mainGlobals "ValueError" = some none)
    (z1 : PySem.W.nsIn K mainGlobals "bool" = some none)
    (z2 : PySem.W.nsIn K mainGlobals "int" = some none)
    (z3 : PySem.W.nsIn K mainGlobals "isinstance" = some none)
    (z4 : PySem.W.nsIn K mainGlobals "len" = some none)
    (z5 : PySem.W.nsIn K mainGlobals "list" = some none)
    (z6 : PySem.W.nsIn K mainGlobals "range" = some none)
    (z7 : PySem.W.nsIn K mainGlobals "tuple" = some none)
    : Tx w K mg :=
  { d_law_cell := ⟨f0, _, fun_mk (st := s_law_cell) l0 c0 k0, PySem.W.mg_of X G a0⟩
    d_law_classes := ⟨f1, _, fun_mk (st := s_law_classes) l1 c1 k1, PySem.W.mg_of X G a1⟩
    d_law_apart := ⟨f2, _, fun_mk (st := s_law_apart) l2 c2 k2, PySem.W.mg_of X G a2⟩
    d_law_more_errors_kept := ⟨f3, _, fun_mk (st := s_law_more_errors_kept) l3 c3 k3, PySem.W.mg_of X G a3⟩
    d_law_errors_kept := ⟨f4, _, fun_mk (st := s_law_errors_kept) l4 c4 k4, PySem.W.mg_of X G a4⟩
    d_law_digits := ⟨f5, _, fun_mk (st := s_law_digits) l5 c5 k5, PySem.W.mg_of X G a5⟩
    d_last_index := ⟨f6, _, fun_mk (st := s_last_index) l6 c6 k6, PySem.W.mg_of X G a6⟩
    d_decode_number := ⟨f7, _, fun_mk (st := s_decode_number) l7 c7 k7, PySem.W.mg_of X G a7⟩
    d_law_whole := ⟨f8, _, fun_mk (st := s_law_whole) l8 c8 k8, PySem.W.mg_of X G a8⟩
    d_law_outcome := ⟨f9, _, fun_mk (st := s_law_outcome) l9 c9 k9, PySem.W.mg_of X G a9⟩
    d_law_read_at := ⟨f10, _, fun_mk (st := s_law_read_at) l10 c10 k10, PySem.W.mg_of X G a10⟩
    d_law := ⟨f11, _, fun_mk (st := s_law) l11 c11 k11, PySem.W.mg_of X G a11⟩
    x_BadCode := ⟨xC0, xI0, _, PySem.W.mg_of X G xa0, ⟨⟨_, _, _, _, _, _, _, _, _, _, _, _, _, _, _, xl0, rfl⟩, xs0, xe0, xT0, xkC0⟩, (all_cons xn0_0 all_nil), xi0, xt0, fun_mk (st := clsS_BadCode) xf0 xc0 xkI0⟩
    x_BadProgram := ⟨xC1, xI1, _, PySem.W.mg_of X G xa1, ⟨⟨_, _, _, _, _, _, _, _, _, _, _, _, _, _, _, xl1, rfl⟩, xs1, xe1, xT1, xkC1⟩, (all_cons xn1_0 (all_cons xn1_1 (all_cons xn1_2 (all_cons xn1_3 all_nil)))), xi1, xt1, fun_mk (st := clsS_BadProgram) xf1 xc1 xkI1⟩
    x_BadText := ⟨xC2, xI2, _, PySem.W.mg_of X G xa2, ⟨⟨_, _, _, _, _, _, _, _, _, _, _, _, _, _, _, xl2, rfl⟩, xs2, xe2, xT2, xkC2⟩, (all_cons xn2_0 (all_cons xn2_1 all_nil)), xi2, xt2, fun_mk (st := clsS_BadText) xf2 xc2 xkI2⟩
    x_Refused := ⟨xC3, xI3, _, PySem.W.mg_of X G xa3, ⟨⟨_, _, _, _, _, _, _, _, _, _, _, _, _, _, _, xl3, rfl⟩, xs3, xe3, xT3, xkC3⟩, (all_cons xn3_0 (all_cons xn3_1 (all_cons xn3_2 (all_cons xn3_3 all_nil)))), xi3, xt3, fun_mk (st := clsS_Refused) xf3 xc3 xkI3⟩
    x_BadPicture := ⟨xC4, xI4, _, PySem.W.mg_of X G xa4, ⟨⟨_, _, _, _, _, _, _, _, _, _, _, _, _, _, _, xl4, rfl⟩, xs4, xe4, xT4, xkC4⟩, (all_cons xn4_0 (all_cons xn4_1 (all_cons xn4_2 all_nil))), xi4, xt4, fun_mk (st := clsS_BadPicture) xf4 xc4 xkI4⟩
    x_BadImage := ⟨xC5, xI5, _, PySem.W.mg_of X G xa5, ⟨⟨_, _, _, _, _, _, _, _, _, _, _, _, _, _, _, xl5, rfl⟩, xs5, xe5, xT5, xkC5⟩, (all_cons xn5_0 (all_cons xn5_1 all_nil)), xi5, xt5, fun_mk (st := clsS_BadImage) xf5 xc5 xkI5⟩
    x_NoRoom := ⟨xC6, xI6, _, PySem.W.mg_of X G xa6, ⟨⟨_, _, _, _, _, _, _, _, _, _, _, _, _, _, _, xl6, rfl⟩, xs6, xe6, xT6, xkC6⟩, (all_cons xn6_0 all_nil), xi6, xt6, fun_mk (st := clsS_NoRoom) xf6 xc6 xkI6⟩
    x_NoObject := ⟨xC7, xI7, _, PySem.W.mg_of X G xa7, ⟨⟨_, _, _, _, _, _, _, _, _, _, _, _, _, _, _, xl7, rfl⟩, xs7, xe7, xT7, xkC7⟩, (all_cons xn7_0 all_nil), xi7, xt7, fun_mk (st := clsS_NoObject) xf7 xc7 xkI7⟩
    y_BadCode := ⟨xC0, PySem.W.mg_of X G xa0, ⟨yg_BadCode, yk_BadCode, ys_BadCode, yd_BadCode, ya_BadCode, yN, yT, ym_BadCode⟩, (all_cons xn0_0 all_nil)⟩
    i_QuietError_BadCode := ⟨xC0, q0, PySem.W.mg_of X G xa0, PySem.W.mg_of X G aq0, ⟨yg_BadCode, yk_BadCode, ys_BadCode, yd_BadCode, ya_BadCode, yN, yT, ym_BadCode⟩, yi_QuietError_BadCode⟩
    i_NoObject_BadCode := ⟨xC0, xC7, PySem.W.mg_of X G xa0, PySem.W.mg_of X G xa7, ⟨yg_BadCode, yk_BadCode, ys_BadCode, yd_BadCode, ya_BadCode, yN, yT, ym_BadCode⟩, yi_NoObject_BadCode⟩
    i_NoRoom_BadCode := ⟨xC0, xC6, PySem.W.mg_of X G xa0, PySem.W.mg_of X G xa6, ⟨yg_BadCode, yk_BadCode, ys_BadCode, yd_BadCode, ya_BadCode, yN, yT, ym_BadCode⟩, yi_NoRoom_BadCode⟩
    i_BadImage_BadCode := ⟨xC0, xC5, PySem.W.mg_of X G xa0, PySem.W.mg_of X G xa5, ⟨yg_BadCode, yk_BadCode, ys_BadCode, yd_BadCode, ya_BadCode, yN, yT, ym_BadCode⟩, yi_BadImage_BadCode⟩
    i_BadPicture_BadCode := ⟨xC0, xC4, PySem.W.mg_of X G xa0, PySem.W.mg_of X G xa4, ⟨yg_BadCode, yk_BadCode, ys_BadCode, yd_BadCode, ya_BadCode, yN, yT, ym_BadCode⟩, yi_BadPicture_BadCode⟩
    i_BadArguments_BadCode := ⟨xC0, q2, PySem.W.mg_of X G xa0, PySem.W.mg_of X G aq2, ⟨yg_BadCode, yk_BadCode, ys_BadCode, yd_BadCode, ya_BadCode, yN, yT, ym_BadCode⟩, yi_BadArguments_BadCode⟩
    i_Refused_BadCode := ⟨xC0, xC3, PySem.W.mg_of X G xa0, PySem.W.mg_of X G xa3, ⟨yg_BadCode, yk_BadCode, ys_BadCode, yd_BadCode, ya_BadCode, yN, yT, ym_BadCode⟩, yi_Refused_BadCode⟩
    i_BadText_BadCode := ⟨xC0, xC2, PySem.W.mg_of X G xa0, PySem.W.mg_of X G xa2, ⟨yg_BadCode, yk_BadCode, ys_BadCode, yd_BadCode, ya_BadCode, yN, yT, ym_BadCode⟩, yi_BadText_BadCode⟩
    i_BadProgram_BadCode := ⟨xC0, xC1, PySem.W.mg_of X G xa0, PySem.W.mg_of X G xa1, ⟨yg_BadCode, yk_BadCode, ys_BadCode, yd_BadCode, ya_BadCode, yN, yT, ym_BadCode⟩, yi_BadProgram_BadCode⟩
    i_BadCode_BadCode := ⟨xC0, xC0, PySem.W.mg_of X G xa0, PySem.W.mg_of X G xa0, ⟨yg_BadCode, yk_BadCode, ys_BadCode, yd_BadCode, ya_BadCode, yN, yT, ym_BadCode⟩, yi_BadCode_BadCode⟩
    i_ValueError_BadCode := ⟨xC0, PySem.W.mg_of X G xa0, ⟨yg_BadCode, yk_BadCode, ys_BadCode, yd_BadCode, ya_BadCode, yN, yT, ym_BadCode⟩, yi_ValueError_BadCode⟩
    y_BadProgram := ⟨xC1, PySem.W.mg_of X G xa1, ⟨yg_BadProgram, yk_BadProgram, ys_BadProgram, yd_BadProgram, ya_BadProgram, yN, yT, ym_BadProgram⟩, (all_cons xn1_0 (all_cons xn1_1 (all_cons xn1_2 (all_cons xn1_3 all_nil))))⟩
    i_QuietError_BadProgram := ⟨xC1, q0, PySem.W.mg_of X G xa1, PySem.W.mg_of X G aq0, ⟨yg_BadProgram, yk_BadProgram, ys_BadProgram, yd_BadProgram, ya_BadProgram, yN, yT, ym_BadProgram⟩, yi_QuietError_BadProgram⟩
    i_NoObject_BadProgram := ⟨xC1, xC7, PySem.W.mg_of X G xa1, PySem.W.mg_of X G xa7, ⟨yg_BadProgram, yk_BadProgram, ys_BadProgram, yd_BadProgram, ya_BadProgram, yN, yT, ym_BadProgram⟩, yi_NoObject_BadProgram⟩
    i_NoRoom_BadProgram := ⟨xC1, xC6, PySem.W.mg_of X G xa1, PySem.W.mg_of X G xa6, ⟨yg_BadProgram, yk_BadProgram, ys_BadProgram, yd_BadProgram, ya_BadProgram, yN, yT, ym_BadProgram⟩, yi_NoRoom_BadProgram⟩
    i_BadImage_BadProgram := ⟨xC1, xC5, PySem.W.mg_of X G xa1, PySem.W.mg_of X G xa5, ⟨yg_BadProgram, yk_BadProgram, ys_BadProgram, yd_BadProgram, ya_BadProgram, yN, yT, ym_BadProgram⟩, yi_BadImage_BadProgram⟩
    i_BadPicture_BadProgram := ⟨xC1, xC4, PySem.W.mg_of X G xa1, PySem.W.mg_of X G xa4, ⟨yg_BadProgram, yk_BadProgram, ys_BadProgram, yd_BadProgram, ya_BadProgram, yN, yT, ym_BadProgram⟩, yi_BadPicture_BadProgram⟩
    i_BadArguments_BadProgram := ⟨xC1, q2, PySem.W.mg_of X G xa1, PySem.W.mg_of X G aq2, ⟨yg_BadProgram, yk_BadProgram, ys_BadProgram, yd_BadProgram, ya_BadProgram, yN, yT, ym_BadProgram⟩, yi_BadArguments_BadProgram⟩
    i_Refused_BadProgram := ⟨xC1, xC3, PySem.W.mg_of X G xa1, PySem.W.mg_of X G xa3, ⟨yg_BadProgram, yk_BadProgram, ys_BadProgram, yd_BadProgram, ya_BadProgram, yN, yT, ym_BadProgram⟩, yi_Refused_BadProgram⟩
    i_BadText_BadProgram := ⟨xC1, xC2, PySem.W.mg_of X G xa1, PySem.W.mg_of X G xa2, ⟨yg_BadProgram, yk_BadProgram, ys_BadProgram, yd_BadProgram, ya_BadProgram, yN, yT, ym_BadProgram⟩, yi_BadText_BadProgram⟩
    i_BadProgram_BadProgram := ⟨xC1, xC1, PySem.W.mg_of X G xa1, PySem.W.mg_of X G xa1, ⟨yg_BadProgram, yk_BadProgram, ys_BadProgram, yd_BadProgram, ya_BadProgram, yN, yT, ym_BadProgram⟩, yi_BadProgram_BadProgram⟩
    i_BadCode_BadProgram := ⟨xC1, xC0, PySem.W.mg_of X G xa1, PySem.W.mg_of X G xa0, ⟨yg_BadProgram, yk_BadProgram, ys_BadProgram, yd_BadProgram, ya_BadProgram, yN, yT, ym_BadProgram⟩, yi_BadCode_BadProgram⟩
    i_ValueError_BadProgram := ⟨xC1, PySem.W.mg_of X G xa1, ⟨yg_BadProgram, yk_BadProgram, ys_BadProgram, yd_BadProgram, ya_BadProgram, yN, yT, ym_BadProgram⟩, yi_ValueError_BadProgram⟩
    y_BadText := ⟨xC2, PySem.W.mg_of X G xa2, ⟨yg_BadText, yk_BadText, ys_BadText, yd_BadText, ya_BadText, yN, yT, ym_BadText⟩, (all_cons xn2_0 (all_cons xn2_1 all_nil))⟩
    i_QuietError_BadText := ⟨xC2, q0, PySem.W.mg_of X G xa2, PySem.W.mg_of X G aq0, ⟨yg_BadText, yk_BadText, ys_BadText, yd_BadText, ya_BadText, yN, yT, ym_BadText⟩, yi_QuietError_BadText⟩
    i_NoObject_BadText := ⟨xC2, xC7, PySem.W.mg_of X G xa2, PySem.W.mg_of X G xa7, ⟨yg_BadText, yk_BadText, ys_BadText, yd_BadText, ya_BadText, yN, yT, ym_BadText⟩, yi_NoObject_BadText⟩
    i_NoRoom_BadText := ⟨xC2, xC6, PySem.W.mg_of X G xa2, PySem.W.mg_of X G xa6, ⟨yg_BadText, yk_BadText, ys_BadText, yd_BadText, ya_BadText, yN, yT, ym_BadText⟩, yi_NoRoom_BadText⟩
    i_BadImage_BadText := ⟨xC2, xC5, PySem.W.mg_of X G xa2, PySem.W.mg_of X G xa5, ⟨yg_BadText, yk_BadText, ys_BadText, yd_BadText, ya_BadText, yN, yT, ym_BadText⟩, yi_BadImage_BadText⟩
    i_BadPicture_BadText := ⟨xC2, xC4, PySem.W.mg_of X G xa2, PySem.W.mg_of X G xa4, ⟨yg_BadText, yk_BadText, ys_BadText, yd_BadText, ya_BadText, yN, yT, ym_BadText⟩, yi_BadPicture_BadText⟩
    i_BadArguments_BadText := ⟨xC2, q2, PySem.W.mg_of X G xa2, PySem.W.mg_of X G aq2, ⟨yg_BadText, yk_BadText, ys_BadText, yd_BadText, ya_BadText, yN, yT, ym_BadText⟩, yi_BadArguments_BadText⟩
    i_Refused_BadText := ⟨xC2, xC3, PySem.W.mg_of X G xa2, PySem.W.mg_of X G xa3, ⟨yg_BadText, yk_BadText, ys_BadText, yd_BadText, ya_BadText, yN, yT, ym_BadText⟩, yi_Refused_BadText⟩
    i_BadText_BadText := ⟨xC2, xC2, PySem.W.mg_of X G xa2, PySem.W.mg_of X G xa2, ⟨yg_BadText, yk_BadText, ys_BadText, yd_BadText, ya_BadText, yN, yT, ym_BadText⟩, yi_BadText_BadText⟩
    i_BadProgram_BadText := ⟨xC2, xC1, PySem.W.mg_of X G xa2, PySem.W.mg_of X G xa1, ⟨yg_BadText, yk_BadText, ys_BadText, yd_BadText, ya_BadText, yN, yT, ym_BadText⟩, yi_BadProgram_BadText⟩
    i_BadCode_BadText := ⟨xC2, xC0, PySem.W.mg_of X G xa2, PySem.W.mg_of X G xa0, ⟨yg_BadText, yk_BadText, ys_BadText, yd_BadText, ya_BadText, yN, yT, ym_BadText⟩, yi_BadCode_BadText⟩
    i_ValueError_BadText := ⟨xC2, PySem.W.mg_of X G xa2, ⟨yg_BadText, yk_BadText, ys_BadText, yd_BadText, ya_BadText, yN, yT, ym_BadText⟩, yi_ValueError_BadText⟩
    y_Refused := ⟨xC3, PySem.W.mg_of X G xa3, ⟨yg_Refused, yk_Refused, ys_Refused, yd_Refused, ya_Refused, yN, yT, ym_Refused⟩, (all_cons xn3_0 (all_cons xn3_1 (all_cons xn3_2 (all_cons xn3_3 all_nil))))⟩
    i_QuietError_Refused := ⟨xC3, q0, PySem.W.mg_of X G xa3, PySem.W.mg_of X G aq0, ⟨yg_Refused, yk_Refused, ys_Refused, yd_Refused, ya_Refused, yN, yT, ym_Refused⟩, yi_QuietError_Refused⟩
    i_NoObject_Refused := ⟨xC3, xC7, PySem.W.mg_of X G xa3, PySem.W.mg_of X G xa7, ⟨yg_Refused, yk_Refused, ys_Refused, yd_Refused, ya_Refused, yN, yT, ym_Refused⟩, yi_NoObject_Refused⟩
    i_NoRoom_Refused := ⟨xC3, xC6, PySem.W.mg_of X G xa3, PySem.W.mg_of X G xa6, ⟨yg_Refused, yk_Refused, ys_Refused, yd_Refused, ya_Refused, yN, yT, ym_Refused⟩, yi_NoRoom_Refused⟩
    i_BadImage_Refused := ⟨xC3, xC5, PySem.W.mg_of X G xa3, PySem.W.mg_of X G xa5, ⟨yg_Refused, yk_Refused, ys_Refused, yd_Refused, ya_Refused, yN, yT, ym_Refused⟩, yi_BadImage_Refused⟩
    i_BadPicture_Refused := ⟨xC3, xC4, PySem.W.mg_of X G xa3, PySem.W.mg_of X G xa4, ⟨yg_Refused, yk_Refused, ys_Refused, yd_Refused, ya_Refused, yN, yT, ym_Refused⟩, yi_BadPicture_Refused⟩
    i_BadArguments_Refused := ⟨xC3, q2, PySem.W.mg_of X G xa3, PySem.W.mg_of X G aq2, ⟨yg_Refused, yk_Refused, ys_Refused, yd_Refused, ya_Refused, yN, yT, ym_Refused⟩, yi_BadArguments_Refused⟩
    i_Refused_Refused := ⟨xC3, xC3, PySem.W.mg_of X G xa3, PySem.W.mg_of X G xa3, ⟨yg_Refused, yk_Refused, ys_Refused, yd_Refused, ya_Refused, yN, yT, ym_Refused⟩, yi_Refused_Refused⟩
    i_BadText_Refused := ⟨xC3, xC2, PySem.W.mg_of X G xa3, PySem.W.mg_of X G xa2, ⟨yg_Refused, yk_Refused, ys_Refused, yd_Refused, ya_Refused, yN, yT, ym_Refused⟩, yi_BadText_Refused⟩
    i_BadProgram_Refused := ⟨xC3, xC1, PySem.W.mg_of X G xa3, PySem.W.mg_of X G xa1, ⟨yg_Refused, yk_Refused, ys_Refused, yd_Refused, ya_Refused, yN, yT, ym_Refused⟩, yi_BadProgram_Refused⟩
    i_BadCode_Refused := ⟨xC3, xC0, PySem.W.mg_of X G xa3, PySem.W.mg_of X G xa0, ⟨yg_Refused, yk_Refused, ys_Refused, yd_Refused, ya_Refused, yN, yT, ym_Refused⟩, yi_BadCode_Refused⟩
    i_ValueError_Refused := ⟨xC3, PySem.W.mg_of X G xa3, ⟨yg_Refused, yk_Refused, ys_Refused, yd_Refused, ya_Refused, yN, yT, ym_Refused⟩, yi_ValueError_Refused⟩
    y_BadPicture := ⟨xC4, PySem.W.mg_of X G xa4, ⟨yg_BadPicture, yk_BadPicture, ys_BadPicture, yd_BadPicture, ya_BadPicture, yN, yT, ym_BadPicture⟩, (all_cons xn4_0 (all_cons xn4_1 (all_cons xn4_2 all_nil)))⟩
    i_QuietError_BadPicture := ⟨xC4, q0, PySem.W.mg_of X G xa4, PySem.W.mg_of X G aq0, ⟨yg_BadPicture, yk_BadPicture, ys_BadPicture, yd_BadPicture, ya_BadPicture, yN, yT, ym_BadPicture⟩, yi_QuietError_BadPicture⟩
    i_NoObject_BadPicture := ⟨xC4, xC7, PySem.W.mg_of X G xa4, PySem.W.mg_of X G xa7, ⟨yg_BadPicture, yk_BadPicture, ys_BadPicture, yd_BadPicture, ya_BadPicture, yN, yT, ym_BadPicture⟩, yi_NoObject_BadPicture⟩
    i_NoRoom_BadPicture := ⟨xC4, xC6, PySem.W.mg_of X G xa4, PySem.W.mg_of X G xa6, ⟨yg_BadPicture, yk_BadPicture, ys_BadPicture, yd_BadPicture, ya_BadPicture, yN, yT, ym_BadPicture⟩, yi_NoRoom_BadPicture⟩
    i_BadImage_BadPicture := ⟨xC4, xC5, PySem.W.mg_of X G xa4, PySem.W.mg_of X G xa5, ⟨yg_BadPicture, yk_BadPicture, ys_BadPicture, yd_BadPicture, ya_BadPicture, yN, yT, ym_BadPicture⟩, yi_BadImage_BadPicture⟩
    i_BadPicture_BadPicture := ⟨xC4, xC4, PySem.W.mg_of X G xa4, PySem.W.mg_of X G xa4, ⟨yg_BadPicture, yk_BadPicture, ys_BadPicture, yd_BadPicture, ya_BadPicture, yN, yT, ym_BadPicture⟩, yi_BadPicture_BadPicture⟩
    i_BadArguments_BadPicture := ⟨xC4, q2, PySem.W.mg_of X G xa4, PySem.W.mg_of X G aq2, ⟨yg_BadPicture, yk_BadPicture, ys_BadPicture, yd_BadPicture, ya_BadPicture, yN, yT, ym_BadPicture⟩, yi_BadArguments_BadPicture⟩
    i_Refused_BadPicture := ⟨xC4, xC3, PySem.W.mg_of X G xa4, PySem.W.mg_of X G xa3, ⟨yg_BadPicture, yk_BadPicture, ys_BadPicture, yd_BadPicture, ya_BadPicture, yN, yT, ym_BadPicture⟩, yi_Refused_BadPicture⟩
    i_BadText_BadPicture := ⟨xC4, xC2, PySem.W.mg_of X G xa4, PySem.W.mg_of X G xa2, ⟨yg_BadPicture, yk_BadPicture, ys_BadPicture, yd_BadPicture, ya_BadPicture, yN, yT, ym_BadPicture⟩, yi_BadText_BadPicture⟩
    i_BadProgram_BadPicture := ⟨xC4, xC1, PySem.W.mg_of X G xa4, PySem.W.mg_of X G xa1, ⟨yg_BadPicture, yk_BadPicture, ys_BadPicture, yd_BadPicture, ya_BadPicture, yN, yT, ym_BadPicture⟩, yi_BadProgram_BadPicture⟩
    i_BadCode_BadPicture := ⟨xC4, xC0, PySem.W.mg_of X G xa4, PySem.W.mg_of X G xa0, ⟨yg_BadPicture, yk_BadPicture, ys_BadPicture, yd_BadPicture, ya_BadPicture, yN, yT, ym_BadPicture⟩, yi_BadCode_BadPicture⟩
    i_ValueError_BadPicture := ⟨xC4, PySem.W.mg_of X G xa4, ⟨yg_BadPicture, yk_BadPicture, ys_BadPicture, yd_BadPicture, ya_BadPicture, yN, yT, ym_BadPicture⟩, yi_ValueError_BadPicture⟩
    y_BadImage := ⟨xC5, PySem.W.mg_of X G xa5, ⟨yg_BadImage, yk_BadImage, ys_BadImage, yd_BadImage, ya_BadImage, yN, yT, ym_BadImage⟩, (all_cons xn5_0 (all_cons xn5_1 all_nil))⟩
    i_QuietError_BadImage := ⟨xC5, q0, PySem.W.mg_of X G xa5, PySem.W.mg_of X G aq0, ⟨yg_BadImage, yk_BadImage, ys_BadImage, yd_BadImage, ya_BadImage, yN, yT, ym_BadImage⟩, yi_QuietError_BadImage⟩
    i_NoObject_BadImage := ⟨xC5, xC7, PySem.W.mg_of X G xa5, PySem.W.mg_of X G xa7, ⟨yg_BadImage, yk_BadImage, ys_BadImage, yd_BadImage, ya_BadImage, yN, yT, ym_BadImage⟩, yi_NoObject_BadImage⟩
    i_NoRoom_BadImage := ⟨xC5, xC6, PySem.W.mg_of X G xa5, PySem.W.mg_of X G xa6, ⟨yg_BadImage, yk_BadImage, ys_BadImage, yd_BadImage, ya_BadImage, yN, yT, ym_BadImage⟩, yi_NoRoom_BadImage⟩
    i_BadImage_BadImage := ⟨xC5, xC5, PySem.W.mg_of X G xa5, PySem.W.mg_of X G xa5, ⟨yg_BadImage, yk_BadImage, ys_BadImage, yd_BadImage, ya_BadImage, yN, yT, ym_BadImage⟩, yi_BadImage_BadImage⟩
    i_BadPicture_BadImage := ⟨xC5, xC4, PySem.W.mg_of X G xa5, PySem.W.mg_of X G xa4, ⟨yg_BadImage, yk_BadImage, ys_BadImage, yd_BadImage, ya_BadImage, yN, yT, ym_BadImage⟩, yi_BadPicture_BadImage⟩
    i_BadArguments_BadImage := ⟨xC5, q2, PySem.W.mg_of X G xa5, PySem.W.mg_of X G aq2, ⟨yg_BadImage, yk_BadImage, ys_BadImage, yd_BadImage, ya_BadImage, yN, yT, ym_BadImage⟩, yi_BadArguments_BadImage⟩
    i_Refused_BadImage := ⟨xC5, xC3, PySem.W.mg_of X G xa5, PySem.W.mg_of X G xa3, ⟨yg_BadImage, yk_BadImage, ys_BadImage, yd_BadImage, ya_BadImage, yN, yT, ym_BadImage⟩, yi_Refused_BadImage⟩
    i_BadText_BadImage := ⟨xC5, xC2, PySem.W.mg_of X G xa5, PySem.W.mg_of X G xa2, ⟨yg_BadImage, yk_BadImage, ys_BadImage, yd_BadImage, ya_BadImage, yN, yT, ym_BadImage⟩, yi_BadText_BadImage⟩
    i_BadProgram_BadImage := ⟨xC5, xC1, PySem.W.mg_of X G xa5, PySem.W.mg_of X G xa1, ⟨yg_BadImage, yk_BadImage, ys_BadImage, yd_BadImage, ya_BadImage, yN, yT, ym_BadImage⟩, yi_BadProgram_BadImage⟩
    i_BadCode_BadImage := ⟨xC5, xC0, PySem.W.mg_of X G xa5, PySem.W.mg_of X G xa0, ⟨yg_BadImage, yk_BadImage, ys_BadImage, yd_BadImage, ya_BadImage, yN, yT, ym_BadImage⟩, yi_BadCode_BadImage⟩
    i_ValueError_BadImage := ⟨xC5, PySem.W.mg_of X G xa5, ⟨yg_BadImage, yk_BadImage, ys_BadImage, yd_BadImage, ya_BadImage, yN, yT, ym_BadImage⟩, yi_ValueError_BadImage⟩
    y_NoRoom := ⟨xC6, PySem.W.mg_of X G xa6, ⟨yg_NoRoom, yk_NoRoom, ys_NoRoom, yd_NoRoom, ya_NoRoom, yN, yT, ym_NoRoom⟩, (all_cons xn6_0 all_nil)⟩
    i_QuietError_NoRoom := ⟨xC6, q0, PySem.W.mg_of X G xa6, PySem.W.mg_of X G aq0, ⟨yg_NoRoom, yk_NoRoom, ys_NoRoom, yd_NoRoom, ya_NoRoom, yN, yT, ym_NoRoom⟩, yi_QuietError_NoRoom⟩
    i_NoObject_NoRoom := ⟨xC6, xC7, PySem.W.mg_of X G xa6, PySem.W.mg_of X G xa7, ⟨yg_NoRoom, yk_NoRoom, ys_NoRoom, yd_NoRoom, ya_NoRoom, yN, yT, ym_NoRoom⟩, yi_NoObject_NoRoom⟩
    i_NoRoom_NoRoom := ⟨xC6, xC6, PySem.W.mg_of X G xa6, PySem.W.mg_of X G xa6, ⟨yg_NoRoom, yk_NoRoom, ys_NoRoom, yd_NoRoom, ya_NoRoom, yN, yT, ym_NoRoom⟩, yi_NoRoom_NoRoom⟩
    i_BadImage_NoRoom := ⟨xC6, xC5, PySem.W.mg_of X G xa6, PySem.W.mg_of X G xa5, ⟨yg_NoRoom, yk_NoRoom, ys_NoRoom, yd_NoRoom, ya_NoRoom, yN, yT, ym_NoRoom⟩, yi_BadImage_NoRoom⟩
    i_BadPicture_NoRoom := ⟨xC6, xC4, PySem.W.mg_of X G xa6, PySem.W.mg_of X G xa4, ⟨yg_NoRoom, yk_NoRoom, ys_NoRoom, yd_NoRoom, ya_NoRoom, yN, yT, ym_NoRoom⟩, yi_BadPicture_NoRoom⟩
    i_BadArguments_NoRoom := ⟨xC6, q2, PySem.W.mg_of X G xa6, PySem.W.mg_of X G aq2, ⟨yg_NoRoom, yk_NoRoom, ys_NoRoom, yd_NoRoom, ya_NoRoom, yN, yT, ym_NoRoom⟩, yi_BadArguments_NoRoom⟩
    i_Refused_NoRoom := ⟨xC6, xC3, PySem.W.mg_of X G xa6, PySem.W.mg_of X G xa3, ⟨yg_NoRoom, yk_NoRoom, ys_NoRoom, yd_NoRoom, ya_NoRoom, yN, yT, ym_NoRoom⟩, yi_Refused_NoRoom⟩
    i_BadText_NoRoom := ⟨xC6, xC2, PySem.W.mg_of X G xa6, PySem.W.mg_of X G xa2, ⟨yg_NoRoom, yk_NoRoom, ys_NoRoom, yd_NoRoom, ya_NoRoom, yN, yT, ym_NoRoom⟩, yi_BadText_NoRoom⟩
    i_BadProgram_NoRoom := ⟨xC6, xC1, PySem.W.mg_of X G xa6, PySem.W.mg_of X G xa1, ⟨yg_NoRoom, yk_NoRoom, ys_NoRoom, yd_NoRoom, ya_NoRoom, yN, yT, ym_NoRoom⟩, yi_BadProgram_NoRoom⟩
    i_BadCode_NoRoom := ⟨xC6, xC0, PySem.W.mg_of X G xa6, PySem.W.mg_of X G xa0, ⟨yg_NoRoom, yk_NoRoom, ys_NoRoom, yd_NoRoom, ya_NoRoom, yN, yT, ym_NoRoom⟩, yi_BadCode_NoRoom⟩
    i_ValueError_NoRoom := ⟨xC6, PySem.W.mg_of X G xa6, ⟨yg_NoRoom, yk_NoRoom, ys_NoRoom, yd_NoRoom, ya_NoRoom, yN, yT, ym_NoRoom⟩, yi_ValueError_NoRoom⟩
    y_NoObject := ⟨xC7, PySem.W.mg_of X G xa7, ⟨yg_NoObject, yk_NoObject, ys_NoObject, yd_NoObject, ya_NoObject, yN, yT, ym_NoObject⟩, (all_cons xn7_0 all_nil)⟩
    i_QuietError_NoObject := ⟨xC7, q0, PySem.W.mg_of X G xa7, PySem.W.mg_of X G aq0, ⟨yg_NoObject, yk_NoObject, ys_NoObject, yd_NoObject, ya_NoObject, yN, yT, ym_NoObject⟩, yi_QuietError_NoObject⟩
    i_NoObject_NoObject := ⟨xC7, xC7, PySem.W.mg_of X G xa7, PySem.W.mg_of X G xa7, ⟨yg_NoObject, yk_NoObject, ys_NoObject, yd_NoObject, ya_NoObject, yN, yT, ym_NoObject⟩, yi_NoObject_NoObject⟩
    i_NoRoom_NoObject := ⟨xC7, xC6, PySem.W.mg_of X G xa7, PySem.W.mg_of X G xa6, ⟨yg_NoObject, yk_NoObject, ys_NoObject, yd_NoObject, ya_NoObject, yN, yT, ym_NoObject⟩, yi_NoRoom_NoObject⟩
    i_BadImage_NoObject := ⟨xC7, xC5, PySem.W.mg_of X G xa7, PySem.W.mg_of X G xa5, ⟨yg_NoObject, yk_NoObject, ys_NoObject, yd_NoObject, ya_NoObject, yN, yT, ym_NoObject⟩, yi_BadImage_NoObject⟩
    i_BadPicture_NoObject := ⟨xC7, xC4, PySem.W.mg_of X G xa7, PySem.W.mg_of X G xa4, ⟨yg_NoObject, yk_NoObject, ys_NoObject, yd_NoObject, ya_NoObject, yN, yT, ym_NoObject⟩, yi_BadPicture_NoObject⟩
    i_BadArguments_NoObject := ⟨xC7, q2, PySem.W.mg_of X G xa7, PySem.W.mg_of X G aq2, ⟨yg_NoObject, yk_NoObject, ys_NoObject, yd_NoObject, ya_NoObject, yN, yT, ym_NoObject⟩, yi_BadArguments_NoObject⟩
    i_Refused_NoObject := ⟨xC7, xC3, PySem.W.mg_of X G xa7, PySem.W.mg_of X G xa3, ⟨yg_NoObject, yk_NoObject, ys_NoObject, yd_NoObject, ya_NoObject, yN, yT, ym_NoObject⟩, yi_Refused_NoObject⟩
    i_BadText_NoObject := ⟨xC7, xC2, PySem.W.mg_of X G xa7, PySem.W.mg_of X G xa2, ⟨yg_NoObject, yk_NoObject, ys_NoObject, yd_NoObject, ya_NoObject, yN, yT, ym_NoObject⟩, yi_BadText_NoObject⟩
    i_BadProgram_NoObject := ⟨xC7, xC1, PySem.W.mg_of X G xa7, PySem.W.mg_of X G xa1, ⟨yg_NoObject, yk_NoObject, ys_NoObject, yd_NoObject, ya_NoObject, yN, yT, ym_NoObject⟩, yi_BadProgram_NoObject⟩
    i_BadCode_NoObject := ⟨xC7, xC0, PySem.W.mg_of X G xa7, PySem.W.mg_of X G xa0, ⟨yg_NoObject, yk_NoObject, ys_NoObject, yd_NoObject, ya_NoObject, yN, yT, ym_NoObject⟩, yi_BadCode_NoObject⟩
    i_ValueError_NoObject := ⟨xC7, PySem.W.mg_of X G xa7, ⟨yg_NoObject, yk_NoObject, ys_NoObject, yd_NoObject, ya_NoObject, yN, yT, ym_NoObject⟩, yi_ValueError_NoObject⟩
    y_BadArguments := ⟨q2, PySem.W.mg_of X G aq2, ⟨yg_BadArguments, yk_BadArguments, ys_BadArguments, yd_BadArguments, ya_BadArguments, yN, yT, ym_BadArguments⟩, all_nil⟩
    i_QuietError_BadArguments := ⟨q2, q0, PySem.W.mg_of X G aq2, PySem.W.mg_of X G aq0, ⟨yg_BadArguments, yk_BadArguments, ys_BadArguments, yd_BadArguments, ya_BadArguments, yN, yT, ym_BadArguments⟩, yi_QuietError_BadArguments⟩
    i_NoObject_BadArguments := ⟨q2, xC7, PySem.W.mg_of X G aq2, PySem.W.mg_of X G xa7, ⟨yg_BadArguments, yk_BadArguments, ys_BadArguments, yd_BadArguments, ya_BadArguments, yN, yT, ym_BadArguments⟩, yi_NoObject_BadArguments⟩
    i_NoRoom_BadArguments := ⟨q2, xC6, PySem.W.mg_of X G aq2, PySem.W.mg_of X G xa6, ⟨yg_BadArguments, yk_BadArguments, ys_BadArguments, yd_BadArguments, ya_BadArguments, yN, yT, ym_BadArguments⟩, yi_NoRoom_BadArguments⟩
    i_BadImage_BadArguments := ⟨q2, xC5, PySem.W.mg_of X G aq2, PySem.W.mg_of X G xa5, ⟨yg_BadArguments, yk_BadArguments, ys_BadArguments, yd_BadArguments, ya_BadArguments, yN, yT, ym_BadArguments⟩, yi_BadImage_BadArguments⟩
    i_BadPicture_BadArguments := ⟨q2, xC4, PySem.W.mg_of X G aq2, PySem.W.mg_of X G xa4, ⟨yg_BadArguments, yk_BadArguments, ys_BadArguments, yd_BadArguments, ya_BadArguments, yN, yT, ym_BadArguments⟩, yi_BadPicture_BadArguments⟩
    i_BadArguments_BadArguments := ⟨q2, q2, PySem.W.mg_of X G aq2, PySem.W.mg_of X G aq2, ⟨yg_BadArguments, yk_BadArguments, ys_BadArguments, yd_BadArguments, ya_BadArguments, yN, yT, ym_BadArguments⟩, yi_BadArguments_BadArguments⟩
    i_Refused_BadArguments := ⟨q2, xC3, PySem.W.mg_of X G aq2, PySem.W.mg_of X G xa3, ⟨yg_BadArguments, yk_BadArguments, ys_BadArguments, yd_BadArguments, ya_BadArguments, yN, yT, ym_BadArguments⟩, yi_Refused_BadArguments⟩
    i_BadText_BadArguments := ⟨q2, xC2, PySem.W.mg_of X G aq2, PySem.W.mg_of X G xa2, ⟨yg_BadArguments, yk_BadArguments, ys_BadArguments, yd_BadArguments, ya_BadArguments, yN, yT, ym_BadArguments⟩, yi_BadText_BadArguments⟩
    i_BadProgram_BadArguments := ⟨q2, xC1, PySem.W.mg_of X G aq2, PySem.W.mg_of X G xa1, ⟨yg_BadArguments, yk_BadArguments, ys_BadArguments, yd_BadArguments, ya_BadArguments, yN, yT, ym_BadArguments⟩, yi_BadProgram_BadArguments⟩
    i_BadCode_BadArguments := ⟨q2, xC0, PySem.W.mg_of X G aq2, PySem.W.mg_of X G xa0, ⟨yg_BadArguments, yk_BadArguments, ys_BadArguments, yd_BadArguments, ya_BadArguments, yN, yT, ym_BadArguments⟩, yi_BadCode_BadArguments⟩
    i_ValueError_BadArguments := ⟨q2, PySem.W.mg_of X G aq2, ⟨yg_BadArguments, yk_BadArguments, ys_BadArguments, yd_BadArguments, ya_BadArguments, yN, yT, ym_BadArguments⟩, yi_ValueError_BadArguments⟩
    u_BadArguments := ⟨q2, PySem.W.mg_of X G aq2, excIn_of yx_BadArguments, yp_BadArguments⟩
    q_BadCode := ⟨xC0, PySem.W.mg_of X G xa0⟩
    q_QuietError := ⟨q0, PySem.W.mg_of X G aq0⟩
    q_NoObject := ⟨xC7, PySem.W.mg_of X G xa7⟩
    q_NoRoom := ⟨xC6, PySem.W.mg_of X G xa6⟩
    q_BadImage := ⟨xC5, PySem.W.mg_of X G xa5⟩
    q_BadPicture := ⟨xC4, PySem.W.mg_of X G xa4⟩
    q_BadArguments := ⟨q2, PySem.W.mg_of X G aq2⟩
    q_Refused := ⟨xC3, PySem.W.mg_of X G xa3⟩
    q_BadText := ⟨xC2, PySem.W.mg_of X G xa2⟩
    q_BadProgram := ⟨xC1, PySem.W.mg_of X G xa1⟩
    e_BadCode_BadCode := ⟨xC0, xC0, PySem.W.mg_of X G xa0, PySem.W.mg_of X G xa0, exm_mk qe_BadCode qi_BadCode qt_BadCode xm0_BadCode⟩
    e_BadProgram_BadCode := ⟨xC1, xC0, PySem.W.mg_of X G xa1, PySem.W.mg_of X G xa0, exm_mk qe_BadCode qi_BadCode qt_BadCode xm1_BadCode⟩
    e_BadText_BadCode := ⟨xC2, xC0, PySem.W.mg_of X G xa2, PySem.W.mg_of X G xa0, exm_mk qe_BadCode qi_BadCode qt_BadCode xm2_BadCode⟩
    e_Refused_BadCode := ⟨xC3, xC0, PySem.W.mg_of X G xa3, PySem.W.mg_of X G xa0, exm_mk qe_BadCode qi_BadCode qt_BadCode xm3_BadCode⟩
    e_BadPicture_BadCode := ⟨xC4, xC0, PySem.W.mg_of X G xa4, PySem.W.mg_of X G xa0, exm_mk qe_BadCode qi_BadCode qt_BadCode xm4_BadCode⟩
    e_BadImage_BadCode := ⟨xC5, xC0, PySem.W.mg_of X G xa5, PySem.W.mg_of X G xa0, exm_mk qe_BadCode qi_BadCode qt_BadCode xm5_BadCode⟩
    e_NoRoom_BadCode := ⟨xC6, xC0, PySem.W.mg_of X G xa6, PySem.W.mg_of X G xa0, exm_mk qe_BadCode qi_BadCode qt_BadCode xm6_BadCode⟩
    e_NoObject_BadCode := ⟨xC7, xC0, PySem.W.mg_of X G xa7, PySem.W.mg_of X G xa0, exm_mk qe_BadCode qi_BadCode qt_BadCode xm7_BadCode⟩
    z_ValueError := PySem.W.mg_none_of X G z0
    z_bool := PySem.W.mg_none_of X G z1
    z_int := PySem.W.mg_none_of X G z2
    z_isinstance := PySem.W.mg_none_of X G z3
    z_len := PySem.W.mg_none_of X G z4
    z_list := PySem.W.mg_none_of X G z5
    z_range := PySem.W.mg_none_of X G z6
    z_tuple := PySem.W.mg_none_of X G z7 }
/-! ### the law's own end -/
theorem law_bind {K : PySem.W.Frag} {f : Addr} {fd : FuncData} (F : Fun K "law" "law" s_law f fd) (s : Shared) (u : Value) : BindsTo s fd ⟨[u], []⟩ [("_law_script", u)] := by
  obtain ⟨oc, od, kV, doc, pm, an, cdv, ct, osl, rfl, lk, hcd⟩ := F.ex
  exact .of_eq rfl
theorem law_fn {P : Program} {w : World} {K : PySem.W.Frag} {mg : Str → Option Value} {base : Heap} (T : Tx w K mg) {f : Addr} {fd : FuncData} (F : Fun K "law" "law" s_law f fd) (hm : ∀ ns : List Int, ns.length ≤ 63 → (∀ z ∈ ns, Builtin.Int.intBits z ≤ 1048576) → m_law [.slst (ns.map D.int)] = .ok (.bl true)) :
    FnOk P w K mg base (L2.CX P w) 6 f fd ["_law_script"] (spLaw K) := (fn_law T F).imp fun vs H Q E h => law_imp hm h
end LK

namespace LK
open PySem QB
open Builtin.Int (intBits)
/-! ### the errors -/
theorem e_whole (n : Int) : m_law_whole [.int n] = .ok (.bl true) := rfl
theorem e_ap0 (ns : List Str) (xs : List D) : m_law_apart [.xob "BadProgram" ns xs, .int 0] = .ok (.bl true) := id rfl
theorem e_ap1 (ns : List Str) (xs : List D) : m_law_apart [.xob "BadText" ns xs, .int 1] = .ok (.bl true) := id rfl
theorem e_ap2 (ns : List Str) (xs : List D) : m_law_apart [.xob "BadCode" ns xs, .int 2] = .ok (.bl true) := id rfl
theorem e_ap3 (ns : List Str) (xs : List D) : m_law_apart [.xob "Refused" ns xs, .int 3] = .ok (.bl true) := id rfl
theorem e_ap4 (ns : List Str) (xs : List D) : m_law_apart [.xob "BadArguments" ns xs, .int 4] = .ok (.bl true) := id rfl
theorem e_ap5 (ns : List Str) (xs : List D) : m_law_apart [.xob "BadPicture" ns xs, .int 5] = .ok (.bl true) := id rfl
theorem e_ap6 (ns : List Str) (xs : List D) : m_law_apart [.xob "BadImage" ns xs, .int 6] = .ok (.bl true) := id rfl
theorem e_ap7 (ns : List Str) (xs : List D) : m_law_apart [.xob "NoRoom" ns xs, .int 7] = .ok (.bl true) := id rfl
theorem e_ap8 (ns : List Str) (xs : List D) : m_law_apart [.xob "NoObject" ns xs, .int 8] = .ok (.bl true) := id rfl
theorem q_mkx {c : Str} {fs : List Str} {mk : MA} {r : Sc} : mMkx c fs mk r = (mk r).bind fun ds => .ok (.xob c fs.reverse ds.reverse) := id rfl
theorem q_mkx0 {c : Str} {r : Sc} : mMkx0 c r = .ok (.xob c [] []) := id rfl
theorem q_xf {vw : D → Option (Str × List Str × List D)} {L : List Str} {f : Str} {me : ME} {r : Sc} : mXf vw L f me r = (me r).bind (dXf vw L f) := id rfl
theorem q_isx {vw : D → Option (Str × List Str × List D)} {tab : Str → Option Bool} {me : ME} {r : Sc} : mIsx vw tab me r = (me r).bind (dIsx vw tab) := id rfl
theorem e_kept (n : Int) (t : Str) (ht : t ∈ ([("count" : Str), "", "kind", "x"] : List Str)) : m_law_errors_kept [.int n, .str t] = .ok (.bl true) := by
  have hs : t.length + ("x" : Str).length ≤ sizeLine := by
    simp only [List.mem_cons, List.not_mem_nil, or_false] at ht
    rcases ht with rfl | rfl | rfl | rfl <;> decide
  have ho : PyData.strOk t = true ∧ PyData.strOk (t ++ ("x" : Str)) = true := by
    simp only [List.mem_cons, List.not_mem_nil, or_false] at ht
    rcases ht with rfl | rfl | rfl | rfl <;> decide +kernel
  have ha : dAdd (.str t) (.str "x") = .ok (.str (t ++ ("x" : Str))) := if_pos hs
  obtain ⟨u, hu⟩ : ∃ u : Str, u = t ++ ("x" : Str) := ⟨_, rfl⟩
  rw [← hu] at ha ho
  have s1 : (1 : Nat) ≤ sizeLine := by decide
  have s2 : (2 : Nat) ≤ sizeLine := by decide
  have s3 : (3 : Nat) ≤ sizeLine := by decide
  have s4 : (4 : Nat) ≤ sizeLine := by decide
  have n1 : dNe (.tup [.str t, .int n, .int (n - 1), .str u]) (.tup [.str t, .int n, .int (n - 1), .str u]) = .ok (.bl false) := ne_f (b := false) (by simp [clean, cleanL, ho]) (by simp [depD, depL])
  have n2 : dNe (.tup [.int n, .str t]) (.tup [.int n, .str t]) = .ok (.bl false) := ne_f (b := false) (by simp [clean, cleanL, ho]) (by simp [depD, depL])
  have n3 : dNe (.tup [.int n, .str t, .tup [.int 0, .int n], .tup [.int n]]) (.tup [.int n, .str t, .tup [.int 0, .int n], .tup [.int n]]) = .ok (.bl false) := ne_f (b := false) (by simp [clean, cleanL, ho]) (by simp [depD, depL])
  refine def_of ?_
  rw [show mStart 6 [D.int n, D.str t] = [some (.val (.int n)), some (.val (.str t)), none, none, none, none] from rfl]
  rw [seq_nx (r' := [some (.val (.int n)), some (.val (.str t)), some (.val (.xob "BadProgram" ["why", "place", "number", "part"] [.str u, .int (n - 1), .int n, .str t])), none, none, none]) (by simp only [q_df, q_st, q_sq, q_at_nx, q_at_rt, q_at_bk, q_at_ct, q_at_ex, q_mi, q_sel_t, q_sel_f, q_out_rt, q_out_nx, q_out_ex, q_rb_ok, q_rb_bad, q_rb_exc, q_tf_ok, q_v0, q_vs, q_w0, q_w0o, q_ws, q_tbq, q_asb, q_nt, q_rsel_t, q_rsel_f, q_ta, q_to, q_va, q_vo, q_vn, q_sett, q_seto, q_bin, q_c, q_callb, q_cons, q_nil, q_tup, q_lst, q_celle, q_ret, q_nx, q_thl, q_thd, q_isi, q_neg, q_neg_i, q_callk, q_drop, q_retn, q_brk, q_cnt, q_ife, q_add_i, q_sub_i, q_lt_i, q_le_i, q_gt_i, q_ge_i, q_eq_i, q_ne_i, List.map_cons, List.map_nil, List.length_cons, List.length_nil, List.replicate, List.append_nil, List.nil_append, List.cons_append, Nat.reduceAdd, Nat.reduceSub, List.getElem?_cons_zero, List.getElem?_cons_succ, List.set_cons_zero, List.set_cons_succ, Bool.not_true, Bool.not_false, decide_true, decide_false, if_true, if_false, q_mkx, ha]; rfl)]
  rw [seq_nx (r' := [some (.val (.int n)), some (.val (.str t)), some (.val (.xob "BadProgram" ["why", "place", "number", "part"] [.str u, .int (n - 1), .int n, .str t])), some (.val (.xob "BadText" ["why", "line"] [.str t, .int n])), none, none]) (by simp only [q_df, q_st, q_sq, q_at_nx, q_at_rt, q_at_bk, q_at_ct, q_at_ex, q_mi, q_sel_t, q_sel_f, q_out_rt, q_out_nx, q_out_ex, q_rb_ok, q_rb_bad, q_rb_exc, q_tf_ok, q_v0, q_vs, q_w0, q_w0o, q_ws, q_tbq, q_asb, q_nt, q_rsel_t, q_rsel_f, q_ta, q_to, q_va, q_vo, q_vn, q_sett, q_seto, q_bin, q_c, q_callb, q_cons, q_nil, q_tup, q_lst, q_celle, q_ret, q_nx, q_thl, q_thd, q_isi, q_neg, q_neg_i, q_callk, q_drop, q_retn, q_brk, q_cnt, q_ife, q_add_i, q_sub_i, q_lt_i, q_le_i, q_gt_i, q_ge_i, q_eq_i, q_ne_i, List.map_cons, List.map_nil, List.length_cons, List.length_nil, List.replicate, List.append_nil, List.nil_append, List.cons_append, Nat.reduceAdd, Nat.reduceSub, List.getElem?_cons_zero, List.getElem?_cons_succ, List.set_cons_zero, List.set_cons_succ, Bool.not_true, Bool.not_false, decide_true, decide_false, if_true, if_false, q_mkx]; rfl)]
  rw [seq_nx (r' := [some (.val (.int n)), some (.val (.str t)), some (.val (.xob "BadProgram" ["why", "place", "number", "part"] [.str u, .int (n - 1), .int n, .str t])), some (.val (.xob "BadText" ["why", "line"] [.str t, .int n])), some (.val (.xob "BadCode" ["at"] [.int n])), none]) (by simp only [q_df, q_st, q_sq, q_at_nx, q_at_rt, q_at_bk, q_at_ct, q_at_ex, q_mi, q_sel_t, q_sel_f, q_out_rt, q_out_nx, q_out_ex, q_rb_ok, q_rb_bad, q_rb_exc, q_tf_ok, q_v0, q_vs, q_w0, q_w0o, q_ws, q_tbq, q_asb, q_nt, q_rsel_t, q_rsel_f, q_ta, q_to, q_va, q_vo, q_vn, q_sett, q_seto, q_bin, q_c, q_callb, q_cons, q_nil, q_tup, q_lst, q_celle, q_ret, q_nx, q_thl, q_thd, q_isi, q_neg, q_neg_i, q_callk, q_drop, q_retn, q_brk, q_cnt, q_ife, q_add_i, q_sub_i, q_lt_i, q_le_i, q_gt_i, q_ge_i, q_eq_i, q_ne_i, List.map_cons, List.map_nil, List.length_cons, List.length_nil, List.replicate, List.append_nil, List.nil_append, List.cons_append, Nat.reduceAdd, Nat.reduceSub, List.getElem?_cons_zero, List.getElem?_cons_succ, List.set_cons_zero, List.set_cons_succ, Bool.not_true, Bool.not_false, decide_true, decide_false, if_true, if_false, q_mkx]; rfl)]
  rw [seq_nx (r' := [some (.val (.int n)), some (.val (.str t)), some (.val (.xob "BadProgram" ["why", "place", "number", "part"] [.str u, .int (n - 1), .int n, .str t])), some (.val (.xob "BadText" ["why", "line"] [.str t, .int n])), some (.val (.xob "BadCode" ["at"] [.int n])), some (.val (.xob "Refused" ["other", "walk", "why", "number"] [.tup [.int n], .tup [.int 0, .int n], .str t, .int n]))]) (by simp only [q_df, q_st, q_sq, q_at_nx, q_at_rt, q_at_bk, q_at_ct, q_at_ex, q_mi, q_sel_t, q_sel_f, q_out_rt, q_out_nx, q_out_ex, q_rb_ok, q_rb_bad, q_rb_exc, q_tf_ok, q_v0, q_vs, q_w0, q_w0o, q_ws, q_tbq, q_asb, q_nt, q_rsel_t, q_rsel_f, q_ta, q_to, q_va, q_vo, q_vn, q_sett, q_seto, q_bin, q_c, q_callb, q_cons, q_nil, q_tup, q_lst, q_celle, q_ret, q_nx, q_thl, q_thd, q_isi, q_neg, q_neg_i, q_callk, q_drop, q_retn, q_brk, q_cnt, q_ife, q_add_i, q_sub_i, q_lt_i, q_le_i, q_gt_i, q_ge_i, q_eq_i, q_ne_i, List.map_cons, List.map_nil, List.length_cons, List.length_nil, List.replicate, List.append_nil, List.nil_append, List.cons_append, Nat.reduceAdd, Nat.reduceSub, List.getElem?_cons_zero, List.getElem?_cons_succ, List.set_cons_zero, List.set_cons_succ, Bool.not_true, Bool.not_false, decide_true, decide_false, if_true, if_false, q_mkx, s1, s2]; rfl)]
  have f1 : ∀ a b c d : D, dXf vwO xL_part "part" (.xob "BadProgram" ["why", "place", "number", "part"] [a, b, c, d]) = .ok d := fun _ _ _ _ => rfl
  have f2 : ∀ a b c d : D, dXf vwO xL_number "number" (.xob "BadProgram" ["why", "place", "number", "part"] [a, b, c, d]) = .ok c := fun _ _ _ _ => rfl
  have f3 : ∀ a b c d : D, dXf vwO xL_place "place" (.xob "BadProgram" ["why", "place", "number", "part"] [a, b, c, d]) = .ok b := fun _ _ _ _ => rfl
  have f4 : ∀ a b c d : D, dXf vwO xL_why "why" (.xob "BadProgram" ["why", "place", "number", "part"] [a, b, c, d]) = .ok a := fun _ _ _ _ => rfl
  have f5 : ∀ a b : D, dXf vwO xL_line "line" (.xob "BadText" ["why", "line"] [a, b]) = .ok b := fun _ _ => rfl
  have f6 : ∀ a b : D, dXf vwO xL_why "why" (.xob "BadText" ["why", "line"] [a, b]) = .ok a := fun _ _ => rfl
  have f7 : ∀ a : D, dXf vwO xL_at "at" (.xob "BadCode" ["at"] [a]) = .ok a := fun _ => rfl
  have f8 : ∀ a b c d : D, dXf vwO xL_number "number" (.xob "Refused" ["other", "walk", "why", "number"] [a, b, c, d]) = .ok d := fun _ _ _ _ => rfl
  have f9 : ∀ a b c d : D, dXf vwO xL_why "why" (.xob "Refused" ["other", "walk", "why", "number"] [a, b, c, d]) = .ok c := fun _ _ _ _ => rfl
  have f10 : ∀ a b c d : D, dXf vwO xL_walk "walk" (.xob "Refused" ["other", "walk", "why", "number"] [a, b, c, d]) = .ok b := fun _ _ _ _ => rfl
  have f11 : ∀ a b c d : D, dXf vwO xL_other "other" (.xob "Refused" ["other", "walk", "why", "number"] [a, b, c, d]) = .ok a := fun _ _ _ _ => rfl
  rw [seq_nx (r' := [some (.val (.int n)), some (.val (.str t)), some (.val (.xob "BadProgram" ["why", "place", "number", "part"] [.str u, .int (n - 1), .int n, .str t])), some (.val (.xob "BadText" ["why", "line"] [.str t, .int n])), some (.val (.xob "BadCode" ["at"] [.int n])), some (.val (.xob "Refused" ["other", "walk", "why", "number"] [.tup [.int n], .tup [.int 0, .int n], .str t, .int n]))]) (by
    simp only [q_df, q_st, q_sq, q_at_nx, q_at_rt, q_at_bk, q_at_ct, q_at_ex, q_mi, q_sel_t, q_sel_f, q_out_rt, q_out_nx, q_out_ex, q_rb_ok, q_rb_bad, q_rb_exc, q_tf_ok, q_v0, q_vs, q_w0, q_w0o, q_ws, q_tbq, q_asb, q_nt, q_rsel_t, q_rsel_f, q_ta, q_to, q_va, q_vo, q_vn, q_sett, q_seto, q_bin, q_c, q_callb, q_cons, q_nil, q_tup, q_lst, q_celle, q_ret, q_nx, q_thl, q_thd, q_isi, q_neg, q_neg_i, q_callk, q_drop, q_retn, q_brk, q_cnt, q_ife, q_add_i, q_sub_i, q_lt_i, q_le_i, q_gt_i, q_ge_i, q_eq_i, q_ne_i, List.map_cons, List.map_nil, List.length_cons, List.length_nil, List.replicate, List.append_nil, List.nil_append, List.cons_append, Nat.reduceAdd, Nat.reduceSub, List.getElem?_cons_zero, List.getElem?_cons_succ, List.set_cons_zero, List.set_cons_succ, Bool.not_true, Bool.not_false, decide_true, decide_false, if_true, if_false, q_xf, f1, f2, f3, f4, f5, f6, s2, s4, ha, n1, n2])]
  rw [seq_nx (r' := [some (.val (.int n)), some (.val (.str t)), some (.val (.xob "BadProgram" ["why", "place", "number", "part"] [.str u, .int (n - 1), .int n, .str t])), some (.val (.xob "BadText" ["why", "line"] [.str t, .int n])), some (.val (.xob "BadCode" ["at"] [.int n])), some (.val (.xob "Refused" ["other", "walk", "why", "number"] [.tup [.int n], .tup [.int 0, .int n], .str t, .int n]))]) (by
    simp only [q_df, q_st, q_sq, q_at_nx, q_at_rt, q_at_bk, q_at_ct, q_at_ex, q_mi, q_sel_t, q_sel_f, q_out_rt, q_out_nx, q_out_ex, q_rb_ok, q_rb_bad, q_rb_exc, q_tf_ok, q_v0, q_vs, q_w0, q_w0o, q_ws, q_tbq, q_asb, q_nt, q_rsel_t, q_rsel_f, q_ta, q_to, q_va, q_vo, q_vn, q_sett, q_seto, q_bin, q_c, q_callb, q_cons, q_nil, q_tup, q_lst, q_celle, q_ret, q_nx, q_thl, q_thd, q_isi, q_neg, q_neg_i, q_callk, q_drop, q_retn, q_brk, q_cnt, q_ife, q_add_i, q_sub_i, q_lt_i, q_le_i, q_gt_i, q_ge_i, q_eq_i, q_ne_i, List.map_cons, List.map_nil, List.length_cons, List.length_nil, List.replicate, List.append_nil, List.nil_append, List.cons_append, Nat.reduceAdd, Nat.reduceSub, List.getElem?_cons_zero, List.getElem?_cons_succ, List.set_cons_zero, List.set_cons_succ, Bool.not_true, Bool.not_false, decide_true, decide_false, if_true, if_false, q_xf, f7, f8, f9, f10, f11, s1, s2, s4, n3])]
  simp only [q_df, q_st, q_sq, q_at_nx, q_at_rt, q_at_bk, q_at_ct, q_at_ex, q_mi, q_sel_t, q_sel_f, q_out_rt, q_out_nx, q_out_ex, q_rb_ok, q_rb_bad, q_rb_exc, q_tf_ok, q_v0, q_vs, q_w0, q_w0o, q_ws, q_tbq, q_asb, q_nt, q_rsel_t, q_rsel_f, q_ta, q_to, q_va, q_vo, q_vn, q_sett, q_seto, q_bin, q_c, q_callb, q_cons, q_nil, q_tup, q_lst, q_celle, q_ret, q_nx, q_thl, q_thd, q_isi, q_neg, q_neg_i, q_callk, q_drop, q_retn, q_brk, q_cnt, q_ife, q_add_i, q_sub_i, q_lt_i, q_le_i, q_gt_i, q_ge_i, q_eq_i, q_ne_i, List.map_cons, List.map_nil, List.length_cons, List.length_nil, List.replicate, List.append_nil, List.nil_append, List.cons_append, Nat.reduceAdd, Nat.reduceSub, List.getElem?_cons_zero, List.getElem?_cons_succ, List.set_cons_zero, List.set_cons_succ, Bool.not_true, Bool.not_false, decide_true, decide_false, if_true, if_false, e_ap0, e_ap1, e_ap2, e_ap3]
theorem e_more (n : Int) (t : Str) (ht : t ∈ ([("count" : Str), "", "kind", "x"] : List Str)) : m_law_more_errors_kept [.int n, .str t] = .ok (.bl true) := by
  have hs : t.length + ("x" : Str).length ≤ sizeLine := by
    simp only [List.mem_cons, List.not_mem_nil, or_false] at ht
    rcases ht with rfl | rfl | rfl | rfl <;> decide
  have ho : PyData.strOk t = true ∧ PyData.strOk (t ++ ("x" : Str)) = true := by
    simp only [List.mem_cons, List.not_mem_nil, or_false] at ht
    rcases ht with rfl | rfl | rfl | rfl <;> decide +kernel
  have ha : dAdd (.str t) (.str "x") = .ok (.str (t ++ ("x" : Str))) := if_pos hs
  obtain ⟨u, hu⟩ : ∃ u : Str, u = t ++ ("x" : Str) := ⟨_, rfl⟩
  rw [← hu] at ha ho
  have s2 : (2 : Nat) ≤ sizeLine := by decide
  have s3 : (3 : Nat) ≤ sizeLine := by decide
  have n1 : dNe (.tup [.str t, .int n, .str u]) (.tup [.str t, .int n, .str u]) = .ok (.bl false) := ne_f (b := false) (by simp [clean, cleanL, ho]) (by simp [depD, depL])
  have n2 : dNe (.tup [.int n, .str t]) (.tup [.int n, .str t]) = .ok (.bl false) := ne_f (b := false) (by simp [clean, cleanL, ho]) (by simp [depD, depL])
  refine def_of ?_
  rw [show mStart 7 [D.int n, D.str t] = [some (.val (.int n)), some (.val (.str t)), none, none, none, none, none] from rfl]
  rw [seq_nx (r' := [some (.val (.int n)), some (.val (.str t)), some (.val (.xob "BadArguments" [] [])), none, none, none, none]) (by simp only [q_df, q_st, q_sq, q_at_nx, q_at_rt, q_at_bk, q_at_ct, q_at_ex, q_mi, q_sel_t, q_sel_f, q_out_rt, q_out_nx, q_out_ex, q_rb_ok, q_rb_bad, q_rb_exc, q_tf_ok, q_v0, q_vs, q_w0, q_w0o, q_ws, q_tbq, q_asb, q_nt, q_rsel_t, q_rsel_f, q_ta, q_to, q_va, q_vo, q_vn, q_sett, q_seto, q_bin, q_c, q_callb, q_cons, q_nil, q_tup, q_lst, q_celle, q_ret, q_nx, q_thl, q_thd, q_isi, q_neg, q_neg_i, q_callk, q_drop, q_retn, q_brk, q_cnt, q_ife, q_add_i, q_sub_i, q_lt_i, q_le_i, q_gt_i, q_ge_i, q_eq_i, q_ne_i, List.map_cons, List.map_nil, List.length_cons, List.length_nil, List.replicate, List.append_nil, List.nil_append, List.cons_append, Nat.reduceAdd, Nat.reduceSub, List.getElem?_cons_zero, List.getElem?_cons_succ, List.set_cons_zero, List.set_cons_succ, Bool.not_true, Bool.not_false, decide_true, decide_false, if_true, if_false, q_mkx0])]
  rw [seq_nx (r' := [some (.val (.int n)), some (.val (.str t)), some (.val (.xob "BadArguments" [] [])), some (.val (.xob "BadPicture" ["why", "number", "part"] [.str u, .int n, .str t])), none, none, none]) (by simp only [q_df, q_st, q_sq, q_at_nx, q_at_rt, q_at_bk, q_at_ct, q_at_ex, q_mi, q_sel_t, q_sel_f, q_out_rt, q_out_nx, q_out_ex, q_rb_ok, q_rb_bad, q_rb_exc, q_tf_ok, q_v0, q_vs, q_w0, q_w0o, q_ws, q_tbq, q_asb, q_nt, q_rsel_t, q_rsel_f, q_ta, q_to, q_va, q_vo, q_vn, q_sett, q_seto, q_bin, q_c, q_callb, q_cons, q_nil, q_tup, q_lst, q_celle, q_ret, q_nx, q_thl, q_thd, q_isi, q_neg, q_neg_i, q_callk, q_drop, q_retn, q_brk, q_cnt, q_ife, q_add_i, q_sub_i, q_lt_i, q_le_i, q_gt_i, q_ge_i, q_eq_i, q_ne_i, List.map_cons, List.map_nil, List.length_cons, List.length_nil, List.replicate, List.append_nil, List.nil_append, List.cons_append, Nat.reduceAdd, Nat.reduceSub, List.getElem?_cons_zero, List.getElem?_cons_succ, List.set_cons_zero, List.set_cons_succ, Bool.not_true, Bool.not_false, decide_true, decide_false, if_true, if_false, q_mkx, ha]; rfl)]
  rw [seq_nx (r' := [some (.val (.int n)), some (.val (.str t)), some (.val (.xob "BadArguments" [] [])), some (.val (.xob "BadPicture" ["why", "number", "part"] [.str u, .int n, .str t])), some (.val (.xob "BadImage" ["why", "line"] [.str t, .int n])), none, none]) (by simp only [q_df, q_st, q_sq, q_at_nx, q_at_rt, q_at_bk, q_at_ct, q_at_ex, q_mi, q_sel_t, q_sel_f, q_out_rt, q_out_nx, q_out_ex, q_rb_ok, q_rb_bad, q_rb_exc, q_tf_ok, q_v0, q_vs, q_w0, q_w0o, q_ws, q_tbq, q_asb, q_nt, q_rsel_t, q_rsel_f, q_ta, q_to, q_va, q_vo, q_vn, q_sett, q_seto, q_bin, q_c, q_callb, q_cons, q_nil, q_tup, q_lst, q_celle, q_ret, q_nx, q_thl, q_thd, q_isi, q_neg, q_neg_i, q_callk, q_drop, q_retn, q_brk, q_cnt, q_ife, q_add_i, q_sub_i, q_lt_i, q_le_i, q_gt_i, q_ge_i, q_eq_i, q_ne_i, List.map_cons, List.map_nil, List.length_cons, List.length_nil, List.replicate, List.append_nil, List.nil_append, List.cons_append, Nat.reduceAdd, Nat.reduceSub, List.getElem?_cons_zero, List.getElem?_cons_succ, List.set_cons_zero, List.set_cons_succ, Bool.not_true, Bool.not_false, decide_true, decide_false, if_true, if_false, q_mkx]; rfl)]
  rw [seq_nx (r' := [some (.val (.int n)), some (.val (.str t)), some (.val (.xob "BadArguments" [] [])), some (.val (.xob "BadPicture" ["why", "number", "part"] [.str u, .int n, .str t])), some (.val (.xob "BadImage" ["why", "line"] [.str t, .int n])), some (.val (.xob "NoRoom" ["words"] [.int n])), none]) (by simp only [q_df, q_st, q_sq, q_at_nx, q_at_rt, q_at_bk, q_at_ct, q_at_ex, q_mi, q_sel_t, q_sel_f, q_out_rt, q_out_nx, q_out_ex, q_rb_ok, q_rb_bad, q_rb_exc, q_tf_ok, q_v0, q_vs, q_w0, q_w0o, q_ws, q_tbq, q_asb, q_nt, q_rsel_t, q_rsel_f, q_ta, q_to, q_va, q_vo, q_vn, q_sett, q_seto, q_bin, q_c, q_callb, q_cons, q_nil, q_tup, q_lst, q_celle, q_ret, q_nx, q_thl, q_thd, q_isi, q_neg, q_neg_i, q_callk, q_drop, q_retn, q_brk, q_cnt, q_ife, q_add_i, q_sub_i, q_lt_i, q_le_i, q_gt_i, q_ge_i, q_eq_i, q_ne_i, List.map_cons, List.map_nil, List.length_cons, List.length_nil, List.replicate, List.append_nil, List.nil_append, List.cons_append, Nat.reduceAdd, Nat.reduceSub, List.getElem?_cons_zero, List.getElem?_cons_succ, List.set_cons_zero, List.set_cons_succ, Bool.not_true, Bool.not_false, decide_true, decide_false, if_true, if_false, q_mkx]; rfl)]
  rw [seq_nx (r' := [some (.val (.int n)), some (.val (.str t)), some (.val (.xob "BadArguments" [] [])), some (.val (.xob "BadPicture" ["why", "number", "part"] [.str u, .int n, .str t])), some (.val (.xob "BadImage" ["why", "line"] [.str t, .int n])), some (.val (.xob "NoRoom" ["words"] [.int n])), some (.val (.xob "NoObject" ["number"] [.int n]))]) (by simp only [q_df, q_st, q_sq, q_at_nx, q_at_rt, q_at_bk, q_at_ct, q_at_ex, q_mi, q_sel_t, q_sel_f, q_out_rt, q_out_nx, q_out_ex, q_rb_ok, q_rb_bad, q_rb_exc, q_tf_ok, q_v0, q_vs, q_w0, q_w0o, q_ws, q_tbq, q_asb, q_nt, q_rsel_t, q_rsel_f, q_ta, q_to, q_va, q_vo, q_vn, q_sett, q_seto, q_bin, q_c, q_callb, q_cons, q_nil, q_tup, q_lst, q_celle, q_ret, q_nx, q_thl, q_thd, q_isi, q_neg, q_neg_i, q_callk, q_drop, q_retn, q_brk, q_cnt, q_ife, q_add_i, q_sub_i, q_lt_i, q_le_i, q_gt_i, q_ge_i, q_eq_i, q_ne_i, List.map_cons, List.map_nil, List.length_cons, List.length_nil, List.replicate, List.append_nil, List.nil_append, List.cons_append, Nat.reduceAdd, Nat.reduceSub, List.getElem?_cons_zero, List.getElem?_cons_succ, List.set_cons_zero, List.set_cons_succ, Bool.not_true, Bool.not_false, decide_true, decide_false, if_true, if_false, q_mkx]; rfl)]
  have f1 : ∀ a b c : D, dXf vwO xL_part "part" (.xob "BadPicture" ["why", "number", "part"] [a, b, c]) = .ok c := fun _ _ _ => rfl
  have f2 : ∀ a b c : D, dXf vwO xL_number "number" (.xob "BadPicture" ["why", "number", "part"] [a, b, c]) = .ok b := fun _ _ _ => rfl
  have f4 : ∀ a b c : D, dXf vwO xL_why "why" (.xob "BadPicture" ["why", "number", "part"] [a, b, c]) = .ok a := fun _ _ _ => rfl
  have f5 : ∀ a b : D, dXf vwO xL_line "line" (.xob "BadImage" ["why", "line"] [a, b]) = .ok b := fun _ _ => rfl
  have f6 : ∀ a b : D, dXf vwO xL_why "why" (.xob "BadImage" ["why", "line"] [a, b]) = .ok a := fun _ _ => rfl
  have f7 : ∀ a : D, dXf vwO xL_words "words" (.xob "NoRoom" ["words"] [a]) = .ok a := fun _ => rfl
  have f8 : ∀ a : D, dXf vwO xL_number "number" (.xob "NoObject" ["number"] [a]) = .ok a := fun _ => rfl
  rw [seq_nx (r' := [some (.val (.int n)), some (.val (.str t)), some (.val (.xob "BadArguments" [] [])), some (.val (.xob "BadPicture" ["why", "number", "part"] [.str u, .int n, .str t])), some (.val (.xob "BadImage" ["why", "line"] [.str t, .int n])), some (.val (.xob "NoRoom" ["words"] [.int n])), some (.val (.xob "NoObject" ["number"] [.int n]))]) (by
    simp only [q_df, q_st, q_sq, q_at_nx, q_at_rt, q_at_bk, q_at_ct, q_at_ex, q_mi, q_sel_t, q_sel_f, q_out_rt, q_out_nx, q_out_ex, q_rb_ok, q_rb_bad, q_rb_exc, q_tf_ok, q_v0, q_vs, q_w0, q_w0o, q_ws, q_tbq, q_asb, q_nt, q_rsel_t, q_rsel_f, q_ta, q_to, q_va, q_vo, q_vn, q_sett, q_seto, q_bin, q_c, q_callb, q_cons, q_nil, q_tup, q_lst, q_celle, q_ret, q_nx, q_thl, q_thd, q_isi, q_neg, q_neg_i, q_callk, q_drop, q_retn, q_brk, q_cnt, q_ife, q_add_i, q_sub_i, q_lt_i, q_le_i, q_gt_i, q_ge_i, q_eq_i, q_ne_i, List.map_cons, List.map_nil, List.length_cons, List.length_nil, List.replicate, List.append_nil, List.nil_append, List.cons_append, Nat.reduceAdd, Nat.reduceSub, List.getElem?_cons_zero, List.getElem?_cons_succ, List.set_cons_zero, List.set_cons_succ, Bool.not_true, Bool.not_false, decide_true, decide_false, if_true, if_false, q_xf, f1, f2, f4, f5, f6, s2, s3, ha, n1, n2])]
  rw [seq_nx (r' := [some (.val (.int n)), some (.val (.str t)), some (.val (.xob "BadArguments" [] [])), some (.val (.xob "BadPicture" ["why", "number", "part"] [.str u, .int n, .str t])), some (.val (.xob "BadImage" ["why", "line"] [.str t, .int n])), some (.val (.xob "NoRoom" ["words"] [.int n])), some (.val (.xob "NoObject" ["number"] [.int n]))]) (by
    simp only [q_df, q_st, q_sq, q_at_nx, q_at_rt, q_at_bk, q_at_ct, q_at_ex, q_mi, q_sel_t, q_sel_f, q_out_rt, q_out_nx, q_out_ex, q_rb_ok, q_rb_bad, q_rb_exc, q_tf_ok, q_v0, q_vs, q_w0, q_w0o, q_ws, q_tbq, q_asb, q_nt, q_rsel_t, q_rsel_f, q_ta, q_to, q_va, q_vo, q_vn, q_sett, q_seto, q_bin, q_c, q_callb, q_cons, q_nil, q_tup, q_lst, q_celle, q_ret, q_nx, q_thl, q_thd, q_isi, q_neg, q_neg_i, q_callk, q_drop, q_retn, q_brk, q_cnt, q_ife, q_add_i, q_sub_i, q_lt_i, q_le_i, q_gt_i, q_ge_i, q_eq_i, q_ne_i, List.map_cons, List.map_nil, List.length_cons, List.length_nil, List.replicate, List.append_nil, List.nil_append, List.cons_append, Nat.reduceAdd, Nat.reduceSub, List.getElem?_cons_zero, List.getElem?_cons_succ, List.set_cons_zero, List.set_cons_succ, Bool.not_true, Bool.not_false, decide_true, decide_false, if_true, if_false, q_xf, f7, f8, e_ap4, e_ap5])]
  simp only [q_df, q_st, q_sq, q_at_nx, q_at_rt, q_at_bk, q_at_ct, q_at_ex, q_mi, q_sel_t, q_sel_f, q_out_rt, q_out_nx, q_out_ex, q_rb_ok, q_rb_bad, q_rb_exc, q_tf_ok, q_v0, q_vs, q_w0, q_w0o, q_ws, q_tbq, q_asb, q_nt, q_rsel_t, q_rsel_f, q_ta, q_to, q_va, q_vo, q_vn, q_sett, q_seto, q_bin, q_c, q_callb, q_cons, q_nil, q_tup, q_lst, q_celle, q_ret, q_nx, q_thl, q_thd, q_isi, q_neg, q_neg_i, q_callk, q_drop, q_retn, q_brk, q_cnt, q_ife, q_add_i, q_sub_i, q_lt_i, q_le_i, q_gt_i, q_ge_i, q_eq_i, q_ne_i, List.map_cons, List.map_nil, List.length_cons, List.length_nil, List.replicate, List.append_nil, List.nil_append, List.cons_append, Nat.reduceAdd, Nat.reduceSub, List.getElem?_cons_zero, List.getElem?_cons_succ, List.set_cons_zero, List.set_cons_succ, Bool.not_true, Bool.not_false, decide_true, decide_false, if_true, if_false, e_ap6, e_ap7, e_ap8]
/-! ### the walk to the first octet below 128 -/
def seqK (X : D) (xs : List Int) : Prop := X = .lst (xs.map D.int) ∨ X = .tup (xs.map D.int)
theorem getX {xs : List Int} {i : Nat} (h : i < xs.length) : (xs.map D.int)[i]? = some (.int (xs.getD i 0)) := by
  rw [List.getElem?_map, List.getElem?_eq_getElem h, List.getD_eq_getElem?_getD, List.getElem?_eq_getElem h]
  rfl
theorem seqK.ix {X : D} {xs : List Int} (h : seqK X xs) {i : Int} {j : Nat} (e : i = (j : Int)) (h1 : j < xs.length) : dIx X (.int i) = .ok (.int (xs.getD j 0)) := by
  subst e
  rcases h with rfl | rfl
  · exact q_ix rfl (by omega) (by rw [show ((j : Int)).toNat = j by omega]; exact getX h1)
  · exact q_ix rfl (by omega) (by rw [show ((j : Int)).toNat = j by omega]; exact getX h1)
theorem seqK.len {X : D} {xs : List Int} (h : seqK X xs) : dLen [X] = .ok (.int xs.length) := by
  rcases h with rfl | rfl
  · rw [q_len_l, List.length_map]
  · rw [q_len_t, List.length_map]
theorem rgD_cons {lo : Int} {n : Nat} : rgD lo (n + 1) = .int lo :: rgD (lo + 1) n := by
  unfold rgD
  rw [List.range_succ_eq_map, List.map_cons, List.map_map]
  congr 1
  · simp
  · apply List.map_congr_left
    intro i _
    show D.int (lo + ((i + 1 : Nat) : Int)) = D.int (lo + 1 + (i : Int))
    congr 1
    omega
def fst (xs : List Int) (at_ : Nat) : Nat → Option Nat
  | 0 => none
  | n + 1 => if xs.getD at_ 0 < 128 then some at_ else fst xs (at_ + 1) n
theorem fst_some {xs : List Int} : ∀ {n a l : Nat}, fst xs a n = some l → a ≤ l ∧ l < a + n ∧ xs.getD l 0 < 128 ∧ ∀ i, a ≤ i → i < l → ¬ xs.getD i 0 < 128
  | 0, a, l, h => by simp [fst] at h
  | n + 1, a, l, h => by
    unfold fst at h
    split at h
    · cases h
      exact ⟨Nat.le_refl _, by omega, by assumption, fun i h1 h2 => by omega⟩
    · rename_i hx
      obtain ⟨h1, h2, h3, h4⟩ := fst_some h
      refine ⟨by omega, by omega, h3, fun i g1 g2 => ?_⟩
      by_cases e : i = a
      · subst e; exact hx
      · exact h4 i (by omega) g2
theorem e_lloop {X : D} {xs : List Int} (hX : seqK X xs) (y : Option EV) : ∀ (n a : Nat) (x2 : Option EV), a + n ≤ xs.length →
    (∀ l, fst xs a n = some l → loopL (bName 2) b_last_index_1 (rgD a n) [some (.val X), y, x2] = .rt (.int l)) ∧ (fst xs a n = none → ∃ x3, loopL (bName 2) b_last_index_1 (rgD a n) [some (.val X), y, x2] = .nx [some (.val X), y, x3])
  | 0, a, x2, _ => by
    refine ⟨fun l h => by simp [fst] at h, fun _ => ⟨x2, ?_⟩⟩
    simp [rgD, loopL]
  | n + 1, a, x2, hl => by
    have e := hX.ix (i := (a : Int)) rfl (show a < xs.length by omega)
    rw [rgD_cons]
    unfold fst
    by_cases h : xs.getD a 0 < 128
    · rw [if_pos h]
      have eb : b_last_index_1 [some (.val X), y, some (.val (.int a))] = .rt (.int a) := by
        generalize xs.getD a 0 = z at *
        simp (disch := omega) only [b_last_index_1, q_df, q_st, q_sq, q_at_nx, q_at_rt, q_at_bk, q_at_ct, q_at_ex, q_mi, q_sel_t, q_sel_f, q_out_rt, q_out_nx, q_out_ex, q_rb_ok, q_rb_bad, q_rb_exc, q_tf_ok, q_v0, q_vs, q_w0, q_w0o, q_ws, q_tbq, q_asb, q_nt, q_rsel_t, q_rsel_f, q_ta, q_to, q_va, q_vo, q_vn, q_sett, q_seto, q_bin, q_c, q_callb, q_cons, q_nil, q_tup, q_lst, q_celle, q_ret, q_nx, q_thl, q_thd, q_isi, q_neg, q_neg_i, q_callk, q_drop, q_retn, q_brk, q_cnt, q_ife, q_add_i, q_sub_i, List.map_cons, List.map_nil, List.length_cons, List.length_nil, List.replicate, List.append_nil, List.nil_append, List.cons_append, Nat.reduceAdd, Nat.reduceSub, List.getElem?_cons_zero, List.getElem?_cons_succ, List.set_cons_zero, List.set_cons_succ, Bool.not_true, Bool.not_false, decide_true, decide_false, if_true, if_false, t_lt_t, t_lt_f, t_le_t, t_le_f, t_gt_t, t_gt_f, t_ge_t, t_ge_f, t_eq_t, t_eq_f, t_ne_t, t_ne_f, t_is_b, t_isn_b, t_is_i, t_is_n, t_isn_i, t_isn_n, t_abs_n, t_abs_p, t_min, t_max, t_ixl, t_ixt, t_ixs, t_ixL, q_opt, q_ixo, q_oc0, q_ocs, q_oa0, q_oas, t_appd, q_app, t_putd, q_six, q_flopt, q_frz, q_int_i, q_mul_s, q_mod_i, q_div_i, q_len_s, q_len_l, q_len_t, q_items_s, q_items_l, q_items_t, t_szl, Int.reduceToNat, Int.reduceNeg, permL, List.filterMap_cons, List.filterMap_nil, eq_self, if_true, if_false, ite_true, ite_false, Bool.true_eq_false, Bool.false_eq_true, e]
      refine ⟨fun l hl => ?_, fun z => by simp at z⟩
      cases hl
      simp only [loopL, bName, List.set_cons_succ, List.set_cons_zero, eb]
    · rw [if_neg h]
      have eb : b_last_index_1 [some (.val X), y, some (.val (.int a))] = .nx [some (.val X), y, some (.val (.int a))] := by
        generalize xs.getD a 0 = z at *
        simp (disch := omega) only [b_last_index_1, q_df, q_st, q_sq, q_at_nx, q_at_rt, q_at_bk, q_at_ct, q_at_ex, q_mi, q_sel_t, q_sel_f, q_out_rt, q_out_nx, q_out_ex, q_rb_ok, q_rb_bad, q_rb_exc, q_tf_ok, q_v0, q_vs, q_w0, q_w0o, q_ws, q_tbq, q_asb, q_nt, q_rsel_t, q_rsel_f, q_ta, q_to, q_va, q_vo, q_vn, q_sett, q_seto, q_bin, q_c, q_callb, q_cons, q_nil, q_tup, q_lst, q_celle, q_ret, q_nx, q_thl, q_thd, q_isi, q_neg, q_neg_i, q_callk, q_drop, q_retn, q_brk, q_cnt, q_ife, q_add_i, q_sub_i, List.map_cons, List.map_nil, List.length_cons, List.length_nil, List.replicate, List.append_nil, List.nil_append, List.cons_append, Nat.reduceAdd, Nat.reduceSub, List.getElem?_cons_zero, List.getElem?_cons_succ, List.set_cons_zero, List.set_cons_succ, Bool.not_true, Bool.not_false, decide_true, decide_false, if_true, if_false, t_lt_t, t_lt_f, t_le_t, t_le_f, t_gt_t, t_gt_f, t_ge_t, t_ge_f, t_eq_t, t_eq_f, t_ne_t, t_ne_f, t_is_b, t_isn_b, t_is_i, t_is_n, t_isn_i, t_isn_n, t_abs_n, t_abs_p, t_min, t_max, t_ixl, t_ixt, t_ixs, t_ixL, q_opt, q_ixo, q_oc0, q_ocs, q_oa0, q_oas, t_appd, q_app, t_putd, q_six, q_flopt, q_frz, q_int_i, q_mul_s, q_mod_i, q_div_i, q_len_s, q_len_l, q_len_t, q_items_s, q_items_l, q_items_t, t_szl, Int.reduceToNat, Int.reduceNeg, permL, List.filterMap_cons, List.filterMap_nil, eq_self, if_true, if_false, ite_true, ite_false, Bool.true_eq_false, Bool.false_eq_true, e]
      rw [loop_cons (r2 := [some (.val X), y, some (.val (.int a))]) (by exact eb)]
      have := e_lloop hX y n (a + 1) (some (.val (.int a))) (by omega)
      rw [show ((a : Int)) + 1 = ((a + 1 : Nat) : Int) by omega]
      exact this
theorem e_last {X : D} {xs : List Int} (hX : seqK X xs) (hs : xs.length ≤ 1000) {a : Nat} (ha : a ≤ xs.length) :
    m_last_index [X, .int a] = match fst xs a (xs.length - a) with
      | some l => .ok (.int l)
      | none => .exc "BadCode" ["at"] [.int xs.length] := by
  obtain ⟨h1, h2⟩ := e_lloop hX (some (.val (.int a))) (xs.length - a) a none (by omega)
  have er : mRg (mCons (mVar 1) (mCons (mCallB dLen (mCons (mVar 0) mNil)) mNil)) [some (.val X), some (.val (.int a)), none] = .ok (rgD a (xs.length - a)) := by
    simp only [q_df, q_st, q_sq, q_at_nx, q_at_rt, q_at_bk, q_at_ct, q_at_ex, q_mi, q_sel_t, q_sel_f, q_out_rt, q_out_nx, q_out_ex, q_rb_ok, q_rb_bad, q_rb_exc, q_tf_ok, q_v0, q_vs, q_w0, q_w0o, q_ws, q_tbq, q_asb, q_nt, q_rsel_t, q_rsel_f, q_ta, q_to, q_va, q_vo, q_vn, q_sett, q_seto, q_bin, q_c, q_callb, q_cons, q_nil, q_tup, q_lst, q_celle, q_ret, q_nx, q_thl, q_thd, q_isi, q_neg, q_neg_i, q_callk, q_drop, q_retn, q_brk, q_cnt, q_ife, q_add_i, q_sub_i, q_lt_i, q_le_i, q_gt_i, q_ge_i, q_eq_i, q_ne_i, List.map_cons, List.map_nil, List.length_cons, List.length_nil, List.replicate, List.append_nil, List.nil_append, List.cons_append, Nat.reduceAdd, Nat.reduceSub, List.getElem?_cons_zero, List.getElem?_cons_succ, List.set_cons_zero, List.set_cons_succ, Bool.not_true, Bool.not_false, decide_true, decide_false, if_true, if_false, q_rg, hX.len]
    rw [q_rg2 (by omega) (by omega) (by omega) (by omega)]
    congr 2
    omega
  cases e : fst xs a (xs.length - a) with
  | some l =>
    refine def_of ?_
    rw [show mStart 3 [X, D.int a] = [some (.val X), some (.val (.int a)), none] from rfl]
    exact seq_rt (for_rt er (h1 l e))
  | none =>
    obtain ⟨x3, h3⟩ := h2 e
    unfold m_last_index
    rw [q_df, show mStart 3 [X, D.int a] = [some (.val X), some (.val (.int a)), none] from rfl]
    rw [seq_nx (for_nx er h3)]
    unfold mRaise
    simp only [q_df, q_st, q_sq, q_at_nx, q_at_rt, q_at_bk, q_at_ct, q_at_ex, q_mi, q_sel_t, q_sel_f, q_out_rt, q_out_nx, q_out_ex, q_rb_ok, q_rb_bad, q_rb_exc, q_tf_ok, q_v0, q_vs, q_w0, q_w0o, q_ws, q_tbq, q_asb, q_nt, q_rsel_t, q_rsel_f, q_ta, q_to, q_va, q_vo, q_vn, q_sett, q_seto, q_bin, q_c, q_callb, q_cons, q_nil, q_tup, q_lst, q_celle, q_ret, q_nx, q_thl, q_thd, q_isi, q_neg, q_neg_i, q_callk, q_drop, q_retn, q_brk, q_cnt, q_ife, q_add_i, q_sub_i, q_lt_i, q_le_i, q_gt_i, q_ge_i, q_eq_i, q_ne_i, List.map_cons, List.map_nil, List.length_cons, List.length_nil, List.replicate, List.append_nil, List.nil_append, List.cons_append, Nat.reduceAdd, Nat.reduceSub, List.getElem?_cons_zero, List.getElem?_cons_succ, List.set_cons_zero, List.set_cons_succ, Bool.not_true, Bool.not_false, decide_true, decide_false, if_true, if_false, hX.len]
    rfl
/-! ### the integer -/
def vv (xs : List Int) (l : Nat) : Nat → Int
  | 0 => 0
  | k + 1 => 128 * vv xs l k + xs.getD (l - k) 0 % 128
theorem vv_bd {xs : List Int} {l : Nat} : ∀ k, 0 ≤ vv xs l k ∧ vv xs l k < 128 ^ k
  | 0 => by simp [vv]
  | k + 1 => by
    obtain ⟨h1, h2⟩ := vv_bd (xs := xs) (l := l) k
    have m0 := Int.emod_nonneg (xs.getD (l - k) 0) (show (128 : Int) ≠ 0 by omega)
    have m1 := Int.emod_lt_of_pos (xs.getD (l - k) 0) (show (0 : Int) < 128 by omega)
    unfold vv
    rw [Int.pow_succ]
    omega
theorem vv_5 {xs : List Int} {l k : Nat} (hk : k ≤ 5) : 0 ≤ vv xs l k ∧ vv xs l k < 34359738368 := by
  obtain ⟨h1, h2⟩ := vv_bd (xs := xs) (l := l) k
  refine ⟨h1, Int.lt_of_lt_of_le h2 ?_⟩
  have : (128 : Int) ^ k ≤ 128 ^ 5 := by
    have : k = 0 ∨ k = 1 ∨ k = 2 ∨ k = 3 ∨ k = 4 ∨ k = 5 := by omega
    rcases this with rfl | rfl | rfl | rfl | rfl | rfl <;> decide
  have e : (128 : Int) ^ 5 = 34359738368 := by decide
  omega
/-- what is due -/
def oc (xs : List Int) (a : Nat) : D := match fst xs a (xs.length - a) with
  | none => .lst [.non, .int xs.length]
  | some l => if l - a > 4 ∨ (l > a ∧ xs.getD l 0 = 0) then .lst [.non, .int a] else .lst [.int (vv xs l (l - a + 1)), .int ((l : Int) + 1)]
def Oct (xs : List Int) : Prop := ∀ i, 0 ≤ xs.getD i 0 ∧ xs.getD i 0 < 256
theorem rgC_get {lo c : Int} {n i : Nat} {d : D} (h : (rgC lo c n)[i]? = some d) : i < n ∧ d = .int (lo + (i : Int) * c) := by
  unfold rgC at h
  rw [List.getElem?_map] at h
  by_cases hi : i < n
  · simp [hi] at h
    exact ⟨hi, h.symm⟩
  · simp [hi] at h
theorem e_decode {X : D} {xs : List Int} (hX : seqK X xs) (hO : Oct xs) (hs : xs.length ≤ 1000) {a : Nat} (ha : a ≤ xs.length) :
    m_decode_number [X, .int a] = match fst xs a (xs.length - a) with
      | none => .exc "BadCode" ["at"] [.int xs.length]
      | some l => if l - a > 4 ∨ (l > a ∧ xs.getD l 0 = 0) then .exc "BadCode" ["at"] [.int a] else .ok (.tup [.int (vv xs l (l - a + 1)), .int ((l : Int) + 1)]) := by
  have el := e_last hX hs ha
  unfold m_decode_number
  rw [q_df, show mStart 5 [X, D.int a] = [some (.val X), some (.val (.int a)), none, none, none] from rfl]
  cases e : fst xs a (xs.length - a) with
  | none =>
    rw [e] at el
    rw [q_sq, q_sett]
    simp only [q_df, q_st, q_sq, q_at_nx, q_at_rt, q_at_bk, q_at_ct, q_at_ex, q_mi, q_sel_t, q_sel_f, q_out_rt, q_out_nx, q_out_ex, q_rb_ok, q_rb_bad, q_rb_exc, q_tf_ok, q_v0, q_vs, q_w0, q_w0o, q_ws, q_tbq, q_asb, q_nt, q_rsel_t, q_rsel_f, q_ta, q_to, q_va, q_vo, q_vn, q_sett, q_seto, q_bin, q_c, q_callb, q_cons, q_nil, q_tup, q_lst, q_celle, q_ret, q_nx, q_thl, q_thd, q_isi, q_neg, q_neg_i, q_callk, q_drop, q_retn, q_brk, q_cnt, q_ife, q_add_i, q_sub_i, q_lt_i, q_le_i, q_gt_i, q_ge_i, q_eq_i, q_ne_i, List.map_cons, List.map_nil, List.length_cons, List.length_nil, List.replicate, List.append_nil, List.nil_append, List.cons_append, Nat.reduceAdd, Nat.reduceSub, List.getElem?_cons_zero, List.getElem?_cons_succ, List.set_cons_zero, List.set_cons_succ, Bool.not_true, Bool.not_false, decide_true, decide_false, if_true, if_false, el, toFl]
  | some l =>
    rw [e] at el
    obtain ⟨f1, f2, f3, f4⟩ := fst_some e
    have el2 : l < xs.length := by omega
    have ex := hX.ix (i := (l : Int)) rfl el2
    simp only at el ⊢
    rw [seq_nx (r' := [some (.val X), some (.val (.int a)), some (.val (.int l)), none, none]) (by simp only [q_df, q_st, q_sq, q_at_nx, q_at_rt, q_at_bk, q_at_ct, q_at_ex, q_mi, q_sel_t, q_sel_f, q_out_rt, q_out_nx, q_out_ex, q_rb_ok, q_rb_bad, q_rb_exc, q_tf_ok, q_v0, q_vs, q_w0, q_w0o, q_ws, q_tbq, q_asb, q_nt, q_rsel_t, q_rsel_f, q_ta, q_to, q_va, q_vo, q_vn, q_sett, q_seto, q_bin, q_c, q_callb, q_cons, q_nil, q_tup, q_lst, q_celle, q_ret, q_nx, q_thl, q_thd, q_isi, q_neg, q_neg_i, q_callk, q_drop, q_retn, q_brk, q_cnt, q_ife, q_add_i, q_sub_i, q_lt_i, q_le_i, q_gt_i, q_ge_i, q_eq_i, q_ne_i, List.map_cons, List.map_nil, List.length_cons, List.length_nil, List.replicate, List.append_nil, List.nil_append, List.cons_append, Nat.reduceAdd, Nat.reduceSub, List.getElem?_cons_zero, List.getElem?_cons_succ, List.set_cons_zero, List.set_cons_succ, Bool.not_true, Bool.not_false, decide_true, decide_false, if_true, if_false, el])]
    by_cases hb : l - a > 4 ∨ (l > a ∧ xs.getD l 0 = 0)
    · rw [if_pos hb]
      have : mIf (mTOr (mTB (mBin dGt (mBin dSub (mVar 2) (mVar 1)) (mC (.int 4)))) (mTAnd (mTB (mBin dGt (mVar 2) (mVar 1))) (mTB (mBin dEq (mBin dIx (mVar 0) (mVar 2)) (mC (.int 0)))))) (mRaise "BadCode" ["at"] (mCons (mVar 1) mNil)) mNx [some (.val X), some (.val (.int a)), some (.val (.int l)), none, none]
          = .ex "BadCode" ["at"] [.int a] [some (.val X), some (.val (.int a)), some (.val (.int l)), none, none] := by
        by_cases h1 : (4 : Int) < (l : Int) - (a : Int)
        · simp (disch := omega) only [q_df, q_st, q_sq, q_at_nx, q_at_rt, q_at_bk, q_at_ct, q_at_ex, q_mi, q_sel_t, q_sel_f, q_out_rt, q_out_nx, q_out_ex, q_rb_ok, q_rb_bad, q_rb_exc, q_tf_ok, q_v0, q_vs, q_w0, q_w0o, q_ws, q_tbq, q_asb, q_nt, q_rsel_t, q_rsel_f, q_ta, q_to, q_va, q_vo, q_vn, q_sett, q_seto, q_bin, q_c, q_callb, q_cons, q_nil, q_tup, q_lst, q_celle, q_ret, q_nx, q_thl, q_thd, q_isi, q_neg, q_neg_i, q_callk, q_drop, q_retn, q_brk, q_cnt, q_ife, q_add_i, q_sub_i, List.map_cons, List.map_nil, List.length_cons, List.length_nil, List.replicate, List.append_nil, List.nil_append, List.cons_append, Nat.reduceAdd, Nat.reduceSub, List.getElem?_cons_zero, List.getElem?_cons_succ, List.set_cons_zero, List.set_cons_succ, Bool.not_true, Bool.not_false, decide_true, decide_false, if_true, if_false, t_lt_t, t_lt_f, t_le_t, t_le_f, t_gt_t, t_gt_f, t_ge_t, t_ge_f, t_eq_t, t_eq_f, t_ne_t, t_ne_f, t_is_b, t_isn_b, t_is_i, t_is_n, t_isn_i, t_isn_n, t_abs_n, t_abs_p, t_min, t_max, t_ixl, t_ixt, t_ixs, t_ixL, q_opt, q_ixo, q_oc0, q_ocs, q_oa0, q_oas, t_appd, q_app, t_putd, q_six, q_flopt, q_frz, q_int_i, q_mul_s, q_mod_i, q_div_i, q_len_s, q_len_l, q_len_t, q_items_s, q_items_l, q_items_t, t_szl, Int.reduceToNat, Int.reduceNeg, permL, List.filterMap_cons, List.filterMap_nil, eq_self, if_true, if_false, ite_true, ite_false, Bool.true_eq_false, Bool.false_eq_true]
          rfl
        · have h2 : (a : Int) < (l : Int) ∧ xs.getD l 0 = 0 := by omega
          obtain ⟨h2, h3⟩ := h2
          generalize xs.getD l 0 = z at *
          simp (disch := omega) only [q_df, q_st, q_sq, q_at_nx, q_at_rt, q_at_bk, q_at_ct, q_at_ex, q_mi, q_sel_t, q_sel_f, q_out_rt, q_out_nx, q_out_ex, q_rb_ok, q_rb_bad, q_rb_exc, q_tf_ok, q_v0, q_vs, q_w0, q_w0o, q_ws, q_tbq, q_asb, q_nt, q_rsel_t, q_rsel_f, q_ta, q_to, q_va, q_vo, q_vn, q_sett, q_seto, q_bin, q_c, q_callb, q_cons, q_nil, q_tup, q_lst, q_celle, q_ret, q_nx, q_thl, q_thd, q_isi, q_neg, q_neg_i, q_callk, q_drop, q_retn, q_brk, q_cnt, q_ife, q_add_i, q_sub_i, List.map_cons, List.map_nil, List.length_cons, List.length_nil, List.replicate, List.append_nil, List.nil_append, List.cons_append, Nat.reduceAdd, Nat.reduceSub, List.getElem?_cons_zero, List.getElem?_cons_succ, List.set_cons_zero, List.set_cons_succ, Bool.not_true, Bool.not_false, decide_true, decide_false, if_true, if_false, t_lt_t, t_lt_f, t_le_t, t_le_f, t_gt_t, t_gt_f, t_ge_t, t_ge_f, t_eq_t, t_eq_f, t_ne_t, t_ne_f, t_is_b, t_isn_b, t_is_i, t_is_n, t_isn_i, t_isn_n, t_abs_n, t_abs_p, t_min, t_max, t_ixl, t_ixt, t_ixs, t_ixL, q_opt, q_ixo, q_oc0, q_ocs, q_oa0, q_oas, t_appd, q_app, t_putd, q_six, q_flopt, q_frz, q_int_i, q_mul_s, q_mod_i, q_div_i, q_len_s, q_len_l, q_len_t, q_items_s, q_items_l, q_items_t, t_szl, Int.reduceToNat, Int.reduceNeg, permL, List.filterMap_cons, List.filterMap_nil, eq_self, if_true, if_false, ite_true, ite_false, Bool.true_eq_false, Bool.false_eq_true, ex]
          rfl
      rw [q_sq, this, q_at_ex, q_out_ex]
    · rw [if_neg hb]
      rw [seq_nx (r' := [some (.val X), some (.val (.int a)), some (.val (.int l)), none, none]) (by
        have h1 : ¬ (4 : Int) < (l : Int) - (a : Int) := by omega
        by_cases h2 : (a : Int) < (l : Int)
        · have h3 : ¬ xs.getD l 0 = 0 := by omega
          generalize xs.getD l 0 = z at *
          simp (disch := omega) only [q_df, q_st, q_sq, q_at_nx, q_at_rt, q_at_bk, q_at_ct, q_at_ex, q_mi, q_sel_t, q_sel_f, q_out_rt, q_out_nx, q_out_ex, q_rb_ok, q_rb_bad, q_rb_exc, q_tf_ok, q_v0, q_vs, q_w0, q_w0o, q_ws, q_tbq, q_asb, q_nt, q_rsel_t, q_rsel_f, q_ta, q_to, q_va, q_vo, q_vn, q_sett, q_seto, q_bin, q_c, q_callb, q_cons, q_nil, q_tup, q_lst, q_celle, q_ret, q_nx, q_thl, q_thd, q_isi, q_neg, q_neg_i, q_callk, q_drop, q_retn, q_brk, q_cnt, q_ife, q_add_i, q_sub_i, List.map_cons, List.map_nil, List.length_cons, List.length_nil, List.replicate, List.append_nil, List.nil_append, List.cons_append, Nat.reduceAdd, Nat.reduceSub, List.getElem?_cons_zero, List.getElem?_cons_succ, List.set_cons_zero, List.set_cons_succ, Bool.not_true, Bool.not_false, decide_true, decide_false, if_true, if_false, t_lt_t, t_lt_f, t_le_t, t_le_f, t_gt_t, t_gt_f, t_ge_t, t_ge_f, t_eq_t, t_eq_f, t_ne_t, t_ne_f, t_is_b, t_isn_b, t_is_i, t_is_n, t_isn_i, t_isn_n, t_abs_n, t_abs_p, t_min, t_max, t_ixl, t_ixt, t_ixs, t_ixL, q_opt, q_ixo, q_oc0, q_ocs, q_oa0, q_oas, t_appd, q_app, t_putd, q_six, q_flopt, q_frz, q_int_i, q_mul_s, q_mod_i, q_div_i, q_len_s, q_len_l, q_len_t, q_items_s, q_items_l, q_items_t, t_szl, Int.reduceToNat, Int.reduceNeg, permL, List.filterMap_cons, List.filterMap_nil, eq_self, if_true, if_false, ite_true, ite_false, Bool.true_eq_false, Bool.false_eq_true, ex]
        · simp (disch := omega) only [q_df, q_st, q_sq, q_at_nx, q_at_rt, q_at_bk, q_at_ct, q_at_ex, q_mi, q_sel_t, q_sel_f, q_out_rt, q_out_nx, q_out_ex, q_rb_ok, q_rb_bad, q_rb_exc, q_tf_ok, q_v0, q_vs, q_w0, q_w0o, q_ws, q_tbq, q_asb, q_nt, q_rsel_t, q_rsel_f, q_ta, q_to, q_va, q_vo, q_vn, q_sett, q_seto, q_bin, q_c, q_callb, q_cons, q_nil, q_tup, q_lst, q_celle, q_ret, q_nx, q_thl, q_thd, q_isi, q_neg, q_neg_i, q_callk, q_drop, q_retn, q_brk, q_cnt, q_ife, q_add_i, q_sub_i, List.map_cons, List.map_nil, List.length_cons, List.length_nil, List.replicate, List.append_nil, List.nil_append, List.cons_append, Nat.reduceAdd, Nat.reduceSub, List.getElem?_cons_zero, List.getElem?_cons_succ, List.set_cons_zero, List.set_cons_succ, Bool.not_true, Bool.not_false, decide_true, decide_false, if_true, if_false, t_lt_t, t_lt_f, t_le_t, t_le_f, t_gt_t, t_gt_f, t_ge_t, t_ge_f, t_eq_t, t_eq_f, t_ne_t, t_ne_f, t_is_b, t_isn_b, t_is_i, t_is_n, t_isn_i, t_isn_n, t_abs_n, t_abs_p, t_min, t_max, t_ixl, t_ixt, t_ixs, t_ixL, q_opt, q_ixo, q_oc0, q_ocs, q_oa0, q_oas, t_appd, q_app, t_putd, q_six, q_flopt, q_frz, q_int_i, q_mul_s, q_mod_i, q_div_i, q_len_s, q_len_l, q_len_t, q_items_s, q_items_l, q_items_t, t_szl, Int.reduceToNat, Int.reduceNeg, permL, List.filterMap_cons, List.filterMap_nil, eq_self, if_true, if_false, ite_true, ite_false, Bool.true_eq_false, Bool.false_eq_true])]
      rw [seq_nx (r' := [some (.val X), some (.val (.int a)), some (.val (.int l)), some (.val (.int (xs.getD l 0))), none]) (by simp only [q_df, q_st, q_sq, q_at_nx, q_at_rt, q_at_bk, q_at_ct, q_at_ex, q_mi, q_sel_t, q_sel_f, q_out_rt, q_out_nx, q_out_ex, q_rb_ok, q_rb_bad, q_rb_exc, q_tf_ok, q_v0, q_vs, q_w0, q_w0o, q_ws, q_tbq, q_asb, q_nt, q_rsel_t, q_rsel_f, q_ta, q_to, q_va, q_vo, q_vn, q_sett, q_seto, q_bin, q_c, q_callb, q_cons, q_nil, q_tup, q_lst, q_celle, q_ret, q_nx, q_thl, q_thd, q_isi, q_neg, q_neg_i, q_callk, q_drop, q_retn, q_brk, q_cnt, q_ife, q_add_i, q_sub_i, q_lt_i, q_le_i, q_gt_i, q_ge_i, q_eq_i, q_ne_i, List.map_cons, List.map_nil, List.length_cons, List.length_nil, List.replicate, List.append_nil, List.nil_append, List.cons_append, Nat.reduceAdd, Nat.reduceSub, List.getElem?_cons_zero, List.getElem?_cons_succ, List.set_cons_zero, List.set_cons_succ, Bool.not_true, Bool.not_false, decide_true, decide_false, if_true, if_false, ex])]
      have v1 : xs.getD l 0 = vv xs l 1 := by
        have := hO l
        show _ = 128 * 0 + xs.getD (l - 0) 0 % 128
        rw [Nat.sub_zero]
        omega
      rw [v1]
      obtain ⟨r2, e3, x4, hr⟩ := for_inv (i := 4) (body := b_decode_number_1) (fun j r => ∃ x4, r = [some (.val X), some (.val (.int a)), some (.val (.int l)), some (.val (.int (vv xs l (j + 1)))), x4])
        (ds := rgC ((l : Int) - 1) (-1) (l - a)) (r := [some (.val X), some (.val (.int a)), some (.val (.int l)), some (.val (.int (vv xs l 1))), none]) ⟨none, rfl⟩ (fun j d r hd ⟨x4, hr⟩ => by
          subst hr
          obtain ⟨hj, rfl⟩ := rgC_get hd
          have ex2 := hX.ix (i := (l : Int) - 1 + (j : Int) * (-1)) (j := l - (j + 1)) (by omega) (by omega)
          have := f4 (l - (j + 1)) (by omega) (by omega)
          have := hO (l - (j + 1))
          obtain ⟨b0, b1⟩ := vv_5 (xs := xs) (l := l) (k := j + 1) (by omega)
          have ev : vv xs l (j + 1 + 1) = 128 * vv xs l (j + 1) + xs.getD (l - (j + 1)) 0 - 128 := by
            rw [show vv xs l (j + 1 + 1) = 128 * vv xs l (j + 1) + xs.getD (l - (j + 1)) 0 % 128 from rfl]
            omega
          refine ⟨[some (.val X), some (.val (.int a)), some (.val (.int l)), some (.val (.int (vv xs l (j + 1 + 1)))), some (.val (.int ((l : Int) - 1 + (j : Int) * (-1))))], ?_, _, rfl⟩
          show b_decode_number_1 [some (.val X), some (.val (.int a)), some (.val (.int l)), some (.val (.int (vv xs l (j + 1)))), some (.val (.int ((l : Int) - 1 + (j : Int) * (-1))))] = _
          rw [ev]
          generalize vv xs l (j + 1) = v at *
          generalize (l : Int) - 1 + (j : Int) * (-1) = i at *
          simp (disch := omega) only [b_decode_number_1, q_df, q_st, q_sq, q_at_nx, q_at_rt, q_at_bk, q_at_ct, q_at_ex, q_mi, q_sel_t, q_sel_f, q_out_rt, q_out_nx, q_out_ex, q_rb_ok, q_rb_bad, q_rb_exc, q_tf_ok, q_v0, q_vs, q_w0, q_w0o, q_ws, q_tbq, q_asb, q_nt, q_rsel_t, q_rsel_f, q_ta, q_to, q_va, q_vo, q_vn, q_sett, q_seto, q_bin, q_c, q_callb, q_cons, q_nil, q_tup, q_lst, q_celle, q_ret, q_nx, q_thl, q_thd, q_isi, q_neg, q_neg_i, q_callk, q_drop, q_retn, q_brk, q_cnt, q_ife, q_add_i, q_sub_i, List.map_cons, List.map_nil, List.length_cons, List.length_nil, List.replicate, List.append_nil, List.nil_append, List.cons_append, Nat.reduceAdd, Nat.reduceSub, List.getElem?_cons_zero, List.getElem?_cons_succ, List.set_cons_zero, List.set_cons_succ, Bool.not_true, Bool.not_false, decide_true, decide_false, if_true, if_false, t_lt_t, t_lt_f, t_le_t, t_le_f, t_gt_t, t_gt_f, t_ge_t, t_ge_f, t_eq_t, t_eq_f, t_ne_t, t_ne_f, t_is_b, t_isn_b, t_is_i, t_is_n, t_isn_i, t_isn_n, t_abs_n, t_abs_p, t_min, t_max, t_ixl, t_ixt, t_ixs, t_ixL, q_opt, q_ixo, q_oc0, q_ocs, q_oa0, q_oas, t_appd, q_app, t_putd, q_six, q_flopt, q_frz, q_int_i, q_mul_s, q_mod_i, q_div_i, q_len_s, q_len_l, q_len_t, q_items_s, q_items_l, q_items_t, t_szl, Int.reduceToNat, Int.reduceNeg, permL, List.filterMap_cons, List.filterMap_nil, eq_self, if_true, if_false, ite_true, ite_false, Bool.true_eq_false, Bool.false_eq_true, ex2])
      have hlen : (rgC ((l : Int) - 1) (-1) (l - a)).length = l - a := by simp [rgC]
      rw [hlen] at hr
      subst hr
      rw [seq_nx (for_nx (ds := rgC ((l : Int) - 1) (-1) (l - a)) (by
        show mRg3 _ _ = _
        unfold mRg3
        simp only [q_df, q_st, q_sq, q_at_nx, q_at_rt, q_at_bk, q_at_ct, q_at_ex, q_mi, q_sel_t, q_sel_f, q_out_rt, q_out_nx, q_out_ex, q_rb_ok, q_rb_bad, q_rb_exc, q_tf_ok, q_v0, q_vs, q_w0, q_w0o, q_ws, q_tbq, q_asb, q_nt, q_rsel_t, q_rsel_f, q_ta, q_to, q_va, q_vo, q_vn, q_sett, q_seto, q_bin, q_c, q_callb, q_cons, q_nil, q_tup, q_lst, q_celle, q_ret, q_nx, q_thl, q_thd, q_isi, q_neg, q_neg_i, q_callk, q_drop, q_retn, q_brk, q_cnt, q_ife, q_add_i, q_sub_i, q_lt_i, q_le_i, q_gt_i, q_ge_i, q_eq_i, q_ne_i, List.map_cons, List.map_nil, List.length_cons, List.length_nil, List.replicate, List.append_nil, List.nil_append, List.cons_append, Nat.reduceAdd, Nat.reduceSub, List.getElem?_cons_zero, List.getElem?_cons_succ, List.set_cons_zero, List.set_cons_succ, Bool.not_true, Bool.not_false, decide_true, decide_false, if_true, if_false]
        show (if okR _ ∧ okR _ ∧ (-1 : Int) = -1 then R.ok (rgC _ (-1) _) else R.bad) = _
        rw [if_pos ⟨by unfold okR; omega, by unfold okR; omega, rfl⟩]
        congr 2
        omega) e3)]
      simp only [q_df, q_st, q_sq, q_at_nx, q_at_rt, q_at_bk, q_at_ct, q_at_ex, q_mi, q_sel_t, q_sel_f, q_out_rt, q_out_nx, q_out_ex, q_rb_ok, q_rb_bad, q_rb_exc, q_tf_ok, q_v0, q_vs, q_w0, q_w0o, q_ws, q_tbq, q_asb, q_nt, q_rsel_t, q_rsel_f, q_ta, q_to, q_va, q_vo, q_vn, q_sett, q_seto, q_bin, q_c, q_callb, q_cons, q_nil, q_tup, q_lst, q_celle, q_ret, q_nx, q_thl, q_thd, q_isi, q_neg, q_neg_i, q_callk, q_drop, q_retn, q_brk, q_cnt, q_ife, q_add_i, q_sub_i, q_lt_i, q_le_i, q_gt_i, q_ge_i, q_eq_i, q_ne_i, List.map_cons, List.map_nil, List.length_cons, List.length_nil, List.replicate, List.append_nil, List.nil_append, List.cons_append, Nat.reduceAdd, Nat.reduceSub, List.getElem?_cons_zero, List.getElem?_cons_succ, List.set_cons_zero, List.set_cons_succ, Bool.not_true, Bool.not_false, decide_true, decide_false, if_true, if_false, show (2 : Nat) ≤ sizeLine from by decide]
/-! ### what the program does at an index -/
theorem tryas_ex {i : Nat} {ct : Str → Option Bool} {ms : MS} {mu : Nat → Nat → Str → MS} {r r' : Sc} {c : Str} {ns : List Str} {xs : List D} {f : Fl} (h1 : ms r = .ex c ns xs r') (h2 : ct c = some true) (h3 : ns ≠ []) (h4 : ∀ a dx, mu a dx c (r'.set i (some (.val (.exv a dx c ns xs)))) = f) : mTryAs i ct ms mu r = fin i f := by
  unfold mTryAs
  rw [h1]
  simp only [h2]
  rw [if_pos ⟨h3, fun a dx => by rw [h4, h4]⟩, h4]
theorem tryas_nx {i : Nat} {ct : Str → Option Bool} {ms : MS} {mu : Nat → Nat → Str → MS} {r r' : Sc} (h1 : ms r = .nx r') : mTryAs i ct ms mu r = .nx r' := by
  unfold mTryAs
  rw [h1]
noncomputable def muC : Nat → Nat → Str → MS := (fun a dx c => (mSeq (mIf (mTOr (mTNot (mTB (mCallH m_law_whole (mCons (mXf (vwE a dx c) xL_at "at" (mVar 3)) mNil)))) (mTOr (mTNot (mTB (mIsx (vwE a dx c) (fun c => List.lookup c tb_QuietError) (mVar 3)))) (mTNot (mTB (mIsx (vwE a dx c) (fun c => List.lookup c tb_ValueError) (mVar 3)))))) (mRet (mCellE (mLst mNil))) mNx) (mSeq (mIf (mTB (mIsxT (vwE a dx c) xAll [fun c => List.lookup c tb_BadProgram, fun c => List.lookup c tb_BadText, fun c => List.lookup c tb_Refused, fun c => List.lookup c tb_BadArguments, fun c => List.lookup c tb_BadPicture, fun c => List.lookup c tb_BadImage, fun c => List.lookup c tb_NoRoom, fun c => List.lookup c tb_NoObject] (mVar 3))) (mRet (mCellE (mLst mNil))) mNx) (mRet (mCellE (mLst (mCons (mC .non) (mCons (mXf (vwE a dx c) xL_at "at" (mVar 3)) mNil))))))))
theorem e_suite (a dx : Nat) (x0 x1 x2 : Option EV) (n : Int) : muC a dx "BadCode" [x0, x1, x2, some (.val (.exv a dx "BadCode" ["at"] [.int n]))] = .rt (.lst [.non, .int n]) := by
  have hv : vwE a dx "BadCode" (.exv a dx "BadCode" ["at"] [.int n]) = some (("BadCode" : Str), ([("at" : Str)] : List Str), ([.int n] : List D)) := by
    unfold vwE
    simp
  have hx : dXf (vwE a dx "BadCode") xL_at "at" (.exv a dx "BadCode" ["at"] [.int n]) = .ok (.int n) := by
    unfold dXf
    rw [hv]
    rfl
  have hi : ∀ (tab : Str → Option Bool) (b : Bool), tab "BadCode" = some b → dIsx (vwE a dx "BadCode") tab (.exv a dx "BadCode" ["at"] [.int n]) = .ok (.bl b) := fun tab b h => by
    unfold dIsx
    rw [hv]
    simp only [h]
  have i1 := hi (fun c => List.lookup c tb_QuietError) true (by decide +kernel)
  have i2 := hi (fun c => List.lookup c tb_ValueError) true (by decide +kernel)
  have i3 := hi (fun c => if c ∈ xAll then anyB [List.lookup c tb_BadProgram, List.lookup c tb_BadText, List.lookup c tb_Refused, List.lookup c tb_BadArguments, List.lookup c tb_BadPicture, List.lookup c tb_BadImage, List.lookup c tb_NoRoom, List.lookup c tb_NoObject] else none) false (by decide +kernel)
  have s2 : (2 : Nat) ≤ sizeLine := by decide
  have ew : nox (m_law_whole [.int n]) = .ok (.bl true) := rfl
  simp only [muC, mIsxT, mIsx, mXf, mCallH, q_df, q_st, q_sq, q_at_nx, q_at_rt, q_at_bk, q_at_ct, q_at_ex, q_mi, q_sel_t, q_sel_f, q_out_rt, q_out_nx, q_out_ex, q_rb_ok, q_rb_bad, q_rb_exc, q_tf_ok, q_v0, q_vs, q_w0, q_w0o, q_ws, q_tbq, q_asb, q_nt, q_rsel_t, q_rsel_f, q_ta, q_to, q_va, q_vo, q_vn, q_sett, q_seto, q_bin, q_c, q_callb, q_cons, q_nil, q_tup, q_lst, q_celle, q_ret, q_nx, q_thl, q_thd, q_isi, q_neg, q_neg_i, q_callk, q_drop, q_retn, q_brk, q_cnt, q_ife, q_add_i, q_sub_i, q_lt_i, q_le_i, q_gt_i, q_ge_i, q_eq_i, q_ne_i, List.map_cons, List.map_nil, List.length_cons, List.length_nil, List.replicate, List.append_nil, List.nil_append, List.cons_append, Nat.reduceAdd, Nat.reduceSub, List.getElem?_cons_zero, List.getElem?_cons_succ, List.set_cons_zero, List.set_cons_succ, Bool.not_true, Bool.not_false, decide_true, decide_false, if_true, if_false, hx, i1, i2, i3, ew, s2]
theorem e_outcome {X : D} {xs : List Int} (hX : seqK X xs) (hO : Oct xs) (hs : xs.length ≤ 1000) {a : Nat} (ha : a ≤ xs.length) : m_law_outcome [X, .int a] = .ok (oc xs a) := by
  have ed := e_decode hX hO hs ha
  have cat : ∀ n : Int, m_decode_number [X, .int a] = .exc "BadCode" ["at"] [.int n] → m_law_outcome [X, .int a] = .ok (.lst [.non, .int n]) := fun n h => by
    refine def_of ?_
    rw [show mStart 4 [X, D.int a] = [some (.val X), some (.val (.int a)), none, none] from rfl]
    refine seq_rt ?_
    have eb : mSet 2 (mCallB m_decode_number (mCons (mVar 0) (mCons (mVar 1) mNil))) [some (.val X), some (.val (.int a)), none, none] = .ex "BadCode" ["at"] [.int n] [some (.val X), some (.val (.int a)), none, none] := by
      rw [q_sett]
      simp only [q_df, q_st, q_sq, q_at_nx, q_at_rt, q_at_bk, q_at_ct, q_at_ex, q_mi, q_sel_t, q_sel_f, q_out_rt, q_out_nx, q_out_ex, q_rb_ok, q_rb_bad, q_rb_exc, q_tf_ok, q_v0, q_vs, q_w0, q_w0o, q_ws, q_tbq, q_asb, q_nt, q_rsel_t, q_rsel_f, q_ta, q_to, q_va, q_vo, q_vn, q_sett, q_seto, q_bin, q_c, q_callb, q_cons, q_nil, q_tup, q_lst, q_celle, q_ret, q_nx, q_thl, q_thd, q_isi, q_neg, q_neg_i, q_callk, q_drop, q_retn, q_brk, q_cnt, q_ife, q_add_i, q_sub_i, q_lt_i, q_le_i, q_gt_i, q_ge_i, q_eq_i, q_ne_i, List.map_cons, List.map_nil, List.length_cons, List.length_nil, List.replicate, List.append_nil, List.nil_append, List.cons_append, Nat.reduceAdd, Nat.reduceSub, List.getElem?_cons_zero, List.getElem?_cons_succ, List.set_cons_zero, List.set_cons_succ, Bool.not_true, Bool.not_false, decide_true, decide_false, if_true, if_false, h, toFl]
    exact tryas_ex (i := 3) (ct := fun c => List.lookup c ct_BadCode) (mu := muC) (f := .rt (.lst [.non, .int n])) eb (by decide +kernel) (fun z => nomatch z) fun aa dx => e_suite aa dx (some (.val X)) (some (.val (.int a))) none n
  unfold oc
  cases e : fst xs a (xs.length - a) with
  | none =>
    rw [e] at ed
    exact cat _ ed
  | some l =>
    rw [e] at ed
    simp only at ed ⊢
    by_cases hb : l - a > 4 ∨ (l > a ∧ xs.getD l 0 = 0)
    · rw [if_pos hb] at ed ⊢
      exact cat _ ed
    · rw [if_neg hb] at ed ⊢
      generalize vv xs l (l - a + 1) = v at *
      generalize (l : Int) + 1 = q at *
      refine def_of ?_
      rw [show mStart 4 [X, D.int a] = [some (.val X), some (.val (.int a)), none, none] from rfl]
      have eb : mSet 2 (mCallB m_decode_number (mCons (mVar 0) (mCons (mVar 1) mNil))) [some (.val X), some (.val (.int a)), none, none] = .nx [some (.val X), some (.val (.int a)), some (.val (.tup [.int v, .int q])), none] := by
        simp only [q_df, q_st, q_sq, q_at_nx, q_at_rt, q_at_bk, q_at_ct, q_at_ex, q_mi, q_sel_t, q_sel_f, q_out_rt, q_out_nx, q_out_ex, q_rb_ok, q_rb_bad, q_rb_exc, q_tf_ok, q_v0, q_vs, q_w0, q_w0o, q_ws, q_tbq, q_asb, q_nt, q_rsel_t, q_rsel_f, q_ta, q_to, q_va, q_vo, q_vn, q_sett, q_seto, q_bin, q_c, q_callb, q_cons, q_nil, q_tup, q_lst, q_celle, q_ret, q_nx, q_thl, q_thd, q_isi, q_neg, q_neg_i, q_callk, q_drop, q_retn, q_brk, q_cnt, q_ife, q_add_i, q_sub_i, q_lt_i, q_le_i, q_gt_i, q_ge_i, q_eq_i, q_ne_i, List.map_cons, List.map_nil, List.length_cons, List.length_nil, List.replicate, List.append_nil, List.nil_append, List.cons_append, Nat.reduceAdd, Nat.reduceSub, List.getElem?_cons_zero, List.getElem?_cons_succ, List.set_cons_zero, List.set_cons_succ, Bool.not_true, Bool.not_false, decide_true, decide_false, if_true, if_false, ed]
      rw [seq_nx (tryas_nx eb)]
      have ei : dIsi "tuple" (.tup [.int v, .int q]) = .ok (.bl true) := rfl
      have s2 : (2 : Nat) ≤ sizeLine := by decide
      simp (disch := omega) only [q_df, q_st, q_sq, q_at_nx, q_at_rt, q_at_bk, q_at_ct, q_at_ex, q_mi, q_sel_t, q_sel_f, q_out_rt, q_out_nx, q_out_ex, q_rb_ok, q_rb_bad, q_rb_exc, q_tf_ok, q_v0, q_vs, q_w0, q_w0o, q_ws, q_tbq, q_asb, q_nt, q_rsel_t, q_rsel_f, q_ta, q_to, q_va, q_vo, q_vn, q_sett, q_seto, q_bin, q_c, q_callb, q_cons, q_nil, q_tup, q_lst, q_celle, q_ret, q_nx, q_thl, q_thd, q_isi, q_neg, q_neg_i, q_callk, q_drop, q_retn, q_brk, q_cnt, q_ife, q_add_i, q_sub_i, List.map_cons, List.map_nil, List.length_cons, List.length_nil, List.replicate, List.append_nil, List.nil_append, List.cons_append, Nat.reduceAdd, Nat.reduceSub, List.getElem?_cons_zero, List.getElem?_cons_succ, List.set_cons_zero, List.set_cons_succ, Bool.not_true, Bool.not_false, decide_true, decide_false, if_true, if_false, t_lt_t, t_lt_f, t_le_t, t_le_f, t_gt_t, t_gt_f, t_ge_t, t_ge_f, t_eq_t, t_eq_f, t_ne_t, t_ne_f, t_is_b, t_isn_b, t_is_i, t_is_n, t_isn_i, t_isn_n, t_abs_n, t_abs_p, t_min, t_max, t_ixl, t_ixt, t_ixs, t_ixL, q_opt, q_ixo, q_oc0, q_ocs, q_oa0, q_oas, t_appd, q_app, t_putd, q_six, q_flopt, q_frz, q_int_i, q_mul_s, q_mod_i, q_div_i, q_len_s, q_len_l, q_len_t, q_items_s, q_items_l, q_items_t, t_szl, Int.reduceToNat, Int.reduceNeg, permL, List.filterMap_cons, List.filterMap_nil, eq_self, if_true, if_false, ite_true, ite_false, Bool.true_eq_false, Bool.false_eq_true, ei, e_whole, s2, List.getElem?_cons_zero, List.getElem?_cons_succ, t_if]
/-! ### the law's own reading -/
theorem fnd_loop {xs : List Int} (x0 x1 x4 x5 : Option EV) (h0 : x0 = some (.val (.lst (xs.map D.int)))) : ∀ (n a : Nat) (acc : List D), a + n ≤ xs.length → acc.length + n ≤ 1000 →
    ∃ ys : List Nat, compL (bName 3) (mTB (mBin dLt (mBin dIx (mVar 0) (mVar 3)) (mC (.int 128)))) e_law_read_at_1 [x0, x1, none, none, x4, x5] (rgD a n) acc = .ok (.l (acc ++ ys.map fun (i : Nat) => D.int (i : Int))) ∧ ys.head? = fst xs a n
  | 0, a, acc, _, _ => ⟨[], by simp [rgD, compL], rfl⟩
  | n + 1, a, acc, hl, hc => by
    subst h0
    have e := (show seqK (.lst (xs.map D.int)) xs from .inl rfl).ix (i := (a : Int)) rfl (show a < xs.length by omega)
    rw [rgD_cons, show ((a : Int)) + 1 = ((a + 1 : Nat) : Int) by omega]
    unfold fst
    simp only [compL, bName, List.set_cons_succ, List.set_cons_zero]
    by_cases h : xs.getD a 0 < 128
    · rw [if_pos h]
      have et : mTB (mBin dLt (mBin dIx (mVar 0) (mVar 3)) (mC (.int 128))) [some (.val (.lst (xs.map D.int))), x1, none, some (.val (.int (a : Int))), x4, x5] = .ok true := by
        generalize xs.getD a 0 = z at *
        simp (disch := omega) only [q_df, q_st, q_sq, q_at_nx, q_at_rt, q_at_bk, q_at_ct, q_at_ex, q_mi, q_sel_t, q_sel_f, q_out_rt, q_out_nx, q_out_ex, q_rb_ok, q_rb_bad, q_rb_exc, q_tf_ok, q_v0, q_vs, q_w0, q_w0o, q_ws, q_tbq, q_asb, q_nt, q_rsel_t, q_rsel_f, q_ta, q_to, q_va, q_vo, q_vn, q_sett, q_seto, q_bin, q_c, q_callb, q_cons, q_nil, q_tup, q_lst, q_celle, q_ret, q_nx, q_thl, q_thd, q_isi, q_neg, q_neg_i, q_callk, q_drop, q_retn, q_brk, q_cnt, q_ife, q_add_i, q_sub_i, List.map_cons, List.map_nil, List.length_cons, List.length_nil, List.replicate, List.append_nil, List.nil_append, List.cons_append, Nat.reduceAdd, Nat.reduceSub, List.getElem?_cons_zero, List.getElem?_cons_succ, List.set_cons_zero, List.set_cons_succ, Bool.not_true, Bool.not_false, decide_true, decide_false, if_true, if_false, t_lt_t, t_lt_f, t_le_t, t_le_f, t_gt_t, t_gt_f, t_ge_t, t_ge_f, t_eq_t, t_eq_f, t_ne_t, t_ne_f, t_is_b, t_isn_b, t_is_i, t_is_n, t_isn_i, t_isn_n, t_abs_n, t_abs_p, t_min, t_max, t_ixl, t_ixt, t_ixs, t_ixL, q_opt, q_ixo, q_oc0, q_ocs, q_oa0, q_oas, t_appd, q_app, t_putd, q_six, q_flopt, q_frz, q_int_i, q_mul_s, q_mod_i, q_div_i, q_len_s, q_len_l, q_len_t, q_items_s, q_items_l, q_items_t, t_szl, Int.reduceToNat, Int.reduceNeg, permL, List.filterMap_cons, List.filterMap_nil, eq_self, if_true, if_false, ite_true, ite_false, Bool.true_eq_false, Bool.false_eq_true, e]
      obtain ⟨ys, e2, _⟩ := fnd_loop (some (.val (.lst (xs.map D.int)))) x1 x4 x5 rfl n (a + 1) (acc ++ [.int (a : Int)]) (by omega) (by simp; omega)
      refine ⟨a :: ys, ?_, rfl⟩
      have e3 : e_law_read_at_1 [some (.val (.lst (xs.map D.int))), x1, none, some (.val (.int (a : Int))), x4, x5] = .ok (.int a) := rfl
      simp only [et, R.ne, q_rb_ok, e3]
      rw [if_pos (Nat.lt_of_lt_of_le (show acc.length < 16777216 by omega) sizeLine_big), e2]
      simp
    · rw [if_neg h]
      have et : mTB (mBin dLt (mBin dIx (mVar 0) (mVar 3)) (mC (.int 128))) [some (.val (.lst (xs.map D.int))), x1, none, some (.val (.int (a : Int))), x4, x5] = .ok false := by
        generalize xs.getD a 0 = z at *
        simp (disch := omega) only [q_df, q_st, q_sq, q_at_nx, q_at_rt, q_at_bk, q_at_ct, q_at_ex, q_mi, q_sel_t, q_sel_f, q_out_rt, q_out_nx, q_out_ex, q_rb_ok, q_rb_bad, q_rb_exc, q_tf_ok, q_v0, q_vs, q_w0, q_w0o, q_ws, q_tbq, q_asb, q_nt, q_rsel_t, q_rsel_f, q_ta, q_to, q_va, q_vo, q_vn, q_sett, q_seto, q_bin, q_c, q_callb, q_cons, q_nil, q_tup, q_lst, q_celle, q_ret, q_nx, q_thl, q_thd, q_isi, q_neg, q_neg_i, q_callk, q_drop, q_retn, q_brk, q_cnt, q_ife, q_add_i, q_sub_i, List.map_cons, List.map_nil, List.length_cons, List.length_nil, List.replicate, List.append_nil, List.nil_append, List.cons_append, Nat.reduceAdd, Nat.reduceSub, List.getElem?_cons_zero, List.getElem?_cons_succ, List.set_cons_zero, List.set_cons_succ, Bool.not_true, Bool.not_false, decide_true, decide_false, if_true, if_false, t_lt_t, t_lt_f, t_le_t, t_le_f, t_gt_t, t_gt_f, t_ge_t, t_ge_f, t_eq_t, t_eq_f, t_ne_t, t_ne_f, t_is_b, t_isn_b, t_is_i, t_is_n, t_isn_i, t_isn_n, t_abs_n, t_abs_p, t_min, t_max, t_ixl, t_ixt, t_ixs, t_ixL, q_opt, q_ixo, q_oc0, q_ocs, q_oa0, q_oas, t_appd, q_app, t_putd, q_six, q_flopt, q_frz, q_int_i, q_mul_s, q_mod_i, q_div_i, q_len_s, q_len_l, q_len_t, q_items_s, q_items_l, q_items_t, t_szl, Int.reduceToNat, Int.reduceNeg, permL, List.filterMap_cons, List.filterMap_nil, eq_self, if_true, if_false, ite_true, ite_false, Bool.true_eq_false, Bool.false_eq_true, e]
      obtain ⟨ys, e2, e4⟩ := fnd_loop (some (.val (.lst (xs.map D.int)))) x1 x4 x5 rfl n (a + 1) acc (by omega) (by omega)
      refine ⟨ys, ?_, e4⟩
      simp only [et, R.ne, q_rb_ok]
      exact e2
theorem e_read_at {xs : List Int} (hO : Oct xs) (hs : xs.length ≤ 1000) {a : Nat} (ha : a ≤ xs.length) : m_law_read_at [.lst (xs.map D.int), .int a] = .ok (oc xs a) := by
  have hX : seqK (.lst (xs.map D.int)) xs := .inl rfl
  obtain ⟨ys, e1, e2⟩ := fnd_loop (xs := xs) (some (.val (.lst (xs.map D.int)))) (some (.val (.int a))) none none rfl (xs.length - a) a [] (by omega) (by simp; omega)
  have elc : mLC [3] (mRg (mCons (mVar 1) (mCons (mCallB dLen (mCons (mVar 0) mNil)) mNil))) (bName 3) (mTB (mBin dLt (mBin dIx (mVar 0) (mVar 3)) (mC (.int 128)))) e_law_read_at_1 [some (.val (.lst (xs.map D.int))), some (.val (.int a)), none, none, none, none] = .ok (.l (ys.map fun (i : Nat) => D.int (i : Int))) := by
    unfold mLC
    rw [show notOwn [some (.val (.lst (xs.map D.int))), some (.val (.int a)), none, none, none, none] [3] = true from rfl]
    have er : mRg (mCons (mVar 1) (mCons (mCallB dLen (mCons (mVar 0) mNil)) mNil)) [some (.val (.lst (xs.map D.int))), some (.val (.int a)), none, none, none, none] = .ok (rgD a (xs.length - a)) := by
      simp only [q_df, q_st, q_sq, q_at_nx, q_at_rt, q_at_bk, q_at_ct, q_at_ex, q_mi, q_sel_t, q_sel_f, q_out_rt, q_out_nx, q_out_ex, q_rb_ok, q_rb_bad, q_rb_exc, q_tf_ok, q_v0, q_vs, q_w0, q_w0o, q_ws, q_tbq, q_asb, q_nt, q_rsel_t, q_rsel_f, q_ta, q_to, q_va, q_vo, q_vn, q_sett, q_seto, q_bin, q_c, q_callb, q_cons, q_nil, q_tup, q_lst, q_celle, q_ret, q_nx, q_thl, q_thd, q_isi, q_neg, q_neg_i, q_callk, q_drop, q_retn, q_brk, q_cnt, q_ife, q_add_i, q_sub_i, q_lt_i, q_le_i, q_gt_i, q_ge_i, q_eq_i, q_ne_i, List.map_cons, List.map_nil, List.length_cons, List.length_nil, List.replicate, List.append_nil, List.nil_append, List.cons_append, Nat.reduceAdd, Nat.reduceSub, List.getElem?_cons_zero, List.getElem?_cons_succ, List.set_cons_zero, List.set_cons_succ, Bool.not_true, Bool.not_false, decide_true, decide_false, if_true, if_false, q_rg, hX.len]
      rw [q_rg2 (by omega) (by omega) (by omega) (by omega)]
      congr 2
      omega
    simp only [er, q_rb_ok]
    rw [show wipeS [some (EV.val (.lst (xs.map D.int))), some (.val (.int a)), none, none, none, none] [3] = [some (.val (.lst (xs.map D.int))), some (.val (.int a)), none, none, none, none] from rfl, e1, List.nil_append]
  have s2 : (2 : Nat) ≤ sizeLine := by decide
  refine def_of ?_
  rw [show mStart 6 [D.lst (xs.map D.int), D.int a] = [some (.val (.lst (xs.map D.int))), some (.val (.int a)), none, none, none, none] from rfl]
  rw [seq_nx (r' := [some (.val (.lst (xs.map D.int))), some (.val (.int a)), some (.own (.l (ys.map fun (i : Nat) => D.int (i : Int)))), none, none, none]) (by rw [q_seto, elc]; rfl)]
  unfold oc
  rw [← e2]
  cases ys with
  | nil =>
    refine seq_rt ?_
    simp (disch := omega) only [q_df, q_st, q_sq, q_at_nx, q_at_rt, q_at_bk, q_at_ct, q_at_ex, q_mi, q_sel_t, q_sel_f, q_out_rt, q_out_nx, q_out_ex, q_rb_ok, q_rb_bad, q_rb_exc, q_tf_ok, q_v0, q_vs, q_w0, q_w0o, q_ws, q_tbq, q_asb, q_nt, q_rsel_t, q_rsel_f, q_ta, q_to, q_va, q_vo, q_vn, q_sett, q_seto, q_bin, q_c, q_callb, q_cons, q_nil, q_tup, q_lst, q_celle, q_ret, q_nx, q_thl, q_thd, q_isi, q_neg, q_neg_i, q_callk, q_drop, q_retn, q_brk, q_cnt, q_ife, q_add_i, q_sub_i, List.map_cons, List.map_nil, List.length_cons, List.length_nil, List.replicate, List.append_nil, List.nil_append, List.cons_append, Nat.reduceAdd, Nat.reduceSub, List.getElem?_cons_zero, List.getElem?_cons_succ, List.set_cons_zero, List.set_cons_succ, Bool.not_true, Bool.not_false, decide_true, decide_false, if_true, if_false, t_lt_t, t_lt_f, t_le_t, t_le_f, t_gt_t, t_gt_f, t_ge_t, t_ge_f, t_eq_t, t_eq_f, t_ne_t, t_ne_f, t_is_b, t_isn_b, t_is_i, t_is_n, t_isn_i, t_isn_n, t_abs_n, t_abs_p, t_min, t_max, t_ixl, t_ixt, t_ixs, t_ixL, q_opt, q_ixo, q_oc0, q_ocs, q_oa0, q_oas, t_appd, q_app, t_putd, q_six, q_flopt, q_frz, q_int_i, q_mul_s, q_mod_i, q_div_i, q_len_s, q_len_l, q_len_t, q_items_s, q_items_l, q_items_t, t_szl, Int.reduceToNat, Int.reduceNeg, permL, List.filterMap_cons, List.filterMap_nil, eq_self, if_true, if_false, ite_true, ite_false, Bool.true_eq_false, Bool.false_eq_true, s2, hX.len, List.head?, t_if, Int.ofNat_zero, Int.natCast_zero]
  | cons l ys =>
    simp only [List.head?]
    obtain ⟨f1, f2, f3, f4⟩ := fst_some (e2.symm.trans (by rfl) : fst xs a (xs.length - a) = some l)
    have hl : l < xs.length := by omega
    have ex := hX.ix (i := (l : Int)) rfl hl
    rw [seq_nx (r' := [some (.val (.lst (xs.map D.int))), some (.val (.int a)), some (.own (.l ((l :: ys).map fun (i : Nat) => D.int (i : Int)))), none, none, none]) (by
      have : ¬ (((((l :: ys).map fun (i : Nat) => D.int (i : Int)).length : Nat) : Int) = 0) := by simp; omega
      simp (disch := omega) only [q_mi, q_tbq, q_bin, q_callb, q_cons, q_ws, q_w0o, q_thl, q_rb_ok, q_nil, q_len_l, q_c, t_eq_f, q_asb, q_tf_ok, q_sel_f, q_nx])]
    rw [seq_nx (r' := [some (.val (.lst (xs.map D.int))), some (.val (.int a)), some (.own (.l ((l :: ys).map fun (i : Nat) => D.int (i : Int)))), none, some (.val (.int l)), none]) (by
      simp (disch := omega) only [q_sett, q_ixo, q_ocs, q_oas, q_oa0, q_opt, q_rb_ok, q_c, t_ixL, List.map_cons, Int.reduceToNat, List.getElem?_cons_zero, q_tf_ok, List.set_cons_succ, List.set_cons_zero])]
    by_cases hb : l - a > 4 ∨ (l > a ∧ xs.getD l 0 = 0)
    · rw [if_pos hb]
      refine seq_rt ?_
      by_cases h1 : (4 : Int) < (l : Int) - (a : Int)
      · simp (disch := omega) only [q_df, q_st, q_sq, q_at_nx, q_at_rt, q_at_bk, q_at_ct, q_at_ex, q_mi, q_sel_t, q_sel_f, q_out_rt, q_out_nx, q_out_ex, q_rb_ok, q_rb_bad, q_rb_exc, q_tf_ok, q_v0, q_vs, q_w0, q_w0o, q_ws, q_tbq, q_asb, q_nt, q_rsel_t, q_rsel_f, q_ta, q_to, q_va, q_vo, q_vn, q_sett, q_seto, q_bin, q_c, q_callb, q_cons, q_nil, q_tup, q_lst, q_celle, q_ret, q_nx, q_thl, q_thd, q_isi, q_neg, q_neg_i, q_callk, q_drop, q_retn, q_brk, q_cnt, q_ife, q_add_i, q_sub_i, List.map_cons, List.map_nil, List.length_cons, List.length_nil, List.replicate, List.append_nil, List.nil_append, List.cons_append, Nat.reduceAdd, Nat.reduceSub, List.getElem?_cons_zero, List.getElem?_cons_succ, List.set_cons_zero, List.set_cons_succ, Bool.not_true, Bool.not_false, decide_true, decide_false, if_true, if_false, t_lt_t, t_lt_f, t_le_t, t_le_f, t_gt_t, t_gt_f, t_ge_t, t_ge_f, t_eq_t, t_eq_f, t_ne_t, t_ne_f, t_is_b, t_isn_b, t_is_i, t_is_n, t_isn_i, t_isn_n, t_abs_n, t_abs_p, t_min, t_max, t_ixl, t_ixt, t_ixs, t_ixL, q_opt, q_ixo, q_oc0, q_ocs, q_oa0, q_oas, t_appd, q_app, t_putd, q_six, q_flopt, q_frz, q_int_i, q_mul_s, q_mod_i, q_div_i, q_len_s, q_len_l, q_len_t, q_items_s, q_items_l, q_items_t, t_szl, Int.reduceToNat, Int.reduceNeg, permL, List.filterMap_cons, List.filterMap_nil, eq_self, if_true, if_false, ite_true, ite_false, Bool.true_eq_false, Bool.false_eq_true, s2, t_if]
      · have h2 : (a : Int) < (l : Int) ∧ xs.getD l 0 = 0 := by omega
        obtain ⟨h2, h3⟩ := h2
        generalize xs.getD l 0 = z at *
        simp (disch := omega) only [q_df, q_st, q_sq, q_at_nx, q_at_rt, q_at_bk, q_at_ct, q_at_ex, q_mi, q_sel_t, q_sel_f, q_out_rt, q_out_nx, q_out_ex, q_rb_ok, q_rb_bad, q_rb_exc, q_tf_ok, q_v0, q_vs, q_w0, q_w0o, q_ws, q_tbq, q_asb, q_nt, q_rsel_t, q_rsel_f, q_ta, q_to, q_va, q_vo, q_vn, q_sett, q_seto, q_bin, q_c, q_callb, q_cons, q_nil, q_tup, q_lst, q_celle, q_ret, q_nx, q_thl, q_thd, q_isi, q_neg, q_neg_i, q_callk, q_drop, q_retn, q_brk, q_cnt, q_ife, q_add_i, q_sub_i, List.map_cons, List.map_nil, List.length_cons, List.length_nil, List.replicate, List.append_nil, List.nil_append, List.cons_append, Nat.reduceAdd, Nat.reduceSub, List.getElem?_cons_zero, List.getElem?_cons_succ, List.set_cons_zero, List.set_cons_succ, Bool.not_true, Bool.not_false, decide_true, decide_false, if_true, if_false, t_lt_t, t_lt_f, t_le_t, t_le_f, t_gt_t, t_gt_f, t_ge_t, t_ge_f, t_eq_t, t_eq_f, t_ne_t, t_ne_f, t_is_b, t_isn_b, t_is_i, t_is_n, t_isn_i, t_isn_n, t_abs_n, t_abs_p, t_min, t_max, t_ixl, t_ixt, t_ixs, t_ixL, q_opt, q_ixo, q_oc0, q_ocs, q_oa0, q_oas, t_appd, q_app, t_putd, q_six, q_flopt, q_frz, q_int_i, q_mul_s, q_mod_i, q_div_i, q_len_s, q_len_l, q_len_t, q_items_s, q_items_l, q_items_t, t_szl, Int.reduceToNat, Int.reduceNeg, permL, List.filterMap_cons, List.filterMap_nil, eq_self, if_true, if_false, ite_true, ite_false, Bool.true_eq_false, Bool.false_eq_true, ex, s2, t_if]
    · rw [if_neg hb]
      rw [seq_nx (r' := [some (.val (.lst (xs.map D.int))), some (.val (.int a)), some (.own (.l ((l :: ys).map fun (i : Nat) => D.int (i : Int)))), none, some (.val (.int l)), none]) (by
        have h1 : ¬ (4 : Int) < (l : Int) - (a : Int) := by omega
        by_cases h2 : (a : Int) < (l : Int)
        · have h3 : ¬ xs.getD l 0 = 0 := by omega
          generalize xs.getD l 0 = z at *
          simp (disch := omega) only [q_df, q_st, q_sq, q_at_nx, q_at_rt, q_at_bk, q_at_ct, q_at_ex, q_mi, q_sel_t, q_sel_f, q_out_rt, q_out_nx, q_out_ex, q_rb_ok, q_rb_bad, q_rb_exc, q_tf_ok, q_v0, q_vs, q_w0, q_w0o, q_ws, q_tbq, q_asb, q_nt, q_rsel_t, q_rsel_f, q_ta, q_to, q_va, q_vo, q_vn, q_sett, q_seto, q_bin, q_c, q_callb, q_cons, q_nil, q_tup, q_lst, q_celle, q_ret, q_nx, q_thl, q_thd, q_isi, q_neg, q_neg_i, q_callk, q_drop, q_retn, q_brk, q_cnt, q_ife, q_add_i, q_sub_i, List.map_cons, List.map_nil, List.length_cons, List.length_nil, List.replicate, List.append_nil, List.nil_append, List.cons_append, Nat.reduceAdd, Nat.reduceSub, List.getElem?_cons_zero, List.getElem?_cons_succ, List.set_cons_zero, List.set_cons_succ, Bool.not_true, Bool.not_false, decide_true, decide_false, if_true, if_false, t_lt_t, t_lt_f, t_le_t, t_le_f, t_gt_t, t_gt_f, t_ge_t, t_ge_f, t_eq_t, t_eq_f, t_ne_t, t_ne_f, t_is_b, t_isn_b, t_is_i, t_is_n, t_isn_i, t_isn_n, t_abs_n, t_abs_p, t_min, t_max, t_ixl, t_ixt, t_ixs, t_ixL, q_opt, q_ixo, q_oc0, q_ocs, q_oa0, q_oas, t_appd, q_app, t_putd, q_six, q_flopt, q_frz, q_int_i, q_mul_s, q_mod_i, q_div_i, q_len_s, q_len_l, q_len_t, q_items_s, q_items_l, q_items_t, t_szl, Int.reduceToNat, Int.reduceNeg, permL, List.filterMap_cons, List.filterMap_nil, eq_self, if_true, if_false, ite_true, ite_false, Bool.true_eq_false, Bool.false_eq_true, ex]
        · simp (disch := omega) only [q_df, q_st, q_sq, q_at_nx, q_at_rt, q_at_bk, q_at_ct, q_at_ex, q_mi, q_sel_t, q_sel_f, q_out_rt, q_out_nx, q_out_ex, q_rb_ok, q_rb_bad, q_rb_exc, q_tf_ok, q_v0, q_vs, q_w0, q_w0o, q_ws, q_tbq, q_asb, q_nt, q_rsel_t, q_rsel_f, q_ta, q_to, q_va, q_vo, q_vn, q_sett, q_seto, q_bin, q_c, q_callb, q_cons, q_nil, q_tup, q_lst, q_celle, q_ret, q_nx, q_thl, q_thd, q_isi, q_neg, q_neg_i, q_callk, q_drop, q_retn, q_brk, q_cnt, q_ife, q_add_i, q_sub_i, List.map_cons, List.map_nil, List.length_cons, List.length_nil, List.replicate, List.append_nil, List.nil_append, List.cons_append, Nat.reduceAdd, Nat.reduceSub, List.getElem?_cons_zero, List.getElem?_cons_succ, List.set_cons_zero, List.set_cons_succ, Bool.not_true, Bool.not_false, decide_true, decide_false, if_true, if_false, t_lt_t, t_lt_f, t_le_t, t_le_f, t_gt_t, t_gt_f, t_ge_t, t_ge_f, t_eq_t, t_eq_f, t_ne_t, t_ne_f, t_is_b, t_isn_b, t_is_i, t_is_n, t_isn_i, t_isn_n, t_abs_n, t_abs_p, t_min, t_max, t_ixl, t_ixt, t_ixs, t_ixL, q_opt, q_ixo, q_oc0, q_ocs, q_oa0, q_oas, t_appd, q_app, t_putd, q_six, q_flopt, q_frz, q_int_i, q_mul_s, q_mod_i, q_div_i, q_len_s, q_len_l, q_len_t, q_items_s, q_items_l, q_items_t, t_szl, Int.reduceToNat, Int.reduceNeg, permL, List.filterMap_cons, List.filterMap_nil, eq_self, if_true, if_false, ite_true, ite_false, Bool.true_eq_false, Bool.false_eq_true])]
      generalize some (EV.own (.l ((l :: ys).map fun (i : Nat) => D.int (i : Int)))) = x2
      rw [seq_nx (r' := [some (.val (.lst (xs.map D.int))), some (.val (.int a)), x2, none, some (.val (.int l)), some (.val (.int 0))]) (by rfl)]
      obtain ⟨r2, e3, x3, hr⟩ := for_inv (i := 3) (body := b_law_read_at_2) (fun j r => ∃ x3, r = [some (.val (.lst (xs.map D.int))), some (.val (.int a)), x2, x3, some (.val (.int l)), some (.val (.int (vv xs l j)))])
        (ds := rgD 0 (l - a + 1)) (r := [some (.val (.lst (xs.map D.int))), some (.val (.int a)), x2, none, some (.val (.int l)), some (.val (.int 0))]) ⟨none, rfl⟩ (fun j d r hd ⟨x3, hr⟩ => by
          subst hr
          obtain ⟨hj, rfl⟩ := rgD_get hd
          have ex2 := hX.ix (i := (l : Int) - (0 + (j : Int))) (j := l - j) (by omega) (by omega)
          obtain ⟨b0, b1⟩ := vv_5 (xs := xs) (l := l) (k := j) (by omega)
          refine ⟨[some (.val (.lst (xs.map D.int))), some (.val (.int a)), x2, some (.val (.int (0 + (j : Int)))), some (.val (.int l)), some (.val (.int (vv xs l (j + 1))))], ?_, _, rfl⟩
          show b_law_read_at_2 [some (.val (.lst (xs.map D.int))), some (.val (.int a)), x2, some (.val (.int (0 + (j : Int)))), some (.val (.int l)), some (.val (.int (vv xs l j)))] = _
          rw [show vv xs l (j + 1) = 128 * vv xs l j + xs.getD (l - j) 0 % 128 from rfl]
          generalize vv xs l j = v at *
          generalize 0 + (j : Int) = i at *
          simp (disch := omega) only [b_law_read_at_2, q_df, q_st, q_sq, q_at_nx, q_at_rt, q_at_bk, q_at_ct, q_at_ex, q_mi, q_sel_t, q_sel_f, q_out_rt, q_out_nx, q_out_ex, q_rb_ok, q_rb_bad, q_rb_exc, q_tf_ok, q_v0, q_vs, q_w0, q_w0o, q_ws, q_tbq, q_asb, q_nt, q_rsel_t, q_rsel_f, q_ta, q_to, q_va, q_vo, q_vn, q_sett, q_seto, q_bin, q_c, q_callb, q_cons, q_nil, q_tup, q_lst, q_celle, q_ret, q_nx, q_thl, q_thd, q_isi, q_neg, q_neg_i, q_callk, q_drop, q_retn, q_brk, q_cnt, q_ife, q_add_i, q_sub_i, List.map_cons, List.map_nil, List.length_cons, List.length_nil, List.replicate, List.append_nil, List.nil_append, List.cons_append, Nat.reduceAdd, Nat.reduceSub, List.getElem?_cons_zero, List.getElem?_cons_succ, List.set_cons_zero, List.set_cons_succ, Bool.not_true, Bool.not_false, decide_true, decide_false, if_true, if_false, t_lt_t, t_lt_f, t_le_t, t_le_f, t_gt_t, t_gt_f, t_ge_t, t_ge_f, t_eq_t, t_eq_f, t_ne_t, t_ne_f, t_is_b, t_isn_b, t_is_i, t_is_n, t_isn_i, t_isn_n, t_abs_n, t_abs_p, t_min, t_max, t_ixl, t_ixt, t_ixs, t_ixL, q_opt, q_ixo, q_oc0, q_ocs, q_oa0, q_oas, t_appd, q_app, t_putd, q_six, q_flopt, q_frz, q_int_i, q_mul_s, q_mod_i, q_div_i, q_len_s, q_len_l, q_len_t, q_items_s, q_items_l, q_items_t, t_szl, Int.reduceToNat, Int.reduceNeg, permL, List.filterMap_cons, List.filterMap_nil, eq_self, if_true, if_false, ite_true, ite_false, Bool.true_eq_false, Bool.false_eq_true, ex2])
      rw [rgD_len] at hr
      subst hr
      rw [seq_nx (for_nx (ds := rgD 0 (l - a + 1)) (by
        simp only [q_df, q_st, q_sq, q_at_nx, q_at_rt, q_at_bk, q_at_ct, q_at_ex, q_mi, q_sel_t, q_sel_f, q_out_rt, q_out_nx, q_out_ex, q_rb_ok, q_rb_bad, q_rb_exc, q_tf_ok, q_v0, q_vs, q_w0, q_w0o, q_ws, q_tbq, q_asb, q_nt, q_rsel_t, q_rsel_f, q_ta, q_to, q_va, q_vo, q_vn, q_sett, q_seto, q_bin, q_c, q_callb, q_cons, q_nil, q_tup, q_lst, q_celle, q_ret, q_nx, q_thl, q_thd, q_isi, q_neg, q_neg_i, q_callk, q_drop, q_retn, q_brk, q_cnt, q_ife, q_add_i, q_sub_i, q_lt_i, q_le_i, q_gt_i, q_ge_i, q_eq_i, q_ne_i, List.map_cons, List.map_nil, List.length_cons, List.length_nil, List.replicate, List.append_nil, List.nil_append, List.cons_append, Nat.reduceAdd, Nat.reduceSub, List.getElem?_cons_zero, List.getElem?_cons_succ, List.set_cons_zero, List.set_cons_succ, Bool.not_true, Bool.not_false, decide_true, decide_false, if_true, if_false, q_rg]
        rw [q_rg1 (by omega) (by omega), show ((l : Int) - (a : Int) + 1).toNat = l - a + 1 by omega]) e3)]
      generalize vv xs l (l - a + 1) = v
      simp only [q_df, q_st, q_sq, q_at_nx, q_at_rt, q_at_bk, q_at_ct, q_at_ex, q_mi, q_sel_t, q_sel_f, q_out_rt, q_out_nx, q_out_ex, q_rb_ok, q_rb_bad, q_rb_exc, q_tf_ok, q_v0, q_vs, q_w0, q_w0o, q_ws, q_tbq, q_asb, q_nt, q_rsel_t, q_rsel_f, q_ta, q_to, q_va, q_vo, q_vn, q_sett, q_seto, q_bin, q_c, q_callb, q_cons, q_nil, q_tup, q_lst, q_celle, q_ret, q_nx, q_thl, q_thd, q_isi, q_neg, q_neg_i, q_callk, q_drop, q_retn, q_brk, q_cnt, q_ife, q_add_i, q_sub_i, q_lt_i, q_le_i, q_gt_i, q_ge_i, q_eq_i, q_ne_i, List.map_cons, List.map_nil, List.length_cons, List.length_nil, List.replicate, List.append_nil, List.nil_append, List.cons_append, Nat.reduceAdd, Nat.reduceSub, List.getElem?_cons_zero, List.getElem?_cons_succ, List.set_cons_zero, List.set_cons_succ, Bool.not_true, Bool.not_false, decide_true, decide_false, if_true, if_false, s2]
/-! ### the law -/
theorem oct_of {xs : List Int} (h : ∀ x ∈ xs, 0 ≤ x ∧ x < 256) : Oct xs := fun i => by
  rw [List.getD_eq_getElem?_getD]
  by_cases hi : i < xs.length
  · rw [List.getElem?_eq_getElem hi]
    exact h _ (List.getElem_mem hi)
  · rw [List.getElem?_eq_none (by omega)]
    exact ⟨by decide, by decide⟩
theorem oc_clean (xs : List Int) (a : Nat) : clean false (oc xs a) = true ∧ depD (oc xs a) ≤ 1 := by
  unfold oc
  split
  · exact ⟨rfl, Nat.le_refl _⟩
  · split
    · exact ⟨rfl, Nat.le_refl _⟩
    · exact ⟨rfl, Nat.le_refl _⟩
theorem ocs_clean (xs : List Int) : ∀ l : List Nat, cleanL false (l.map (oc xs)) = true ∧ depL (l.map (oc xs)) ≤ 1
  | [] => ⟨rfl, Nat.zero_le _⟩
  | a :: l => by
    obtain ⟨h1, h2⟩ := oc_clean xs a
    obtain ⟨h3, h4⟩ := ocs_clean xs l
    exact ⟨by simp only [List.map_cons, cleanL, h1, h3, Bool.and_self], by simp only [List.map_cons, depL]; omega⟩
theorem e_b1 (x0 x1 x2 x9 x10 x11 x12 x13 : Option EV) (row dg os : List Int) (hr : ∃ y, row[1]? = some y ∧ 0 ≤ y ∧ y < 3) (k : Nat) (hk : k < 40) (hd : ∀ j, j < 80 → ∃ y, dg[j]? = some y ∧ 0 ≤ y ∧ y < 256) (ho : os.length ≤ 1000) (x7 x8 : Option EV) :
    ∃ w y7 y8, 0 ≤ w ∧ w < 256 ∧ b_law_1 [x0, x1, x2, some (.val (.lst (row.map D.int))), some (.val (.lst (dg.map D.int))), some (.own (.l (os.map D.int))), some (.val (.int (0 + (k : Int)))), x7, x8, x9, x10, x11, x12, x13]
      = .nx [x0, x1, x2, some (.val (.lst (row.map D.int))), some (.val (.lst (dg.map D.int))), some (.own (.l ((os ++ [w]).map D.int))), some (.val (.int (0 + (k : Int)))), y7, y8, x9, x10, x11, x12, x13] := by
  obtain ⟨z, gz, z0, z1⟩ := hr
  obtain ⟨s, gs, s0, s1⟩ := hd (2 * k) (by omega)
  obtain ⟨v, gv, v0, v1⟩ := hd (1 + 2 * k) (by omega)
  have i1 : dIx (.lst (row.map D.int)) (.int 1) = .ok (.int z) := q_ix rfl (by omega) (by rw [List.getElem?_map, show (1 : Int).toNat = 1 from rfl, gz]; rfl)
  have i2 : dIx (.lst (dg.map D.int)) (.int (2 * (0 + (k : Int)))) = .ok (.int s) := q_ix rfl (by omega) (by rw [List.getElem?_map, show (2 * (0 + (k : Int))).toNat = 2 * k by omega, gs]; rfl)
  have i3 : dIx (.lst (dg.map D.int)) (.int (1 + 2 * (0 + (k : Int)))) = .ok (.int v) := q_ix rfl (by omega) (by rw [List.getElem?_map, show (1 + 2 * (0 + (k : Int))).toNat = 1 + 2 * k by omega, gv]; rfl)
  have kb : 0 + (k : Int) < 1000 := by omega
  have kb0 : 0 ≤ 0 + (k : Int) := by omega
  obtain ⟨w, w0, w1, ew⟩ : ∃ w, 0 ≤ w ∧ w < 256 ∧ mIf (mTOr (mTB (mBin dLt (mVar 7) (mC (.int 3)))) (mTAnd (mTB (mBin dEq (mBin dIx (mVar 3) (mC (.int 1))) (mC (.int 0)))) (mTB (mBin dLt (mVar 7) (mC (.int 7)))))) (mSet 8 (mBin dAdd (mC (.int 128)) (mBin dMod (mCallB dInt (mCons (mVar 8) mNil)) (mC (.int 128))))) (mIf (mTB (mBin dEq (mVar 7) (mC (.int 3)))) (mSet 8 (mC (.int 0))) (mIf (mTB (mBin dEq (mVar 7) (mC (.int 4)))) (mSet 8 (mC (.int 128))) mNx)) [x0, x1, x2, some (.val (.lst (row.map D.int))), some (.val (.lst (dg.map D.int))), some (.own (.l (os.map D.int))), some (.val (.int (0 + (k : Int)))), some (.val (.int s)), some (.val (.int v)), x9, x10, x11, x12, x13] = .nx [x0, x1, x2, some (.val (.lst (row.map D.int))), some (.val (.lst (dg.map D.int))), some (.own (.l (os.map D.int))), some (.val (.int (0 + (k : Int)))), some (.val (.int s)), some (.val (.int w)), x9, x10, x11, x12, x13] := by
    have m0 := Int.emod_nonneg v (show (128 : Int) ≠ 0 by omega)
    have m1 := Int.emod_lt_of_pos v (show (0 : Int) < 128 by omega)
    by_cases c1 : s < 3
    · exact ⟨128 + v % 128, by omega, by omega, by simp (disch := omega) only [q_df, q_st, q_sq, q_at_nx, q_at_rt, q_at_bk, q_at_ct, q_at_ex, q_mi, q_sel_t, q_sel_f, q_out_rt, q_out_nx, q_out_ex, q_rb_ok, q_rb_bad, q_rb_exc, q_tf_ok, q_v0, q_vs, q_w0, q_w0o, q_ws, q_tbq, q_asb, q_nt, q_rsel_t, q_rsel_f, q_ta, q_to, q_va, q_vo, q_vn, q_sett, q_seto, q_bin, q_c, q_callb, q_cons, q_nil, q_tup, q_lst, q_celle, q_ret, q_nx, q_thl, q_thd, q_isi, q_neg, q_neg_i, q_callk, q_drop, q_retn, q_brk, q_cnt, q_ife, q_add_i, q_sub_i, List.map_cons, List.map_nil, List.length_cons, List.length_nil, List.replicate, List.append_nil, List.nil_append, List.cons_append, Nat.reduceAdd, Nat.reduceSub, List.getElem?_cons_zero, List.getElem?_cons_succ, List.set_cons_zero, List.set_cons_succ, Bool.not_true, Bool.not_false, decide_true, decide_false, if_true, if_false, t_lt_t, t_lt_f, t_le_t, t_le_f, t_gt_t, t_gt_f, t_ge_t, t_ge_f, t_eq_t, t_eq_f, t_ne_t, t_ne_f, t_is_b, t_isn_b, t_is_i, t_is_n, t_isn_i, t_isn_n, t_abs_n, t_abs_p, t_min, t_max, t_ixl, t_ixt, t_ixs, t_ixL, q_opt, q_ixo, q_oc0, q_ocs, q_oa0, q_oas, t_appd, q_app, t_putd, q_six, q_flopt, q_frz, q_int_i, q_mul_s, q_mod_i, q_div_i, q_len_s, q_len_l, q_len_t, q_items_s, q_items_l, q_items_t, t_szl, Int.reduceToNat, Int.reduceNeg, permL, List.filterMap_cons, List.filterMap_nil, eq_self, if_true, if_false, ite_true, ite_false, Bool.true_eq_false, Bool.false_eq_true]⟩
    by_cases c2 : z = 0 ∧ s < 7
    · obtain ⟨c2, c3⟩ := c2
      exact ⟨128 + v % 128, by omega, by omega, by simp (disch := omega) only [q_df, q_st, q_sq, q_at_nx, q_at_rt, q_at_bk, q_at_ct, q_at_ex, q_mi, q_sel_t, q_sel_f, q_out_rt, q_out_nx, q_out_ex, q_rb_ok, q_rb_bad, q_rb_exc, q_tf_ok, q_v0, q_vs, q_w0, q_w0o, q_ws, q_tbq, q_asb, q_nt, q_rsel_t, q_rsel_f, q_ta, q_to, q_va, q_vo, q_vn, q_sett, q_seto, q_bin, q_c, q_callb, q_cons, q_nil, q_tup, q_lst, q_celle, q_ret, q_nx, q_thl, q_thd, q_isi, q_neg, q_neg_i, q_callk, q_drop, q_retn, q_brk, q_cnt, q_ife, q_add_i, q_sub_i, List.map_cons, List.map_nil, List.length_cons, List.length_nil, List.replicate, List.append_nil, List.nil_append, List.cons_append, Nat.reduceAdd, Nat.reduceSub, List.getElem?_cons_zero, List.getElem?_cons_succ, List.set_cons_zero, List.set_cons_succ, Bool.not_true, Bool.not_false, decide_true, decide_false, if_true, if_false, t_lt_t, t_lt_f, t_le_t, t_le_f, t_gt_t, t_gt_f, t_ge_t, t_ge_f, t_eq_t, t_eq_f, t_ne_t, t_ne_f, t_is_b, t_isn_b, t_is_i, t_is_n, t_isn_i, t_isn_n, t_abs_n, t_abs_p, t_min, t_max, t_ixl, t_ixt, t_ixs, t_ixL, q_opt, q_ixo, q_oc0, q_ocs, q_oa0, q_oas, t_appd, q_app, t_putd, q_six, q_flopt, q_frz, q_int_i, q_mul_s, q_mod_i, q_div_i, q_len_s, q_len_l, q_len_t, q_items_s, q_items_l, q_items_t, t_szl, Int.reduceToNat, Int.reduceNeg, permL, List.filterMap_cons, List.filterMap_nil, eq_self, if_true, if_false, ite_true, ite_false, Bool.true_eq_false, Bool.false_eq_true, i1]⟩
    have c4 : mTOr (mTB (mBin dLt (mVar 7) (mC (.int 3)))) (mTAnd (mTB (mBin dEq (mBin dIx (mVar 3) (mC (.int 1))) (mC (.int 0)))) (mTB (mBin dLt (mVar 7) (mC (.int 7))))) [x0, x1, x2, some (.val (.lst (row.map D.int))), some (.val (.lst (dg.map D.int))), some (.own (.l (os.map D.int))), some (.val (.int (0 + (k : Int)))), some (.val (.int s)), some (.val (.int v)), x9, x10, x11, x12, x13] = .ok false := by
      by_cases c5 : z = 0
      · simp (disch := omega) only [q_df, q_st, q_sq, q_at_nx, q_at_rt, q_at_bk, q_at_ct, q_at_ex, q_mi, q_sel_t, q_sel_f, q_out_rt, q_out_nx, q_out_ex, q_rb_ok, q_rb_bad, q_rb_exc, q_tf_ok, q_v0, q_vs, q_w0, q_w0o, q_ws, q_tbq, q_asb, q_nt, q_rsel_t, q_rsel_f, q_ta, q_to, q_va, q_vo, q_vn, q_sett, q_seto, q_bin, q_c, q_callb, q_cons, q_nil, q_tup, q_lst, q_celle, q_ret, q_nx, q_thl, q_thd, q_isi, q_neg, q_neg_i, q_callk, q_drop, q_retn, q_brk, q_cnt, q_ife, q_add_i, q_sub_i, List.map_cons, List.map_nil, List.length_cons, List.length_nil, List.replicate, List.append_nil, List.nil_append, List.cons_append, Nat.reduceAdd, Nat.reduceSub, List.getElem?_cons_zero, List.getElem?_cons_succ, List.set_cons_zero, List.set_cons_succ, Bool.not_true, Bool.not_false, decide_true, decide_false, if_true, if_false, t_lt_t, t_lt_f, t_le_t, t_le_f, t_gt_t, t_gt_f, t_ge_t, t_ge_f, t_eq_t, t_eq_f, t_ne_t, t_ne_f, t_is_b, t_isn_b, t_is_i, t_is_n, t_isn_i, t_isn_n, t_abs_n, t_abs_p, t_min, t_max, t_ixl, t_ixt, t_ixs, t_ixL, q_opt, q_ixo, q_oc0, q_ocs, q_oa0, q_oas, t_appd, q_app, t_putd, q_six, q_flopt, q_frz, q_int_i, q_mul_s, q_mod_i, q_div_i, q_len_s, q_len_l, q_len_t, q_items_s, q_items_l, q_items_t, t_szl, Int.reduceToNat, Int.reduceNeg, permL, List.filterMap_cons, List.filterMap_nil, eq_self, if_true, if_false, ite_true, ite_false, Bool.true_eq_false, Bool.false_eq_true, i1]
      · simp (disch := omega) only [q_df, q_st, q_sq, q_at_nx, q_at_rt, q_at_bk, q_at_ct, q_at_ex, q_mi, q_sel_t, q_sel_f, q_out_rt, q_out_nx, q_out_ex, q_rb_ok, q_rb_bad, q_rb_exc, q_tf_ok, q_v0, q_vs, q_w0, q_w0o, q_ws, q_tbq, q_asb, q_nt, q_rsel_t, q_rsel_f, q_ta, q_to, q_va, q_vo, q_vn, q_sett, q_seto, q_bin, q_c, q_callb, q_cons, q_nil, q_tup, q_lst, q_celle, q_ret, q_nx, q_thl, q_thd, q_isi, q_neg, q_neg_i, q_callk, q_drop, q_retn, q_brk, q_cnt, q_ife, q_add_i, q_sub_i, List.map_cons, List.map_nil, List.length_cons, List.length_nil, List.replicate, List.append_nil, List.nil_append, List.cons_append, Nat.reduceAdd, Nat.reduceSub, List.getElem?_cons_zero, List.getElem?_cons_succ, List.set_cons_zero, List.set_cons_succ, Bool.not_true, Bool.not_false, decide_true, decide_false, if_true, if_false, t_lt_t, t_lt_f, t_le_t, t_le_f, t_gt_t, t_gt_f, t_ge_t, t_ge_f, t_eq_t, t_eq_f, t_ne_t, t_ne_f, t_is_b, t_isn_b, t_is_i, t_is_n, t_isn_i, t_isn_n, t_abs_n, t_abs_p, t_min, t_max, t_ixl, t_ixt, t_ixs, t_ixL, q_opt, q_ixo, q_oc0, q_ocs, q_oa0, q_oas, t_appd, q_app, t_putd, q_six, q_flopt, q_frz, q_int_i, q_mul_s, q_mod_i, q_div_i, q_len_s, q_len_l, q_len_t, q_items_s, q_items_l, q_items_t, t_szl, Int.reduceToNat, Int.reduceNeg, permL, List.filterMap_cons, List.filterMap_nil, eq_self, if_true, if_false, ite_true, ite_false, Bool.true_eq_false, Bool.false_eq_true, i1]
    by_cases c3 : s = 3
    · refine ⟨0, by omega, by omega, ?_⟩
      rw [q_mi, c4]
      simp (disch := omega) only [q_df, q_st, q_sq, q_at_nx, q_at_rt, q_at_bk, q_at_ct, q_at_ex, q_mi, q_sel_t, q_sel_f, q_out_rt, q_out_nx, q_out_ex, q_rb_ok, q_rb_bad, q_rb_exc, q_tf_ok, q_v0, q_vs, q_w0, q_w0o, q_ws, q_tbq, q_asb, q_nt, q_rsel_t, q_rsel_f, q_ta, q_to, q_va, q_vo, q_vn, q_sett, q_seto, q_bin, q_c, q_callb, q_cons, q_nil, q_tup, q_lst, q_celle, q_ret, q_nx, q_thl, q_thd, q_isi, q_neg, q_neg_i, q_callk, q_drop, q_retn, q_brk, q_cnt, q_ife, q_add_i, q_sub_i, List.map_cons, List.map_nil, List.length_cons, List.length_nil, List.replicate, List.append_nil, List.nil_append, List.cons_append, Nat.reduceAdd, Nat.reduceSub, List.getElem?_cons_zero, List.getElem?_cons_succ, List.set_cons_zero, List.set_cons_succ, Bool.not_true, Bool.not_false, decide_true, decide_false, if_true, if_false, t_lt_t, t_lt_f, t_le_t, t_le_f, t_gt_t, t_gt_f, t_ge_t, t_ge_f, t_eq_t, t_eq_f, t_ne_t, t_ne_f, t_is_b, t_isn_b, t_is_i, t_is_n, t_isn_i, t_isn_n, t_abs_n, t_abs_p, t_min, t_max, t_ixl, t_ixt, t_ixs, t_ixL, q_opt, q_ixo, q_oc0, q_ocs, q_oa0, q_oas, t_appd, q_app, t_putd, q_six, q_flopt, q_frz, q_int_i, q_mul_s, q_mod_i, q_div_i, q_len_s, q_len_l, q_len_t, q_items_s, q_items_l, q_items_t, t_szl, Int.reduceToNat, Int.reduceNeg, permL, List.filterMap_cons, List.filterMap_nil, eq_self, if_true, if_false, ite_true, ite_false, Bool.true_eq_false, Bool.false_eq_true]
    by_cases c6 : s = 4
    · refine ⟨128, by omega, by omega, ?_⟩
      rw [q_mi, c4]
      simp (disch := omega) only [q_df, q_st, q_sq, q_at_nx, q_at_rt, q_at_bk, q_at_ct, q_at_ex, q_mi, q_sel_t, q_sel_f, q_out_rt, q_out_nx, q_out_ex, q_rb_ok, q_rb_bad, q_rb_exc, q_tf_ok, q_v0, q_vs, q_w0, q_w0o, q_ws, q_tbq, q_asb, q_nt, q_rsel_t, q_rsel_f, q_ta, q_to, q_va, q_vo, q_vn, q_sett, q_seto, q_bin, q_c, q_callb, q_cons, q_nil, q_tup, q_lst, q_celle, q_ret, q_nx, q_thl, q_thd, q_isi, q_neg, q_neg_i, q_callk, q_drop, q_retn, q_brk, q_cnt, q_ife, q_add_i, q_sub_i, List.map_cons, List.map_nil, List.length_cons, List.length_nil, List.replicate, List.append_nil, List.nil_append, List.cons_append, Nat.reduceAdd, Nat.reduceSub, List.getElem?_cons_zero, List.getElem?_cons_succ, List.set_cons_zero, List.set_cons_succ, Bool.not_true, Bool.not_false, decide_true, decide_false, if_true, if_false, t_lt_t, t_lt_f, t_le_t, t_le_f, t_gt_t, t_gt_f, t_ge_t, t_ge_f, t_eq_t, t_eq_f, t_ne_t, t_ne_f, t_is_b, t_isn_b, t_is_i, t_is_n, t_isn_i, t_isn_n, t_abs_n, t_abs_p, t_min, t_max, t_ixl, t_ixt, t_ixs, t_ixL, q_opt, q_ixo, q_oc0, q_ocs, q_oa0, q_oas, t_appd, q_app, t_putd, q_six, q_flopt, q_frz, q_int_i, q_mul_s, q_mod_i, q_div_i, q_len_s, q_len_l, q_len_t, q_items_s, q_items_l, q_items_t, t_szl, Int.reduceToNat, Int.reduceNeg, permL, List.filterMap_cons, List.filterMap_nil, eq_self, if_true, if_false, ite_true, ite_false, Bool.true_eq_false, Bool.false_eq_true]
    · refine ⟨v, v0, v1, ?_⟩
      rw [q_mi, c4]
      simp (disch := omega) only [q_df, q_st, q_sq, q_at_nx, q_at_rt, q_at_bk, q_at_ct, q_at_ex, q_mi, q_sel_t, q_sel_f, q_out_rt, q_out_nx, q_out_ex, q_rb_ok, q_rb_bad, q_rb_exc, q_tf_ok, q_v0, q_vs, q_w0, q_w0o, q_ws, q_tbq, q_asb, q_nt, q_rsel_t, q_rsel_f, q_ta, q_to, q_va, q_vo, q_vn, q_sett, q_seto, q_bin, q_c, q_callb, q_cons, q_nil, q_tup, q_lst, q_celle, q_ret, q_nx, q_thl, q_thd, q_isi, q_neg, q_neg_i, q_callk, q_drop, q_retn, q_brk, q_cnt, q_ife, q_add_i, q_sub_i, List.map_cons, List.map_nil, List.length_cons, List.length_nil, List.replicate, List.append_nil, List.nil_append, List.cons_append, Nat.reduceAdd, Nat.reduceSub, List.getElem?_cons_zero, List.getElem?_cons_succ, List.set_cons_zero, List.set_cons_succ, Bool.not_true, Bool.not_false, decide_true, decide_false, if_true, if_false, t_lt_t, t_lt_f, t_le_t, t_le_f, t_gt_t, t_gt_f, t_ge_t, t_ge_f, t_eq_t, t_eq_f, t_ne_t, t_ne_f, t_is_b, t_isn_b, t_is_i, t_is_n, t_isn_i, t_isn_n, t_abs_n, t_abs_p, t_min, t_max, t_ixl, t_ixt, t_ixs, t_ixL, q_opt, q_ixo, q_oc0, q_ocs, q_oa0, q_oas, t_appd, q_app, t_putd, q_six, q_flopt, q_frz, q_int_i, q_mul_s, q_mod_i, q_div_i, q_len_s, q_len_l, q_len_t, q_items_s, q_items_l, q_items_t, t_szl, Int.reduceToNat, Int.reduceNeg, permL, List.filterMap_cons, List.filterMap_nil, eq_self, if_true, if_false, ite_true, ite_false, Bool.true_eq_false, Bool.false_eq_true]
  refine ⟨w, some (.val (.int s)), some (.val (.int w)), w0, w1, ?_⟩
  unfold b_law_1
  rw [seq_nx (r' := [x0, x1, x2, some (.val (.lst (row.map D.int))), some (.val (.lst (dg.map D.int))), some (.own (.l (os.map D.int))), some (.val (.int (0 + (k : Int)))), some (.val (.int s)), x8, x9, x10, x11, x12, x13]) (by simp (disch := omega) only [q_sett, q_bin, q_vs, q_v0, q_c, q_rb_ok, q_mul_s, i2, q_tf_ok, List.set_cons_succ, List.set_cons_zero])]
  rw [seq_nx (r' := [x0, x1, x2, some (.val (.lst (row.map D.int))), some (.val (.lst (dg.map D.int))), some (.own (.l (os.map D.int))), some (.val (.int (0 + (k : Int)))), some (.val (.int s)), some (.val (.int v)), x9, x10, x11, x12, x13]) (by simp (disch := omega) only [q_sett, q_bin, q_vs, q_v0, q_c, q_rb_ok, q_mul_s, q_add_i, i3, q_tf_ok, List.set_cons_succ, List.set_cons_zero])]
  rw [seq_nx ew]
  rw [t_app (xs := os.map D.int) rfl (by rw [List.length_map]; omega)]
  simp only [q_df, q_st, q_sq, q_at_nx, q_at_rt, q_at_bk, q_at_ct, q_at_ex, q_mi, q_sel_t, q_sel_f, q_out_rt, q_out_nx, q_out_ex, q_rb_ok, q_rb_bad, q_rb_exc, q_tf_ok, q_v0, q_vs, q_w0, q_w0o, q_ws, q_tbq, q_asb, q_nt, q_rsel_t, q_rsel_f, q_ta, q_to, q_va, q_vo, q_vn, q_sett, q_seto, q_bin, q_c, q_callb, q_cons, q_nil, q_tup, q_lst, q_celle, q_ret, q_nx, q_thl, q_thd, q_isi, q_neg, q_neg_i, q_callk, q_drop, q_retn, q_brk, q_cnt, q_ife, q_add_i, q_sub_i, q_lt_i, q_le_i, q_gt_i, q_ge_i, q_eq_i, q_ne_i, List.map_cons, List.map_nil, List.length_cons, List.length_nil, List.replicate, List.append_nil, List.nil_append, List.cons_append, Nat.reduceAdd, Nat.reduceSub, List.getElem?_cons_zero, List.getElem?_cons_succ, List.set_cons_zero, List.set_cons_succ, Bool.not_true, Bool.not_false, decide_true, decide_false, if_true, if_false, List.map_append]
theorem e_line {X : D} {os : List Int} (hX : seqK X os) (hO : Oct os) (hs : os.length ≤ 1000) (x0 x1 x2 x3 x4 x6 x7 x8 x13 : Option EV) (acc : List D) (ha : acc.length ≤ 2000) (k : Nat) (hk : k ≤ os.length) (x12 : Option EV) :
    b_law_3 [x0, x1, x2, x3, x4, some (.val (.lst (os.map D.int))), x6, x7, x8, some (.val X), some (.own (.l acc)), some (.val (.int (0 + (k : Int)))), x12, x13] = .nx [x0, x1, x2, x3, x4, some (.val (.lst (os.map D.int))), x6, x7, x8, some (.val X), some (.own (.l (acc ++ [oc os k]))), some (.val (.int (0 + (k : Int)))), some (.val (oc os k)), x13] := by
  have e1 := e_outcome hX hO hs hk
  have e2 := e_read_at hO hs hk
  obtain ⟨c1, c2⟩ := oc_clean os k
  have e3 : dNe (oc os k) (oc os k) = .ok (.bl false) := ne_f c1 (by omega)
  rw [show (0 + (k : Int)) = (k : Int) by omega]
  unfold b_law_3
  rw [seq_nx (r' := [x0, x1, x2, x3, x4, some (.val (.lst (os.map D.int))), x6, x7, x8, some (.val X), some (.own (.l acc)), some (.val (.int (k : Int))), some (.val (oc os k)), x13]) (by simp only [q_df, q_st, q_sq, q_at_nx, q_at_rt, q_at_bk, q_at_ct, q_at_ex, q_mi, q_sel_t, q_sel_f, q_out_rt, q_out_nx, q_out_ex, q_rb_ok, q_rb_bad, q_rb_exc, q_tf_ok, q_v0, q_vs, q_w0, q_w0o, q_ws, q_tbq, q_asb, q_nt, q_rsel_t, q_rsel_f, q_ta, q_to, q_va, q_vo, q_vn, q_sett, q_seto, q_bin, q_c, q_callb, q_cons, q_nil, q_tup, q_lst, q_celle, q_ret, q_nx, q_thl, q_thd, q_isi, q_neg, q_neg_i, q_callk, q_drop, q_retn, q_brk, q_cnt, q_ife, q_add_i, q_sub_i, q_lt_i, q_le_i, q_gt_i, q_ge_i, q_eq_i, q_ne_i, List.map_cons, List.map_nil, List.length_cons, List.length_nil, List.replicate, List.append_nil, List.nil_append, List.cons_append, Nat.reduceAdd, Nat.reduceSub, List.getElem?_cons_zero, List.getElem?_cons_succ, List.set_cons_zero, List.set_cons_succ, Bool.not_true, Bool.not_false, decide_true, decide_false, if_true, if_false, e1])]
  rw [seq_nx (r' := [x0, x1, x2, x3, x4, some (.val (.lst (os.map D.int))), x6, x7, x8, some (.val X), some (.own (.l acc)), some (.val (.int (k : Int))), some (.val (oc os k)), x13]) (by simp only [q_df, q_st, q_sq, q_at_nx, q_at_rt, q_at_bk, q_at_ct, q_at_ex, q_mi, q_sel_t, q_sel_f, q_out_rt, q_out_nx, q_out_ex, q_rb_ok, q_rb_bad, q_rb_exc, q_tf_ok, q_v0, q_vs, q_w0, q_w0o, q_ws, q_tbq, q_asb, q_nt, q_rsel_t, q_rsel_f, q_ta, q_to, q_va, q_vo, q_vn, q_sett, q_seto, q_bin, q_c, q_callb, q_cons, q_nil, q_tup, q_lst, q_celle, q_ret, q_nx, q_thl, q_thd, q_isi, q_neg, q_neg_i, q_callk, q_drop, q_retn, q_brk, q_cnt, q_ife, q_add_i, q_sub_i, q_lt_i, q_le_i, q_gt_i, q_ge_i, q_eq_i, q_ne_i, List.map_cons, List.map_nil, List.length_cons, List.length_nil, List.replicate, List.append_nil, List.nil_append, List.cons_append, Nat.reduceAdd, Nat.reduceSub, List.getElem?_cons_zero, List.getElem?_cons_succ, List.set_cons_zero, List.set_cons_succ, Bool.not_true, Bool.not_false, decide_true, decide_false, if_true, if_false, e2, e3])]
  rw [t_app (xs := acc) rfl (by omega)]
  simp only [q_df, q_st, q_sq, q_at_nx, q_at_rt, q_at_bk, q_at_ct, q_at_ex, q_mi, q_sel_t, q_sel_f, q_out_rt, q_out_nx, q_out_ex, q_rb_ok, q_rb_bad, q_rb_exc, q_tf_ok, q_v0, q_vs, q_w0, q_w0o, q_ws, q_tbq, q_asb, q_nt, q_rsel_t, q_rsel_f, q_ta, q_to, q_va, q_vo, q_vn, q_sett, q_seto, q_bin, q_c, q_callb, q_cons, q_nil, q_tup, q_lst, q_celle, q_ret, q_nx, q_thl, q_thd, q_isi, q_neg, q_neg_i, q_callk, q_drop, q_retn, q_brk, q_cnt, q_ife, q_add_i, q_sub_i, q_lt_i, q_le_i, q_gt_i, q_ge_i, q_eq_i, q_ne_i, List.map_cons, List.map_nil, List.length_cons, List.length_nil, List.replicate, List.append_nil, List.nil_append, List.cons_append, Nat.reduceAdd, Nat.reduceSub, List.getElem?_cons_zero, List.getElem?_cons_succ, List.set_cons_zero, List.set_cons_succ, Bool.not_true, Bool.not_false, decide_true, decide_false, if_true, if_false]
theorem law_true (ns : List Int) (hl : ns.length ≤ 63) (hb : ∀ z ∈ ns, intBits z ≤ 1048576) : m_law [.slst (ns.map D.int)] = .ok (.bl true) := by
  obtain ⟨n, ec2, _⟩ := cell_ok ns hb 2 (by omega) (by omega)
  obtain ⟨c0, ec0, _⟩ := cell_ok ns hb 0 (by omega) (by omega)
  obtain ⟨c1, ec1, _⟩ := cell_ok ns hb 1 (by omega) (by omega)
  have ec2 : m_law_cell [.slst (ns.map D.int), .int 2] = .ok (.int n) := ec2
  have ec0 : m_law_cell [.slst (ns.map D.int), .int 0] = .ok (.int c0) := ec0
  have ec1 : m_law_cell [.slst (ns.map D.int), .int 1] = .ok (.int c1) := ec1
  obtain ⟨row, ed, hd⟩ := digits_ok c0 [41, 3, 2, 8] (by
    intro s hs
    simp only [List.mem_cons, List.not_mem_nil, or_false] at hs
    omega) (by simp)
  have ed : m_law_digits [.int c0, .lst [.int 41, .int 3, .int 2, .int 8]] = .ok (.lst (row.map D.int)) := ed
  obtain ⟨dg, eg, hg⟩ := digits_ok c1 (List.replicate 40 [8, 256]).flatten (by decide) (by decide)
  have eg : m_law_digits [.int c1, .lst ((List.replicate 40 ([8, 256] : List Int)).flatten.map D.int)] = .ok (.lst (dg.map D.int)) := eg
  have egm : mCallB m_law_digits (mCons (mCallB m_law_cell (mCons (mVar 0) (mCons (mC (.int 1)) mNil))) (mCons (mBin dMul (mCellE (mLst (mCons (mC (.int 8)) (mCons (mC (.int 256)) mNil)))) (mC (.int 40))) mNil)) [some (.val (.slst (ns.map D.int))), some (.val (.int n)), some (.val (.str "x")), some (.val (.lst (row.map D.int))), none, none, none, none, none, none, none, none, none, none] = .ok (.lst (dg.map D.int)) → True := fun _ => trivial
  have hg80 : ∀ j, j < 80 → ∃ y, dg[j]? = some y ∧ 0 ≤ y ∧ y < 256 := fun j hj => by
    have hall : ∀ j, j < 80 → ∃ s, (List.replicate 40 ([8, 256] : List Int)).flatten[j]? = some s ∧ s ≤ 256 := by decide +kernel
    obtain ⟨s, hs, hs2⟩ := hall j hj
    obtain ⟨y, h1, h2, h3⟩ := hg.get hs
    exact ⟨y, h1, h2, by omega⟩
  obtain ⟨y0, g0, a0, b0⟩ := hd.get (i := 0) rfl
  obtain ⟨y1, g1, a1, b1⟩ := hd.get (i := 1) rfl
  obtain ⟨y2, g2, a2, b2⟩ := hd.get (i := 2) rfl
  obtain ⟨y3, g3, a3, b3⟩ := hd.get (i := 3) rfl
  have ix0 : dIx (.lst (row.map D.int)) (.int 0) = .ok (.int y0) := q_ix rfl (by omega) (by rw [List.getElem?_map, show (0 : Int).toNat = 0 from rfl, g0]; rfl)
  have ix2 : dIx (.lst (row.map D.int)) (.int 2) = .ok (.int y2) := q_ix rfl (by omega) (by rw [List.getElem?_map, show (2 : Int).toNat = 2 from rfl, g2]; rfl)
  have ix3 : dIx (.lst (row.map D.int)) (.int 3) = .ok (.int y3) := q_ix rfl (by omega) (by rw [List.getElem?_map, show (3 : Int).toNat = 3 from rfl, g3]; rfl)
  obtain ⟨t, et, ht⟩ : ∃ t : Str, dIx (.lst [.str "count", .str "", .str "kind", .str "x"]) (.int (n % 4)) = .ok (.str t) ∧ t ∈ ([("count" : Str), "", "kind", "x"] : List Str) := by
    have m0 := Int.emod_nonneg n (show (4 : Int) ≠ 0 by omega)
    have m1 := Int.emod_lt_of_pos n (show (0 : Int) < 4 by omega)
    rw [t_ixl m0]
    have : (n % 4).toNat = 0 ∨ (n % 4).toNat = 1 ∨ (n % 4).toNat = 2 ∨ (n % 4).toNat = 3 := by omega
    rcases this with h | h | h | h <;> rw [h]
    · exact ⟨_, rfl, by simp⟩
    · exact ⟨_, rfl, by simp⟩
    · exact ⟨_, rfl, by simp⟩
    · exact ⟨_, rfl, by simp⟩
  have ek := e_kept n t ht
  have em := e_more n t ht
  have s4 : (4 : Nat) ≤ sizeLine := by decide
  have s2 : (2 : Nat) ≤ sizeLine := by decide
  refine def_of ?_
  rw [show mStart 14 [D.slst (ns.map D.int)] = [some (EV.val (D.slst (ns.map D.int))), none, none, none, none, none, none, none, none, none, none, none, none, none] from rfl]
  rw [seq_nx (r' := [some (.val (.slst (ns.map D.int))), some (.val (.int n)), none, none, none, none, none, none, none, none, none, none, none, none]) (by simp only [q_df, q_st, q_sq, q_at_nx, q_at_rt, q_at_bk, q_at_ct, q_at_ex, q_mi, q_sel_t, q_sel_f, q_out_rt, q_out_nx, q_out_ex, q_rb_ok, q_rb_bad, q_rb_exc, q_tf_ok, q_v0, q_vs, q_w0, q_w0o, q_ws, q_tbq, q_asb, q_nt, q_rsel_t, q_rsel_f, q_ta, q_to, q_va, q_vo, q_vn, q_sett, q_seto, q_bin, q_c, q_callb, q_cons, q_nil, q_tup, q_lst, q_celle, q_ret, q_nx, q_thl, q_thd, q_isi, q_neg, q_neg_i, q_callk, q_drop, q_retn, q_brk, q_cnt, q_ife, q_add_i, q_sub_i, q_lt_i, q_le_i, q_gt_i, q_ge_i, q_eq_i, q_ne_i, List.map_cons, List.map_nil, List.length_cons, List.length_nil, List.replicate, List.append_nil, List.nil_append, List.cons_append, Nat.reduceAdd, Nat.reduceSub, List.getElem?_cons_zero, List.getElem?_cons_succ, List.set_cons_zero, List.set_cons_succ, Bool.not_true, Bool.not_false, decide_true, decide_false, if_true, if_false, ec2, q_int_i])]
  rw [seq_nx (r' := [some (.val (.slst (ns.map D.int))), some (.val (.int n)), some (.val (.str t)), none, none, none, none, none, none, none, none, none, none, none]) (by simp (disch := omega) only [q_sett, q_bin, q_celle, q_lst, q_cons, q_nil, q_c, q_rb_ok, q_callb, q_vs, q_v0, q_int_i, q_mod_i, q_thl, List.length_cons, List.length_nil, Nat.reduceAdd, s4, if_true, et, q_tf_ok, List.set_cons_succ, List.set_cons_zero])]
  rw [seq_nx (r' := [some (.val (.slst (ns.map D.int))), some (.val (.int n)), some (.val (.str t)), none, none, none, none, none, none, none, none, none, none, none]) (by simp only [q_df, q_st, q_sq, q_at_nx, q_at_rt, q_at_bk, q_at_ct, q_at_ex, q_mi, q_sel_t, q_sel_f, q_out_rt, q_out_nx, q_out_ex, q_rb_ok, q_rb_bad, q_rb_exc, q_tf_ok, q_v0, q_vs, q_w0, q_w0o, q_ws, q_tbq, q_asb, q_nt, q_rsel_t, q_rsel_f, q_ta, q_to, q_va, q_vo, q_vn, q_sett, q_seto, q_bin, q_c, q_callb, q_cons, q_nil, q_tup, q_lst, q_celle, q_ret, q_nx, q_thl, q_thd, q_isi, q_neg, q_neg_i, q_callk, q_drop, q_retn, q_brk, q_cnt, q_ife, q_add_i, q_sub_i, q_lt_i, q_le_i, q_gt_i, q_ge_i, q_eq_i, q_ne_i, List.map_cons, List.map_nil, List.length_cons, List.length_nil, List.replicate, List.append_nil, List.nil_append, List.cons_append, Nat.reduceAdd, Nat.reduceSub, List.getElem?_cons_zero, List.getElem?_cons_succ, List.set_cons_zero, List.set_cons_succ, Bool.not_true, Bool.not_false, decide_true, decide_false, if_true, if_false, ek, em])]
  rw [seq_nx (r' := [some (.val (.slst (ns.map D.int))), some (.val (.int n)), some (.val (.str t)), some (.val (.lst (row.map D.int))), none, none, none, none, none, none, none, none, none, none]) (by simp only [q_df, q_st, q_sq, q_at_nx, q_at_rt, q_at_bk, q_at_ct, q_at_ex, q_mi, q_sel_t, q_sel_f, q_out_rt, q_out_nx, q_out_ex, q_rb_ok, q_rb_bad, q_rb_exc, q_tf_ok, q_v0, q_vs, q_w0, q_w0o, q_ws, q_tbq, q_asb, q_nt, q_rsel_t, q_rsel_f, q_ta, q_to, q_va, q_vo, q_vn, q_sett, q_seto, q_bin, q_c, q_callb, q_cons, q_nil, q_tup, q_lst, q_celle, q_ret, q_nx, q_thl, q_thd, q_isi, q_neg, q_neg_i, q_callk, q_drop, q_retn, q_brk, q_cnt, q_ife, q_add_i, q_sub_i, q_lt_i, q_le_i, q_gt_i, q_ge_i, q_eq_i, q_ne_i, List.map_cons, List.map_nil, List.length_cons, List.length_nil, List.replicate, List.append_nil, List.nil_append, List.cons_append, Nat.reduceAdd, Nat.reduceSub, List.getElem?_cons_zero, List.getElem?_cons_succ, List.set_cons_zero, List.set_cons_succ, Bool.not_true, Bool.not_false, decide_true, decide_false, if_true, if_false, ec0, s4, ed])]
  have em2 : ∀ r : Sc, mBin dMul (mCellE (mLst (mCons (mC (.int 8)) (mCons (mC (.int 256)) mNil)))) (mC (.int 40)) r = .ok (.lst ((List.replicate 40 ([8, 256] : List Int)).flatten.map D.int)) := fun r => by rfl
  rw [seq_nx (r' := [some (.val (.slst (ns.map D.int))), some (.val (.int n)), some (.val (.str t)), some (.val (.lst (row.map D.int))), some (.val (.lst (dg.map D.int))), none, none, none, none, none, none, none, none, none]) (by
    rw [q_sett, q_callb, q_cons]
    rw [show mCallB m_law_cell (mCons (mVar 0) (mCons (mC (.int 1)) mNil)) [some (.val (.slst (ns.map D.int))), some (.val (.int n)), some (.val (.str t)), some (.val (.lst (row.map D.int))), none, none, none, none, none, none, none, none, none, none] = .ok (.int c1) from by simp only [q_df, q_st, q_sq, q_at_nx, q_at_rt, q_at_bk, q_at_ct, q_at_ex, q_mi, q_sel_t, q_sel_f, q_out_rt, q_out_nx, q_out_ex, q_rb_ok, q_rb_bad, q_rb_exc, q_tf_ok, q_v0, q_vs, q_w0, q_w0o, q_ws, q_tbq, q_asb, q_nt, q_rsel_t, q_rsel_f, q_ta, q_to, q_va, q_vo, q_vn, q_sett, q_seto, q_bin, q_c, q_callb, q_cons, q_nil, q_tup, q_lst, q_celle, q_ret, q_nx, q_thl, q_thd, q_isi, q_neg, q_neg_i, q_callk, q_drop, q_retn, q_brk, q_cnt, q_ife, q_add_i, q_sub_i, q_lt_i, q_le_i, q_gt_i, q_ge_i, q_eq_i, q_ne_i, List.map_cons, List.map_nil, List.length_cons, List.length_nil, List.replicate, List.append_nil, List.nil_append, List.cons_append, Nat.reduceAdd, Nat.reduceSub, List.getElem?_cons_zero, List.getElem?_cons_succ, List.set_cons_zero, List.set_cons_succ, Bool.not_true, Bool.not_false, decide_true, decide_false, if_true, if_false, ec1]]
    rw [q_rb_ok, q_cons, em2, q_rb_ok, q_nil, q_rb_ok, q_rb_ok, q_rb_ok, eg, q_tf_ok]
    rfl)]
  rw [seq_nx (r' := [some (.val (.slst (ns.map D.int))), some (.val (.int n)), some (.val (.str t)), some (.val (.lst (row.map D.int))), some (.val (.lst (dg.map D.int))), some (.own (.l [])), none, none, none, none, none, none, none, none]) (by rfl)]
  obtain ⟨r2, e2, os, x6, x7, x8, hr, ho, hol⟩ := for_inv (i := 6) (body := b_law_1) (fun j r => ∃ (os : List Int) (x6 : Option D) (x7 x8 : Option EV), r = [some (.val (.slst (ns.map D.int))), some (.val (.int n)), some (.val (.str t)), some (.val (.lst (row.map D.int))), some (.val (.lst (dg.map D.int))), some (.own (.l (os.map D.int))), x6.map EV.val, x7, x8, none, none, none, none, none] ∧ (∀ x ∈ os, 0 ≤ x ∧ x < 256) ∧ os.length = j)
    (ds := rgD 0 y0.toNat) (r := [some (.val (.slst (ns.map D.int))), some (.val (.int n)), some (.val (.str t)), some (.val (.lst (row.map D.int))), some (.val (.lst (dg.map D.int))), some (.own (.l [])), none, none, none, none, none, none, none, none]) ⟨[], none, none, none, rfl, by simp, rfl⟩ (fun j d r hd ⟨os, x6, x7, x8, hr, ho, hol⟩ => by
      subst hr
      obtain ⟨hj, rfl⟩ := rgD_get hd
      obtain ⟨w, y7, y8, w0, w1, e⟩ := e_b1 (some (.val (.slst (ns.map D.int)))) (some (.val (.int n))) (some (.val (.str t))) none none none none none row dg os ⟨y1, g1, a1, b1⟩ j (by omega) hg80 (by omega) x7 x8
      refine ⟨_, e, os ++ [w], some (.int (0 + (j : Int))), y7, y8, rfl, fun z hz => ?_, by simp [hol]⟩
      rcases List.mem_append.mp hz with hz | hz
      · exact ho z hz
      · cases List.mem_singleton.mp hz
        exact ⟨w0, w1⟩)
  subst hr
  rw [rgD_len] at hol
  rw [seq_nx (for_nx (by simp only [q_df, q_st, q_sq, q_at_nx, q_at_rt, q_at_bk, q_at_ct, q_at_ex, q_mi, q_sel_t, q_sel_f, q_out_rt, q_out_nx, q_out_ex, q_rb_ok, q_rb_bad, q_rb_exc, q_tf_ok, q_v0, q_vs, q_w0, q_w0o, q_ws, q_tbq, q_asb, q_nt, q_rsel_t, q_rsel_f, q_ta, q_to, q_va, q_vo, q_vn, q_sett, q_seto, q_bin, q_c, q_callb, q_cons, q_nil, q_tup, q_lst, q_celle, q_ret, q_nx, q_thl, q_thd, q_isi, q_neg, q_neg_i, q_callk, q_drop, q_retn, q_brk, q_cnt, q_ife, q_add_i, q_sub_i, q_lt_i, q_le_i, q_gt_i, q_ge_i, q_eq_i, q_ne_i, List.map_cons, List.map_nil, List.length_cons, List.length_nil, List.replicate, List.append_nil, List.nil_append, List.cons_append, Nat.reduceAdd, Nat.reduceSub, List.getElem?_cons_zero, List.getElem?_cons_succ, List.set_cons_zero, List.set_cons_succ, Bool.not_true, Bool.not_false, decide_true, decide_false, if_true, if_false, q_rg, ix0]; exact q_rg1 (by omega) (by omega)) e2)]
  clear e2
  obtain ⟨os2, x5, e3, ho2, hol2⟩ : ∃ (os2 : List Int) (x6' : Option EV), mIf (mTB (mBin dEq (mBin dIx (mVar 3) (mC (.int 3))) (mC (.int 0)))) (mFrz 5 (mSetO 5 (mCatF (mCellE (mLC [6] (mRg (mCons (mC (.int 90)) mNil)) (bName 6) mYes e_law_2)) (mVar 5)))) mNx [some (.val (.slst (ns.map D.int))), some (.val (.int n)), some (.val (.str t)), some (.val (.lst (row.map D.int))), some (.val (.lst (dg.map D.int))), some (.own (.l (os.map D.int))), x6.map EV.val, x7, x8, none, none, none, none, none]
      = .nx [some (.val (.slst (ns.map D.int))), some (.val (.int n)), some (.val (.str t)), some (.val (.lst (row.map D.int))), some (.val (.lst (dg.map D.int))), some (.own (.l (os2.map D.int))), x6.map EV.val, x7, x8, none, none, none, none, none] ∧ (∀ x ∈ os2, 0 ≤ x ∧ x < 256) ∧ os2.length ≤ 500 := by
    by_cases h : y3 = 0
    · refine ⟨((List.range 90).map fun (k : Nat) => 128 + (k : Int)) ++ os, none, ?_, fun x hx => ?_, by simp; omega⟩
      · subst h
        rw [q_mi]
        simp only [q_tbq, q_bin, q_vs, q_v0, q_c, q_rb_ok, ix3, q_eq_i, decide_true, q_asb, q_tf_ok, q_sel_t]
        rw [t_frz rfl]
        have lc : mLC [6] (mRg (mCons (mC (.int 90)) mNil)) (bName 6) mYes e_law_2 [some (.val (.slst (ns.map D.int))), some (.val (.int n)), some (.val (.str t)), some (.val (.lst (row.map D.int))), some (.val (.lst (dg.map D.int))), some (.val (.lst (os.map D.int))), x6.map EV.val, x7, x8, none, none, none, none, none] = .ok (.l ((List.range (rgD 0 90).length).map fun (k : Nat) => D.int (128 + (k : Int)))) := by
          refine lc_all (ds := rgD 0 90) (by cases x6 <;> rfl) (by rfl) (by rw [rgD_len]; omega) fun j d hd => ?_
          obtain ⟨hj, rfl⟩ := rgD_get hd
          refine ⟨_, rfl, ?_⟩
          show e_law_2 [some (.val (.slst (ns.map D.int))), some (.val (.int n)), some (.val (.str t)), some (.val (.lst (row.map D.int))), some (.val (.lst (dg.map D.int))), some (.val (.lst (os.map D.int))), some (.val (.int (0 + (j : Int)))), x7, x8, none, none, none, none, none] = _
          rw [show 0 + (j : Int) = (j : Int) by omega]
          simp only [e_law_2, q_df, q_st, q_sq, q_at_nx, q_at_rt, q_at_bk, q_at_ct, q_at_ex, q_mi, q_sel_t, q_sel_f, q_out_rt, q_out_nx, q_out_ex, q_rb_ok, q_rb_bad, q_rb_exc, q_tf_ok, q_v0, q_vs, q_w0, q_w0o, q_ws, q_tbq, q_asb, q_nt, q_rsel_t, q_rsel_f, q_ta, q_to, q_va, q_vo, q_vn, q_sett, q_seto, q_bin, q_c, q_callb, q_cons, q_nil, q_tup, q_lst, q_celle, q_ret, q_nx, q_thl, q_thd, q_isi, q_neg, q_neg_i, q_callk, q_drop, q_retn, q_brk, q_cnt, q_ife, q_add_i, q_sub_i, q_lt_i, q_le_i, q_gt_i, q_ge_i, q_eq_i, q_ne_i, List.map_cons, List.map_nil, List.length_cons, List.length_nil, List.replicate, List.append_nil, List.nil_append, List.cons_append, Nat.reduceAdd, Nat.reduceSub, List.getElem?_cons_zero, List.getElem?_cons_succ, List.set_cons_zero, List.set_cons_succ, Bool.not_true, Bool.not_false, decide_true, decide_false, if_true, if_false]
        rw [rgD_len] at lc
        simp only [List.set_cons_succ, List.set_cons_zero, thawed]
        rw [q_seto]
        unfold mCatF
        rw [q_celle, lc]
        simp only [q_rb_ok, q_thl, q_vs, q_v0]
        rw [List.map_append, List.map_map]
        rw [if_pos (Nat.le_trans (show _ ≤ 16777216 by simp only [List.length_map, List.length_range]; omega) sizeLine_big)]
        rfl
      · rcases List.mem_append.mp hx with hx | hx
        · obtain ⟨k, hk, rfl⟩ := List.mem_map.mp hx
          have := List.mem_range.mp hk
          omega
        · exact ho x hx
    · refine ⟨os, none, ?_, ho, by omega⟩
      simp only [q_df, q_st, q_sq, q_at_nx, q_at_rt, q_at_bk, q_at_ct, q_at_ex, q_mi, q_sel_t, q_sel_f, q_out_rt, q_out_nx, q_out_ex, q_rb_ok, q_rb_bad, q_rb_exc, q_tf_ok, q_v0, q_vs, q_w0, q_w0o, q_ws, q_tbq, q_asb, q_nt, q_rsel_t, q_rsel_f, q_ta, q_to, q_va, q_vo, q_vn, q_sett, q_seto, q_bin, q_c, q_callb, q_cons, q_nil, q_tup, q_lst, q_celle, q_ret, q_nx, q_thl, q_thd, q_isi, q_neg, q_neg_i, q_callk, q_drop, q_retn, q_brk, q_cnt, q_ife, q_add_i, q_sub_i, q_lt_i, q_le_i, q_gt_i, q_ge_i, q_eq_i, q_ne_i, List.map_cons, List.map_nil, List.length_cons, List.length_nil, List.replicate, List.append_nil, List.nil_append, List.cons_append, Nat.reduceAdd, Nat.reduceSub, List.getElem?_cons_zero, List.getElem?_cons_succ, List.set_cons_zero, List.set_cons_succ, Bool.not_true, Bool.not_false, decide_true, decide_false, if_true, if_false, ix3, decide_eq_false h]
  rw [seq_nx e3]
  clear e3
  rw [seq_nx (r' := [some (.val (.slst (ns.map D.int))), some (.val (.int n)), some (.val (.str t)), some (.val (.lst (row.map D.int))), some (.val (.lst (dg.map D.int))), some (.own (.l (os2.map D.int))), x6.map EV.val, x7, x8, some (.val (.lst (os2.map D.int))), none, none, none, none]) (by simp only [q_df, q_st, q_sq, q_at_nx, q_at_rt, q_at_bk, q_at_ct, q_at_ex, q_mi, q_sel_t, q_sel_f, q_out_rt, q_out_nx, q_out_ex, q_rb_ok, q_rb_bad, q_rb_exc, q_tf_ok, q_v0, q_vs, q_w0, q_w0o, q_ws, q_tbq, q_asb, q_nt, q_rsel_t, q_rsel_f, q_ta, q_to, q_va, q_vo, q_vn, q_sett, q_seto, q_bin, q_c, q_callb, q_cons, q_nil, q_tup, q_lst, q_celle, q_ret, q_nx, q_thl, q_thd, q_isi, q_neg, q_neg_i, q_callk, q_drop, q_retn, q_brk, q_cnt, q_ife, q_add_i, q_sub_i, q_lt_i, q_le_i, q_gt_i, q_ge_i, q_eq_i, q_ne_i, List.map_cons, List.map_nil, List.length_cons, List.length_nil, List.replicate, List.append_nil, List.nil_append, List.cons_append, Nat.reduceAdd, Nat.reduceSub, List.getElem?_cons_zero, List.getElem?_cons_succ, List.set_cons_zero, List.set_cons_succ, Bool.not_true, Bool.not_false, decide_true, decide_false, if_true, if_false, q_lsto, q_ocs, q_oas, q_oa0, q_opt])]
  obtain ⟨X, e4, hX⟩ : ∃ X, mIf (mTB (mBin dEq (mBin dIx (mVar 3) (mC (.int 2))) (mC (.int 1)))) (mSet 9 (mTupO 5)) mNx [some (.val (.slst (ns.map D.int))), some (.val (.int n)), some (.val (.str t)), some (.val (.lst (row.map D.int))), some (.val (.lst (dg.map D.int))), some (.own (.l (os2.map D.int))), x6.map EV.val, x7, x8, some (.val (.lst (os2.map D.int))), none, none, none, none]
      = .nx [some (.val (.slst (ns.map D.int))), some (.val (.int n)), some (.val (.str t)), some (.val (.lst (row.map D.int))), some (.val (.lst (dg.map D.int))), some (.own (.l (os2.map D.int))), x6.map EV.val, x7, x8, some (.val X), none, none, none, none] ∧ seqK X os2 := by
    by_cases h : y2 = 1
    · refine ⟨.tup (os2.map D.int), ?_, .inr rfl⟩
      subst h
      simp only [q_df, q_st, q_sq, q_at_nx, q_at_rt, q_at_bk, q_at_ct, q_at_ex, q_mi, q_sel_t, q_sel_f, q_out_rt, q_out_nx, q_out_ex, q_rb_ok, q_rb_bad, q_rb_exc, q_tf_ok, q_v0, q_vs, q_w0, q_w0o, q_ws, q_tbq, q_asb, q_nt, q_rsel_t, q_rsel_f, q_ta, q_to, q_va, q_vo, q_vn, q_sett, q_seto, q_bin, q_c, q_callb, q_cons, q_nil, q_tup, q_lst, q_celle, q_ret, q_nx, q_thl, q_thd, q_isi, q_neg, q_neg_i, q_callk, q_drop, q_retn, q_brk, q_cnt, q_ife, q_add_i, q_sub_i, q_lt_i, q_le_i, q_gt_i, q_ge_i, q_eq_i, q_ne_i, List.map_cons, List.map_nil, List.length_cons, List.length_nil, List.replicate, List.append_nil, List.nil_append, List.cons_append, Nat.reduceAdd, Nat.reduceSub, List.getElem?_cons_zero, List.getElem?_cons_succ, List.set_cons_zero, List.set_cons_succ, Bool.not_true, Bool.not_false, decide_true, decide_false, if_true, if_false, ix2, q_tupo, q_oas, q_oa0, q_opt]
    · refine ⟨.lst (os2.map D.int), ?_, .inl rfl⟩
      simp only [q_df, q_st, q_sq, q_at_nx, q_at_rt, q_at_bk, q_at_ct, q_at_ex, q_mi, q_sel_t, q_sel_f, q_out_rt, q_out_nx, q_out_ex, q_rb_ok, q_rb_bad, q_rb_exc, q_tf_ok, q_v0, q_vs, q_w0, q_w0o, q_ws, q_tbq, q_asb, q_nt, q_rsel_t, q_rsel_f, q_ta, q_to, q_va, q_vo, q_vn, q_sett, q_seto, q_bin, q_c, q_callb, q_cons, q_nil, q_tup, q_lst, q_celle, q_ret, q_nx, q_thl, q_thd, q_isi, q_neg, q_neg_i, q_callk, q_drop, q_retn, q_brk, q_cnt, q_ife, q_add_i, q_sub_i, q_lt_i, q_le_i, q_gt_i, q_ge_i, q_eq_i, q_ne_i, List.map_cons, List.map_nil, List.length_cons, List.length_nil, List.replicate, List.append_nil, List.nil_append, List.cons_append, Nat.reduceAdd, Nat.reduceSub, List.getElem?_cons_zero, List.getElem?_cons_succ, List.set_cons_zero, List.set_cons_succ, Bool.not_true, Bool.not_false, decide_true, decide_false, if_true, if_false, ix2, decide_eq_false h]
  rw [seq_nx e4]
  clear e4
  have hO := oct_of ho2
  rw [seq_nx (r' := [some (.val (.slst (ns.map D.int))), some (.val (.int n)), some (.val (.str t)), some (.val (.lst (row.map D.int))), some (.val (.lst (dg.map D.int))), some (.own (.l (os2.map D.int))), x6.map EV.val, x7, x8, some (.val X), some (.own (.l [])), none, none, none]) (by rfl)]
  obtain ⟨r5, e5, x11, x12, hr⟩ := for_inv (i := 11) (body := b_law_3) (fun j r => ∃ (x11 : Option D) (x12 : Option EV), r = [some (.val (.slst (ns.map D.int))), some (.val (.int n)), some (.val (.str t)), some (.val (.lst (row.map D.int))), some (.val (.lst (dg.map D.int))), some (.val (.lst (os2.map D.int))), x6.map EV.val, x7, x8, some (.val X), some (.own (.l ((List.range j).map (oc os2)))), x11.map EV.val, x12, none])
    (ds := rgD 0 (os2.length + 1)) (r := [some (.val (.slst (ns.map D.int))), some (.val (.int n)), some (.val (.str t)), some (.val (.lst (row.map D.int))), some (.val (.lst (dg.map D.int))), some (.val (.lst (os2.map D.int))), x6.map EV.val, x7, x8, some (.val X), some (.own (.l [])), none, none, none]) ⟨none, none, rfl⟩ (fun j d r hd ⟨x11, x12, hr⟩ => by
      subst hr
      obtain ⟨hj, rfl⟩ := rgD_get hd
      refine ⟨_, e_line hX hO (by omega) _ _ _ _ _ _ _ _ _ _ (by simp; omega) j (by omega) _, some (.int (0 + (j : Int))), some (.val (oc os2 j)), ?_⟩
      rw [List.range_succ, List.map_append]
      rfl)
  rw [rgD_len] at hr
  subst hr
  have er : mRg (mCons (mBin dAdd (mCallB dLen (mCons (mVar 5) mNil)) (mC (.int 1))) mNil) [some (.val (.slst (ns.map D.int))), some (.val (.int n)), some (.val (.str t)), some (.val (.lst (row.map D.int))), some (.val (.lst (dg.map D.int))), some (.val (.lst (os2.map D.int))), x6.map EV.val, x7, x8, some (.val X), some (.own (.l [])), none, none, none] = .ok (rgD 0 (os2.length + 1)) := by
    simp only [q_df, q_st, q_sq, q_at_nx, q_at_rt, q_at_bk, q_at_ct, q_at_ex, q_mi, q_sel_t, q_sel_f, q_out_rt, q_out_nx, q_out_ex, q_rb_ok, q_rb_bad, q_rb_exc, q_tf_ok, q_v0, q_vs, q_w0, q_w0o, q_ws, q_tbq, q_asb, q_nt, q_rsel_t, q_rsel_f, q_ta, q_to, q_va, q_vo, q_vn, q_sett, q_seto, q_bin, q_c, q_callb, q_cons, q_nil, q_tup, q_lst, q_celle, q_ret, q_nx, q_thl, q_thd, q_isi, q_neg, q_neg_i, q_callk, q_drop, q_retn, q_brk, q_cnt, q_ife, q_add_i, q_sub_i, q_lt_i, q_le_i, q_gt_i, q_ge_i, q_eq_i, q_ne_i, List.map_cons, List.map_nil, List.length_cons, List.length_nil, List.replicate, List.append_nil, List.nil_append, List.cons_append, Nat.reduceAdd, Nat.reduceSub, List.getElem?_cons_zero, List.getElem?_cons_succ, List.set_cons_zero, List.set_cons_succ, Bool.not_true, Bool.not_false, decide_true, decide_false, if_true, if_false, q_rg, q_len_l, List.length_map]
    rw [q_rg1 (by omega) (by omega), show ((os2.length : Int) + 1).toNat = os2.length + 1 by omega]
  have ef : mFrz 5 (mFor (mRg (mCons (mBin dAdd (mCallB dLen (mCons (mVar 5) mNil)) (mC (.int 1))) mNil)) (bName 11) b_law_3) [some (.val (.slst (ns.map D.int))), some (.val (.int n)), some (.val (.str t)), some (.val (.lst (row.map D.int))), some (.val (.lst (dg.map D.int))), some (.own (.l (os2.map D.int))), x6.map EV.val, x7, x8, some (.val X), some (.own (.l [])), none, none, none] = .nx [some (.val (.slst (ns.map D.int))), some (.val (.int n)), some (.val (.str t)), some (.val (.lst (row.map D.int))), some (.val (.lst (dg.map D.int))), some (.val (.lst (os2.map D.int))), x6.map EV.val, x7, x8, some (.val X), some (.own (.l ((List.range (os2.length + 1)).map (oc os2)))), x11.map EV.val, x12, none] := by
    rw [t_frz rfl]
    exact for_nx er e5
  rw [seq_nx ef]
  clear ef e5
  have lc : mLC [11] (mRg (mCons (mBin dAdd (mCallB dLen (mCons (mVar 5) mNil)) (mC (.int 1))) mNil)) (bName 11) mYes e_law_4 [some (.val (.slst (ns.map D.int))), some (.val (.int n)), some (.val (.str t)), some (.val (.lst (row.map D.int))), some (.val (.lst (dg.map D.int))), some (.val (.lst (os2.map D.int))), x6.map EV.val, x7, x8, some (.val X), some (.own (.l ((List.range (os2.length + 1)).map (oc os2)))), x11.map EV.val, x12, none] = .ok (.l ((List.range (rgD 0 (os2.length + 1)).length).map (oc os2))) := by
    refine lc_all (ds := rgD 0 (os2.length + 1)) (by cases x11 <;> rfl) (by
      simp only [q_df, q_st, q_sq, q_at_nx, q_at_rt, q_at_bk, q_at_ct, q_at_ex, q_mi, q_sel_t, q_sel_f, q_out_rt, q_out_nx, q_out_ex, q_rb_ok, q_rb_bad, q_rb_exc, q_tf_ok, q_v0, q_vs, q_w0, q_w0o, q_ws, q_tbq, q_asb, q_nt, q_rsel_t, q_rsel_f, q_ta, q_to, q_va, q_vo, q_vn, q_sett, q_seto, q_bin, q_c, q_callb, q_cons, q_nil, q_tup, q_lst, q_celle, q_ret, q_nx, q_thl, q_thd, q_isi, q_neg, q_neg_i, q_callk, q_drop, q_retn, q_brk, q_cnt, q_ife, q_add_i, q_sub_i, q_lt_i, q_le_i, q_gt_i, q_ge_i, q_eq_i, q_ne_i, List.map_cons, List.map_nil, List.length_cons, List.length_nil, List.replicate, List.append_nil, List.nil_append, List.cons_append, Nat.reduceAdd, Nat.reduceSub, List.getElem?_cons_zero, List.getElem?_cons_succ, List.set_cons_zero, List.set_cons_succ, Bool.not_true, Bool.not_false, decide_true, decide_false, if_true, if_false, q_rg, q_len_l, List.length_map]
      rw [q_rg1 (by omega) (by omega), show ((os2.length : Int) + 1).toNat = os2.length + 1 by omega]) (by rw [rgD_len]; omega) fun j d hd => ?_
    obtain ⟨hj, rfl⟩ := rgD_get hd
    refine ⟨_, rfl, ?_⟩
    show e_law_4 [some (.val (.slst (ns.map D.int))), some (.val (.int n)), some (.val (.str t)), some (.val (.lst (row.map D.int))), some (.val (.lst (dg.map D.int))), some (.val (.lst (os2.map D.int))), x6.map EV.val, x7, x8, some (.val X), some (.own (.l ((List.range (os2.length + 1)).map (oc os2)))), some (.val (.int (0 + (j : Int)))), x12, none] = _
    rw [show 0 + (j : Int) = (j : Int) by omega]
    have := e_outcome hX hO (by omega) (show j ≤ os2.length by omega)
    simp only [e_law_4, q_df, q_st, q_sq, q_at_nx, q_at_rt, q_at_bk, q_at_ct, q_at_ex, q_mi, q_sel_t, q_sel_f, q_out_rt, q_out_nx, q_out_ex, q_rb_ok, q_rb_bad, q_rb_exc, q_tf_ok, q_v0, q_vs, q_w0, q_w0o, q_ws, q_tbq, q_asb, q_nt, q_rsel_t, q_rsel_f, q_ta, q_to, q_va, q_vo, q_vn, q_sett, q_seto, q_bin, q_c, q_callb, q_cons, q_nil, q_tup, q_lst, q_celle, q_ret, q_nx, q_thl, q_thd, q_isi, q_neg, q_neg_i, q_callk, q_drop, q_retn, q_brk, q_cnt, q_ife, q_add_i, q_sub_i, q_lt_i, q_le_i, q_gt_i, q_ge_i, q_eq_i, q_ne_i, List.map_cons, List.map_nil, List.length_cons, List.length_nil, List.replicate, List.append_nil, List.nil_append, List.cons_append, Nat.reduceAdd, Nat.reduceSub, List.getElem?_cons_zero, List.getElem?_cons_succ, List.set_cons_zero, List.set_cons_succ, Bool.not_true, Bool.not_false, decide_true, decide_false, if_true, if_false, this]
  rw [rgD_len] at lc
  rw [seq_nx (r' := [some (.val (.slst (ns.map D.int))), some (.val (.int n)), some (.val (.str t)), some (.val (.lst (row.map D.int))), some (.val (.lst (dg.map D.int))), some (.val (.lst (os2.map D.int))), x6.map EV.val, x7, x8, some (.val X), some (.own (.l ((List.range (os2.length + 1)).map (oc os2)))), x11.map EV.val, x12, some (.own (.l ((List.range (os2.length + 1)).map (oc os2))))]) (by rw [q_seto, lc]; rfl)]
  have ql : lstOfD [X] = .ok (.l (os2.map D.int)) := by
    rcases hX with rfl | rfl
    · rfl
    · rfl
  have qf : dEq (.lst (os2.map D.int)) (.lst (os2.map D.int)) = .ok (.bl true) := eq_t (b := false) (by simp only [clean]; exact clean_ints) (by simp only [depD, dep_ints]; omega)
  have qg : dEq (.lst ((List.range (os2.length + 1)).map (oc os2))) (.lst ((List.range (os2.length + 1)).map (oc os2))) = .ok (.bl true) := eq_t (b := false) (by simp only [clean]; exact (ocs_clean _ _).1) (by have := (ocs_clean os2 (List.range (os2.length + 1))).2; simp only [depD]; omega)
  simp only [q_df, q_st, q_sq, q_at_nx, q_at_rt, q_at_bk, q_at_ct, q_at_ex, q_mi, q_sel_t, q_sel_f, q_out_rt, q_out_nx, q_out_ex, q_rb_ok, q_rb_bad, q_rb_exc, q_tf_ok, q_v0, q_vs, q_w0, q_w0o, q_ws, q_tbq, q_asb, q_nt, q_rsel_t, q_rsel_f, q_ta, q_to, q_va, q_vo, q_vn, q_sett, q_seto, q_bin, q_c, q_callb, q_cons, q_nil, q_tup, q_lst, q_celle, q_ret, q_nx, q_thl, q_thd, q_isi, q_neg, q_neg_i, q_callk, q_drop, q_retn, q_brk, q_cnt, q_ife, q_add_i, q_sub_i, q_lt_i, q_le_i, q_gt_i, q_ge_i, q_eq_i, q_ne_i, List.map_cons, List.map_nil, List.length_cons, List.length_nil, List.replicate, List.append_nil, List.nil_append, List.cons_append, Nat.reduceAdd, Nat.reduceSub, List.getElem?_cons_zero, List.getElem?_cons_succ, List.set_cons_zero, List.set_cons_succ, Bool.not_true, Bool.not_false, decide_true, decide_false, if_true, if_false, q_lstof, ql, qf, qg]
end LK

namespace LK
open PySem PySem.Spec PyProof.Rows L2 QB
theorem all_end {P : Program} {w : World} {K : PySem.W.Frag} {h : Heap} {mg : Str → Option Value} {fa : Addr} (_X : K.In h) (hfa : mg "law" = some (.ref fa)) (T : Tx w K mg) :
    ∃ fd : FuncData, (∀ (s : Shared) (u : Value), BindsTo s fd ⟨[u], []⟩ [("_law_script", u)]) ∧ ∀ base : Heap, K.In base → base.Ns mainGlobals mg → FnOk P w K mg base (L2.CX P w) 6 fa fd ["_law_script"] (spLaw K) := by
  obtain ⟨f, fd, F, g⟩ := T.d_law
  have e := hfa.symm.trans g
  cases e
  exact ⟨fd, fun s u => law_bind F s u, fun base _ _ => law_fn T F law_true⟩
end LK
open PySem PySem.W PyProof.Rows in
set_option maxRecDepth 100000 in
set_option maxHeartbeats 0 in
theorem PySem.Challenge.cw_quietbroom_k14_octets_cut_holds : PySem.Challenge.rw_quietbroom_k14_octets_cut.Holds := by
  w_on; o_law; k_head; (case hw => w_witness2)
  k_fill
  refine L2.walk_ofB (l := PySem.Challenge.rw_quietbroom_k14_octets_cut) (n := 63) (k := 6) (x := "_law_script") (CX := fun w => L2.CX (PySem.Challenge.rw_quietbroom_k14_octets_cut).prog w) (sp := fun w => QB.spLaw _) rfl (by decide) rfl ⟨rfl, by decide, by decide⟩ (fun w h Y => PySem.W.kIn_of Y) ?F (fun w H a ns hl hb _ hS => ⟨a, ns, rfl, hS, hl, hb, fun _ => rfl⟩) (fun w H s e s' => QB.no_exc (P := (PySem.Challenge.rw_quietbroom_k14_octets_cut).prog))
  case F =>
    intro w mg fa h KX G hmg
    refine' LK.all_end KX hmg (LK.all_mk KX G ?a0 ?l0 ?c0 ?k0 ?a1 ?l1 ?c1 ?k1 ?a2 ?l2 ?c2 ?k2 ?a3 ?l3 ?c3 ?k3 ?a4 ?l4 ?c4 ?k4 ?a5 ?l5 ?c5 ?k5 ?a6 ?l6 ?c6 ?k6 ?a7 ?l7 ?c7 ?k7 ?a8 ?l8 ?c8 ?k8 ?a9 ?l9 ?c9 ?k9 ?a10 ?l10 ?c10 ?k10 ?a11 ?l11 ?c11 ?k11 ?aq0 ?aq2 ?xa0 ?xl0 ?xs0 ?xi0 ?xt0 ?xf0 ?xc0 ?xkI0 ?xkC0 ?xe0 ?xT0 ?xn0_0 ?xm0_BadCode ?xa1 ?xl1 ?xs1 ?xi1 ?xt1 ?xf1 ?xc1 ?xkI1 ?xkC1 ?xe1 ?xT1 ?xn1_0 ?xn1_1 ?xn1_2 ?xn1_3 ?xm1_BadCode ?xa2 ?xl2 ?xs2 ?xi2 ?xt2 ?xf2 ?xc2 ?xkI2 ?xkC2 ?xe2 ?xT2 ?xn2_0 ?xn2_1 ?xm2_BadCode ?xa3 ?xl3 ?xs3 ?xi3 ?xt3 ?xf3 ?xc3 ?xkI3 ?xkC3 ?xe3 ?xT3 ?xn3_0 ?xn3_1 ?xn3_2 ?xn3_3 ?xm3_BadCode ?xa4 ?xl4 ?xs4 ?xi4 ?xt4 ?xf4 ?xc4 ?xkI4 ?xkC4 ?xe4 ?xT4 ?xn4_0 ?xn4_1 ?xn4_2 ?xm4_BadCode ?xa5 ?xl5 ?xs5 ?xi5 ?xt5 ?xf5 ?xc5 ?xkI5 ?xkC5 ?xe5 ?xT5 ?xn5_0 ?xn5_1 ?xm5_BadCode ?xa6 ?xl6 ?xs6 ?xi6 ?xt6 ?xf6 ?xc6 ?xkI6 ?xkC6 ?xe6 ?xT6 ?xn6_0 ?xm6_BadCode ?xa7 ?xl7 ?xs7 ?xi7 ?xt7 ?xf7 ?xc7 ?xkI7 ?xkC7 ?xe7 ?xT7 ?xn7_0 ?xm7_BadCode ?qe_BadCode ?qi_BadCode ?qt_BadCode ?yg_BadCode ?yk_BadCode ?ys_BadCode ?yd_BadCode ?ya_BadCode ?ym_BadCode ?yi_QuietError_BadCode ?yi_NoObject_BadCode ?yi_NoRoom_BadCode ?yi_BadImage_BadCode ?yi_BadPicture_BadCode ?yi_BadArguments_BadCode ?yi_Refused_BadCode ?yi_BadText_BadCode ?yi_BadProgram_BadCode ?yi_BadCode_BadCode ?yi_ValueError_BadCode ?yg_BadProgram ?yk_BadProgram ?ys_BadProgram ?yd_BadProgram ?ya_BadProgram ?ym_BadProgram ?yi_QuietError_BadProgram ?yi_NoObject_BadProgram ?yi_NoRoom_BadProgram ?yi_BadImage_BadProgram ?yi_BadPicture_BadProgram ?yi_BadArguments_BadProgram ?yi_Refused_BadProgram ?yi_BadText_BadProgram ?yi_BadProgram_BadProgram ?yi_BadCode_BadProgram ?yi_ValueError_BadProgram ?yg_BadText ?yk_BadText ?ys_BadText ?yd_BadText ?ya_BadText ?ym_BadText ?yi_QuietError_BadText ?yi_NoObject_BadText ?yi_NoRoom_BadText ?yi_BadImage_BadText ?yi_BadPicture_BadText ?yi_BadArguments_BadText ?yi_Refused_BadText ?yi_BadText_BadText ?yi_BadProgram_BadText ?yi_BadCode_BadText ?yi_ValueError_BadText ?yg_Refused ?yk_Refused ?ys_Refused ?yd_Refused ?ya_Refused ?ym_Refused ?yi_QuietError_Refused ?yi_NoObject_Refused ?yi_NoRoom_Refused ?yi_BadImage_Refused ?yi_BadPicture_Refused ?yi_BadArguments_Refused ?yi_Refused_Refused ?yi_BadText_Refused ?yi_BadProgram_Refused ?yi_BadCode_Refused ?yi_ValueError_Refused ?yg_BadPicture ?yk_BadPicture ?ys_BadPicture ?yd_BadPicture ?ya_BadPicture ?ym_BadPicture ?yi_QuietError_BadPicture ?yi_NoObject_BadPicture ?yi_NoRoom_BadPicture ?yi_BadImage_BadPicture ?yi_BadPicture_BadPicture ?yi_BadArguments_BadPicture ?yi_Refused_BadPicture ?yi_BadText_BadPicture ?yi_BadProgram_BadPicture ?yi_BadCode_BadPicture ?yi_ValueError_BadPicture ?yg_BadImage ?yk_BadImage ?ys_BadImage ?yd_BadImage ?ya_BadImage ?ym_BadImage ?yi_QuietError_BadImage ?yi_NoObject_BadImage ?yi_NoRoom_BadImage ?yi_BadImage_BadImage ?yi_BadPicture_BadImage ?yi_BadArguments_BadImage ?yi_Refused_BadImage ?yi_BadText_BadImage ?yi_BadProgram_BadImage ?yi_BadCode_BadImage ?yi_ValueError_BadImage ?yg_NoRoom ?yk_NoRoom ?ys_NoRoom ?yd_NoRoom ?ya_NoRoom ?ym_NoRoom ?yi_QuietError_NoRoom ?yi_NoObject_NoRoom ?yi_NoRoom_NoRoom ?yi_BadImage_NoRoom ?yi_BadPicture_NoRoom ?yi_BadArguments_NoRoom ?yi_Refused_NoRoom ?yi_BadText_NoRoom ?yi_BadProgram_NoRoom ?yi_BadCode_NoRoom ?yi_ValueError_NoRoom ?yg_NoObject ?yk_NoObject ?ys_NoObject ?yd_NoObject ?ya_NoObject ?ym_NoObject ?yi_QuietError_NoObject ?yi_NoObject_NoObject ?yi_NoRoom_NoObject ?yi_BadImage_NoObject ?yi_BadPicture_NoObject ?yi_BadArguments_NoObject ?yi_Refused_NoObject ?yi_BadText_NoObject ?yi_BadProgram_NoObject ?yi_BadCode_NoObject ?yi_ValueError_NoObject ?yg_BadArguments ?yk_BadArguments ?ys_BadArguments ?yd_BadArguments ?ya_BadArguments ?ym_BadArguments ?yi_QuietError_BadArguments ?yi_NoObject_BadArguments ?yi_NoRoom_BadArguments ?yi_BadImage_BadArguments ?yi_BadPicture_BadArguments ?yi_BadArguments_BadArguments ?yi_Refused_BadArguments ?yi_BadText_BadArguments ?yi_BadProgram_BadArguments ?yi_BadCode_BadArguments ?yi_ValueError_BadArguments ?yx_BadArguments ?yp_BadArguments ?yN ?yT ?z0 ?z1 ?z2 ?z3 ?z4 ?z5 ?z6 ?z7)
    (case a0 => first | k_is | rfl)
    (case l0 => first | k_is | rfl)
    (case c0 => first | k_is | rfl)
    (case k0 => first | k_is | rfl)
    (case a1 => first | k_is | rfl)
    (case l1 => first | k_is | rfl)
    (case c1 => first | k_is | rfl)
    (case k1 => first | k_is | rfl)
    (case a2 => first | k_is | rfl)
    (case l2 => first | k_is | rfl)
    (case c2 => first | k_is | rfl)
    (case k2 => first | k_is | rfl)
    (case a3 => first | k_is | rfl)
    (case l3 => first | k_is | rfl)
    (case c3 => first | k_is | rfl)
    (case k3 => first | k_is | rfl)
    (case a4 => first | k_is | rfl)
    (case l4 => first | k_is | rfl)
    (case c4 => first | k_is | rfl)
    (case k4 => first | k_is | rfl)
    (case a5 => first | k_is | rfl)
    (case l5 => first | k_is | rfl)
    (case c5 => first | k_is | rfl)
    (case k5 => first | k_is | rfl)
    (case a6 => first | k_is | rfl)
    (case l6 => first | k_is | rfl)
    (case c6 => first | k_is | rfl)
    (case k6 => first | k_is | rfl)
    (case a7 => first | k_is | rfl)
    (case l7 => first | k_is | rfl)
    (case c7 => first | k_is | rfl)
    (case k7 => first | k_is | rfl)
    (case a8 => first | k_is | rfl)
    (case l8 => first | k_is | rfl)
    (case c8 => first | k_is | rfl)
    (case k8 => first | k_is | rfl)
    (case a9 => first | k_is | rfl)
    (case l9 => first | k_is | rfl)
    (case c9 => first | k_is | rfl)
    (case k9 => first | k_is | rfl)
    (case a10 => first | k_is | rfl)
    (case l10 => first | k_is | rfl)
    (case c10 => first | k_is | rfl)
    (case k10 => first | k_is | rfl)
    (case a11 => first | k_is | rfl)
    (case l11 => first | k_is | rfl)
    (case c11 => first | k_is | rfl)
    (case k11 => first | k_is | rfl)
    (case aq0 => first | k_is | rfl)
    (case aq2 => first | k_is | rfl)
    (case xa0 => first | k_is | rfl)
    (case xl0 => first | k_is | rfl)
    (case xs0 => first | k_is | rfl)
    (case xi0 => first | k_is | rfl)
    (case xt0 => first | k_is | rfl)
    (case xf0 => first | k_is | rfl)
    (case xc0 => first | k_is | rfl)
    (case xkI0 => first | k_is | rfl)
    (case xkC0 => first | k_is | rfl)
    (case xe0 => first | k_is | rfl)
    (case xT0 => first | k_is | rfl)
    (case xn0_0 => first | k_is | rfl)
    (case xm0_BadCode => first | k_is | rfl)
    (case xa1 => first | k_is | rfl)
    (case xl1 => first | k_is | rfl)
    (case xs1 => first | k_is | rfl)
    (case xi1 => first | k_is | rfl)
    (case xt1 => first | k_is | rfl)
    (case xf1 => first | k_is | rfl)
    (case xc1 => first | k_is | rfl)
    (case xkI1 => first | k_is | rfl)
    (case xkC1 => first | k_is | rfl)
    (case xe1 => first | k_is | rfl)
    (case xT1 => first | k_is | rfl)
    (case xn1_0 => first | k_is | rfl)
    (case xn1_1 => first | k_is | rfl)
    (case xn1_2 => first | k_is | rfl)
    (case xn1_3 => first | k_is | rfl)
    (case xm1_BadCode => first | k_is | rfl)
    (case xa2 => first | k_is | rfl)
    (case xl2 => first | k_is | rfl)
    (case xs2 => first | k_is | rfl)
    (case xi2 => first | k_is | rfl)
    (case xt2 => first | k_is | rfl)
    (case xf2 => first | k_is | rfl)
    (case xc2 => first | k_is | rfl)
    (case xkI2 => first | k_is | rfl)
    (case xkC2 => first | k_is | rfl)
    (case xe2 => first | k_is | rfl)
    (case xT2 => first | k_is | rfl)
    (case xn2_0 => first | k_is | rfl)
    (case xn2_1 => first | k_is | rfl)
    (case xm2_BadCode => first | k_is | rfl)
    (case xa3 => first | k_is | rfl)
    (case xl3 => first | k_is | rfl)
    (case xs3 => first | k_is | rfl)
    (case xi3 => first | k_is | rfl)
    (case xt3 => first | k_is | rfl)
    (case xf3 => first | k_is | rfl)
    (case xc3 => first | k_is | rfl)
    (case xkI3 => first | k_is | rfl)
    (case xkC3 => first | k_is | rfl)
    (case xe3 => first | k_is | rfl)
    (case xT3 => first | k_is | rfl)
    (case xn3_0 => first | k_is | rfl)
    (case xn3_1 => first | k_is | rfl)
    (case xn3_2 => first | k_is | rfl)
    (case xn3_3 => first | k_is | rfl)
    (case xm3_BadCode => first | k_is | rfl)
    (case xa4 => first | k_is | rfl)
    (case xl4 => first | k_is | rfl)
    (case xs4 => first | k_is | rfl)
    (case xi4 => first | k_is | rfl)
    (case xt4 => first | k_is | rfl)
    (case xf4 => first | k_is | rfl)
    (case xc4 => first | k_is | rfl)
    (case xkI4 => first | k_is | rfl)
    (case xkC4 => first | k_is | rfl)
    (case xe4 => first | k_is | rfl)
    (case xT4 => first | k_is | rfl)
    (case xn4_0 => first | k_is | rfl)
    (case xn4_1 => first | k_is | rfl)
    (case xn4_2 => first | k_is | rfl)
    (case xm4_BadCode => first | k_is | rfl)
    (case xa5 => first | k_is | rfl)
    (case xl5 => first | k_is | rfl)
    (case xs5 => first | k_is | rfl)
    (case xi5 => first | k_is | rfl)
    (case xt5 => first | k_is | rfl)
    (case xf5 => first | k_is | rfl)
    (case xc5 => first | k_is | rfl)
    (case xkI5 => first | k_is | rfl)
    (case xkC5 => first | k_is | rfl)
    (case xe5 => first | k_is | rfl)
    (case xT5 => first | k_is | rfl)
    (case xn5_0 => first | k_is | rfl)
    (case xn5_1 => first | k_is | rfl)
    (case xm5_BadCode => first | k_is | rfl)
    (case xa6 => first | k_is | rfl)
    (case xl6 => first | k_is | rfl)
    (case xs6 => first | k_is | rfl)
    (case xi6 => first | k_is | rfl)
    (case xt6 => first | k_is | rfl)
    (case xf6 => first | k_is | rfl)
    (case xc6 => first | k_is | rfl)
    (case xkI6 => first | k_is | rfl)
    (case xkC6 => first | k_is | rfl)
    (case xe6 => first | k_is | rfl)
    (case xT6 => first | k_is | rfl)
    (case xn6_0 => first | k_is | rfl)
    (case xm6_BadCode => first | k_is | rfl)
    (case xa7 => first | k_is | rfl)
    (case xl7 => first | k_is | rfl)
    (case xs7 => first | k_is | rfl)
    (case xi7 => first | k_is | rfl)
    (case xt7 => first | k_is | rfl)
    (case xf7 => first | k_is | rfl)
    (case xc7 => first | k_is | rfl)
    (case xkI7 => first | k_is | rfl)
    (case xkC7 => first | k_is | rfl)
    (case xe7 => first | k_is | rfl)
    (case xT7 => first | k_is | rfl)
    (case xn7_0 => first | k_is | rfl)
    (case xm7_BadCode => first | k_is | rfl)
    (case qe_BadCode => first | k_is | rfl)
    (case qi_BadCode => first | k_is | rfl)
    (case qt_BadCode => first | k_is | rfl)
    (case yg_BadCode => first | k_is | rfl)
    (case yk_BadCode => first | k_is | rfl)
    (case ys_BadCode => first | k_is | rfl)
    (case yd_BadCode => first | k_is | rfl)
    (case ya_BadCode => first | k_is | rfl)
    (case ym_BadCode => first | k_is | rfl)
    (case yi_QuietError_BadCode => first | k_is | rfl)
    (case yi_NoObject_BadCode => first | k_is | rfl)
    (case yi_NoRoom_BadCode => first | k_is | rfl)
    (case yi_BadImage_BadCode => first | k_is | rfl)
    (case yi_BadPicture_BadCode => first | k_is | rfl)
    (case yi_BadArguments_BadCode => first | k_is | rfl)
    (case yi_Refused_BadCode => first | k_is | rfl)
    (case yi_BadText_BadCode => first | k_is | rfl)
    (case yi_BadProgram_BadCode => first | k_is | rfl)
    (case yi_BadCode_BadCode => first | k_is | rfl)
    (case yi_ValueError_BadCode => first | k_is | rfl)
    (case yg_BadProgram => first | k_is | rfl)
    (case yk_BadProgram => first | k_is | rfl)
    (case ys_BadProgram => first | k_is | rfl)
    (case yd_BadProgram => first | k_is | rfl)
    (case ya_BadProgram => first | k_is | rfl)
    (case ym_BadProgram => first | k_is | rfl)
    (case yi_QuietError_BadProgram => first | k_is | rfl)
    (case yi_NoObject_BadProgram => first | k_is | rfl)
    (case yi_NoRoom_BadProgram => first | k_is | rfl)
    (case yi_BadImage_BadProgram => first | k_is | rfl)
    (case yi_BadPicture_BadProgram => first | k_is | rfl)
    (case yi_BadArguments_BadProgram => first | k_is | rfl)
    (case yi_Refused_BadProgram => first | k_is | rfl)
    (case yi_BadText_BadProgram => first | k_is | rfl)
    (case yi_BadProgram_BadProgram => first | k_is | rfl)
    (case yi_BadCode_BadProgram => first | k_is | rfl)
    (case yi_ValueError_BadProgram => first | k_is | rfl)
    (case yg_BadText => first | k_is | rfl)
    (case yk_BadText => first | k_is | rfl)
    (case ys_BadText => first | k_is | rfl)
    (case yd_BadText => first | k_is | rfl)
    (case ya_BadText => first | k_is | rfl)
    (case ym_BadText => first | k_is | rfl)
    (case yi_QuietError_BadText => first | k_is | rfl)
    (case yi_NoObject_BadText => first | k_is | rfl)
    (case yi_NoRoom_BadText => first | k_is | rfl)
    (case yi_BadImage_BadText => first | k_is | rfl)
    (case yi_BadPicture_BadText => first | k_is | rfl)
    (case yi_BadArguments_BadText => first | k_is | rfl)
    (case yi_Refused_BadText => first | k_is | rfl)
    (case yi_BadText_BadText => first | k_is | rfl)
    (case yi_BadProgram_BadText => first | k_is | rfl)
    (case yi_BadCode_BadText => first | k_is | rfl)
    (case yi_ValueError_BadText => first | k_is | rfl)
    (case yg_Refused => first | k_is | rfl)
    (case yk_Refused => first | k_is | rfl)
    (case ys_Refused => first | k_is | rfl)
    (case yd_Refused => first | k_is | rfl)
    (case ya_Refused => first | k_is | rfl)
    (case ym_Refused => first | k_is | rfl)
    (case yi_QuietError_Refused => first | k_is | rfl)
    (case yi_NoObject_Refused => first | k_is | rfl)
    (case yi_NoRoom_Refused => first | k_is | rfl)
    (case yi_BadImage_Refused => first | k_is | rfl)
    (case yi_BadPicture_Refused => first | k_is | rfl)
    (case yi_BadArguments_Refused => first | k_is | rfl)
    (case yi_Refused_Refused => first | k_is | rfl)
    (case yi_BadText_Refused => first | k_is | rfl)
    (case yi_BadProgram_Refused => first | k_is | rfl)
    (case yi_BadCode_Refused => first | k_is | rfl)
    (case yi_ValueError_Refused => first | k_is | rfl)
    (case yg_BadPicture => first | k_is | rfl)
    (case yk_BadPicture => first | k_is | rfl)
    (case ys_BadPicture => first | k_is | rfl)
    (case yd_BadPicture => first | k_is | rfl)
    (case ya_BadPicture => first | k_is | rfl)
    (case ym_BadPicture => first | k_is | rfl)
    (case yi_QuietError_BadPicture => first | k_is | rfl)
    (case yi_NoObject_BadPicture => first | k_is | rfl)
    (case yi_NoRoom_BadPicture => first | k_is | rfl)
    (case yi_BadImage_BadPicture => first | k_is | rfl)
    (case yi_BadPicture_BadPicture => first | k_is | rfl)
    (case yi_BadArguments_BadPicture => first | k_is | rfl)
    (case yi_Refused_BadPicture => first | k_is | rfl)
    (case yi_BadText_BadPicture => first | k_is | rfl)
    (case yi_BadProgram_BadPicture => first | k_is | rfl)
    (case yi_BadCode_BadPicture => first | k_is | rfl)
    (case yi_ValueError_BadPicture => first | k_is | rfl)
    (case yg_BadImage => first | k_is | rfl)
    (case yk_BadImage => first | k_is | rfl)
    (case ys_BadImage => first | k_is | rfl)
    (case yd_BadImage => first | k_is | rfl)
    (case ya_BadImage => first | k_is | rfl)
    (case ym_BadImage => first | k_is | rfl)
    (case yi_QuietError_BadImage => first | k_is | rfl)
    (case yi_NoObject_BadImage => first | k_is | rfl)
    (case yi_NoRoom_BadImage => first | k_is | rfl)
    (case yi_BadImage_BadImage => first | k_is | rfl)
    (case yi_BadPicture_BadImage => first | k_is | rfl)
    (case yi_BadArguments_BadImage => first | k_is | rfl)
    (case yi_Refused_BadImage => first | k_is | rfl)
    (case yi_BadText_BadImage => first | k_is | rfl)
    (case yi_BadProgram_BadImage => first | k_is | rfl)
    (case yi_BadCode_BadImage => first | k_is | rfl)
    (case yi_ValueError_BadImage => first | k_is | rfl)
    (case yg_NoRoom => first | k_is | rfl)
    (case yk_NoRoom => first | k_is | rfl)
    (case ys_NoRoom => first | k_is | rfl)
    (case yd_NoRoom => first | k_is | rfl)
    (case ya_NoRoom => first | k_is | rfl)
    (case ym_NoRoom => first | k_is | rfl)
    (case yi_QuietError_NoRoom => first | k_is | rfl)
    (case yi_NoObject_NoRoom => first | k_is | rfl)
    (case yi_NoRoom_NoRoom => first | k_is | rfl)
    (case yi_BadImage_NoRoom => first | k_is | rfl)
    (case yi_BadPicture_NoRoom => first | k_is | rfl)
    (case yi_BadArguments_NoRoom => first | k_is | rfl)
    (case yi_Refused_NoRoom => first | k_is | rfl)
    (case yi_BadText_NoRoom => first | k_is | rfl)
    (case yi_BadProgram_NoRoom => first | k_is | rfl)
    (case yi_BadCode_NoRoom => first | k_is | rfl)
    (case yi_ValueError_NoRoom => first | k_is | rfl)
    (case yg_NoObject => first | k_is | rfl)
    (case yk_NoObject => first | k_is | rfl)
    (case ys_NoObject => first | k_is | rfl)
    (case yd_NoObject => first | k_is | rfl)
    (case ya_NoObject => first | k_is | rfl)
    (case ym_NoObject => first | k_is | rfl)
    (case yi_QuietError_NoObject => first | k_is | rfl)
    (case yi_NoObject_NoObject => first | k_is | rfl)
    (case yi_NoRoom_NoObject => first | k_is | rfl)
    (case yi_BadImage_NoObject => first | k_is | rfl)
    (case yi_BadPicture_NoObject => first | k_is | rfl)
    (case yi_BadArguments_NoObject => first | k_is | rfl)
    (case yi_Refused_NoObject => first | k_is | rfl)
    (case yi_BadText_NoObject => first | k_is | rfl)
    (case yi_BadProgram_NoObject => first | k_is | rfl)
    (case yi_BadCode_NoObject => first | k_is | rfl)
    (case yi_ValueError_NoObject => first | k_is | rfl)
    (case yg_BadArguments => first | k_is | rfl)
    (case yk_BadArguments => first | k_is | rfl)
    (case ys_BadArguments => first | k_is | rfl)
    (case yd_BadArguments => first | k_is | rfl)
    (case ya_BadArguments => first | k_is | rfl)
    (case ym_BadArguments => first | k_is | rfl)
    (case yi_QuietError_BadArguments => first | k_is | rfl)
    (case yi_NoObject_BadArguments => first | k_is | rfl)
    (case yi_NoRoom_BadArguments => first | k_is | rfl)
    (case yi_BadImage_BadArguments => first | k_is | rfl)
    (case yi_BadPicture_BadArguments => first | k_is | rfl)
    (case yi_BadArguments_BadArguments => first | k_is | rfl)
    (case yi_Refused_BadArguments => first | k_is | rfl)
    (case yi_BadText_BadArguments => first | k_is | rfl)
    (case yi_BadProgram_BadArguments => first | k_is | rfl)
    (case yi_BadCode_BadArguments => first | k_is | rfl)
    (case yi_ValueError_BadArguments => first | k_is | rfl)
    (case yx_BadArguments => first | k_is | rfl)
    (case yp_BadArguments => first | k_is | rfl)
    (case yN => first | k_is | rfl)
    (case yT => first | k_is | rfl)
    (case z0 => first | k_is | rfl)
    (case z1 => first | k_is | rfl)
    (case z2 => first | k_is | rfl)
    (case z3 => first | k_is | rfl)
    (case z4 => first | k_is | rfl)
    (case z5 => first | k_is | rfl)
    (case z6 => first | k_is | rfl)
    (case z7 => first | k_is | rfl)
