import PyProof.Rows.All
import Wide.All
import OpenK.AllK
import Wide.FinOn
import HandS.ForMost
import HandS.Exc
import HandS.ExcOwn
import HandS.CallSlots
import HandS.TryMany
import HandS.TryOnly
import HandS.ExcInit
import HandS.ExcField
import HandS.IsInst
import HandS.Wide
import HandS.Gcd
import HandS.TupAny
import HandS.Zip
import HandS.Rev
import HandS.HeadHook2
import HandS.HotCalls
import HandS.ExcInitHot
import HandS.WordsExc
import HandS.Defaults
import HandS.Deep
import HandS.Style
import HandS.Head3
import HandS.HeadEnd
import PyProof.LongRange
import PySem.Challenge.RW_seatsbothways_k05_whole_rounded_by_marks
set_option Elab.async false
set_option linter.all false
set_option maxRecDepth 100000
set_option maxHeartbeats 0
set_option exponentiation.threshold 2000
section
/-! VI1: plain data, the small heap, how both stand in HandS's heap. -/
namespace VI
open PySem PySem.Spec PyProof.Rows L2

/-- data: tuples, frozen lists and frozen instances by value; ref: a cell of the small heap; scr: the script -/
inductive D where
  | non | bl (b : Bool) | int (i : Int) | str (x : Str)
  | tup (ds : List D) | lst (ds : List D) | obj (c : Str) (ns : List Str) (ds : List D)
  | ref (p : Nat) | scr (ns : List Int)
  | exn (a dd : Addr) (c : Str) (ns : List Str) (ds : List D)
/-- a cell of the small heap: a list, an instance -/
inductive Cell where
  | lst (ds : List D) | ins (c : Str) (ns : List Str) (ds : List D)
abbrev VH := List Cell
/-- an exception: its class, its fields -/
structure Exc where
  c : Str
  ns : List Str
  ds : List D

/-- where the cells stand; hid: addresses that no datum may name -/
structure Map where
  ats : Nat → Option Addr
  hid : Addr → Prop
def Map.Imm (m : Map) (a : Addr) : Prop := (∀ p, m.ats p ≠ some a) ∧ ¬ m.hid a

section
variable (K : PySem.W.Frag) (m : Map) (H : Hp)
mutual
def Rep : D → V → Prop
  | .non, v => v = .non
  | .bl b, v => v = .bl b
  | .int i, v => v = .int i
  | .str x, v => v = .str x
  | .tup ds, v => ∃ a xs, v = .ref a ∧ SqT K H a xs ∧ Reps ds xs
  | .lst ds, v => ∃ a xs, v = .ref a ∧ H a = some (.lst xs) ∧ m.Imm a ∧ Reps ds xs
  | .obj c ns ds, v => ∃ a dx fs, v = .ref a ∧ H a = some (.ins (He.ga K c) dx fs) ∧ m.Imm a ∧ fs.map (·.1) = ns ∧ Reps ds (fs.map (·.2))
  | .ref p, v => ∃ a, v = .ref a ∧ m.ats p = some a
  | .scr ns, v => ∃ a, v = .ref a ∧ ((∃ o, H a = some (.frz o (.lst (ns.map V.int)))) ∨ SqL K (fun _ => none) a (ns.map V.int))
  | .exn a dd _ ns ds, v => v = .ref a ∧ ∃ fs, H dd = some (.xd fs) ∧ m.Imm dd ∧ fs.map (·.1) = ns ∧ Reps ds (fs.map (·.2))
def Reps : List D → List V → Prop
  | [], xs => xs = []
  | d :: ds, xs => ∃ v vs, xs = v :: vs ∧ Rep d v ∧ Reps ds vs
end
def RepC : Cell → Addr → Prop
  | .lst ds, a => ∃ xs, H a = some (.lst xs) ∧ Reps K m H ds xs
  | .ins c ns ds, a => ∃ dx fs, H a = some (.ins (He.ga K c) dx fs) ∧ fs.map (·.1) = ns ∧ Reps K m H ds (fs.map (·.2))
structure Hr (vh : VH) : Prop where
  dom : ∀ p, (∃ a, m.ats p = some a) ↔ p < vh.length
  inj : ∀ p q a, m.ats p = some a → m.ats q = some a → p = q
  ats : ∀ p c a, vh[p]? = some c → m.ats p = some a → RepC K m H c a
  hid : ∀ a, m.hid a → (∃ xs, H a = some (.lst xs)) ∧ ∀ p, m.ats p ≠ some a
end
def Step (m : Map) (H : Hp) (m' : Map) (H' : Hp) : Prop :=
  (∀ a, m.hid a → m'.hid a) ∧ (∀ p a, m.ats p = some a → m'.ats p = some a) ∧ ∀ a o, H a = some o → (∀ p, m.ats p ≠ some a) → H' a = some o ∧ (∀ p, m'.ats p ≠ some a) ∧ (m'.hid a → m.hid a)
theorem Step.refl (m : Map) (H : Hp) : Step m H m H := ⟨fun _ h => h, fun _ _ h => h, fun _ _ h n => ⟨h, n, fun z => z⟩⟩
theorem Step.trans {m m1 m2 : Map} {H H1 H2 : Hp} (a : Step m H m1 H1) (b : Step m1 H1 m2 H2) : Step m H m2 H2 :=
  ⟨fun x h => b.1 x (a.1 x h), fun p x h => b.2.1 p x (a.2.1 p x h), fun x o h n => let ⟨h1, n1, z1⟩ := a.2.2 x o h n; let ⟨h2, n2, z2⟩ := b.2.2 x o h1 n1; ⟨h2, n2, fun z => z1 (z2 z)⟩⟩
theorem Step.same {m : Map} {H H' : Hp} (s : Same H H') : Step m H m H' := ⟨fun _ h => h, fun _ _ h => h, fun a o h n => ⟨s a o h, n, fun z => z⟩⟩
theorem same_new {H : Hp} {p : Addr} {o : HO} (h : H p = none) : Same H (upd H p o) := fun b x e => by
  rw [upd_ne (ne_of_none e h)]; exact e

section
variable {K : PySem.W.Frag} {m m' : Map} {H H' : Hp} {vh vh' : VH}
theorem RepC.obj {c : Cell} {a : Addr} (h : RepC K m H c a) : (∃ xs, H a = some (.lst xs)) ∨ ∃ C dx fs, H a = some (.ins C dx fs) := by
  cases c with
  | lst ds => obtain ⟨xs, e, _⟩ := h; exact .inl ⟨xs, e⟩
  | ins c ns ds => obtain ⟨dx, fs, e, _⟩ := h; exact .inr ⟨_, dx, fs, e⟩
theorem Hr.cell (h : Hr K m H vh) {p : Nat} {a : Addr} (e : m.ats p = some a) : ∃ c, vh[p]? = some c ∧ RepC K m H c a := by
  have lt := (h.dom p).mp ⟨a, e⟩
  exact ⟨vh[p], List.getElem?_eq_getElem lt, h.ats p _ a (List.getElem?_eq_getElem lt) e⟩
theorem Hr.obj (h : Hr K m H vh) {p : Nat} {a : Addr} (e : m.ats p = some a) : (∃ xs, H a = some (.lst xs)) ∨ ∃ C dx fs, H a = some (.ins C dx fs) := by
  obtain ⟨c, _, r⟩ := h.cell e; exact r.obj
theorem Hr.notup (h : Hr K m H vh) {a : Addr} {xs : List V} (r : Rd H a (.tup xs)) : m.Imm a := by
  refine ⟨fun p e => ?_, fun z => ?_⟩
  · rcases h.obj e with ⟨ys, q⟩ | ⟨C, dx, fs, q⟩ <;> rcases r with r | ⟨o, r⟩ <;> rw [q] at r <;> cases r
  · obtain ⟨⟨ys, q⟩, _⟩ := h.hid a z
    rcases r with r | ⟨o, r⟩ <;> rw [q] at r <;> cases r
theorem SqT.step (h : Hr K m H vh) (s : Step m H m' H') {a : Addr} {xs : List V} (q : SqT K H a xs) : SqT K H' a xs := by
  rcases q with q | q
  · have im := h.notup q
    rcases q with q | ⟨o, q⟩
    · exact .inl (.inl (s.2.2 a _ q im.1).1)
    · exact .inl (.inr ⟨o, (s.2.2 a _ q im.1).1⟩)
  · exact .inr q
theorem Imm.step {a : Addr} {o : HO} (s : Step m H m' H') (e : H a = some o) (im : m.Imm a) : H' a = some o ∧ m'.Imm a := by
  obtain ⟨h1, h2, h3⟩ := s.2.2 a o e im.1
  exact ⟨h1, h2, fun z => im.2 (h3 z)⟩

mutual
theorem Rep.step (h : Hr K m H vh) (s : Step m H m' H') : ∀ (d : D) (v : V), Rep K m H d v → Rep K m' H' d v
  | .non, _, r => r
  | .bl _, _, r => r
  | .int _, _, r => r
  | .str _, _, r => r
  | .tup ds, v, r => by
    simp only [Rep] at r ⊢
    obtain ⟨a, xs, e, q, r⟩ := r
    exact ⟨a, xs, e, SqT.step h s q, Reps.step h s ds xs r⟩
  | .lst ds, v, r => by
    simp only [Rep] at r ⊢
    obtain ⟨a, xs, e, q, im, r⟩ := r
    obtain ⟨q', im'⟩ := Imm.step s q im
    exact ⟨a, xs, e, q', im', Reps.step h s ds xs r⟩
  | .obj c ns ds, v, r => by
    simp only [Rep] at r ⊢
    obtain ⟨a, dx, fs, e, q, im, en, r⟩ := r
    obtain ⟨q', im'⟩ := Imm.step s q im
    exact ⟨a, dx, fs, e, q', im', en, Reps.step h s ds _ r⟩
  | .ref p, v, r => by
    simp only [Rep] at r ⊢
    obtain ⟨a, e, q⟩ := r
    exact ⟨a, e, s.2.1 p a q⟩
  | .scr ns, v, r => by
    simp only [Rep] at r ⊢
    obtain ⟨a, e, q⟩ := r
    rcases q with ⟨o, q⟩ | q
    · have im : m.Imm a := by
        refine ⟨fun p e => ?_, fun z => ?_⟩
        · rcases h.obj e with ⟨ys, q'⟩ | ⟨C, dx, fs, q'⟩ <;> rw [q'] at q <;> cases q
        · obtain ⟨⟨ys, q'⟩, _⟩ := h.hid a z
          rw [q'] at q; cases q
      exact ⟨a, e, .inl ⟨o, (s.2.2 a _ q im.1).1⟩⟩
    · exact ⟨a, e, .inr q⟩
  | .exn a dd c ns ds, v, r => by
    simp only [Rep] at r ⊢
    obtain ⟨e, fs, q, im, en, r⟩ := r
    obtain ⟨q', im'⟩ := Imm.step s q im
    exact ⟨e, fs, q', im', en, Reps.step h s ds _ r⟩
theorem Reps.step (h : Hr K m H vh) (s : Step m H m' H') : ∀ (ds : List D) (xs : List V), Reps K m H ds xs → Reps K m' H' ds xs
  | [], _, r => r
  | d :: ds, xs, r => by
    simp only [Reps] at r ⊢
    obtain ⟨v, vs, e, r1, r2⟩ := r
    exact ⟨v, vs, e, Rep.step h s d v r1, Reps.step h s ds vs r2⟩
end
theorem Reps.len : ∀ {ds : List D} {xs : List V}, Reps K m H ds xs → ds.length = xs.length
  | [], xs, r => by simp only [Reps] at r; subst r; rfl
  | d :: ds, xs, r => by
    simp only [Reps] at r
    obtain ⟨v, vs, rfl, _, r2⟩ := r
    rw [List.length_cons, List.length_cons, Reps.len r2]
theorem Reps.get : ∀ {ds : List D} {xs : List V} {i : Nat} {d : D}, Reps K m H ds xs → ds[i]? = some d → ∃ v, xs[i]? = some v ∧ Rep K m H d v
  | [], _, _, _, _, e => by simp at e
  | d :: ds, xs, 0, d', r, e => by
    simp only [Reps] at r
    obtain ⟨v, vs, rfl, r1, _⟩ := r
    simp at e; subst e
    exact ⟨v, rfl, r1⟩
  | d :: ds, xs, i + 1, d', r, e => by
    simp only [Reps] at r
    obtain ⟨v, vs, rfl, _, r2⟩ := r
    obtain ⟨w, h1, h2⟩ := Reps.get (i := i) r2 (by simpa using e)
    exact ⟨w, by simpa using h1, h2⟩
theorem Reps.app : ∀ {ds es : List D} {xs ys : List V}, Reps K m H ds xs → Reps K m H es ys → Reps K m H (ds ++ es) (xs ++ ys)
  | [], _, _, _, r, s => by simp only [Reps] at r; subst r; exact s
  | d :: ds, es, xs, ys, r, s => by
    simp only [Reps] at r
    obtain ⟨v, vs, rfl, r1, r2⟩ := r
    rw [List.cons_append, List.cons_append]
    simp only [Reps]
    exact ⟨v, vs ++ ys, rfl, r1, Reps.app r2 s⟩
theorem Reps.one {d : D} {v : V} (r : Rep K m H d v) : Reps K m H [d] [v] := by
  simp only [Reps]; exact ⟨v, [], rfl, r, rfl⟩
theorem Reps.cons {d : D} {v : V} {ds : List D} {vs : List V} (r : Rep K m H d v) (s : Reps K m H ds vs) : Reps K m H (d :: ds) (v :: vs) := by
  simp only [Reps]; exact ⟨v, vs, rfl, r, s⟩
theorem Reps.nil : Reps K m H [] [] := by simp only [Reps]
theorem Reps.set : ∀ {ds : List D} {xs : List V} {d : D} {v : V} (i : Nat), Reps K m H ds xs → Rep K m H d v → Reps K m H (ds.set i d) (xs.set i v)
  | [], xs, _, _, i, r, _ => by simp only [Reps] at r; subst r; simpa using Reps.nil
  | e :: ds, xs, d, v, 0, r, s => by
    simp only [Reps] at r
    obtain ⟨w, vs, rfl, r1, r2⟩ := r
    exact Reps.cons s r2
  | e :: ds, xs, d, v, i + 1, r, s => by
    simp only [Reps] at r
    obtain ⟨w, vs, rfl, r1, r2⟩ := r
    exact Reps.cons r1 (Reps.set i r2 s)
theorem Reps.take : ∀ {ds : List D} {xs : List V} (n : Nat), Reps K m H ds xs → Reps K m H (ds.take n) (xs.take n)
  | _, _, 0, _ => by simpa using Reps.nil
  | [], xs, n + 1, r => by simp only [Reps] at r; subst r; simpa using Reps.nil
  | e :: ds, xs, n + 1, r => by
    simp only [Reps] at r
    obtain ⟨w, vs, rfl, r1, r2⟩ := r
    exact Reps.cons r1 (Reps.take n r2)
theorem Reps.drop : ∀ {ds : List D} {xs : List V} (n : Nat), Reps K m H ds xs → Reps K m H (ds.drop n) (xs.drop n)
  | _, _, 0, r => by simpa using r
  | [], xs, n + 1, r => by simp only [Reps] at r; subst r; simpa using Reps.nil
  | e :: ds, xs, n + 1, r => by
    simp only [Reps] at r
    obtain ⟨w, vs, rfl, r1, r2⟩ := r
    exact Reps.drop n r2
theorem Reps.ints : ∀ {ns : List Int} {xs : List V}, Reps K m H (ns.map D.int) xs ↔ xs = ns.map V.int
  | [], xs => by simp only [List.map_nil, Reps]
  | n :: ns, xs => by
    simp only [List.map_cons, Reps, Rep]
    constructor
    · rintro ⟨v, vs, rfl, rfl, r⟩; rw [Reps.ints.mp r]
    · rintro rfl; exact ⟨_, _, rfl, rfl, Reps.ints.mpr rfl⟩
/-- the heap grows by what is new -/
theorem Hr.same (h : Hr K m H vh) (s : Same H H') : Hr K m H' vh := by
  have st := Step.same (m := m) s
  refine ⟨h.dom, h.inj, fun p c a e1 e2 => ?_, fun a z => ⟨let ⟨xs, q⟩ := (h.hid a z).1; ⟨xs, s _ _ q⟩, (h.hid a z).2⟩⟩
  have r := h.ats p c a e1 e2
  cases c with
  | lst ds => obtain ⟨xs, q, r⟩ := r; exact ⟨xs, s _ _ q, Reps.step h st _ _ r⟩
  | ins c ns ds => obtain ⟨dx, fs, q, en, r⟩ := r; exact ⟨dx, fs, s _ _ q, en, Reps.step h st _ _ r⟩
/-- a new cell -/
def Map.push (m : Map) (n : Nat) (a : Addr) : Map := { m with ats := fun p => if p = n then some a else m.ats p }
theorem Hr.none_ne (h : Hr K m H vh) {a : Addr} (hn : H a = none) (p : Nat) : m.ats p ≠ some a := fun e => by
  rcases h.obj e with ⟨ys, q⟩ | ⟨C, dx, fs, q⟩ <;> rw [hn] at q <;> cases q
theorem push_step (h : Hr K m H vh) {a : Addr} {o : HO} (hn : H a = none) : Step m H (m.push vh.length a) (upd H a o) := by
  refine ⟨fun _ z => z, fun p b e => ?_, fun b u e n => ⟨same_new hn b u e, fun p => ?_, fun z => z⟩⟩
  · have lt := (h.dom p).mp ⟨b, e⟩
    show (if p = vh.length then some a else m.ats p) = some b
    rw [if_neg (by omega)]; exact e
  · show (if p = vh.length then some a else m.ats p) ≠ some b
    by_cases hp : p = vh.length
    · rw [if_pos hp]
      intro z
      have := Option.some.inj z
      rw [← this, hn] at e; cases e
    · rw [if_neg hp]; exact n p
theorem Hr.push (h : Hr K m H vh) {a : Addr} {o : HO} {c : Cell} (hn : H a = none) (r : RepC K (m.push vh.length a) (upd H a o) c a) : Hr K (m.push vh.length a) (upd H a o) (vh ++ [c]) := by
  have st := push_step (o := o) h hn
  have old : ∀ p, p ≠ vh.length → (m.push vh.length a).ats p = m.ats p := fun p hp => if_neg hp
  have new : (m.push vh.length a).ats vh.length = some a := if_pos rfl
  refine ⟨fun p => ?_, fun p q b e1 e2 => ?_, fun p c' b e1 e2 => ?_, fun b z => ?_⟩
  · rw [List.length_append, List.length_singleton]
    by_cases hp : p = vh.length
    · subst hp; rw [new]; exact ⟨fun _ => by omega, fun _ => ⟨a, rfl⟩⟩
    · rw [old p hp, h.dom p]; omega
  · by_cases hp : p = vh.length <;> by_cases hq : q = vh.length
    · rw [hp, hq]
    · rw [hp, new] at e1; cases e1; rw [old q hq] at e2; exact absurd e2 (h.none_ne hn q)
    · rw [hq, new] at e2; cases e2; rw [old p hp] at e1; exact absurd e1 (h.none_ne hn p)
    · rw [old p hp] at e1; rw [old q hq] at e2; exact h.inj p q b e1 e2
  · by_cases hp : p = vh.length
    · subst hp
      rw [new] at e2; cases e2
      rw [List.getElem?_append_right (Nat.le_refl _), Nat.sub_self] at e1
      cases e1; exact r
    · have hl : p < vh.length := by
        have := (List.getElem?_eq_some_iff.mp e1).1
        rw [List.length_append, List.length_singleton] at this; omega
      rw [old p hp] at e2
      rw [List.getElem?_append_left hl] at e1
      have r' := h.ats p c' b e1 e2
      have nb : b ≠ a := fun z => h.none_ne hn p (z ▸ e2)
      cases c' with
      | lst ds => obtain ⟨xs, q, r⟩ := r'; exact ⟨xs, by rw [upd_ne nb]; exact q, Reps.step h st _ _ r⟩
      | ins c ns ds => obtain ⟨dx, fs, q, en, r⟩ := r'; exact ⟨dx, fs, by rw [upd_ne nb]; exact q, en, Reps.step h st _ _ r⟩
  · obtain ⟨⟨xs, q⟩, n⟩ := h.hid b z
    refine ⟨⟨xs, same_new hn _ _ q⟩, fun p => ?_⟩
    by_cases hp : p = vh.length
    · subst hp; rw [new]; intro e; cases e; rw [hn] at q; cases q
    · rw [old p hp]; exact n p
/-- a cell is written -/
theorem set_step {p : Nat} {a : Addr} {o : HO} (e : m.ats p = some a) : Step m H m (upd H a o) :=
  ⟨fun _ z => z, fun _ _ h => h, fun b u q n => ⟨by rw [upd_ne (show b ≠ a from fun z => n p (by rw [z]; exact e))]; exact q, n, fun z => z⟩⟩
theorem Hr.set (h : Hr K m H vh) {p : Nat} {a : Addr} {o : HO} {c : Cell} (e : m.ats p = some a) (r : RepC K m (upd H a o) c a) : Hr K m (upd H a o) (vh.set p c) := by
  have st := set_step (H := H) (o := o) e
  refine ⟨fun q => by rw [List.length_set]; exact h.dom q, h.inj, fun q c' b e1 e2 => ?_, fun b z => ?_⟩
  · by_cases hq : q = p
    · subst hq
      rw [e] at e2; cases e2
      have lt := (h.dom q).mp ⟨a, e⟩
      rw [List.getElem?_set_self lt] at e1; cases e1; exact r
    · rw [List.getElem?_set_ne (Ne.symm hq)] at e1
      have nb : b ≠ a := fun z => hq (h.inj q p b e2 (z ▸ e))
      have r' := h.ats q c' b e1 e2
      cases c' with
      | lst ds => obtain ⟨xs, q, r⟩ := r'; exact ⟨xs, by rw [upd_ne nb]; exact q, Reps.step h st _ _ r⟩
      | ins c ns ds => obtain ⟨dx, fs, q, en, r⟩ := r'; exact ⟨dx, fs, by rw [upd_ne nb]; exact q, en, Reps.step h st _ _ r⟩
  · obtain ⟨⟨xs, q⟩, n⟩ := h.hid b z
    exact ⟨⟨xs, by rw [upd_ne (show b ≠ a from fun y => n p (by rw [y]; exact e))]; exact q⟩, n⟩
/-! ### hiding a list that is being made -/
def Map.hide (m : Map) (a : Addr) : Map := { m with hid := fun b => m.hid b ∨ b = a }
mutual
theorem Rep.hideNew {a : Addr} {o : HO} (hn : H a = none) : ∀ (d : D) (v : V), Rep K m H d v → Rep K (m.hide a) (upd H a o) d v
  | .non, _, r => r
  | .bl _, _, r => r
  | .int _, _, r => r
  | .str _, _, r => r
  | .tup ds, v, r => by
    simp only [Rep] at r ⊢
    obtain ⟨b, xs, e, q, r⟩ := r
    refine ⟨b, xs, e, ?_, Reps.hideNew hn ds xs r⟩
    rcases q with (q | ⟨o', q⟩) | q
    · exact .inl (.inl (same_new hn _ _ q))
    · exact .inl (.inr ⟨o', same_new hn _ _ q⟩)
    · exact .inr q
  | .lst ds, v, r => by
    simp only [Rep] at r ⊢
    obtain ⟨b, xs, e, q, im, r⟩ := r
    exact ⟨b, xs, e, same_new hn _ _ q, ⟨im.1, fun z => z.elim im.2 (ne_of_none q hn)⟩, Reps.hideNew hn ds xs r⟩
  | .obj c ns ds, v, r => by
    simp only [Rep] at r ⊢
    obtain ⟨b, dx, fs, e, q, im, en, r⟩ := r
    exact ⟨b, dx, fs, e, same_new hn _ _ q, ⟨im.1, fun z => z.elim im.2 (ne_of_none q hn)⟩, en, Reps.hideNew hn ds _ r⟩
  | .ref p, v, r => by
    simp only [Rep] at r ⊢
    exact r
  | .scr ns, v, r => by
    simp only [Rep] at r ⊢
    obtain ⟨b, e, q⟩ := r
    exact ⟨b, e, q.elim (fun ⟨o, q⟩ => .inl ⟨o, same_new hn _ _ q⟩) .inr⟩
  | .exn b dd c ns ds, v, r => by
    simp only [Rep] at r ⊢
    obtain ⟨e, fs, q, im, en, r⟩ := r
    exact ⟨e, fs, same_new hn _ _ q, ⟨im.1, fun z => z.elim im.2 (ne_of_none q hn)⟩, en, Reps.hideNew hn ds _ r⟩
theorem Reps.hideNew {a : Addr} {o : HO} (hn : H a = none) : ∀ (ds : List D) (xs : List V), Reps K m H ds xs → Reps K (m.hide a) (upd H a o) ds xs
  | [], _, r => r
  | d :: ds, xs, r => by
    simp only [Reps] at r ⊢
    obtain ⟨v, vs, e, r1, r2⟩ := r
    exact ⟨v, vs, e, Rep.hideNew hn d v r1, Reps.hideNew hn ds vs r2⟩
end
theorem Hr.hideNew {a : Addr} {ys : List V} (h : Hr K m H vh) (hn : H a = none) : Hr K (m.hide a) (upd H a (.lst ys)) vh := by
  refine ⟨h.dom, h.inj, fun p c b e1 e2 => ?_, fun b z => ?_⟩
  · have nb : b ≠ a := fun z => h.none_ne hn p (by rw [← z]; exact e2)
    have r' := h.ats p c b e1 e2
    cases c with
    | lst ds => obtain ⟨xs, q, r⟩ := r'; exact ⟨xs, by rw [upd_ne nb]; exact q, Reps.hideNew hn _ _ r⟩
    | ins c ns ds => obtain ⟨dx, fs, q, en, r⟩ := r'; exact ⟨dx, fs, by rw [upd_ne nb]; exact q, en, Reps.hideNew hn _ _ r⟩
  · rcases z with z | z
    · obtain ⟨⟨xs, q⟩, n⟩ := h.hid b z
      exact ⟨⟨xs, same_new hn _ _ q⟩, n⟩
    · subst z
      exact ⟨⟨ys, upd_same⟩, fun p => h.none_ne hn p⟩
theorem hide_step (h : Hr K m H vh) {a : Addr} {o : HO} (hn : H a = none) : Step m H (m.hide a) (upd H a o) :=
  ⟨fun _ z => .inl z, fun _ _ e => e, fun b u e n => ⟨same_new hn b u e, n, fun z => z.elim id fun y => by rw [y, hn] at e; cases e⟩⟩
/-- what is hidden may be written -/
theorem Hr.hid_ne (h : Hr K m H vh) {a : Addr} (z : m.hid a) (p : Nat) : m.ats p ≠ some a := (h.hid a z).2 p
mutual
theorem Rep.hidSet {a : Addr} {xs0 ys : List V} (z : m.hid a) (ha : H a = some (.lst xs0)) : ∀ (d : D) (v : V), Rep K m H d v → Rep K m (upd H a (.lst ys)) d v
  | .non, _, r => r
  | .bl _, _, r => r
  | .int _, _, r => r
  | .str _, _, r => r
  | .tup ds, v, r => by
    simp only [Rep] at r ⊢
    obtain ⟨b, xs, e, q, r⟩ := r
    refine ⟨b, xs, e, ?_, Reps.hidSet z ha ds xs r⟩
    rcases q with (q | ⟨o', q⟩) | q
    · exact .inl (.inl (by rw [upd_ne (ne_of q ha (by intro z; cases z))]; exact q))
    · exact .inl (.inr ⟨o', by rw [upd_ne (ne_of q ha (by intro z; cases z))]; exact q⟩)
    · exact .inr q
  | .lst ds, v, r => by
    simp only [Rep] at r ⊢
    obtain ⟨b, xs, e, q, im, r⟩ := r
    exact ⟨b, xs, e, by rw [upd_ne (show b ≠ a from fun y => im.2 (by rw [y]; exact z))]; exact q, im, Reps.hidSet z ha ds xs r⟩
  | .obj c ns ds, v, r => by
    simp only [Rep] at r ⊢
    obtain ⟨b, dx, fs, e, q, im, en, r⟩ := r
    exact ⟨b, dx, fs, e, by rw [upd_ne (show b ≠ a from fun y => im.2 (by rw [y]; exact z))]; exact q, im, en, Reps.hidSet z ha ds _ r⟩
  | .ref p, v, r => by
    simp only [Rep] at r ⊢
    exact r
  | .scr ns, v, r => by
    simp only [Rep] at r ⊢
    obtain ⟨b, e, q⟩ := r
    exact ⟨b, e, q.elim (fun ⟨o, q⟩ => .inl ⟨o, by rw [upd_ne (ne_of q ha (by intro z; cases z))]; exact q⟩) .inr⟩
  | .exn b dd c ns ds, v, r => by
    simp only [Rep] at r ⊢
    obtain ⟨e, fs, q, im, en, r⟩ := r
    exact ⟨e, fs, by rw [upd_ne (show dd ≠ a from fun y => im.2 (by rw [y]; exact z))]; exact q, im, en, Reps.hidSet z ha ds _ r⟩
theorem Reps.hidSet {a : Addr} {xs0 ys : List V} (z : m.hid a) (ha : H a = some (.lst xs0)) : ∀ (ds : List D) (xs : List V), Reps K m H ds xs → Reps K m (upd H a (.lst ys)) ds xs
  | [], _, r => r
  | d :: ds, xs, r => by
    simp only [Reps] at r ⊢
    obtain ⟨v, vs, e, r1, r2⟩ := r
    exact ⟨v, vs, e, Rep.hidSet z ha d v r1, Reps.hidSet z ha ds vs r2⟩
end
theorem Hr.hidSet {a : Addr} {xs0 ys : List V} (h : Hr K m H vh) (z : m.hid a) (ha : H a = some (.lst xs0)) : Hr K m (upd H a (.lst ys)) vh := by
  refine ⟨h.dom, h.inj, fun p c b e1 e2 => ?_, fun b y => ?_⟩
  · have nb : b ≠ a := fun y => h.hid_ne z p (by rw [← y]; exact e2)
    have r' := h.ats p c b e1 e2
    cases c with
    | lst ds => obtain ⟨xs, q, r⟩ := r'; exact ⟨xs, by rw [upd_ne nb]; exact q, Reps.hidSet z ha _ _ r⟩
    | ins c ns ds => obtain ⟨dx, fs, q, en, r⟩ := r'; exact ⟨dx, fs, by rw [upd_ne nb]; exact q, en, Reps.hidSet z ha _ _ r⟩
  · obtain ⟨⟨xs, q⟩, n⟩ := h.hid b y
    by_cases hb : b = a
    · subst hb; exact ⟨⟨ys, upd_same⟩, n⟩
    · exact ⟨⟨xs, by rw [upd_ne hb]; exact q⟩, n⟩
/-- fewer addresses are hidden -/
def Map.bare (m : Map) (z : Addr → Prop) : Map := { m with hid := z }
mutual
theorem Rep.bare {z : Addr → Prop} (hz : ∀ a, z a → m.hid a) : ∀ (d : D) (v : V), Rep K m H d v → Rep K (m.bare z) H d v
  | .non, _, r => r
  | .bl _, _, r => r
  | .int _, _, r => r
  | .str _, _, r => r
  | .tup ds, v, r => by
    simp only [Rep] at r ⊢
    obtain ⟨b, xs, e, q, r⟩ := r
    exact ⟨b, xs, e, q, Reps.bare hz ds xs r⟩
  | .lst ds, v, r => by
    simp only [Rep] at r ⊢
    obtain ⟨b, xs, e, q, im, r⟩ := r
    exact ⟨b, xs, e, q, ⟨im.1, fun y => im.2 (hz _ y)⟩, Reps.bare hz ds xs r⟩
  | .obj c ns ds, v, r => by
    simp only [Rep] at r ⊢
    obtain ⟨b, dx, fs, e, q, im, en, r⟩ := r
    exact ⟨b, dx, fs, e, q, ⟨im.1, fun y => im.2 (hz _ y)⟩, en, Reps.bare hz ds _ r⟩
  | .ref p, v, r => by
    simp only [Rep] at r ⊢
    exact r
  | .scr ns, v, r => by
    simp only [Rep] at r ⊢
    exact r
  | .exn b dd c ns ds, v, r => by
    simp only [Rep] at r ⊢
    obtain ⟨e, fs, q, im, en, r⟩ := r
    exact ⟨e, fs, q, ⟨im.1, fun y => im.2 (hz _ y)⟩, en, Reps.bare hz ds _ r⟩
theorem Reps.bare {z : Addr → Prop} (hz : ∀ a, z a → m.hid a) : ∀ (ds : List D) (xs : List V), Reps K m H ds xs → Reps K (m.bare z) H ds xs
  | [], _, r => r
  | d :: ds, xs, r => by
    simp only [Reps] at r ⊢
    obtain ⟨v, vs, e, r1, r2⟩ := r
    exact ⟨v, vs, e, Rep.bare hz d v r1, Reps.bare hz ds vs r2⟩
end
theorem Hr.bare {z : Addr → Prop} (h : Hr K m H vh) (hz : ∀ a, z a → m.hid a) : Hr K (m.bare z) H vh := by
  refine ⟨h.dom, h.inj, fun p c b e1 e2 => ?_, fun b y => h.hid b (hz b y)⟩
  have r' := h.ats p c b e1 e2
  cases c with
  | lst ds => obtain ⟨xs, q, r⟩ := r'; exact ⟨xs, q, Reps.bare hz _ _ r⟩
  | ins c ns ds => obtain ⟨dx, fs, q, en, r⟩ := r'; exact ⟨dx, fs, q, en, Reps.bare hz _ _ r⟩

theorem bare_step (s : Step m H m' H') : Step m H (m'.bare m.hid) H' := ⟨fun _ z => z, s.2.1, fun b u e n => let ⟨h1, h2, _⟩ := s.2.2 b u e n; ⟨h1, h2, fun z => z⟩⟩
/-! ### a def is left: its own cells go -/
mutual
theorem Rep.down (s : Step m H m' H') : ∀ (d : D) (v0 v : V), Rep K m H d v0 → Rep K m' H' d v → Rep K m H' d v
  | .non, _, _, _, r => r
  | .bl _, _, _, _, r => r
  | .int _, _, _, _, r => r
  | .str _, _, _, _, r => r
  | .tup ds, v0, v, r0, r => by
    simp only [Rep] at r0 r ⊢
    obtain ⟨b0, xs0, e0, q0, r0⟩ := r0
    obtain ⟨b, xs, e, q, r⟩ := r
    exact ⟨b, xs, e, q, Reps.down s ds xs0 xs r0 r⟩
  | .lst ds, v0, v, r0, r => by
    simp only [Rep] at r0 r ⊢
    obtain ⟨b0, xs0, e0, q0, im0, r0⟩ := r0
    obtain ⟨b, xs, e, q, im, r⟩ := r
    exact ⟨b, xs, e, q, ⟨fun p z => im.1 p (s.2.1 p _ z), fun y => im.2 (s.1 _ y)⟩, Reps.down s ds xs0 xs r0 r⟩
  | .obj c ns ds, v0, v, r0, r => by
    simp only [Rep] at r0 r ⊢
    obtain ⟨b0, dx0, fs0, e0, q0, im0, en0, r0⟩ := r0
    obtain ⟨b, dx, fs, e, q, im, en, r⟩ := r
    exact ⟨b, dx, fs, e, q, ⟨fun p z => im.1 p (s.2.1 p _ z), fun y => im.2 (s.1 _ y)⟩, en, Reps.down s ds _ _ r0 r⟩
  | .ref p, v0, v, r0, r => by
    simp only [Rep] at r0 r ⊢
    obtain ⟨a0, e0, q0⟩ := r0
    obtain ⟨a, e, q⟩ := r
    have z := s.2.1 p a0 q0
    rw [q] at z
    have z' := Option.some.inj z
    exact ⟨a0, by rw [e, z'], q0⟩
  | .scr ns, v0, v, r0, r => by
    simp only [Rep] at r0 r ⊢
    exact r
  | .exn b dd c ns ds, v0, v, r0, r => by
    simp only [Rep] at r0 r ⊢
    obtain ⟨e0, fs0, q0, im0, en0, r0⟩ := r0
    obtain ⟨e, fs, q, im, en, r⟩ := r
    exact ⟨e, fs, q, ⟨fun p z => im.1 p (s.2.1 p _ z), fun y => im.2 (s.1 _ y)⟩, en, Reps.down s ds _ _ r0 r⟩
theorem Reps.down (s : Step m H m' H') : ∀ (ds : List D) (xs0 xs : List V), Reps K m H ds xs0 → Reps K m' H' ds xs → Reps K m H' ds xs
  | [], _, _, _, r => r
  | d :: ds, xs0, xs, r0, r => by
    simp only [Reps] at r0 r ⊢
    obtain ⟨v0, vs0, e0, r01, r02⟩ := r0
    obtain ⟨v, vs, e, r1, r2⟩ := r
    exact ⟨v, vs, e, Rep.down s d v0 v r01 r1, Reps.down s ds vs0 vs r02 r2⟩
end
theorem Hr.trim {g : VH} (h : Hr K m H vh) (s : Step m H m' H') (h' : Hr K m' H' (vh ++ g)) : Hr K m H' vh ∧ Step m H m H' := by
  refine ⟨⟨h.dom, h.inj, fun p c b e1 e2 => ?_, fun b z => ?_⟩, fun _ z => z, fun _ _ e => e, fun a o e n => ⟨(s.2.2 a o e n).1, n, fun z => z⟩⟩
  · have lt := (List.getElem?_eq_some_iff.mp e1).1
    have r0 := h.ats p c b e1 e2
    have r' := h'.ats p c b (by rw [List.getElem?_append_left lt]; exact e1) (s.2.1 p b e2)
    cases c with
    | lst ds =>
      obtain ⟨xs, q, r⟩ := r'
      obtain ⟨xs0, q0, r0⟩ := r0
      exact ⟨xs, q, Reps.down s _ _ _ r0 r⟩
    | ins c ns ds =>
      obtain ⟨dx, fs, q, en, r⟩ := r'
      obtain ⟨dx0, fs0, q0, en0, r0⟩ := r0
      exact ⟨dx, fs, q, en, Reps.down s _ _ _ r0 r⟩
  · exact ⟨(h'.hid b (s.1 b z)).1, (h.hid b z).2⟩
mutual
/-- all cells that a datum names are below n -/
def low (n : Nat) : D → Prop
  | .non => True
  | .bl _ => True
  | .int _ => True
  | .str _ => True
  | .tup ds => lows n ds
  | .lst ds => lows n ds
  | .obj _ _ ds => lows n ds
  | .ref p => p < n
  | .scr _ => True
  | .exn _ _ _ _ ds => lows n ds
def lows (n : Nat) : List D → Prop
  | [] => True
  | d :: ds => low n d ∧ lows n ds
end
mutual
theorem Rep.low (h : Hr K m H vh) (s : Step m H m' H') : ∀ (d : D) (v : V), VI.low vh.length d → Rep K m' H' d v → Rep K m H' d v
  | .non, _, _, r => r
  | .bl _, _, _, r => r
  | .int _, _, _, r => r
  | .str _, _, _, r => r
  | .tup ds, v, l, r => by
    simp only [Rep, VI.low] at l r ⊢
    obtain ⟨b, xs, e, q, r⟩ := r
    exact ⟨b, xs, e, q, Reps.low h s ds xs l r⟩
  | .lst ds, v, l, r => by
    simp only [Rep, VI.low] at l r ⊢
    obtain ⟨b, xs, e, q, im, r⟩ := r
    exact ⟨b, xs, e, q, ⟨fun p z => im.1 p (s.2.1 p _ z), fun y => im.2 (s.1 _ y)⟩, Reps.low h s ds xs l r⟩
  | .obj c ns ds, v, l, r => by
    simp only [Rep, VI.low] at l r ⊢
    obtain ⟨b, dx, fs, e, q, im, en, r⟩ := r
    exact ⟨b, dx, fs, e, q, ⟨fun p z => im.1 p (s.2.1 p _ z), fun y => im.2 (s.1 _ y)⟩, en, Reps.low h s ds _ l r⟩
  | .ref p, v, l, r => by
    simp only [Rep, VI.low] at l r ⊢
    obtain ⟨a, e, q⟩ := r
    obtain ⟨a0, q0⟩ := (h.dom p).mpr l
    have z := s.2.1 p a0 q0
    rw [q] at z
    have z' := Option.some.inj z
    exact ⟨a0, by rw [e, z'], q0⟩
  | .scr ns, v, _, r => by
    simp only [Rep] at r ⊢
    exact r
  | .exn b dd c ns ds, v, l, r => by
    simp only [Rep, VI.low] at l r ⊢
    obtain ⟨e, fs, q, im, en, r⟩ := r
    exact ⟨e, fs, q, ⟨fun p z => im.1 p (s.2.1 p _ z), fun y => im.2 (s.1 _ y)⟩, en, Reps.low h s ds _ l r⟩
theorem Reps.low (h : Hr K m H vh) (s : Step m H m' H') : ∀ (ds : List D) (xs : List V), VI.lows vh.length ds → Reps K m' H' ds xs → Reps K m H' ds xs
  | [], _, _, r => r
  | d :: ds, xs, l, r => by
    simp only [Reps, VI.lows] at l r ⊢
    obtain ⟨v, vs, e, r1, r2⟩ := r
    exact ⟨v, vs, e, Rep.low h s d v l.1 r1, Reps.low h s ds vs l.2 r2⟩
end
mutual
/-- a datum without the cells from n on: they are frozen -/
inductive Frz (vh : VH) (n : Nat) : D → D → Prop
  | low {d : D} : VI.low n d → Frz vh n d d
  | tup {ds es : List D} : Frzs vh n ds es → Frz vh n (.tup ds) (.tup es)
  | lst {p : Nat} {ds es : List D} : n ≤ p → vh[p]? = some (.lst ds) → Frzs vh n ds es → Frz vh n (.ref p) (.lst es)
  | ins {p : Nat} {c : Str} {ns : List Str} {ds es : List D} : n ≤ p → vh[p]? = some (.ins c ns ds) → Frzs vh n ds es → Frz vh n (.ref p) (.obj c ns es)
inductive Frzs (vh : VH) (n : Nat) : List D → List D → Prop
  | nil : Frzs vh n [] []
  | cons {d e : D} {ds es : List D} : Frz vh n d e → Frzs vh n ds es → Frzs vh n (d :: ds) (e :: es)
end
theorem high_imm (h : Hr K m H vh) (s : Step m H m' H') (h' : Hr K m' H' vh') {p : Nat} {a : Addr} (hp : vh.length ≤ p) (e : m'.ats p = some a) : m.Imm a := by
  refine ⟨fun q z => ?_, fun z => ?_⟩
  · have lt := (h.dom q).mp ⟨a, z⟩
    have := h'.inj q p a (s.2.1 q a z) e
    omega
  · exact (h'.hid a (s.1 a z)).2 p e
mutual
theorem Frz.rep (h : Hr K m H vh) (s : Step m H m' H') (h' : Hr K m' H' vh') : ∀ {d e : D} {v : V}, Frz vh' vh.length d e → Rep K m' H' d v → Rep K m H' e v
  | d, _, v, .low l, r => Rep.low h s d v l r
  | .tup ds, .tup es, v, .tup f, r => by
    simp only [Rep] at r ⊢
    obtain ⟨b, xs, e, q, r⟩ := r
    exact ⟨b, xs, e, q, Frzs.rep h s h' f r⟩
  | .ref p, .lst es, v, .lst hp e f, r => by
    simp only [Rep] at r ⊢
    obtain ⟨a, ev, q⟩ := r
    obtain ⟨xs, ea, rs⟩ := h'.ats p _ a e q
    exact ⟨a, xs, ev, ea, high_imm h s h' hp q, Frzs.rep h s h' f rs⟩
  | .ref p, .obj c ns es, v, .ins hp e f, r => by
    simp only [Rep] at r ⊢
    obtain ⟨a, ev, q⟩ := r
    obtain ⟨dx, fs, ea, en, rs⟩ := h'.ats p _ a e q
    exact ⟨a, dx, fs, ev, ea, high_imm h s h' hp q, en, Frzs.rep h s h' f rs⟩
theorem Frzs.rep (h : Hr K m H vh) (s : Step m H m' H') (h' : Hr K m' H' vh') : ∀ {ds es : List D} {xs : List V}, Frzs vh' vh.length ds es → Reps K m' H' ds xs → Reps K m H' es xs
  | [], [], _, .nil, r => by simpa only [Reps] using r
  | _ :: _, _ :: _, xs, .cons f fs, r => by
    simp only [Reps] at r ⊢
    obtain ⟨v, vs, e, r1, r2⟩ := r
    exact ⟨v, vs, e, Frz.rep h s h' f r1, Frzs.rep h s h' fs r2⟩
end
end
end VI

end
section
/-! VI2: sems (what a piece of text asks, in continuations, over plain data) and their soundness: expressions. -/
namespace VI
open PySem PySem.Spec L2
open PyProof.Rows hiding St

abbrev Env := List (Option D)
abbrev KD := D → VH → Prop
abbrev KL := List D → VH → Prop
abbrev KB := Bool → VH → Prop
abbrev KX := Exc → VH → Prop
abbrev SemE := Env → VH → KX → KD → Prop
abbrev SemA := Env → VH → KX → KL → Prop
abbrev SemT := Env → VH → KX → KB → Prop

section
variable (K : PySem.W.Frag) (m : Map) (H : Hp)
def Er (env : Env) (σ : St) : Prop := env.length = σ.length ∧ ∀ (i : Nat) d, env[i]? = some (some d) → ∃ v, σ[i]? = some (some v) ∧ Rep K m H d v
def RepX (ex : Exc) (cls : Value) (dd : Option Addr) : Prop := cls = .ref (He.ga K ex.c) ∧ ∃ a fs, dd = some a ∧ H a = some (.xd fs) ∧ fs.map (·.1) = ex.ns ∧ Reps K m H ex.ds (fs.map (·.2))
def Out (kd : KD) (Q : VK) : Prop := ∀ m' vh' H' d v, Step m H m' H' → Hr K m' H' vh' → Rep K m' H' d v → kd d vh' → Q v H'
def OutL (kd : KL) (Q : List V → Hp → Prop) : Prop := ∀ m' vh' H' ds vs, Step m H m' H' → Hr K m' H' vh' → Reps K m' H' ds vs → kd ds vh' → Q vs H'
def OutB (kb : KB) (Q : Bool → Hp → Prop) : Prop := ∀ m' vh' H' b, Step m H m' H' → Hr K m' H' vh' → kb b vh' → Q b H'
def OutX (W : WX) (σ : St) (kx : KX) : Prop := ∀ m' vh' H' ex cls dd, Step m H m' H' → Hr K m' H' vh' → RepX K m' H' ex cls dd → kx ex vh' → W cls dd σ H'
end
section
variable {K : PySem.W.Frag} {m m' : Map} {H H' : Hp} {vh : VH} {env : Env} {σ : St} {W : WX} {kx : KX} {kd : KD}
theorem Er.step (h : Hr K m H vh) (s : Step m H m' H') (e : Er K m H env σ) : Er K m' H' env σ :=
  ⟨e.1, fun i d q => let ⟨v, h1, h2⟩ := e.2 i d q; ⟨v, h1, Rep.step h s d v h2⟩⟩
theorem OutX.step (s : Step m H m' H') (o : OutX K m H W σ kx) : OutX K m' H' W σ kx := fun m2 vh2 H2 ex cls dd s2 => o m2 vh2 H2 ex cls dd (s.trans s2)
theorem Out.step {Q : VK} (s : Step m H m' H') (o : Out K m H kd Q) : Out K m' H' kd Q := fun m2 vh2 H2 d v s2 => o m2 vh2 H2 d v (s.trans s2)
theorem OutB.step {kb : KB} {Q : Bool → Hp → Prop} (s : Step m H m' H') (o : OutB K m H kb Q) : OutB K m' H' kb Q := fun m2 vh2 H2 b s2 => o m2 vh2 H2 b (s.trans s2)
theorem OutL.step {kl : KL} {Q : List V → Hp → Prop} (s : Step m H m' H') (o : OutL K m H kl Q) : OutL K m' H' kl Q := fun m2 vh2 H2 ds vs s2 => o m2 vh2 H2 ds vs (s.trans s2)
theorem Er.set {i : Nat} {d : D} {v : V} (e : Er K m H env σ) (r : Rep K m H d v) : Er K m H (env.set i (some d)) (σ.set i (some v)) := by
  refine ⟨by rw [List.length_set, List.length_set]; exact e.1, fun j d' q => ?_⟩
  by_cases hj : i = j
  · subst hj
    have lt : i < env.length := by
      have := (List.getElem?_eq_some_iff.mp q).1
      rw [List.length_set] at this; exact this
    rw [List.getElem?_set_self lt] at q
    cases q
    exact ⟨v, by rw [List.getElem?_set_self (by rw [← e.1]; exact lt)], r⟩
  · rw [List.getElem?_set_ne hj] at q
    obtain ⟨w, h1, h2⟩ := e.2 j d' q
    exact ⟨w, by rw [List.getElem?_set_ne hj]; exact h1, h2⟩
end

/-! ### the readings -/
def tE (K : PySem.W.Frag) (W : WX) (sem : SemE) : TE := fun σ H Q => ∃ m env vh kx kd, Hr K m H vh ∧ Er K m H env σ ∧ sem env vh kx kd ∧ Out K m H kd Q ∧ OutX K m H W σ kx
def tT (K : PySem.W.Frag) (W : WX) (sem : SemT) : TT := fun σ H Q => ∃ m env vh kx kd, Hr K m H vh ∧ Er K m H env σ ∧ sem env vh kx kd ∧ OutB K m H kd Q ∧ OutX K m H W σ kx
def tA (K : PySem.W.Frag) (W : WX) (sem : SemA) : TA := fun σ H Q => ∃ m env vh kx kd, Hr K m H vh ∧ Er K m H env σ ∧ sem env vh kx kd ∧ OutL K m H kd Q ∧ OutX K m H W σ kx
def SE (X : Cx) (W : WX) (sem : SemE) (e : Expr) : Prop := PE X e (tE X.K W sem)
def ST (X : Cx) (W : WX) (sem : SemT) (e : Expr) : Prop := PT X e (tT X.K W sem)
def SA (X : Cx) (W : WX) (sem : SemA) (es : List Expr) : Prop := PA X es (tA X.K W sem)
theorem peImp {X : Cx} {e : Expr} {t t' : TE} (h : PE X e t) (k : ∀ σ H Q, t' σ H Q → t σ H Q) : PE X e t' := ⟨fun pins s σ H Q I q => h.run pins s σ H Q I (k σ H Q q)⟩
theorem ptImp {X : Cx} {e : Expr} {t t' : TT} (h : PT X e t) (k : ∀ σ H Q, t' σ H Q → t σ H Q) : PT X e t' := ⟨fun pins s σ H Q I q => h.run pins s σ H Q I (k σ H Q q)⟩
theorem pwImp {X : Cx} {e : Expr} {t t' : TT} (h : PW X e t) (k : ∀ σ H Q, t' σ H Q → t σ H Q) : PW X e t' := ⟨fun wh pins s σ H Q I q => h.run wh pins s σ H Q I (k σ H Q q)⟩
theorem paImp {X : Cx} {es : List Expr} {t t' : TA} (h : PA X es t) (k : ∀ σ H Q, t' σ H Q → t σ H Q) : PA X es t' := ⟨fun pos pins s σ H Q I q => h.run pos pins s σ H Q I (k σ H Q q)⟩
section
variable {K : PySem.W.Frag} {m : Map} {H : Hp} {vh : VH} {env : Env} {σ : St} {W : WX} {kx : KX} {kd : KD} {kb : KB} {kl : KL}
/-- a part is asked; behind it all stands anew -/
theorem tE.go {sem : SemE} {Q : VK} (hr : Hr K m H vh) (er : Er K m H env σ) (ox : OutX K m H W σ kx) (hs : sem env vh kx kd)
    (hq : ∀ m' vh' H' d v, Step m H m' H' → Hr K m' H' vh' → Er K m' H' env σ → OutX K m' H' W σ kx → Rep K m' H' d v → kd d vh' → Q v H') : tE K W sem σ H Q :=
  ⟨m, env, vh, kx, kd, hr, er, hs, fun m' vh' H' d v s h' r k => hq m' vh' H' d v s h' (er.step hr s) (ox.step s) r k, ox⟩
theorem tT.go {sem : SemT} {Q : Bool → Hp → Prop} (hr : Hr K m H vh) (er : Er K m H env σ) (ox : OutX K m H W σ kx) (hs : sem env vh kx kb)
    (hq : ∀ m' vh' H' b, Step m H m' H' → Hr K m' H' vh' → Er K m' H' env σ → OutX K m' H' W σ kx → kb b vh' → Q b H') : tT K W sem σ H Q :=
  ⟨m, env, vh, kx, kb, hr, er, hs, fun m' vh' H' b s h' k => hq m' vh' H' b s h' (er.step hr s) (ox.step s) k, ox⟩
theorem tA.go {sem : SemA} {Q : List V → Hp → Prop} (hr : Hr K m H vh) (er : Er K m H env σ) (ox : OutX K m H W σ kx) (hs : sem env vh kx kl)
    (hq : ∀ m' vh' H' ds vs, Step m H m' H' → Hr K m' H' vh' → Er K m' H' env σ → OutX K m' H' W σ kx → Reps K m' H' ds vs → kl ds vh' → Q vs H') : tA K W sem σ H Q :=
  ⟨m, env, vh, kx, kl, hr, er, hs, fun m' vh' H' b vs s h' r k => hq m' vh' H' b vs s h' (er.step hr s) (ox.step s) r k, ox⟩
end

/-! ### names, constants -/
@[reducible] def look : Env → Nat → Option D
  | [], _ => none
  | x :: _, 0 => x
  | _ :: r, n + 1 => look r n
theorem look_at : ∀ {env : Env} {i : Nat} {d : D}, look env i = some d → env[i]? = some (some d)
  | [], _, _, h => by cases h
  | x :: _, 0, d, h => by simp only [look] at h; subst h; rfl
  | _ :: r, i + 1, d, h => by simpa using look_at (env := r) h
def sVar (i : Nat) : SemE := fun env vh _ kd => match look env i with
  | some d => kd d vh
  | none => False
def sCst (d : D) : SemE := fun _ vh _ kd => kd d vh
section
variable {X : Cx} {W : WX} {pos : Pos}
theorem se_var (i : Nat) {x : Str} (hN : X.N[i]? = some x := by rfl) (hv : Vis X.env.scope x := by first | exact Or.inl rfl | exact Or.inr (Or.inl rfl) | exact Or.inr (Or.inr rfl)) (hd : (x == ("__debug__" : Str)) = false := by decide)
    (hcd : (x == ("__classdict__" : Str)) = false := by decide) : SE X W (sVar i) (.Name x pos) := by
  refine peImp (pe_var hN hv hd hcd) fun σ H Q h => ?_
  obtain ⟨m, env, vh, kx, kd, hr, er, hs, ho, ox⟩ := h
  revert hs
  show (match look env i with | some d => kd d vh | none => False) → _
  cases e : look env i with
  | none => exact False.elim
  | some d =>
    intro hs
    obtain ⟨v, h1, h2⟩ := er.2 i d (look_at e)
    exact ⟨v, h1, ho m vh H d v (Step.refl _ _) hr h2 hs⟩
theorem se_cst {e : Expr} {d : D} {v : V} (h : PE X e (tC v)) (r : ∀ m H, Rep X.K m H d v) : SE X W (sCst d) e := by
  refine peImp h fun σ H Q q => ?_
  obtain ⟨m, env, vh, kx, kd, hr, er, hs, ho, ox⟩ := q
  exact ho m vh H d v (Step.refl _ _) hr (r m H) hs
theorem se_int {i j} : SE X W (sCst (.int i)) (.Constant (.int i) j pos) := se_cst pe_int fun _ _ => rfl
theorem se_bl {b j} : SE X W (sCst (.bl b)) (.Constant (.bool b) j pos) := se_cst pe_bl fun _ _ => rfl
theorem se_non {j} : SE X W (sCst .non) (.Constant .none j pos) := se_cst pe_non fun _ _ => rfl
theorem se_str {x j} : SE X W (sCst (.str x)) (.Constant (.str x) j pos) := se_cst pe_str fun _ _ => rfl
/-- a constant of the module -/
theorem se_glob {x : Str} {d : D} {v : V} {u : Value} (hg : Gl X x) (hm : X.mg x = some u) (r : RelV v u) (rep : ∀ m H, Rep X.K m H d v) (hd : (x == ("__debug__" : Str)) = false := by decide) : SE X W (sCst d) (.Name x pos) := se_cst (pe_glob hg hm r hd) rep

/-! ### operators of two, of one -/
abbrev SO2 := D → D → VH → KD → Prop
abbrev SO1 := D → VH → KD → Prop
/-- the operator's sem meets the rule's reading -/
def Sn2 (K : PySem.W.Frag) (so : SO2) (r : R2) : Prop := ∀ m H vh d1 d2 v1 v2 kd Q, Hr K m H vh → Rep K m H d1 v1 → Rep K m H d2 v2 → so d1 d2 vh kd → Out K m H kd Q → r v1 v2 H Q
def Sn1 (K : PySem.W.Frag) (so : SO1) (r : V → Hp → VK → Prop) : Prop := ∀ m H vh d1 v1 kd Q, Hr K m H vh → Rep K m H d1 v1 → so d1 vh kd → Out K m H kd Q → r v1 H Q
def sBin (so : SO2) (sa sb : SemE) : SemE := fun env vh kx kd => sa env vh kx fun d1 vh1 => sb env vh1 kx fun d2 vh2 => so d1 d2 vh2 kd
def sUn (so : SO1) (sa : SemE) : SemE := fun env vh kx kd => sa env vh kx fun d1 vh1 => so d1 vh1 kd
variable {a b : Expr} {sa sb sc : SemE}
theorem tOp_of {so : SO2} {r : R2} (hs : Sn2 X.K so r) {σ : St} {H : Hp} {Q : VK} (h : tE X.K W (sBin so sa sb) σ H Q) : tOp r (tE X.K W sa) (tE X.K W sb) σ H Q := by
  obtain ⟨m, env, vh, kx, kd, hr, er, h, ho, ox⟩ := h
  refine tE.go hr er ox h fun m1 vh1 H1 d1 v1 s1 hr1 er1 ox1 r1 k1 => ?_
  refine tE.go hr1 er1 ox1 k1 fun m2 vh2 H2 d2 v2 s2 hr2 er2 ox2 r2 k2 => ?_
  exact hs m2 H2 vh2 d1 d2 v1 v2 kd Q hr2 (Rep.step hr1 s2 d1 v1 r1) r2 k2 (ho.step (s1.trans s2))
theorem se_bin {op : Operator} {so : SO2} {r : R2} (ho : OpR X (binaryOp op) r) (hs : Sn2 X.K so r) (ha : SE X W sa a) (hb : SE X W sb b) : SE X W (sBin so sa sb) (.BinOp a op b pos) :=
  peImp (pe_op ho ha hb) fun _ _ _ h => tOp_of hs h
theorem se_un {op : UnaryOp} {so : SO1} {r : V → Hp → VK → Prop} (ho : UnR X (unaryOp op) r) (hs : Sn1 X.K so r) (ha : SE X W sa a) : SE X W (sUn so sa) (.UnaryOp op a pos) := by
  refine peImp (pe_un ho ha) fun σ H Q h => ?_
  obtain ⟨m, env, vh, kx, kd, hr, er, h, ho, ox⟩ := h
  refine tE.go hr er ox h fun m1 vh1 H1 d1 v1 s1 hr1 er1 ox1 r1 k1 => ?_
  exact hs m1 H1 vh1 d1 v1 kd Q hr1 r1 k1 (ho.step s1)
/-- a comparison as a value, as a test -/
theorem se_cmp {op : CmpOp} {so : SO2} {r : R2} (ho : OpR X (compareOp op) r) (hs : Sn2 X.K so r) (ha : SE X W sa a) (hb : SE X W sb b) (hm : behindInMarks op b = false) : SE X W (sBin so sa sb) (.Compare a [op] [b] pos) :=
  peImp (pe_cmpR ho ha hb hm) fun _ _ _ h => tOp_of hs h
/-- a value as a test, where it is a truth value -/
def sTB (s : SemE) : SemT := fun env vh kx kb => s env vh kx fun d vh' => match d with
  | .bl c => kb c vh'
  | _ => False
theorem tB_of {s : SemE} {σ : St} {H : Hp} {Q : Bool → Hp → Prop} (h : tT X.K W (sTB s) σ H Q) : tE X.K W s σ H fun x H' => ∃ k, x = .bl k ∧ Q k H' := by
  obtain ⟨m, env, vh, kx, kb, hr, er, h, ho, ox⟩ := h
  refine tE.go hr er ox h fun m1 vh1 H1 d1 v1 s1 hr1 er1 ox1 r1 k1 => ?_
  cases d1 with
  | bl c => exact ⟨c, r1, ho m1 vh1 H1 c s1 hr1 k1⟩
  | _ => exact k1.elim
theorem st_cmp {op : CmpOp} {so : SO2} {r : R2} (ho : OpR X (compareOp op) r) (hs : Sn2 X.K so r) (ha : SE X W sa a) (hb : SE X W sb b) (hm : behindInMarks op b = false) : ST X W (sTB (sBin so sa sb)) (.Compare a [op] [b] pos) :=
  ptImp (pt_cmpR ho ha hb hm) fun _ _ _ h => tOp_of hs (tB_of h)
end
end VI

end
section
namespace VI
open PySem PySem.Spec L2
open PyProof.Rows hiding St
section
variable {X : Cx} {W : WX} {pos : Pos} {a b : Expr} {rest : List Expr} {sa sb sc : SemE} {ta tb tc : SemT}
/-! ### and, or, not -/
def sNotT (t : SemT) : SemT := fun env vh kx kb => t env vh kx fun c vh' => kb (!c) vh'
def sAndT (t u : SemT) : SemT := fun env vh kx kb => t env vh kx fun c vh' => match c with
  | true => u env vh' kx kb
  | false => kb false vh'
def sOrT (t u : SemT) : SemT := fun env vh kx kb => t env vh kx fun c vh' => match c with
  | true => kb true vh'
  | false => u env vh' kx kb
def SW (X : Cx) (W : WX) (sem : SemT) (e : Expr) : Prop := PW X e (tT X.K W sem)
theorem SW.st {e : Expr} (h : SW X W ta e) : ST X W ta e := PW.pt h
theorem st_not (h : ST X W ta a) : ST X W (sNotT ta) (.UnaryOp .Not a pos) := by
  refine ptImp (pt_not h) fun σ H Q h => ?_
  obtain ⟨m, env, vh, kx, kd, hr, er, h, ho, ox⟩ := h
  exact tT.go hr er ox h fun m1 vh1 H1 c s1 hr1 er1 ox1 k1 => ho m1 vh1 H1 _ s1 hr1 k1
theorem sw_and1 (h : ST X W ta a) : SW X W ta (.BoolOp .And [a] pos) := pw_and1 h
theorem sw_or1 (h : ST X W ta a) : SW X W ta (.BoolOp .Or [a] pos) := pw_or1 h
theorem sw_and (ha : ST X W ta a) (hb : SW X W tb (.BoolOp .And (b :: rest) pos)) : SW X W (sAndT ta tb) (.BoolOp .And (a :: b :: rest) pos) := by
  refine pwImp (pw_and ha hb) fun σ H Q h => ?_
  obtain ⟨m, env, vh, kx, kd, hr, er, h, ho, ox⟩ := h
  refine tT.go hr er ox h fun m1 vh1 H1 c s1 hr1 er1 ox1 k1 => ?_
  cases c with
  | true => exact iteT (tT.go hr1 er1 ox1 k1 fun m2 vh2 H2 c s2 hr2 er2 ox2 k2 => ho m2 vh2 H2 c (s1.trans s2) hr2 k2)
  | false => exact iteF (ho m1 vh1 H1 false s1 hr1 k1)
theorem sw_or (ha : ST X W ta a) (hb : SW X W tb (.BoolOp .Or (b :: rest) pos)) : SW X W (sOrT ta tb) (.BoolOp .Or (a :: b :: rest) pos) := by
  refine pwImp (pw_or ha hb) fun σ H Q h => ?_
  obtain ⟨m, env, vh, kx, kd, hr, er, h, ho, ox⟩ := h
  refine tT.go hr er ox h fun m1 vh1 H1 c s1 hr1 er1 ox1 k1 => ?_
  cases c with
  | true => exact iteT (ho m1 vh1 H1 true s1 hr1 k1)
  | false => exact iteF (tT.go hr1 er1 ox1 k1 fun m2 vh2 H2 c s2 hr2 er2 ox2 k2 => ho m2 vh2 H2 c (s1.trans s2) hr2 k2)
/-- .. as values; all but the last are truth values -/
def sAndV (sa sb : SemE) : SemE := fun env vh kx kd => sa env vh kx fun d vh' => match d with
  | .bl true => sb env vh' kx kd
  | .bl false => kd (.bl false) vh'
  | _ => False
def sOrV (sa sb : SemE) : SemE := fun env vh kx kd => sa env vh kx fun d vh' => match d with
  | .bl true => kd (.bl true) vh'
  | .bl false => sb env vh' kx kd
  | _ => False
def sNotV (sa : SemE) : SemE := fun env vh kx kd => sa env vh kx fun d vh' => match d with
  | .bl c => kd (.bl (!c)) vh'
  | _ => False
theorem se_one {op} (h : SE X W sa a) : SE X W sa (.BoolOp op [a] pos) := pe_one h
theorem se_and (ha : SE X W sa a) (hb : SE X W sb (.BoolOp .And (b :: rest) pos)) : SE X W (sAndV sa sb) (.BoolOp .And (a :: b :: rest) pos) := by
  refine peImp (pe_and ha hb) fun σ H Q h => ?_
  obtain ⟨m, env, vh, kx, kd, hr, er, h, ho, ox⟩ := h
  refine tE.go hr er ox h fun m1 vh1 H1 d v s1 hr1 er1 ox1 r1 k1 => ?_
  cases d with
  | bl c =>
    cases c with
    | true => exact ⟨true, r1, iteT (tE.go hr1 er1 ox1 k1 fun m2 vh2 H2 d v s2 hr2 er2 ox2 r2 k2 => ho m2 vh2 H2 d v (s1.trans s2) hr2 r2 k2)⟩
    | false => exact ⟨false, r1, iteF (ho m1 vh1 H1 (.bl false) _ s1 hr1 rfl k1)⟩
  | _ => exact k1.elim
theorem se_or (ha : SE X W sa a) (hb : SE X W sb (.BoolOp .Or (b :: rest) pos)) : SE X W (sOrV sa sb) (.BoolOp .Or (a :: b :: rest) pos) := by
  refine peImp (pe_or ha hb) fun σ H Q h => ?_
  obtain ⟨m, env, vh, kx, kd, hr, er, h, ho, ox⟩ := h
  refine tE.go hr er ox h fun m1 vh1 H1 d v s1 hr1 er1 ox1 r1 k1 => ?_
  cases d with
  | bl c =>
    cases c with
    | true => exact ⟨true, r1, iteT (ho m1 vh1 H1 (.bl true) _ s1 hr1 rfl k1)⟩
    | false => exact ⟨false, r1, iteF (tE.go hr1 er1 ox1 k1 fun m2 vh2 H2 d v s2 hr2 er2 ox2 r2 k2 => ho m2 vh2 H2 d v (s1.trans s2) hr2 r2 k2)⟩
  | _ => exact k1.elim
theorem se_not (ha : SE X W sa a) : SE X W (sNotV sa) (.UnaryOp .Not a pos) := by
  refine peImp (pe_not ha) fun σ H Q h => ?_
  obtain ⟨m, env, vh, kx, kd, hr, er, h, ho, ox⟩ := h
  refine tE.go hr er ox h fun m1 vh1 H1 d v s1 hr1 er1 ox1 r1 k1 => ?_
  cases d with
  | bl c => exact ⟨c, r1, ho m1 vh1 H1 (.bl (!c)) _ s1 hr1 rfl k1⟩
  | _ => exact k1.elim
/-- a value that is a truth value, as a test -/
theorem st_val {e : Expr} (h : SE X W sa e) (he : ∀ whole, isTrue e X.env whole = (do let v ← whole; standAt e.pos; holding [v] (truthy v)) := by intro _; rfl) : ST X W (sTB sa) e :=
  ptImp (pt_val h he) fun _ _ _ q => tB_of q
/-- a if t else b -/
def sIfE (t : SemT) (sa sb : SemE) : SemE := fun env vh kx kd => t env vh kx fun c vh' => match c with
  | true => sa env vh' kx kd
  | false => sb env vh' kx kd
theorem se_if {c : Expr} (hc : ST X W tc c) (ha : SE X W sa a) (hb : SE X W sb b) : SE X W (sIfE tc sa sb) (.IfExp c a b pos) := by
  refine peImp (pe_ifExp hc ha hb) fun σ H Q h => ?_
  obtain ⟨m, env, vh, kx, kd, hr, er, h, ho, ox⟩ := h
  refine tT.go hr er ox h fun m1 vh1 H1 c s1 hr1 er1 ox1 k1 => ?_
  cases c with
  | true => exact iteT (tE.go hr1 er1 ox1 k1 fun m2 vh2 H2 d v s2 hr2 er2 ox2 r2 k2 => ho m2 vh2 H2 d v (s1.trans s2) hr2 r2 k2)
  | false => exact iteF (tE.go hr1 er1 ox1 k1 fun m2 vh2 H2 d v s2 hr2 er2 ox2 r2 k2 => ho m2 vh2 H2 d v (s1.trans s2) hr2 r2 k2)
/-! ### views -/
@[reducible] def lview (vh : VH) : D → Option (List D)
  | .lst ds => some ds
  | .ref p => match vh[p]? with
    | some (.lst ds) => some ds
    | _ => none
  | _ => none
@[reducible] def sview (vh : VH) : D → Option (List D)
  | .tup ds => some ds
  | .lst ds => some ds
  | .ref p => match vh[p]? with
    | some (.lst ds) => some ds
    | _ => none
  | _ => none
section
variable {K : PySem.W.Frag} {m : Map} {H : Hp} {vh : VH}
theorem lview_rep (hr : Hr K m H vh) {d : D} {v : V} {ds : List D} (r : Rep K m H d v) (e : lview vh d = some ds) : ∃ a xs, v = .ref a ∧ H a = some (.lst xs) ∧ Reps K m H ds xs := by
  cases d with
  | lst ds' =>
    simp only [Rep] at r
    cases e
    obtain ⟨a, xs, e1, e2, _, r⟩ := r
    exact ⟨a, xs, e1, e2, r⟩
  | ref p =>
    simp only [Rep] at r
    obtain ⟨a, e1, e2⟩ := r
    simp only [lview] at e
    cases q : vh[p]? with
    | none => rw [q] at e; cases e
    | some c =>
      rw [q] at e
      cases c with
      | lst ds' =>
        cases e
        obtain ⟨xs, e3, r⟩ := hr.ats p _ a q e2
        exact ⟨a, xs, e1, e3, r⟩
      | ins _ _ _ => cases e
  | _ => cases e
theorem sview_rep (hr : Hr K m H vh) {d : D} {v : V} {ds : List D} (r : Rep K m H d v) (e : sview vh d = some ds) : ∃ a xs, v = .ref a ∧ (SqL K H a xs ∨ SqT K H a xs) ∧ Reps K m H ds xs := by
  cases d with
  | tup ds' =>
    simp only [Rep] at r
    cases e
    obtain ⟨a, xs, e1, e2, r⟩ := r
    exact ⟨a, xs, e1, .inr e2, r⟩
  | lst ds' =>
    obtain ⟨a, xs, e1, e2, r⟩ := lview_rep hr r (show lview vh (.lst ds') = some ds from e)
    exact ⟨a, xs, e1, .inl (.of e2), r⟩
  | ref p =>
    obtain ⟨a, xs, e1, e2, r⟩ := lview_rep hr r (show lview vh (.ref p) = some ds from e)
    exact ⟨a, xs, e1, .inl (.of e2), r⟩
  | _ => cases e
end
/-! ### new lists, tuples -/
def newL (cell : Bool) (ds : List D) (vh : VH) (kd : KD) : Prop := match cell with
  | false => kd (.lst ds) vh
  | true => kd (.ref vh.length) (vh ++ [.lst ds])
section
variable {K : PySem.W.Frag} {m : Map} {H : Hp} {vh : VH} {kd : KD} {Q : VK} {ds : List D} {vs : List V}
theorem out_tup (hr : Hr K m H vh) (rs : Reps K m H ds vs) (k : kd (.tup ds) vh) (ho : Out K m H kd Q) {p : Addr} (hp : H p = none) : Q (.ref p) (upd H p (.tup vs)) := by
  have sm := same_new (o := .tup vs) hp
  have st := Step.same (m := m) sm
  refine ho m vh _ (.tup ds) _ st (hr.same sm) ?_ k
  simp only [Rep]
  exact ⟨p, vs, rfl, .of upd_same, Reps.step hr st _ _ rs⟩
theorem imm_new (hr : Hr K m H vh) {p : Addr} (hp : H p = none) : m.Imm p := ⟨hr.none_ne hp, fun z => by obtain ⟨⟨xs, q⟩, _⟩ := hr.hid p z; rw [hp] at q; cases q⟩
theorem out_lst {cell : Bool} (hr : Hr K m H vh) (rs : Reps K m H ds vs) (k : newL cell ds vh kd) (ho : Out K m H kd Q) {p : Addr} (hp : H p = none) : Q (.ref p) (upd H p (.lst vs)) := by
  cases cell with
  | false =>
    have sm := same_new (o := .lst vs) hp
    have st := Step.same (m := m) sm
    refine ho m vh _ (.lst ds) _ st (hr.same sm) ?_ k
    simp only [Rep]
    exact ⟨p, vs, rfl, upd_same, imm_new hr hp, Reps.step hr st _ _ rs⟩
  | true =>
    have st := push_step (o := .lst vs) hr hp
    refine ho (m.push vh.length p) _ _ (.ref vh.length) _ st (hr.push (c := .lst ds) hp ⟨vs, upd_same, Reps.step hr st _ _ rs⟩) ?_ k
    simp only [Rep]
    exact ⟨p, rfl, if_pos rfl⟩
end
/-! ### arguments, displays -/
def sNil : SemA := fun _ vh _ kl => kl [] vh
def sCons (s : SemE) (t : SemA) : SemA := fun env vh kx kl => s env vh kx fun d vh' => t env vh' kx fun ds vh'' => kl (d :: ds) vh''
variable {e : Expr} {es : List Expr} {sl : SemA}
theorem sa_nil : SA X W sNil [] := by
  refine paImp pa_nil fun σ H Q h => ?_
  obtain ⟨m, env, vh, kx, kd, hr, er, h, ho, ox⟩ := h
  exact ho m vh H [] [] (Step.refl _ _) hr Reps.nil h
theorem sa_cons (he : SE X W sa e) (hs : SA X W sl es) (h : starEach (e :: es) X.env = (false, eval e X.env) :: starEach es X.env := by rfl) : SA X W (sCons sa sl) (e :: es) := by
  refine paImp (pa_cons he hs h) fun σ H Q h => ?_
  obtain ⟨m, env, vh, kx, kd, hr, er, h, ho, ox⟩ := h
  refine tE.go hr er ox h fun m1 vh1 H1 d1 v1 s1 hr1 er1 ox1 r1 k1 => ?_
  refine tA.go hr1 er1 ox1 k1 fun m2 vh2 H2 ds vs s2 hr2 er2 ox2 r2 k2 => ?_
  exact ho m2 vh2 H2 (d1 :: ds) (v1 :: vs) (s1.trans s2) hr2 (Reps.cons (Rep.step hr1 s2 _ _ r1) r2) k2
def sTup (t : SemA) : SemE := fun env vh kx kd => t env vh kx fun ds vh' => ds.length ≤ 16777216 ∧ kd (.tup ds) vh'
def sLst (cell : Bool) (t : SemA) : SemE := fun env vh kx kd => t env vh kx fun ds vh' => ds.length ≤ 16777216 ∧ newL cell ds vh' kd
theorem se_tup {x1} (hs : SA X W sl es) : SE X W (sTup sl) (.Tuple es x1 pos) := by
  refine peImp (pe_tup hs) fun σ H Q h => ?_
  obtain ⟨m, env, vh, kx, kd, hr, er, h, ho, ox⟩ := h
  refine tA.go hr er ox h fun m1 vh1 H1 ds vs s1 hr1 er1 ox1 r1 k1 => ?_
  exact ⟨by rw [← r1.len, sizeLine_eq]; exact k1.1, fun p hp => out_tup hr1 r1 k1.2 (ho.step s1) hp⟩
theorem se_lst (cell : Bool) (hs : SA X W sl es) : SE X W (sLst cell sl) (.List es pos) := by
  refine peImp (pe_lst hs) fun σ H Q h => ?_
  obtain ⟨m, env, vh, kx, kd, hr, er, h, ho, ox⟩ := h
  refine tA.go hr er ox h fun m1 vh1 H1 ds vs s1 hr1 er1 ox1 r1 k1 => ?_
  exact ⟨by rw [← r1.len, sizeLine_eq]; exact k1.1, fun p hp => out_lst (cell := cell) hr1 r1 k1.2 (ho.step s1) hp⟩
/-! ### calls of built-ins -/
abbrev SOL := List D → VH → KD → Prop
def SnL (K : PySem.W.Frag) (so : SOL) (r : List V → Hp → VK → Prop) : Prop := ∀ m H vh ds vs kd Q, Hr K m H vh → Reps K m H ds vs → so ds vh kd → Out K m H kd Q → r vs H Q
def sCallB (so : SOL) (t : SemA) : SemE := fun env vh kx kd => t env vh kx fun ds vh' => so ds vh' kd
theorem tCB_of {so : SOL} {r : List V → Hp → VK → Prop} (hs : SnL X.K so r) {σ : L2.St} {H : Hp} {Q : VK} (h : tE X.K W (sCallB so sl) σ H Q) : tCB r (tA X.K W sl) σ H Q := by
  obtain ⟨m, env, vh, kx, kd, hr, er, h, ho, ox⟩ := h
  refine tA.go hr er ox h fun m1 vh1 H1 ds vs s1 hr1 er1 ox1 r1 k1 => ?_
  exact hs m1 H1 vh1 ds vs kd Q hr1 r1 k1 (ho.step s1)
variable {x : Str} {p : Pos} {id T : String} {so : SOL} {r : List V → Hp → VK → Prop}
theorem se_callB (hc : CallR X (.builtin id) r) (hs : SnL X.K so r) (hg : Gl X x) (hm : X.mg x = none) (hv : bootBuiltins x = some (.builtin id)) (ha : SA X W sl (e :: es)) (hn : x ≠ "__name__" := by decide) (hdb : (x == ("__debug__" : Str)) = false := by decide)
    (he : starEach (e :: es) X.env = (false, eval e X.env) :: starEach es X.env := by rfl) (hpl : (backTo pos (starEach es X.env)).any (·.1) = false := by rfl) : SE X W (sCallB so sl) (.Call (.Name x p) (e :: es) [] pos) :=
  peImp (pe_callB hc hg hm hv ha hn hdb he hpl) fun _ _ _ h => tCB_of hs h
theorem se_callTy (hc : CallR X (.type T) r) (hs : SnL X.K so r) (hg : Gl X x) (hm : X.mg x = none) (hv : bootBuiltins x = some (.type T)) (ha : SA X W sl (e :: es)) (hn : x ≠ "__name__" := by decide) (hdb : (x == ("__debug__" : Str)) = false := by decide)
    (he : starEach (e :: es) X.env = (false, eval e X.env) :: starEach es X.env := by rfl) (hpl : (backTo pos (starEach es X.env)).any (·.1) = false := by rfl) : SE X W (sCallB so sl) (.Call (.Name x p) (e :: es) [] pos) :=
  peImp (pe_callTy hc hg hm hv ha hn hdb he hpl) fun _ _ _ h => tCB_of hs h
theorem se_callBf (hc : CallR X (.builtin id) r) (hs : SnL X.K so r) (hg : Gl X x) (hm : X.mg x = some (.builtin id)) (ha : SA X W sl (e :: es)) (hdb : (x == ("__debug__" : Str)) = false := by decide)
    (he : starEach (e :: es) X.env = (false, eval e X.env) :: starEach es X.env := by rfl) (hpl : (backTo pos (starEach es X.env)).any (·.1) = false := by rfl) : SE X W (sCallB so sl) (.Call (.Name x p) (e :: es) [] pos) :=
  peImp (pe_callBfun hc hg hm ha hdb he hpl) fun _ _ _ h => tCB_of hs h
/-! ### subscripts -/
theorem se_ix {so : SO2} {r : R2} (hr : IxR X r) (hs : Sn2 X.K so r) (ha : SE X W sa a) (hb : SE X W sb b) (hp : PlainIx b) : SE X W (sBin so sa sb) (.Subscript a b pos) :=
  peImp (pe_ix hr ha hb hp) fun _ _ _ h => tOp_of hs h
end
end VI

end
section
/-! VI4: statements, defs, calls. -/
namespace VI
open PySem PySem.Spec L2
open PyProof.Rows hiding St

/-- what is wanted behind a statement -/
structure KS where
  nx : Env → VH → Prop
  rt : KD
  bk : Env → VH → Prop
  ct : Env → VH → Prop
  ex : Exc → Env → VH → Prop
abbrev SemS := Env → VH → KS → Prop
abbrev KN := Env → VH → Prop
section
variable (K : PySem.W.Frag) (m : Map) (H : Hp)
def OutN (kn : KN) (R : L2.St → Hp → Prop) : Prop := ∀ m' vh' H' env σ, Step m H m' H' → Hr K m' H' vh' → Er K m' H' env σ → kn env vh' → R σ H'
def OutE (kx : Exc → Env → VH → Prop) (W : WX) : Prop := ∀ m' vh' H' env σ ex cls dd, Step m H m' H' → Hr K m' H' vh' → Er K m' H' env σ → RepX K m' H' ex cls dd → kx ex env vh' → W cls dd σ H'
structure OutS (k : KS) (W : WX) (Dn : Ends) : Prop where
  nx : OutN K m H k.nx Dn.nx
  rt : Out K m H k.rt Dn.rt
  bk : OutN K m H k.bk Dn.bk
  ct : OutN K m H k.ct Dn.ct
  ex : OutE K m H k.ex W
end
def tS (K : PySem.W.Frag) (W : WX) (sem : SemS) : TS := fun Dn σ H => ∃ m env vh k, Hr K m H vh ∧ Er K m H env σ ∧ sem env vh k ∧ OutS K m H k W Dn
def SS (X : Cx) (W : WX) (sem : SemS) (st : Stmt) : Prop := PS X st (tS X.K W sem)
def SSs (X : Cx) (W : WX) (sem : SemS) (st : List Stmt) : Prop := PSs X st (tS X.K W sem)
theorem psImp {X : Cx} {e : Stmt} {t t' : TS} (h : PS X e t) (k : ∀ Dn σ H, t' Dn σ H → t Dn σ H) : PS X e t' := ⟨fun pins s σ H Dn I q => h.run pins s σ H Dn I (k Dn σ H q)⟩
theorem pssImp {X : Cx} {e : List Stmt} {t t' : TS} (h : PSs X e t) (k : ∀ Dn σ H, t' Dn σ H → t Dn σ H) : PSs X e t' := ⟨fun pins s σ H Dn I q => h.run pins s σ H Dn I (k Dn σ H q)⟩
section
variable {K : PySem.W.Frag} {m m' : Map} {H H' : Hp} {vh : VH} {env : Env} {σ : L2.St} {W : WX} {k : KS} {Dn : Ends}
theorem OutN.step {kn : KN} {R : L2.St → Hp → Prop} (s : Step m H m' H') (o : OutN K m H kn R) : OutN K m' H' kn R := fun m2 vh2 H2 env σ s2 => o m2 vh2 H2 env σ (s.trans s2)
theorem OutE.step {kx : Exc → Env → VH → Prop} (s : Step m H m' H') (o : OutE K m H kx W) : OutE K m' H' kx W := fun m2 vh2 H2 env σ ex cls dd s2 => o m2 vh2 H2 env σ ex cls dd (s.trans s2)
theorem OutS.step (s : Step m H m' H') (o : OutS K m H k W Dn) : OutS K m' H' k W Dn := ⟨o.nx.step s, o.rt.step s, o.bk.step s, o.ct.step s, o.ex.step s⟩
/-- the exceptions of an expression -/
theorem OutS.x (o : OutS K m H k W Dn) (hr : Hr K m H vh) (er : Er K m H env σ) : OutX K m H W σ fun e h => k.ex e env h := fun m2 vh2 H2 ex cls dd s hr2 rx kx => o.ex m2 vh2 H2 env σ ex cls dd s hr2 (er.step hr s) rx kx
theorem tS.go {sem : SemS} {k' : KS} {Dn' : Ends} (hr : Hr K m H vh) (er : Er K m H env σ) (hs : sem env vh k') (o : OutS K m H k' W Dn') : tS K W sem Dn' σ H := ⟨m, env, vh, k', hr, er, hs, o⟩
/-- an expression within a statement -/
theorem tE.goS {sem : SemE} {kd : KD} {Q : VK} (hr : Hr K m H vh) (er : Er K m H env σ) (o : OutS K m H k W Dn) (hs : sem env vh (fun e h => k.ex e env h) kd)
    (hq : ∀ m' vh' H' d v, Step m H m' H' → Hr K m' H' vh' → Er K m' H' env σ → OutS K m' H' k W Dn → Rep K m' H' d v → kd d vh' → Q v H') : tE K W sem σ H Q :=
  tE.go hr er (o.x hr er) hs fun m' vh' H' d v s hr' er' _ r kk => hq m' vh' H' d v s hr' er' (o.step s) r kk
theorem tT.goS {sem : SemT} {kb : KB} {Q : Bool → Hp → Prop} (hr : Hr K m H vh) (er : Er K m H env σ) (o : OutS K m H k W Dn) (hs : sem env vh (fun e h => k.ex e env h) kb)
    (hq : ∀ m' vh' H' b, Step m H m' H' → Hr K m' H' vh' → Er K m' H' env σ → OutS K m' H' k W Dn → kb b vh' → Q b H') : tT K W sem σ H Q :=
  tT.go hr er (o.x hr er) hs fun m' vh' H' b s hr' er' _ kk => hq m' vh' H' b s hr' er' (o.step s) kk
end

/-! ### blocks, small statements -/
def sSeq (s t : SemS) : SemS := fun env vh k => s env vh { k with nx := fun env' vh' => t env' vh' k }
def sSkip : SemS := fun env vh k => k.nx env vh
def sDrop (s : SemE) : SemS := fun env vh k => s env vh (fun e h => k.ex e env h) fun _ vh' => k.nx env vh'
def sRet (s : SemE) : SemS := fun env vh k => s env vh (fun e h => k.ex e env h) k.rt
def sRetN : SemS := fun _ vh k => k.rt .non vh
def sBrk : SemS := fun env vh k => k.bk env vh
def sCnt : SemS := fun env vh k => k.ct env vh
def sIf (c : SemT) (s t : SemS) : SemS := fun env vh k => c env vh (fun e h => k.ex e env h) fun b vh' => match b with
  | true => s env vh' k
  | false => t env vh' k
def sSet (i : Nat) (s : SemE) : SemS := fun env vh k => s env vh (fun e h => k.ex e env h) fun d vh' => k.nx (env.set i (some d)) vh'
section
variable {X : Cx} {W : WX} {pos : Pos} {st : Stmt} {rest : List Stmt} {sa sb : SemS} {e : Expr} {se : SemE}
theorem ss_nil : SSs X W sSkip [] := pssImp pss_nil fun Dn σ H ⟨m, env, vh, k, hr, er, hs, o⟩ => o.nx m vh H env σ (Step.refl _ _) hr er hs
theorem ss_cons (h1 : SS X W sa st) (h2 : SSs X W sb rest) : SSs X W (sSeq sa sb) (st :: rest) :=
  pssImp (pss_cons h1 h2) fun Dn σ H ⟨m, env, vh, k, hr, er, hs, o⟩ =>
    ⟨m, env, vh, _, hr, er, hs, ⟨fun m' vh' H' env' σ' s hr' er' kk => ⟨m', env', vh', k, hr', er', kk, o.step s⟩, o.rt, o.bk, o.ct, o.ex⟩⟩
theorem ss_one (h1 : SS X W sa st) : SSs X W sa [st] := pss_one h1
theorem ss_pass : SS X W sSkip (.Pass pos) := psImp ps_pass fun Dn σ H ⟨m, env, vh, k, hr, er, hs, o⟩ => o.nx m vh H env σ (Step.refl _ _) hr er hs
theorem ss_brk : SS X W sBrk (.Break pos) := psImp ps_break fun Dn σ H ⟨m, env, vh, k, hr, er, hs, o⟩ => o.bk m vh H env σ (Step.refl _ _) hr er hs
theorem ss_cnt : SS X W sCnt (.Continue pos) := psImp ps_continue fun Dn σ H ⟨m, env, vh, k, hr, er, hs, o⟩ => o.ct m vh H env σ (Step.refl _ _) hr er hs
theorem ss_expr (he : SE X W se e) (hs : swapsWith e none pos.line X.env = pure false := by rfl) : SS X W (sDrop se) (.Expr e pos) :=
  psImp (ps_expr he hs) fun Dn σ H ⟨m, env, vh, k, hr, er, hs, o⟩ => tE.goS hr er o hs fun m' vh' H' d v s hr' er' o' r kk => o'.nx m' vh' H' env σ (Step.refl _ _) hr' er' kk
theorem ss_ret (he : SE X W se e) : SS X W (sRet se) (.Return (some e) pos) :=
  psImp (ps_ret he) fun Dn σ H ⟨m, env, vh, k, hr, er, hs, o⟩ => tE.goS hr er o hs fun m' vh' H' d v s hr' er' o' r kk => o'.rt m' vh' H' d v (Step.refl _ _) hr' r kk
theorem ss_retN : SS X W sRetN (.Return none pos) := psImp ps_retN fun Dn σ H ⟨m, env, vh, k, hr, er, hs, o⟩ => o.rt m vh H .non .non (Step.refl _ _) hr rfl hs
theorem ss_if {c : Expr} {tc : SemT} {la lb : List Stmt} (hc : ST X W tc c) (ha : SSs X W sa la) (hb : SSs X W sb lb) : SS X W (sIf tc sa sb) (.If c la lb pos) :=
  psImp (ps_if hc ha hb) fun Dn σ H ⟨m, env, vh, k, hr, er, hs, o⟩ => tT.goS hr er o hs fun m' vh' H' b s hr' er' o' kk => by
    cases b with
    | true => exact iteT ⟨m', env, vh', k, hr', er', kk, o'⟩
    | false => exact iteF ⟨m', env, vh', k, hr', er', kk, o'⟩
theorem ss_set {i : Nat} {x : Str} {pos' : Pos} (hN : X.N.Nodup) (hi : X.N[i]? = some x) (hx : Loc X.env.scope x) (he : SE X W se e) (hs : swapsWith e (some (.Name x pos')) pos.line X.env = pure false := by rfl) (hf : X.fn x = true ∨ X.env.scope.names.lookup x = some .local := by first | exact .inl rfl | exact .inr rfl | assumption) :
    SS X W (sSet i se) (.Assign [.Name x pos'] e pos) :=
  psImp (ps_set hN hi hx he hs hf) fun Dn σ H ⟨m, env, vh, k, hr, er, hs, o⟩ => tE.goS hr er o hs fun m' vh' H' d v s hr' er' o' r kk => o'.nx m' vh' H' _ _ (Step.refl _ _) hr' (er'.set r) kk
end

/-! ### targets -/
theorem wipe_set {i : Nat} {x : Option V} : ∀ {vs : List Nat} {σ : L2.St}, i ∈ vs → wipe (σ.set i x) vs = wipe σ vs
  | [], _, h => by cases h
  | v :: vs, σ, h => by
    unfold wipe
    by_cases hi : i ∈ vs
    · rw [wipe_set hi]
    · have e : i = v := by
        rcases List.mem_cons.mp h with e | e
        · exact e
        · exact absurd e hi
      subst e
      have key : ∀ (ws : List Nat) (τ : L2.St), i ∉ ws → wipe (τ.set i x) ws = (wipe τ ws).set i x := by
        intro ws
        induction ws with
        | nil => intro τ _; rfl
        | cons w ws ih =>
          intro τ hn
          have h1 : i ≠ w := fun z => hn (by rw [z]; exact List.mem_cons_self)
          have h2 : i ∉ ws := fun z => hn (List.mem_cons_of_mem _ z)
          show (wipe (τ.set i x) ws).set w none = ((wipe τ ws).set w none).set i x
          rw [ih τ h2, List.set_comm _ _ h1]
      rw [key vs σ hi, List.set_set]
abbrev SemG := D → Env → VH → KN → Prop
/-- behind a target: only the slots vs have changed -/
def OutG (K : PySem.W.Frag) (m : Map) (H : Hp) (vs : List Nat) (σ : L2.St) (kn : KN) (R : L2.St → Hp → Prop) : Prop := ∀ m' vh' H' env σ', Step m H m' H' → Hr K m' H' vh' → Er K m' H' env σ' → wipe σ' vs = wipe σ vs → kn env vh' → R σ' H'
theorem OutN.g {K : PySem.W.Frag} {m : Map} {H : Hp} {vs : List Nat} {σ : L2.St} {kn : KN} {R : L2.St → Hp → Prop} (o : OutN K m H kn R) : OutG K m H vs σ kn R := fun m' vh' H' env σ' s hr er _ k => o m' vh' H' env σ' s hr er k
def tG (K : PySem.W.Frag) (vs : List Nat) (sg : SemG) : TG := fun v σ H Q => ∃ m d env vh kn, Hr K m H vh ∧ Er K m H env σ ∧ Rep K m H d v ∧ sg d env vh kn ∧ OutG K m H vs σ kn Q
def SG (X : Cx) (vs : List Nat) (sg : SemG) (tg : Expr) : Prop := PG X tg (tG X.K vs sg)
abbrev SemGs := List D → Env → VH → KN → Prop
def tGs (K : PySem.W.Frag) (ws : List Nat) (sg : SemGs) : TGs := fun vs σ H Q => ∃ m ds env vh kn, Hr K m H vh ∧ Er K m H env σ ∧ Reps K m H ds vs ∧ sg ds env vh kn ∧ OutG K m H ws σ kn Q
def SGs (X : Cx) (ws : List Nat) (sg : SemGs) (tgs : List Expr) : Prop := PGs X tgs (tGs X.K ws sg)
theorem pgImp {X : Cx} {e : Expr} {t t' : TG} (h : PG X e t) (k : ∀ v σ H Q, t' v σ H Q → t v σ H Q) : PG X e t' := ⟨fun pins s σ H v u Q I r q => h.run pins s σ H v u Q I r (k v σ H Q q)⟩
theorem pgsImp {X : Cx} {e : List Expr} {t t' : TGs} (h : PGs X e t) (k : ∀ v σ H Q, t' v σ H Q → t v σ H Q) : PGs X e t' := ⟨fun pins s σ H v u Q I r q => h.run pins s σ H v u Q I r (k v σ H Q q)⟩
def gN (i : Nat) : SemG := fun d env vh kn => kn (env.set i (some d)) vh
def gsNil : SemGs := fun ds env vh kn => ds = [] ∧ kn env vh
def gsCons (g : SemG) (gs : SemGs) : SemGs := fun ds env vh kn => match ds with
  | [] => False
  | d :: r => g d env vh fun env' vh' => gs r env' vh' kn
def gT (n : Nat) (gs : SemGs) : SemG := fun d env vh kn => match d with
  | .tup ds => ds.length = n ∧ gs ds env vh kn
  | _ => False
section
variable {X : Cx} {W : WX} {pos : Pos} {e : Expr} {es : List Expr} {g : SemG} {gs : SemGs} {se : SemE} {ws : List Nat}
theorem sg_name {i : Nat} {x : Str} (hN : X.N.Nodup) (hi : X.N[i]? = some x) (hx : Loc X.env.scope x) (hw : i ∈ ws := by decide) (hf : X.fn x = true ∨ X.env.scope.names.lookup x = some .local := by first | exact .inl rfl | exact .inr rfl | assumption) : SG X ws (gN i) (.Name x pos) :=
  pgImp (pg_name hN hi hx hf) fun v σ H Q ⟨m, d, env, vh, kn, hr, er, r, hs, o⟩ => o m vh H _ _ (Step.refl _ _) hr (er.set r) (wipe_set hw) hs
theorem sgs_nil : SGs X ws gsNil [] := pgsImp pgs_nil fun vs σ H Q ⟨m, ds, env, vh, kn, hr, er, r, hs, o⟩ => by
  obtain ⟨rfl, kk⟩ := hs
  exact ⟨by simpa only [Reps] using r, o m vh H _ _ (Step.refl _ _) hr er rfl kk⟩
theorem sgs_cons (h1 : SG X ws g e) (h2 : SGs X ws gs es) (hs : (assignEach (e :: es) X.env).map (·.2) = assign e X.env :: (assignEach es X.env).map (·.2) := by rfl) : SGs X ws (gsCons g gs) (e :: es) :=
  pgsImp (pgs_cons h1 h2 hs) fun vs σ H Q ⟨m, ds, env, vh, kn, hr, er, r, hs, o⟩ => by
    cases ds with
    | nil => exact hs.elim
    | cons d ds =>
      simp only [Reps] at r
      obtain ⟨v, r', rfl, r1, r2⟩ := r
      exact ⟨v, r', rfl, m, d, env, vh, _, hr, er, r1, hs, fun m' vh' H' env' σ' s hr' er' hw kk => ⟨m', ds, env', vh', kn, hr', er', Reps.step hr s _ _ r2, kk, fun m2 vh2 H2 env2 σ2 s2 hr2 er2 hw2 k2 => o m2 vh2 H2 env2 σ2 (s.trans s2) hr2 er2 (hw2.trans hw) k2⟩⟩
theorem sg_tup {k : Nat} {n : Nat} (hc : X.calm = true) (h : SGs X ws gs es) (hn : (assignEach es X.env).length = n := by rfl) (hst : (assignEach es X.env).findIdx? (·.1) = none := by rfl) : SG X ws (gT n gs) (.Tuple es k pos) :=
  pgImp (pg_tup hc h hn hst) fun v σ H Q ⟨m, d, env, vh, kn, hr, er, r, hs, o⟩ => by
    cases d with
    | tup ds =>
      simp only [Rep] at r
      obtain ⟨a, xs, e1, e2, r⟩ := r
      exact ⟨a, xs, e1, e2, by rw [← r.len]; exact hs.1, m, ds, env, vh, kn, hr, er, r, hs.2, o⟩
    | _ => exact hs.elim
def sAsg (s : SemE) (g : SemG) : SemS := fun env vh k => s env vh (fun e h => k.ex e env h) fun d vh' => g d env vh' k.nx
theorem ss_asg {tg : Expr} (he : SE X W se e) (hg : SG X ws g tg) (hs : swapsWithSole [tg] e pos.line X.env = pure false := by rfl) (hw : swappedStores [tg] e X.env = pure none := by rfl)
    (h1 : (assignEach [tg] X.env).map (·.2) = [assign tg X.env] := by rfl) : SS X W (sAsg se g) (.Assign [tg] e pos) :=
  psImp (ps_asg he hg hs hw h1) fun Dn σ H ⟨m, env, vh, k, hr, er, hs, o⟩ => tE.goS hr er o hs fun m' vh' H' d v s hr' er' o' r kk =>
    ⟨m', d, env, vh', k.nx, hr', er', r, kk, o'.nx.g⟩
end

/-! ### what is walked -/
/-- the items, and when the source still stands -/
structure Src where
  items : List D
  still : VH → Prop
/-- the iterator J yields the items -/
def SrcRep (K : PySem.W.Frag) (m : Map) (H : Hp) (src : Src) (J : It) : Prop := ∀ m' vh' H', Step m H m' H' → Hr K m' H' vh' → src.still vh' →
  (∀ i d, src.items[i]? = some d → J.go i H' ∧ ∀ x H2, J.yld i H' x H2 → Same H' H2 ∧ Rep K m' H2 d x) ∧ ∀ i, src.items.length ≤ i → J.stop i H'
theorem SrcRep.step {K : PySem.W.Frag} {m m' : Map} {H H' : Hp} {src : Src} {J : It} (s : Step m H m' H') (r : SrcRep K m H src J) : SrcRep K m' H' src J := fun m2 vh2 H2 s2 => r m2 vh2 H2 (s.trans s2)
abbrev SemI := Env → VH → KX → (Src → VH → Prop) → Prop
def OutI (K : PySem.W.Frag) (m : Map) (H : Hp) (ki : Src → VH → Prop) (R : It → Hp → Prop) : Prop := ∀ m' vh' H' src J, Step m H m' H' → Hr K m' H' vh' → SrcRep K m' H' src J → ki src vh' → R J H'
def tI (K : PySem.W.Frag) (W : WX) (sem : SemI) : TI := fun σ H R => ∃ m env vh kx ki, Hr K m H vh ∧ Er K m H env σ ∧ sem env vh kx ki ∧ OutI K m H ki R ∧ OutX K m H W σ kx
def SI (X : Cx) (W : WX) (sem : SemI) (tg it : Expr) : Prop := PI X tg it (tI X.K W sem)
theorem piImp {X : Cx} {tg it : Expr} {t t' : TI} (h : PI X tg it t) (k : ∀ σ H R, t' σ H R → t σ H R) : PI X tg it t' := ⟨fun pins s σ H R I q => h.run pins s σ H R I (k σ H R q)⟩
/-- the turns -/
def forL (g : SemG) (body : SemS) (still : VH → Prop) : List D → Env → VH → KS → Prop
  | [], env, vh, k => still vh ∧ k.nx env vh
  | d :: ds, env, vh, k => still vh ∧ g d env vh fun env' vh' => body env' vh' { k with nx := fun e h => forL g body still ds e h k, ct := fun e h => forL g body still ds e h k, bk := k.nx }
def sFor (si : SemI) (g : SemG) (body : SemS) : SemS := fun env vh k => si env vh (fun e h => k.ex e env h) fun src vh' => forL g body src.still src.items env vh' k
section
variable {X : Cx} {W : WX} {pos : Pos} {tg iter : Expr} {body : List Stmt} {si : SemI} {g : SemG} {sb : SemS} {ws : List Nat}
theorem for_of {K : PySem.W.Frag} {W : WX} {si : SemI} {g : SemG} {sb : SemS} {ws : List Nat} {m : Map} {H : Hp} {vh : VH} {env : Env} {σ : L2.St} {k : KS} {Dn : Ends} (hr : Hr K m H vh) (er : Er K m H env σ) (hs : sFor si g sb env vh k) (o : OutS K m H k W Dn) : tFor (tI K W si) (tG K ws g) (tS K W sb) Dn σ H := by
  refine ⟨m, env, vh, _, _, hr, er, hs, fun m' vh' H' src J s hr' sr kk => ?_, o.x hr er⟩
  have er' := er.step hr s
  have o' := o.step s
  refine ⟨fun i n σ2 H2 => n = src.items.length - i ∧ ∃ m2 env2 vh2, Step m' H' m2 H2 ∧ Hr K m2 H2 vh2 ∧ Er K m2 H2 env2 σ2 ∧ forL g sb src.still (src.items.drop i) env2 vh2 k, ⟨src.items.length, by simp, m', env, vh', Step.refl _ _, hr', er', by simpa using kk⟩, ?_⟩
  rintro i n σ2 H2 ⟨rfl, m2, env2, vh2, s2, hr2, er2, kk2⟩
  cases e : src.items[i]? with
  | none =>
    have hl : src.items.length ≤ i := List.getElem?_eq_none_iff.mp e
    rw [List.drop_eq_nil_of_le hl] at kk2
    obtain ⟨q1, q2⟩ := kk2
    exact .inl ⟨(sr m2 vh2 H2 s2 hr2 q1).2 i hl, o'.nx m2 vh2 H2 env2 σ2 s2 hr2 er2 q2⟩
  | some d =>
    obtain ⟨hl, hd⟩ := List.getElem?_eq_some_iff.mp e
    rw [List.drop_eq_getElem_cons hl, hd] at kk2
    obtain ⟨q1, q2⟩ := kk2
    obtain ⟨g1, g2⟩ := (sr m2 vh2 H2 s2 hr2 q1).1 i d e
    refine .inr ⟨g1, fun σ3 H3 => ∃ m3 env3 vh3, Step m' H' m3 H3 ∧ Hr K m3 H3 vh3 ∧ Er K m3 H3 env3 σ3 ∧ forL g sb src.still (src.items.drop (i + 1)) env3 vh3 k, fun σ3 H3 q => ⟨src.items.length - (i + 1), by omega, rfl, q⟩, fun x H3 y => ?_⟩
    obtain ⟨sm, rx⟩ := g2 x H3 y
    have st3 := Step.same (m := m2) sm
    have hr3 := hr2.same sm
    have again : ∀ m4 vh4 H4 env4 σ4, Step m2 H3 m4 H4 → Hr K m4 H4 vh4 → Er K m4 H4 env4 σ4 → forL g sb src.still (src.items.drop (i + 1)) env4 vh4 k → ∃ m3 env3 vh3, Step m' H' m3 H4 ∧ Hr K m3 H4 vh3 ∧ Er K m3 H4 env3 σ4 ∧ forL g sb src.still (src.items.drop (i + 1)) env3 vh3 k :=
      fun m4 vh4 H4 env4 σ4 s4 hr4 er4 k4 => ⟨m4, env4, vh4, (s2.trans st3).trans s4, hr4, er4, k4⟩
    have o3 := (o'.step s2).step st3
    refine ⟨m2, d, env2, vh2, _, hr3, er2.step hr2 st3, rx, q2, fun m4 vh4 H4 env4 σ4 s4 hr4 er4 _ k4 => ?_⟩
    refine ⟨m4, env4, vh4, _, hr4, er4, k4, ⟨?_, (o3.step s4).rt, (o3.step s4).nx, ?_, (o3.step s4).ex⟩⟩
    · exact fun m5 vh5 H5 env5 σ5 s5 hr5 er5 k5 => again m5 vh5 H5 env5 σ5 (s4.trans s5) hr5 er5 k5
    · exact fun m5 vh5 H5 env5 σ5 s5 hr5 er5 k5 => again m5 vh5 H5 env5 σ5 (s4.trans s5) hr5 er5 k5
theorem ss_for (hp : PassesOwn (model X.prog X.w) X.A X.env X.xe) (hc : X.calm = true) (hi : SI X W si tg iter) (hg : SG X ws g tg) (hb : SSs X W sb body) (hs : ∀ x, foldedSetIterable iter X.env x = pure x := by intro _; rfl) : SS X W (sFor si g sb) (.For tg iter body [] pos) := psImp (ps_for hp hc hi hg hb hs) fun Dn σ H ⟨m, env, vh, k, hr, er, hs, o⟩ => for_of hr er hs o
/-- while: so many turns at most -/
def whileN (c : SemT) (body : SemS) : Nat → Env → VH → KS → Prop
  | 0, _, _, _ => False
  | n + 1, env, vh, k => c env vh (fun e h => k.ex e env h) fun b vh' => match b with
    | true => body env vh' { k with nx := fun e h => whileN c body n e h k, ct := fun e h => whileN c body n e h k, bk := k.nx }
    | false => k.nx env vh'
def sWhile (c : SemT) (body : SemS) : SemS := fun env vh k => ∃ n, whileN c body n env vh k
theorem ss_while {c : Expr} {tc : SemT} (hp : PassesOwn (model X.prog X.w) X.A X.env X.xe) (hc : ST X W tc c) (hb : SSs X W sb body) : SS X W (sWhile tc sb) (.While c body [] pos) := by
  refine psImp (ps_while hp hc hb) fun Dn σ H ⟨m, env, vh, k, hr, er, ⟨n, hs⟩, o⟩ => ?_
  refine ⟨fun n σ2 H2 => ∃ m2 env2 vh2, Step m H m2 H2 ∧ Hr X.K m2 H2 vh2 ∧ Er X.K m2 H2 env2 σ2 ∧ whileN tc sb n env2 vh2 k, ⟨n, m, env, vh, Step.refl _ _, hr, er, hs⟩, ?_⟩
  rintro n σ2 H2 ⟨m2, env2, vh2, s2, hr2, er2, kk2⟩
  cases n with
  | zero => exact kk2.elim
  | succ n =>
    refine tT.goS hr2 er2 (o.step s2) kk2 fun m3 vh3 H3 b s3 hr3 er3 o3 k3 => ?_
    cases b with
    | false => exact iteF (o3.nx m3 vh3 H3 env2 σ2 (Step.refl _ _) hr3 er3 k3)
    | true =>
      refine iteT ⟨fun σ4 H4 => ∃ m4 env4 vh4, Step m H m4 H4 ∧ Hr X.K m4 H4 vh4 ∧ Er X.K m4 H4 env4 σ4 ∧ whileN tc sb n env4 vh4 k, fun σ4 H4 q => ⟨n, by omega, q⟩, ?_⟩
      refine ⟨m3, env2, vh3, _, hr3, er3, k3, ⟨?_, o3.rt, o3.nx, ?_, o3.ex⟩⟩
      · exact fun m5 vh5 H5 env5 σ5 s5 hr5 er5 k5 => ⟨m5, env5, vh5, (s2.trans s3).trans s5, hr5, er5, k5⟩
      · exact fun m5 vh5 H5 env5 σ5 s5 hr5 er5 k5 => ⟨m5, env5, vh5, (s2.trans s3).trans s5, hr5, er5, k5⟩
end
end VI

end
section
/-! VI5: what is walked, comprehensions. -/
namespace VI
open PySem PySem.Spec L2
open PyProof.Rows hiding St

section
variable {X : Cx} {W : WX} {tg : Expr}
/-- a list or a tuple -/
def iSeq (K : PySem.W.Frag) (tl : TE) : TI := fun σ H R => tl σ H fun x H1 => ∃ a, x = .ref a ∧ (((∃ xs, SqL K H1 a xs) ∧ R (Itl K a) H1) ∨ ((∃ xs, SqT K H1 a xs) ∧ R (Itt K a) H1))
theorem pi_seq {l : Expr} {tl : TE} (hl : PE X l tl) : PI X tg l (iSeq X.K tl) := by
  refine ⟨fun pins s σ H R I h => ?_⟩
  refine thn (hl.run pins s σ H _ I h) fun v s1 ⟨x, H1, I1, r1, q1⟩ => ?_
  obtain ⟨a, e, q⟩ := q1
  subst e
  cases r1
  rcases q with ⟨⟨xs, hq⟩, q⟩ | ⟨⟨xs, hq⟩, q⟩
  · obtain ⟨its, rv, p, hz⟩ := I1.list hq
    refine wpAny_pyIter_list p.isList ?_
    refine ⟨s1.heap.objs.size, [s1.heap.objs.size], _, _, H1, rfl, I1.kept (t' := s1.toks) fun b o e => Heap.get?_push_of_some _ e, turn_list a _, ⟨_, Heap.get?_push_size _ rfl, rfl, rfl⟩, fun b hb => ?_, q⟩
    have e : b = s1.heap.objs.size := by simpa using hb
    subst e
    exact I1.fpOk (Nat.le_refl _) (I1.hok.fresh (Nat.le_refl _))
  · obtain ⟨its, rv, p, hz⟩ := I1.tuple hq
    refine wpAny_pyIter_tuple (show s1.heap.IsTuple a its.toArray from p) ?_
    refine ⟨s1.heap.objs.size, [s1.heap.objs.size], _, _, H1, rfl, I1.kept (t' := s1.toks) fun b o e => Heap.get?_push_of_some _ e, turn_tuple a _, ⟨_, Heap.get?_push_size _ rfl, rfl, rfl⟩, fun b hb => ?_, q⟩
    have e : b = s1.heap.objs.size := by simpa using hb
    subst e
    exact I1.fpOk (Nat.le_refl _) (I1.hok.fresh (Nat.le_refl _))
@[reducible] def always : VH → Prop := fun _ => True
@[reducible] def stays (p : Nat) (ds : List D) : VH → Prop := fun vh => vh[p]? = some (.lst ds)
def oIter : D → VH → (Src → VH → Prop) → Prop := fun d vh ki => match d with
  | .tup ds => ki ⟨ds, always⟩ vh
  | .lst ds => ki ⟨ds, always⟩ vh
  | .ref p => match vh[p]? with
    | some (.lst ds) => ki ⟨ds, stays p ds⟩ vh
    | _ => False
  | .scr ns => ki ⟨ns.map D.int, always⟩ vh
  | _ => False
def sIt (s : SemE) : SemI := fun env vh kx ki => s env vh kx fun d vh' => oIter d vh' ki
section
variable {K : PySem.W.Frag} {m : Map} {H : Hp} {vh : VH}
theorem src_tup {still : VH → Prop} {a : Addr} {ds : List D} (h : ∀ m' vh' H', Step m H m' H' → Hr K m' H' vh' → still vh' → ∃ xs, SqT K H' a xs ∧ Reps K m' H' ds xs) : SrcRep K m H ⟨ds, still⟩ (Itt K a) := by
  intro m' vh' H' s hr' st
  obtain ⟨xs, hq, r⟩ := h m' vh' H' s hr' st
  refine ⟨fun i d e => ?_, fun i hi => ⟨xs, hq, by rw [← r.len]; exact hi⟩⟩
  obtain ⟨v, e2, rv⟩ := r.get e
  exact ⟨⟨xs, v, hq, e2⟩, fun x H2 ⟨e1, y⟩ => by
    subst e1
    have := y xs hq
    rw [e2] at this; cases this
    exact ⟨Same.refl _, rv⟩⟩
theorem src_lst {still : VH → Prop} {a : Addr} {ds : List D} (h : ∀ m' vh' H', Step m H m' H' → Hr K m' H' vh' → still vh' → ∃ xs, SqL K H' a xs ∧ Reps K m' H' ds xs) : SrcRep K m H ⟨ds, still⟩ (Itl K a) := by
  intro m' vh' H' s hr' st
  obtain ⟨xs, hq, r⟩ := h m' vh' H' s hr' st
  refine ⟨fun i d e => ?_, fun i hi => ⟨xs, hq, by rw [← r.len]; exact hi⟩⟩
  obtain ⟨v, e2, rv⟩ := r.get e
  exact ⟨⟨xs, v, hq, e2⟩, fun x H2 ⟨e1, y⟩ => by
    subst e1
    have := y xs hq
    rw [e2] at this; cases this
    exact ⟨Same.refl _, rv⟩⟩
end
theorem si_seq {e : Expr} {se : SemE} (he : SE X W se e) : SI X W (sIt se) tg e := by
  refine piImp (pi_seq he) fun σ H R ⟨m, env, vh, kx, ki, hr, er, hs, o, ox⟩ => ?_
  refine tE.go hr er ox hs fun m1 vh1 H1 d v s1 hr1 er1 ox1 r1 k1 => ?_
  have o1 : OutI X.K m1 H1 ki R := fun m2 vh2 H2 src J s2 => o m2 vh2 H2 src J (s1.trans s2)
  cases d with
  | tup ds =>
    simp only [Rep] at r1
    obtain ⟨a, xs, rfl, e2, rs⟩ := r1
    exact ⟨a, rfl, .inr ⟨⟨xs, e2⟩, o1 m1 vh1 H1 _ _ (Step.refl _ _) hr1 (src_tup fun m' vh' H' s _ _ => ⟨xs, SqT.step hr1 s e2, Reps.step hr1 s _ _ rs⟩) k1⟩⟩
  | lst ds =>
    simp only [Rep] at r1
    obtain ⟨a, xs, rfl, e2, im, rs⟩ := r1
    exact ⟨a, rfl, .inl ⟨⟨xs, .of e2⟩, o1 m1 vh1 H1 _ _ (Step.refl _ _) hr1 (src_lst fun m' vh' H' s _ _ => ⟨xs, .of (Imm.step s e2 im).1, Reps.step hr1 s _ _ rs⟩) k1⟩⟩
  | ref p =>
    have r1' := r1
    simp only [Rep] at r1
    obtain ⟨a, rfl, e2⟩ := r1
    simp only [oIter] at k1
    cases q : vh1[p]? with
    | none => rw [q] at k1; exact k1.elim
    | some c =>
      rw [q] at k1
      cases c with
      | ins _ _ _ => exact k1.elim
      | lst ds =>
        obtain ⟨xs, e3, rs⟩ := hr1.ats p _ a q e2
        refine ⟨a, rfl, .inl ⟨⟨xs, .of e3⟩, o1 m1 vh1 H1 _ _ (Step.refl _ _) hr1 (src_lst fun m' vh' H' s hr' st => ?_) k1⟩⟩
        obtain ⟨xs', e4, rs'⟩ := hr'.ats p _ a st (s.2.1 p a e2)
        exact ⟨xs', .of e4, rs'⟩
  | scr ns =>
    have rr := r1
    simp only [Rep] at r1
    obtain ⟨a, rfl, e2⟩ := r1
    have key : ∀ m' H', Step m1 H1 m' H' → SqL X.K H' a (ns.map V.int) := fun m' H' s => by
      have := Rep.step hr1 s (.scr ns) _ rr
      simp only [Rep] at this
      obtain ⟨b, eb, q⟩ := this
      cases eb
      rcases q with ⟨o, q⟩ | q
      · exact .inl (.inr ⟨o, q⟩)
      · rcases q with q | q
        · rcases q with q | ⟨o, q⟩ <;> cases q
        · exact .inr q
    exact ⟨a, rfl, .inl ⟨⟨_, key m1 H1 (Step.refl _ _)⟩, o1 m1 vh1 H1 _ _ (Step.refl _ _) hr1 (src_lst fun m' vh' H' s _ _ => ⟨_, key m' H' s, Reps.ints.mpr rfl⟩) k1⟩⟩
  | _ => exact k1.elim

/-! ### ranges -/
def rngL : Int → Nat → List D
  | _, 0 => []
  | lo, n + 1 => .int lo :: rngL (lo + 1) n
theorem rngL_len : ∀ (n : Nat) (lo : Int), (rngL lo n).length = n
  | 0, _ => rfl
  | n + 1, lo => by show (rngL (lo + 1) n).length + 1 = n + 1; rw [rngL_len n]
theorem rngL_get : ∀ (n : Nat) (lo : Int) (i : Nat), i < n → (rngL lo n)[i]? = some (.int (lo + i))
  | 0, _, i, h => by omega
  | n + 1, lo, 0, _ => by simp [rngL]
  | n + 1, lo, i + 1, h => by
    show (rngL (lo + 1) n)[i]? = _
    rw [rngL_get n (lo + 1) i (by omega)]
    congr 2
    rw [Int.natCast_add]
    omega
theorem src_rng {K : PySem.W.Frag} {m : Map} {H : Hp} (lo : Int) (n : Nat) : SrcRep K m H ⟨rngL lo n, always⟩ (Itr lo n) := by
  intro m' vh' H' s hr' st
  refine ⟨fun i d e => ?_, fun i hi => by rw [rngL_len] at hi; exact hi⟩
  have hl := (List.getElem?_eq_some_iff.mp e).1
  rw [rngL_len] at hl
  rw [rngL_get n lo i hl] at e
  cases e
  exact ⟨hl, fun x H2 ⟨e1, e2⟩ => by subst e1; subst e2; exact ⟨Same.refl _, rfl⟩⟩
def oRng1 : List D → VH → (Src → VH → Prop) → Prop := fun ds vh ki => match ds with
  | [.int j] => -(2 ^ 62) ≤ j ∧ j < 2 ^ 62 ∧ ki ⟨rngL 0 j.toNat, always⟩ vh
  | _ => False
def oRng2 : List D → VH → (Src → VH → Prop) → Prop := fun ds vh ki => match ds with
  | [.int i, .int j] => (-(2 ^ 62) ≤ i ∧ i < 2 ^ 62 ∧ -(2 ^ 62) ≤ j ∧ j < 2 ^ 62) ∧ ki ⟨rngL i (j - i).toNat, always⟩ vh
  | _ => False
def sItA (o : List D → VH → (Src → VH → Prop) → Prop) (t : SemA) : SemI := fun env vh kx ki => t env vh kx fun ds vh' => o ds vh' ki
theorem oRng1_inv {ds : List D} {vh : VH} {ki : Src → VH → Prop} (k : oRng1 ds vh ki) : ∃ j : Int, ds = [j].map D.int ∧ -(2 ^ 62) ≤ j ∧ j < 2 ^ 62 ∧ ki ⟨rngL 0 j.toNat, always⟩ vh := by
  cases ds with
  | nil => exact False.elim k
  | cons d r =>
    cases r with
    | nil =>
      cases d with
      | int j => exact ⟨j, rfl, k⟩
      | _ => exact False.elim k
    | cons _ _ => cases d <;> exact False.elim k
theorem oRng2_inv {ds : List D} {vh : VH} {ki : Src → VH → Prop} (k : oRng2 ds vh ki) : ∃ i j : Int, ds = [i, j].map D.int ∧ (-(2 ^ 62) ≤ i ∧ i < 2 ^ 62 ∧ -(2 ^ 62) ≤ j ∧ j < 2 ^ 62) ∧ ki ⟨rngL i (j - i).toNat, always⟩ vh := by
  cases ds with
  | nil => exact False.elim k
  | cons d r =>
    cases r with
    | nil => cases d <;> exact False.elim k
    | cons e r =>
      cases r with
      | nil =>
        cases d with
        | int i =>
          cases e with
          | int j => exact ⟨i, j, rfl, k⟩
          | _ => exact False.elim k
        | _ => cases e <;> exact False.elim k
      | cons _ _ => cases d <;> cases e <;> exact False.elim k
variable {a b : Expr} {sl : SemA} {p pos : Pos}
theorem si_range1 (hg : Gl X "range") (hm : X.mg "range" = none) (ha : SA X W sl [a]) (hs : starEach [a] X.env = [(false, eval a X.env)] := by rfl) : SI X W (sItA oRng1 sl) tg (.Call (.Name "range" p) [a] [] pos) := by
  refine piImp (pi_range1 hg hm ha hs) fun σ H R ⟨m, env, vh, kx, ki, hr, er, hs, o, ox⟩ => ?_
  refine tA.go hr er ox hs fun m1 vh1 H1 ds vs s1 hr1 er1 ox1 r1 k1 => ?_
  obtain ⟨j, rfl, h1, h2, k2⟩ := oRng1_inv k1
  exact ⟨j, Reps.ints.mp r1, h1, h2, o m1 vh1 H1 _ _ s1 hr1 (src_rng 0 j.toNat) k2⟩
theorem si_range2 (hg : Gl X "range") (hm : X.mg "range" = none) (ha : SA X W sl [a, b]) (hs : starEach [a, b] X.env = [(false, eval a X.env), (false, eval b X.env)] := by rfl) (hs2 : starEach [b] X.env = [(false, eval b X.env)] := by rfl) : SI X W (sItA oRng2 sl) tg (.Call (.Name "range" p) [a, b] [] pos) := by
  refine piImp (pi_range2 hg hm ha hs hs2) fun σ H R ⟨m, env, vh, kx, ki, hr, er, hs, o, ox⟩ => ?_
  refine tA.go hr er ox hs fun m1 vh1 H1 ds vs s1 hr1 er1 ox1 r1 k1 => ?_
  obtain ⟨i, j, rfl, h1, k2⟩ := oRng2_inv k1
  exact ⟨i, j, Reps.ints.mp r1, h1, o m1 vh1 H1 _ _ s1 hr1 (src_rng i (j - i).toNat) k2⟩
end
end VI

end
section
/-! VI6: comprehensions. -/
namespace VI
open PySem PySem.Spec L2
open PyProof.Rows hiding St

section
variable {K : PySem.W.Frag} {m m' m2 : Map} {H : Hp} {vh vh' : VH}
mutual
theorem Rep.map (hA : ∀ p a, m.ats p = some a → m2.ats p = some a) (hI : ∀ b, m.Imm b → m2.Imm b) : ∀ (d : D) (v : V), Rep K m H d v → Rep K m2 H d v
  | .non, _, r => r
  | .bl _, _, r => r
  | .int _, _, r => r
  | .str _, _, r => r
  | .tup ds, v, r => by
    simp only [Rep] at r ⊢
    obtain ⟨b, xs, e, q, r⟩ := r
    exact ⟨b, xs, e, q, Reps.map hA hI ds xs r⟩
  | .lst ds, v, r => by
    simp only [Rep] at r ⊢
    obtain ⟨b, xs, e, q, im, r⟩ := r
    exact ⟨b, xs, e, q, hI b im, Reps.map hA hI ds xs r⟩
  | .obj c ns ds, v, r => by
    simp only [Rep] at r ⊢
    obtain ⟨b, dx, fs, e, q, im, en, r⟩ := r
    exact ⟨b, dx, fs, e, q, hI b im, en, Reps.map hA hI ds _ r⟩
  | .ref p, v, r => by
    simp only [Rep] at r ⊢
    obtain ⟨a, e, q⟩ := r
    exact ⟨a, e, hA p a q⟩
  | .scr ns, v, r => by
    simp only [Rep] at r ⊢
    exact r
  | .exn b dd c ns ds, v, r => by
    simp only [Rep] at r ⊢
    obtain ⟨e, fs, q, im, en, r⟩ := r
    exact ⟨e, fs, q, hI dd im, en, Reps.map hA hI ds _ r⟩
theorem Reps.map (hA : ∀ p a, m.ats p = some a → m2.ats p = some a) (hI : ∀ b, m.Imm b → m2.Imm b) : ∀ (ds : List D) (xs : List V), Reps K m H ds xs → Reps K m2 H ds xs
  | [], _, r => r
  | d :: ds, xs, r => by
    simp only [Reps] at r ⊢
    obtain ⟨v, vs, e, r1, r2⟩ := r
    exact ⟨v, vs, e, Rep.map hA hI d v r1, Reps.map hA hI ds vs r2⟩
end
mutual
theorem Rep.lowTo {n : Nat} (hA : ∀ p a, p < n → m.ats p = some a → m2.ats p = some a) (hI : ∀ b, m.Imm b → m2.Imm b) : ∀ (d : D) (v : V), low n d → Rep K m H d v → Rep K m2 H d v
  | .non, _, _, r => r
  | .bl _, _, _, r => r
  | .int _, _, _, r => r
  | .str _, _, _, r => r
  | .tup ds, v, l, r => by
    simp only [Rep, low] at l r ⊢
    obtain ⟨b, xs, e, q, r⟩ := r
    exact ⟨b, xs, e, q, Reps.lowTo hA hI ds xs l r⟩
  | .lst ds, v, l, r => by
    simp only [Rep, low] at l r ⊢
    obtain ⟨b, xs, e, q, im, r⟩ := r
    exact ⟨b, xs, e, q, hI b im, Reps.lowTo hA hI ds xs l r⟩
  | .obj c ns ds, v, l, r => by
    simp only [Rep, low] at l r ⊢
    obtain ⟨b, dx, fs, e, q, im, en, r⟩ := r
    exact ⟨b, dx, fs, e, q, hI b im, en, Reps.lowTo hA hI ds _ l r⟩
  | .ref p, v, l, r => by
    simp only [Rep, low] at l r ⊢
    obtain ⟨a, e, q⟩ := r
    exact ⟨a, e, hA p a l q⟩
  | .scr ns, v, _, r => by
    simp only [Rep] at r ⊢
    exact r
  | .exn b dd c ns ds, v, l, r => by
    simp only [Rep, low] at l r ⊢
    obtain ⟨e, fs, q, im, en, r⟩ := r
    exact ⟨e, fs, q, hI dd im, en, Reps.lowTo hA hI ds _ l r⟩
theorem Reps.lowTo {n : Nat} (hA : ∀ p a, p < n → m.ats p = some a → m2.ats p = some a) (hI : ∀ b, m.Imm b → m2.Imm b) : ∀ (ds : List D) (xs : List V), lows n ds → Reps K m H ds xs → Reps K m2 H ds xs
  | [], _, _, r => r
  | d :: ds, xs, l, r => by
    simp only [Reps, lows] at l r ⊢
    obtain ⟨v, vs, e, r1, r2⟩ := r
    exact ⟨v, vs, e, Rep.lowTo hA hI d v l.1 r1, Reps.lowTo hA hI ds vs l.2 r2⟩
end
/-- a hidden list is a cell from here on -/
theorem Hr.adopt {z : Addr → Prop} {a : Addr} {ds : List D} {vs : List V} (h : Hr K m H vh) (hz : m.hid a) (hzz : ∀ b, z b → m.hid b ∧ b ≠ a) (ha : H a = some (.lst vs)) (r : Reps K m H ds vs) :
    Hr K ((m.bare z).push vh.length a) H (vh ++ [.lst ds]) ∧ (∀ p b, m.ats p = some b → ((m.bare z).push vh.length a).ats p = some b) ∧ (∀ b, m.Imm b → ((m.bare z).push vh.length a).Imm b) := by
  have old : ∀ p, p ≠ vh.length → ((m.bare z).push vh.length a).ats p = m.ats p := fun p hp => if_neg hp
  have new : ((m.bare z).push vh.length a).ats vh.length = some a := if_pos rfl
  have notin := h.hid_ne hz
  have hA : ∀ p b, m.ats p = some b → ((m.bare z).push vh.length a).ats p = some b := fun p b e => by
    have lt := (h.dom p).mp ⟨b, e⟩
    rw [old p (by omega)]; exact e
  have hI : ∀ b, m.Imm b → ((m.bare z).push vh.length a).Imm b := fun b im => by
    refine ⟨fun p => ?_, fun y => im.2 (hzz b y).1⟩
    by_cases hp : p = vh.length
    · subst hp
      rw [new]
      intro e
      have e' := Option.some.inj e
      exact im.2 (by rw [← e']; exact hz)
    · rw [old p hp]; exact im.1 p
  refine ⟨⟨fun p => ?_, fun p q b e1 e2 => ?_, fun p c b e1 e2 => ?_, fun b y => ?_⟩, hA, hI⟩
  · rw [List.length_append, List.length_singleton]
    by_cases hp : p = vh.length
    · subst hp; rw [new]; exact ⟨fun _ => by omega, fun _ => ⟨a, rfl⟩⟩
    · rw [old p hp, h.dom p]; omega
  · by_cases hp : p = vh.length <;> by_cases hq : q = vh.length
    · rw [hp, hq]
    · rw [hp, new] at e1; cases e1; rw [old q hq] at e2; exact absurd e2 (notin q)
    · rw [hq, new] at e2; cases e2; rw [old p hp] at e1; exact absurd e1 (notin p)
    · rw [old p hp] at e1; rw [old q hq] at e2; exact h.inj p q b e1 e2
  · by_cases hp : p = vh.length
    · subst hp
      rw [new] at e2; cases e2
      rw [List.getElem?_append_right (Nat.le_refl _), Nat.sub_self] at e1
      cases e1
      exact ⟨vs, ha, Reps.map hA hI _ _ r⟩
    · have hl : p < vh.length := by
        have := (List.getElem?_eq_some_iff.mp e1).1
        rw [List.length_append, List.length_singleton] at this; omega
      rw [old p hp] at e2
      rw [List.getElem?_append_left hl] at e1
      have r' := h.ats p c b e1 e2
      cases c with
      | lst es => obtain ⟨xs, q, r⟩ := r'; exact ⟨xs, q, Reps.map hA hI _ _ r⟩
      | ins c ns es => obtain ⟨dx, fs, q, en, r⟩ := r'; exact ⟨dx, fs, q, en, Reps.map hA hI _ _ r⟩
  · obtain ⟨hb, nb⟩ := hzz b y
    refine ⟨(h.hid b hb).1, fun p => ?_⟩
    by_cases hp : p = vh.length
    · subst hp; rw [new]; intro e; exact nb (Option.some.inj e).symm
    · rw [old p hp]; exact (h.hid b hb).2 p
end
/-- no exception is wished for -/
abbrev W0 : WX := fun _ _ _ _ => False
@[reducible] def noX : KX := fun _ _ => False
theorem outX0 {K : PySem.W.Frag} {m : Map} {H : Hp} {W : WX} {σ : L2.St} : OutX K m H W σ noX := fun _ _ _ _ _ _ _ _ _ z => z.elim
@[reducible] def wipeE (env : Env) : List Nat → Env
  | [] => env
  | v :: vs => (wipeE env vs).set v none
theorem Er.unset {K : PySem.W.Frag} {m : Map} {H : Hp} {env : Env} {σ : L2.St} {i : Nat} (e : Er K m H env σ) : Er K m H (env.set i none) (σ.set i none) := by
  refine ⟨by rw [List.length_set, List.length_set]; exact e.1, fun j d' q => ?_⟩
  by_cases hj : i = j
  · subst hj
    have lt : i < env.length := by
      have := (List.getElem?_eq_some_iff.mp q).1
      rw [List.length_set] at this; exact this
    rw [List.getElem?_set_self lt] at q
    cases q
  · rw [List.getElem?_set_ne hj] at q
    obtain ⟨w, h1, h2⟩ := e.2 j d' q
    exact ⟨w, by rw [List.getElem?_set_ne hj]; exact h1, h2⟩
theorem Er.wipe {K : PySem.W.Frag} {m : Map} {H : Hp} {env : Env} {σ : L2.St} (e : Er K m H env σ) : ∀ vs : List Nat, Er K m H (wipeE env vs) (L2.wipe σ vs)
  | [] => e
  | v :: vs => (Er.wipe e vs).unset
/-- the elements -/
def lcL (g : SemG) (c : SemT) (elt : SemE) (still : VH → Prop) (env0 : Env) : List D → VH → KL → Prop
  | [], vh, kl => still vh ∧ kl [] vh
  | d :: ds, vh, kl => still vh ∧ g d env0 vh fun env' vh' => c env' vh' noX fun b vh2 => match b with
    | true => elt env' vh2 noX fun y vh3 => lcL g c elt still env0 ds vh3 fun ys vh4 => kl (y :: ys) vh4
    | false => lcL g c elt still env0 ds vh2 kl
def sYes : SemT := fun _ vh _ kb => kb true vh
def sLc (cell : Bool) (ws : List Nat) (si : SemI) (g : SemG) (c : SemT) (elt : SemE) : SemE := fun env vh kx kd => si env vh kx fun src vh' => src.items.length ≤ 16777216 ∧ lcL g c elt src.still (wipeE env ws) src.items vh' fun ys vh'' => newL cell ys vh'' kd
def STs (X : Cx) (sem : SemT) (ifs : List Expr) : Prop := PTs X ifs (tT X.K W0 sem)
theorem wipe_at (ws : List Nat) (σ : L2.St) : ∀ i, i ∈ ws → i < σ.length → (L2.wipe σ ws)[i]? = some none := by
  induction ws with
  | nil => intro i h; cases h
  | cons w ws ih =>
    intro i h hl
    show ((L2.wipe σ ws).set w none)[i]? = some none
    by_cases e : w = i
    · subst e
      rw [List.getElem?_set_self (by rw [wipe_length]; exact hl)]
    · rw [List.getElem?_set_ne e]
      exact ih i ((List.mem_cons.mp h).resolve_left (fun z => e z.symm)) hl
theorem wipe_wipe (ws : List Nat) (σ : L2.St) : L2.wipe (L2.wipe σ ws) ws = L2.wipe σ ws := by
  apply List.ext_getElem?
  intro i
  by_cases h : i ∈ ws
  · by_cases hl : i < σ.length
    · rw [wipe_at ws _ i h (by rw [wipe_length]; exact hl), wipe_at ws _ i h hl]
    · rw [List.getElem?_eq_none (by rw [wipe_length, wipe_length]; omega), List.getElem?_eq_none (by rw [wipe_length]; omega)]
  · rw [wipe_out h]
section
variable {X : Cx} {W : WX}
theorem st_nil : STs X sYes [] := ⟨fun pins s σ H Q I h => by
  obtain ⟨m, env, vh, kx, kb, hr, er, hs, o, ox⟩ := h
  exact pts_nil.run pins s σ H Q I (o m vh H true (Step.refl _ _) hr hs)⟩
theorem st_one {c : Expr} {t : SemT} (h : ST X W0 t c) : STs X t [c] := pts_one h
/-- the new list's end -/
theorem lc_end {K : PySem.W.Frag} {m1 m' : Map} {H1 H' : Hp} {vh1 vh' : VH} {Dd : Addr} {cell : Bool} {ds : List D} {vs : List V} {kd : KD} {Q : VK} (hr1 : Hr K m1 H1 vh1) (hn : H1 Dd = none) (s1 : Step m1 H1 m' H') (hz : m'.hid Dd) (hr : Hr K m' H' vh')
    (hd : H' Dd = some (.lst vs)) (r : Reps K m' H' ds vs) (k : newL cell ds vh' kd) (ho : Out K m1 H1 kd Q) : Q (.ref Dd) H' := by
  have hz1 : ∀ a, m1.hid a → m'.hid a := s1.1
  have notin : ∀ p, m'.ats p ≠ some Dd := hr.hid_ne hz
  have nh : ¬ m1.hid Dd := fun z => by
    obtain ⟨⟨xs, q⟩, _⟩ := hr1.hid Dd z
    rw [hn] at q; cases q
  cases cell with
  | false =>
    refine ho _ vh' H' (.lst ds) _ (bare_step s1) (hr.bare hz1) ?_ k
    simp only [Rep]
    exact ⟨Dd, vs, rfl, hd, ⟨notin, nh⟩, Reps.bare hz1 _ _ r⟩
  | true =>
    obtain ⟨ha, hA, hI⟩ := hr.adopt (z := m1.hid) hz (fun b y => ⟨hz1 b y, fun e => nh (by rw [← e]; exact y)⟩) hd r
    refine ho ((m'.bare m1.hid).push vh'.length Dd) _ H' (.ref vh'.length) _ ⟨fun _ y => y, fun p b e => hA p b (s1.2.1 p b e), fun b u e n => ?_⟩ ha ?_ k
    · obtain ⟨h1, h2, h3⟩ := s1.2.2 b u e n
      refine ⟨h1, fun p => ?_, fun y => y⟩
      show (if p = vh'.length then some Dd else m'.ats p) ≠ some b
      by_cases hp : p = vh'.length
      · rw [if_pos hp]
        intro z
        have z' := Option.some.inj z
        rw [← z', hn] at e; cases e
      · rw [if_neg hp]; exact h2 p
    · simp only [Rep]
      exact ⟨Dd, rfl, if_pos rfl⟩
/-- the invariant of the new list's making -/
theorem lc_of {K : PySem.W.Frag} {m : Map} {H : Hp} {vh : VH} {env : Env} {σ : L2.St} {W : WX} {kx : KX} {kd : KD} {Q : VK} {ws : List Nat} {si : SemI} {g : SemG} {c : SemT} {elt : SemE} {cell : Bool}
    (hr : Hr K m H vh) (er : Er K m H env σ) (hs : sLc cell ws si g c elt env vh kx kd) (ho : Out K m H kd Q) (ox : OutX K m H W σ kx) :
    tLc (tI K W si) (tG K ws g) (tT K W0 c) (tE K W0 elt) ws σ H Q := by
  refine ⟨m, env, vh, kx, _, hr, er, hs, fun m1 vh1 H1 src J s1 hr1 sr k1 => ?_, ox⟩
  obtain ⟨hlen, k1⟩ := k1
  intro Dd hn
  have er1 := (er.step hr s1).wipe ws
  have ho1 := ho.step s1
  have hs2 := hide_step (o := .lst []) hr1 hn
  have hr2 := hr1.hideNew (ys := []) hn
  refine ⟨fun i n H' => n = src.items.length - i ∧ ∃ m' vh' av ad kl, Step m1 H1 m' H' ∧ m'.hid Dd ∧ Hr K m' H' vh' ∧ H' Dd = some (.lst av) ∧ Reps K m' H' ad av ∧ ad.length ≤ i ∧
    lcL g c elt src.still (wipeE env ws) (src.items.drop i) vh' kl ∧ ∀ ys vh2, kl ys vh2 → newL cell (ad ++ ys) vh2 kd,
    ⟨src.items.length, by simp, m1.hide Dd, vh1, [], [], _, hs2, .inr rfl, hr2, upd_same, Reps.nil, Nat.zero_le _, by simpa using k1, fun ys vh2 k => k⟩, ?_⟩
  rintro i n H' ⟨rfl, m', vh', av, ad, kl, s', hz, hr', hd, ra, hal, kk, hfin⟩
  have fin : ∀ {m'' : Map} {H'' : Hp}, True := trivial
  -- the source, seen from here
  have sb := bare_step s'
  have hrb := hr'.bare s'.1
  cases e : src.items[i]? with
  | none =>
    have hl : src.items.length ≤ i := List.getElem?_eq_none_iff.mp e
    rw [List.drop_eq_nil_of_le hl] at kk
    obtain ⟨q1, q2⟩ := kk
    refine .inl ⟨(sr _ vh' H' s' hr' q1).2 i hl, ?_⟩
    have q3 := hfin _ _ q2
    rw [List.append_nil] at q3
    exact lc_end hr1 hn s' hz hr' hd ra q3 ho1
  | some d =>
    obtain ⟨hl, hdd⟩ := List.getElem?_eq_some_iff.mp e
    rw [List.drop_eq_getElem_cons hl, hdd] at kk
    obtain ⟨q1, q2⟩ := kk
    obtain ⟨g1, g2⟩ := (sr _ vh' H' s' hr' q1).1 i d e
    refine .inr ⟨g1, fun H3 => ∃ m3 vh3 av3 ad3 kl3, Step m1 H1 m3 H3 ∧ m3.hid Dd ∧ Hr K m3 H3 vh3 ∧ H3 Dd = some (.lst av3) ∧ Reps K m3 H3 ad3 av3 ∧ ad3.length ≤ i + 1 ∧
      lcL g c elt src.still (wipeE env ws) (src.items.drop (i + 1)) vh3 kl3 ∧ ∀ ys vh2, kl3 ys vh2 → newL cell (ad3 ++ ys) vh2 kd, fun H3 q => ⟨src.items.length - (i + 1), by omega, rfl, q⟩, fun x H3 y => ?_⟩
    obtain ⟨sm, rx⟩ := g2 x H3 y
    have st3 := Step.same (m := m') sm
    have hr3 := hr'.same sm
    have er3 : Er K m' H3 (wipeE env ws) (L2.wipe σ ws) := (er1.step hr1 s').step hr' st3
    have sz : (sizeLine : Nat) = 16777216 := sizeLine_eq
    refine ⟨m', d, wipeE env ws, vh', _, hr3, er3, rx, q2, fun m4 vh4 H4 env4 σ4 s4 hr4 er4 hw k4 => ⟨?_, ?_⟩⟩
    · rw [hw]
      have idem : ∀ (vs : List Nat) (τ : L2.St), (∀ j ∈ vs, ∀ τ' : L2.St, τ' = τ → True) → True := fun _ _ _ => trivial
      exact wipe_wipe ws σ
    · refine tT.go hr4 er4 outX0 k4 fun m5 vh5 H5 b s5 hr5 er5 _ k5 => ?_
      have z5 : m5.hid Dd := s5.1 _ (s4.1 _ hz)
      have keep : ∀ {m6 : Map} {H6 : Hp} {u : HO}, Step m' H3 m6 H6 → H3 Dd = some u → H6 Dd = some u := fun {m6 H6 u} s6 e6 => (s6.2.2 Dd u e6 (hr3.hid_ne hz)).1
      have d3 : H3 Dd = some (.lst av) := sm _ _ hd
      cases b with
      | false =>
        refine iteF ⟨m5, vh5, av, ad, kl, (s'.trans st3).trans (s4.trans s5), z5, hr5, keep (s4.trans s5) d3, Reps.step hr4 s5 _ _ (Reps.step hr3 s4 _ _ (Reps.step hr' st3 _ _ ra)), by omega, k5, hfin⟩
      | true =>
        refine iteT (tE.go hr5 er5 outX0 k5 fun m6 vh6 H6 y6 v6 s6 hr6 er6 _ r6 k6 => ?_)
        have z6 : m6.hid Dd := s6.1 _ z5
        have s36 := s4.trans (s5.trans s6)
        have d6 := keep s36 d3
        have ra6 : Reps K m6 H6 ad av := Reps.step hr5 s6 _ _ (Reps.step hr4 s5 _ _ (Reps.step hr3 s4 _ _ (Reps.step hr' st3 _ _ ra)))
        refine ⟨av, d6, by rw [← ra.len, sz]; omega, m6, vh6, av ++ [v6], ad ++ [y6], _, ?_, z6, hr6.hidSet z6 d6, upd_same, Reps.hidSet z6 d6 _ _ (ra6.app (Reps.one r6)), by rw [List.length_append, List.length_singleton]; omega, k6, fun ys vh2 k => ?_⟩
        · have s16 := (s'.trans st3).trans s36
          exact ⟨s16.1, s16.2.1, fun b u e1 n1 => by
            obtain ⟨h1, h2, h3⟩ := s16.2.2 b u e1 n1
            exact ⟨by rw [upd_ne (ne_of_none e1 hn)]; exact h1, h2, h3⟩⟩
        · have := hfin _ _ k
          rw [List.append_assoc]
          exact this
variable {elt tg iter : Expr} {ifs : List Expr} {scope : Scope} {own : List (Str × Nat)} {pos spos : Pos} {si : SemI} {g : SemG} {c : SemT} {se : SemE}
theorem se_lc (cell : Bool) (hc : X.calm = true) (hN : X.N.Nodup) (hi : SI X W si tg iter) (ok : BlkOk X.N X.env.scope scope own)
    (hg : ∀ (s : Shared) (H : Hp) (C : Addr) (cl : List (Str × Addr)) (fp : List Addr), SG (X.blk s H scope (compEnvC scope cl C X.env) fp) (own.map (·.2)) g tg) (ht : ∀ (s : Shared) (H : Hp) (C : Addr) (cl : List (Str × Addr)) (fp : List Addr), STs (X.blk s H scope (compEnvC scope cl C X.env) fp) c ifs)
    (he : ∀ (s : Shared) (H : Hp) (C : Addr) (cl : List (Str × Addr)) (fp : List Addr), SE (X.blk s H scope (compEnvC scope cl C X.env) fp) W0 se elt) (hs : ∀ x, foldedSetIterable iter X.env x = pure x := by intro _; rfl) :
    SE X W (sLc cell (own.map (·.2)) si g c se) (.ListComp elt [⟨tg, iter, ifs, 0⟩] scope pos) :=
  peImp (pe_lc (g := tG X.K (own.map fun q : Str × Nat => q.2) g) (tt := tT X.K W0 c) (te := tE X.K W0 se) hc hN hi ok hg ht he hs) fun σ H Q ⟨m, env, vh, kx, kd, hr, er, h, ho, ox⟩ => lc_of hr er h ho ox
theorem ss_setLc (cell : Bool) {i : Nat} {y : Str} {py : Pos} (hc : X.calm = true) (hN : X.N.Nodup) (hy : X.N[i]? = some y) (hyl : X.env.scope.names.lookup y = some .local)
    (hsw : swapsWith (.ListComp elt [⟨tg, iter, ifs, 0⟩] scope pos) (some (.Name y py)) spos.line X.env = pure true) (hi : SI X W si tg iter) (ok : BlkOk X.N X.env.scope scope own)
    (hg : ∀ (s : Shared) (H : Hp) (C : Addr) (cl : List (Str × Addr)) (fp : List Addr), SG (X.blk s H scope (compEnvC scope cl C X.env) fp) (own.map (·.2)) g tg) (ht : ∀ (s : Shared) (H : Hp) (C : Addr) (cl : List (Str × Addr)) (fp : List Addr), STs (X.blk s H scope (compEnvC scope cl C X.env) fp) c ifs)
    (he : ∀ (s : Shared) (H : Hp) (C : Addr) (cl : List (Str × Addr)) (fp : List Addr), SE (X.blk s H scope (compEnvC scope cl C X.env) fp) W0 se elt) (hs : ∀ x, foldedSetIterable iter X.env x = pure x := by intro _; rfl) :
    SS X W (sSet i (sLc cell (own.map (·.2)) si g c se)) (.Assign [.Name y py] (.ListComp elt [⟨tg, iter, ifs, 0⟩] scope pos) spos) :=
  psImp (ps_setLc (g := tG X.K (own.map fun q : Str × Nat => q.2) g) (tt := tT X.K W0 c) (te := tE X.K W0 se) hc hN hy hyl hsw hi ok hg ht he hs) fun Dn σ H ⟨m, env, vh, k, hr, er, h, o⟩ => by
    show tLc _ _ _ _ _ σ H fun v H' => Dn.nx (List.set σ i (some v)) H'
    exact lc_of hr er h (fun m' vh' H' d v s hr' r kk => o.nx m' vh' H' _ _ s hr' ((er.step hr s).set r) kk) (o.x hr er)
end
end VI

end
section
/-! VI7: defs, their promises, calls. -/
namespace VI
open PySem PySem.Spec L2
open PyProof.Rows hiding St

abbrev Calls := Nat → List D → VH → KX → KD → Prop
inductive Kind | pure | keep | fresh
/-- what is asked where a def is left: vh its heap at the entry -/
@[reducible] def finD (kind : Kind) (vh : VH) (kd : KD) : KD := match kind with
  | .pure => fun d h' => ∃ g d', h' = vh ++ g ∧ Frz h' vh.length d d' ∧ kd d' vh
  | .keep => kd
  | .fresh => fun d h' => ∃ g p ds, h' = vh ++ g ∧ d = .ref p ∧ vh.length ≤ p ∧ h'[p]? = some (.lst ds) ∧ lows vh.length ds ∧ kd (.ref vh.length) (vh ++ [.lst ds])
@[reducible] def finX (kind : Kind) (vh : VH) (kx : KX) : KX := match kind with
  | .keep => kx
  | _ => fun ex h' => ∃ g es, h' = vh ++ g ∧ Frzs h' vh.length ex.ds es ∧ kx ⟨ex.c, ex.ns, es⟩ vh
/-- a def: where it stands (a global's name; a class and its method), its text, its parameters, its slots, what it asks -/
structure Fn where
  id : Nat
  at_ : Str × Option Str
  name : Str
  qual : Str
  st : Stmt
  ps : List Str
  N : List Str
  kind : Kind
  sem : Calls → SemS
def Fn.d (f : Fn) : He.DefD := ⟨f.at_, f.name, f.qual, defArgs f.st, defBody f.st, defScope f.st, [], []⟩
@[reducible] def runFn (f : Fn) (C : Calls) (ds : List D) (vh : VH) (kx : KX) (kd : KD) : Prop :=
  f.sem C (ds.map some ++ List.replicate (f.N.length - ds.length) none) vh ⟨fun _ h' => finD f.kind vh kd .non h', finD f.kind vh kd, fun _ _ => False, fun _ _ => False, fun e _ h' => finX f.kind vh kx e h'⟩
def callN (T : Nat → Option Fn) : Nat → Calls
  | 0 => fun _ _ _ _ _ => False
  | k + 1 => fun f ds vh kx kd => ∃ fn, T f = some fn ∧ ds.length = fn.ps.length ∧ runFn fn (callN T k) ds vh kx kd
/-- the promise -/
def OutXE (K : PySem.W.Frag) (m : Map) (H : Hp) (E : XK) (kx : KX) : Prop := ∀ m' vh' H' ex cls dd, Step m H m' H' → Hr K m' H' vh' → RepX K m' H' ex cls dd → kx ex vh' → E cls dd H'
def spV (K : PySem.W.Frag) (C : Calls) (f n : Nat) : Sp := fun vs H Q E => ∃ m vh ds kx kd, Hr K m H vh ∧ Reps K m H ds vs ∧ ds.length = n ∧ C f ds vh kx kd ∧ Out K m H kd Q ∧ OutXE K m H E kx
structure FnAt (P : Program) (w : World) (K : PySem.W.Frag) (mg : Str → Option Value) (base : Heap) (C : Calls) (lev : Nat) (fn : Fn) : Prop where
  ex : ∃ fd, FunD K fn.name fn.qual (defArgs fn.st) (defBody fn.st) (defScope fn.st) [] [] (He.fAd K fn.at_) fd ∧ Binds K fd fn.ps [] ∧ FnOk P w K mg base (L2N.CX P w) lev (He.fAd K fn.at_) fd fn.ps (spV K C fn.id fn.ps.length)
/-- .. while an exception is handled -/
structure FnAtH (P : Program) (w : World) (K : PySem.W.Frag) (mg : Str → Option Value) (base : Heap) (C : Calls) (lev : Nat) (fn : Fn) : Prop where
  ex : ∃ fd, FunD K fn.name fn.qual (defArgs fn.st) (defBody fn.st) (defScope fn.st) [] [] (He.fAd K fn.at_) fd ∧ Binds K fd fn.ps [] ∧ L2H.FnH P w K mg base (L2N.CX P w) lev (He.fAd K fn.at_) fd fn.ps (spV K C fn.id fn.ps.length)
/-- what stands around; hots: the defs that are called while an exception is handled -/
structure CxF (X : Cx) (T : Nat → Option Fn) (hots : List Nat) (k : Nat) : Prop where
  room : Room (3 * k + 2) X.A
  calm : X.calm = true
  fns : ∀ f fn, T f = some fn → FnAt X.prog X.w X.K X.mg X.base (callN T k) (3 * k) fn
  hfn : ∀ f fn, T f = some fn → f ∈ hots → FnAtH X.prog X.w X.K X.mg X.base (callN T k) (3 * k) fn
  ids : ∀ f fn, T f = some fn → fn.id = f
structure CxH (X : Cx) (T : Nat → Option Fn) (hots : List Nat) (k : Nat) : Prop where
  room : L2H.RoomH (3 * k + 2) X.A
  hot : L2H.HotC X
  hfn : ∀ f fn, T f = some fn → f ∈ hots → FnAtH X.prog X.w X.K X.mg X.base (callN T k) (3 * k) fn
  ids : ∀ f fn, T f = some fn → fn.id = f

/-! ### leaving a def -/
section
variable {K : PySem.W.Frag} {m m' : Map} {H H' : Hp} {vh : VH} {kd : KD} {kx : KX} {Q : VK}
mutual
theorem low_of (h : Hr K m H vh) : ∀ {d : D} {v : V}, Rep K m H d v → low vh.length d
  | .non, _, _ => by simp only [low]
  | .bl _, _, _ => by simp only [low]
  | .int _, _, _ => by simp only [low]
  | .str _, _, _ => by simp only [low]
  | .tup ds, v, r => by
    simp only [Rep, low] at r ⊢
    obtain ⟨b, xs, e, q, r⟩ := r
    exact lows_of h r
  | .lst ds, v, r => by
    simp only [Rep, low] at r ⊢
    obtain ⟨b, xs, e, q, im, r⟩ := r
    exact lows_of h r
  | .obj c ns ds, v, r => by
    simp only [Rep, low] at r ⊢
    obtain ⟨b, dx, fs, e, q, im, en, r⟩ := r
    exact lows_of h r
  | .ref p, v, r => by
    simp only [Rep, low] at r ⊢
    obtain ⟨a, e, q⟩ := r
    exact (h.dom p).mp ⟨a, q⟩
  | .scr ns, v, _ => by simp only [low]
  | .exn a dd c ns ds, v, r => by
    simp only [Rep, low] at r ⊢
    obtain ⟨e, fs, q, im, en, r⟩ := r
    exact lows_of h r
theorem lows_of (h : Hr K m H vh) : ∀ {ds : List D} {xs : List V}, Reps K m H ds xs → lows vh.length ds
  | [], _, _ => by simp only [lows]
  | d :: ds, xs, r => by
    simp only [Reps, lows] at r ⊢
    obtain ⟨v, vs, e, r1, r2⟩ := r
    exact ⟨low_of h r1, lows_of h r2⟩
end
theorem fresh_out {g : VH} {p : Nat} {a : Addr} {ds : List D} (h : Hr K m H vh) (s : Step m H m' H') (h' : Hr K m' H' (vh ++ g)) (hp : vh.length ≤ p) (e : (vh ++ g)[p]? = some (.lst ds)) (f : lows vh.length ds) (ea : m'.ats p = some a) :
    Hr K (m.push vh.length a) H' (vh ++ [.lst ds]) ∧ Step m H (m.push vh.length a) H' := by
  have im := high_imm h s h' hp ea
  obtain ⟨h1, s1⟩ := h.trim s h'
  obtain ⟨xs, eH, rs⟩ := h'.ats p _ a e ea
  have old : ∀ q, q ≠ vh.length → (m.push vh.length a).ats q = m.ats q := fun q hq => if_neg hq
  have new : (m.push vh.length a).ats vh.length = some a := if_pos rfl
  have hA : ∀ q b, m.ats q = some b → (m.push vh.length a).ats q = some b := fun q b e => by
    have lt := (h.dom q).mp ⟨b, e⟩
    rw [old q (by omega)]; exact e
  have hI : ∀ b, m'.Imm b → (m.push vh.length a).Imm b := fun b imb => by
    refine ⟨fun q => ?_, fun z => imb.2 (s.1 b z)⟩
    by_cases hq : q = vh.length
    · subst hq; rw [new]; intro z
      exact imb.1 p (by rw [ea]; exact z)
    · rw [old q hq]; exact fun z => imb.1 q (s.2.1 q b z)
  have hA' : ∀ q b, q < vh.length → m'.ats q = some b → (m.push vh.length a).ats q = some b := fun q b lt e => by
    obtain ⟨b0, q0⟩ := (h.dom q).mpr lt
    have z := s.2.1 q b0 q0
    rw [e] at z
    rw [old q (by omega), q0, Option.some.inj z]
  -- the data of the cells below, under the new map
  have lowR : ∀ (es : List D) (xs0 xs : List V), Reps K m H es xs0 → Reps K m' H' es xs → Reps K (m.push vh.length a) H' es xs := fun es xs0 xs r0 r => by
    refine Reps.lowTo (n := vh.length) hA' hI _ _ ?_ r
    exact lows_of h r0
  refine ⟨⟨fun q => ?_, fun q r b e1 e2 => ?_, fun q c b e1 e2 => ?_, fun b z => ?_⟩, ⟨fun _ z => z, hA, fun b o e n => ?_⟩⟩
  · rw [List.length_append, List.length_singleton]
    by_cases hq : q = vh.length
    · subst hq; rw [new]; exact ⟨fun _ => by omega, fun _ => ⟨a, rfl⟩⟩
    · rw [old q hq, h.dom q]; omega
  · by_cases hq : q = vh.length <;> by_cases hr : r = vh.length
    · rw [hq, hr]
    · rw [hq, new] at e1; cases e1; rw [old r hr] at e2; exact absurd e2 (im.1 r)
    · rw [hr, new] at e2; cases e2; rw [old q hq] at e1; exact absurd e1 (im.1 q)
    · rw [old q hq] at e1; rw [old r hr] at e2; exact h.inj q r b e1 e2
  · by_cases hq : q = vh.length
    · subst hq
      rw [new] at e2; cases e2
      rw [List.getElem?_append_right (Nat.le_refl _), Nat.sub_self] at e1
      cases e1
      exact ⟨xs, eH, Reps.lowTo (n := vh.length) hA' hI _ _ f rs⟩
    · have hl : q < vh.length := by
        have := (List.getElem?_eq_some_iff.mp e1).1
        rw [List.length_append, List.length_singleton] at this; omega
      rw [old q hq] at e2
      rw [List.getElem?_append_left hl] at e1
      have r0 := h.ats q c b e1 e2
      have r' := h'.ats q c b (by rw [List.getElem?_append_left hl]; exact e1) (s.2.1 q b e2)
      cases c with
      | lst es' => obtain ⟨xs0, _, r0⟩ := r0; obtain ⟨ys, q, r⟩ := r'; exact ⟨ys, q, lowR _ _ _ r0 r⟩
      | ins c ns es' => obtain ⟨_, _, _, _, r0⟩ := r0; obtain ⟨dx, fs, q, en, r⟩ := r'; exact ⟨dx, fs, q, en, lowR _ _ _ r0 r⟩
  · refine ⟨(h'.hid b (s.1 b z)).1, fun q => ?_⟩
    by_cases hq : q = vh.length
    · subst hq; rw [new]; intro y
      have y' := Option.some.inj y
      exact im.2 (by rw [y']; exact z)
    · rw [old q hq]; exact (h.hid b z).2 q
  · refine ⟨(s.2.2 b o e n).1, fun q => ?_, fun z => z⟩
    by_cases hq : q = vh.length
    · subst hq; rw [new]; intro y
      have y' := Option.some.inj y
      exact (s.2.2 b o e n).2.1 p (by rw [ea, y'])
    · rw [old q hq]; exact n q
/-- what a def asks where it is left is what its caller wants -/
theorem finD_out (kind : Kind) (h : Hr K m H vh) (ho : Out K m H kd Q) : Out K m H (finD kind vh kd) Q := by
  intro m' vh' H' d v s h' r k
  cases kind with
  | keep => exact ho m' vh' H' d v s h' r k
  | pure =>
    obtain ⟨g, d', e, f, k⟩ := k
    subst e
    obtain ⟨h1, s1⟩ := h.trim s h'
    exact ho m vh H' d' v s1 h1 (Frz.rep h s h' f r) k
  | fresh =>
    obtain ⟨g, p, ds, e, ed, hp, ep, f, k⟩ := k
    subst e
    subst ed
    simp only [Rep] at r
    obtain ⟨a, ev, ea⟩ := r
    obtain ⟨h1, s1⟩ := fresh_out h s h' hp ep f ea
    refine ho _ _ H' (.ref vh.length) v s1 h1 ?_ k
    simp only [Rep]
    exact ⟨a, ev, if_pos rfl⟩
theorem finX_out (kind : Kind) (h : Hr K m H vh) {E : XK} (ho : OutXE K m H E kx) : OutXE K m H E (finX kind vh kx) := by
  intro m' vh' H' ex cls dd s h' r k
  have key : (∃ g es, vh' = vh ++ g ∧ Frzs vh' vh.length ex.ds es ∧ kx ⟨ex.c, ex.ns, es⟩ vh) → E cls dd H' := fun ⟨g, es, e, f, k2⟩ => by
    subst e
    obtain ⟨h1, s1⟩ := h.trim s h'
    obtain ⟨e1, a, fs, e2, e3, e4, rs⟩ := r
    exact ho m vh H' ⟨ex.c, ex.ns, es⟩ cls dd s1 h1 ⟨e1, a, fs, e2, e3, e4, Frzs.rep h s h' f rs⟩ k2
  cases kind with
  | keep => exact ho m' vh' H' ex cls dd s h' r k
  | pure => exact key k
  | fresh => exact key k
end
/-! ### a def keeps its promise -/
theorem er_start {K : PySem.W.Frag} {m : Map} {H : Hp} {ds : List D} {vs : List V} (N : List Str) (r : Reps K m H ds vs) : Er K m H (ds.map some ++ List.replicate (N.length - ds.length) none) (L2.start N vs) := by
  have hl := r.len
  refine ⟨by simp [L2.start, hl], fun i d e => ?_⟩
  by_cases hi : i < ds.length
  · rw [List.getElem?_append_left (by simpa using hi), List.getElem?_map] at e
    cases q : ds[i]? with
    | none => rw [q] at e; cases e
    | some d' =>
      rw [q] at e
      cases e
      obtain ⟨v, e2, rv⟩ := r.get q
      refine ⟨v, ?_, rv⟩
      unfold L2.start
      rw [List.getElem?_append_left (by rw [List.length_map, ← hl]; exact hi), List.getElem?_map, e2]
      rfl
  · rw [List.getElem?_append_right (by simpa using hi)] at e
    have := List.getElem?_replicate (a := (none : Option D)) (n := N.length - ds.length) (i := i - (ds.map some).length)
    rw [this] at e
    split at e <;> cases e
def BindOk (fn : Fn) : Prop := ∀ (kV doc pm : Value) (an : Option Addr) (cdv ct : Value) (us : List Value), us.length = fn.ps.length → bindArgs (PySem.W.fnOf fn.name fn.qual (defArgs fn.st) (defBody fn.st) (defScope fn.st) .none kV doc pm an cdv ct) ⟨us, []⟩ = pure (fn.ps.zip us)
/-- the context of a def's body -/
abbrev cxF (P : Program) (w : World) (K : PySem.W.Frag) (mg : Str → Option Value) (base : Heap) (fn : Fn) (cdv : Value) (A : Around) (outer : List PySem.Env) (s : Shared) (H : Hp) (E : XK) : Cx :=
  cxOf (L2N.CX P w) P w K mg base fn.N fn.qual (defScope fn.st) (He.fAd K fn.at_) cdv A outer s H E
abbrev wE (E : XK) : WX := fun c d _ H => E c d H
theorem FnAt.made {P : Program} {w : World} {K : PySem.W.Frag} {mg : Str → Option Value} {base : Heap} {T : Nat → Option Fn} {hots : List Nat} {k : Nat} {fn : Fn} {fd : FuncData} (hT : T fn.id = some fn)
    (F : FunD K fn.name fn.qual (defArgs fn.st) (defBody fn.st) (defScope fn.st) [] [] (He.fAd K fn.at_) fd) (S : FnScope fn.N fn.ps (defScope fn.st)) (bd : BindOk fn)
    (ids : ∀ f gn, T f = some gn → gn.id = f) (lower : ∀ f gn, T f = some gn → FnAt P w K mg base (callN T k) (3 * k) gn) (lowerH : ∀ f gn, T f = some gn → f ∈ hots → FnAtH P w K mg base (callN T k) (3 * k) gn)
    (der : ∀ (cdv : Value) (A : Around) (outer : List PySem.Env) (s : Shared) (H : Hp) (E : XK), CxF (cxF P w K mg base fn cdv A outer s H E) T hots k → SSs (cxF P w K mg base fn cdv A outer s H E) (wE E) (fn.sem (callN T k)) (defBody fn.st)) :
    FnAt P w K mg base (callN T (k + 1)) (3 * (k + 1)) fn := by
  refine ⟨fd, F, F.bindsN bd, ?_⟩
  refine F.ok S (k := 3 * k + 2) (fun vs H Q E h => ?_) fun cdv A outer s H vs Q E hr h => ?_
  · obtain ⟨m, vh, ds, kx, kd, hr, r, hl, _⟩ := h
    rw [← r.len]; exact hl
  · obtain ⟨m, vh, ds, kx, kd, hr', r, hl, hc, ho, ox⟩ := h
    obtain ⟨fn', e, hlen, run⟩ := hc
    rw [hT] at e
    cases e
    refine ⟨_, der cdv A outer s H E ⟨hr, rfl, lower, lowerH, ids⟩, m, _, vh, _, hr', er_start fn.N r, run, ⟨fun _ _ H' _ _ s' h' _ kk => ?_, ?_, ?_, ?_, ?_⟩⟩
    · exact finD_out fn.kind hr' ho _ _ H' .non .non s' h' rfl kk
    · exact finD_out fn.kind hr' ho
    · exact fun _ _ _ _ _ _ _ _ z => z.elim
    · exact fun _ _ _ _ _ _ _ _ z => z.elim
    · exact fun m' vh' H' env σ ex cls dd s' h' _ rx kk => finX_out fn.kind hr' ox m' vh' H' ex cls dd s' h' rx kk
/-- the context of a def's body while an exception is handled -/
abbrev cxH (P : Program) (w : World) (K : PySem.W.Frag) (mg : Str → Option Value) (base : Heap) (fn : Fn) (cdv : Value) (A : Around) (outer : List PySem.Env) (s : Shared) (H : Hp) (E : XK) (p : Addr × Obj) : Cx :=
  L2H.cxH (L2N.CX P w) P w K mg base fn.N fn.qual (defScope fn.st) (He.fAd K fn.at_) cdv A outer s H E p
theorem FnAtH.made {P : Program} {w : World} {K : PySem.W.Frag} {mg : Str → Option Value} {base : Heap} {T : Nat → Option Fn} {hots : List Nat} {k : Nat} {fn : Fn} {fd : FuncData} (hT : T fn.id = some fn)
    (F : FunD K fn.name fn.qual (defArgs fn.st) (defBody fn.st) (defScope fn.st) [] [] (He.fAd K fn.at_) fd) (S : FnScope fn.N fn.ps (defScope fn.st)) (bd : BindOk fn)
    (ids : ∀ f gn, T f = some gn → gn.id = f) (lowerH : ∀ f gn, T f = some gn → f ∈ hots → FnAtH P w K mg base (callN T k) (3 * k) gn)
    (der : ∀ (cdv : Value) (A : Around) (outer : List PySem.Env) (s : Shared) (H : Hp) (E : XK) (p : Addr × Obj), CxH (cxH P w K mg base fn cdv A outer s H E p) T hots k → SSs (cxH P w K mg base fn cdv A outer s H E p) (wE E) (fn.sem (callN T k)) (defBody fn.st)) :
    FnAtH P w K mg base (callN T (k + 1)) (3 * (k + 1)) fn := by
  refine ⟨fd, F, F.bindsN bd, ?_⟩
  obtain ⟨oc, od, dV, kV, doc, pm, an, cdv, ct, osl, rfl, lk, hcd, _, _⟩ := F.ex
  refine L2H.fn_ofH (k := 3 * k + 2) lk hcd S (fun vs H Q E h => ?_) fun A outer s H vs Q E p hot hr h => ?_
  · obtain ⟨m, vh, ds, kx, kd, hr, r, hl, _⟩ := h
    rw [← r.len]; exact hl
  · obtain ⟨m, vh, ds, kx, kd, hr', r, hl, hc, ho, ox⟩ := h
    obtain ⟨fn', e, hlen, run⟩ := hc
    rw [hT] at e
    cases e
    refine ⟨_, der cdv A outer s H E p ⟨hr, ⟨p, hot, List.mem_singleton.mpr rfl⟩, lowerH, ids⟩, m, _, vh, _, hr', er_start fn.N r, run, ⟨fun _ _ H' _ _ s' h' _ kk => ?_, ?_, ?_, ?_, ?_⟩⟩
    · exact finD_out fn.kind hr' ho _ _ H' .non .non s' h' rfl kk
    · exact finD_out fn.kind hr' ho
    · exact fun _ _ _ _ _ _ _ _ z => z.elim
    · exact fun _ _ _ _ _ _ _ _ z => z.elim
    · exact fun m' vh' H' env σ ex cls dd s' h' _ rx kk => finX_out fn.kind hr' ox m' vh' H' ex cls dd s' h' rx kk
theorem FnAtH.zero {P : Program} {w : World} {K : PySem.W.Frag} {mg : Str → Option Value} {base : Heap} {T : Nat → Option Fn} {fn : Fn} {fd : FuncData}
    (F : FunD K fn.name fn.qual (defArgs fn.st) (defBody fn.st) (defScope fn.st) [] [] (He.fAd K fn.at_) fd) (bd : BindOk fn) : FnAtH P w K mg base (callN T 0) 0 fn :=
  ⟨fd, F, F.bindsN bd, ⟨fun vs H Q E h => by obtain ⟨m, vh, ds, kx, kd, hr, r, hl, hc, _⟩ := h; exact hc.elim, fun A outer s H args us vs Q E p _ _ _ _ _ _ h => by obtain ⟨m, vh, ds, kx, kd, hr, r, hl, hc, _⟩ := h; exact hc.elim⟩⟩
theorem FnAt.zero {P : Program} {w : World} {K : PySem.W.Frag} {mg : Str → Option Value} {base : Heap} {T : Nat → Option Fn} {fn : Fn} {fd : FuncData}
    (F : FunD K fn.name fn.qual (defArgs fn.st) (defBody fn.st) (defScope fn.st) [] [] (He.fAd K fn.at_) fd) (bd : BindOk fn) : FnAt P w K mg base (callN T 0) 0 fn :=
  ⟨fd, F, F.bindsN bd, ⟨fun vs H Q E h => by obtain ⟨m, vh, ds, kx, kd, hr, r, hl, hc, _⟩ := h; exact hc.elim, fun A outer s H args us vs Q E _ _ _ _ h => by obtain ⟨m, vh, ds, kx, kd, hr, r, hl, hc, _⟩ := h; exact hc.elim⟩⟩
end VI

end
section
/-! VI8: calls, fields, stores. -/
namespace VI
open PySem PySem.Spec L2
open PyProof.Rows hiding St

def sCall (C : Calls) (f : Nat) (t : SemA) : SemE := fun env vh kx kd => t env vh kx fun ds vh' => C f ds vh' kx kd
section
variable {X : Cx} {W : WX} {T : Nat → Option Fn} {hots : List Nat} {k : Nat} {fn : Fn} {x : Str} {p pos apos : Pos} {e o : Expr} {es : List Expr} {sl : SemA} {so se : SemE} {f : Nat}
theorem CxF.at (c : CxF X T hots k) (hf : T f = some fn) : fn.id = f ∧ FnAt X.prog X.w X.K X.mg X.base (callN T k) (3 * k) fn := ⟨c.ids f fn hf, c.fns f fn hf⟩
/-- the promise at a call -/
theorem spV_at {K : PySem.W.Frag} {m m0 : Map} {H H0 : Hp} {vh : VH} {ds : List D} {vs : List V} {kx : KX} {kd : KD} {Q : VK} {σ : L2.St} {W : WX} (hr : Hr K m H vh) (r : Reps K m H ds vs) (hf : T f = some fn) (hi : fn.id = f)
    (hc : callN T k f ds vh kx kd) (ho : Out K m H kd Q) (ox : OutX K m H W σ kx) : spV K (callN T k) fn.id fn.ps.length vs H Q (WE W σ) := by
  refine ⟨m, vh, ds, kx, kd, hr, r, ?_, by rw [hi]; exact hc, ho, ox⟩
  cases k with
  | zero => exact hc.elim
  | succ k =>
    obtain ⟨fn', e, hl, _⟩ := hc
    rw [hf] at e
    cases e
    exact hl
theorem se_call (c : CxF X T hots k) (tk : L2N.Takes X W) (hf : T f = some fn) (ha0 : fn.at_ = (x, none)) (hg : Gl X x) (hm : X.mg x = some (.ref (He.ga X.K x))) (ha : SA X W sl (e :: es)) (hdb : (x == ("__debug__" : Str)) = false := by decide)
    (he : starEach (e :: es) X.env = (false, eval e X.env) :: starEach es X.env := by rfl) (hpl : (backTo pos (starEach es X.env)).any (·.1) = false := by rfl) : SE X W (sCall (callN T k) f sl) (.Call (.Name x p) (e :: es) [] pos) := by
  obtain ⟨hi, ⟨fd, F, hb, ok⟩⟩ := c.at hf
  have ead : He.fAd X.K fn.at_ = He.ga X.K x := by rw [ha0]; rfl
  rw [ead] at F ok
  refine peImp (pe_callS ok (c.room.mono (by omega)) hg hm F.kp hb (fun σ => L2N.passAt tk σ) ha hdb he hpl) fun σ H Q ⟨m, env, vh, kx, kd, hr, er, h, ho, ox⟩ => ?_
  exact tA.go hr er ox h fun m1 vh1 H1 ds vs s1 hr1 er1 ox1 r1 k1 => spV_at (m0 := m) (H0 := H) hr1 r1 hf hi k1 (ho.step s1) ox1
theorem se_call0 (c : CxF X T hots k) (tk : L2N.Takes X W) (hf : T f = some fn) (ha0 : fn.at_ = (x, none)) (hg : Gl X x) (hm : X.mg x = some (.ref (He.ga X.K x))) (hdb : (x == ("__debug__" : Str)) = false := by decide) : SE X W (sCall (callN T k) f sNil) (.Call (.Name x p) [] [] pos) := by
  obtain ⟨hi, ⟨fd, F, hb, ok⟩⟩ := c.at hf
  have ead : He.fAd X.K fn.at_ = He.ga X.K x := by rw [ha0]; rfl
  rw [ead] at F ok
  refine ⟨fun pins s σ H Q I ⟨m, env, vh, kx, kd, hr, er, h, ho, ox⟩ => ?_⟩
  refine wpAny_Call_Name_kw (ld_glob I hg hm ?_ hdb)
  exact PySem.W.callWith_K0 I.kIn F.kp (run_fnS (us := []) ok (c.room.mono (by omega)) hb (L2N.passAt tk σ) I .nil (spV_at (m0 := m) (H0 := H) hr Reps.nil hf hi h ho ox))
/-- how a call with keywords binds; perm: the parameters' order -/
structure KwOk (fn : Fn) (n : Nat) (ks : List Str) (g : {α : Type} → List α → List α → List α) : Prop where
  to : ∀ (kV doc pm : Value) (an : Option Addr) (cdv ct : Value) (us ws : List Value), us.length = n → ws.length = ks.length → bindArgs (PySem.W.fnOf fn.name fn.qual (defArgs fn.st) (defBody fn.st) (defScope fn.st) .none kV doc pm an cdv ct) ⟨us, ks.zip ws⟩ = pure (fn.ps.zip (g us ws))
  rel : ∀ {vs zs : List V} {us ws : List Value}, Vals vs us → Vals zs ws → Vals (g vs zs) (g us ws)
  reps : ∀ {K : PySem.W.Frag} {m : Map} {H : Hp} {ds es : List D} {vs zs : List V}, Reps K m H ds vs → Reps K m H es zs → Reps K m H (g ds es) (g vs zs)
def sCallK (C : Calls) (f n l : Nat) (g : List D → List D → List D) (t tk : SemA) : SemE := fun env vh kx kd => t env vh kx fun ds vh' => tk env vh' kx fun es vh'' => ds.length = n ∧ es.length = l ∧ C f (g ds es) vh'' kx kd
/-- the keywords' values -/
def SK (X : Cx) (W : WX) (sem : SemA) (kws : List Keyword) : Prop := PK X kws (tA X.K W sem)
theorem sk_nil : SK X W sNil [] := ⟨fun pos pins s σ H Q I ⟨m, env, vh, kx, kd, hr, er, h, ho, ox⟩ => pk_nil.run pos pins s σ H Q I (ho m vh H [] [] (Step.refl _ _) hr Reps.nil h)⟩
theorem sk_cons {nm : Option Str} {kpos : Pos} {kws : List Keyword} (he : SE X W se e) (hs : SK X W sl kws) : SK X W (sCons se sl) (⟨nm, e, kpos⟩ :: kws) :=
  ⟨fun pos pins s σ H Q I ⟨m, env, vh, kx, kd, hr, er, h, ho, ox⟩ => (pk_cons he hs).run pos pins s σ H Q I (by
    refine tE.go hr er ox h fun m1 vh1 H1 d1 v1 s1 hr1 er1 ox1 r1 k1 => ?_
    refine tA.go hr1 er1 ox1 k1 fun m2 vh2 H2 ds vs s2 hr2 er2 ox2 r2 k2 => ?_
    exact ho m2 vh2 H2 (d1 :: ds) (v1 :: vs) (s1.trans s2) hr2 (Reps.cons (Rep.step hr1 s2 _ _ r1) r2) k2)⟩
theorem run_fnkS {CX : CXT} {j : Nat} {fa : Addr} {fd : FuncData} {ps ks : List Str} {sp : Sp} {E : L2.St → XK} {pins : List (Addr × Obj)} {σ : L2.St} {H : Hp} {s : Shared} {Q : VK} {us ws zs : List Value} {vs : List V} (F : FnOk X.prog X.w X.K X.mg X.base CX j fa fd ps sp) (hr : Room j X.A)
    (hb : BindsTo s fd ⟨us, ks.zip ws⟩ (ps.zip zs)) (hx : PassesAt CX X σ (E σ)) (I : Inv X pins σ H s) (r : Vals vs zs) (h : sp vs H Q (E σ)) : wpAny (model X.prog X.w) X.A (call (.ref fa) us (ks.zip ws)) (EP X pins σ Q) X.xe s := by
  refine wpAny_call (codeAny_mono (F.run X.A X.stack s H ⟨us, ks.zip ws⟩ zs vs Q (E σ) hr I.env0 hb r h) fun r s' hq => ?_)
  cases r with
  | error e => exact hx pins H s e s' I hq
  | ok fl =>
    cases fl with
    | ret u => exact I.after hq
    | next => exact False.elim hq
    | brk => exact False.elim hq
    | cont => exact False.elim hq
theorem binds_kw {n : Nat} {ks : List Str} {g : {α : Type} → List α → List α → List α} {K : PySem.W.Frag} {fd : FuncData} {fa : Addr} (F : FunD K fn.name fn.qual (defArgs fn.st) (defBody fn.st) (defScope fn.st) [] [] fa fd) (kw : KwOk fn n ks @g) (s : Shared) {us ws : List Value} (h1 : us.length = n) (h2 : ws.length = ks.length) :
    BindsTo s fd ⟨us, ks.zip ws⟩ (fn.ps.zip (g us ws)) := by
  obtain ⟨oc, od, dV, kV, doc, pm, an, cdv, ct, osl, rfl, lk, hcd, hD, hK⟩ := F.ex
  rcases hD with ⟨_, rfl⟩ | ⟨e, _⟩
  · exact .of_eq (kw.to kV doc pm an cdv ct us ws h1 h2)
  · exact absurd rfl e
/-- f(e, .., k = v, ..) -/
theorem se_callK {kws : List Keyword} {ks : List Str} {n : Nat} {g : {α : Type} → List α → List α → List α} {tk' : SemA} (c : CxF X T hots k) (tk : L2N.Takes X W) (hf : T f = some fn) (ha0 : fn.at_ = (x, none)) (kw : KwOk fn n ks @g) (hg : Gl X x) (hm : X.mg x = some (.ref (He.ga X.K x))) (ha : SA X W sl (e :: es)) (hkw : SK X W tk' kws)
    (hall : (backToKw pos (keywordEach kws X.env)).all (·.1.isSome) = true := by rfl) (hks : (backToKw pos (keywordEach kws X.env)).filterMap (·.1) = ks := by rfl)
    (hdb : (x == ("__debug__" : Str)) = false := by decide) (he : starEach (e :: es) X.env = (false, eval e X.env) :: starEach es X.env := by rfl)
    (hpl : ((backTo pos (starEach (e :: es) X.env)).any (·.1) || (backToKw pos (keywordEach kws X.env)).any (·.1.isNone)) = false := by rfl) :
    SE X W (sCallK (callN T k) f n ks.length g sl tk') (.Call (.Name x p) (e :: es) kws pos) := by
  obtain ⟨hi, ⟨fd, F, hb, ok⟩⟩ := c.at hf
  have ead : He.fAd X.K fn.at_ = He.ga X.K x := by rw [ha0]; rfl
  rw [ead] at F ok
  refine ⟨fun pins s σ H Q I ⟨m, env, vh, kx, kd, hr, er, h, ho, ox⟩ => ?_⟩
  refine wpAny_Call_Name_kw (ld_glob I hg hm ?_ hdb)
  have h0 : tA X.K W sl σ H (fun vs H1 => tA X.K W tk' σ H1 fun zs H2 => vs.length = n ∧ zs.length = ks.length ∧ spV X.K (callN T k) fn.id fn.ps.length (g vs zs) H2 Q (WE W σ)) :=
    tA.go hr er ox h fun m1 vh1 H1 ds vs s1 hr1 er1 ox1 r1 k1 => tA.go hr1 er1 ox1 k1 fun m2 vh2 H2 es zs s2 hr2 er2 ox2 r2 k2 =>
      ⟨by rw [← r1.len]; exact k2.1, by rw [← r2.len]; exact k2.2.1, spV_at (m0 := m) (H0 := H) hr2 (kw.reps (Reps.step hr1 s2 _ _ r1) r2) hf hi k2.2.2 (ho.step (s1.trans s2)) ox2⟩
  refine PySem.W.callWith_KW (h₀ := X.base) I.ok.mod.kin F.kp hall (thn (ha.run pos pins s σ H _ I h0) fun us s1 ⟨vs, H1, I1, r, q⟩ => ?_) hpl he
  refine thn (hkw.run pos pins s1 σ H1 _ I1 q) fun ws s2 ⟨zs, H2, I2, rz, l1, l2, q2⟩ => ⟨I2.kIn, ?_⟩
  rw [hks]
  exact run_fnkS (E := WE W) ok (c.room.mono (by omega)) (binds_kw F @kw s2 (r.length.symm.trans l1) (rz.length.symm.trans l2)) (L2N.passAt tk σ) I2 (kw.rel r rz) q2
/-- f(k = v, ..): no positional argument -/
theorem se_callK0 {kws : List Keyword} {ks : List Str} {g : {α : Type} → List α → List α → List α} {tk' : SemA} (c : CxF X T hots k) (tk : L2N.Takes X W) (hf : T f = some fn) (ha0 : fn.at_ = (x, none)) (kw : KwOk fn 0 ks @g) (hg : Gl X x) (hm : X.mg x = some (.ref (He.ga X.K x))) (hkw : SK X W tk' kws)
    (hall : (backToKw pos (keywordEach kws X.env)).all (·.1.isSome) = true := by rfl) (hks : (backToKw pos (keywordEach kws X.env)).filterMap (·.1) = ks := by rfl)
    (hdb : (x == ("__debug__" : Str)) = false := by decide)
    (hpl : ((backTo pos (starEach [] X.env)).any (·.1) || (backToKw pos (keywordEach kws X.env)).any (·.1.isNone)) = false := by rfl) :
    SE X W (sCallK (callN T k) f 0 ks.length g sNil tk') (.Call (.Name x p) [] kws pos) := by
  obtain ⟨hi, ⟨fd, F, hb, ok⟩⟩ := c.at hf
  have ead : He.fAd X.K fn.at_ = He.ga X.K x := by rw [ha0]; rfl
  rw [ead] at F ok
  refine ⟨fun pins s σ H Q I ⟨m, env, vh, kx, kd, hr, er, h, ho, ox⟩ => ?_⟩
  refine wpAny_Call_Name_kw (ld_glob I hg hm ?_ hdb)
  have h0 : tA X.K W tk' σ H fun zs H2 => zs.length = ks.length ∧ spV X.K (callN T k) fn.id fn.ps.length (g [] zs) H2 Q (WE W σ) :=
    tA.go hr er ox h fun m2 vh2 H2 es zs s2 hr2 er2 ox2 r2 k2 =>
      ⟨by rw [← r2.len]; exact k2.2.1, spV_at (m0 := m) (H0 := H) hr2 (kw.reps Reps.nil r2) hf hi k2.2.2 (ho.step s2) ox2⟩
  refine PySem.W.callWith_KW0 (h₀ := X.base) I.ok.mod.kin F.kp hall (thn (hkw.run pos pins s σ H _ I h0) fun ws s2 ⟨zs, H2, I2, rz, l2, q2⟩ => ⟨I2.kIn, ?_⟩) hpl
  rw [hks]
  exact run_fnkS (E := WE W) ok (c.room.mono (by omega)) (binds_kw F @kw s2 rfl (rz.length.symm.trans l2)) (L2N.passAt tk σ) I2 (kw.rel .nil rz) q2
/-! ### instances -/
@[reducible] def oview (vh : VH) : D → Option (Str × List Str × List D)
  | .obj c ns ds => some (c, ns, ds)
  | .ref p => match vh[p]? with
    | some (.ins c ns ds) => some (c, ns, ds)
    | _ => none
  | _ => none
theorem oview_rep {K : PySem.W.Frag} {m : Map} {H : Hp} {vh : VH} (hr : Hr K m H vh) {d : D} {v : V} {c : Str} {ns : List Str} {ds : List D} (r : Rep K m H d v) (e : oview vh d = some (c, ns, ds)) : ∃ a dx fs, v = .ref a ∧ H a = some (.ins (He.ga K c) dx fs) ∧ fs.map (·.1) = ns ∧ Reps K m H ds (fs.map (·.2)) := by
  cases d with
  | obj c' ns' ds' =>
    simp only [Rep] at r
    cases e
    obtain ⟨a, dx, fs, e1, e2, _, e3, r⟩ := r
    exact ⟨a, dx, fs, e1, e2, e3, r⟩
  | ref p =>
    simp only [Rep] at r
    obtain ⟨a, e1, e2⟩ := r
    simp only [oview] at e
    cases q : vh[p]? with
    | none => rw [q] at e; cases e
    | some c' =>
      rw [q] at e
      cases c' with
      | lst _ => cases e
      | ins c' ns' ds' =>
        cases e
        obtain ⟨dx, fs, e3, e4, r⟩ := hr.ats p _ a q e2
        exact ⟨a, dx, fs, e1, e3, e4, r⟩
  | _ => cases e
theorem lookup_none {f : Str} : ∀ {fs : List (Str × V)}, f ∉ fs.map (·.1) → fs.lookup f = none
  | [], _ => rfl
  | (g, v) :: r, h => by
    have h1 : f ≠ g := fun z => h (by rw [z]; exact List.mem_cons_self)
    have h2 : f ∉ r.map (·.1) := fun z => h (List.mem_cons_of_mem _ z)
    rw [List.lookup_cons, beq_eq_false_iff_ne.mpr h1]
    exact lookup_none h2
theorem lookup_ix {f : Str} : ∀ {fs : List (Str × V)} {j : Nat} {v : V}, f ∉ (fs.map (·.1)).take j → (fs.map (·.1))[j]? = some f → (fs.map (·.2))[j]? = some v → fs.lookup f = some v
  | [], j, v, _, h, _ => by simp at h
  | (g, x) :: r, 0, v, _, h1, h2 => by
    simp at h1 h2
    subst h1; subst h2
    rw [List.lookup_cons, beq_self_eq_true]
  | (g, x) :: r, j + 1, v, hn, h1, h2 => by
    have n1 : f ≠ g := fun z => hn (by rw [z]; simp)
    have n2 : f ∉ (r.map (·.1)).take j := fun z => hn (by simp [z])
    rw [List.lookup_cons, beq_eq_false_iff_ne.mpr n1]
    exact lookup_ix (j := j) n2 (by simpa using h1) (by simpa using h2)
/-- o.f: the j-th field; L: the names up to it -/
def sFld (c : Str) (L : List Str) (j : Nat) (s : SemE) : SemE := fun env vh kx kd => s env vh kx fun d vh' => match oview vh' d with
  | some (c', ns, ds) => c' = c ∧ ns.take (j + 1) = L ∧ ∃ d', ds[j]? = some d' ∧ kd d' vh'
  | none => False
theorem se_fld {fl c : Str} {L : List Str} {j : Nat} (cl : Cls X.K (He.ga X.K c)) (na : NoAttr X.K (He.ga X.K c) fl) (hL : L[j]? = some fl) (hn : fl ∉ L.take j) (ho : SE X W so o) (hb : attributeBase o fl X.env (eval o X.env) = eval o X.env := by rfl) : SE X W (sFld c L j so) (.Attribute o fl pos) := by
  refine peImp (pe_fld ho hb) fun σ H Q ⟨m, env, vh, kx, kd, hr, er, h, ho, ox⟩ => ?_
  refine tE.go hr er ox h fun m1 vh1 H1 d v s1 hr1 er1 ox1 r1 k1 => ?_
  cases e : oview vh1 d with
  | none => rw [e] at k1; exact k1.elim
  | some q =>
    obtain ⟨c', ns, ds⟩ := q
    rw [e] at k1
    obtain ⟨rfl, eL, d', ed, kk⟩ := k1
    obtain ⟨a, dx, fs, ev, ea, en, rs⟩ := oview_rep hr1 r1 e
    obtain ⟨v', ev', rv⟩ := rs.get ed
    refine ⟨a, _, dx, fs, v', ev, ea, cl, na, lookup_ix (j := j) ?_ ?_ ev', ho m1 vh1 H1 d' v' s1 hr1 rv kk⟩
    · rw [en]
      have : ns.take j = L.take j := by rw [← eL, List.take_take, Nat.min_eq_left (Nat.le_succ j)]
      rw [this]; exact hn
    · rw [en]
      have : (ns.take (j + 1))[j]? = some fl := by rw [eL]; exact hL
      rw [List.getElem?_take_of_lt (Nat.lt_succ_self j)] at this
      exact this
/-- o.m(..) -/
def sMeth (C : Calls) (c mt : Str) (f : Nat) (so : SemE) (t : SemA) : SemE := fun env vh kx kd => so env vh kx fun d vh1 => match oview vh1 d with
  | some (c', ns, _) => c' = c ∧ mt ∉ ns ∧ t env vh1 kx fun ds vh2 => C f (d :: ds) vh2 kx kd
  | none => False
variable {mt c : Str}
theorem tMeth_of {a : Addr} (cx : CxF X T hots k) (hf : T f = some fn) (hi : fn.id = f) {σ : L2.St} {H : Hp} {Q : VK} (h : tE X.K W (sMeth (callN T k) c mt f so sl) σ H Q) :
    tE X.K W so σ H fun x H1 => ∃ a dx fs, x = .ref a ∧ H1 a = some (.ins (He.ga X.K c) dx fs) ∧ fs.lookup mt = none ∧ tA X.K W sl σ H1 fun vs H2 => spV X.K (callN T k) fn.id fn.ps.length (x :: vs) H2 Q (WE W σ) := by
  obtain ⟨m, env, vh, kx, kd, hr, er, h, ho, ox⟩ := h
  refine tE.go hr er ox h fun m1 vh1 H1 d v s1 hr1 er1 ox1 r1 k1 => ?_
  cases e : oview vh1 d with
  | none => rw [e] at k1; exact k1.elim
  | some q =>
    obtain ⟨c', ns, ds⟩ := q
    rw [e] at k1
    obtain ⟨rfl, en0, kk⟩ := k1
    obtain ⟨a, dx, fs, ev, ea, en, rs⟩ := oview_rep hr1 r1 e
    refine ⟨a, dx, fs, ev, ea, lookup_none (by rw [en]; exact en0), ?_⟩
    exact tA.go hr1 er1 ox1 kk fun m2 vh2 H2 es vs s2 hr2 er2 ox2 r2 k2 => spV_at (m0 := m) (H0 := H) hr2 (Reps.cons (Rep.step hr1 s2 _ _ r1) r2) hf hi k2 (ho.step (s1.trans s2)) ox2
theorem se_meth {pl : Sem Bool} (cx : CxF X T hots k) (tk : L2N.Takes X W) (hf : T f = some fn) (ha0 : fn.at_ = (c, some mt)) (cl : Cls X.K (He.ga X.K c)) (hm : Meth X.K (He.ga X.K c) mt (He.ma X.K (He.ga X.K c) mt)) (ho : SE X W so o) (ha : SA X W sl (e :: es))
    (hst : starEach (e :: es) X.env = (false, eval e X.env) :: starEach es X.env := by rfl) (hpl : (backTo pos (starEach es X.env)).any (·.1) = false := by rfl)
    (ht : eval (.Call (.Attribute o mt apos) (e :: es) [] pos) X.env = (do
      let ov ← eval o X.env
      standAt apos.atName
      let (f, first) ← holding [ov] (getMethod ov mt pl)
      callWith pos f first (backTo pos (starEach (e :: es) X.env)) (backToKw pos (keywordEach [] X.env))) := by rfl) :
    SE X W (sMeth (callN T k) c mt f so sl) (.Call (.Attribute o mt apos) (e :: es) [] pos) := by
  obtain ⟨hi, ⟨fd, F, hb, ok⟩⟩ := cx.at hf
  have ead : He.fAd X.K fn.at_ = He.ma X.K (He.ga X.K c) mt := by rw [ha0]; rfl
  rw [ead] at F ok
  refine ⟨fun pins s σ H Q I h => ?_⟩
  have h0 := tMeth_of (a := 0) cx hf hi h
  refine PySem.W.methodCall_KW (pl := pl) (thn (ho.run pins s σ H _ I h0) fun u s1 ⟨x, H1, I1, rx, a, dx, fs, ex, ea, l, q⟩ => ?_) ht
  subst ex
  obtain rfl : u = Value.ref a := rx
  refine getmeth_ok I1 ea cl hm l ?_
  refine PySem.W.callWith_K (first := [.ref a]) (h₀ := X.base) I.ok.mod.kin hm.kp (thn (ha.run pos pins s1 σ H1 _ I1 q) fun us s2 ⟨vs, H2, I2, r, q2⟩ => ⟨I2.kIn, ?_⟩) hst hpl
  exact run_fnS (E := WE W) (us := .ref a :: us) (vs := .ref a :: vs) ok (cx.room.mono (by omega)) hb (L2N.passAt tk σ) I2 (.cons rfl r) q2
theorem se_meth0 {pl : Sem Bool} (cx : CxF X T hots k) (tk : L2N.Takes X W) (hf : T f = some fn) (ha0 : fn.at_ = (c, some mt)) (cl : Cls X.K (He.ga X.K c)) (hm : Meth X.K (He.ga X.K c) mt (He.ma X.K (He.ga X.K c) mt)) (ho : SE X W so o)
    (ht : eval (.Call (.Attribute o mt apos) [] [] pos) X.env = (do
      let ov ← eval o X.env
      standAt apos.atName
      let (f, first) ← holding [ov] (getMethod ov mt pl)
      callWith pos f first (backTo pos (starEach [] X.env)) (backToKw pos (keywordEach [] X.env))) := by rfl) :
    SE X W (sMeth (callN T k) c mt f so sNil) (.Call (.Attribute o mt apos) [] [] pos) := by
  obtain ⟨hi, ⟨fd, F, hb, ok⟩⟩ := cx.at hf
  have ead : He.fAd X.K fn.at_ = He.ma X.K (He.ga X.K c) mt := by rw [ha0]; rfl
  rw [ead] at F ok
  refine ⟨fun pins s σ H Q I h => ?_⟩
  have h0 := tMeth_of (a := 0) cx hf hi h
  refine PySem.W.methodCall_KW (pl := pl) (thn (ho.run pins s σ H _ I h0) fun u s1 ⟨x, H1, I1, rx, a, dx, fs, ex, ea, l, q⟩ => ?_) ht
  subst ex
  obtain rfl : u = Value.ref a := rx
  refine getmeth_ok I1 ea cl hm l ?_
  refine PySem.W.callWith_K0 (first := [.ref a]) I1.kIn hm.kp ?_
  have q3 : spV X.K (callN T k) fn.id fn.ps.length [.ref a] H1 Q (WE W σ) := by
    obtain ⟨m, env, vh, kx, kd, hr, er, h, ho, ox⟩ := q
    exact ho m vh H1 [] [] (Step.refl _ _) hr Reps.nil h
  exact run_fnS (E := WE W) (us := [.ref a]) (vs := [.ref a]) ok (cx.room.mono (by omega)) hb (L2N.passAt tk σ) I1 (.cons rfl .nil) q3
end
end VI

end
section
/-! VI9: new instances, stores, raise, try. -/
namespace VI
open PySem PySem.Spec L2
open PyProof.Rows hiding St

/-! ### C(..) -/
/-- behind __init__: the instance is frozen, or stays a cell -/
@[reducible] def newEnd (frz : Bool) (vh1 : VH) (kd : KD) : KD := match frz with
  | true => fun d vh2 => d = .non ∧ ∃ g d', vh2 = vh1 ++ g ∧ Frz vh2 vh1.length (.ref vh1.length) d' ∧ kd d' vh1
  | false => fun d vh2 => d = .non ∧ kd (.ref vh1.length) vh2
@[reducible] def newEx (vh1 : VH) (kx : KX) : KX := fun ex h' => ∃ g es, h' = vh1 ++ g ∧ Frzs h' vh1.length ex.ds es ∧ kx ⟨ex.c, ex.ns, es⟩ vh1
def sNew (C : Calls) (frz : Bool) (c : Str) (f : Nat) (t : SemA) : SemE := fun env vh kx kd => t env vh kx fun ds vh1 => C f (.ref vh1.length :: ds) (vh1 ++ [.ins c [] []]) (newEx vh1 kx) (newEnd frz vh1 kd)
section
variable {X : Cx} {W : WX} {T : Nat → Option Fn} {hots : List Nat} {k : Nat} {fn : Fn} {x c : Str} {p pos apos : Pos} {e o : Expr} {es : List Expr} {sl : SemA} {so se : SemE} {f : Nat}
theorem run_makeS {CX : CXT} {j : Nat} {fa C : Addr} {fd : FuncData} {ps : List Str} {sp : Sp} {E : L2.St → XK} {pins : List (Addr × Obj)} {σ : L2.St} {H : Hp} {s : Shared} {Q : VK} {us : List Value} {vs : List V} (M : Mk X.K C fa) (F : FnOk X.prog X.w X.K X.mg X.base CX j fa fd ps sp) (hr : Room (j + 1) X.A) (hb : Binds X.K fd ps [])
    (hx : PassesAt CX X σ (E σ)) (I : Inv X pins σ H s) (r : Vals vs us)
    (h : ∀ x dx, H x = none → H dx = none → dx ≠ x → sp (.ref x :: vs) (upd (upd H dx (.own x)) x (.ins C dx [])) (fun v H2 => v = .non ∧ Q (.ref x) H2) (E σ)) :
    wpAny (model X.prog X.w) X.A (call (.ref C) us) (EP X pins σ Q) X.xe s := by
  have hq := h (s.heap.objs.size + 1) s.heap.objs.size (I.hok.fresh (Nat.le_succ _)) (I.hok.fresh (Nat.le_refl _)) (Nat.ne_of_lt (Nat.lt_succ_self _))
  have I2 := Inv.made (C := C) I
  have r2 : Vals (V.ref (s.heap.objs.size + 1) :: vs) (Value.ref (s.heap.objs.size + 1) :: us) := .cons rfl r
  have hl : (Value.ref (s.heap.objs.size + 1) :: us).length = ps.length := by
    have e := r2.length
    rw [F.len _ _ _ _ hq] at e
    exact e.symm
  have b := hb _ (Value.ref (s.heap.objs.size + 1) :: us) I2.kIn (by rw [List.append_nil]; exact hl)
  rw [List.append_nil] at b
  refine wpAny_call (make_map (f := fa) I.kIn M.makes M.init (beq_iff_eq.mp M.fn) (codeAny_mono (F.run _ X.stack _ _ ⟨Value.ref (s.heap.objs.size + 1) :: us, []⟩ (Value.ref (s.heap.objs.size + 1) :: us) _ _ (E σ) (hr.make C us [])
    (I2.env0.make C us []) b r2 hq) fun r s' hq' => ?_))
  cases r with
  | error e => exact hx pins _ _ e s' I2 hq'
  | ok fl =>
    cases fl with
    | ret u =>
      obtain ⟨v, H', I3, rv, ev, q3⟩ := I2.after hq'
      subst ev
      exact ⟨rv, ⟨V.ref (s.heap.objs.size + 1), H', I3, rfl, q3⟩⟩
    | next => exact False.elim hq'
    | brk => exact False.elim hq'
    | cont => exact False.elim hq'
theorem new_of {frz : Bool} (cx : CxF X T hots k) (hf : T f = some fn) (hi : fn.id = f) {m : Map} {H : Hp} {vh : VH} {ds : List D} {vs : List V} {kx : KX} {kd : KD} {Q : VK} {σ : L2.St} (hr : Hr X.K m H vh) (r : Reps X.K m H ds vs)
    (hc : callN T k f (.ref vh.length :: ds) (vh ++ [.ins c [] []]) (newEx vh kx) (newEnd frz vh kd)) (ho : Out X.K m H kd Q) (ox : OutX X.K m H W σ kx) (x dx : Addr) (hx : H x = none) (hdx : H dx = none) (hne : dx ≠ x) :
    spV X.K (callN T k) fn.id fn.ps.length (.ref x :: vs) (upd (upd H dx (.own x)) x (.ins (He.ga X.K c) dx [])) (fun v H2 => v = .non ∧ Q (.ref x) H2) (WE W σ) := by
  have s1 := Step.same (m := m) (same_new (o := .own x) hdx)
  have hr1 := hr.same (same_new (o := .own x) hdx)
  have hx1 : upd H dx (.own x) x = none := by rw [upd_ne (Ne.symm hne)]; exact hx
  have s2 := push_step (o := .ins (He.ga X.K c) dx []) hr1 hx1
  have hr2 := hr1.push (c := .ins c [] []) (o := .ins (He.ga X.K c) dx []) hx1 ⟨dx, [], upd_same, rfl, Reps.nil⟩
  have st := s1.trans s2
  have rs : Reps X.K (m.push vh.length x) (upd (upd H dx (.own x)) x (.ins (He.ga X.K c) dx [])) (.ref vh.length :: ds) (.ref x :: vs) :=
    Reps.cons (by simp only [Rep]; exact ⟨x, rfl, if_pos rfl⟩) (Reps.step hr st _ _ r)
  refine spV_at (m0 := m) (H0 := H) hr2 rs hf hi hc (fun m' vh' H' d v s' h' rv kk => ?_) (fun m' vh' H' ex cls dd s' h' rx kk => ?_)
  · have st' := st.trans s'
    cases frz with
    | false =>
      obtain ⟨rfl, kk⟩ := kk
      have e : v = .non := rv
      refine ⟨e, ho m' vh' H' (.ref vh.length) (.ref x) st' h' ?_ kk⟩
      simp only [Rep]
      exact ⟨x, rfl, s'.2.1 _ _ (if_pos rfl)⟩
    | true =>
      obtain ⟨rfl, g, d', e, fz, kk⟩ := kk
      have ev : v = .non := rv
      subst e
      obtain ⟨h1, s3⟩ := hr.trim st' h'
      refine ⟨ev, ho m vh H' d' (.ref x) s3 h1 (Frz.rep hr st' h' fz ?_) kk⟩
      simp only [Rep]
      exact ⟨x, rfl, s'.2.1 _ _ (if_pos rfl)⟩
  · obtain ⟨g, es, e, fz, kk⟩ := kk
    subst e
    have st' := st.trans s'
    obtain ⟨h1, s3⟩ := hr.trim st' h'
    obtain ⟨e1, a, fs, e2, e3, e4, rs⟩ := rx
    exact ox m vh H' ⟨ex.c, ex.ns, es⟩ cls dd s3 h1 ⟨e1, a, fs, e2, e3, e4, Frzs.rep hr st' h' fz rs⟩ kk
theorem se_new (frz : Bool) (cx : CxF X T hots k) (tk : L2N.Takes X W) (hf : T f = some fn) (ha0 : fn.at_ = (c, some ("__init__" : Str))) (M : Mk X.K (He.ga X.K c) (He.ma X.K (He.ga X.K c) "__init__")) (hg : Gl X c) (hm : X.mg c = some (.ref (He.ga X.K c))) (ha : SA X W sl (e :: es)) (hdb : (c == ("__debug__" : Str)) = false := by decide)
    (he : starEach (e :: es) X.env = (false, eval e X.env) :: starEach es X.env := by rfl) (hpl : (backTo pos (starEach es X.env)).any (·.1) = false := by rfl) : SE X W (sNew (callN T k) frz c f sl) (.Call (.Name c p) (e :: es) [] pos) := by
  obtain ⟨hi, ⟨fd, F, hb, ok⟩⟩ := cx.at hf
  have ead : He.fAd X.K fn.at_ = He.ma X.K (He.ga X.K c) "__init__" := by rw [ha0]; rfl
  rw [ead] at F ok
  refine ⟨fun pins s σ H Q I ⟨m, env, vh, kx, kd, hr, er, h, ho, ox⟩ => ?_⟩
  refine wpAny_Call_Name_kw (ld_glob I hg hm ?_ hdb)
  have h0 : tA X.K W sl σ H (fun vs H1 => ∀ x dx, H1 x = none → H1 dx = none → dx ≠ x → spV X.K (callN T k) fn.id fn.ps.length (.ref x :: vs) (upd (upd H1 dx (.own x)) x (.ins (He.ga X.K c) dx [])) (fun v H2 => v = .non ∧ Q (.ref x) H2) (WE W σ)) :=
    tA.go hr er ox h fun m1 vh1 H1 ds vs s1 hr1 er1 ox1 r1 k1 => new_of cx hf hi hr1 r1 k1 (ho.step s1) ox1
  refine PySem.W.callWith_K (h₀ := X.base) I.ok.mod.kin M.kp (thn (ha.run pos pins s σ H _ I h0) fun us s1 ⟨vs, H1, I1, r, q⟩ => ⟨I1.kIn, ?_⟩) he hpl
  exact run_makeS (E := WE W) M ok (cx.room.mono (by omega)) hb (L2N.passAt tk σ) I1 r q
/-! ### o.f = e -/
theorem putF_new {fl : Str} {v : V} : ∀ {fs : List (Str × V)}, fl ∉ fs.map (·.1) → putF fl v fs = fs ++ [(fl, v)]
  | [], _ => rfl
  | (g, y) :: r, h => by
    have h1 : ¬ g = fl := fun z => h (by rw [z]; exact List.mem_cons_self)
    have h2 : fl ∉ r.map (·.1) := fun z => h (List.mem_cons_of_mem _ z)
    show (if g = fl then (g, v) :: r else (g, y) :: putF fl v r) = _
    rw [if_neg h1, putF_new h2]
    rfl
theorem putF_old {fl : Str} {v : V} : ∀ {fs : List (Str × V)} {j : Nat}, fl ∉ (fs.map (·.1)).take j → (fs.map (·.1))[j]? = some fl → (putF fl v fs).map (·.1) = fs.map (·.1) ∧ (putF fl v fs).map (·.2) = (fs.map (·.2)).set j v
  | [], j, _, h => by simp at h
  | (g, y) :: r, 0, _, h => by
    simp at h
    subst h
    show ((if g = g then (g, v) :: r else (g, y) :: putF g v r).map (·.1) = _) ∧ ((if g = g then (g, v) :: r else (g, y) :: putF g v r).map (·.2) = _)
    rw [if_pos rfl]
    exact ⟨rfl, rfl⟩
  | (g, y) :: r, j + 1, hn, h => by
    have n1 : ¬ g = fl := fun z => hn (by rw [← z]; simp)
    have n2 : fl ∉ (r.map (·.1)).take j := fun z => hn (by simp [z])
    obtain ⟨i1, i2⟩ := putF_old (v := v) (j := j) n2 (by simpa using h)
    show ((if g = fl then (g, v) :: r else (g, y) :: putF fl v r).map (·.1) = _) ∧ ((if g = fl then (g, v) :: r else (g, y) :: putF fl v r).map (·.2) = _)
    rw [if_neg n1]
    exact ⟨by rw [List.map_cons, List.map_cons, i1], by rw [List.map_cons, i2]; rfl⟩
/-- a field that is new: L the names there are; a field that is the j-th: L the names up to it -/
def sPutNew (c : Str) (L : List Str) (fl : Str) (so se : SemE) : SemS := fun env vh k => se env vh (fun e h => k.ex e env h) fun d vh1 => so env vh1 (fun e h => k.ex e env h) fun od vh2 => match od with
  | .ref p => ∃ ds, vh2[p]? = some (.ins c L ds) ∧ k.nx env (vh2.set p (.ins c (L ++ [fl]) (ds ++ [d])))
  | _ => False
def sPutOld (c : Str) (L : List Str) (j : Nat) (so se : SemE) : SemS := fun env vh k => se env vh (fun e h => k.ex e env h) fun d vh1 => so env vh1 (fun e h => k.ex e env h) fun od vh2 => match od with
  | .ref p => ∃ ns ds, vh2[p]? = some (.ins c ns ds) ∧ ns.take (j + 1) = L ∧ ns.length < 1000 ∧ k.nx env (vh2.set p (.ins c ns (ds.set j d)))
  | _ => False
theorem ss_putNew {fl : Str} {L : List Str} {pos' : Pos} (cl : Cls X.K (He.ga X.K c)) (na : NoAttr X.K (He.ga X.K c) fl) (hn : fl ∉ L) (hl : L.length < 1000) (ho : SE X W so o) (he : SE X W se e) (hs : swapsWith e (some (.Attribute o fl pos')) pos.line X.env = pure false := by rfl) : SS X W (sPutNew c L fl so se) (.Assign [.Attribute o fl pos'] e pos) := by
  refine psImp (ps_fld ho he hs) fun Dn σ H ⟨m, env, vh, k, hr, er, h, o⟩ => ?_
  refine tE.goS hr er o h fun m1 vh1 H1 d v s1 hr1 er1 o1 r1 k1 => ?_
  refine tE.goS hr1 er1 o1 k1 fun m2 vh2 H2 od ov s2 hr2 er2 o2 r2 k2 => ?_
  cases od with
  | ref p =>
    simp only [Rep] at r2
    obtain ⟨a, ev, ea⟩ := r2
    obtain ⟨ds, ec, kk⟩ := k2
    obtain ⟨dx, fs, eH, en, rs⟩ := hr2.ats p _ a ec ea
    have hfl : fs.length = L.length := by rw [← en, List.length_map]
    have hnew : fl ∉ fs.map (·.1) := by rw [en]; exact hn
    refine ⟨a, _, dx, fs, ev, eH, cl, na, by rw [hfl]; exact hl, ?_⟩
    rw [putF_new hnew]
    have st := set_step (H := H2) (o := .ins (He.ga X.K c) dx (fs ++ [(fl, v)])) ea
    have rd : Rep X.K m2 H2 d v := Rep.step hr1 s2 _ _ r1
    refine o2.nx m2 _ _ env σ st (hr2.set (c := .ins c (L ++ [fl]) (ds ++ [d])) ea ⟨dx, _, upd_same, ?_, ?_⟩) (er2.step hr2 st) kk
    · rw [List.map_append, en]; rfl
    · rw [List.map_append]
      exact Reps.step hr2 st _ _ (rs.app (Reps.one rd))
  | _ => exact k2.elim
theorem ss_putOld {fl : Str} {L : List Str} {j : Nat} {pos' : Pos} (cl : Cls X.K (He.ga X.K c)) (na : NoAttr X.K (He.ga X.K c) fl) (hL : L[j]? = some fl) (hn : fl ∉ L.take j) (ho : SE X W so o) (he : SE X W se e) (hs : swapsWith e (some (.Attribute o fl pos')) pos.line X.env = pure false := by rfl) : SS X W (sPutOld c L j so se) (.Assign [.Attribute o fl pos'] e pos) := by
  refine psImp (ps_fld ho he hs) fun Dn σ H ⟨m, env, vh, k, hr, er, h, o⟩ => ?_
  refine tE.goS hr er o h fun m1 vh1 H1 d v s1 hr1 er1 o1 r1 k1 => ?_
  refine tE.goS hr1 er1 o1 k1 fun m2 vh2 H2 od ov s2 hr2 er2 o2 r2 k2 => ?_
  cases od with
  | ref p =>
    simp only [Rep] at r2
    obtain ⟨a, ev, ea⟩ := r2
    obtain ⟨ns, ds, ec, eL, hlt, kk⟩ := k2
    obtain ⟨dx, fs, eH, en, rs⟩ := hr2.ats p _ a ec ea
    have hfl : fs.length = ns.length := by rw [← en, List.length_map]
    have h1 : fl ∉ (fs.map (·.1)).take j := by
      rw [en]
      have : ns.take j = L.take j := by rw [← eL, List.take_take, Nat.min_eq_left (Nat.le_succ j)]
      rw [this]; exact hn
    have h2 : (fs.map (·.1))[j]? = some fl := by
      rw [en]
      have : (ns.take (j + 1))[j]? = some fl := by rw [eL]; exact hL
      rw [List.getElem?_take_of_lt (Nat.lt_succ_self j)] at this
      exact this
    obtain ⟨p1, p2⟩ := putF_old (v := v) h1 h2
    refine ⟨a, _, dx, fs, ev, eH, cl, na, by rw [hfl]; exact hlt, ?_⟩
    have st := set_step (H := H2) (o := .ins (He.ga X.K c) dx (putF fl v fs)) ea
    have rd : Rep X.K m2 H2 d v := Rep.step hr1 s2 _ _ r1
    refine o2.nx m2 _ _ env σ st (hr2.set (c := .ins c ns (ds.set j d)) ea ⟨dx, _, upd_same, ?_, ?_⟩) (er2.step hr2 st) kk
    · rw [p1]; exact en
    · rw [p2]; exact Reps.step hr2 st _ _ (rs.set j rd)
  | _ => exact k2.elim
/-! ### xs[i] = e -/
def oPut (d od id : D) (vh : VH) (Qn : VH → Prop) : Prop := match od, id with
  | .ref p, .int i => ∃ ds j, vh[p]? = some (.lst ds) ∧ ixN ds.length i = some j ∧ Qn (vh.set p (.lst (ds.set j d)))
  | _, _ => False
def sPutL (se so si : SemE) : SemS := fun env vh k => se env vh (fun e h => k.ex e env h) fun d vh1 => so env vh1 (fun e h => k.ex e env h) fun od vh2 => si env vh2 (fun e h => k.ex e env h) fun id vh3 => oPut d od id vh3 (k.nx env)
theorem sPutL_inv {vh : VH} {d od id : D} {Qn : VH → Prop} (h : oPut d od id vh Qn) : ∃ p i ds j, od = .ref p ∧ id = .int i ∧ vh[p]? = some (.lst ds) ∧ ixN ds.length i = some j ∧ Qn (vh.set p (.lst (ds.set j d))) := by
  cases od with
  | ref p =>
    cases id with
    | int i => obtain ⟨ds, j, h1, h2, h3⟩ := h; exact ⟨p, i, ds, j, rfl, rfl, h1, h2, h3⟩
    | _ => exact h.elim
  | _ => exact h.elim
variable {i : Expr} {si : SemE}
theorem ss_putL {pos' : Pos} (he : SE X W se e) (ho : SE X W so o) (hi : SE X W si i) (hs : swapsWithSole [.Subscript o i pos'] e pos.line X.env = pure false := by rfl) (hw : swappedStores [.Subscript o i pos'] e X.env = pure none := by rfl)
    (h1 : (assignEach [.Subscript o i pos'] X.env).map (·.2) = [assign (.Subscript o i pos') X.env] := by rfl) (hsub : ∀ v, assign (.Subscript o i pos') X.env v = (do
      let ov ← holding [v] (eval o X.env)
      let iv ← holding [v, ov] (eval i X.env)
      standAt pos'
      holding [v, ov, iv] (setItem ov iv v)
      release [v, ov, iv] []) := by intro _; rfl) : SS X W (sPutL se so si) (.Assign [.Subscript o i pos'] e pos) := by
  refine psImp (ps_asg he (pg_sub ho hi set_list hsub) hs hw h1) fun Dn σ H ⟨m, env, vh, k, hr, er, h, o⟩ => ?_
  refine tE.goS hr er o h fun m1 vh1 H1 d v s1 hr1 er1 o1 r1 k1 => ?_
  refine tE.goS hr1 er1 o1 k1 fun m2 vh2 H2 od ov s2 hr2 er2 o2 r2 k2 => ?_
  refine tE.goS hr2 er2 o2 k2 fun m3 vh3 H3 id iv s3 hr3 er3 o3 r3 k3 => ?_
  obtain ⟨p, i, ds, j, rfl, rfl, ec, ej, kk⟩ := sPutL_inv (Qn := fun h => k.nx env h) k3
  have r2' := Rep.step hr2 s3 _ _ r2
  simp only [Rep] at r2' r3
  obtain ⟨a, ev, ea⟩ := r2'
  obtain ⟨xs, eH, rs⟩ := hr3.ats p _ a ec ea
  refine ⟨a, xs, i, j, ev, r3, eH, by rw [← rs.len]; exact ej, ?_⟩
  have st := set_step (H := H3) (o := .lst (xs.set j v)) ea
  have rd : Rep X.K m3 H3 d v := Rep.step hr2 s3 _ _ (Rep.step hr1 s2 _ _ r1)
  exact o3.nx m3 _ _ env σ st (hr3.set (c := .lst (ds.set j d)) ea ⟨_, upd_same, Reps.step hr3 st _ _ (rs.set j rd)⟩) (er3.step hr3 st) kk
/-! ### a op= e -/
def SnIp (K : PySem.W.Frag) (so : SO2) (t : TIp) : Prop := ∀ m H vh d1 d2 v1 v2 kd Q, Hr K m H vh → Rep K m H d1 v1 → Rep K m H d2 v2 → so d1 d2 vh kd → Out K m H kd Q → t v1 v2 H Q
def sAug (i : Nat) (op : SO2) (se : SemE) : SemS := fun env vh k => match look env i with
  | some d1 => se env vh (fun e h => k.ex e env h) fun d2 vh1 => op d1 d2 vh1 fun d vh2 => k.nx (env.set i (some d)) vh2
  | none => False
theorem ss_aug {j : Nat} {y : Str} {op : Operator} {ti : TIp} {sop : SO2} {pos' : Pos} (hN : X.N.Nodup) (hi : X.N[j]? = some y) (hx : Loc X.env.scope y) (he : SE X W se e) (hop : PIp X op ti) (hs : SnIp X.K sop ti) (hf : X.fn y = true ∨ X.env.scope.names.lookup y = some .local := by first | exact .inl rfl | exact .inr rfl | assumption) :
    SS X W (sAug j sop se) (.AugAssign (.Name y pos') op e pos) := by
  refine psImp (ps_aug hN hi hx he hop hf) fun Dn σ H ⟨m, env, vh, k, hr, er, h, o⟩ => ?_
  revert h
  show (match look env j with
  | some d1 => se env vh (fun e h => k.ex e env h) fun d2 vh1 => sop d1 d2 vh1 fun d vh2 => k.nx (env.set j (some d)) vh2
  | none => False) → _
  cases eq : look env j with
  | none => exact False.elim
  | some d1 =>
    intro h
    obtain ⟨v1, h1, r1⟩ := er.2 j d1 (look_at eq)
    refine ⟨v1, h1, tE.goS hr er o h fun m2 vh2 H2 d2 v2 s2 hr2 er2 o2 r2 k2 => ?_⟩
    refine hs m2 H2 vh2 d1 d2 v1 v2 _ _ hr2 (Rep.step hr s2 _ _ r1) r2 k2 fun m3 vh3 H3 d v s3 hr3 r3 k3 => ?_
    exact o2.nx m3 vh3 H3 _ _ s3 hr3 ((er2.step hr2 s3).set r3) k3
end
end VI

end
section
/-! VI10: operators. -/
namespace VI
open PySem PySem.Spec L2
open PyProof.Rows hiding St

section
variable {K : PySem.W.Frag}
/-! ### ints -/
def oI (C : Int → Int → Prop) (g : Int → Int → D) : SO2 := fun a b vh kd => match a, b with
  | .int i, .int j => C i j ∧ kd (g i j) vh
  | _, _ => False
def oI0 (g : Int → Int → D) : SO2 := fun a b vh kd => match a, b with
  | .int i, .int j => kd (g i j) vh
  | _, _ => False
theorem sn_I {C : Int → Int → Prop} {g : Int → Int → D} {gv : Int → Int → V} (hg : ∀ m H i j, Rep K m H (g i j) (gv i j)) : Sn2 K (oI C g) (rI C gv) := by
  intro m H vh d1 d2 v1 v2 kd Q hr r1 r2 h ho
  cases d1 with
  | int i =>
    cases d2 with
    | int j => exact ⟨i, j, r1, r2, h.1, ho m vh H _ _ (Step.refl _ _) hr (hg m H i j) h.2⟩
    | _ => exact h.elim
  | _ => exact h.elim
theorem sn_I0 {g : Int → Int → D} {gv : Int → Int → V} (hg : ∀ m H i j, Rep K m H (g i j) (gv i j)) : Sn2 K (oI0 g) (rI0 gv) := by
  intro m H vh d1 d2 v1 v2 kd Q hr r1 r2 h ho
  cases d1 with
  | int i =>
    cases d2 with
    | int j => exact ⟨i, j, r1, r2, ho m vh H _ _ (Step.refl _ _) hr (hg m H i j) h⟩
    | _ => exact h.elim
  | _ => exact h.elim
theorem Sn2.orL {so : SO2} {r r' : R2} (h : Sn2 K so r) : Sn2 K so (fun x y H Q => r x y H Q ∨ r' x y H Q) := fun m H vh d1 d2 v1 v2 kd Q hr r1 r2 hs ho => .inl (h m H vh d1 d2 v1 v2 kd Q hr r1 r2 hs ho)
def MulOk (i j : Int) : Prop := CMul i j ∨ CMulW i j
def oSub : SO2 := oI0 fun i j => .int (i - j)
def oFdiv : SO2 := oI CDivW fun i j => .int (i / j)
def oMod : SO2 := oI (fun _ j => 0 < j) fun i j => .int (i % j)
def oPow : SO2 := oI CPow fun i j => .int (i ^ j.toNat)
def oLt : SO2 := oI0 fun i j => .bl (decide (i < j))
def oLe : SO2 := oI0 fun i j => .bl (decide (i ≤ j))
def oGt : SO2 := oI0 fun i j => .bl (decide (j < i))
def oGe : SO2 := oI0 fun i j => .bl (decide (j ≤ i))
/-! ### + -/
def oCat (cell : Bool) : SO2 := fun a b vh kd => match lview vh a, lview vh b with
  | some xs, some ys => xs.length + ys.length ≤ 16777216 ∧ newL cell (xs ++ ys) vh kd
  | _, _ => False
theorem sn_cat (cell : Bool) : Sn2 K (oCat cell) rCat := by
  intro m H vh d1 d2 v1 v2 kd Q hr r1 r2 h ho
  revert h
  show (match lview vh d1, lview vh d2 with | some xs, some ys => xs.length + ys.length ≤ 16777216 ∧ newL cell (xs ++ ys) vh kd | _, _ => False) → _
  cases e1 : lview vh d1 with
  | none => exact False.elim
  | some xs =>
    cases e2 : lview vh d2 with
    | none => exact False.elim
    | some ys =>
      intro h
      obtain ⟨a, us, ev, ea, ru⟩ := lview_rep hr r1 e1
      obtain ⟨b, ws, ev2, eb, rw'⟩ := lview_rep hr r2 e2
      exact ⟨a, b, us, ws, ev, ev2, ea, eb, by rw [← ru.len, ← rw'.len, sizeLine_eq]; exact h.1, fun p hp => out_lst (cell := cell) hr (ru.app rw') h.2 ho hp⟩
def oAdd (cell : Bool) : SO2 := fun a b vh kd => match a, b with
  | .int i, .int j => kd (.int (i + j)) vh
  | .str x, .str y => x.length + y.length ≤ 16777216 ∧ kd (.str (x ++ y)) vh
  | .tup xs, .tup ys => xs.length + ys.length ≤ 16777216 ∧ kd (.tup (xs ++ ys)) vh
  | .lst xs, b => oCat cell (.lst xs) b vh kd
  | .ref p, b => oCat cell (.ref p) b vh kd
  | _, _ => False
def rAdd (K : PySem.W.Frag) : R2 := fun x y H Q => rI0 (fun i j => .int (i + j)) x y H Q ∨ (∃ i j, x = .str i ∧ y = .str j ∧ i.length + j.length ≤ sizeLine ∧ Q (.str (i ++ j)) H) ∨ rCatA K x y H Q ∨ rCat x y H Q
theorem rep_same {m : Map} {H : Hp} {xs ys : List D} {us ws : List V} {a : Addr} (q : SqT K H a ws) (e : xs = []) (r1 : Reps K m H xs us) (r2 : Reps K m H ys ws) : Rep K m H (.tup (xs ++ ys)) (.ref a) := by
  subst e
  simp only [Rep]
  exact ⟨a, ws, rfl, q, r2⟩
theorem sn_add (cell : Bool) : Sn2 K (oAdd cell) (rAdd K) := by
  intro m H vh d1 d2 v1 v2 kd Q hr r1 r2 h ho
  cases d1 with
  | int i =>
    cases d2 with
    | int j => exact .inl ⟨i, j, r1, r2, ho m vh H (.int (i + j)) _ (Step.refl _ _) hr rfl h⟩
    | _ => exact h.elim
  | str x =>
    cases d2 with
    | str y => exact .inr (.inl ⟨x, y, r1, r2, by rw [sizeLine_eq]; exact h.1, ho m vh H (.str (x ++ y)) _ (Step.refl _ _) hr rfl h.2⟩)
    | _ => exact h.elim
  | tup xs =>
    cases d2 with
    | tup ys =>
      simp only [Rep] at r1 r2
      obtain ⟨a, us, e1, q1, r1⟩ := r1
      obtain ⟨b, ws, e2, q2, r2⟩ := r2
      refine .inr (.inr (.inl ⟨a, b, us, ws, e1, e2, q1, q2, by rw [← r1.len, ← r2.len, sizeLine_eq]; exact h.1, fun z => ?_, fun _ z => ?_, fun _ _ p hp => ?_⟩))
      · have z' : xs = [] := List.eq_nil_of_length_eq_zero (by rw [r1.len, z]; rfl)
        exact ho m vh H _ _ (Step.refl _ _) hr (rep_same q2 z' r1 r2) h.2
      · have z' : ys = [] := List.eq_nil_of_length_eq_zero (by rw [r2.len, z]; rfl)
        refine ho m vh H _ _ (Step.refl _ _) hr ?_ h.2
        subst z'
        rw [List.append_nil]
        simp only [Rep]
        exact ⟨a, us, rfl, q1, r1⟩
      · exact out_tup hr (r1.app r2) h.2 ho hp
    | _ => exact h.elim
  | lst xs => exact .inr (.inr (.inr (sn_cat cell m H vh _ d2 v1 v2 kd Q hr r1 r2 h ho)))
  | ref p => exact .inr (.inr (.inr (sn_cat cell m H vh _ d2 v1 v2 kd Q hr r1 r2 h ho)))
  | _ => exact h.elim
/-! ### * -/
def repD (ds : List D) : Nat → List D
  | 0 => []
  | n + 1 => ds ++ repD ds n
theorem Reps.rep {m : Map} {H : Hp} {ds : List D} {xs : List V} (r : Reps K m H ds xs) : ∀ n, Reps K m H (repD ds n) (List.replicate n xs).flatten
  | 0 => by simpa [repD] using Reps.nil
  | n + 1 => by
    rw [List.replicate_succ, List.flatten_cons]
    exact r.app (Reps.rep r n)
def oMul (cell : Bool) : SO2 := fun a b vh kd => match a, b with
  | .int i, .int j => MulOk i j ∧ kd (.int (i * j)) vh
  | a, .int k => match lview vh a with
    | some xs => (-(2 ^ 63) ≤ k ∧ k < 2 ^ 63 ∧ xs.length * k.toNat ≤ 16777216) ∧ newL cell (repD xs k.toNat) vh kd
    | none => False
  | _, _ => False
def rMul : R2 := fun x y H Q => (rI CMul (fun i j => .int (i * j)) x y H Q ∨ rI CMulW (fun i j => .int (i * j)) x y H Q) ∨ rRep x y H Q
theorem sn_mulL (cell : Bool) {m : Map} {H : Hp} {vh : VH} {d : D} {v v2 : V} {k : Int} {kd : KD} {Q : VK} (hr : Hr K m H vh) (r : Rep K m H d v) (e2 : v2 = .int k) (h : match lview vh d with
    | some xs => (-(2 ^ 63) ≤ k ∧ k < 2 ^ 63 ∧ xs.length * k.toNat ≤ 16777216) ∧ newL cell (repD xs k.toNat) vh kd
    | none => False) (ho : Out K m H kd Q) : rRep v v2 H Q := by
  revert h
  cases e1 : lview vh d with
  | none => exact False.elim
  | some xs =>
    intro h
    obtain ⟨a, us, ev, ea, ru⟩ := lview_rep hr r e1
    refine ⟨a, k, us, ev, e2, ea, h.1.1, h.1.2.1, by rw [← ru.len, sizeLine_eq]; exact h.1.2.2, fun p hp => ?_⟩
    exact out_lst (cell := cell) hr (ru.rep k.toNat) h.2 ho hp
theorem sn_mul (cell : Bool) : Sn2 K (oMul cell) rMul := by
  intro m H vh d1 d2 v1 v2 kd Q hr r1 r2 h ho
  cases d2 with
  | int j =>
    cases d1 with
    | int i =>
      have q := ho m vh H (.int (i * j)) _ (Step.refl _ _) hr rfl h.2
      exact .inl (h.1.elim (fun c => .inl ⟨i, j, r1, r2, c, q⟩) fun c => .inr ⟨i, j, r1, r2, c, q⟩)
    | lst xs => exact .inr (sn_mulL cell hr r1 r2 h ho)
    | ref p => exact .inr (sn_mulL cell hr r1 r2 h ho)
    | _ => exact h.elim
  | _ => cases d1 <;> exact h.elim
/-! ### == -/
mutual
def pydW (r : Nat → Option PyData) : D → Option PyData
  | .non => some .none
  | .bl b => some (.bool b)
  | .int i => some (.int i)
  | .str x => some (.str x)
  | .tup ds => (pydsW r ds).map .tuple
  | .lst ds => (pydsW r ds).map .list
  | .obj _ _ _ => none
  | .ref p => r p
  | .scr _ => none
  | .exn _ _ _ _ _ => none
def pydsW (r : Nat → Option PyData) : List D → Option (List PyData)
  | [] => some []
  | d :: ds => match pydW r d, pydsW r ds with
    | some p, some ps => some (p :: ps)
    | _, _ => none
end
def pydR (vh : VH) : Nat → Nat → Option PyData
  | 0, _ => none
  | n + 1, p => match vh[p]? with
    | some (.lst ds) => (pydsW (pydR vh n) ds).map .list
    | _ => none
/-- what == reads of a datum -/
def pyd (vh : VH) (d : D) : Option PyData := pydW (pydR vh 4) d
section
variable {m : Map} {H : Hp} {vh : VH}
mutual
theorem pydW_dp {r : Nat → Option PyData} (hr : ∀ p P v, r p = some P → Rep K m H (.ref p) v → Dp K H v P) : ∀ (d : D) (P : PyData) (v : V), pydW r d = some P → Rep K m H d v → Dp K H v P
  | .non, P, v, e, q => by simp only [pydW] at e; cases e; have q : v = .non := q; subst q; exact .non
  | .bl b, P, v, e, q => by simp only [pydW] at e; cases e; have q : v = .bl b := q; subst q; exact .bl b
  | .int i, P, v, e, q => by simp only [pydW] at e; cases e; have q : v = .int i := q; subst q; exact .int i
  | .str x, P, v, e, q => by simp only [pydW] at e; cases e; have q : v = .str x := q; subst q; exact .str x
  | .tup ds, P, v, e, q => by
    simp only [pydW] at e
    cases e1 : pydsW r ds with
    | none => rw [e1] at e; cases e
    | some ps =>
      rw [e1] at e
      cases e
      simp only [Rep] at q
      obtain ⟨a, xs, rfl, q, rs⟩ := q
      exact .tup q (pydsW_dp hr ds ps xs e1 rs)
  | .lst ds, P, v, e, q => by
    simp only [pydW] at e
    cases e1 : pydsW r ds with
    | none => rw [e1] at e; cases e
    | some ps =>
      rw [e1] at e
      cases e
      simp only [Rep] at q
      obtain ⟨a, xs, rfl, q, _, rs⟩ := q
      exact .lst (.of q) (pydsW_dp hr ds ps xs e1 rs)
  | .obj _ _ _, P, v, e, q => by simp only [pydW] at e; cases e
  | .ref p, P, v, e, q => by simp only [pydW] at e; exact hr p P v e q
  | .scr _, P, v, e, q => by simp only [pydW] at e; cases e
  | .exn _ _ _ _ _, P, v, e, q => by simp only [pydW] at e; cases e
theorem pydsW_dp {r : Nat → Option PyData} (hr : ∀ p P v, r p = some P → Rep K m H (.ref p) v → Dp K H v P) : ∀ (ds : List D) (ps : List PyData) (xs : List V), pydsW r ds = some ps → Reps K m H ds xs → DpAll K H xs ps
  | [], ps, xs, e, q => by
    simp only [pydsW] at e
    cases e
    simp only [Reps] at q
    subst q
    exact .nil
  | d :: ds, ps, xs, e, q => by
    simp only [pydsW] at e
    cases e1 : pydW r d with
    | none => rw [e1] at e; cases e
    | some P =>
      cases e2 : pydsW r ds with
      | none => rw [e1, e2] at e; cases e
      | some Ps =>
        rw [e1, e2] at e
        cases e
        simp only [Reps] at q
        obtain ⟨v, vs, rfl, q1, q2⟩ := q
        exact .cons (pydW_dp hr d P v e1 q1) (pydsW_dp hr ds Ps vs e2 q2)
end
theorem pydR_dp (hr : Hr K m H vh) : ∀ (n p : Nat) (P : PyData) (v : V), pydR vh n p = some P → Rep K m H (.ref p) v → Dp K H v P
  | 0, p, P, v, e, q => by cases e
  | n + 1, p, P, v, e, q => by
    simp only [pydR] at e
    simp only [Rep] at q
    obtain ⟨a, rfl, ea⟩ := q
    cases e1 : vh[p]? with
    | none => rw [e1] at e; cases e
    | some c =>
      rw [e1] at e
      cases c with
      | ins _ _ _ => cases e
      | lst ds =>
        cases e2 : pydsW (pydR vh n) ds with
        | none => simp only [e2] at e; cases e
        | some ps =>
          simp only [e2] at e
          cases e
          obtain ⟨xs, eH, rs⟩ := hr.ats p _ a e1 ea
          exact .lst (.of eH) (pydsW_dp (pydR_dp hr n) ds ps xs e2 rs)
theorem pyd_dp (hr : Hr K m H vh) {d : D} {P : PyData} {v : V} (e : pyd vh d = some P) (q : Rep K m H d v) : Dp K H v P := pydW_dp (pydR_dp hr 4) d P v e q
end
/-- == of scalars -/
def eqS : D → D → Option Bool
  | .non, .non => some true
  | .non, .int _ => some false
  | .int _, .non => some false
  | .non, .bl _ => some false
  | .bl _, .non => some false
  | .non, .str _ => some false
  | .str _, .non => some false
  | .int i, .int j => some (i == j)
  | .bl i, .bl j => some (i == j)
  | .str i, .str j => some (i == j)
  | .int _, .str _ => some false
  | .str _, .int _ => some false
  | .bl _, .str _ => some false
  | .str _, .bl _ => some false
  | _, _ => none
theorem eqS_rep {m : Map} {H : Hp} {a b : D} {v u : V} {c : Bool} (e : eqS a b = some c) (ra : Rep K m H a v) (rb : Rep K m H b u) : scal v u = true ∧ decide (v = u) = c := by
  cases a with
  | non =>
    have ra : v = .non := ra
    subst ra
    cases b with
    | non => have rb : u = .non := rb; subst rb; cases e; exact ⟨rfl, by simp⟩
    | int j => have rb : u = .int j := rb; subst rb; cases e; exact ⟨rfl, by simp⟩
    | bl j => have rb : u = .bl j := rb; subst rb; cases e; exact ⟨rfl, by simp⟩
    | str j => have rb : u = .str j := rb; subst rb; cases e; exact ⟨rfl, by simp⟩
    | _ => cases e
  | int i =>
    have ra : v = .int i := ra
    subst ra
    cases b with
    | non => have rb : u = .non := rb; subst rb; cases e; exact ⟨rfl, by simp⟩
    | int j => have rb : u = .int j := rb; subst rb; cases e; exact ⟨rfl, dec_int⟩
    | str j => have rb : u = .str j := rb; subst rb; cases e; exact ⟨rfl, by simp⟩
    | _ => cases e
  | bl i =>
    have ra : v = .bl i := ra
    subst ra
    cases b with
    | non => have rb : u = .non := rb; subst rb; cases e; exact ⟨rfl, by simp⟩
    | bl j => have rb : u = .bl j := rb; subst rb; cases e; exact ⟨rfl, dec_bl⟩
    | str j => have rb : u = .str j := rb; subst rb; cases e; exact ⟨rfl, by simp⟩
    | _ => cases e
  | str i =>
    have ra : v = .str i := ra
    subst ra
    cases b with
    | non => have rb : u = .non := rb; subst rb; cases e; exact ⟨rfl, by simp⟩
    | int j => have rb : u = .int j := rb; subst rb; cases e; exact ⟨rfl, by simp⟩
    | bl j => have rb : u = .bl j := rb; subst rb; cases e; exact ⟨rfl, by simp⟩
    | str j => have rb : u = .str j := rb; subst rb; cases e; exact ⟨rfl, dec_str⟩
    | _ => cases e
  | _ => cases b <;> cases e
def oEqN (f : Bool → Bool) : SO2 := fun a b vh kd => match eqS a b with
  | some c => kd (.bl (f c)) vh
  | none => ∃ p q, pyd vh a = some p ∧ pyd vh b = some q ∧ (SeqAt.shaped p = true ∧ SeqAt.shaped q = true) ∧ kd (.bl (f (PyData.eqv p q))) vh
def oEq : SO2 := oEqN id
def oNe : SO2 := oEqN not
theorem sn_eqN {m : Map} {H : Hp} {vh : VH} {d1 d2 : D} {v1 v2 : V} {kd : KD} {Q : VK} {f : Bool → Bool} (hr : Hr K m H vh) (r1 : Rep K m H d1 v1) (r2 : Rep K m H d2 v2) (h : oEqN f d1 d2 vh kd) (ho : Out K m H kd Q) :
    (scal v1 v2 = true ∧ Q (.bl (f (decide (v1 = v2)))) H) ∨ ∃ d e, Dp K H v1 d ∧ Dp K H v2 e ∧ SeqAt.shaped d = true ∧ SeqAt.shaped e = true ∧ Q (.bl (f (PyData.eqv d e))) H := by
  revert h
  show (match eqS d1 d2 with | some c => kd (.bl (f c)) vh | none => ∃ p q, pyd vh d1 = some p ∧ pyd vh d2 = some q ∧ (SeqAt.shaped p = true ∧ SeqAt.shaped q = true) ∧ kd (.bl (f (PyData.eqv p q))) vh) → _
  cases e : eqS d1 d2 with
  | some c =>
    intro h
    obtain ⟨h1, h2⟩ := eqS_rep e r1 r2
    exact .inl ⟨h1, by rw [h2]; exact ho m vh H (.bl (f c)) _ (Step.refl _ _) hr rfl h⟩
  | none =>
    rintro ⟨p, q, e1, e2, sh, h⟩
    exact .inr ⟨p, q, pyd_dp hr e1 r1, pyd_dp hr e2 r2, sh.1, sh.2, ho m vh H (.bl (f (PyData.eqv p q))) _ (Step.refl _ _) hr rfl h⟩
theorem sn_eq : Sn2 K oEq (fun x y H Q => rEq x y H Q ∨ rEqD K x y H Q) := fun m H vh d1 d2 v1 v2 kd Q hr r1 r2 h ho => sn_eqN (f := id) hr r1 r2 h ho
theorem sn_ne : Sn2 K oNe (fun x y H Q => rNe x y H Q ∨ rNeD K x y H Q) := fun m H vh d1 d2 v1 v2 kd Q hr r1 r2 h ho => sn_eqN (f := not) hr r1 r2 h ho
/-! ### is -/
def isNon : D → Bool
  | .non => true
  | _ => false
theorem isNon_rep {m : Map} {H : Hp} {d : D} {v : V} (r : Rep K m H d v) : decide (v = .non) = isNon d := by
  cases d with
  | non => have r : v = .non := r; subst r; simp [isNon]
  | bl b => have r : v = .bl b := r; subst r; simp [isNon]
  | int b => have r : v = .int b := r; subst r; simp [isNon]
  | str b => have r : v = .str b := r; subst r; simp [isNon]
  | tup ds => simp only [Rep] at r; obtain ⟨a, xs, rfl, _⟩ := r; simp [isNon]
  | lst ds => simp only [Rep] at r; obtain ⟨a, xs, rfl, _⟩ := r; simp [isNon]
  | obj c ns ds => simp only [Rep] at r; obtain ⟨a, dx, xs, rfl, _⟩ := r; simp [isNon]
  | ref p => simp only [Rep] at r; obtain ⟨a, rfl, _⟩ := r; simp [isNon]
  | scr ns => simp only [Rep] at r; obtain ⟨a, rfl, _⟩ := r; simp [isNon]
  | exn a dd c ns ds => simp only [Rep] at r; obtain ⟨rfl, _⟩ := r; simp [isNon]
def isBl (b : Bool) : D → Bool
  | .bl c => c == b
  | _ => false
/-- a is b: b None or a truth value -/
def oIsN (f : Bool → Bool) : SO2 := fun a b vh kd => match b with
  | .non => kd (.bl (f (isNon a))) vh
  | .bl c => kd (.bl (f (isBl c a))) vh
  | _ => False
def oIs : SO2 := oIsN id
def oIsNot : SO2 := oIsN not
def blV (c : Bool) : V → Bool
  | .bl b => b == c
  | _ => false
/-- plain values, for is -/
def flatR : V → Bool
  | .non => true
  | .bl _ => true
  | .int _ => true
  | .str _ => true
  | .ref _ => true
  | _ => false
theorem flat_rep {m : Map} {H : Hp} {d : D} {v : V} (r : Rep K m H d v) : flatR v = true := by
  cases d with
  | non => have r : v = .non := r; subst r; rfl
  | bl b => have r : v = .bl b := r; subst r; rfl
  | int b => have r : v = .int b := r; subst r; rfl
  | str b => have r : v = .str b := r; subst r; rfl
  | tup ds => simp only [Rep] at r; obtain ⟨a, xs, rfl, _⟩ := r; rfl
  | lst ds => simp only [Rep] at r; obtain ⟨a, xs, rfl, _⟩ := r; rfl
  | obj c ns ds => simp only [Rep] at r; obtain ⟨a, dx, xs, rfl, _⟩ := r; rfl
  | ref p => simp only [Rep] at r; obtain ⟨a, rfl, _⟩ := r; rfl
  | scr ns => simp only [Rep] at r; obtain ⟨a, rfl, _⟩ := r; rfl
  | exn a dd c ns ds => simp only [Rep] at r; obtain ⟨rfl, _⟩ := r; rfl
theorem blV_rep {m : Map} {H : Hp} {d : D} {v : V} {c : Bool} (r : Rep K m H d v) : blV c v = isBl c d := by
  cases d with
  | non => have r : v = .non := r; subst r; rfl
  | bl b => have r : v = .bl b := r; subst r; rfl
  | int b => have r : v = .int b := r; subst r; rfl
  | str b => have r : v = .str b := r; subst r; rfl
  | tup ds => simp only [Rep] at r; obtain ⟨a, xs, rfl, _⟩ := r; rfl
  | lst ds => simp only [Rep] at r; obtain ⟨a, xs, rfl, _⟩ := r; rfl
  | obj c ns ds => simp only [Rep] at r; obtain ⟨a, dx, xs, rfl, _⟩ := r; rfl
  | ref p => simp only [Rep] at r; obtain ⟨a, rfl, _⟩ := r; rfl
  | scr ns => simp only [Rep] at r; obtain ⟨a, rfl, _⟩ := r; rfl
  | exn a dd c ns ds => simp only [Rep] at r; obtain ⟨rfl, _⟩ := r; rfl
def rIsV (f : Bool → Bool) : R2 := fun x y H Q => ∃ c : Bool, y = .bl c ∧ flatR x = true ∧ Q (.bl (f (blV c x))) H
end
section
variable {X : Cx}
theorem flat_is {x : V} {v : Value} {c : Bool} (rx : RelV x v) (h : flatR x = true) : plainIs v (.bool c) = true ∧ (v == Value.bool c) = blV c x := by
  cases x with
  | non => cases rx; exact ⟨rfl, beq_eq_false_iff_ne.mpr (fun z => by cases z)⟩
  | bl b =>
    cases rx
    refine ⟨rfl, ?_⟩
    show (Value.bool b == Value.bool c) = (b == c)
    cases b <;> cases c <;> rfl
  | int i => obtain ⟨t, rfl⟩ := rx; exact ⟨rfl, beq_eq_false_iff_ne.mpr (fun z => by cases z)⟩
  | str i => obtain ⟨t, rfl⟩ := rx; exact ⟨rfl, beq_eq_false_iff_ne.mpr (fun z => by cases z)⟩
  | ref a => cases rx; exact ⟨rfl, beq_eq_false_iff_ne.mpr (fun z => by cases z)⟩
  | _ => cases h
theorem op_isV : OpR X (compareOp .Is) (rIsV id) := by
  intro pins s σ H x y v u Q I rx ry h
  obtain ⟨c, rfl, hx, q⟩ := h
  cases (show u = Value.bool c from ry)
  obtain ⟨h1, h2⟩ := flat_is (c := c) rx hx
  exact wpAny_is_plain h1 ⟨.bl _, H, I, by rw [h2]; rfl, q⟩
theorem op_notV : OpR X (compareOp .IsNot) (rIsV not) := by
  intro pins s σ H x y v u Q I rx ry h
  obtain ⟨c, rfl, hx, q⟩ := h
  cases (show u = Value.bool c from ry)
  obtain ⟨h1, h2⟩ := flat_is (c := c) rx hx
  exact wpAny_isNot_plain h1 ⟨.bl _, H, I, by rw [h2]; rfl, q⟩
theorem sn_isN {f : Bool → Bool} : Sn2 X.K (oIsN f) (fun x y H Q => (y = .non ∧ Q (.bl (f (decide (x = .non)))) H) ∨ rIsV f x y H Q) := by
  intro m H vh d1 d2 v1 v2 kd Q hr r1 r2 h ho
  cases d2 with
  | non => exact .inl ⟨r2, by rw [isNon_rep r1]; exact ho m vh H (.bl (f (isNon d1))) _ (Step.refl _ _) hr rfl h⟩
  | bl c => exact .inr ⟨c, r2, flat_rep r1, by rw [blV_rep r1]; exact ho m vh H (.bl (f (isBl c d1))) _ (Step.refl _ _) hr rfl h⟩
  | _ => exact h.elim
end
end VI

end
section
/-! VI11: operators, subscripts, slices, built-in functions as pieces of text. -/
namespace VI
open PySem PySem.Spec L2
open PyProof.Rows hiding St

section
variable {X : Cx} {W : WX} {pos p p2 : Pos} {a b c e : Expr} {es : List Expr} {sa sb sc se : SemE} {sl : SemA} {T : Nat → Option Fn} {hots : List Nat} {k : Nat}
theorem CxF.blk (c : CxF X T hots k) (s : Shared) (H : Hp) (scope : Scope) (cenv : PySem.Env) (fp : List Addr) : CxF (X.blk s H scope cenv fp) T hots k := ⟨c.room, c.calm, c.fns, c.hfn, c.ids⟩
theorem takesB {s : Shared} {H : Hp} {scope : Scope} {cenv : PySem.Env} {fp : List Addr} : L2N.Takes (X.blk s H scope cenv fp) W0 := fun u s' ⟨a, B, sI, pins, σ, H, cls, d, e, I, nb, up, sky, na, os, ag, w⟩ => w.elim
theorem CxF.hu (c : CxF X T hots k) : X.A.units + 64 < cLine := by have := c.room.un; omega
theorem CxH.hu (c : CxH X T hots k) : X.A.units + 64 < cLine := by have := c.room.un; omega
theorem rep_int {K : PySem.W.Frag} {m : Map} {H : Hp} {i : Int} : Rep K m H (.int i) (.int i) := rfl
theorem rep_bl {K : PySem.W.Frag} {m : Map} {H : Hp} {i : Bool} : Rep K m H (.bl i) (.bl i) := rfl
/-! ### + - * // % ** -/
theorem op_addX : OpR X (binaryOp .Add) (rAdd X.K) := op_add.or (op_add_str.or (op_catA.or op_cat))
theorem op_mulX' : OpR X (binaryOp .Mult) rMul := (op_mul.or op_mulW).or op_rep
theorem se_add (cell : Bool) (ha : SE X W sa a) (hb : SE X W sb b) : SE X W (sBin (oAdd cell) sa sb) (.BinOp a .Add b pos) := se_bin op_addX (sn_add cell) ha hb
theorem se_sub (ha : SE X W sa a) (hb : SE X W sb b) : SE X W (sBin oSub sa sb) (.BinOp a .Sub b pos) := se_bin op_sub (sn_I0 fun _ _ _ _ => rep_int) ha hb
theorem se_mul (cell : Bool) (ha : SE X W sa a) (hb : SE X W sb b) : SE X W (sBin (oMul cell) sa sb) (.BinOp a .Mult b pos) := se_bin op_mulX' (sn_mul cell) ha hb
theorem se_fdiv (ha : SE X W sa a) (hb : SE X W sb b) : SE X W (sBin oFdiv sa sb) (.BinOp a .FloorDiv b pos) := se_bin op_fdivW (sn_I fun _ _ _ _ => rep_int) ha hb
theorem se_mod (ha : SE X W sa a) (hb : SE X W sb b) : SE X W (sBin oMod sa sb) (.BinOp a .Mod b pos) := se_bin op_mod (sn_I fun _ _ _ _ => rep_int) ha hb
theorem se_pow (ha : SE X W sa a) (hb : SE X W sb b) : SE X W (sBin oPow sa sb) (.BinOp a .Pow b pos) := se_bin op_pow (sn_I fun _ _ _ _ => rep_int) ha hb
def oNeg : SO1 := fun a vh kd => match a with
  | .int i => kd (.int (-i)) vh
  | _ => False
theorem sn_neg : Sn1 X.K oNeg (rU fun i => .int (-i)) := by
  intro m H vh d v kd Q hr r h ho
  cases d with
  | int i => exact ⟨i, r, ho m vh H (.int (-i)) _ (Step.refl _ _) hr rep_int h⟩
  | _ => exact h.elim
theorem se_neg (ha : SE X W sa a) : SE X W (sUn oNeg sa) (.UnaryOp .USub a pos) := se_un un_neg sn_neg ha
/-! ### comparisons -/
theorem op_eqX (hu : X.A.units + 64 < cLine) : OpR X (compareOp .Eq) (fun x y H Q => rEq x y H Q ∨ rEqD X.K x y H Q) := op_eq.or (op_eqD hu)
theorem op_neX (hu : X.A.units + 64 < cLine) : OpR X (compareOp .NotEq) (fun x y H Q => rNe x y H Q ∨ rNeD X.K x y H Q) := op_ne.or (op_neD hu)
def CmpS (X : Cx) (op : CmpOp) (so : SO2) : Prop := ∃ r, OpR X (compareOp op) r ∧ Sn2 X.K so r
theorem cs_lt : CmpS X .Lt oLt := ⟨_, op_lt, sn_I0 fun _ _ _ _ => rep_bl⟩
theorem cs_le : CmpS X .LtE oLe := ⟨_, op_le, sn_I0 fun _ _ _ _ => rep_bl⟩
theorem cs_gt : CmpS X .Gt oGt := ⟨_, op_gt, sn_I0 fun _ _ _ _ => rep_bl⟩
theorem cs_ge : CmpS X .GtE oGe := ⟨_, op_ge, sn_I0 fun _ _ _ _ => rep_bl⟩
theorem cs_eq (hu : X.A.units + 64 < cLine) : CmpS X .Eq oEq := ⟨_, op_eqX hu, sn_eq⟩
theorem cs_ne (hu : X.A.units + 64 < cLine) : CmpS X .NotEq oNe := ⟨_, op_neX hu, sn_ne⟩
theorem cs_is : CmpS X .Is oIs := ⟨_, op_isN.or op_isV, sn_isN (f := id)⟩
theorem cs_isnot : CmpS X .IsNot oIsNot := ⟨_, op_notN.or op_notV, sn_isN (f := not)⟩
theorem se_cmpS {op : CmpOp} {so : SO2} (cs : CmpS X op so) (ha : SE X W sa a) (hb : SE X W sb b) (hm : behindInMarks op b = false := by first | exact nomark _ | with_unfolding_all rfl) : SE X W (sBin so sa sb) (.Compare a [op] [b] pos) := by
  obtain ⟨r, ho, hs⟩ := cs
  exact se_cmp ho hs ha hb hm
theorem st_cmpS {op : CmpOp} {so : SO2} (cs : CmpS X op so) (ha : SE X W sa a) (hb : SE X W sb b) (hm : behindInMarks op b = false := by first | exact nomark _ | with_unfolding_all rfl) : ST X W (sTB (sBin so sa sb)) (.Compare a [op] [b] pos) := by
  obtain ⟨r, ho, hs⟩ := cs
  exact st_cmp ho hs ha hb hm
/-- a op1 b op2 c -/
def sChain (so so' : SO2) (sa sb sc : SemE) : SemE := fun env vh kx kd => sa env vh kx fun d1 vh1 => sb env vh1 kx fun d2 vh2 => so d1 d2 vh2 fun z vh3 => match z with
  | .bl true => sc env vh3 kx fun d3 vh4 => so' d2 d3 vh4 kd
  | .bl false => kd (.bl false) vh3
  | _ => False
theorem tChain_of {so so' : SO2} {r r' : R2} (hs : Sn2 X.K so r) (hs' : Sn2 X.K so' r') {σ : L2.St} {H : Hp} {Q : VK} (h : tE X.K W (sChain so so' sa sb sc) σ H Q) : tChain r r' (tE X.K W sa) (tE X.K W sb) (tE X.K W sc) σ H Q := by
  obtain ⟨m, env, vh, kx, kd, hr, er, h, ho, ox⟩ := h
  refine tE.go hr er ox h fun m1 vh1 H1 d1 v1 s1 hr1 er1 ox1 r1 k1 => ?_
  refine tE.go hr1 er1 ox1 k1 fun m2 vh2 H2 d2 v2 s2 hr2 er2 ox2 r2 k2 => ?_
  refine hs m2 H2 vh2 d1 d2 v1 v2 _ _ hr2 (Rep.step hr1 s2 d1 v1 r1) r2 k2 fun m3 vh3 H3 z vz s3 hr3 rz kz => ?_
  cases z with
  | bl t =>
    cases t with
    | true =>
      refine ⟨true, rz, iteT (tE.go hr3 (er2.step hr2 s3) (ox2.step s3) kz fun m4 vh4 H4 d3 v3 s4 hr4 er4 ox4 r3 k4 => ?_)⟩
      exact hs' m4 H4 vh4 d2 d3 v2 v3 kd Q hr4 (Rep.step hr3 s4 _ _ (Rep.step hr2 s3 d2 v2 r2)) r3 k4 (ho.step (s1.trans (s2.trans (s3.trans s4))))
    | false => exact ⟨false, rz, iteF (ho m3 vh3 H3 (.bl false) _ (s1.trans (s2.trans s3)) hr3 rfl kz)⟩
  | _ => exact kz.elim
theorem se_chain {op op' : CmpOp} {so so' : SO2} (cs : CmpS X op so) (cs' : CmpS X op' so') (ha : SE X W sa a) (hb : SE X W sb b) (hc : SE X W sc c) (hm : lastMarks [op, op'] [b, c] = false := by with_unfolding_all rfl) : SE X W (sChain so so' sa sb sc) (.Compare a [op, op'] [b, c] pos) := by
  obtain ⟨r, ho, hs⟩ := cs
  obtain ⟨r', ho', hs'⟩ := cs'
  exact peImp (pe_chain ho ho' ha hb hc hm) fun _ _ _ h => tChain_of hs hs' h
theorem st_chain {op op' : CmpOp} {so so' : SO2} (cs : CmpS X op so) (cs' : CmpS X op' so') (ha : SE X W sa a) (hb : SE X W sb b) (hc : SE X W sc c) (hm : lastMarks [op, op'] [b, c] = false := by with_unfolding_all rfl) : ST X W (sTB (sChain so so' sa sb sc)) (.Compare a [op, op'] [b, c] pos) := by
  obtain ⟨r, ho, hs⟩ := cs
  obtain ⟨r', ho', hs'⟩ := cs'
  exact ptImp (pt_chain ho ho' ha hb hc hm) fun _ _ _ h => tChain_of hs hs' (tB_of h)
/-! ### a[i], a[i:j] -/
def oIx : SO2 := fun a b vh kd => match b with
  | .int i => match a with
    | .tup ds => ∃ d, atI ds i = some d ∧ kd d vh
    | .lst ds => ∃ d, atI ds i = some d ∧ kd d vh
    | .ref p => match vh[p]? with
      | some (.lst ds) => ∃ d, atI ds i = some d ∧ kd d vh
      | _ => False
    | .str z => z.length ≤ 16777216 ∧ ∃ c, atI z.cps.toList i = some c ∧ kd (.str ⟨#[c]⟩) vh
    | _ => False
  | _ => False
theorem Reps.atI {K : PySem.W.Frag} {m : Map} {H : Hp} {ds : List D} {xs : List V} {i : Int} {d : D} (r : Reps K m H ds xs) (e : L2.atI ds i = some d) : ∃ v, L2.atI xs i = some v ∧ Rep K m H d v := by
  unfold L2.atI at e ⊢
  rw [r.len] at e
  cases q : ixN xs.length i with
  | none => rw [q] at e; cases e
  | some j =>
    rw [q] at e
    exact r.get e
theorem sn_ix : Sn2 X.K oIx (rIx X.K) := by
  intro m H vh d1 d2 v1 v2 kd Q hr r1 r2 h ho
  cases d2 with
  | int i =>
    cases d1 with
    | tup ds =>
      obtain ⟨d, e, k⟩ := h
      simp only [Rep] at r1
      obtain ⟨a, xs, rfl, q, rs⟩ := r1
      obtain ⟨v, ev, rv⟩ := rs.atI e
      exact .inr (.inl ⟨a, xs, i, v, rfl, r2, q, ev, ho m vh H d v (Step.refl _ _) hr rv k⟩)
    | lst ds =>
      obtain ⟨d, e, k⟩ := h
      obtain ⟨a, xs, rfl, q, rs⟩ := lview_rep hr r1 rfl
      obtain ⟨v, ev, rv⟩ := rs.atI e
      exact .inl ⟨a, xs, i, v, rfl, r2, .of q, ev, ho m vh H d v (Step.refl _ _) hr rv k⟩
    | ref p =>
      revert h
      show (match vh[p]? with | some (.lst ds) => ∃ d, L2.atI ds i = some d ∧ kd d vh | _ => False) → _
      cases ep : vh[p]? with
      | none => exact False.elim
      | some cl =>
        cases cl with
        | ins _ _ _ => exact False.elim
        | lst ds =>
          rintro ⟨d, e, k⟩
          obtain ⟨a, xs, rfl, q, rs⟩ := lview_rep (ds := ds) hr r1 (by simp only [lview, ep])
          obtain ⟨v, ev, rv⟩ := rs.atI e
          exact .inl ⟨a, xs, i, v, rfl, r2, .of q, ev, ho m vh H d v (Step.refl _ _) hr rv k⟩
    | str z =>
      obtain ⟨hz, c, e, k⟩ := h
      exact .inr (.inr ⟨z, i, c, r1, r2, by rw [sizeLine_eq]; exact hz, e, ho m vh H (.str ⟨#[c]⟩) _ (Step.refl _ _) hr rfl k⟩)
    | _ => exact h.elim
  | _ => exact h.elim
theorem se_idx (ha : SE X W sa a) (hb : SE X W sb b) (hp : PlainIx b := by exact fun _ _ => rfl) : SE X W (sBin oIx sa sb) (.Subscript a b pos) := se_ix ix_seq sn_ix ha hb hp
/-- parts -/
abbrev SemO := Env → VH → KX → (Option Int → VH → Prop) → Prop
def tO' (K : PySem.W.Frag) (W : WX) (sem : SemO) : TO := fun σ H Q => ∃ m env vh kx ko, Hr K m H vh ∧ Er K m H env σ ∧ sem env vh kx ko ∧ (∀ m' vh' H' o, Step m H m' H' → Hr K m' H' vh' → ko o vh' → Q o H') ∧ OutX K m H W σ kx
def SO (X : Cx) (W : WX) (sem : SemO) (e : Option Expr) : Prop := PO X e (tO' X.K W sem)
def sNoP : SemO := fun _ vh _ ko => ko none vh
def sPart (s : SemE) : SemO := fun env vh kx ko => s env vh kx fun d vh' => match d with
  | .int i => ko (some i) vh'
  | _ => False
theorem so_none : SO X W sNoP none := ⟨fun pins s σ H Q I ⟨m, env, vh, kx, ko, hr, er, h, o, ox⟩ => po_none.run pins s σ H Q I (o m vh H none (Step.refl _ _) hr h)⟩
theorem so_some (he : SE X W se e) : SO X W (sPart se) (some e) := ⟨fun pins s σ H Q I ⟨m, env, vh, kx, ko, hr, er, h, o, ox⟩ => (po_some he).run pins s σ H Q I (by
  refine tE.go hr er ox h fun m1 vh1 H1 d v s1 hr1 er1 ox1 r1 k1 => ?_
  cases d with
  | int i => exact ⟨i, r1, o m1 vh1 H1 (some i) s1 hr1 k1⟩
  | _ => exact k1.elim)⟩
def cutD {α : Type} (xs : List α) (lo hi : Option Int) : List α := (xs.drop (HT.sIx xs.length 0 lo)).take (HT.sIx xs.length xs.length hi - HT.sIx xs.length 0 lo)
theorem Reps.cut {K : PySem.W.Frag} {m : Map} {H : Hp} {ds : List D} {xs : List V} (r : Reps K m H ds xs) (lo hi : Option Int) : Reps K m H (cutD ds lo hi) (cutV xs lo hi) := by
  unfold cutD cutV
  rw [r.len]
  exact (r.drop _).take _
def oSl (cell : Bool) : D → Option Int → Option Int → VH → KD → Prop := fun d lo hi vh kd => match d with
  | .tup ds => kd (.tup (cutD ds lo hi)) vh
  | .lst ds => newL cell (cutD ds lo hi) vh kd
  | .ref p => match vh[p]? with
    | some (.lst ds) => newL cell (cutD ds lo hi) vh kd
    | _ => False
  | .scr ns => newL cell ((cutD ns lo hi).map D.int) vh kd
  | _ => False
def sSl (cell : Bool) (s : SemE) (lo hi : SemO) : SemE := fun env vh kx kd => s env vh kx fun d vh1 => lo env vh1 kx fun l vh2 => hi env vh2 kx fun u vh3 => oSl cell d l u vh3 kd
def rSl (K : PySem.W.Frag) : V → Option Int → Option Int → Hp → VK → Prop := fun x lo hi H Q => rSlL K x lo hi H Q ∨ rSlA K x lo hi H Q
theorem sl_seq : SlR X (rSl X.K) := sl_list.or sl_tupA
theorem cut_all {α : Type} {xs : List α} {lo hi : Option Int} (h : HT.sIx xs.length 0 lo = 0 ∧ HT.sIx xs.length xs.length hi = xs.length) : cutD xs lo hi = xs := by
  unfold cutD
  rw [h.1, h.2]
  simp
theorem cut_map {α β : Type} (f : α → β) (xs : List α) (lo hi : Option Int) : cutD (xs.map f) lo hi = (cutD xs lo hi).map f := by
  unfold cutD
  rw [List.length_map, List.map_take, List.map_drop]
theorem scr_sql {K : PySem.W.Frag} {m : Map} {H : Hp} {ns : List Int} {v : V} (r : Rep K m H (.scr ns) v) : ∃ a, v = .ref a ∧ SqL K H a (ns.map V.int) := by
  simp only [Rep] at r
  obtain ⟨a, rfl, q⟩ := r
  refine ⟨a, rfl, ?_⟩
  rcases q with ⟨o, q⟩ | q
  · exact .inl (.inr ⟨o, q⟩)
  · rcases q with q | q
    · rcases q with q | ⟨o, q⟩ <;> cases q
    · exact .inr q
theorem sn_sl {K : PySem.W.Frag} {cell : Bool} {m : Map} {H : Hp} {vh : VH} {d : D} {v : V} {lo hi : Option Int} {kd : KD} {Q : VK} (hr : Hr K m H vh) (r : Rep K m H d v) (h : oSl cell d lo hi vh kd) (ho : Out K m H kd Q) : rSl K v lo hi H Q := by
  cases d with
  | tup ds =>
    simp only [Rep] at r
    obtain ⟨a, xs, rfl, q, rs⟩ := r
    refine .inr ⟨a, xs, rfl, q, fun z => ?_, fun _ p hp => out_tup hr (rs.cut lo hi) h ho hp⟩
    refine ho m vh H _ _ (Step.refl _ _) hr ?_ h
    rw [← rs.len] at z
    rw [cut_all z]
    simp only [Rep]
    exact ⟨a, xs, rfl, q, rs⟩
  | lst ds =>
    obtain ⟨a, xs, rfl, q, rs⟩ := lview_rep hr r rfl
    exact .inl ⟨a, xs, rfl, .of q, fun p hp => out_lst (cell := cell) hr (rs.cut lo hi) h ho hp⟩
  | ref p =>
    revert h
    show (match vh[p]? with | some (.lst ds) => newL cell (cutD ds lo hi) vh kd | _ => False) → _
    cases ep : vh[p]? with
    | none => exact False.elim
    | some cl =>
      cases cl with
      | ins _ _ _ => exact False.elim
      | lst ds =>
        intro h
        obtain ⟨a, xs, rfl, q, rs⟩ := lview_rep (ds := ds) hr r (by simp only [lview, ep])
        exact .inl ⟨a, xs, rfl, .of q, fun p hp => out_lst (cell := cell) hr (rs.cut lo hi) h ho hp⟩
  | scr ns =>
    obtain ⟨a, rfl, q⟩ := scr_sql r
    have h : newL cell ((cutD ns lo hi).map D.int) vh kd := h
    rw [← cut_map] at h
    exact .inl ⟨a, _, rfl, q, fun p hp => out_lst (cell := cell) hr ((Reps.ints.mpr rfl).cut lo hi) h ho hp⟩
  | _ => exact h.elim
theorem se_slice (cell : Bool) {lo hi : Option Expr} {sL sH : SemO} (ha : SE X W sa a) (hl : SO X W sL lo) (hh : SO X W sH hi) : SE X W (sSl cell sa sL sH) (.Subscript a (.Slice lo hi none p2) pos) := by
  refine peImp (pe_slice sl_seq ha hl hh) fun σ H Q ⟨m, env, vh, kx, kd, hr, er, h, ho, ox⟩ => ?_
  refine tE.go hr er ox h fun m1 vh1 H1 d v s1 hr1 er1 ox1 r1 k1 => ?_
  refine ⟨m1, env, vh1, kx, _, hr1, er1, k1, fun m2 vh2 H2 l s2 hr2 k2 => ?_, ox1⟩
  refine ⟨m2, env, vh2, kx, _, hr2, er1.step hr1 s2, k2, fun m3 vh3 H3 u s3 hr3 k3 => ?_, ox1.step s2⟩
  exact sn_sl hr3 (Rep.step hr2 s3 _ _ (Rep.step hr1 s2 _ _ r1)) k3 (ho.step (s1.trans (s2.trans s3)))
/-! ### built-in functions -/
def lenD (vh : VH) : D → Option Int
  | .tup ds => some ds.length
  | .lst ds => some ds.length
  | .ref p => match vh[p]? with
    | some (.lst ds) => some ds.length
    | _ => none
  | .scr ns => some ns.length
  | _ => none
def oLen : SOL := fun ds vh kd => match ds with
  | [.str z] => z.length ≤ 16777216 ∧ kd (.int z.length) vh
  | [d] => match lenD vh d with
    | some n => kd (.int n) vh
    | none => False
  | _ => False
theorem lenD_rep {K : PySem.W.Frag} {m : Map} {H : Hp} {vh : VH} {d : D} {v : V} {n : Int} (hr : Hr K m H vh) (r : Rep K m H d v) (e : lenD vh d = some n) : ∃ p ys, v = .ref p ∧ (SqL K H p ys ∨ SqT K H p ys) ∧ (ys.length : Int) = n := by
  cases d with
  | tup ds =>
    simp only [Rep] at r
    obtain ⟨a, xs, rfl, q, rs⟩ := r
    cases e
    exact ⟨a, xs, rfl, .inr q, by rw [rs.len]⟩
  | lst ds =>
    obtain ⟨a, xs, rfl, q, rs⟩ := lview_rep hr r rfl
    cases e
    exact ⟨a, xs, rfl, .inl (.of q), by rw [rs.len]⟩
  | ref p =>
    revert e
    show (match vh[p]? with | some (.lst ds) => some (ds.length : Int) | _ => none) = some n → _
    cases ep : vh[p]? with
    | none => exact fun z => by cases z
    | some cl =>
      cases cl with
      | ins _ _ _ => exact fun z => by cases z
      | lst ds =>
        intro e
        cases e
        obtain ⟨a, xs, rfl, q, rs⟩ := lview_rep (ds := ds) hr r (by simp only [lview, ep])
        exact ⟨a, xs, rfl, .inl (.of q), by rw [rs.len]⟩
  | scr ns =>
    obtain ⟨a, rfl, q⟩ := scr_sql r
    cases e
    exact ⟨a, _, rfl, .inl q, by rw [List.length_map]⟩
  | _ => cases e
def rLen (K : PySem.W.Frag) : List V → Hp → VK → Prop := fun xs H Q => (∃ p ys, xs = [.ref p] ∧ (SqL K H p ys ∨ SqT K H p ys) ∧ Q (.int ys.length) H) ∨ ∃ z, xs = [.str z] ∧ z.length ≤ sizeLine ∧ Q (.int z.length) H
theorem reps1 {K : PySem.W.Frag} {m : Map} {H : Hp} {d : D} {vs : List V} (r : Reps K m H [d] vs) : ∃ v, vs = [v] ∧ Rep K m H d v := by
  simp only [Reps] at r
  obtain ⟨v, ws, rfl, r1, rfl⟩ := r
  exact ⟨v, rfl, r1⟩
theorem reps2 {K : PySem.W.Frag} {m : Map} {H : Hp} {d d' : D} {vs : List V} (r : Reps K m H [d, d'] vs) : ∃ v v', vs = [v, v'] ∧ Rep K m H d v ∧ Rep K m H d' v' := by
  simp only [Reps] at r
  obtain ⟨v, ws, rfl, r1, v', ws', rfl, r2, rfl⟩ := r
  exact ⟨v, v', rfl, r1, r2⟩
theorem sn_len : SnL X.K oLen (rLen X.K) := by
  intro m H vh ds vs kd Q hr r h ho
  cases ds with
  | nil => exact h.elim
  | cons d ds =>
    cases ds with
    | cons _ _ => cases d <;> exact h.elim
    | nil =>
      obtain ⟨v, rfl, r1⟩ := reps1 r
      have r := r1
      have gen : ∀ n, lenD vh d = some n → kd (.int n) vh → rLen X.K [v] H Q := fun n e k => by
        obtain ⟨p, ys, rfl, q, el⟩ := lenD_rep hr r e
        exact .inl ⟨p, ys, rfl, q, by rw [el]; exact ho m vh H (.int n) _ (Step.refl _ _) hr rep_int k⟩
      have gen2 : (match lenD vh d with | some n => kd (.int n) vh | none => False) → rLen X.K [v] H Q := fun h => by
        cases e : lenD vh d with
        | none => rw [e] at h; exact h.elim
        | some n => rw [e] at h; exact gen n e h
      cases d with
      | str z =>
        have r : v = .str z := r
        subst r
        exact .inr ⟨z, rfl, by rw [sizeLine_eq]; exact h.1, ho m vh H (.int z.length) _ (Step.refl _ _) hr rep_int h.2⟩
      | _ => exact gen2 h
theorem cr_len : CallR X (.builtin "len") (rLen X.K) := call_len_seq.or call_len_str
def oAbs : SOL := fun ds vh kd => match ds with
  | [.int i] => kd (.int i.natAbs) vh
  | _ => False
theorem sn_abs : SnL X.K oAbs (fun xs H Q => ∃ i, xs = [.int i] ∧ Q (.int (if i < 0 then -i else i)) H) := by
  intro m H vh ds vs kd Q hr r h ho
  cases ds with
  | nil => exact h.elim
  | cons d ds =>
    cases ds with
    | cons _ _ => cases d <;> exact h.elim
    | nil =>
      obtain ⟨v, rfl, r1⟩ := reps1 r
      have r := r1
      cases d with
      | int i =>
        have r : v = .int i := r
        subst r
        refine ⟨i, rfl, ?_⟩
        have e : (if i < 0 then -i else i) = (i.natAbs : Int) := by split <;> omega
        rw [e]
        exact ho m vh H (.int i.natAbs) _ (Step.refl _ _) hr rep_int h
      | _ => exact h.elim
def oInt : SOL := fun ds vh kd => match ds with
  | [.int i] => kd (.int i) vh
  | [.bl b] => kd (.int (if b then 1 else 0)) vh
  | _ => False
theorem sn_int : SnL X.K oInt (fun xs H Q => (∃ i, xs = [.int i] ∧ Q (.int i) H) ∨ ∃ k, xs = [.bl k] ∧ Q (.int (if k then 1 else 0)) H) := by
  intro m H vh ds vs kd Q hr r h ho
  cases ds with
  | nil => exact h.elim
  | cons d ds =>
    cases ds with
    | cons _ _ => cases d <;> exact h.elim
    | nil =>
      obtain ⟨v, rfl, r1⟩ := reps1 r
      have r := r1
      cases d with
      | int i =>
        have r : v = .int i := r
        subst r
        exact .inl ⟨i, rfl, ho m vh H (.int i) _ (Step.refl _ _) hr rep_int h⟩
      | bl b =>
        have r : v = .bl b := r
        subst r
        exact .inr ⟨b, rfl, ho m vh H (.int (if b then 1 else 0)) _ (Step.refl _ _) hr rep_int h⟩
      | _ => exact h.elim
def oInt2 (f : Int → Int → Int) : SOL := fun ds vh kd => match ds with
  | [.int i, .int j] => kd (.int (f i j)) vh
  | _ => False
theorem oInt2_inv {f : Int → Int → Int} {ds : List D} {vh : VH} {kd : KD} (h : oInt2 f ds vh kd) : ∃ i j, ds = [.int i, .int j] ∧ kd (.int (f i j)) vh := by
  cases ds with
  | nil => exact h.elim
  | cons d ds =>
    cases ds with
    | nil => cases d <;> exact h.elim
    | cons d' ds =>
      cases ds with
      | cons _ _ => cases d <;> cases d' <;> exact h.elim
      | nil =>
        cases d with
        | int i =>
          cases d' with
          | int j => exact ⟨i, j, rfl, h⟩
          | _ => exact h.elim
        | _ => cases d' <;> exact h.elim
theorem sn_int2 {f g : Int → Int → Int} (hf : ∀ i j, f i j = g i j) : SnL X.K (oInt2 f) (fun xs H Q => ∃ i j, xs = [.int i, .int j] ∧ Q (.int (g i j)) H) := by
  intro m H vh ds vs kd Q hr r h ho
  obtain ⟨i, j, rfl, k⟩ := oInt2_inv h
  obtain ⟨v, v', rfl, r1, r2⟩ := reps2 r
  have r1 : v = .int i := r1
  have r2 : v' = .int j := r2
  subst r1; subst r2
  exact ⟨i, j, rfl, by rw [← hf]; exact ho m vh H (.int (f i j)) _ (Step.refl _ _) hr rep_int k⟩
def oMax2 : SOL := oInt2 max
def oMin2 : SOL := oInt2 min
def oGcd : SOL := oInt2 fun a b => (Nat.gcd a.natAbs b.natAbs : Nat)
theorem sn_max2 : SnL X.K oMax2 (fun xs H Q => ∃ i j, xs = [.int i, .int j] ∧ Q (.int (if j > i then j else i)) H) := sn_int2 fun i j => by
  by_cases h : j > i
  · rw [if_pos h]; omega
  · rw [if_neg h]; omega
theorem sn_min2 : SnL X.K oMin2 (fun xs H Q => ∃ i j, xs = [.int i, .int j] ∧ Q (.int (if j < i then j else i)) H) := sn_int2 fun i j => by
  by_cases h : j < i
  · rw [if_pos h]; omega
  · rw [if_neg h]; omega
theorem sn_gcd : SnL X.K oGcd rGcd := sn_int2 fun i j => rfl
theorem se_len (hg : Gl X "len") (hm : X.mg "len" = none) (ha : SA X W sl [e]) (he : starEach [e] X.env = (false, eval e X.env) :: starEach [] X.env := by rfl) : SE X W (sCallB oLen sl) (.Call (.Name "len" p) [e] [] pos) := se_callB cr_len sn_len hg hm (by decide +kernel) ha (by decide) (by decide) he
theorem se_abs (hg : Gl X "abs") (hm : X.mg "abs" = none) (ha : SA X W sl [e]) (he : starEach [e] X.env = (false, eval e X.env) :: starEach [] X.env := by rfl) : SE X W (sCallB oAbs sl) (.Call (.Name "abs" p) [e] [] pos) := se_callB call_abs sn_abs hg hm (by decide +kernel) ha (by decide) (by decide) he
theorem se_intC (hg : Gl X "int") (hm : X.mg "int" = none) (ha : SA X W sl [e]) (he : starEach [e] X.env = (false, eval e X.env) :: starEach [] X.env := by rfl) : SE X W (sCallB oInt sl) (.Call (.Name "int" p) [e] [] pos) := se_callTy call_int1 sn_int hg hm (by decide +kernel) ha (by decide) (by decide) he
theorem se_max2 (hc : X.calm = true) (hg : Gl X "max") (hm : X.mg "max" = none) (ha : SA X W sl [e, a]) (he : starEach [e, a] X.env = (false, eval e X.env) :: starEach [a] X.env := by rfl) (hpl : (backTo pos (starEach [a] X.env)).any (·.1) = false := by rfl) : SE X W (sCallB oMax2 sl) (.Call (.Name "max" p) [e, a] [] pos) := se_callB (call_max2 hc) sn_max2 hg hm (by decide +kernel) ha (by decide) (by decide) he hpl
theorem se_min2 (hc : X.calm = true) (hg : Gl X "min") (hm : X.mg "min" = none) (ha : SA X W sl [e, a]) (he : starEach [e, a] X.env = (false, eval e X.env) :: starEach [a] X.env := by rfl) (hpl : (backTo pos (starEach [a] X.env)).any (·.1) = false := by rfl) : SE X W (sCallB oMin2 sl) (.Call (.Name "min" p) [e, a] [] pos) := se_callB (call_min2 hc) sn_min2 hg hm (by decide +kernel) ha (by decide) (by decide) he hpl
theorem se_gcd {x : Str} (hg : Gl X x) (hm : X.mg x = some (.builtin "math.gcd")) (ha : SA X W sl [e, a]) (hdb : (x == ("__debug__" : Str)) = false := by decide) (he : starEach [e, a] X.env = (false, eval e X.env) :: starEach [a] X.env := by rfl) (hpl : (backTo pos (starEach [a] X.env)).any (·.1) = false := by rfl) : SE X W (sCallB oGcd sl) (.Call (.Name x p) [e, a] [] pos) := se_callBf cr_gcd sn_gcd hg hm ha hdb he hpl
/-! ### isinstance(x, T), T a built-in type -/
inductive Ty | non | bl | int | str | tup | lst
def tyD (vh : VH) : D → Option Ty
  | .non => some .non
  | .bl _ => some .bl
  | .int _ => some .int
  | .str _ => some .str
  | .tup _ => some .tup
  | .lst _ => some .lst
  | .ref p => match vh[p]? with
    | some (.lst _) => some .lst
    | _ => none
  | _ => none
def Ty.str' : Ty → String
  | .non => "NoneType" | .bl => "bool" | .int => "int" | .str => "str" | .tup => "tuple" | .lst => "list"
def isT : Ty → Ty → Bool
  | .non, .non => true | .bl, .bl => true | .bl, .int => true | .int, .int => true | .str, .str => true | .tup, .tup => true | .lst, .lst => true | _, _ => false
theorem isT_kit {K : PySem.W.Frag} : ∀ (t u : Ty), PySem.W.kitOne K (.type t.str') (.type u.str') = some (isT t u) := by
  intro t u
  cases t <;> cases u <;> exact kit_ty (by decide +kernel)
def oIsi (u : Ty) (d : D) (vh : VH) (kd : KD) : Prop := match tyD vh d with
  | some t => kd (.bl (isT t u)) vh
  | none => False
def sIsi (u : Ty) (s : SemE) : SemE := fun env vh kx kd => s env vh kx fun d vh' => oIsi u d vh' kd
theorem tyD_rep {K : PySem.W.Frag} {m : Map} {H : Hp} {vh : VH} {d : D} {v : V} {t : Ty} (hr : Hr K m H vh) (r : Rep K m H d v) (e : tyD vh d = some t) : TyX K H v (.type t.str') := by
  cases d with
  | non => have r : v = .non := r; subst r; cases e; exact .base .non
  | bl b => have r : v = .bl b := r; subst r; cases e; exact .base (.bl b)
  | int b => have r : v = .int b := r; subst r; cases e; exact .base (.int b)
  | str b => have r : v = .str b := r; subst r; cases e; exact .base (.str b)
  | tup ds =>
    simp only [Rep] at r
    obtain ⟨a, xs, rfl, q, _⟩ := r
    cases e
    rcases q with (q | ⟨o, q⟩) | q
    · exact .base (.tup q)
    · exact .fTuple q
    · obtain ⟨o, its, n, q1, q2, _⟩ := q
      exact .kTuple q1 q2
  | lst ds =>
    obtain ⟨a, xs, rfl, q, _⟩ := lview_rep hr r rfl
    cases e
    exact .base (.lst q)
  | ref p =>
    revert e
    show (match vh[p]? with | some (.lst ds) => some Ty.lst | _ => none) = some t → _
    cases ep : vh[p]? with
    | none => exact fun z => by cases z
    | some cl =>
      cases cl with
      | ins _ _ _ => exact fun z => by cases z
      | lst ds =>
        intro e
        cases e
        obtain ⟨a, xs, rfl, q, rs⟩ := lview_rep (ds := ds) hr r (by simp only [lview, ep])
        exact .base (.lst q)
  | _ => cases e
theorem se_isi (u : Ty) {TN : Str} (hg : Gl X "isinstance") (hm : X.mg "isinstance" = none) (hgT : Gl X TN) (hmT : X.mg TN = none) (hT : bootBuiltins TN = some (.type u.str')) (he : SE X W se e) (hn : TN ≠ "__name__" := by decide) (hd : (TN == ("__debug__" : Str)) = false := by decide)
    (h1 : starEach [e, .Name TN p2] X.env = (false, eval e X.env) :: starEach [.Name TN p2] X.env := by rfl) (h2 : starEach [.Name TN p2] X.env = (false, eval (.Name TN p2) X.env) :: starEach [] X.env := by rfl) (hpl : (backTo pos (starEach [.Name TN p2] X.env)).any (·.1) = false := by rfl) :
    SE X W (sIsi u se) (.Call (.Name "isinstance" p) [e, .Name TN p2] [] pos) := by
  have hty : PE X (.Name TN p2) (tC (.ty u.str')) := pe_bltn hgT hmT hT rfl hn hd
  refine peImp (pe_callB call_isi hg hm boot_isinstance (pa_cons he (pa_cons hty pa_nil h2) h1) (by decide) (by decide) h1 hpl) fun σ H Q ⟨m, env, vh, kx, kd, hr, er, h, ho, ox⟩ => ?_
  refine tE.go hr er ox h fun m1 vh1 H1 d v s1 hr1 er1 ox1 r1 k1 => ?_
  revert k1
  show (match tyD vh1 d with | some t => kd (.bl (isT t u)) vh1 | none => False) → _
  cases et : tyD vh1 d with
  | none => exact False.elim
  | some t => exact fun k1 => ⟨v, .ty u.str', .type t.str', .type u.str', isT t u, rfl, .ty _, tyD_rep hr1 r1 et, isT_kit t u, ho m1 vh1 H1 (.bl (isT t u)) _ s1 hr1 rep_bl k1⟩
/-! ### xs.append(e) -/
def sApp (so se : SemE) : SemE := fun env vh kx kd => so env vh kx fun od vh1 => match od with
  | .ref p => (∃ ds, vh1[p]? = some (.lst ds)) ∧ se env vh1 kx fun d vh2 => ∃ ds, vh2[p]? = some (.lst ds) ∧ ds.length < 16777216 ∧ kd .non (vh2.set p (.lst (ds ++ [d])))
  | _ => False
theorem se_append {apos : Pos} {o : Expr} {so : SemE} (ho : SE X W so o) (he : SE X W se e) (hbase : attributeBase o "append" X.env (eval o X.env) = eval o X.env := by rfl)
    (hfew : ((backTo pos (starEach [e] X.env)).all (fun x => !x.1) && (backToKw pos (keywordEach [] X.env)).all (fun x => x.1.isSome)
      && decide ([e].length + ([] : List Keyword).length + (if ([] : List Keyword).isEmpty then 0 else 1) < 30)) = true := by rfl)
    (hline : (apos.endLine == pos.line) = true := by rfl) (hs : starEach [e] X.env = (false, eval e X.env) :: starEach [] X.env := by rfl) (hpl : (backTo pos (starEach [] X.env)).any (·.1) = false := by rfl) :
    SE X W (sApp so se) (.Call (.Attribute o "append" apos) [e] [] pos) := by
  refine peImp (pe_bm PySem.F.plainAttrs_list PySem.F.slot_list_append PySem.F.type_list_append mt_append ho (pa_cons he pa_nil hs) hbase hfew hline hs hpl) fun σ H Q ⟨m, env, vh, kx, kd, hr, er, h, ho, ox⟩ => ?_
  refine tE.go hr er ox h fun m1 vh1 H1 od ov s1 hr1 er1 ox1 r1 k1 => ?_
  cases od with
  | ref p =>
    obtain ⟨⟨ds0, e0⟩, k1⟩ := k1
    have r1' := r1
    simp only [Rep] at r1
    obtain ⟨a, rfl, ea⟩ := r1
    obtain ⟨xs0, eH0, _⟩ := hr1.ats p _ a e0 ea
    refine ⟨.inl ⟨rfl, xs0, .of eH0⟩, tE.go hr1 er1 ox1 k1 fun m2 vh2 H2 d v s2 hr2 er2 ox2 r2 k2 => ?_⟩
    obtain ⟨ds, ec, hl, kk⟩ := k2
    have ea2 := s2.2.1 p a ea
    obtain ⟨xs, eH, rs⟩ := hr2.ats p _ a ec ea2
    refine ⟨a, xs, v, rfl, rfl, eH, by rw [← rs.len, sizeLine_eq]; exact hl, ?_⟩
    have st := set_step (H := H2) (o := .lst (xs ++ [v])) ea2
    exact ho m2 _ _ .non .non ((s1.trans s2).trans st) (hr2.set (c := .lst (ds ++ [d])) ea2 ⟨_, upd_same, Reps.step hr2 st _ _ (rs.app (Reps.one r2))⟩) rfl kk
  | _ => exact k1.elim
end
end VI

end
section
/-! VI12: own exceptions: raise, try. -/
namespace VI
open PySem PySem.Spec L2
open PyProof.Rows hiding St

/-! ### several clauses, with and without a name -/
def dAs (o : Option Nat) (D : Ends) : Ends := match o with
  | none => D
  | some i => { nx := fun σ' H' => D.nx (σ'.set i none) H', rt := D.rt, bk := fun σ' H' => D.bk (σ'.set i none) H', ct := fun σ' H' => D.ct (σ'.set i none) H' }
def sAs (o : Option Nat) (a : Addr) (σ : L2.St) : L2.St := match o with
  | none => σ
  | some i => σ.set i (some (.ref a))
abbrev TSx := Addr → Value → Option Addr → TS
def wMix (K : PySem.W.Frag) (Wout : WX) (D : Ends) : List (Value × Option Nat × TSx) → WX
  | [] => Wout
  | (c, o, ts) :: r => fun cls d σ H => ∃ b, PySem.W.exmOne K cls c = some b ∧ (b = true → ∀ a, H a = none → ts a cls d (dAs o D) (sAs o a σ) H) ∧ (b = false → wMix K Wout D r cls d σ H)
def nameAt (X : Cx) : Option Str → Option Nat → Prop
  | none, none => True
  | some n, some i => X.N[i]? = some n ∧ X.env.kindOf n = some .local
  | _, _ => False
inductive HdsMix (X : Cx) : List ExceptHandler → List (Value × Option Nat × TSx) → Prop
  | nil : HdsMix X [] []
  | cons {x : Str} {c : Value} {ts : TSx} {b₀ : Stmt} {suite : List Stmt} {np pos' : Pos} {n : Option Str} {o : Option Nat} {hds : List ExceptHandler} {l : List (Value × Option Nat × TSx)} (hc : Names X x c) (hn : nameAt X n o)
      (hsu : ∀ (a : Addr) (oe : Obj) (cls : Value) (d : Option Addr) (pn : List (Addr × Obj)), L2N.Zn cls d oe → (∃ vs, oe.data = .fields vs) → PSs (X.suite a ((a, oe) :: pn)) (b₀ :: suite) (ts a cls d)) (r : HdsMix X hds l) :
      HdsMix X (.ExceptHandler (some (.Name x np)) n (b₀ :: suite) pos' :: hds) ((c, o, ts) :: l)
section
variable {X : Cx} {body : List Stmt} {h₀ : ExceptHandler} {hds : List ExceptHandler} {l : List (Value × Option Nat × TSx)} {pos : Pos} {tb : WX → TS} {Wout : WX}
theorem ps_try_mix (hs : X.stack = X.env :: X.outer) (hf : X.env.frame = some X.env.locals) (hN : X.N.Nodup) (tk : L2N.Takes X Wout)
    (hb : ∀ (W : WX) (pn : List (Addr × Obj)) (xe : Value → Shared → Prop), L2N.Takes (X.tr pn xe) W → PassesOwn (model X.prog X.w) X.A X.env xe → PSs (X.tr pn xe) body (tb W))
    (hh : HdsMix X (h₀ :: hds) l) : PS X (.Try body (h₀ :: hds) [] [] pos) (fun D σ H => tb (wMix X.K Wout D l) D σ H) := by
  refine ⟨fun pins s σ H D I h => ?_⟩
  have ok := I.ok
  have hfr : X.A.frames = some (X.env :: X.outer) := by rw [ok.frames, hs]
  refine wpAny_Try_except ?_
  refine wpAny_mono ((hb (wMix X.K Wout D l) (X.pn ++ pins) (fun e s₁ => wpAny (model X.prog X.w) X.A (noteFrame e X.env) (fun _ s₂ => wpAny (model X.prog X.w) X.A (setFlight e none) (fun _ s₃ =>
    wpAny (model X.prog X.w) X.A (handleBy e X.env (h₀ :: hds)) (SP X pins D) X.xe s₃) X.xe s₂) X.xe s₁) (fun u s' xx => ?_) PassesOwn.looking).run [] s σ H D (I.toTry _) h) (fun f s1 hsp => ?_) (fun e s1 he => he)
  · obtain ⟨a, B, sI, pins', σ', H', cls, d, rfl, J', nb, up, sky, na, os, ag, w⟩ := xx
    have J : Inv X pins σ' H' sI := J'.ofTry ok
    have sky' : Sky B (X.env :: X.outer) a (L2N.Zn cls d) X.env.locals s'.heap := by rw [← hs]; exact sky
    show wpAny (model X.prog X.w) X.A (noteFrame (.ref a) X.env) _ _ _
    refine L2N.Sky.land L2N.Zn.steady hfr hf sky' fun h3 fl3 up3 => ?_
    have J3 : Inv X pins σ' H' { s' with heap := h3 } := J.landed nb fl3.1 (up.trans up3) os ag
    obtain ⟨oe3, vs3, he3, hz3, hd3⟩ := fl3.there
    have notFr : ∀ {h : Heap} {o : Obj} {vs : Array Value}, h.FunFrames B (X.env :: X.outer) → h.get? a = some o → o.data = .fields vs → a ∉ frs (X.env :: X.outer) := fun {h o vs} ff e dd hm => by
      obtain ⟨_, o', e', hnf⟩ := ff.mem hm
      rw [e] at e'; cases e'
      exact hnf _ dd
    have nfr := notFr fl3.2.2.1 he3 hd3
    have nL : a ≠ X.env.locals := fun z => nfr (List.mem_filterMap.mpr ⟨X.env, List.mem_cons_self, by rw [hf, z]⟩)
    have nF : a ∉ X.fs := fun hm => by
      obtain ⟨e, he, q⟩ := List.mem_filterMap.mp hm
      exact nfr (List.mem_filterMap.mpr ⟨e, List.mem_cons_of_mem _ he, q⟩)
    have S3 := J3.suite he3 hd3 na nL nF
    have go : ∀ {hds' : List ExceptHandler} {l' : List (Value × Option Nat × TSx)}, HdsMix X hds' l' → wMix X.K Wout D l' cls d σ' H' →
        wpAny (model X.prog X.w) X.A (handleBy (.ref a) X.env hds') (SP X pins D) X.xe { s' with heap := h3 } := by
      intro hds' l' hk
      induction hk with
      | nil =>
        intro w
        refine wpAny_handleBy_nil ?_
        obtain ⟨k1, k2, k3, oe, vs, T, oT, ts', he, hz, hd, h1, hr⟩ := id fl3
        unfold PySem.passOn
        refine wpAny_bind (wpAny_field he hd h1 ?_)
        rw [if_neg (show ¬ ((Value.ref T == Value.none) = true) from by simp)]
        have fin : wpAny (model X.prog X.w) X.A (setFlight (.ref a) X.env.frame) (fun _ s4 => wpAny (model X.prog X.w) X.A (throw (.ref a) : Sem Flow) (SP X pins D) X.xe s4) X.xe { s' with heap := h3 } := by
          rw [hf]
          refine HandSPX.setFlight_upZ fl3 fun h4 hh4 up4 => wpAny_throw (tk _ _ ?_)
          exact ⟨a, B, sI, pins, σ', H', cls, d, rfl, J, nb, (up.trans up3).trans up4, .inr (.inr (by rw [hs]; exact hh4)), na, os, ag, w⟩
        first
          | exact wpAny_bind (wpAny_pure (wpAny_bind fin))
          | exact wpAny_bind fin
      | @cons x c ts b₀ suite np pos' n o hds2 l2 hc hn hsu r ih =>
        intro w
        obtain ⟨b, hb1, hyes, hno⟩ := w
        refine wpAny_handleBy_cons (codeAny_handlers_test ?_) (by intro q; cases q)
        have LT : PySem.W.Looks (model X.prog X.w) h3 (typeOf (.ref a)) cls := fun A Q E s k q => wpAny_typeOf_ref (k _ _ he3) (by rw [hz3.1]; exact q)
        have LM := PySem.W.exm_one (M := model X.prog X.w) (J3.kIn) LT hb1
        have test : ∀ {Q : Value → Shared → Prop} {E : Value → Shared → Prop}, Q c { s' with heap := h3 } → wpAny (model X.prog X.w) (X.A.mark (some (.ref a))) (eval (.Name x np) X.env) Q E { s' with heap := h3 } := fun {Q E} q => by
          obtain ⟨hg, hdbg, hm | ⟨hm, hv, hnn⟩⟩ := hc
          · exact ld_glob (X := X.suite a ((a, oe3) :: (X.pn ++ pins))) S3 hg hm q hdbg
          · exact ld_blt (X := X.suite a ((a, oe3) :: (X.pn ++ pins))) S3 hg hm hv q hnn hdbg
        refine test (LM.here ?_)
        cases b with
        | true =>
          cases n with
          | none =>
            cases o with
            | some i => exact hn.elim
            | none =>
              refine codeAny_handlers_suite ?_
              refine HandSPX.lands_againZ fl3 fun h4 fl4 up4 => ?_
              have J4 : Inv X pins σ' H' { s' with heap := h4 } := J.landed nb fl4.1 ((up.trans up3).trans up4) os ag
              obtain ⟨oe4, vs4, he4, hz4, hd4⟩ := fl4.there
              have S4 := J4.suite he4 hd4 na nL nF
              refine wpAny_mono ((hsu a oe4 cls d (X.pn ++ pins) hz4 ⟨_, hd4⟩).run [] _ _ H' _ S4 (hyes rfl a na)) (fun f s6 hsp => ?_) (fun _ _ z => False.elim z)
              cases f with
              | next =>
                obtain ⟨σ6, H6, S6, q6⟩ := hsp
                exact ⟨_, _, S6.unsuite ok, q6⟩
              | brk =>
                obtain ⟨σ6, H6, S6, q6⟩ := hsp
                exact ⟨_, _, S6.unsuite ok, q6⟩
              | cont =>
                obtain ⟨σ6, H6, S6, q6⟩ := hsp
                exact ⟨_, _, S6.unsuite ok, q6⟩
              | ret u =>
                obtain ⟨v6, σ6, H6, S6, r6, q6⟩ := hsp
                exact ⟨_, _, _, S6.unsuite ok, r6, q6⟩
          | some n =>
            cases o with
            | none => exact hn.elim
            | some i =>
              obtain ⟨hi, hln⟩ := hn
              have hloc : Loc X.env.scope n := .inl hln
              refine codeAny_handlers_suite_as ?_
              refine HandSPX.lands_againZ fl3 fun h4 fl4 up4 => ?_
              have J4 : Inv X pins σ' H' { s' with heap := h4 } := J.landed nb fl4.1 ((up.trans up3).trans up4) os ag
              obtain ⟨oe4, vs4, he4, hz4, hd4⟩ := fl4.there
              have S4 := J4.suite he4 hd4 na nL nF
              refine store_ok (X := X.suite a ((a, oe4) :: (X.pn ++ pins))) (v := .ref a) S4 hN hi hloc rfl (fun s5 S5 => ?_) (.inr hln)
              refine wpAny_mono ((hsu a oe4 cls d (X.pn ++ pins) hz4 ⟨_, hd4⟩).run [] s5 _ H' _ S5 (hyes rfl a na)) (fun f s6 hsp => ?_) (fun _ _ z => False.elim z)
              have end_ : ∀ {σ6 : L2.St} {H6 : Hp} {Q : Shared → Prop}, Inv (X.suite a ((a, oe4) :: (X.pn ++ pins))) [] σ6 H6 s6 → (∀ s7, Inv X pins (σ6.set i none) H6 s7 → Q s7) →
                  wpAny (model X.prog X.w) X.A (do bindName X.env n .none; unbindBehindTheSuite X.env n pos') (fun _ s7 => Q s7) X.xe s6 := fun {σ6 H6 Q} S6 hq => gone_ok (S6.unsuite ok) hN hi hln hq
              cases f with
              | next =>
                obtain ⟨σ6, H6, S6, q6⟩ := hsp
                exact end_ S6 fun s7 J7 => ⟨_, _, J7, q6⟩
              | brk =>
                obtain ⟨σ6, H6, S6, q6⟩ := hsp
                exact end_ S6 fun s7 J7 => ⟨_, _, J7, q6⟩
              | cont =>
                obtain ⟨σ6, H6, S6, q6⟩ := hsp
                exact end_ S6 fun s7 J7 => ⟨_, _, J7, q6⟩
              | ret u =>
                obtain ⟨v6, σ6, H6, S6, r6, q6⟩ := hsp
                exact end_ S6 fun s7 J7 => ⟨_, _, _, J7, r6, q6⟩
        | false =>
          show wpAny _ X.A (handleBy (.ref a) X.env hds2) _ _ _
          exact ih (hno rfl)
    exact go hh w
  · cases f with
    | next =>
      obtain ⟨σ', H', J', q⟩ := hsp
      exact wpAny_execs_nil ⟨σ', H', J'.ofTry ok, q⟩
    | brk =>
      obtain ⟨σ', H', J', q⟩ := hsp
      exact ⟨σ', H', J'.ofTry ok, q⟩
    | cont =>
      obtain ⟨σ', H', J', q⟩ := hsp
      exact ⟨σ', H', J'.ofTry ok, q⟩
    | ret u =>
      obtain ⟨v, σ', H', J', r, q⟩ := hsp
      exact ⟨v, σ', H', J'.ofTry ok, r, q⟩
end
/-! ### an own class with its own __init__, called; its context is None -/
section
variable {X : Cx} {e : Expr} {es : List Expr} {ta : TA} {p pos : Pos}
theorem pmk_oexN {CX : CXT} {x : Str} {C fI : Addr} {k : Nat} {fd : FuncData} {ps : List Str} {sp : Sp} (T : OexC X.K C) (iC : PySem.W.findIn X.K (.ref C) "__init__" = some (some (.ref fI))) (tI : PySem.W.typeIn X.K (.ref fI) = some (.type "function"))
    (F1 : FnOk X.prog X.w X.K X.mg X.base CX k fI fd ps sp) (hr : Room (k + 1) X.A) (hb : Binds X.K fd ps []) (hx : Passes CX X (fun _ _ _ => False)) (hg : Gl X x) (hm : X.mg x = some (.ref C)) (ha : PA X (e :: es) ta)
    (hdb : (x == ("__debug__" : Str)) = false := by decide) (he : starEach (e :: es) X.env = (false, eval e X.env) :: starEach es X.env := by rfl) (hpl : (backTo pos (starEach es X.env)).any (·.1) = false := by rfl) :
    L2N.PMk X (.Call (.Name x p) (e :: es) [] pos) (tMkO C sp [] ta) := by
  intro pins s σ H Q I h
  obtain ⟨nm, q, N, bs, bm, sn, sub, ab, col, dd, k0, k1, k2, k3, k5, hC, hbm⟩ := T.cls
  refine wpAny_Call_Name_kw (ld_glob I hg hm ?_ hdb)
  refine PySem.W.callWith_K (h₀ := X.base) I.ok.mod.kin T.kC (thn (ha.run pos pins s σ H _ I h) fun us s1 ⟨vs, H1, I1, r1, hz, q1⟩ => ⟨I1.kIn, ?_⟩) he hpl
  show wpAny _ _ (call (.ref C) us) _ _ _
  obtain ⟨hp, g, dr, tk, os⟩ := s1
  have hsz : hp.objs.size ≤ hp.objs.size + 1 := Nat.le_succ _
  have hn : H1 (hp.objs.size + 1) = none := I1.hok.fresh hsz
  have hq := q1 (hp.objs.size + 1) hn
  rw [List.append_nil] at hq
  have kk : ∀ b o, hp.get? b = some o → ((hp.push (PySem.W.kdv_tup us)).push (PySem.HandSPX.excO C hp.objs.size)).get? b = some o := fun b o e => Heap.get?_push_of_some _ (Heap.get?_push_of_some _ e)
  have hget : ((hp.push (PySem.W.kdv_tup us)).push (PySem.HandSPX.excO C hp.objs.size)).get? (hp.objs.size + 1) = some (PySem.HandSPX.excO C hp.objs.size) := by heap_get
  have I2 : Inv X pins σ (upd H1 (hp.objs.size + 1) (exo (hp.objs.size + 1) C none)) ⟨(hp.push (PySem.W.kdv_tup us)).push (PySem.HandSPX.excO C hp.objs.size), g, dr, tk, os⟩ :=
    I1.laid (t' := tk) (a := hp.objs.size + 1) (o := exo (hp.objs.size + 1) C none) (h' := (hp.push (PySem.W.kdv_tup us)).push (PySem.HandSPX.excO C hp.objs.size)) kk hsz (exo_ok hget)
  have r2 : Vals (V.ref (hp.objs.size + 1) :: vs) (Value.ref (hp.objs.size + 1) :: us) := .cons rfl r1
  have hl : (Value.ref (hp.objs.size + 1) :: us ++ []).length = ps.length := by
    have e := r2.length
    rw [F1.len _ _ _ _ hq] at e
    rw [List.append_nil]
    exact e.symm
  have hus : us.length ≤ sizeLine := by
    rw [← Paired.length r1, sizeLine_eq]
    omega
  have b2 := hb _ (Value.ref (hp.objs.size + 1) :: us) I2.kIn hl
  rw [List.append_nil] at b2
  refine wpAny_call (PySem.HandSPX.call_own F.excBase_ValueError (fun Y => PySem.HandSPX.refsVE_contains Y bm hbm) (I1.kIn _ _ hC) (PySem.W.looks_findIn I1.kIn iC) (fun self => PySem.W.bind_fn I1.kIn self tI) hus
    (codeAny_mono (F1.run _ X.stack _ _ ⟨Value.ref (hp.objs.size + 1) :: us, []⟩ (Value.ref (hp.objs.size + 1) :: us) _ _ (fun _ _ _ => False) (hr.make C us []) (I2.env0.make C us []) b2 r2 hq) fun r s' hq' => ?_))
  cases r with
  | error er => exact hx pins σ _ _ er s' I2 hq'
  | ok fl =>
    cases fl with
    | ret u =>
      obtain ⟨v, H2, os2, bare2, un2, hok2, rv, ev, d, fs, ea, ed, hd1, q2⟩ := hq'
      subst ev
      obtain ⟨h2, g2, d2, t2, os'⟩ := s'
      obtain ⟨t0, G, J, kG, ge, hoe, na⟩ := mk_end0 (d2 := d2) (t2 := t2) I1 hsz kk un2 hok2 os2 bare2 ea ed hd1
      refine ⟨rv, ⟨hp.objs.size + 1, _, _, ⟨G, g2, d2, t2, os'⟩, _, .ref C, some d, rfl, J, kG, ge, hoe, ⟨rfl, rfl, fun vs hv => ?_⟩, rfl, rfl, na, rfl, bare2, raises_own T.exC T.tyC, q2⟩⟩
      cases hv
      rfl
    | next => exact False.elim hq'
    | brk => exact False.elim hq'
    | cont => exact False.elim hq'
end
/-! ### what a class of exceptions must have -/
/-- its __init__: the fields fs are set, in this order, to the arguments -/
def spEx (K : PySem.W.Frag) (C : Addr) (fs : List Str) : Sp := fun vs H Q _ => ∃ a ws, vs = .ref a :: ws ∧ ws.length = fs.length ∧ H a = some (exo a C none) ∧
  ∀ dx H', H dx = none → dx ≠ a → H' a = some (exo a C (some dx)) → H' dx = some (exd dx (fs.zip ws).reverse) → (∀ b, b ≠ a → b ≠ dx → H' b = H b) → Q .non H'
structure ExC (P : Program) (w : World) (K : PySem.W.Frag) (mg : Str → Option Value) (base : Heap) (c : Str) (fs : List Str) : Prop where
  oex : OexC K (He.ga K c)
  ini : PySem.W.findIn K (.ref (He.ga K c)) "__init__" = some (some (.ref (He.ma K (He.ga K c) "__init__")))
  tyI : PySem.W.typeIn K (.ref (He.ma K (He.ga K c) "__init__")) = some (.type "function")
  xf : XfC K (He.ga K c)
  fld : ∀ f ∈ fs, PySem.W.findIn K (.ref (He.ga K c)) f = some none
  fn : ∃ fd ps, Binds K fd ps [] ∧ FnOk P w K mg base (L2N.CX P w) 1 (He.ma K (He.ga K c) "__init__") fd ps (spEx K (He.ga K c) fs)
theorem upd2 {H : Hp} {a b : Addr} {u v w : HO} (h : a ≠ b) (x : Addr) : upd (upd (upd H a u) b v) a w x = if x = a then some w else if x = b then some v else H x := by
  by_cases hx : x = a
  · subst hx; rw [upd_same, if_pos rfl]
  · rw [upd_ne hx, if_neg hx]
    by_cases hb : x = b
    · subst hb; rw [upd_same, if_pos rfl]
    · rw [upd_ne hb, upd_ne hx, if_neg hb]
section
variable {P : Program} {w : World} {K : PySem.W.Frag} {mg : Str → Option Value} {base : Heap} {fd : FuncData} {name qual : Str} {params : Arguments} {scope : Scope} {f g : Str} {fI C : Addr} {p1 p2 p3 p4 q1 q2 q3 q4 : Pos}
/-- def __init__(self, f): self.f = f -/
theorem init1 (F : FunD K name qual params [.Assign [.Attribute (.Name "self" p1) f p2] (.Name f p3) p4] scope [] [] fI fd) (T : OexC K C) (hf : PySem.W.findIn K (.ref C) f = some none) (S : FnScope ["self", f] ["self", f] scope) (hs : scope.names.lookup ("self" : Str) = some .local) (hl : scope.names.lookup f = some .local)
    (hd : (f == ("__debug__" : Str)) = false := by decide) (hcd : (f == ("__classdict__" : Str)) = false := by decide) : FnOk P w K mg base (L2N.CX P w) 1 fI fd ["self", f] (spEx K C [f]) := by
  refine F.ok S (k := 0) (fun vs H Q E ⟨a, ws, e, hl, _⟩ => by rw [e, List.length_cons, hl]; rfl) fun cdv A outer s H vs Q E hr ⟨a, ws, e, hlw, ea, k⟩ => ?_
  subst e
  refine ⟨_, pss_one (ps_ost (pe_var (i := 0) rfl (.inl hs)) (pe_var (i := 1) rfl (.inl hl) hd hcd)), ?_⟩
  cases ws with
  | nil => cases hlw
  | cons v r =>
    cases r with
    | cons _ _ => cases hlw
    | nil =>
      refine ⟨v, rfl, .ref a, rfl, a, C, rfl, T, hf, .inl ⟨ea, fun dx hdx hne => k dx _ hdx hne upd_same ?_ fun b h1 h2 => ?_⟩⟩
      · rw [upd_ne hne, upd_same]; rfl
      · rw [upd_ne h1, upd_ne h2]
/-- def __init__(self, f, g): self.f = f; self.g = g -/
theorem init2 (F : FunD K name qual params [.Assign [.Attribute (.Name "self" p1) f p2] (.Name f p3) p4, .Assign [.Attribute (.Name "self" q1) g q2] (.Name g q3) q4] scope [] [] fI fd) (T : OexC K C) (hf : PySem.W.findIn K (.ref C) f = some none) (hg : PySem.W.findIn K (.ref C) g = some none)
    (S : FnScope ["self", f, g] ["self", f, g] scope) (hs : scope.names.lookup ("self" : Str) = some .local) (hl : scope.names.lookup f = some .local) (hl2 : scope.names.lookup g = some .local)
    (hd : (f == ("__debug__" : Str)) = false := by decide) (hcd : (f == ("__classdict__" : Str)) = false := by decide) (hd2 : (g == ("__debug__" : Str)) = false := by decide) (hcd2 : (g == ("__classdict__" : Str)) = false := by decide) : FnOk P w K mg base (L2N.CX P w) 1 fI fd ["self", f, g] (spEx K C [f, g]) := by
  refine F.ok S (k := 0) (fun vs H Q E ⟨a, ws, e, hl, _⟩ => by rw [e, List.length_cons, hl]; rfl) fun cdv A outer s H vs Q E hr ⟨a, ws, e, hlw, ea, k⟩ => ?_
  subst e
  refine ⟨_, pss_cons (ps_ost (pe_var (i := 0) rfl (.inl hs)) (pe_var (i := 1) rfl (.inl hl) hd hcd)) (pss_one (ps_ost (pe_var (i := 0) rfl (.inl hs)) (pe_var (i := 2) rfl (.inl hl2) hd2 hcd2))), ?_⟩
  cases ws with
  | nil => cases hlw
  | cons v r =>
    cases r with
    | nil => cases hlw
    | cons v2 r =>
      cases r with
      | cons _ _ => cases hlw
      | nil =>
        refine ⟨v, rfl, .ref a, rfl, a, C, rfl, T, hf, .inl ⟨ea, fun dx hdx hne => ?_⟩⟩
        have e1 : upd (upd H dx (exd dx [(f, v)])) a (exo a C (some dx)) dx = some (exd dx [(f, v)]) := by rw [upd_ne hne, upd_same]
        refine ⟨v2, rfl, .ref a, rfl, a, C, rfl, T, hg, .inr ⟨dx, [(f, v)], upd_same, e1, (by show 1 ≤ 900; omega), ?_⟩⟩
        refine k dx _ hdx hne ?_ upd_same fun b h1 h2 => ?_
        · rw [upd_ne (Ne.symm hne), upd_same]
        · rw [upd_ne h2, upd_ne h1, upd_ne h2]
end
/-! ### raise C(e, ..) -/
def sRaise (c : Str) (fs : List Str) (t : SemA) : SemS := fun env vh k => t env vh (fun e h => k.ex e env h) fun ds vh' => ds.length = fs.length ∧ k.ex ⟨c, fs.reverse, ds.reverse⟩ env vh'
theorem zip_fst {α β : Type} : ∀ {xs : List α} {ys : List β}, ys.length = xs.length → (xs.zip ys).map (·.1) = xs
  | [], _, _ => by simp
  | x :: xs, [], h => by cases h
  | x :: xs, y :: ys, h => by rw [List.zip_cons_cons, List.map_cons, zip_fst (by simpa using h)]
theorem zip_snd {α β : Type} : ∀ {xs : List α} {ys : List β}, ys.length = xs.length → (xs.zip ys).map (·.2) = ys
  | [], [], _ => by simp
  | [], y :: ys, h => by cases h
  | x :: xs, [], h => by cases h
  | x :: xs, y :: ys, h => by rw [List.zip_cons_cons, List.map_cons, zip_snd (by simpa using h)]
theorem Reps.rev {K : PySem.W.Frag} {m : Map} {H : Hp} : ∀ {ds : List D} {xs : List V}, Reps K m H ds xs → Reps K m H ds.reverse xs.reverse
  | [], xs, r => by simp only [Reps] at r; subst r; simpa using Reps.nil
  | d :: ds, xs, r => by
    simp only [Reps] at r
    obtain ⟨v, vs, rfl, r1, r2⟩ := r
    rw [List.reverse_cons, List.reverse_cons]
    exact (Reps.rev r2).app (Reps.one r1)
section
variable {X : Cx} {W : WX} {e : Expr} {es : List Expr} {sl : SemA} {p pos pos' : Pos} {c : Str} {fs : List Str}
theorem raise_step {K : PySem.W.Frag} {m : Map} {H1 H' : Hp} {vh : VH} {ds : List D} {ws : List V} {d : Addr} (hr : Hr K m H1 vh) (r : Reps K m H1 ds ws) (hl : ws.length = fs.length) (hd1 : H1 d = none) (keep : ∀ b, H1 b ≠ none → H' b = H1 b) (hd : H' d = some (.xd (fs.zip ws).reverse)) :
    Step m H1 m H' ∧ Hr K m H' vh ∧ RepX K m H' ⟨c, fs.reverse, ds.reverse⟩ (.ref (He.ga K c)) (some d) := by
  have sm : Same H1 H' := fun b o e => by rw [keep b (by rw [e]; simp)]; exact e
  have st := Step.same (m := m) sm
  have im : m.Imm d := imm_new hr hd1
  refine ⟨st, hr.same sm, rfl, d, _, rfl, hd, ?_, ?_⟩
  · show (List.map (·.1) (fs.zip ws).reverse) = _
    rw [List.map_reverse, zip_fst hl]
  · show Reps K m H' ds.reverse (List.map (·.2) (fs.zip ws).reverse)
    rw [List.map_reverse, zip_snd hl]
    exact (Reps.step hr st _ _ r).rev
theorem ss_raise (hc : X.calm = true) (tk : L2N.Takes X W) (hroom : Room 2 X.A) (hfs : fs.length ≤ 100) (T : ExC X.prog X.w X.K X.mg X.base c fs) (hg : Gl X c) (hm : X.mg c = some (.ref (He.ga X.K c))) (ha : SA X W sl (e :: es)) (hdb : (c == ("__debug__" : Str)) = false := by decide)
    (he : starEach (e :: es) X.env = (false, eval e X.env) :: starEach es X.env := by rfl) (hpl : (backTo pos (starEach es X.env)).any (·.1) = false := by rfl) : SS X W (sRaise c fs sl) (.Raise (some (.Call (.Name c p) (e :: es) [] pos)) none pos') := by
  obtain ⟨fd, ps, hb, F⟩ := T.fn
  have hx : Passes (L2N.CX X.prog X.w) X (fun _ _ _ => False) := fun pins σ H s e s' I c => L2N.passes_call (tk.imp (W' := fun _ _ _ _ => False) fun _ _ _ _ z => z.elim) (fun _ _ _ _ z => z) pins σ H s e s' I c
  refine psImp (L2N.ps_raise hc tk (pmk_oexN T.oex T.ini T.tyI F hroom hb hx hg hm ha hdb he hpl)) fun Dn σ H ⟨m, env, vh, k, hr, er, h, o⟩ => ?_
  refine tA.go hr er (o.x hr er) h fun m1 vh1 H1 ds vs s1 hr1 er1 ox1 r1 k1 => ?_
  have hlw : vs.length = fs.length := by rw [← r1.len]; exact k1.1
  refine ⟨by omega, fun a hna => ?_⟩
  rw [List.append_nil]
  refine ⟨a, vs, rfl, hlw, upd_same, fun dx H' hdx hne h1 h2 h3 => ⟨rfl, dx, _, h1, h2, ?_, ?_⟩⟩
  · rw [upd_ne hne] at hdx; exact hdx
  · rw [upd_ne hne] at hdx
    have keep : ∀ b, H1 b ≠ none → upd (del H' a) dx (.xd (fs.zip vs).reverse) b = H1 b := fun b hb => by
      have nb : b ≠ a := fun z => hb (by rw [z]; exact hna)
      have nd : b ≠ dx := fun z => hb (by rw [z]; exact hdx)
      rw [upd_ne nd, del_ne nb, h3 b nb nd, upd_ne nb]
    obtain ⟨st, hr2, rx⟩ := raise_step (c := c) hr1 r1 hlw hdx keep upd_same
    exact (o.step s1).ex m1 vh1 _ env σ ⟨c, fs.reverse, ds.reverse⟩ _ _ st hr2 (er1.step hr1 st) rx k1.2
/-! ### try -/
abbrev SemH := Addr → Addr → Str → SemS
/-- a clause: does it take the class; its name's slot; its suite -/
structure Cl where
  c : Str
  sub : Str → Bool
  o : Option Nat
  sem : SemH
@[reducible] def ksAs (o : Option Nat) (k : KS) : KS := match o with
  | none => { k with ex := fun _ _ _ => False }
  | some i => { nx := fun env h => k.nx (env.set i none) h, rt := k.rt, bk := fun env h => k.bk (env.set i none) h, ct := fun env h => k.ct (env.set i none) h, ex := fun _ _ _ => False }
@[reducible] def envAs (o : Option Nat) (a dd : Addr) (ex : Exc) (env : Env) : Env := match o with
  | none => env
  | some i => env.set i (some (.exn a dd ex.c ex.ns ex.ds))
@[reducible] def exTry (k : KS) : List Cl → Exc → Env → VH → Prop
  | [], ex, env, vh => k.ex ex env vh
  | c :: r, ex, env, vh => match c.sub ex.c with
    | true => ∀ a dd, c.sem a dd ex.c (envAs c.o a dd ex env) vh (ksAs c.o k)
    | false => exTry k r ex env vh
def sTry (L : List Str) (sb : SemS) (cs : List Cl) : SemS := fun env vh k => sb env vh { k with ex := fun ex env' vh' => ex.c ∈ L ∧ exTry k cs ex env' vh' }
section
variable {X : Cx} {W : WX} {L : List Str} {body : List Stmt} {h₀ : ExceptHandler} {hds : List ExceptHandler} {sb : SemS} {pos : Pos}
/-- a clause's reading -/
def tsOf (K : PySem.W.Frag) (cl : Cl) : TSx := fun a cls d Dn σ H => ∃ c dd, cls = .ref (He.ga K c) ∧ d = some dd ∧ tS K W0 (cl.sem a dd c) Dn σ H
inductive ClsAre (X : Cx) (L : List Str) : List ExceptHandler → List Cl → Prop
  | nil : ClsAre X L [] []
  | cons {x : Str} {sub : Str → Bool} {o : Option Nat} {sem : SemH} {b₀ : Stmt} {suite : List Stmt} {np pos' : Pos} {n : Option Str} {hds : List ExceptHandler} {l : List Cl} (hc : Names X x (.ref (He.ga X.K x))) (hn : nameAt X n o) (hm : ∀ c ∈ L, PySem.W.exmOne X.K (.ref (He.ga X.K c)) (.ref (He.ga X.K x)) = some (sub c))
      (hsu : ∀ (a : Addr) (oe : Obj) (c : Str) (dd : Addr) (pn : List (Addr × Obj)), L2N.Zn (.ref (He.ga X.K c)) (some dd) oe → (∃ vs, oe.data = .fields vs) → SSs (X.suite a ((a, oe) :: pn)) W0 (sem a dd c) (b₀ :: suite)) (r : ClsAre X L hds l) :
      ClsAre X L (.ExceptHandler (some (.Name x np)) n (b₀ :: suite) pos' :: hds) (⟨x, sub, o, sem⟩ :: l)
theorem ClsAre.mix : ∀ {hds : List ExceptHandler} {l : List Cl}, ClsAre X L hds l → HdsMix X hds (l.map fun cl => (Value.ref (He.ga X.K cl.c), cl.o, tsOf X.K cl)) := by
  intro hds l h
  induction h with
  | nil => exact .nil
  | cons hc hn hm hsu r ih =>
    refine .cons hc hn (fun a oe cls d pn hz hf => ⟨fun pins s σ H Dn I ⟨c, dd, e1, e2, q⟩ => ?_⟩) ih
    subst e1
    subst e2
    exact (hsu a oe c dd pn hz hf).run pins s σ H Dn I q
theorem try_wish {K : PySem.W.Frag} {Dn : Ends} {k : KS} {ex : Exc} {cls : Value} {dd0 : Option Addr} {m : Map} {H : Hp} {vh : VH} {env : Env} {σ : L2.St} (hL : ex.c ∈ L) (hr : Hr K m H vh) (er : Er K m H env σ) (o : OutS K m H k W Dn) (rx : RepX K m H ex cls dd0) :
    ∀ {l : List Cl}, (∀ cl ∈ l, PySem.W.exmOne K (.ref (He.ga K ex.c)) (.ref (He.ga K cl.c)) = some (cl.sub ex.c)) → exTry k l ex env vh → wMix K W Dn (l.map fun cl => (Value.ref (He.ga K cl.c), cl.o, tsOf K cl)) cls dd0 σ H
  | [], _, h => o.ex m vh H env σ ex cls dd0 (Step.refl _ _) hr er rx h
  | cl :: l, hm, h => by
    obtain ⟨ec, dd, fs, ed, eH, en, rs⟩ := rx
    subst ed
    subst ec
    refine ⟨cl.sub ex.c, hm cl List.mem_cons_self, fun hb a ha => ?_, fun hb => ?_⟩
    · have h' : ∀ a dd, cl.sem a dd ex.c (envAs cl.o a dd ex env) vh (ksAs cl.o k) := by
        have h2 := h
        unfold exTry at h2
        rw [hb] at h2
        exact h2
      have im : m.Imm dd := by
        refine ⟨fun p e => ?_, fun z => ?_⟩
        · rcases hr.obj e with ⟨ys, q⟩ | ⟨C, dx, fs, q⟩ <;> rw [eH] at q <;> cases q
        · obtain ⟨⟨ys, q⟩, _⟩ := hr.hid dd z
          rw [eH] at q; cases q
      have rd : Rep K m H (.exn a dd ex.c ex.ns ex.ds) (.ref a) := by
        simp only [Rep]
        exact ⟨trivial, fs, eH, im, en, rs⟩
      refine ⟨ex.c, dd, rfl, rfl, m, envAs cl.o a dd ex env, vh, ksAs cl.o k, hr, ?_, h' a dd, ?_⟩
      · cases cl.o with
        | none => exact er
        | some i => exact er.set rd
      · cases cl.o with
        | none => exact ⟨o.nx, o.rt, o.bk, o.ct, fun _ _ _ _ _ _ _ _ _ _ _ _ z => z.elim⟩
        | some i => exact ⟨fun m' vh' H' env' σ' s h1 e1 kk => o.nx m' vh' H' _ _ s h1 e1.unset kk, o.rt, fun m' vh' H' env' σ' s h1 e1 kk => o.bk m' vh' H' _ _ s h1 e1.unset kk, fun m' vh' H' env' σ' s h1 e1 kk => o.ct m' vh' H' _ _ s h1 e1.unset kk, fun _ _ _ _ _ _ _ _ _ _ _ _ z => z.elim⟩
    · refine try_wish hL hr er o ⟨rfl, dd, fs, rfl, eH, en, rs⟩ (fun cl' h' => hm cl' (List.mem_cons_of_mem _ h')) ?_
      have h2 := h
      unfold exTry at h2
      rw [hb] at h2
      exact h2
theorem ClsAre.exm : ∀ {hds : List ExceptHandler} {l : List Cl}, ClsAre X L hds l → ∀ cl ∈ l, ∀ c ∈ L, PySem.W.exmOne X.K (.ref (He.ga X.K c)) (.ref (He.ga X.K cl.c)) = some (cl.sub c) := by
  intro hds l h
  induction h with
  | nil => intro cl h; cases h
  | cons hc hn hm hsu r ih =>
    intro cl h c hc'
    rcases List.mem_cons.mp h with rfl | h
    · exact hm c hc'
    · exact ih cl h c hc'
theorem ss_try {cs : List Cl} (hs : X.stack = X.env :: X.outer) (hf : X.env.frame = some X.env.locals) (hN : X.N.Nodup) (tk : L2N.Takes X W)
    (hb : ∀ (W' : WX) (pn : List (Addr × Obj)) (xe : Value → Shared → Prop), L2N.Takes (X.tr pn xe) W' → PassesOwn (model X.prog X.w) X.A X.env xe → SSs (X.tr pn xe) W' sb body) (hh : ClsAre X L (h₀ :: hds) cs) : SS X W (sTry L sb cs) (.Try body (h₀ :: hds) [] [] pos) := by
  refine psImp (ps_try_mix (tb := fun W' => tS X.K W' sb) (Wout := W) hs hf hN tk (fun W' pn xe t p => hb W' pn xe t p) hh.mix) fun Dn σ H ⟨m, env, vh, k, hr, er, h, o⟩ => ?_
  refine ⟨m, env, vh, _, hr, er, h, o.nx, o.rt, o.bk, o.ct, fun m' vh' H' env' σ' ex cls dd s hr' er' rx hx => ?_⟩
  exact try_wish hx.1 hr' er' (o.step s) rx (fun cl hcl => hh.exm cl hcl _ hx.1) hx.2
end
/-! ### e.f in a suite -/
def sXf (a dd : Addr) (c : Str) (c0 : Str) (L : List Str) (j i : Nat) : SemE := fun env vh _ kd => match look env i with
  | some (.exn a' dd' _ ns ds) => (a' = a ∧ dd' = dd ∧ c = c0 ∧ ns.take (j + 1) = L) ∧ ∃ d, ds[j]? = some d ∧ kd d vh
  | _ => False
section
variable {X : Cx}
theorem se_xf {a dd : Addr} {c c0 f x : Str} {fs L : List Str} {j i : Nat} {oe : Obj} {pn : List (Addr × Obj)} {p pos : Pos} (T : ExC X.prog X.w X.K X.mg X.base c0 fs) (hf : f ∈ fs) (hL : L[j]? = some f) (hnL : f ∉ L.take j) (hz : L2N.Zn (.ref (He.ga X.K c)) (some dd) oe) (hfl : ∃ vs, oe.data = .fields vs) (hN : X.N[i]? = some x) (hv : Vis X.env.scope x := by first | exact Or.inl rfl | exact Or.inr (Or.inl rfl) | exact Or.inr (Or.inr rfl))
    (hd : (x == ("__debug__" : Str)) = false := by decide) (hcd : (x == ("__classdict__" : Str)) = false := by decide) (hb : attributeBase (.Name x p) f X.env (eval (.Name x p) X.env) = eval (.Name x p) X.env := by rfl) :
    SE (X.suite a ((a, oe) :: pn)) W0 (sXf a dd c c0 L j i) (.Attribute (.Name x p) f pos) := by
  by_cases hc : c = c0
  · subst hc
    refine peImp (pe_xf T.xf (T.fld f hf) hz.zc hfl (pe_var (X := X.suite a ((a, oe) :: pn)) hN hv hd hcd) hb) fun σ H Q ⟨m, env, vh, kx, kd, hr, er, h, ho, ox⟩ => ?_
    revert h
    show (match look env i with | some (.exn a' dd' _ ns ds) => (a' = a ∧ dd' = dd ∧ c = c ∧ ns.take (j + 1) = L) ∧ ∃ d, ds[j]? = some d ∧ kd d vh | _ => False) → _
    cases e : look env i with
    | none => exact False.elim
    | some d0 =>
      cases d0 with
      | exn a' dd' c' ns ds =>
        rintro ⟨⟨rfl, rfl, _, eL⟩, d, ed, kk⟩
        obtain ⟨v, ev, rv⟩ := er.2 i _ (look_at e)
        simp only [Rep] at rv
        obtain ⟨rfl, fs', eH, _, en, rs⟩ := rv
        obtain ⟨v', ev', rv'⟩ := rs.get ed
        refine ⟨_, ev, rfl, rfl, dd', fs', v', rfl, eH, lookup_ix (j := j) ?_ ?_ ev', ho m vh H d v' (Step.refl _ _) hr rv' kk⟩
        · rw [en]
          have : ns.take j = L.take j := by rw [← eL, List.take_take, Nat.min_eq_left (Nat.le_succ j)]
          rw [this]; exact hnL
        · rw [en]
          have : (ns.take (j + 1))[j]? = some f := by rw [eL]; exact hL
          rw [List.getElem?_take_of_lt (Nat.lt_succ_self j)] at this
          exact this
      | _ => exact False.elim
  · refine ⟨fun pins s σ H Q I ⟨m, env, vh, kx, kd, hr, er, h, ho, ox⟩ => ?_⟩
    exfalso
    revert h
    show (match look env i with | some (.exn a' dd' _ ns ds) => (a' = a ∧ dd' = dd ∧ c = c0 ∧ ns.take (j + 1) = L) ∧ ∃ d, ds[j]? = some d ∧ kd d vh | _ => False) → False
    cases e : look env i with
    | none => exact id
    | some d0 =>
      cases d0 with
      | exn a' dd' c' ns ds => exact fun h => hc h.1.2.2.1
      | _ => exact id
end
end
end VI

end
section
/-! VI13: while an exception is handled: calls, for over a range; try bodies, suites. -/
namespace VI
open PySem PySem.Spec L2
open PyProof.Rows hiding St

section
variable {X : Cx} {W : WX} {T : Nat → Option Fn} {hots : List Nat} {k : Nat} {fn : Fn} {x : Str} {p pos : Pos} {e : Expr} {es : List Expr} {sl : SemA} {f : Nat}
theorem CxF.tr (c : CxF X T hots k) (pn : List (Addr × Obj)) (xe : Value → Shared → Prop) : CxF (X.tr pn xe) T hots k := ⟨c.room, c.calm, c.fns, c.hfn, c.ids⟩
theorem CxF.suite (c : CxF X T hots k) {a : Addr} {oe : Obj} {cls : Value} {d : Option Addr} (pn : List (Addr × Obj)) (hz : L2N.Zn cls d oe) (hf : ∃ vs, oe.data = .fields vs) : CxH (X.suite a ((a, oe) :: pn)) T hots k := by
  obtain ⟨vs, hv⟩ := hf
  exact ⟨L2H.roomH_mark c.room (some (.ref a)), ⟨(a, oe), ⟨rfl, vs, hv, hz.2.2 vs hv⟩, List.mem_cons_self⟩, c.hfn, c.ids⟩
theorem takesS {a : Addr} {pn : List (Addr × Obj)} : L2N.Takes (X.suite a pn) W0 := fun u s' ⟨a, B, sI, pins, σ, H, cls, d, e, I, nb, up, sky, na, os, ag, w⟩ => w.elim
theorem se_callH (c : CxH X T hots k) (tk : L2N.Takes X W) (hf : T f = some fn) (hh : f ∈ hots) (ha0 : fn.at_ = (x, none)) (hg : Gl X x) (hm : X.mg x = some (.ref (He.ga X.K x))) (ha : SA X W sl (e :: es)) (hdb : (x == ("__debug__" : Str)) = false := by decide)
    (he : starEach (e :: es) X.env = (false, eval e X.env) :: starEach es X.env := by rfl) (hpl : (backTo pos (starEach es X.env)).any (·.1) = false := by rfl) : SE X W (sCall (callN T k) f sl) (.Call (.Name x p) (e :: es) [] pos) := by
  obtain ⟨fd, F, hb, ok⟩ := c.hfn f fn hf hh
  have hi := c.ids f fn hf
  have ead : He.fAd X.K fn.at_ = He.ga X.K x := by rw [ha0]; rfl
  rw [ead] at F ok
  refine peImp (L2H.pe_callH (E := WE W) ok (c.room.mono (by omega)) c.hot hg hm F.kp hb (fun σ => L2N.passAt tk σ) ha hdb he hpl) fun σ H Q ⟨m, env, vh, kx, kd, hr, er, h, ho, ox⟩ => ?_
  exact tA.go hr er ox h fun m1 vh1 H1 ds vs s1 hr1 er1 ox1 r1 k1 => spV_at (m0 := m) (H0 := H) hr1 r1 hf hi k1 (ho.step s1) ox1
/-! ### for over a range -/
def SIH (X : Cx) (W : WX) (sem : SemI) (tg it : Expr) : Prop := L2H.PIH X tg it (tI X.K W sem)
theorem si_range1H {a tg : Expr} (hg : Gl X "range") (hm : X.mg "range" = none) (ha : SA X W sl [a]) (hs : starEach [a] X.env = [(false, eval a X.env)] := by rfl) : SIH X W (sItA oRng1 sl) tg (.Call (.Name "range" p) [a] [] pos) := by
  refine ⟨fun pins s σ H R I ⟨m, env, vh, kx, ki, hr, er, hs', o, ox⟩ => (L2H.pi_range1H hg hm ha hs).run pins s σ H R I ?_⟩
  refine tA.go hr er ox hs' fun m1 vh1 H1 ds vs s1 hr1 er1 ox1 r1 k1 => ?_
  obtain ⟨j, rfl, h1, h2, k2⟩ := oRng1_inv k1
  exact ⟨j, Reps.ints.mp r1, h1, h2, o m1 vh1 H1 _ _ s1 hr1 (src_rng 0 j.toNat) k2⟩
variable {tg iter : Expr} {body : List Stmt} {si : SemI} {g : SemG} {sb : SemS} {ws : List Nat}
theorem ss_forH (hp : PassesOwn (model X.prog X.w) X.A X.env X.xe) (hc : L2H.HotC X) (hi : SIH X W si tg iter) (hg : SG X ws g tg) (hb : SSs X W sb body) (hs : ∀ x, foldedSetIterable iter X.env x = pure x := by intro _; rfl) : SS X W (sFor si g sb) (.For tg iter body [] pos) := by
  refine psImp (L2H.ps_forH hp hc hi hg hb hs) fun Dn σ H ⟨m, env, vh, k, hr, er, hs, o⟩ => ?_
  exact for_of hr er hs o
end
end VI

end
section
/-! VI14: keyword arguments by their order; += of ints. -/
namespace VI
open PySem PySem.Spec L2
open PyProof.Rows hiding St
def perm {α : Type} (ix : List Nat) (xs : List α) : List α := ix.filterMap fun i => xs[i]?
theorem perm_vals {ix : List Nat} {xs : List V} {us : List Value} (r : Vals xs us) : Vals (perm ix xs) (perm ix us) := by
  induction ix with
  | nil => exact .nil
  | cons i ix ih =>
    unfold perm at ih ⊢
    rw [List.filterMap_cons, List.filterMap_cons]
    cases e : xs[i]? with
    | none =>
      have hl := r.length
      have e2 : us[i]? = none := by rw [List.getElem?_eq_none_iff] at e ⊢; omega
      rw [e2]
      exact ih
    | some v =>
      obtain ⟨u, e2, ru⟩ := r.get e
      rw [e2]
      exact .cons ru ih
theorem perm_reps {K : PySem.W.Frag} {m : Map} {H : Hp} {ix : List Nat} {ds : List D} {xs : List V} (r : Reps K m H ds xs) : Reps K m H (perm ix ds) (perm ix xs) := by
  induction ix with
  | nil => exact Reps.nil
  | cons i ix ih =>
    unfold perm at ih ⊢
    rw [List.filterMap_cons, List.filterMap_cons]
    cases e : ds[i]? with
    | none =>
      have hl := r.len
      have e2 : xs[i]? = none := by rw [List.getElem?_eq_none_iff] at e ⊢; omega
      rw [e2]
      exact ih
    | some v =>
      obtain ⟨u, e2, ru⟩ := r.get e
      rw [e2]
      exact .cons ru ih
theorem kwPerm {fn : Fn} {n : Nat} {ks : List Str} {ix : List Nat} (h : ∀ (kV doc pm : Value) (an : Option Addr) (cdv ct : Value) (us ws : List Value), us.length = n → ws.length = ks.length → bindArgs (PySem.W.fnOf fn.name fn.qual (defArgs fn.st) (defBody fn.st) (defScope fn.st) .none kV doc pm an cdv ct) ⟨us, ks.zip ws⟩ = pure (fn.ps.zip (perm ix (us ++ ws)))) :
    KwOk fn n ks (fun us ws => perm ix (us ++ ws)) := ⟨h, fun r1 r2 => perm_vals (r1.append r2), fun r1 r2 => perm_reps (r1.app r2)⟩
def oAddI : SO2 := oI0 fun i j => .int (i + j)
theorem sn_addI {K : PySem.W.Frag} : SnIp K oAddI (rI0 fun i j => .int (i + j)) := sn_I0 fun _ _ _ _ => rfl
theorem sn_subI {K : PySem.W.Frag} : SnIp K oSub (rI0 fun i j => .int (i - j)) := sn_I0 fun _ _ _ _ => rfl
end VI

end
section
/-! VI15: facts read at the head; all defs at all levels; the law. -/
namespace VI
open PySem PySem.Spec L2
open PyProof.Rows hiding St

/-! ### own classes of exceptions -/
def oexB (K : PySem.W.Frag) (C : Addr) : Bool :=
  (match K.lookup C with
  | some ⟨.type ct, _, .cls cd, sl⟩ => (match cd.mro, sl.toList with
    | .ref C' :: bm, [_, _, _, _, some (.builtin n), _] => decide (ct = "type") && (decide (C' = C) && (decide (n = "ValueError.__new__") && (!cd.hasDel && (cd.hasDict && PySem.HandSPX.refsVE bm))))
    | _, _ => false)
  | _ => false) && (He.eqO (PySem.W.findIn K (.ref C) "__setattr__") (some (some (.builtin "object.__setattr__"))) && (decide (PySem.W.subIn K (.ref C) (.type "BaseException") = some true) && (decide (PySem.W.typeIn K (.ref C) = some (.type "type")) && PySem.W.keepIn K (.ref C))))
theorem oexB_ok {K : PySem.W.Frag} {C : Addr} (h : oexB K C = true) : OexC K C := by
  obtain ⟨h1, h⟩ := He.ba h
  obtain ⟨h2, h⟩ := He.ba h
  obtain ⟨h3, h⟩ := He.ba h
  obtain ⟨h4, h5⟩ := He.ba h
  refine ⟨?_, He.eqO_ok h2, of_decide_eq_true h3, of_decide_eq_true h4, h5⟩
  split at h1
  · rename_i ct od cd sl ho
    split at h1
    · rename_i C' bm k0 k1 k2 k3 n k5 hm hs
      obtain ⟨a0, h1⟩ := He.ba h1
      obtain ⟨a1, h1⟩ := He.ba h1
      obtain ⟨a2, h1⟩ := He.ba h1
      obtain ⟨a3, h1⟩ := He.ba h1
      obtain ⟨a4, a5⟩ := He.ba h1
      have b0 := of_decide_eq_true a0
      have b1 := of_decide_eq_true a1
      have b2 := of_decide_eq_true a2
      obtain ⟨nm, bs, mro, ns, qn, hd, sn, sub, ab, col, del⟩ := cd
      simp only [Bool.not_eq_true'] at a3
      dsimp only at hm a3 a4
      subst b0 b1 b2 hm a3 a4
      have hsl : sl = #[k0, k1, k2, k3, some (.builtin "ValueError.__new__"), k5] := by
        obtain ⟨l⟩ := sl
        simp only at hs
        rw [hs]
      subst hsl
      exact ⟨_, _, _, _, _, _, _, _, _, _, _, _, _, _, _, ho, a5⟩
    · cases h1
  · cases h1
def exB (K : PySem.W.Frag) (q : Str × List Str) : Bool :=
  oexB K (He.ga K q.1) && (He.eqO (PySem.W.findIn K (.ref (He.ga K q.1)) "__init__") (some (some (.ref (He.ma K (He.ga K q.1) "__init__")))) && (decide (PySem.W.typeIn K (.ref (He.ma K (He.ga K q.1) "__init__")) = some (.type "function")) &&
    (xfB K (He.ga K q.1) && q.2.all fun f => He.eqO (PySem.W.findIn K (.ref (He.ga K q.1)) f) (some none))))
theorem ExC.by1 {P : Program} {w : World} {K : PySem.W.Frag} {mg : Str → Option Value} {base : Heap} {c f : Str} (h : exB K (c, [f]) = true)
    (F : OexC K (He.ga K c) → PySem.W.findIn K (.ref (He.ga K c)) f = some none → ∃ fd ps, Binds K fd ps [] ∧ FnOk P w K mg base (L2N.CX P w) 1 (He.ma K (He.ga K c) "__init__") fd ps (spEx K (He.ga K c) [f])) : ExC P w K mg base c [f] := by
  obtain ⟨h1, h⟩ := He.ba h
  obtain ⟨h2, h⟩ := He.ba h
  obtain ⟨h3, h⟩ := He.ba h
  obtain ⟨h4, h5⟩ := He.ba h
  have hf := He.eqO_ok (List.all_eq_true.mp h5 f List.mem_cons_self)
  exact ⟨oexB_ok h1, He.eqO_ok h2, of_decide_eq_true h3, xfB_ok h4, fun g hg => He.eqO_ok (List.all_eq_true.mp h5 g hg), F (oexB_ok h1) hf⟩
theorem ExC.by2 {P : Program} {w : World} {K : PySem.W.Frag} {mg : Str → Option Value} {base : Heap} {c f g : Str} (h : exB K (c, [f, g]) = true)
    (F : OexC K (He.ga K c) → PySem.W.findIn K (.ref (He.ga K c)) f = some none → PySem.W.findIn K (.ref (He.ga K c)) g = some none → ∃ fd ps, Binds K fd ps [] ∧ FnOk P w K mg base (L2N.CX P w) 1 (He.ma K (He.ga K c) "__init__") fd ps (spEx K (He.ga K c) [f, g])) : ExC P w K mg base c [f, g] := by
  obtain ⟨h1, h⟩ := He.ba h
  obtain ⟨h2, h⟩ := He.ba h
  obtain ⟨h3, h⟩ := He.ba h
  obtain ⟨h4, h5⟩ := He.ba h
  exact ⟨oexB_ok h1, He.eqO_ok h2, of_decide_eq_true h3, xfB_ok h4, fun g hg => He.eqO_ok (List.all_eq_true.mp h5 g hg),
    F (oexB_ok h1) (He.eqO_ok (List.all_eq_true.mp h5 f List.mem_cons_self)) (He.eqO_ok (List.all_eq_true.mp h5 g (List.mem_cons_of_mem _ List.mem_cons_self)))⟩
/-- which clause takes which class -/
def exmB (K : PySem.W.Frag) (L : List Str) (sub : Str → Str → Bool) (c : Str) : Bool := L.all fun d => decide (PySem.W.exmOne K (.ref (He.ga K d)) (.ref (He.ga K c)) = some (sub c d))
theorem exmB_ok {K : PySem.W.Frag} {L : List Str} {sub : Str → Str → Bool} {c : Str} (h : exmB K L sub c = true) : ∀ d ∈ L, PySem.W.exmOne K (.ref (He.ga K d)) (.ref (He.ga K c)) = some (sub c d) := fun d hd => of_decide_eq_true (List.all_eq_true.mp h d hd)
def bltB (K : PySem.W.Frag) (x : Str) (id : String) : Bool := He.eqO (PySem.W.nsIn K mainGlobals x) (some (some (.builtin id)))
theorem bltB_ok {K : PySem.W.Frag} {h : Heap} {mg : Str → Option Value} (X : K.In h) (G : h.Ns mainGlobals mg) {x : Str} {id : String} (c : bltB K x id = true) : mg x = some (.builtin id) := PySem.W.mg_of X G (He.eqO_ok c)
/-! ### the Hook -/
def obsV (fa : List He.Fa) (fn : List He.DefD) (ex : PySem.W.Frag → Bool) (K : PySem.W.Frag) : He.AlD := (ex K && (He.obsD fa fn K).1, (He.obsD fa fn K).2)
def SaysV (fa : List He.Fa) (fn : List He.DefD) (ex : PySem.W.Frag → Bool) (K : PySem.W.Frag) : Prop := obsV fa fn ex K = He.valD fn
def obsVG (n : Nat) (fa : List He.Fa) (fn : List He.DefD) (ex : PySem.W.Frag → Bool) (g : Addr → Option Obj) : He.AlD := obsV fa fn ex (He.frG g (He.asD g n))
def hookV (n : Nat) (fa : List He.Fa) (fn : List He.DefD) (ex : PySem.W.Frag → Bool) : PySem.W.Hook where
  α := He.AlD
  obs := fun s => obsVG n fa fn ex s.heap.get?
  val := fun _ => He.valD fn
  says := fun _ h => ∃ K : PySem.W.Frag, K.In h ∧ SaysV fa fn ex K
  of := fun _ _ e => ⟨_, He.frG_in, e⟩
  keeps := fun _ _ _ ⟨K, hK, c⟩ k => ⟨K, PySem.W.Frag.In.keeps hK k, c⟩
theorem obsVG_eq {n : Nat} {fa : List He.Fa} {fn : List He.DefD} {ex : PySem.W.Frag → Bool} {g : Addr → Option Obj} {s : Shared} (h : ∀ a, g a = s.heap.get? a) : obsVG n fa fn ex g = (hookV n fa fn ex).obs s := by
  have e : g = s.heap.get? := funext h
  rw [e] <;> rfl
theorem SaysV.both {fa : List He.Fa} {fn : List He.DefD} {ex : PySem.W.Frag → Bool} {K : PySem.W.Frag} (c : SaysV fa fn ex K) : ex K = true ∧ He.SaysD fa fn K := by
  have h1 : (ex K && (He.obsD fa fn K).1) = true := congrArg (fun z : He.AlD => z.1) c
  have h2 : (He.obsD fa fn K).2 = fn.map He.DefD.val := congrArg (fun z : He.AlD => z.2) c
  obtain ⟨a, b⟩ := He.ba h1
  exact ⟨a, Prod.ext b h2⟩
/-! ### all defs, all levels -/
def AllIx (p : Nat → Fn → Prop) : Nat → List Fn → Prop
  | _, [] => True
  | n, f :: r => p n f ∧ AllIx p (n + 1) r
theorem AllIx.at {p : Nat → Fn → Prop} : ∀ {l : List Fn} {n i : Nat} {f : Fn}, AllIx p n l → l[i]? = some f → p (n + i) f
  | [], _, _, _, _, h => by simp at h
  | g :: r, n, 0, f, h, e => by
    simp at e
    subst e
    exact h.1
  | g :: r, n, i + 1, f, h, e => by
    have := AllIx.at (i := i) h.2 (by simpa using e)
    rw [show n + (i + 1) = n + 1 + i by omega]
    exact this
def tab (l : List Fn) : Nat → Option Fn := fun i => l[i]?
/-- what each def brings -/
structure FnMk (P : Program) (w : World) (K : PySem.W.Frag) (mg : Str → Option Value) (base : Heap) (T : Nat → Option Fn) (hots : List Nat) (f : Nat) (fn : Fn) : Prop where
  id : fn.id = f
  fd : ∃ fd, FunD K fn.name fn.qual (defArgs fn.st) (defBody fn.st) (defScope fn.st) [] [] (He.fAd K fn.at_) fd
  sc : FnScope fn.N fn.ps (defScope fn.st)
  bd : BindOk fn
  der : ∀ (k : Nat) (cdv : Value) (A : Around) (outer : List PySem.Env) (s : Shared) (H : Hp) (E : XK), CxF (cxF P w K mg base fn cdv A outer s H E) T hots k → SSs (cxF P w K mg base fn cdv A outer s H E) (wE E) (fn.sem (callN T k)) (defBody fn.st)
  derH : f ∈ hots → ∀ (k : Nat) (cdv : Value) (A : Around) (outer : List PySem.Env) (s : Shared) (H : Hp) (E : XK) (p : Addr × Obj), CxH (cxH P w K mg base fn cdv A outer s H E p) T hots k → SSs (cxH P w K mg base fn cdv A outer s H E p) (wE E) (fn.sem (callN T k)) (defBody fn.st)
section
variable {P : Program} {w : World} {K : PySem.W.Frag} {mg : Str → Option Value} {base : Heap} {T : Nat → Option Fn} {hots : List Nat}
theorem all_levels (M : ∀ f fn, T f = some fn → FnMk P w K mg base T hots f fn) : ∀ k, (∀ f fn, T f = some fn → FnAt P w K mg base (callN T k) (3 * k) fn) ∧ ∀ f fn, T f = some fn → f ∈ hots → FnAtH P w K mg base (callN T k) (3 * k) fn
  | 0 => ⟨fun f fn e => (M f fn e).fd.elim fun _ F => FnAt.zero F (M f fn e).bd, fun f fn e _ => (M f fn e).fd.elim fun _ F => FnAtH.zero F (M f fn e).bd⟩
  | k + 1 => by
    obtain ⟨h1, h2⟩ := all_levels M k
    have ids : ∀ f gn, T f = some gn → gn.id = f := fun f gn e => (M f gn e).id
    refine ⟨fun f fn e => ?_, fun f fn e hf => ?_⟩
    · obtain ⟨fd, F⟩ := (M f fn e).fd
      exact FnAt.made (by rw [(M f fn e).id]; exact e) F (M f fn e).sc (M f fn e).bd ids h1 h2 fun cdv A outer s H E c => (M f fn e).der k cdv A outer s H E c
    · obtain ⟨fd, F⟩ := (M f fn e).fd
      exact FnAtH.made (by rw [(M f fn e).id]; exact e) F (M f fn e).sc (M f fn e).bd ids h2 fun cdv A outer s H E p c => (M f fn e).derH hf k cdv A outer s H E p c
end
/-! ### the law -/
def m0 : Map := ⟨fun _ => none, fun _ => False⟩
theorem hr0 {K : PySem.W.Frag} {H : Hp} : Hr K m0 H [] :=
  ⟨fun p => ⟨fun ⟨a, e⟩ => (by cases e), fun h => (by simp at h)⟩, fun p q a e => (by cases e), fun p c a e => (by simp at e), fun a z => False.elim z⟩
theorem script_rep {K : PySem.W.Frag} {H : Hp} {a : Addr} {ns : List Int} (hO : Only H) (hS : SqL K H a (ns.map V.int)) : Rep K m0 H (.scr ns) (.ref a) := by
  simp only [Rep]
  refine ⟨a, rfl, ?_⟩
  rcases hS with (e | ⟨o, e⟩) | h
  · rcases hO a with z | ⟨o, xs, z⟩ <;> rw [z] at e <;> cases e
  · exact .inl ⟨o, e⟩
  · exact .inr (.inr h)
theorem law_walk {l : PySem.W.OpenLaw} {n k f : Nat} {q : Program} {loose : List Str} {XP : (Str → Option Value) → Heap → Prop} {YP : World → Heap → Prop} {d : DefRec} {T : Nat → Option Fn} {hots : List Nat} {fn : Fn} {x : Str}
    (hn : l.most = some n) (hn2 : n ≤ sizeLine) (hdf : d.params.defaults = []) (hr : Room (3 * k) callerA) (hT : T f = some fn) (hps : fn.ps = [x]) (hat : fn.at_ = (d.name, none))
    (F : ∀ (w : World) (mg : Str → Option Value) (h : Heap), YP w h → h.Ns mainGlobals mg → ∃ K : PySem.W.Frag, K.In h ∧ mg d.name = some (.ref (He.ga K d.name)) ∧ ∀ base : Heap, K.In base → base.Ns mainGlobals mg → ∀ f fn, T f = some fn → FnMk l.prog w K mg base T hots f fn)
    (spec : ∀ ns : List Int, ns.length ≤ n → callN T k f [.scr ns] [] noX fun d _ => d = .bl true) :
    PySem.W.WalkO q loose XP YP l.row.toRowW d [] (fun f vs => PySem.call f vs) := by
  refine Att.attach_call hn hdf fun w s₀ s₁ mg mb fa o pm cd doc a vs ns G Y ho hd hcd hmg hobj hints hlen hg => ?_
  obtain ⟨K, KX, hmg2, hF⟩ := F w mg _ Y G.T.g
  rw [hmg] at hmg2
  cases hmg2
  have M0 := hF _ KX G.T.g f fn hT
  obtain ⟨fd, FD⟩ := M0.fd
  have hfa : He.fAd K fn.at_ = He.ga K d.name := by rw [hat]; rfl
  have lvl : ∀ base : Heap, K.In base → base.Ns mainGlobals mg → FnOk l.prog w K mg base (L2N.CX l.prog w) (3 * k) (He.ga K d.name) fd [x] (spV K (callN T k) f 1) := fun base kb nb => by
    obtain ⟨fd2, FD2, hb2, ok⟩ := ((all_levels (hF base kb nb) k).1 f fn hT).ex
    have e : fd2 = fd := by
      obtain ⟨_, _, _, _, _, _, _, _, _, _, _, l1, _⟩ := FD.ex
      obtain ⟨_, _, _, _, _, _, _, _, _, _, _, l2, _⟩ := FD2.ex
      rw [l1] at l2
      injection l2 with l2
      injection l2 with _ _ l3 _
      injection l3 with l3
      exact l3.symm
    subst e
    rw [hfa, hps] at ok
    have hi := M0.id
    rw [hi] at ok
    exact ok
  refine law_call (sp := spV K (callN T k) f 1) (CX := L2N.CX l.prog w) (x := x) (fd := fd) KX G.T.g G.T.b G.T.builtins G.T.nolimit hg hobj hints (Nat.le_trans hlen hn2) hr lvl (fun s u => ?_) (fun H hO hS => ?_) fun H e s' => ?_
  · have b := FD.bindsA (ps := fn.ps) M0.bd s [u] (by rw [hps]; rfl)
    rw [hps] at b
    exact b
  · refine ⟨m0, [], [.scr ns], noX, _, hr0, Reps.one (script_rep hO hS), rfl, spec ns hlen, fun m' vh' H' d v s h' r k => ?_, fun m' vh' H' ex cls dd s h' r k => k.elim⟩
    subst k
    exact r
  · rintro ⟨_, _, _, _, _, _, _, _, _, _, _, _, z⟩
    exact z
end VI

end
section
/-! VI16: plain lemmas for the specs. -/
namespace VI
open PySem PySem.Spec L2
open PyProof.Rows hiding St
theorem enter {T : Nat → Option Fn} {k f : Nat} {fn : Fn} {ds : List D} {vh : VH} {kx : KX} {kd : KD} {env : Env} {kind : Kind} (hT : T f = some fn) (hl : ds.length = fn.ps.length) (he : ds.map some ++ List.replicate (fn.N.length - ds.length) none = env) (hk : fn.kind = kind)
    (h : fn.sem (callN T k) env vh ⟨fun _ h' => finD kind vh kd .non h', finD kind vh kd, fun _ _ => False, fun _ _ => False, fun e _ h' => finX kind vh kx e h'⟩) : callN T (k + 1) f ds vh kx kd := by
  subst he
  subst hk
  exact ⟨fn, hT, hl, h⟩
theorem fin_pure {vh : VH} {kd : KD} {d : D} (hl : low vh.length d) (h : kd d vh) : finD .pure vh kd d vh := ⟨[], d, by simp, .low hl, h⟩
theorem finX_pure {vh : VH} {kx : KX} {ex : Exc} (hl : lows vh.length ex.ds) (h : kx ex vh) : finX .pure vh kx ex vh := by
  refine ⟨[], ex.ds, by simp, ?_, h⟩
  have key : ∀ (l : List D), lows vh.length l → Frzs vh vh.length l l := by
    intro l
    induction l with
    | nil => intro _; exact .nil
    | cons d r ih =>
      intro h
      simp only [lows] at h
      exact .cons (.low h.1) (ih h.2)
  exact key _ hl
/-- data without cells -/
def closed (d : D) : Prop := ∀ n, low n d
def closeds (ds : List D) : Prop := ∀ n, lows n ds
/-- data that isinstance tells -/
def pl : D → Bool
  | .non => true | .bl _ => true | .int _ => true | .str _ => true | .tup _ => true | .lst _ => true
  | _ => false
def isInt : D → Bool
  | .int _ => true
  | _ => false
theorem closed_int {i : Int} : closed (.int i) := fun n => by simp only [low]
theorem closed_tup {ds : List D} (h : closeds ds) : closed (.tup ds) := fun n => by simp only [low]; exact h n
theorem closed_lst {ds : List D} (h : closeds ds) : closed (.lst ds) := fun n => by simp only [low]; exact h n
theorem closeds_nil : closeds [] := fun n => by simp only [lows]
theorem closeds_cons {d : D} {ds : List D} (h1 : closed d) (h2 : closeds ds) : closeds (d :: ds) := fun n => by simp only [lows]; exact ⟨h1 n, h2 n⟩
theorem get_set_self {vh : VH} {p : Nat} {c c' : Cell} (h : vh[p]? = some c') : (vh.set p c)[p]? = some c := by
  have := (List.getElem?_eq_some_iff.mp h).1
  rw [List.getElem?_set_self this]
/-! ### the operators at plain data, by rfl -/
section
variable {vh : VH} {kd : KD} {i j : Int} {x y : Str} {xs ys : List D} {a b : Bool} {c : Bool} {d : D} {C : Int → Int → Prop} {ki : Src → VH → Prop} {ns : List Int} {p : Nat} {lo hi : Option Int}
theorem newL_f : newL false xs vh kd = kd (.lst xs) vh := rfl
theorem newL_t : newL true xs vh kd = kd (.ref vh.length) (vh ++ [.lst xs]) := rfl
theorem oAdd_i : oAdd c (.int i) (.int j) vh kd = kd (.int (i + j)) vh := rfl
theorem oAdd_s : oAdd c (.str x) (.str y) vh kd = (x.length + y.length ≤ 16777216 ∧ kd (.str (x ++ y)) vh) := rfl
theorem oAdd_t : oAdd c (.tup xs) (.tup ys) vh kd = (xs.length + ys.length ≤ 16777216 ∧ kd (.tup (xs ++ ys)) vh) := rfl
theorem oAdd_l : oAdd c (.lst xs) (.lst ys) vh kd = (xs.length + ys.length ≤ 16777216 ∧ newL c (xs ++ ys) vh kd) := rfl
theorem oMul_i : oMul c (.int i) (.int j) vh kd = (MulOk i j ∧ kd (.int (i * j)) vh) := rfl
theorem oSub_i : oSub (.int i) (.int j) vh kd = kd (.int (i - j)) vh := rfl
theorem oFdiv_i : oFdiv (.int i) (.int j) vh kd = (CDivW i j ∧ kd (.int (i / j)) vh) := rfl
theorem oMod_i : oMod (.int i) (.int j) vh kd = (0 < j ∧ kd (.int (i % j)) vh) := rfl
theorem oPow_i : oPow (.int i) (.int j) vh kd = (CPow i j ∧ kd (.int (i ^ j.toNat)) vh) := rfl
theorem oLt_i : oLt (.int i) (.int j) vh kd = kd (.bl (decide (i < j))) vh := rfl
theorem oLe_i : oLe (.int i) (.int j) vh kd = kd (.bl (decide (i ≤ j))) vh := rfl
theorem oGt_i : oGt (.int i) (.int j) vh kd = kd (.bl (decide (j < i))) vh := rfl
theorem oGe_i : oGe (.int i) (.int j) vh kd = kd (.bl (decide (j ≤ i))) vh := rfl
theorem oNeg_i : oNeg (.int i) vh kd = kd (.int (-i)) vh := rfl
theorem oAddI_i : oAddI (.int i) (.int j) vh kd = kd (.int (i + j)) vh := rfl
theorem oEq_ii : oEq (.int i) (.int j) vh kd = kd (.bl (i == j)) vh := rfl
theorem oEq_ss : oEq (.str x) (.str y) vh kd = kd (.bl (x == y)) vh := rfl
theorem oEq_bb : oEq (.bl a) (.bl b) vh kd = kd (.bl (a == b)) vh := rfl
theorem oEq_nn : oEq .non .non vh kd = kd (.bl true) vh := rfl
theorem oEq_ni : oEq .non (.int j) vh kd = kd (.bl false) vh := rfl
theorem oEq_in : oEq (.int i) .non vh kd = kd (.bl false) vh := rfl
theorem oEq_ns : oEq .non (.str y) vh kd = kd (.bl false) vh := rfl
theorem oEq_sn : oEq (.str x) .non vh kd = kd (.bl false) vh := rfl
theorem oEq_is : oEq (.int i) (.str y) vh kd = kd (.bl false) vh := rfl
theorem oEq_si : oEq (.str x) (.int j) vh kd = kd (.bl false) vh := rfl
theorem oNe_ii : oNe (.int i) (.int j) vh kd = kd (.bl (!(i == j))) vh := rfl
theorem oNe_ss : oNe (.str x) (.str y) vh kd = kd (.bl (!(x == y))) vh := rfl
theorem oNe_bb : oNe (.bl a) (.bl b) vh kd = kd (.bl (!(a == b))) vh := rfl
theorem oIs_n : oIs d .non vh kd = kd (.bl (isNon d)) vh := rfl
theorem oIs_b : oIs d (.bl b) vh kd = kd (.bl (isBl b d)) vh := rfl
theorem oIsNot_n : oIsNot d .non vh kd = kd (.bl (!(isNon d))) vh := rfl
theorem oIsNot_b : oIsNot d (.bl b) vh kd = kd (.bl (!(isBl b d))) vh := rfl
theorem isNon_n : isNon .non = true := rfl
theorem isNon_i : isNon (.int i) = false := rfl
theorem isNon_b : isNon (.bl b) = false := rfl
theorem isNon_s : isNon (.str x) = false := rfl
theorem isNon_t : isNon (.tup xs) = false := rfl
theorem isNon_l : isNon (.lst xs) = false := rfl
theorem isNon_r : isNon (.ref p) = false := rfl
theorem isBl_n : isBl c .non = false := rfl
theorem isBl_i : isBl c (.int i) = false := rfl
theorem isBl_b : isBl c (.bl b) = (b == c) := rfl
theorem isBl_s : isBl c (.str x) = false := rfl
theorem isBl_t : isBl c (.tup xs) = false := rfl
theorem isBl_l : isBl c (.lst xs) = false := rfl
theorem isBl_r : isBl c (.ref p) = false := rfl
theorem oIx_t : oIx (.tup xs) (.int i) vh kd = ∃ d, L2.atI xs i = some d ∧ kd d vh := rfl
theorem oIx_l : oIx (.lst xs) (.int i) vh kd = ∃ d, L2.atI xs i = some d ∧ kd d vh := rfl
theorem oIx_s : oIx (.str x) (.int i) vh kd = (x.length ≤ 16777216 ∧ ∃ c, L2.atI x.cps.toList i = some c ∧ kd (.str ⟨#[c]⟩) vh) := rfl
theorem oLen_t : oLen [.tup xs] vh kd = kd (.int xs.length) vh := rfl
theorem oLen_l : oLen [.lst xs] vh kd = kd (.int xs.length) vh := rfl
theorem oLen_c : oLen [.scr ns] vh kd = kd (.int ns.length) vh := rfl
theorem oLen_s : oLen [.str x] vh kd = (x.length ≤ 16777216 ∧ kd (.int x.length) vh) := rfl
theorem oAbs_i : oAbs [.int i] vh kd = kd (.int i.natAbs) vh := rfl
theorem oInt_i : oInt [.int i] vh kd = kd (.int i) vh := rfl
theorem oInt_b : oInt [.bl b] vh kd = kd (.int (if b then 1 else 0)) vh := rfl
theorem oMax2_i : oMax2 [.int i, .int j] vh kd = kd (.int (max i j)) vh := rfl
theorem oMin2_i : oMin2 [.int i, .int j] vh kd = kd (.int (min i j)) vh := rfl
theorem oGcd_i : oGcd [.int i, .int j] vh kd = kd (.int (Nat.gcd i.natAbs j.natAbs : Nat)) vh := rfl
theorem oIter_t : oIter (.tup xs) vh ki = ki ⟨xs, always⟩ vh := rfl
theorem oIter_l : oIter (.lst xs) vh ki = ki ⟨xs, always⟩ vh := rfl
theorem oIter_c : oIter (.scr ns) vh ki = ki ⟨ns.map D.int, always⟩ vh := rfl
theorem oRng1_i : oRng1 [.int j] vh ki = (-(2 ^ 62) ≤ j ∧ j < 2 ^ 62 ∧ ki ⟨rngL 0 j.toNat, always⟩ vh) := rfl
theorem oRng2_i : oRng2 [.int i, .int j] vh ki = ((-(2 ^ 62) ≤ i ∧ i < 2 ^ 62 ∧ -(2 ^ 62) ≤ j ∧ j < 2 ^ 62) ∧ ki ⟨rngL i (j - i).toNat, always⟩ vh) := rfl
theorem oSl_t : oSl c (.tup xs) lo hi vh kd = kd (.tup (cutD xs lo hi)) vh := rfl
theorem oSl_l : oSl c (.lst xs) lo hi vh kd = newL c (cutD xs lo hi) vh kd := rfl
theorem oSl_c : oSl c (.scr ns) lo hi vh kd = newL c ((cutD ns lo hi).map D.int) vh kd := rfl
variable {u : Ty}
theorem oIsi_n : oIsi u .non vh kd = kd (.bl (isT .non u)) vh := rfl
theorem oIsi_b : oIsi u (.bl b) vh kd = kd (.bl (isT .bl u)) vh := rfl
theorem oIsi_i : oIsi u (.int i) vh kd = kd (.bl (isT .int u)) vh := rfl
theorem oIsi_s : oIsi u (.str x) vh kd = kd (.bl (isT .str u)) vh := rfl
theorem oIsi_t : oIsi u (.tup xs) vh kd = kd (.bl (isT .tup u)) vh := rfl
theorem oIsi_l : oIsi u (.lst xs) vh kd = kd (.bl (isT .lst u)) vh := rfl
/-! cells -/
theorem ix_ref {ds : List D} {d : D} (h : vh[p]? = some (.lst ds)) (e : L2.atI ds i = some d) (k : kd d vh) : oIx (.ref p) (.int i) vh kd := by
  show (match vh[p]? with | some (.lst ds) => ∃ d, L2.atI ds i = some d ∧ kd d vh | _ => False)
  rw [h]
  exact ⟨d, e, k⟩
theorem put_ref {ds : List D} {d : D} {j : Nat} {Qn : VH → Prop} (h : vh[p]? = some (.lst ds)) (e : L2.ixN ds.length i = some j) (k : Qn (vh.set p (.lst (ds.set j d)))) : oPut d (.ref p) (.int i) vh Qn := ⟨ds, j, h, e, k⟩
theorem len_ref {ds : List D} (h : vh[p]? = some (.lst ds)) (k : kd (.int ds.length) vh) : oLen [.ref p] vh kd := by
  show (match (match vh[p]? with | some (.lst ds) => some (ds.length : Int) | _ => none) with | some n => kd (.int n) vh | none => False)
  rw [h]
  exact k
theorem iter_ref {ds : List D} (h : vh[p]? = some (.lst ds)) (k : ki ⟨ds, stays p ds⟩ vh) : oIter (.ref p) vh ki := by
  show (match vh[p]? with | some (.lst ds) => ki ⟨ds, stays p ds⟩ vh | _ => False)
  rw [h]
  exact k
theorem isi_ref {ds : List D} (h : vh[p]? = some (.lst ds)) (k : kd (.bl (isT .lst u)) vh) : oIsi u (.ref p) vh kd := by
  show (match (match vh[p]? with | some (.lst _) => some Ty.lst | _ => none) with | some t => kd (.bl (isT t u)) vh | none => False)
  rw [h]
  exact k
end
/-! ### loops -/
theorem forL_inv {g : SemG} {body : SemS} {still : VH → Prop} {k : KS} {ds : List D} (I : Nat → Env → VH → Prop) (hs : ∀ i env vh, I i env vh → still vh)
    (step : ∀ i d env vh (nx : Env → VH → Prop), ds[i]? = some d → I i env vh → (∀ e h, I (i + 1) e h → nx e h) → g d env vh fun env' vh' => body env' vh' { k with nx := nx, ct := nx, bk := k.nx })
    (fin : ∀ env vh, I ds.length env vh → k.nx env vh) {env : Env} {vh : VH} (h0 : I 0 env vh) : forL g body still ds env vh k := by
  have key : ∀ (m i : Nat) (env : Env) (vh : VH), ds.length - i = m → i ≤ ds.length → I i env vh → forL g body still (ds.drop i) env vh k := by
    intro m
    induction m with
    | zero =>
      intro i env vh hm hi h
      have e : i = ds.length := by omega
      subst e
      rw [List.drop_length]
      exact ⟨hs _ _ _ h, fin _ _ h⟩
    | succ m ih =>
      intro i env vh hm hi h
      have lt : i < ds.length := by omega
      rw [List.drop_eq_getElem_cons lt]
      refine ⟨hs _ _ _ h, ?_⟩
      exact step i ds[i] env vh _ (List.getElem?_eq_getElem lt) h fun e h' hI => ih (i + 1) e h' (by omega) (by omega) hI
  have := key ds.length 0 env vh (by omega) (by omega) h0
  rwa [List.drop_zero] at this
theorem lcL_map {g : SemG} {c : SemT} {elt : SemE} {still : VH → Prop} {env0 : Env} (f : D → D) {vh : VH} (hs : still vh) : ∀ {ds : List D} {kl : KL}
    (_ : ∀ d ∈ ds, ∀ (kd : KD) (kf : VH → Prop), kd (f d) vh → g d env0 vh fun env' vh' => c env' vh' noX fun b vh2 => match b with
      | true => elt env' vh2 noX fun y vh3 => kd y vh3
      | false => kf vh2) (_ : kl (ds.map f) vh), lcL g c elt still env0 ds vh kl
  | [], kl, _, h => ⟨hs, h⟩
  | d :: r, kl, step, h => ⟨hs, step d List.mem_cons_self _ _ (lcL_map f hs (fun d' hd => step d' (List.mem_cons_of_mem _ hd)) h)⟩
theorem rng_get {lo : Int} {n i : Nat} {d : D} (h : (rngL lo n)[i]? = some d) : i < n ∧ d = .int (lo + i) := by
  have hl := (List.getElem?_eq_some_iff.mp h).1
  rw [rngL_len] at hl
  rw [rngL_get n lo i hl] at h
  exact ⟨hl, (Option.some.inj h).symm⟩
/-! ### numbers -/
theorem div_ok {i j : Int} (h : 0 < j) (hb : j < 2 ^ 1000) : CDivW i j := wide_div h (b := 1000) (by omega) (by decide) (by decide)
theorem mul_ok {i j : Int} (h1 : 0 ≤ i) (h2 : i < 2 ^ 1000) (h3 : 0 ≤ j) (h4 : j < 2 ^ 1000) : MulOk i j := .inr (wide_mul (a := 1000) (b := 1000) (by omega) (by omega) (by decide) (by decide) (by decide))
/-- division by remainders, so many turns -/
def turn : Nat × Nat → Nat × Nat
  | (g, s) => if s = 0 then (g, s) else (s, g % s)
def turns : Nat → Nat × Nat → Nat × Nat
  | 0, p => p
  | n + 1, p => turns n (turn p)
theorem turns_succ : ∀ (n : Nat) (p : Nat × Nat), turns (n + 1) p = turn (turns n p)
  | 0, _ => rfl
  | n + 1, p => by
    show turns (n + 1) (turn p) = turn (turns n (turn p))
    exact turns_succ n (turn p)
theorem turn_at (g s : Nat) : turn (g, s) = if s = 0 then (g, s) else (s, g % s) := rfl
theorem turn_gcd (p : Nat × Nat) : Nat.gcd (turn p).1 (turn p).2 = Nat.gcd p.1 p.2 := by
  obtain ⟨g, s⟩ := p
  rw [turn_at]
  by_cases h : s = 0
  · rw [if_pos h]
  · rw [if_neg h]
    show Nat.gcd s (g % s) = Nat.gcd g s
    rw [Nat.gcd_comm g s, Nat.gcd_rec s g, Nat.gcd_comm]
theorem turns_gcd : ∀ (n : Nat) (p : Nat × Nat), Nat.gcd (turns n p).1 (turns n p).2 = Nat.gcd p.1 p.2
  | 0, _ => rfl
  | n + 1, p => by
    show Nat.gcd (turns n (turn p)).1 (turns n (turn p)).2 = _
    rw [turns_gcd n (turn p), turn_gcd]
/-- two neighbours of the row 1, 1, 2, 3, 5, .. -/
def fibs : Nat → Nat × Nat
  | 0 => (1, 1)
  | n + 1 => ((fibs n).2, (fibs n).1 + (fibs n).2)
theorem turns_more : ∀ (n : Nat) (g s : Nat), (turns n (g, s)).2 ≠ 0 → (fibs n).1 ≤ s ∧ (s ≤ g → (fibs n).2 ≤ g)
  | 0, g, s, h => by
    have h : s ≠ 0 := h
    show 1 ≤ s ∧ (s ≤ g → 1 ≤ g)
    omega
  | n + 1, g, s, h => by
    have h : (turns n (turn (g, s))).2 ≠ 0 := h
    by_cases hs : s = 0
    · have e : turn (g, s) = (g, s) := by rw [turn_at, if_pos hs]
      rw [e] at h
      have q := turns_more n g s h
      have p1 : ∀ m, 1 ≤ (fibs m).1 ∧ 1 ≤ (fibs m).2 := by
        intro m
        induction m with
        | zero => exact ⟨Nat.le_refl _, Nat.le_refl _⟩
        | succ m ih => exact ⟨ih.2, Nat.le_trans ih.1 (Nat.le_add_right _ _)⟩
      have := (p1 n).1
      omega
    · have e : turn (g, s) = (s, g % s) := by rw [turn_at, if_neg hs]
      rw [e] at h
      obtain ⟨q1, q2⟩ := turns_more n s (g % s) h
      have lt := Nat.mod_lt g (Nat.pos_of_ne_zero hs)
      have q3 := q2 (by omega)
      refine ⟨q3, fun hg => ?_⟩
      show (fibs n).1 + (fibs n).2 ≤ g
      have dm := Nat.div_add_mod g s
      have d1 : 1 ≤ g / s := (Nat.one_le_div_iff (Nat.pos_of_ne_zero hs)).mpr hg
      have : s * 1 ≤ s * (g / s) := Nat.mul_le_mul_left s d1
      omega
theorem turns_end {n g s : Nat} (h : s < (fibs n).1) : turns n (g, s) = (Nat.gcd g s, 0) := by
  have h0 : (turns n (g, s)).2 = 0 := by
    by_cases h1 : (turns n (g, s)).2 = 0
    · exact h1
    · have := (turns_more n g s h1).1
      omega
  have h1 := turns_gcd n (g, s)
  rw [h0, Nat.gcd_zero_right] at h1
  exact Prod.ext h1 h0
/-- a cut between two statements -/
theorem seq_inv {s t : SemS} {k : KS} {env : Env} {vh : VH} (I : Env → VH → Prop) (h1 : ∀ nx : Env → VH → Prop, (∀ e h, I e h → nx e h) → s env vh { k with nx := nx }) (h2 : ∀ env vh, I env vh → t env vh k) : sSeq s t env vh k := h1 _ h2
theorem set_same {vh : VH} {p : Nat} {c : Cell} (h : vh[p]? = some c) : vh.set p c = vh := by
  apply List.ext_getElem?
  intro i
  by_cases e : p = i
  · subst e
    rw [get_set_self h, h]
  · rw [List.getElem?_set_ne e]
end VI

end
section
/-! VI17: keyword calls of methods and classes; more built-in functions. -/
namespace VI
open PySem PySem.Spec L2
open PyProof.Rows hiding St

def sMethK (C : Calls) (c mt : Str) (f n l : Nat) (g : List D → List D → List D) (so : SemE) (t tk : SemA) : SemE := fun env vh kx kd => so env vh kx fun d vh1 => match oview vh1 d with
  | some (c', ns, _) => c' = c ∧ mt ∉ ns ∧ t env vh1 kx fun ds vh2 => tk env vh2 kx fun es vh3 => ds.length + 1 = n ∧ es.length = l ∧ C f (g (d :: ds) es) vh3 kx kd
  | none => False
section
variable {X : Cx} {W : WX} {T : Nat → Option Fn} {hots : List Nat} {k : Nat} {fn : Fn} {x c mt : Str} {p pos apos : Pos} {e o : Expr} {es : List Expr} {sl slk : SemA} {so se : SemE} {f n : Nat} {kws : List Keyword} {ks : List Str} {g : {α : Type} → List α → List α → List α}
theorem tMethK_of (cx : CxF X T hots k) (kw : KwOk fn n ks @g) (hf : T f = some fn) (hi : fn.id = f) {σ : L2.St} {H : Hp} {Q : VK} (h : tE X.K W (sMethK (callN T k) c mt f n ks.length g so sl slk) σ H Q) :
    tE X.K W so σ H fun x H1 => ∃ a dx fs, x = .ref a ∧ H1 a = some (.ins (He.ga X.K c) dx fs) ∧ fs.lookup mt = none ∧ tA X.K W sl σ H1 fun vs H2 => tA X.K W slk σ H2 fun zs H3 => vs.length + 1 = n ∧ zs.length = ks.length ∧ spV X.K (callN T k) fn.id fn.ps.length (g (x :: vs) zs) H3 Q (WE W σ) := by
  obtain ⟨m, env, vh, kx, kd, hr, er, h, ho, ox⟩ := h
  refine tE.go hr er ox h fun m1 vh1 H1 d v s1 hr1 er1 ox1 r1 k1 => ?_
  cases e : oview vh1 d with
  | none => rw [e] at k1; exact k1.elim
  | some q =>
    obtain ⟨c', ns, ds⟩ := q
    rw [e] at k1
    obtain ⟨rfl, en0, kk⟩ := k1
    obtain ⟨a, dx, fs, ev, ea, en, rs⟩ := oview_rep hr1 r1 e
    refine ⟨a, dx, fs, ev, ea, lookup_none (by rw [en]; exact en0), ?_⟩
    refine tA.go hr1 er1 ox1 kk fun m2 vh2 H2 es vs s2 hr2 er2 ox2 r2 k2 => tA.go hr2 er2 ox2 k2 fun m3 vh3 H3 fs zs s3 hr3 er3 ox3 r3 k3 => ?_
    refine ⟨by rw [← r2.len]; exact k3.1, by rw [← r3.len]; exact k3.2.1, ?_⟩
    have rd : Rep X.K m3 H3 d v := Rep.step hr2 s3 _ _ (Rep.step hr1 s2 _ _ r1)
    exact spV_at (m0 := m) (H0 := H) hr3 (kw.reps (Reps.cons rd (Reps.step hr2 s3 _ _ r2)) r3) hf hi k3.2.2 (ho.step (s1.trans (s2.trans s3))) ox3
/-- o.m(k = v, ..) -/
theorem se_methK0 {pl : Sem Bool} (cx : CxF X T hots k) (tk : L2N.Takes X W) (hf : T f = some fn) (ha0 : fn.at_ = (c, some mt)) (kw : KwOk fn n ks @g) (cl : Cls X.K (He.ga X.K c)) (hm : Meth X.K (He.ga X.K c) mt (He.ma X.K (He.ga X.K c) mt)) (ho : SE X W so o) (hkw : SK X W slk kws)
    (hall : (backToKw pos (keywordEach kws X.env)).all (·.1.isSome) = true := by rfl) (hks : (backToKw pos (keywordEach kws X.env)).filterMap (·.1) = ks := by rfl)
    (hpl : ((backTo pos (starEach [] X.env)).any (·.1) || (backToKw pos (keywordEach kws X.env)).any (·.1.isNone)) = false := by rfl)
    (ht : eval (.Call (.Attribute o mt apos) [] kws pos) X.env = (do
      let ov ← eval o X.env
      standAt apos.atName
      let (f, first) ← holding [ov] (getMethod ov mt pl)
      callWith pos f first (backTo pos (starEach [] X.env)) (backToKw pos (keywordEach kws X.env))) := by rfl) :
    SE X W (sMethK (callN T k) c mt f n ks.length g so sNil slk) (.Call (.Attribute o mt apos) [] kws pos) := by
  obtain ⟨hi, ⟨fd, F, hb, ok⟩⟩ := cx.at hf
  have ead : He.fAd X.K fn.at_ = He.ma X.K (He.ga X.K c) mt := by rw [ha0]; rfl
  rw [ead] at F ok
  refine ⟨fun pins s σ H Q I h => ?_⟩
  have h0 := tMethK_of cx @kw hf hi h
  refine PySem.W.methodCall_KW (pl := pl) (thn (ho.run pins s σ H _ I h0) fun u s1 ⟨x, H1, I1, rx, a, dx, fs, ex, ea, l, q⟩ => ?_) ht
  subst ex
  obtain rfl : u = Value.ref a := rx
  refine getmeth_ok I1 ea cl hm l ?_
  have q' : tA X.K W slk σ H1 fun zs H3 => 1 = n ∧ zs.length = ks.length ∧ spV X.K (callN T k) fn.id fn.ps.length (g [.ref a] zs) H3 Q (WE W σ) := by
    obtain ⟨m, env, vh, kx, kl, hr, er, hs, o, ox⟩ := q
    exact o m vh H1 [] [] (Step.refl _ _) hr Reps.nil hs
  refine PySem.W.callWith_KW0 (first := [.ref a]) (h₀ := X.base) I.ok.mod.kin hm.kp hall (thn (hkw.run pos pins s1 σ H1 _ I1 q') fun ws s2 ⟨zs, H2, I2, rz, l1, l2, q2⟩ => ⟨I2.kIn, ?_⟩) hpl
  rw [hks]
  exact run_fnkS (E := WE W) (us := [.ref a]) ok (cx.room.mono (by omega)) (binds_kw F @kw s2 l1 (rz.length.symm.trans l2)) (L2N.passAt tk σ) I2 (kw.rel (vs := [V.ref a]) (us := [Value.ref a]) (.cons rfl .nil) rz) q2
/-! ### C(k = v, ..) -/
def sNewK (C : Calls) (frz : Bool) (c : Str) (f l : Nat) (g : List D → List D → List D) (tk : SemA) : SemE := fun env vh kx kd => tk env vh kx fun es vh1 => es.length = l ∧ C f (g [.ref vh1.length] es) (vh1 ++ [.ins c [] []]) (newEx vh1 kx) (newEnd frz vh1 kd)
theorem run_makeKS {CX : CXT} {j : Nat} {fa C : Addr} {fd : FuncData} {ps : List Str} {sp : Sp} {E : L2.St → XK} {pins : List (Addr × Obj)} {σ : L2.St} {H : Hp} {s : Shared} {Q : VK} {ws : List Value} {zs : List V} {gU : List Value → List Value → List Value} {gV : List V → List V → List V} (M : Mk X.K C fa) (F : FnOk X.prog X.w X.K X.mg X.base CX j fa fd ps sp) (hr : Room (j + 1) X.A)
    (hb : ∀ s a, BindsTo s fd ⟨[Value.ref a], ks.zip ws⟩ (ps.zip (gU [Value.ref a] ws))) (hx : PassesAt CX X σ (E σ)) (I : Inv X pins σ H s) (r : ∀ a, Vals (gV [.ref a] zs) (gU [Value.ref a] ws))
    (h : ∀ x dx, H x = none → H dx = none → dx ≠ x → sp (gV [.ref x] zs) (upd (upd H dx (.own x)) x (.ins C dx [])) (fun v H2 => v = .non ∧ Q (.ref x) H2) (E σ)) :
    wpAny (model X.prog X.w) X.A (call (.ref C) [] (ks.zip ws)) (EP X pins σ Q) X.xe s := by
  have hq := h (s.heap.objs.size + 1) s.heap.objs.size (I.hok.fresh (Nat.le_succ _)) (I.hok.fresh (Nat.le_refl _)) (Nat.ne_of_lt (Nat.lt_succ_self _))
  have I2 := Inv.made (C := C) I
  refine wpAny_call (make_map (f := fa) I.kIn M.makes M.init (beq_iff_eq.mp M.fn) (codeAny_mono (F.run _ X.stack _ _ ⟨[Value.ref (s.heap.objs.size + 1)], ks.zip ws⟩ (gU [Value.ref (s.heap.objs.size + 1)] ws) _ _ (E σ) (hr.make C [] (ks.zip ws))
    (I2.env0.make C [] (ks.zip ws)) (hb _ _) (r _) hq) fun r s' hq' => ?_))
  cases r with
  | error e => exact hx pins _ _ e s' I2 hq'
  | ok fl =>
    cases fl with
    | ret u =>
      obtain ⟨v, H', I3, rv, ev, q3⟩ := I2.after hq'
      subst ev
      exact ⟨rv, ⟨V.ref (s.heap.objs.size + 1), H', I3, rfl, q3⟩⟩
    | next => exact False.elim hq'
    | brk => exact False.elim hq'
    | cont => exact False.elim hq'
theorem new_ofK {frz : Bool} {zs : List V} (cx : CxF X T hots k) (kw : KwOk fn 1 ks @g) (hf : T f = some fn) (hi : fn.id = f) {m : Map} {H : Hp} {vh : VH} {ds : List D} {kx : KX} {kd : KD} {Q : VK} {σ : L2.St} (hr : Hr X.K m H vh) (r : Reps X.K m H ds zs)
    (hc : callN T k f (g [.ref vh.length] ds) (vh ++ [.ins c [] []]) (newEx vh kx) (newEnd frz vh kd)) (ho : Out X.K m H kd Q) (ox : OutX X.K m H W σ kx) (x dx : Addr) (hx : H x = none) (hdx : H dx = none) (hne : dx ≠ x) :
    spV X.K (callN T k) fn.id fn.ps.length (g [.ref x] zs) (upd (upd H dx (.own x)) x (.ins (He.ga X.K c) dx [])) (fun v H2 => v = .non ∧ Q (.ref x) H2) (WE W σ) := by
  have s1 := Step.same (m := m) (same_new (o := .own x) hdx)
  have hr1 := hr.same (same_new (o := .own x) hdx)
  have hx1 : upd H dx (.own x) x = none := by rw [upd_ne (Ne.symm hne)]; exact hx
  have s2 := push_step (o := .ins (He.ga X.K c) dx []) hr1 hx1
  have hr2 := hr1.push (c := .ins c [] []) (o := .ins (He.ga X.K c) dx []) hx1 ⟨dx, [], upd_same, rfl, Reps.nil⟩
  have st := s1.trans s2
  have rself : Reps X.K (m.push vh.length x) (upd (upd H dx (.own x)) x (.ins (He.ga X.K c) dx [])) [.ref vh.length] [.ref x] := Reps.one (by simp only [Rep]; exact ⟨x, rfl, if_pos rfl⟩)
  refine spV_at (m0 := m) (H0 := H) hr2 (kw.reps rself (Reps.step hr st _ _ r)) hf hi hc (fun m' vh' H' d v s' h' rv kk => ?_) (fun m' vh' H' ex cls dd s' h' rx kk => ?_)
  · have st' := st.trans s'
    cases frz with
    | false =>
      obtain ⟨rfl, kk⟩ := kk
      have e : v = .non := rv
      refine ⟨e, ho m' vh' H' (.ref vh.length) (.ref x) st' h' ?_ kk⟩
      simp only [Rep]
      exact ⟨x, rfl, s'.2.1 _ _ (if_pos rfl)⟩
    | true =>
      obtain ⟨rfl, g', d', e, fz, kk⟩ := kk
      have ev : v = .non := rv
      subst e
      obtain ⟨h1, s3⟩ := hr.trim st' h'
      refine ⟨ev, ho m vh H' d' (.ref x) s3 h1 (Frz.rep hr st' h' fz ?_) kk⟩
      simp only [Rep]
      exact ⟨x, rfl, s'.2.1 _ _ (if_pos rfl)⟩
  · obtain ⟨g', es, e, fz, kk⟩ := kk
    subst e
    have st' := st.trans s'
    obtain ⟨h1, s3⟩ := hr.trim st' h'
    obtain ⟨e1, a, fs, e2, e3, e4, rs⟩ := rx
    exact ox m vh H' ⟨ex.c, ex.ns, es⟩ cls dd s3 h1 ⟨e1, a, fs, e2, e3, e4, Frzs.rep hr st' h' fz rs⟩ kk
theorem se_newK0 (frz : Bool) (cx : CxF X T hots k) (tk : L2N.Takes X W) (hf : T f = some fn) (ha0 : fn.at_ = (c, some ("__init__" : Str))) (kw : KwOk fn 1 ks @g) (M : Mk X.K (He.ga X.K c) (He.ma X.K (He.ga X.K c) "__init__")) (hg : Gl X c) (hm : X.mg c = some (.ref (He.ga X.K c))) (hkw : SK X W slk kws)
    (hall : (backToKw pos (keywordEach kws X.env)).all (·.1.isSome) = true := by rfl) (hks : (backToKw pos (keywordEach kws X.env)).filterMap (·.1) = ks := by rfl) (hdb : (c == ("__debug__" : Str)) = false := by decide)
    (hpl : ((backTo pos (starEach [] X.env)).any (·.1) || (backToKw pos (keywordEach kws X.env)).any (·.1.isNone)) = false := by rfl) : SE X W (sNewK (callN T k) frz c f ks.length g slk) (.Call (.Name c p) [] kws pos) := by
  obtain ⟨hi, ⟨fd, F, hb, ok⟩⟩ := cx.at hf
  have ead : He.fAd X.K fn.at_ = He.ma X.K (He.ga X.K c) "__init__" := by rw [ha0]; rfl
  rw [ead] at F ok
  refine ⟨fun pins s σ H Q I ⟨m, env, vh, kx, kd, hr, er, h, ho, ox⟩ => ?_⟩
  refine wpAny_Call_Name_kw (ld_glob I hg hm ?_ hdb)
  have h0 : tA X.K W slk σ H (fun zs H1 => zs.length = ks.length ∧ ∀ x dx, H1 x = none → H1 dx = none → dx ≠ x → spV X.K (callN T k) fn.id fn.ps.length (g [.ref x] zs) (upd (upd H1 dx (.own x)) x (.ins (He.ga X.K c) dx [])) (fun v H2 => v = .non ∧ Q (.ref x) H2) (WE W σ)) :=
    tA.go hr er ox h fun m1 vh1 H1 ds vs s1 hr1 er1 ox1 r1 k1 => ⟨by rw [← r1.len]; exact k1.1, new_ofK cx @kw hf hi hr1 r1 k1.2 (ho.step s1) ox1⟩
  refine PySem.W.callWith_KW0 (h₀ := X.base) I.ok.mod.kin M.kp hall (thn (hkw.run pos pins s σ H _ I h0) fun ws s2 ⟨zs, H2, I2, rz, l2, q2⟩ => ⟨I2.kIn, ?_⟩) hpl
  rw [hks]
  exact run_makeKS (E := WE W) (gU := g) (gV := g) M ok (cx.room.mono (by omega)) (fun s a => binds_kw F @kw s rfl (rz.length.symm.trans l2)) (L2N.passAt tk σ) I2 (fun a => kw.rel (vs := [V.ref a]) (us := [Value.ref a]) (.cons rfl .nil) rz) q2
/-! ### tuple(x), list(x) -/
def oTuple : SOL := fun ds vh kd => match ds with
  | [d] => match sview vh d with
    | some es => kd (.tup es) vh
    | none => False
  | _ => False
theorem sn_tuple : SnL X.K oTuple (fun xs H Q => ∃ p ys, xs = [.ref p] ∧ ((SqL X.K H p ys ∧ ∀ l, H l = none → Q (.ref l) (upd H l (.tup ys))) ∨ (SqT X.K H p ys ∧ Q (.ref p) H))) := by
  intro m H vh ds vs kd Q hr r h ho
  cases ds with
  | nil => exact h.elim
  | cons d ds =>
    cases ds with
    | cons _ _ => exact h.elim
    | nil =>
      obtain ⟨v, rfl, r1⟩ := reps1 r
      revert h
      show (match sview vh d with | some es => kd (.tup es) vh | none => False) → _
      cases e : sview vh d with
      | none => exact False.elim
      | some es =>
        intro h
        obtain ⟨a, xs, rfl, q, rs⟩ := sview_rep hr r1 e
        rcases q with q | q
        · exact ⟨a, xs, rfl, .inl ⟨q, fun l hl => out_tup hr rs h ho hl⟩⟩
        · refine ⟨a, xs, rfl, .inr ⟨q, ho m vh H (.tup es) _ (Step.refl _ _) hr ?_ h⟩⟩
          simp only [Rep]
          exact ⟨a, xs, rfl, q, rs⟩
theorem se_tuple (hg : Gl X "tuple") (hm : X.mg "tuple" = none) (ha : SA X W sl [e]) (he : starEach [e] X.env = (false, eval e X.env) :: starEach [] X.env := by rfl) : SE X W (sCallB oTuple sl) (.Call (.Name "tuple" p) [e] [] pos) := se_callTy call_tuple_of sn_tuple hg hm (by decide +kernel) ha (by decide) (by decide) he
/-! ### sum, max, min, all, any of a list -/
def oSum : SOL := fun ds vh kd => match ds with
  | [d] => ∃ ns : List Int, lview vh d = some (ns.map D.int) ∧ kd (.int ns.sum) vh
  | _ => False
def oMaxL : SOL := fun ds vh kd => match ds with
  | [d] => ∃ ns : List Int, lview vh d = some (ns.map D.int) ∧ 0 < ns.length ∧ ∀ m, m ∈ ns → (∀ y, y ∈ ns → y ≤ m) → kd (.int m) vh
  | _ => False
def oMinL : SOL := fun ds vh kd => match ds with
  | [d] => ∃ ns : List Int, lview vh d = some (ns.map D.int) ∧ 0 < ns.length ∧ ∀ m, m ∈ ns → (∀ y, y ∈ ns → m ≤ y) → kd (.int m) vh
  | _ => False
def oAll : SOL := fun ds vh kd => match ds with
  | [d] => ∃ bs : List Bool, lview vh d = some (bs.map D.bl) ∧ kd (.bl (bs.all id)) vh
  | _ => False
def oAny : SOL := fun ds vh kd => match ds with
  | [d] => ∃ bs : List Bool, lview vh d = some (bs.map D.bl) ∧ kd (.bl (bs.any id)) vh
  | _ => False
theorem Reps.bls {K : PySem.W.Frag} {m : Map} {H : Hp} : ∀ {ns : List Bool} {xs : List V}, Reps K m H (ns.map D.bl) xs → xs = ns.map V.bl
  | [], xs, r => by simpa only [List.map_nil, Reps] using r
  | n :: ns, xs, r => by
    simp only [List.map_cons, Reps, Rep] at r
    obtain ⟨v, vs, rfl, rfl, r⟩ := r
    rw [Reps.bls r]
    rfl
theorem sn_sum : SnL X.K oSum (rSum X.K) := by
  intro m H vh ds vs kd Q hr r h ho
  cases ds with
  | nil => exact h.elim
  | cons d ds =>
    cases ds with
    | cons _ _ => exact h.elim
    | nil =>
      obtain ⟨v, rfl, r1⟩ := reps1 r
      obtain ⟨ns, e, k⟩ := h
      obtain ⟨a, xs, rfl, q, rs⟩ := lview_rep hr r1 e
      have ex := Reps.ints.mp rs
      subst ex
      exact ⟨a, ns, rfl, .of q, ho m vh H (.int ns.sum) _ (Step.refl _ _) hr rep_int k⟩
theorem sn_maxL : SnL X.K oMaxL (rMax X.K) := by
  intro m H vh ds vs kd Q hr r h ho
  cases ds with
  | nil => exact h.elim
  | cons d ds =>
    cases ds with
    | cons _ _ => exact h.elim
    | nil =>
      obtain ⟨v, rfl, r1⟩ := reps1 r
      obtain ⟨ns, e, hl, k⟩ := h
      obtain ⟨a, xs, rfl, q, rs⟩ := lview_rep hr r1 e
      have ex := Reps.ints.mp rs
      subst ex
      exact ⟨a, ns, rfl, .of q, hl, fun z h1 h2 => ho m vh H (.int z) _ (Step.refl _ _) hr rep_int (k z h1 h2)⟩
theorem sn_minL : SnL X.K oMinL (rMin X.K) := by
  intro m H vh ds vs kd Q hr r h ho
  cases ds with
  | nil => exact h.elim
  | cons d ds =>
    cases ds with
    | cons _ _ => exact h.elim
    | nil =>
      obtain ⟨v, rfl, r1⟩ := reps1 r
      obtain ⟨ns, e, hl, k⟩ := h
      obtain ⟨a, xs, rfl, q, rs⟩ := lview_rep hr r1 e
      have ex := Reps.ints.mp rs
      subst ex
      exact ⟨a, ns, rfl, .of q, hl, fun z h1 h2 => ho m vh H (.int z) _ (Step.refl _ _) hr rep_int (k z h1 h2)⟩
theorem sn_all : SnL X.K oAll (rAll X.K) := by
  intro m H vh ds vs kd Q hr r h ho
  cases ds with
  | nil => exact h.elim
  | cons d ds =>
    cases ds with
    | cons _ _ => exact h.elim
    | nil =>
      obtain ⟨v, rfl, r1⟩ := reps1 r
      obtain ⟨ns, e, k⟩ := h
      obtain ⟨a, xs, rfl, q, rs⟩ := lview_rep hr r1 e
      have ex := rs.bls
      subst ex
      exact ⟨a, ns, rfl, .of q, ho m vh H (.bl (ns.all id)) _ (Step.refl _ _) hr rep_bl k⟩
theorem sn_any : SnL X.K oAny (rAny X.K) := by
  intro m H vh ds vs kd Q hr r h ho
  cases ds with
  | nil => exact h.elim
  | cons d ds =>
    cases ds with
    | cons _ _ => exact h.elim
    | nil =>
      obtain ⟨v, rfl, r1⟩ := reps1 r
      obtain ⟨ns, e, k⟩ := h
      obtain ⟨a, xs, rfl, q, rs⟩ := lview_rep hr r1 e
      have ex := rs.bls
      subst ex
      exact ⟨a, ns, rfl, .of q, ho m vh H (.bl (ns.any id)) _ (Step.refl _ _) hr rep_bl k⟩
theorem se_sum (hc : X.calm = true) (hg : Gl X "sum") (hm : X.mg "sum" = none) (ha : SA X W sl [e]) (he : starEach [e] X.env = (false, eval e X.env) :: starEach [] X.env := by rfl) : SE X W (sCallB oSum sl) (.Call (.Name "sum" p) [e] [] pos) := se_callB (cr_sum hc) sn_sum hg hm (by decide +kernel) ha (by decide) (by decide) he
theorem se_maxL (hc : X.calm = true) (hg : Gl X "max") (hm : X.mg "max" = none) (ha : SA X W sl [e]) (he : starEach [e] X.env = (false, eval e X.env) :: starEach [] X.env := by rfl) : SE X W (sCallB oMaxL sl) (.Call (.Name "max" p) [e] [] pos) := se_callB (cr_max hc) sn_maxL hg hm (by decide +kernel) ha (by decide) (by decide) he
theorem se_minL (hc : X.calm = true) (hg : Gl X "min") (hm : X.mg "min" = none) (ha : SA X W sl [e]) (he : starEach [e] X.env = (false, eval e X.env) :: starEach [] X.env := by rfl) : SE X W (sCallB oMinL sl) (.Call (.Name "min" p) [e] [] pos) := se_callB (cr_min hc) sn_minL hg hm (by decide +kernel) ha (by decide) (by decide) he
theorem se_all (hc : X.calm = true) (hg : Gl X "all") (hm : X.mg "all" = none) (ha : SA X W sl [e]) (he : starEach [e] X.env = (false, eval e X.env) :: starEach [] X.env := by rfl) : SE X W (sCallB oAll sl) (.Call (.Name "all" p) [e] [] pos) := se_callB (cr_all hc) sn_all hg hm (by decide +kernel) ha (by decide) (by decide) he
theorem se_any (hc : X.calm = true) (hg : Gl X "any") (hm : X.mg "any" = none) (ha : SA X W sl [e]) (he : starEach [e] X.env = (false, eval e X.env) :: starEach [] X.env := by rfl) : SE X W (sCallB oAny sl) (.Call (.Name "any" p) [e] [] pos) := se_callB (cr_any hc) sn_any hg hm (by decide +kernel) ha (by decide) (by decide) he
end
end VI

end
section
/-! VI18: ranges with great ends. -/
namespace VI
open PySem PySem.Spec L2
open PyProof.Rows hiding St
theorem turn_long {P : Program} {w : World} {K : PySem.W.Frag} {tg : Expr} (it : Addr) (lo : Int) (n : Nat) : Turn P w K tg (Itr lo n) [it] it (fun i h => IsLongIter h it (lo + (i : Nat) * 1) ((n : Int) - (i : Nat)) 1) where
  mem := by simp
  obj := fun i h st b hb => by
    have e : b = it := by simpa using hb
    subst e
    exact ⟨_, st, fun v z => nomatch z⟩
  keep := fun i h h' st k => k it (by simp) _ st
  item := by
    intro X hP hw hK hc i pins s σ H E I hf st hg
    subst hP hw hK
    obtain ⟨f0, f1, f2, f3, f4, f5⟩ := hf it (by simp)
    have W := Walks.longrange (prog := X.prog) (w := X.w) (I.ok.hd hc) it lo 1 n
    refine W.item i s _ _ hg st fun v h' tk hv st' kk => ?_
    obtain ⟨t, rfl⟩ := hv
    have I1 : Inv X pins σ H { s with heap := h', toks := tk } := I.turned (fun b o hb e => kk b o (by simpa using hb) e) f0 f1 f3 f4 f5
    refine ⟨_, rfl, go_of (s := { s with heap := h', toks := tk }) (n := "longrange_iterator") st' rfl rfl (by decide) ⟨.int (lo + (i : Nat)), H, I1, ⟨t, ?_⟩, ⟨rfl, rfl⟩, st', fun b hb => (hf b hb).1⟩⟩
    rw [Int.mul_one]
  done := by
    intro X hP hw hK hc i pins s σ H E I hf st hg
    subst hP hw hK
    obtain ⟨f0, f1, f2, f3, f4, f5⟩ := hf it (by simp)
    exact wpAny_pyNext_long_end (I.ok.hd hc) st (by have : n ≤ i := hg; omega) fun h' eb => ⟨rfl, I.turned (t' := s.toks) (fun b o hb e => eb b o hb e) f0 f1 f3 f4 f5⟩
  self := fun A i s Q E st h => wpAny_pyIter_longiter st h
section
variable {X : Cx} {W : WX} {tg : Expr}
theorem range_itG {pins : List (Addr × Obj)} {σ : L2.St} {H : Hp} {s : Shared} {R : It → Hp → Prop} {E : Value → Shared → Prop} {lo hi : Int} {t u v : Tok} {tk : Nat} (I : Inv X pins σ H s)
    (q : R (Itr lo (hi - lo).toNat) H) : wpAny (model X.prog X.w) X.A (pyIter (.ref s.heap.objs.size)) (PIE X pins σ tg R) E { s with heap := s.heap.push { cls := .type "range", data := .fields #[.int lo t, .int hi u, .int 1 v] }, toks := tk } := by
  have I1 : Inv X pins σ H { s with heap := s.heap.push { cls := .type "range", data := .fields #[.int lo t, .int hi u, .int 1 v] }, toks := tk } := I.kept fun b o e => Heap.get?_push_of_some _ e
  have e1 : lo + ((0 : Nat) : Int) * 1 = lo := by simp
  have e2 : (((hi - lo).toNat : Nat) : Int) - ((0 : Nat) : Int) = Builtin.Range.rangeSize lo hi 1 := by rw [rangeSize_one]; split <;> omega
  have e3 : ∀ b ∈ [(s.heap.push { cls := .type "range", data := .fields #[.int lo t, .int hi u, .int 1 v] }).objs.size], _ := fun b hb => by
    have e : b = (s.heap.push { cls := .type "range", data := .fields #[.int lo t, .int hi u, .int 1 v] }).objs.size := by simpa using hb
    subst e
    exact I1.fpOk (Nat.le_refl _) (I1.hok.fresh (Nat.le_refl _))
  cases hs : Builtin.Range.small lo hi 1 with
  | true =>
    refine wpAny_pyIter_range (IsRange.new ..) hs ?_
    refine ⟨_, [_], _, _, H, rfl, I1.kept (t' := tk) fun b o e => Heap.get?_push_of_some _ e, turn_range _ lo (hi - lo).toNat, ?_, e3, q⟩
    show IsRangeIter _ _ (lo + ((0 : Nat) : Int) * 1) ((((hi - lo).toNat : Nat) : Int) - ((0 : Nat) : Int)) 1
    rw [e1, e2]
    exact Heap.get?_push_size _ rfl
  | false =>
    refine wpAny_pyIter_longrange (IsRange.new ..) hs ?_
    refine ⟨_, [_], _, _, H, rfl, I1.kept (t' := tk) fun b o e => Heap.get?_push_of_some _ e, turn_long _ lo (hi - lo).toNat, ?_, e3, q⟩
    show IsLongIter _ _ (lo + ((0 : Nat) : Int) * 1) ((((hi - lo).toNat : Nat) : Int) - ((0 : Nat) : Int)) 1
    rw [e1, e2]
    exact Heap.get?_push_size _ rfl
def iRng2G (ta : TA) : TI := fun σ H R => ta σ H fun vs H1 => ∃ i j : Int, vs = [.int i, .int j] ∧ R (Itr i (j - i).toNat) H1
theorem pi_range2G {a b : Expr} {ta : TA} {p pos : Pos} (hg : Gl X "range") (hm : X.mg "range" = none) (ha : PA X [a, b] ta) (hs : starEach [a, b] X.env = [(false, eval a X.env), (false, eval b X.env)] := by rfl) (hs2 : starEach [b] X.env = [(false, eval b X.env)] := by rfl) :
    PI X tg (.Call (.Name "range" p) [a, b] [] pos) (iRng2G ta) := by
  refine ⟨fun pins s σ H R I h => ?_⟩
  refine Call_ (ld_blt I hg hm boot_range (PyProof.Rows.callWith_type1 (thn (ha.run pos pins s σ H _ I h) fun us s1 ⟨vs, H1, I1, r1, q1⟩ => ?_) (by rw [hs, hs2]) (by rw [hs2]; rfl)))
  obtain ⟨i, j, e, q⟩ := q1
  subst e
  cases r1 with
  | cons r rr =>
    cases rr with
    | cons r' rr =>
      cases rr
      obtain ⟨t, rfl⟩ := r
      obtain ⟨t', rfl⟩ := r'
      exact call_range_2 (range_itG I1 q)
def oRng2G : List D → VH → (Src → VH → Prop) → Prop := fun ds vh ki => match ds with
  | [.int i, .int j] => ki ⟨rngL i (j - i).toNat, always⟩ vh
  | _ => False
theorem oRng2G_inv {ds : List D} {vh : VH} {ki : Src → VH → Prop} (k : oRng2G ds vh ki) : ∃ i j : Int, ds = [i, j].map D.int ∧ ki ⟨rngL i (j - i).toNat, always⟩ vh := by
  cases ds with
  | nil => exact False.elim k
  | cons d r =>
    cases r with
    | nil => cases d <;> exact False.elim k
    | cons e r =>
      cases r with
      | nil =>
        cases d with
        | int i =>
          cases e with
          | int j => exact ⟨i, j, rfl, k⟩
          | _ => exact False.elim k
        | _ => cases e <;> exact False.elim k
      | cons _ _ => cases d <;> cases e <;> exact False.elim k
variable {a b : Expr} {sl : SemA} {p pos : Pos}
theorem si_range2G (hg : Gl X "range") (hm : X.mg "range" = none) (ha : SA X W sl [a, b]) (hs : starEach [a, b] X.env = [(false, eval a X.env), (false, eval b X.env)] := by rfl) (hs2 : starEach [b] X.env = [(false, eval b X.env)] := by rfl) : SI X W (sItA oRng2G sl) tg (.Call (.Name "range" p) [a, b] [] pos) := by
  refine piImp (pi_range2G hg hm ha hs hs2) fun σ H R ⟨m, env, vh, kx, ki, hr, er, hs, o, ox⟩ => ?_
  refine tA.go hr er ox hs fun m1 vh1 H1 ds vs s1 hr1 er1 ox1 r1 k1 => ?_
  obtain ⟨i, j, rfl, k2⟩ := oRng2G_inv k1
  exact ⟨i, j, Reps.ints.mp r1, o m1 vh1 H1 _ _ s1 hr1 (src_rng i (j - i).toNat) k2⟩
end
end VI
namespace VI
theorem oRng2G_i {i j : Int} {vh : VH} {ki : Src → VH → Prop} : oRng2G [.int i, .int j] vh ki = ki ⟨rngL i (j - i).toNat, always⟩ vh := rfl
end VI

end
section
/-! the defs of k05: their sems, their derivations (printed by gen.py) -/
namespace LK
open PySem PySem.Spec L2 VI
open PyProof.Rows hiding St
def top (i : Nat) : Stmt := PySem.Challenge.pw_seatsbothways_k05_whole_rounded_by_marks.main.body.getD i (.Pass ⟨0, 0, 0, 0⟩)
def mth (i j : Nat) : Stmt := match top i with | .ClassDef (body := b) .. => b.getD j (.Pass ⟨0, 0, 0, 0⟩) | _ => .Pass ⟨0, 0, 0, 0⟩
def exL : List Str := ["InvalidNumber", "InvalidFraction", "InvalidRule"]
def exSub (c d : Str) : Bool := d == c || c == ("SeatError" : Str)
abbrev i_is_integer : Nat := 0
abbrev i_is_from_to : Nat := 1
abbrev i_is_number : Nat := 2
abbrev i_is_fraction : Nat := 3
abbrev i_check_fraction : Nat := 4
abbrev i_reduced : Nat := 5
abbrev i_is_less : Nat := 6
abbrev i_RuleU_initU : Nat := 7
abbrev i_Rule_mark : Nat := 8
abbrev i_Rule_mark_of : Nat := 9
abbrev i_Rule_rounded : Nat := 10
abbrev i_Rule_may_be : Nat := 11
abbrev i__law_pool : Nat := 12
abbrev i__law_draw : Nat := 13
abbrev i__law_same : Nat := 14
abbrev i__law_way : Nat := 15
abbrev i__law_mark : Nat := 16
abbrev i__law_lowest : Nat := 17
abbrev i__law_worth : Nat := 18
abbrev i__law_due : Nat := 19
abbrev i__law_refused : Nat := 20
abbrev i_law : Nat := 21
abbrev st_is_integer : Stmt := top 7
def sem_is_integer (C : Calls) : SemS :=
 (sRet (sAndV (sIsi .int (sVar 0)) (sNotV (sIsi .bl (sVar 0)))))
def fn_is_integer : Fn := ⟨i_is_integer, ("is_integer", none), "is_integer", "is_integer", st_is_integer, ["value"], ["value"], .pure, sem_is_integer⟩
abbrev st_is_from_to : Stmt := top 8
def sem_is_from_to (C : Calls) : SemS :=
 (sRet (sAndV (sCall C i_is_integer (sCons (sVar 0) sNil)) (sChain oLe oLe (sVar 1) (sVar 0) (sVar 2))))
def fn_is_from_to : Fn := ⟨i_is_from_to, ("is_from_to", none), "is_from_to", "is_from_to", st_is_from_to, ["value", "least", "most"], ["value", "least", "most"], .pure, sem_is_from_to⟩
abbrev st_is_number : Stmt := top 9
def sem_is_number (C : Calls) : SemS :=
 (sRet (sAndV (sCall C i_is_integer (sCons (sVar 0) sNil)) (sBin oGe (sVar 0) (sCst (.int 0)))))
def fn_is_number : Fn := ⟨i_is_number, ("is_number", none), "is_number", "is_number", st_is_number, ["value"], ["value"], .pure, sem_is_number⟩
abbrev st_is_fraction : Stmt := top 11
def sem_is_fraction (C : Calls) : SemS :=
 (sSeq (sIf (sOrT (sNotT (sTB (sIsi .tup (sVar 0)))) (sTB (sBin oNe (sCallB oLen (sCons (sVar 0) sNil)) (sCst (.int 2)))))
 (sRet (sCst (.bl false)))
 sSkip)
 (sSeq (sAsg (sVar 0) (gT 2 (gsCons (gN 1) (gsCons (gN 2) gsNil))))
 (sSeq (sIf (sOrT (sNotT (sTB (sCall C i_is_number (sCons (sVar 1) sNil)))) (sOrT (sNotT (sTB (sCall C i_is_integer (sCons (sVar 2) sNil)))) (sTB (sBin oLt (sVar 2) (sCst (.int 1))))))
 (sRet (sCst (.bl false)))
 sSkip)
 (sRet (sBin oEq (sCallB oGcd (sCons (sVar 1) (sCons (sVar 2) sNil))) (sCst (.int 1)))))))
def fn_is_fraction : Fn := ⟨i_is_fraction, ("is_fraction", none), "is_fraction", "is_fraction", st_is_fraction, ["value"], ["value", "top", "bottom"], .pure, sem_is_fraction⟩
abbrev st_check_fraction : Stmt := top 12
def sem_check_fraction (C : Calls) : SemS :=
 (sIf (sNotT (sTB (sCall C i_is_fraction (sCons (sVar 0) sNil))))
 (sRaise "InvalidFraction" ["value"] (sCons (sVar 0) sNil))
 sSkip)
def fn_check_fraction : Fn := ⟨i_check_fraction, ("check_fraction", none), "check_fraction", "check_fraction", st_check_fraction, ["value"], ["value"], .pure, sem_check_fraction⟩
abbrev st_reduced : Stmt := top 13
def sem_reduced (C : Calls) : SemS :=
 (sSeq (sSet 2 (sCallB oGcd (sCons (sVar 0) (sCons (sVar 1) sNil))))
 (sRet (sTup (sCons (sBin oFdiv (sVar 0) (sVar 2)) (sCons (sBin oFdiv (sVar 1) (sVar 2)) sNil)))))
def fn_reduced : Fn := ⟨i_reduced, ("reduced", none), "reduced", "reduced", st_reduced, ["top", "bottom"], ["top", "bottom", "common"], .pure, sem_reduced⟩
abbrev st_is_less : Stmt := top 14
def sem_is_less (C : Calls) : SemS :=
 (sRet (sBin oLt (sBin (oMul false) (sBin oIx (sVar 0) (sCst (.int 0))) (sBin oIx (sVar 1) (sCst (.int 1)))) (sBin (oMul false) (sBin oIx (sVar 1) (sCst (.int 0))) (sBin oIx (sVar 0) (sCst (.int 1))))))
def fn_is_less : Fn := ⟨i_is_less, ("is_less", none), "is_less", "is_less", st_is_less, ["one", "other"], ["one", "other"], .pure, sem_is_less⟩
abbrev st_RuleU_initU : Stmt := mth 18 0
def sem_RuleU_initU (C : Calls) : SemS :=
 (sSeq (sIf (sNotT (sTB (sCall C i_is_from_to (sCons (sVar 2) (sCons (sCst (.int 1)) (sCons (sCst (.int 20)) sNil))))))
 (sRaise "InvalidRule" ["part"] (sCons (sCst (.str "bottom")) sNil))
 sSkip)
 (sSeq (sIf (sNotT (sTB (sCall C i_is_from_to (sCons (sVar 1) (sCons (sCst (.int 0)) (sCons (sVar 2) sNil))))))
 (sRaise "InvalidRule" ["part"] (sCons (sCst (.str "top")) sNil))
 sSkip)
 (sPutNew "Rule" [] "part" (sVar 0) (sCall C i_reduced (sCons (sVar 1) (sCons (sVar 2) sNil))))))
def fn_RuleU_initU : Fn := ⟨i_RuleU_initU, ("Rule", some "__init__"), "__init__", "Rule.__init__", st_RuleU_initU, ["self", "top", "bottom"], ["self", "top", "bottom"], .keep, sem_RuleU_initU⟩
abbrev st_Rule_mark : Stmt := mth 18 2
def sem_Rule_mark (C : Calls) : SemS :=
 (sSeq (sIf (sNotT (sTB (sCall C i_is_from_to (sCons (sVar 1) (sCons (sCst (.int 1)) (sCons (sCst (.int 1000)) sNil))))))
 (sRaise "InvalidNumber" ["value"] (sCons (sVar 1) sNil))
 sSkip)
 (sRet (sMeth C "Rule" "mark_of" i_Rule_mark_of (sVar 0) (sCons (sVar 1) sNil))))
def fn_Rule_mark : Fn := ⟨i_Rule_mark, ("Rule", some "mark"), "mark", "Rule.mark", st_Rule_mark, ["self", "k"], ["self", "k"], .pure, sem_Rule_mark⟩
abbrev st_Rule_mark_of : Stmt := mth 18 3
def sem_Rule_mark_of (C : Calls) : SemS :=
 (sSeq (sAsg (sFld "Rule" ["part"] 0 (sVar 0)) (gT 2 (gsCons (gN 2) (gsCons (gN 3) gsNil))))
 (sRet (sCall C i_reduced (sCons (sBin (oAdd false) (sBin (oMul false) (sBin oSub (sVar 1) (sCst (.int 1))) (sVar 3)) (sVar 2)) (sCons (sVar 3) sNil)))))
def fn_Rule_mark_of : Fn := ⟨i_Rule_mark_of, ("Rule", some "mark_of"), "mark_of", "Rule.mark_of", st_Rule_mark_of, ["self", "k"], ["self", "k", "top", "bottom"], .pure, sem_Rule_mark_of⟩
abbrev st_Rule_rounded : Stmt := mth 18 4
def sem_Rule_rounded (C : Calls) : SemS :=
 (sSeq (sDrop (sCall C i_check_fraction (sCons (sVar 1) sNil)))
 (sSeq (sSet 2 (sBin oFdiv (sBin oIx (sVar 1) (sCst (.int 0))) (sBin oIx (sVar 1) (sCst (.int 1)))))
 (sSeq (sSet 3 (sLst true sNil))
 (sSeq (sFor (sItA oRng2G (sCons (sCallB oMax2 (sCons (sCst (.int 0)) (sCons (sBin oSub (sVar 2) (sCst (.int 1))) sNil))) (sCons (sBin (oAdd false) (sVar 2) (sCst (.int 2))) sNil))) (gN 4)
 (sIf (sTB (sMeth C "Rule" "may_be" i_Rule_may_be (sVar 0) (sCons (sVar 1) (sCons (sVar 4) sNil))))
 (sDrop (sApp (sVar 3) (sVar 4)))
 sSkip))
 (sRet (sCallB oTuple (sCons (sVar 3) sNil)))))))
def fn_Rule_rounded : Fn := ⟨i_Rule_rounded, ("Rule", some "rounded"), "rounded", "Rule.rounded", st_Rule_rounded, ["self", "value"], ["self", "value", "whole", "found", "n"], .pure, sem_Rule_rounded⟩
abbrev st_Rule_may_be : Stmt := mth 18 5
def sem_Rule_may_be (C : Calls) : SemS :=
 (sSeq (sIf (sAndT (sTB (sBin oGt (sVar 2) (sCst (.int 0)))) (sTB (sCall C i_is_less (sCons (sVar 1) (sCons (sMeth C "Rule" "mark_of" i_Rule_mark_of (sVar 0) (sCons (sVar 2) sNil)) sNil)))))
 (sRet (sCst (.bl false)))
 sSkip)
 (sRet (sNotV (sCall C i_is_less (sCons (sMeth C "Rule" "mark_of" i_Rule_mark_of (sVar 0) (sCons (sBin (oAdd false) (sVar 2) (sCst (.int 1))) sNil)) (sCons (sVar 1) sNil))))))
def fn_Rule_may_be : Fn := ⟨i_Rule_may_be, ("Rule", some "may_be"), "may_be", "Rule.may_be", st_Rule_may_be, ["self", "value", "n"], ["self", "value", "n"], .pure, sem_Rule_may_be⟩
abbrev st__law_pool : Stmt := top 20
def sem__law_pool (C : Calls) : SemS :=
 (sSeq (sSet 1 (sLc false [3] (sIt (sSl false (sVar 0) sNoP (sPart (sCst (.int 63))))) (gN 3) sYes (sCallB oInt (sCons (sVar 3) sNil))))
 (sSeq (sSet 2 (sBin (oAdd false) (sCst (.int 1442695040888963407)) (sCallB oLen (sCons (sVar 1) sNil))))
 (sSeq (sFor (sIt (sVar 1)) (gN 3)
 (sSet 2 (sBin oMod (sBin (oAdd false) (sBin (oAdd false) (sBin (oMul false) (sVar 2) (sVar 2)) (sVar 3)) (sCst (.int 5))) (sCst (.int 2305843009213693951)))))
 (sRet (sLst true (sCons (sVar 1) (sCons (sCst (.int 0)) (sCons (sCst (.int 0)) (sCons (sVar 2) sNil)))))))))
def fn__law_pool : Fn := ⟨i__law_pool, ("_law_pool", none), "_law_pool", "_law_pool", st__law_pool, ["script"], ["script", "cells", "state", "cell"], .fresh, sem__law_pool⟩
abbrev st__law_draw : Stmt := top 21
def sem__law_draw (C : Calls) : SemS :=
 (sSeq (sIf (sTB (sBin oLt (sBin oIx (sVar 0) (sCst (.int 2))) (sVar 1)))
 (sSeq (sSet 2 (sCst (.int 0)))
 (sSeq (sIf (sTB (sBin oLt (sBin oIx (sVar 0) (sCst (.int 1))) (sCallB oLen (sCons (sBin oIx (sVar 0) (sCst (.int 0))) sNil))))
 (sSet 2 (sCallB oAbs (sCons (sBin oIx (sBin oIx (sVar 0) (sCst (.int 0))) (sBin oIx (sVar 0) (sCst (.int 1)))) sNil)))
 sSkip)
 (sSeq (sPutL (sBin (oAdd false) (sBin oIx (sVar 0) (sCst (.int 1))) (sCst (.int 1))) (sVar 0) (sCst (.int 1)))
 (sSeq (sPutL (sCst (.int 0)) (sVar 0) (sCst (.int 2)))
 (sSeq (sIf (sTB (sBin oGe (sVar 2) (sBin oPow (sCst (.int 10)) (sCst (.int 18)))))
 (sPutL (sVar 2) (sVar 0) (sCst (.int 2)))
 sSkip)
 (sPutL (sBin oMod (sBin (oAdd false) (sBin (oAdd false) (sBin (oMul false) (sBin oIx (sVar 0) (sCst (.int 3))) (sBin oIx (sVar 0) (sCst (.int 3)))) (sVar 2)) (sBin oIx (sVar 0) (sCst (.int 1)))) (sCst (.int 2305843009213693951))) (sVar 0) (sCst (.int 3))))))))
 sSkip)
 (sSeq (sIf (sTB (sBin oGe (sBin oIx (sVar 0) (sCst (.int 2))) (sVar 1)))
 (sSeq (sSet 3 (sBin oMod (sCallB oInt (sCons (sBin oIx (sVar 0) (sCst (.int 2))) sNil)) (sVar 1)))
 (sSeq (sPutL (sBin oFdiv (sBin oIx (sVar 0) (sCst (.int 2))) (sVar 1)) (sVar 0) (sCst (.int 2)))
 (sRet (sVar 3))))
 sSkip)
 (sRet (sBin oMod (sCallB oInt (sCons (sBin oFdiv (sBin oIx (sVar 0) (sCst (.int 3))) (sCst (.int 1048576))) sNil)) (sVar 1)))))
def fn__law_draw : Fn := ⟨i__law_draw, ("_law_draw", none), "_law_draw", "_law_draw", st__law_draw, ["pool", "limit"], ["pool", "limit", "cell", "told"], .keep, sem__law_draw⟩
abbrev st__law_same : Stmt := top 22
def sem__law_same (C : Calls) : SemS :=
 (sSeq (sIf (sOrT (sTB (sIsi .tup (sVar 1))) (sTB (sIsi .lst (sVar 1))))
 (sSeq (sIf (sOrT (sTB (sBin oNe (sIsi .tup (sVar 0)) (sIsi .tup (sVar 1)))) (sTB (sBin oNe (sIsi .lst (sVar 0)) (sIsi .lst (sVar 1)))))
 (sRet (sCst (.bl false)))
 sSkip)
 (sSeq (sIf (sTB (sBin oNe (sCallB oLen (sCons (sVar 0) sNil)) (sCallB oLen (sCons (sVar 1) sNil))))
 (sRet (sCst (.bl false)))
 sSkip)
 (sSeq (sFor (sItA oRng1 (sCons (sCallB oLen (sCons (sVar 1) sNil)) sNil)) (gN 2)
 (sIf (sNotT (sTB (sCall C i__law_same (sCons (sBin oIx (sVar 0) (sVar 2)) (sCons (sBin oIx (sVar 1) (sVar 2)) sNil)))))
 (sRet (sCst (.bl false)))
 sSkip))
 (sRet (sCst (.bl true))))))
 sSkip)
 (sSeq (sIf (sTB (sBin oIs (sVar 1) (sCst .non)))
 (sRet (sBin oIs (sVar 0) (sCst .non)))
 sSkip)
 (sSeq (sIf (sTB (sBin oIs (sVar 1) (sCst (.bl true))))
 (sRet (sBin oIs (sVar 0) (sCst (.bl true))))
 sSkip)
 (sSeq (sIf (sTB (sBin oIs (sVar 1) (sCst (.bl false))))
 (sRet (sBin oIs (sVar 0) (sCst (.bl false))))
 sSkip)
 (sSeq (sIf (sTB (sIsi .int (sVar 1)))
 (sRet (sAndV (sIsi .int (sVar 0)) (sAndV (sNotV (sIsi .bl (sVar 0))) (sBin oEq (sVar 0) (sVar 1)))))
 sSkip)
 (sRet (sAndV (sIsi .str (sVar 0)) (sBin oEq (sVar 0) (sVar 1)))))))))
def fn__law_same : Fn := ⟨i__law_same, ("_law_same", none), "_law_same", "_law_same", st__law_same, ["told", "due"], ["told", "due", "spot"], .pure, sem__law_same⟩
abbrev st__law_way : Stmt := top 23
def sem__law_way (C : Calls) : SemS :=
 (sSeq (sSet 1 (sCall C i__law_draw (sCons (sVar 0) (sCons (sCst (.int 6)) sNil))))
 (sSeq (sSet 2 (sBin (oAdd false) (sCst (.int 1)) (sCall C i__law_draw (sCons (sVar 0) (sCons (sCst (.int 20)) sNil)))))
 (sSeq (sIf (sTB (sBin oEq (sVar 1) (sCst (.int 0))))
 (sRet (sTup (sCons (sCst (.int 0)) (sCons (sVar 2) sNil))))
 sSkip)
 (sSeq (sIf (sTB (sBin oEq (sVar 1) (sCst (.int 1))))
 (sRet (sTup (sCons (sVar 2) (sCons (sVar 2) sNil))))
 sSkip)
 (sSeq (sIf (sTB (sBin oEq (sVar 1) (sCst (.int 2))))
 (sSeq (sSet 3 (sBin (oAdd false) (sCst (.int 1)) (sCall C i__law_draw (sCons (sVar 0) (sCons (sCst (.int 10)) sNil)))))
 (sRet (sTup (sCons (sVar 3) (sCons (sBin (oMul false) (sCst (.int 2)) (sVar 3)) sNil)))))
 sSkip)
 (sRet (sTup (sCons (sCall C i__law_draw (sCons (sVar 0) (sCons (sBin (oAdd false) (sVar 2) (sCst (.int 1))) sNil))) (sCons (sVar 2) sNil)))))))))
def fn__law_way : Fn := ⟨i__law_way, ("_law_way", none), "_law_way", "_law_way", st__law_way, ["pool"], ["pool", "kind", "under", "half"], .keep, sem__law_way⟩
abbrev st__law_mark : Stmt := top 24
def sem__law_mark (C : Calls) : SemS :=
 (sRet (sBin (oAdd false) (sBin (oMul false) (sBin oIx (sVar 0) (sCst (.int 1))) (sBin oSub (sVar 1) (sCst (.int 1)))) (sBin oIx (sVar 0) (sCst (.int 0)))))
def fn__law_mark : Fn := ⟨i__law_mark, ("_law_mark", none), "_law_mark", "_law_mark", st__law_mark, ["way", "step"], ["way", "step"], .pure, sem__law_mark⟩
abbrev st__law_lowest : Stmt := top 25
def sem__law_lowest (C : Calls) : SemS :=
 (sSeq (sSet 2 (sVar 0))
 (sSeq (sSet 3 (sVar 1))
 (sSeq (sFor (sItA oRng1 (sCons (sCst (.int 200)) sNil)) (gN 4)
 (sIf (sTB (sBin oGt (sVar 3) (sCst (.int 0))))
 (sSeq (sSet 5 (sBin oMod (sCallB oInt (sCons (sVar 2) sNil)) (sVar 3)))
 (sSeq (sSet 2 (sVar 3))
 (sSet 3 (sVar 5))))
 sSkip))
 (sRet (sTup (sCons (sBin oFdiv (sVar 0) (sVar 2)) (sCons (sBin oFdiv (sVar 1) (sVar 2)) sNil)))))))
def fn__law_lowest : Fn := ⟨i__law_lowest, ("_law_lowest", none), "_law_lowest", "_law_lowest", st__law_lowest, ["over", "under"], ["over", "under", "great", "small", "step", "rest"], .pure, sem__law_lowest⟩
abbrev st__law_worth : Stmt := top 26
def sem__law_worth (C : Calls) : SemS :=
 (sSeq (sSet 2 (sCall C i__law_draw (sCons (sVar 0) (sCons (sCst (.int 7)) sNil))))
 (sSeq (sSet 3 (sBin (oAdd false) (sCst (.int 1)) (sCall C i__law_draw (sCons (sVar 0) (sCons (sBin oIx (sLst false (sCons (sCst (.int 4)) (sCons (sCst (.int 30)) (sCons (sCst (.int 1200)) sNil)))) (sCall C i__law_draw (sCons (sVar 0) (sCons (sCst (.int 3)) sNil)))) sNil)))))
 (sSeq (sSet 4 (sBin (oAdd false) (sCst (.int 1)) (sCall C i__law_draw (sCons (sVar 0) (sCons (sBin oIx (sLst false (sCons (sCst (.int 12)) (sCons (sBin oPow (sCst (.int 10)) (sCst (.int 6))) (sCons (sBin oPow (sCst (.int 10)) (sCst (.int 18))) sNil)))) (sCall C i__law_draw (sCons (sVar 0) (sCons (sCst (.int 3)) sNil)))) sNil)))))
 (sSeq (sIf (sTB (sBin oLt (sVar 2) (sCst (.int 2))))
 (sRet (sTup (sCons (sCall C i__law_mark (sCons (sVar 1) (sCons (sVar 3) sNil))) (sCons (sBin oIx (sVar 1) (sCst (.int 1))) sNil))))
 sSkip)
 (sSeq (sIf (sTB (sBin oEq (sVar 2) (sCst (.int 2))))
 (sRet (sTup (sCons (sBin (oAdd false) (sBin (oMul false) (sCall C i__law_mark (sCons (sVar 1) (sCons (sVar 3) sNil))) (sVar 4)) (sBin oIx (sVar 1) (sCst (.int 1)))) (sCons (sBin (oMul false) (sBin oIx (sVar 1) (sCst (.int 1))) (sVar 4)) sNil))))
 sSkip)
 (sSeq (sIf (sTB (sBin oEq (sVar 2) (sCst (.int 3))))
 (sRet (sTup (sCons (sCallB oMax2 (sCons (sCst (.int 0)) (sCons (sBin oSub (sBin (oMul false) (sCall C i__law_mark (sCons (sVar 1) (sCons (sVar 3) sNil))) (sVar 4)) (sBin oIx (sVar 1) (sCst (.int 1)))) sNil))) (sCons (sBin (oMul false) (sBin oIx (sVar 1) (sCst (.int 1))) (sVar 4)) sNil))))
 sSkip)
 (sSeq (sIf (sTB (sBin oEq (sVar 2) (sCst (.int 4))))
 (sRet (sTup (sCons (sCall C i__law_draw (sCons (sVar 0) (sCons (sCst (.int 60)) sNil))) (sCons (sBin (oAdd false) (sCst (.int 1)) (sCall C i__law_draw (sCons (sVar 0) (sCons (sCst (.int 24)) sNil)))) sNil))))
 sSkip)
 (sSeq (sIf (sTB (sBin oEq (sVar 2) (sCst (.int 5))))
 (sRet (sTup (sCons (sCall C i__law_draw (sCons (sVar 0) (sCons (sCst (.int 5)) sNil))) (sCons (sCst (.int 1)) sNil))))
 sSkip)
 (sRet (sTup (sCons (sBin (oAdd false) (sBin (oMul false) (sCall C i__law_draw (sCons (sVar 0) (sCons (sBin oPow (sCst (.int 10)) (sCst (.int 18))) sNil))) (sBin oPow (sCst (.int 10)) (sCst (.int 19)))) (sCall C i__law_draw (sCons (sVar 0) (sCons (sBin oPow (sCst (.int 10)) (sCst (.int 18))) sNil)))) (sCons (sVar 4) sNil))))))))))))
def fn__law_worth : Fn := ⟨i__law_worth, ("_law_worth", none), "_law_worth", "_law_worth", st__law_worth, ["pool", "way"], ["pool", "way", "kind", "step", "under"], .keep, sem__law_worth⟩
abbrev st__law_due : Stmt := top 27
def sem__law_due (C : Calls) : SemS :=
 (sSeq (sSet 2 (sBin oFdiv (sBin oIx (sVar 1) (sCst (.int 0))) (sBin oIx (sVar 1) (sCst (.int 1)))))
 (sSeq (sSet 3 (sLst true sNil))
 (sSeq (sFor (sItA oRng2G (sCons (sCallB oMax2 (sCons (sCst (.int 0)) (sCons (sBin oSub (sVar 2) (sCst (.int 2))) sNil))) (sCons (sBin (oAdd false) (sVar 2) (sCst (.int 4))) sNil))) (gN 4)
 (sSeq (sSet 5 (sOrV (sBin oEq (sVar 4) (sCst (.int 0))) (sBin oLe (sBin (oMul false) (sCall C i__law_mark (sCons (sVar 0) (sCons (sVar 4) sNil))) (sBin oIx (sVar 1) (sCst (.int 1)))) (sBin (oMul false) (sBin oIx (sVar 1) (sCst (.int 0))) (sBin oIx (sVar 0) (sCst (.int 1)))))))
 (sIf (sAndT (sTB (sVar 5)) (sTB (sBin oLe (sBin (oMul false) (sBin oIx (sVar 1) (sCst (.int 0))) (sBin oIx (sVar 0) (sCst (.int 1)))) (sBin (oMul false) (sCall C i__law_mark (sCons (sVar 0) (sCons (sBin (oAdd false) (sVar 4) (sCst (.int 1))) sNil))) (sBin oIx (sVar 1) (sCst (.int 1)))))))
 (sDrop (sApp (sVar 3) (sVar 4)))
 sSkip)))
 (sRet (sCallB oTuple (sCons (sVar 3) sNil))))))
def fn__law_due : Fn := ⟨i__law_due, ("_law_due", none), "_law_due", "_law_due", st__law_due, ["way", "worth"], ["way", "worth", "floor", "found", "many", "above"], .pure, sem__law_due⟩
abbrev st__law_refused : Stmt := top 28
def sem__law_refused (C : Calls) : SemS :=
 (sSeq (sTry exL (sDrop (sMeth C "Rule" "rounded" i_Rule_rounded (sVar 0) (sCons (sVar 1) sNil))) [⟨"InvalidFraction", exSub "InvalidFraction", (some 2), fun a dd c => (sRet (sCall C i__law_same (sCons (sXf a dd c "InvalidFraction" ["value"] 0 2) (sCons (sVar 1) sNil))))⟩])
 (sRet (sCst (.bl false))))
def fn__law_refused : Fn := ⟨i__law_refused, ("_law_refused", none), "_law_refused", "_law_refused", st__law_refused, ["held", "thing"], ["held", "thing", "e"], .pure, sem__law_refused⟩
abbrev st_law : Stmt := top 29
def sem_law (C : Calls) : SemS :=
 (sSeq (sSet 1 (sCall C i__law_pool (sCons (sVar 0) sNil)))
 (sSeq (sSet 2 (sCall C i__law_way (sCons (sVar 1) sNil)))
 (sSeq (sSet 3 (sNew C true "Rule" i_RuleU_initU (sCons (sBin oIx (sVar 2) (sCst (.int 0))) (sCons (sBin oIx (sVar 2) (sCst (.int 1))) sNil))))
 (sSeq (sFor (sItA oRng1 (sCons (sCst (.int 6)) sNil)) (gN 4)
 (sSeq (sSet 6 (sCall C i__law_worth (sCons (sVar 1) (sCons (sVar 2) sNil))))
 (sSeq (sSet 7 (sCall C i__law_lowest (sCons (sBin oIx (sVar 6) (sCst (.int 0))) (sCons (sBin oIx (sVar 6) (sCst (.int 1))) sNil))))
 (sSeq (sIf (sTB (sBin oEq (sVar 4) (sCst (.int 0))))
 (sSet 9 (sMethK C "Rule" "rounded" i_Rule_rounded 1 1 (fun us ws => perm [0, 1] (us ++ ws)) (sVar 3) sNil (sCons (sVar 7) sNil)))
 (sSet 9 (sMeth C "Rule" "rounded" i_Rule_rounded (sVar 3) (sCons (sVar 7) sNil))))
 (sSeq (sSet 8 (sCall C i__law_due (sCons (sVar 2) (sCons (sVar 7) sNil))))
 (sSeq (sIf (sNotT (sTB (sCall C i__law_same (sCons (sVar 9) (sCons (sVar 8) sNil)))))
 (sRet (sCst (.bl false)))
 sSkip)
 (sSeq (sIf (sTB (sChain oLe oLe (sCst (.int 1)) (sBin oIx (sVar 8) (sUn oNeg (sCst (.int 1)))) (sCst (.int 1000))))
 (sIf (sNotT (sTB (sCall C i__law_same (sCons (sMeth C "Rule" "mark" i_Rule_mark (sVar 3) (sCons (sBin oIx (sVar 8) (sUn oNeg (sCst (.int 1)))) sNil)) (sCons (sCall C i__law_lowest (sCons (sCall C i__law_mark (sCons (sVar 2) (sCons (sBin oIx (sVar 8) (sUn oNeg (sCst (.int 1)))) sNil))) (sCons (sBin oIx (sVar 2) (sCst (.int 1))) sNil))) sNil)))))
 (sRet (sCst (.bl false)))
 sSkip)
 sSkip)
 (sIf (sOrT (sNotT (sTB (sCall C i__law_refused (sCons (sVar 3) (sCons (sLst false (sCons (sBin oIx (sVar 7) (sCst (.int 0))) (sCons (sBin oIx (sVar 7) (sCst (.int 1))) sNil))) sNil))))) (sNotT (sTB (sCall C i__law_refused (sCons (sVar 3) (sCons (sTup (sCons (sBin (oMul false) (sCst (.int 2)) (sBin oIx (sVar 7) (sCst (.int 0)))) (sCons (sBin (oMul false) (sCst (.int 2)) (sBin oIx (sVar 7) (sCst (.int 1)))) sNil))) sNil))))))
 (sRet (sCst (.bl false)))
 sSkip))))))))
 (sSeq (sSet 5 (sLst false (sCons (sCst .non) (sCons (sCst (.int 3)) (sCons (sCst (.bl true)) (sCons (sCst (.str "1/2")) (sCons (sTup sNil) (sCons (sTup (sCons (sCst (.int 1)) sNil)) (sCons (sTup (sCons (sCst (.int 1)) (sCons (sCst (.int 2)) (sCons (sCst (.int 3)) sNil)))) (sCons (sTup (sCons (sCst (.int 1)) (sCons (sCst (.int 0)) sNil))) (sCons (sTup (sCons (sCst (.int 0)) (sCons (sCst (.int 0)) sNil))) (sCons (sTup (sCons (sCst (.int 0)) (sCons (sCst (.int 2)) sNil))) (sCons (sTup (sCons (sCst (.int 1)) (sCons (sUn oNeg (sCst (.int 2))) sNil))) (sCons (sTup (sCons (sUn oNeg (sCst (.int 1))) (sCons (sCst (.int 2)) sNil))) (sCons (sTup (sCons (sCst (.bl true)) (sCons (sCst (.int 1)) sNil))) (sCons (sTup (sCons (sCst (.int 1)) (sCons (sCst (.bl true)) sNil))) sNil))))))))))))))))
 (sSeq (sSet 5 (sBin (oAdd false) (sVar 5) (sLst false (sCons (sTup (sCons (sTup (sCons (sCst (.int 1)) (sCons (sCst (.int 2)) sNil))) (sCons (sCst (.int 1)) sNil))) (sCons (sTup (sCons (sCst (.int 1)) (sCons (sCst (.str "2")) sNil))) (sCons (sTup (sCons (sCst (.int 4)) (sCons (sCst (.int 6)) sNil))) (sCons (sTup (sCons (sCst .non) (sCons (sCst (.int 1)) sNil))) (sCons (sLst false (sCons (sTup (sCons (sCst (.int 1)) (sCons (sCst (.int 2)) sNil))) sNil)) sNil))))))))
 (sSeq (sFor (sItA oRng1 (sCons (sCst (.int 4)) sNil)) (gN 4)
 (sIf (sNotT (sTB (sCall C i__law_refused (sCons (sVar 3) (sCons (sBin oIx (sVar 5) (sCall C i__law_draw (sCons (sVar 1) (sCons (sCallB oLen (sCons (sVar 5) sNil)) sNil)))) sNil)))))
 (sRet (sCst (.bl false)))
 sSkip))
 (sRet (sCall C i__law_same (sCons (sFld "Rule" ["part"] 0 (sVar 3)) (sCons (sCall C i__law_lowest (sCons (sBin oIx (sVar 2) (sCst (.int 0))) (sCons (sBin oIx (sVar 2) (sCst (.int 1))) sNil))) sNil)))))))))))
def fn_law : Fn := ⟨i_law, ("law", none), "law", "law", st_law, ["script"], ["script", "pool", "way", "held", "turn", "things", "drawn", "worth", "due", "told"], .pure, sem_law⟩
def table : List Fn := [fn_is_integer, fn_is_from_to, fn_is_number, fn_is_fraction, fn_check_fraction, fn_reduced, fn_is_less, fn_RuleU_initU, fn_Rule_mark, fn_Rule_mark_of, fn_Rule_rounded, fn_Rule_may_be, fn__law_pool, fn__law_draw, fn__law_same, fn__law_way, fn__law_mark, fn__law_lowest, fn__law_worth, fn__law_due, fn__law_refused, fn_law]
abbrev T : Nat → Option Fn := tab table
def hots : List Nat := [i__law_same]
structure Nm (P : Program) (w : World) (K : PySem.W.Frag) (mg : Str → Option Value) (base : Heap) : Prop where
  c_MOST_BOTTOM : ∃ t, mg "MOST_BOTTOM" = some (.int 20 t)
  c_MOST_MARK : ∃ t, mg "MOST_MARK" = some (.int 1000 t)
  cl_Rule : Cls K (He.ga K "Rule")
  g_InvalidFraction : mg "InvalidFraction" = some (.ref (He.ga K "InvalidFraction"))
  g_InvalidNumber : mg "InvalidNumber" = some (.ref (He.ga K "InvalidNumber"))
  g_InvalidRule : mg "InvalidRule" = some (.ref (He.ga K "InvalidRule"))
  g_Rule : mg "Rule" = some (.ref (He.ga K "Rule"))
  g__law_draw : mg "_law_draw" = some (.ref (He.ga K "_law_draw"))
  g__law_due : mg "_law_due" = some (.ref (He.ga K "_law_due"))
  g__law_lowest : mg "_law_lowest" = some (.ref (He.ga K "_law_lowest"))
  g__law_mark : mg "_law_mark" = some (.ref (He.ga K "_law_mark"))
  g__law_pool : mg "_law_pool" = some (.ref (He.ga K "_law_pool"))
  g__law_refused : mg "_law_refused" = some (.ref (He.ga K "_law_refused"))
  g__law_same : mg "_law_same" = some (.ref (He.ga K "_law_same"))
  g__law_way : mg "_law_way" = some (.ref (He.ga K "_law_way"))
  g__law_worth : mg "_law_worth" = some (.ref (He.ga K "_law_worth"))
  g_check_fraction : mg "check_fraction" = some (.ref (He.ga K "check_fraction"))
  g_is_fraction : mg "is_fraction" = some (.ref (He.ga K "is_fraction"))
  g_is_from_to : mg "is_from_to" = some (.ref (He.ga K "is_from_to"))
  g_is_integer : mg "is_integer" = some (.ref (He.ga K "is_integer"))
  g_is_less : mg "is_less" = some (.ref (He.ga K "is_less"))
  g_is_number : mg "is_number" = some (.ref (He.ga K "is_number"))
  g_reduced : mg "reduced" = some (.ref (He.ga K "reduced"))
  mk_Rule : Mk K (He.ga K "Rule") (He.ma K (He.ga K "Rule") "__init__")
  mt_Rule_mark : Meth K (He.ga K "Rule") "mark" (He.ma K (He.ga K "Rule") "mark")
  mt_Rule_mark_of : Meth K (He.ga K "Rule") "mark_of" (He.ma K (He.ga K "Rule") "mark_of")
  mt_Rule_may_be : Meth K (He.ga K "Rule") "may_be" (He.ma K (He.ga K "Rule") "may_be")
  mt_Rule_rounded : Meth K (He.ga K "Rule") "rounded" (He.ma K (He.ga K "Rule") "rounded")
  n_abs : mg "abs" = none
  n_bool : mg "bool" = none
  n_gcd : mg "gcd" = some (.builtin "math.gcd")
  n_int : mg "int" = none
  n_isinstance : mg "isinstance" = none
  n_len : mg "len" = none
  n_list : mg "list" = none
  n_max : mg "max" = none
  n_range : mg "range" = none
  n_str : mg "str" = none
  n_tuple : mg "tuple" = none
  na_Rule_part : NoAttr K (He.ga K "Rule") "part"
  xc_InvalidFraction : ExC P w K mg base "InvalidFraction" ["value"]
  xc_InvalidNumber : ExC P w K mg base "InvalidNumber" ["value"]
  xc_InvalidRule : ExC P w K mg base "InvalidRule" ["part"]
  xm_InvalidFraction : ∀ c ∈ exL, PySem.W.exmOne K (.ref (He.ga K c)) (.ref (He.ga K "InvalidFraction")) = some (exSub "InvalidFraction" c)
theorem kw_Rule_rounded_0 : KwOk fn_Rule_rounded 1 ["value"] (fun us ws => perm [0, 1] (us ++ ws)) :=
  kwPerm fun _ _ _ _ _ _ us ws h1 h2 => match us, ws, h1, h2 with | [a0], [b0], _, _ => rfl
theorem sc_is_integer : FnScope fn_is_integer.N fn_is_integer.ps (defScope fn_is_integer.st) := ⟨rfl, rfl, rfl, by decide +kernel, rfl, by decide +kernel, by decide +kernel⟩
theorem bd_is_integer : BindOk fn_is_integer := fun _ _ _ _ _ _ us hl => match us, hl with | [_], _ => rfl
theorem sc_is_from_to : FnScope fn_is_from_to.N fn_is_from_to.ps (defScope fn_is_from_to.st) := ⟨rfl, rfl, rfl, by decide +kernel, rfl, by decide +kernel, by decide +kernel⟩
theorem bd_is_from_to : BindOk fn_is_from_to := fun _ _ _ _ _ _ us hl => match us, hl with | [_, _, _], _ => rfl
theorem sc_is_number : FnScope fn_is_number.N fn_is_number.ps (defScope fn_is_number.st) := ⟨rfl, rfl, rfl, by decide +kernel, rfl, by decide +kernel, by decide +kernel⟩
theorem bd_is_number : BindOk fn_is_number := fun _ _ _ _ _ _ us hl => match us, hl with | [_], _ => rfl
theorem sc_is_fraction : FnScope fn_is_fraction.N fn_is_fraction.ps (defScope fn_is_fraction.st) := ⟨rfl, rfl, rfl, by decide +kernel, rfl, by decide +kernel, by decide +kernel⟩
theorem bd_is_fraction : BindOk fn_is_fraction := fun _ _ _ _ _ _ us hl => match us, hl with | [_], _ => rfl
theorem sc_check_fraction : FnScope fn_check_fraction.N fn_check_fraction.ps (defScope fn_check_fraction.st) := ⟨rfl, rfl, rfl, by decide +kernel, rfl, by decide +kernel, by decide +kernel⟩
theorem bd_check_fraction : BindOk fn_check_fraction := fun _ _ _ _ _ _ us hl => match us, hl with | [_], _ => rfl
theorem sc_reduced : FnScope fn_reduced.N fn_reduced.ps (defScope fn_reduced.st) := ⟨rfl, rfl, rfl, by decide +kernel, rfl, by decide +kernel, by decide +kernel⟩
theorem bd_reduced : BindOk fn_reduced := fun _ _ _ _ _ _ us hl => match us, hl with | [_, _], _ => rfl
theorem sc_is_less : FnScope fn_is_less.N fn_is_less.ps (defScope fn_is_less.st) := ⟨rfl, rfl, rfl, by decide +kernel, rfl, by decide +kernel, by decide +kernel⟩
theorem bd_is_less : BindOk fn_is_less := fun _ _ _ _ _ _ us hl => match us, hl with | [_, _], _ => rfl
theorem sc_RuleU_initU : FnScope fn_RuleU_initU.N fn_RuleU_initU.ps (defScope fn_RuleU_initU.st) := ⟨rfl, rfl, rfl, by decide +kernel, rfl, by decide +kernel, by decide +kernel⟩
theorem bd_RuleU_initU : BindOk fn_RuleU_initU := fun _ _ _ _ _ _ us hl => match us, hl with | [_, _, _], _ => rfl
theorem sc_Rule_mark : FnScope fn_Rule_mark.N fn_Rule_mark.ps (defScope fn_Rule_mark.st) := ⟨rfl, rfl, rfl, by decide +kernel, rfl, by decide +kernel, by decide +kernel⟩
theorem bd_Rule_mark : BindOk fn_Rule_mark := fun _ _ _ _ _ _ us hl => match us, hl with | [_, _], _ => rfl
theorem sc_Rule_mark_of : FnScope fn_Rule_mark_of.N fn_Rule_mark_of.ps (defScope fn_Rule_mark_of.st) := ⟨rfl, rfl, rfl, by decide +kernel, rfl, by decide +kernel, by decide +kernel⟩
theorem bd_Rule_mark_of : BindOk fn_Rule_mark_of := fun _ _ _ _ _ _ us hl => match us, hl with | [_, _], _ => rfl
theorem sc_Rule_rounded : FnScope fn_Rule_rounded.N fn_Rule_rounded.ps (defScope fn_Rule_rounded.st) := ⟨rfl, rfl, rfl, by decide +kernel, rfl, by decide +kernel, by decide +kernel⟩
theorem bd_Rule_rounded : BindOk fn_Rule_rounded := fun _ _ _ _ _ _ us hl => match us, hl with | [_, _], _ => rfl
theorem sc_Rule_may_be : FnScope fn_Rule_may_be.N fn_Rule_may_be.ps (defScope fn_Rule_may_be.st) := ⟨rfl, rfl, rfl, by decide +kernel, rfl, by decide +kernel, by decide +kernel⟩
theorem bd_Rule_may_be : BindOk fn_Rule_may_be := fun _ _ _ _ _ _ us hl => match us, hl with | [_, _, _], _ => rfl
theorem sc__law_pool : FnScope fn__law_pool.N fn__law_pool.ps (defScope fn__law_pool.st) := ⟨rfl, rfl, rfl, by decide +kernel, rfl, by decide +kernel, by decide +kernel⟩
theorem bd__law_pool : BindOk fn__law_pool := fun _ _ _ _ _ _ us hl => match us, hl with | [_], _ => rfl
theorem sc__law_draw : FnScope fn__law_draw.N fn__law_draw.ps (defScope fn__law_draw.st) := ⟨rfl, rfl, rfl, by decide +kernel, rfl, by decide +kernel, by decide +kernel⟩
theorem bd__law_draw : BindOk fn__law_draw := fun _ _ _ _ _ _ us hl => match us, hl with | [_, _], _ => rfl
theorem sc__law_same : FnScope fn__law_same.N fn__law_same.ps (defScope fn__law_same.st) := ⟨rfl, rfl, rfl, by decide +kernel, rfl, by decide +kernel, by decide +kernel⟩
theorem bd__law_same : BindOk fn__law_same := fun _ _ _ _ _ _ us hl => match us, hl with | [_, _], _ => rfl
theorem sc__law_way : FnScope fn__law_way.N fn__law_way.ps (defScope fn__law_way.st) := ⟨rfl, rfl, rfl, by decide +kernel, rfl, by decide +kernel, by decide +kernel⟩
theorem bd__law_way : BindOk fn__law_way := fun _ _ _ _ _ _ us hl => match us, hl with | [_], _ => rfl
theorem sc__law_mark : FnScope fn__law_mark.N fn__law_mark.ps (defScope fn__law_mark.st) := ⟨rfl, rfl, rfl, by decide +kernel, rfl, by decide +kernel, by decide +kernel⟩
theorem bd__law_mark : BindOk fn__law_mark := fun _ _ _ _ _ _ us hl => match us, hl with | [_, _], _ => rfl
theorem sc__law_lowest : FnScope fn__law_lowest.N fn__law_lowest.ps (defScope fn__law_lowest.st) := ⟨rfl, rfl, rfl, by decide +kernel, rfl, by decide +kernel, by decide +kernel⟩
theorem bd__law_lowest : BindOk fn__law_lowest := fun _ _ _ _ _ _ us hl => match us, hl with | [_, _], _ => rfl
theorem sc__law_worth : FnScope fn__law_worth.N fn__law_worth.ps (defScope fn__law_worth.st) := ⟨rfl, rfl, rfl, by decide +kernel, rfl, by decide +kernel, by decide +kernel⟩
theorem bd__law_worth : BindOk fn__law_worth := fun _ _ _ _ _ _ us hl => match us, hl with | [_, _], _ => rfl
theorem sc__law_due : FnScope fn__law_due.N fn__law_due.ps (defScope fn__law_due.st) := ⟨rfl, rfl, rfl, by decide +kernel, rfl, by decide +kernel, by decide +kernel⟩
theorem bd__law_due : BindOk fn__law_due := fun _ _ _ _ _ _ us hl => match us, hl with | [_, _], _ => rfl
theorem sc__law_refused : FnScope fn__law_refused.N fn__law_refused.ps (defScope fn__law_refused.st) := ⟨rfl, rfl, rfl, by decide +kernel, rfl, by decide +kernel, by decide +kernel⟩
theorem bd__law_refused : BindOk fn__law_refused := fun _ _ _ _ _ _ us hl => match us, hl with | [_, _], _ => rfl
theorem sc_law : FnScope fn_law.N fn_law.ps (defScope fn_law.st) := ⟨rfl, rfl, rfl, by decide +kernel, rfl, by decide +kernel, by decide +kernel⟩
theorem bd_law : BindOk fn_law := fun _ _ _ _ _ _ us hl => match us, hl with | [_], _ => rfl
section
variable {P : Program} {w : World} {K : PySem.W.Frag} {mg : Str → Option Value} {base : Heap} {cdv : Value} {A : Around} {outer : List PySem.Env} {s : Shared} {H : Hp} {E : XK} {k : Nat}
theorem der_is_integer (N : Nm P w K mg base) (cx : CxF (cxF P w K mg base fn_is_integer cdv A outer s H E) T hots k) : SSs (cxF P w K mg base fn_is_integer cdv A outer s H E) (wE E) (sem_is_integer (callN T k)) (defBody st_is_integer) := by
  have tk : L2N.Takes (cxF P w K mg base fn_is_integer cdv A outer s H E) (wE E) := L2N.takes_of rfl rfl rfl rfl
  have hp : PassesOwn (model P w) (cxF P w K mg base fn_is_integer cdv A outer s H E).A (cxF P w K mg base fn_is_integer cdv A outer s H E).env (cxF P w K mg base fn_is_integer cdv A outer s H E).xe := passes_of rfl
  have hN : (cxF P w K mg base fn_is_integer cdv A outer s H E).N.Nodup := sc_is_integer.nd
  have hu := cx.hu
  have hroom : Room 2 (cxF P w K mg base fn_is_integer cdv A outer s H E).A := cx.room.mono (by omega)
  have n_bool := N.n_bool
  have n_int := N.n_int
  have n_isinstance := N.n_isinstance
  exact (ss_one (ss_ret (se_and (se_isi .int rfl n_isinstance rfl n_int boot_int (se_var 0)) (se_one (se_not (se_isi .bl rfl n_isinstance rfl n_bool boot_bool (se_var 0)))))))
theorem der_is_from_to (N : Nm P w K mg base) (cx : CxF (cxF P w K mg base fn_is_from_to cdv A outer s H E) T hots k) : SSs (cxF P w K mg base fn_is_from_to cdv A outer s H E) (wE E) (sem_is_from_to (callN T k)) (defBody st_is_from_to) := by
  have tk : L2N.Takes (cxF P w K mg base fn_is_from_to cdv A outer s H E) (wE E) := L2N.takes_of rfl rfl rfl rfl
  have hp : PassesOwn (model P w) (cxF P w K mg base fn_is_from_to cdv A outer s H E).A (cxF P w K mg base fn_is_from_to cdv A outer s H E).env (cxF P w K mg base fn_is_from_to cdv A outer s H E).xe := passes_of rfl
  have hN : (cxF P w K mg base fn_is_from_to cdv A outer s H E).N.Nodup := sc_is_from_to.nd
  have hu := cx.hu
  have hroom : Room 2 (cxF P w K mg base fn_is_from_to cdv A outer s H E).A := cx.room.mono (by omega)
  have g_is_integer := N.g_is_integer
  exact (ss_one (ss_ret (se_and (se_call cx tk rfl rfl rfl g_is_integer (sa_cons (se_var 0) sa_nil)) (se_one (se_chain cs_le cs_le (se_var 1) (se_var 0) (se_var 2))))))
theorem der_is_number (N : Nm P w K mg base) (cx : CxF (cxF P w K mg base fn_is_number cdv A outer s H E) T hots k) : SSs (cxF P w K mg base fn_is_number cdv A outer s H E) (wE E) (sem_is_number (callN T k)) (defBody st_is_number) := by
  have tk : L2N.Takes (cxF P w K mg base fn_is_number cdv A outer s H E) (wE E) := L2N.takes_of rfl rfl rfl rfl
  have hp : PassesOwn (model P w) (cxF P w K mg base fn_is_number cdv A outer s H E).A (cxF P w K mg base fn_is_number cdv A outer s H E).env (cxF P w K mg base fn_is_number cdv A outer s H E).xe := passes_of rfl
  have hN : (cxF P w K mg base fn_is_number cdv A outer s H E).N.Nodup := sc_is_number.nd
  have hu := cx.hu
  have hroom : Room 2 (cxF P w K mg base fn_is_number cdv A outer s H E).A := cx.room.mono (by omega)
  have g_is_integer := N.g_is_integer
  exact (ss_one (ss_ret (se_and (se_call cx tk rfl rfl rfl g_is_integer (sa_cons (se_var 0) sa_nil)) (se_one (se_cmpS cs_ge (se_var 0) se_int)))))
theorem der_is_fraction (N : Nm P w K mg base) (cx : CxF (cxF P w K mg base fn_is_fraction cdv A outer s H E) T hots k) : SSs (cxF P w K mg base fn_is_fraction cdv A outer s H E) (wE E) (sem_is_fraction (callN T k)) (defBody st_is_fraction) := by
  have tk : L2N.Takes (cxF P w K mg base fn_is_fraction cdv A outer s H E) (wE E) := L2N.takes_of rfl rfl rfl rfl
  have hp : PassesOwn (model P w) (cxF P w K mg base fn_is_fraction cdv A outer s H E).A (cxF P w K mg base fn_is_fraction cdv A outer s H E).env (cxF P w K mg base fn_is_fraction cdv A outer s H E).xe := passes_of rfl
  have hN : (cxF P w K mg base fn_is_fraction cdv A outer s H E).N.Nodup := sc_is_fraction.nd
  have hu := cx.hu
  have hroom : Room 2 (cxF P w K mg base fn_is_fraction cdv A outer s H E).A := cx.room.mono (by omega)
  have g_is_integer := N.g_is_integer
  have g_is_number := N.g_is_number
  have n_gcd := N.n_gcd
  have n_isinstance := N.n_isinstance
  have n_len := N.n_len
  have n_tuple := N.n_tuple
  exact (ss_cons (ss_if (SW.st (sw_or (st_not (st_val (se_isi .tup rfl n_isinstance rfl n_tuple boot_tuple (se_var 0)))) (sw_or1 (st_cmpS (cs_ne hu) (se_len rfl n_len (sa_cons (se_var 0) sa_nil)) se_int))))
 (ss_one (ss_ret se_bl))
 ss_nil)
 (ss_cons (ss_asg (ws := [1, 2]) (se_var 0) (sg_tup rfl (sgs_cons (sg_name hN rfl (by first | exact Or.inl rfl | exact Or.inr (Or.inl rfl) | exact Or.inr rfl)) (sgs_cons (sg_name hN rfl (by first | exact Or.inl rfl | exact Or.inr (Or.inl rfl) | exact Or.inr rfl)) sgs_nil))))
 (ss_cons (ss_if (SW.st (sw_or (st_not (st_val (se_call cx tk rfl rfl rfl g_is_number (sa_cons (se_var 1) sa_nil)))) (sw_or (st_not (st_val (se_call cx tk rfl rfl rfl g_is_integer (sa_cons (se_var 2) sa_nil)))) (sw_or1 (st_cmpS cs_lt (se_var 2) se_int)))))
 (ss_one (ss_ret se_bl))
 ss_nil)
 (ss_one (ss_ret (se_cmpS (cs_eq hu) (se_gcd rfl n_gcd (sa_cons (se_var 1) (sa_cons (se_var 2) sa_nil))) se_int))))))
theorem der_check_fraction (N : Nm P w K mg base) (cx : CxF (cxF P w K mg base fn_check_fraction cdv A outer s H E) T hots k) : SSs (cxF P w K mg base fn_check_fraction cdv A outer s H E) (wE E) (sem_check_fraction (callN T k)) (defBody st_check_fraction) := by
  have tk : L2N.Takes (cxF P w K mg base fn_check_fraction cdv A outer s H E) (wE E) := L2N.takes_of rfl rfl rfl rfl
  have hp : PassesOwn (model P w) (cxF P w K mg base fn_check_fraction cdv A outer s H E).A (cxF P w K mg base fn_check_fraction cdv A outer s H E).env (cxF P w K mg base fn_check_fraction cdv A outer s H E).xe := passes_of rfl
  have hN : (cxF P w K mg base fn_check_fraction cdv A outer s H E).N.Nodup := sc_check_fraction.nd
  have hu := cx.hu
  have hroom : Room 2 (cxF P w K mg base fn_check_fraction cdv A outer s H E).A := cx.room.mono (by omega)
  have g_InvalidFraction := N.g_InvalidFraction
  have g_is_fraction := N.g_is_fraction
  have xc_InvalidFraction := N.xc_InvalidFraction
  exact (ss_one (ss_if (st_not (st_val (se_call cx tk rfl rfl rfl g_is_fraction (sa_cons (se_var 0) sa_nil))))
 (ss_one (ss_raise rfl tk hroom (by decide) xc_InvalidFraction rfl g_InvalidFraction (sa_cons (se_var 0) sa_nil)))
 ss_nil))
theorem der_reduced (N : Nm P w K mg base) (cx : CxF (cxF P w K mg base fn_reduced cdv A outer s H E) T hots k) : SSs (cxF P w K mg base fn_reduced cdv A outer s H E) (wE E) (sem_reduced (callN T k)) (defBody st_reduced) := by
  have tk : L2N.Takes (cxF P w K mg base fn_reduced cdv A outer s H E) (wE E) := L2N.takes_of rfl rfl rfl rfl
  have hp : PassesOwn (model P w) (cxF P w K mg base fn_reduced cdv A outer s H E).A (cxF P w K mg base fn_reduced cdv A outer s H E).env (cxF P w K mg base fn_reduced cdv A outer s H E).xe := passes_of rfl
  have hN : (cxF P w K mg base fn_reduced cdv A outer s H E).N.Nodup := sc_reduced.nd
  have hu := cx.hu
  have hroom : Room 2 (cxF P w K mg base fn_reduced cdv A outer s H E).A := cx.room.mono (by omega)
  have n_gcd := N.n_gcd
  exact (ss_cons (ss_set hN rfl (by first | exact Or.inl rfl | exact Or.inr (Or.inl rfl) | exact Or.inr rfl) (se_gcd rfl n_gcd (sa_cons (se_var 0) (sa_cons (se_var 1) sa_nil))))
 (ss_one (ss_ret (se_tup (sa_cons (se_fdiv (se_var 0) (se_var 2)) (sa_cons (se_fdiv (se_var 1) (se_var 2)) sa_nil))))))
theorem der_is_less (N : Nm P w K mg base) (cx : CxF (cxF P w K mg base fn_is_less cdv A outer s H E) T hots k) : SSs (cxF P w K mg base fn_is_less cdv A outer s H E) (wE E) (sem_is_less (callN T k)) (defBody st_is_less) := by
  have tk : L2N.Takes (cxF P w K mg base fn_is_less cdv A outer s H E) (wE E) := L2N.takes_of rfl rfl rfl rfl
  have hp : PassesOwn (model P w) (cxF P w K mg base fn_is_less cdv A outer s H E).A (cxF P w K mg base fn_is_less cdv A outer s H E).env (cxF P w K mg base fn_is_less cdv A outer s H E).xe := passes_of rfl
  have hN : (cxF P w K mg base fn_is_less cdv A outer s H E).N.Nodup := sc_is_less.nd
  have hu := cx.hu
  have hroom : Room 2 (cxF P w K mg base fn_is_less cdv A outer s H E).A := cx.room.mono (by omega)
  exact (ss_one (ss_ret (se_cmpS cs_lt (se_mul false (se_idx (se_var 0) se_int) (se_idx (se_var 1) se_int)) (se_mul false (se_idx (se_var 1) se_int) (se_idx (se_var 0) se_int)))))
theorem der_RuleU_initU (N : Nm P w K mg base) (cx : CxF (cxF P w K mg base fn_RuleU_initU cdv A outer s H E) T hots k) : SSs (cxF P w K mg base fn_RuleU_initU cdv A outer s H E) (wE E) (sem_RuleU_initU (callN T k)) (defBody st_RuleU_initU) := by
  have tk : L2N.Takes (cxF P w K mg base fn_RuleU_initU cdv A outer s H E) (wE E) := L2N.takes_of rfl rfl rfl rfl
  have hp : PassesOwn (model P w) (cxF P w K mg base fn_RuleU_initU cdv A outer s H E).A (cxF P w K mg base fn_RuleU_initU cdv A outer s H E).env (cxF P w K mg base fn_RuleU_initU cdv A outer s H E).xe := passes_of rfl
  have hN : (cxF P w K mg base fn_RuleU_initU cdv A outer s H E).N.Nodup := sc_RuleU_initU.nd
  have hu := cx.hu
  have hroom : Room 2 (cxF P w K mg base fn_RuleU_initU cdv A outer s H E).A := cx.room.mono (by omega)
  obtain ⟨t_c_MOST_BOTTOM, c_MOST_BOTTOM⟩ := N.c_MOST_BOTTOM
  have cl_Rule := N.cl_Rule
  have g_InvalidRule := N.g_InvalidRule
  have g_is_from_to := N.g_is_from_to
  have g_reduced := N.g_reduced
  have na_Rule_part := N.na_Rule_part
  have xc_InvalidRule := N.xc_InvalidRule
  exact (ss_cons (ss_if (st_not (st_val (se_call cx tk rfl rfl rfl g_is_from_to (sa_cons (se_var 2) (sa_cons se_int (sa_cons (se_glob (d := .int 20) (v := .int 20) rfl c_MOST_BOTTOM ⟨_, rfl⟩ (fun _ _ => rfl)) sa_nil))))))
 (ss_one (ss_raise rfl tk hroom (by decide) xc_InvalidRule rfl g_InvalidRule (sa_cons se_str sa_nil)))
 ss_nil)
 (ss_cons (ss_if (st_not (st_val (se_call cx tk rfl rfl rfl g_is_from_to (sa_cons (se_var 1) (sa_cons se_int (sa_cons (se_var 2) sa_nil))))))
 (ss_one (ss_raise rfl tk hroom (by decide) xc_InvalidRule rfl g_InvalidRule (sa_cons se_str sa_nil)))
 ss_nil)
 (ss_one (ss_putNew (L := []) cl_Rule na_Rule_part (by decide) (by decide) (se_var 0) (se_call cx tk rfl rfl rfl g_reduced (sa_cons (se_var 1) (sa_cons (se_var 2) sa_nil)))))))
theorem der_Rule_mark (N : Nm P w K mg base) (cx : CxF (cxF P w K mg base fn_Rule_mark cdv A outer s H E) T hots k) : SSs (cxF P w K mg base fn_Rule_mark cdv A outer s H E) (wE E) (sem_Rule_mark (callN T k)) (defBody st_Rule_mark) := by
  have tk : L2N.Takes (cxF P w K mg base fn_Rule_mark cdv A outer s H E) (wE E) := L2N.takes_of rfl rfl rfl rfl
  have hp : PassesOwn (model P w) (cxF P w K mg base fn_Rule_mark cdv A outer s H E).A (cxF P w K mg base fn_Rule_mark cdv A outer s H E).env (cxF P w K mg base fn_Rule_mark cdv A outer s H E).xe := passes_of rfl
  have hN : (cxF P w K mg base fn_Rule_mark cdv A outer s H E).N.Nodup := sc_Rule_mark.nd
  have hu := cx.hu
  have hroom : Room 2 (cxF P w K mg base fn_Rule_mark cdv A outer s H E).A := cx.room.mono (by omega)
  obtain ⟨t_c_MOST_MARK, c_MOST_MARK⟩ := N.c_MOST_MARK
  have cl_Rule := N.cl_Rule
  have g_InvalidNumber := N.g_InvalidNumber
  have g_is_from_to := N.g_is_from_to
  have mt_Rule_mark_of := N.mt_Rule_mark_of
  have xc_InvalidNumber := N.xc_InvalidNumber
  exact (ss_cons (ss_if (st_not (st_val (se_call cx tk rfl rfl rfl g_is_from_to (sa_cons (se_var 1) (sa_cons se_int (sa_cons (se_glob (d := .int 1000) (v := .int 1000) rfl c_MOST_MARK ⟨_, rfl⟩ (fun _ _ => rfl)) sa_nil))))))
 (ss_one (ss_raise rfl tk hroom (by decide) xc_InvalidNumber rfl g_InvalidNumber (sa_cons (se_var 1) sa_nil)))
 ss_nil)
 (ss_one (ss_ret (se_meth cx tk rfl rfl cl_Rule mt_Rule_mark_of (se_var 0) (sa_cons (se_var 1) sa_nil)))))
theorem der_Rule_mark_of (N : Nm P w K mg base) (cx : CxF (cxF P w K mg base fn_Rule_mark_of cdv A outer s H E) T hots k) : SSs (cxF P w K mg base fn_Rule_mark_of cdv A outer s H E) (wE E) (sem_Rule_mark_of (callN T k)) (defBody st_Rule_mark_of) := by
  have tk : L2N.Takes (cxF P w K mg base fn_Rule_mark_of cdv A outer s H E) (wE E) := L2N.takes_of rfl rfl rfl rfl
  have hp : PassesOwn (model P w) (cxF P w K mg base fn_Rule_mark_of cdv A outer s H E).A (cxF P w K mg base fn_Rule_mark_of cdv A outer s H E).env (cxF P w K mg base fn_Rule_mark_of cdv A outer s H E).xe := passes_of rfl
  have hN : (cxF P w K mg base fn_Rule_mark_of cdv A outer s H E).N.Nodup := sc_Rule_mark_of.nd
  have hu := cx.hu
  have hroom : Room 2 (cxF P w K mg base fn_Rule_mark_of cdv A outer s H E).A := cx.room.mono (by omega)
  have cl_Rule := N.cl_Rule
  have g_reduced := N.g_reduced
  have na_Rule_part := N.na_Rule_part
  exact (ss_cons (ss_asg (ws := [2, 3]) (se_fld (L := ["part"]) (j := 0) cl_Rule na_Rule_part rfl (by decide) (se_var 0)) (sg_tup rfl (sgs_cons (sg_name hN rfl (by first | exact Or.inl rfl | exact Or.inr (Or.inl rfl) | exact Or.inr rfl)) (sgs_cons (sg_name hN rfl (by first | exact Or.inl rfl | exact Or.inr (Or.inl rfl) | exact Or.inr rfl)) sgs_nil))))
 (ss_one (ss_ret (se_call cx tk rfl rfl rfl g_reduced (sa_cons (se_add false (se_mul false (se_sub (se_var 1) se_int) (se_var 3)) (se_var 2)) (sa_cons (se_var 3) sa_nil))))))
theorem der_Rule_rounded (N : Nm P w K mg base) (cx : CxF (cxF P w K mg base fn_Rule_rounded cdv A outer s H E) T hots k) : SSs (cxF P w K mg base fn_Rule_rounded cdv A outer s H E) (wE E) (sem_Rule_rounded (callN T k)) (defBody st_Rule_rounded) := by
  have tk : L2N.Takes (cxF P w K mg base fn_Rule_rounded cdv A outer s H E) (wE E) := L2N.takes_of rfl rfl rfl rfl
  have hp : PassesOwn (model P w) (cxF P w K mg base fn_Rule_rounded cdv A outer s H E).A (cxF P w K mg base fn_Rule_rounded cdv A outer s H E).env (cxF P w K mg base fn_Rule_rounded cdv A outer s H E).xe := passes_of rfl
  have hN : (cxF P w K mg base fn_Rule_rounded cdv A outer s H E).N.Nodup := sc_Rule_rounded.nd
  have hu := cx.hu
  have hroom : Room 2 (cxF P w K mg base fn_Rule_rounded cdv A outer s H E).A := cx.room.mono (by omega)
  have cl_Rule := N.cl_Rule
  have g_check_fraction := N.g_check_fraction
  have mt_Rule_may_be := N.mt_Rule_may_be
  have n_max := N.n_max
  have n_range := N.n_range
  have n_tuple := N.n_tuple
  exact (ss_cons (ss_expr (se_call cx tk rfl rfl rfl g_check_fraction (sa_cons (se_var 1) sa_nil)))
 (ss_cons (ss_set hN rfl (by first | exact Or.inl rfl | exact Or.inr (Or.inl rfl) | exact Or.inr rfl) (se_fdiv (se_idx (se_var 1) se_int) (se_idx (se_var 1) se_int)))
 (ss_cons (ss_set hN rfl (by first | exact Or.inl rfl | exact Or.inr (Or.inl rfl) | exact Or.inr rfl) (se_lst true sa_nil))
 (ss_cons (ss_for (ws := [4]) hp rfl (si_range2G rfl n_range (sa_cons (se_max2 rfl rfl n_max (sa_cons se_int (sa_cons (se_sub (se_var 2) se_int) sa_nil))) (sa_cons (se_add false (se_var 2) se_int) sa_nil))) (sg_name hN rfl (by first | exact Or.inl rfl | exact Or.inr (Or.inl rfl) | exact Or.inr rfl))
 (ss_one (ss_if (st_val (se_meth cx tk rfl rfl cl_Rule mt_Rule_may_be (se_var 0) (sa_cons (se_var 1) (sa_cons (se_var 4) sa_nil))))
 (ss_one (ss_expr (se_append (se_var 3) (se_var 4))))
 ss_nil)))
 (ss_one (ss_ret (se_tuple rfl n_tuple (sa_cons (se_var 3) sa_nil))))))))
theorem der_Rule_may_be (N : Nm P w K mg base) (cx : CxF (cxF P w K mg base fn_Rule_may_be cdv A outer s H E) T hots k) : SSs (cxF P w K mg base fn_Rule_may_be cdv A outer s H E) (wE E) (sem_Rule_may_be (callN T k)) (defBody st_Rule_may_be) := by
  have tk : L2N.Takes (cxF P w K mg base fn_Rule_may_be cdv A outer s H E) (wE E) := L2N.takes_of rfl rfl rfl rfl
  have hp : PassesOwn (model P w) (cxF P w K mg base fn_Rule_may_be cdv A outer s H E).A (cxF P w K mg base fn_Rule_may_be cdv A outer s H E).env (cxF P w K mg base fn_Rule_may_be cdv A outer s H E).xe := passes_of rfl
  have hN : (cxF P w K mg base fn_Rule_may_be cdv A outer s H E).N.Nodup := sc_Rule_may_be.nd
  have hu := cx.hu
  have hroom : Room 2 (cxF P w K mg base fn_Rule_may_be cdv A outer s H E).A := cx.room.mono (by omega)
  have cl_Rule := N.cl_Rule
  have g_is_less := N.g_is_less
  have mt_Rule_mark_of := N.mt_Rule_mark_of
  exact (ss_cons (ss_if (SW.st (sw_and (st_cmpS cs_gt (se_var 2) se_int) (sw_and1 (st_val (se_call cx tk rfl rfl rfl g_is_less (sa_cons (se_var 1) (sa_cons (se_meth cx tk rfl rfl cl_Rule mt_Rule_mark_of (se_var 0) (sa_cons (se_var 2) sa_nil)) sa_nil)))))))
 (ss_one (ss_ret se_bl))
 ss_nil)
 (ss_one (ss_ret (se_not (se_call cx tk rfl rfl rfl g_is_less (sa_cons (se_meth cx tk rfl rfl cl_Rule mt_Rule_mark_of (se_var 0) (sa_cons (se_add false (se_var 2) se_int) sa_nil)) (sa_cons (se_var 1) sa_nil)))))))
theorem der__law_pool (N : Nm P w K mg base) (cx : CxF (cxF P w K mg base fn__law_pool cdv A outer s H E) T hots k) : SSs (cxF P w K mg base fn__law_pool cdv A outer s H E) (wE E) (sem__law_pool (callN T k)) (defBody st__law_pool) := by
  have tk : L2N.Takes (cxF P w K mg base fn__law_pool cdv A outer s H E) (wE E) := L2N.takes_of rfl rfl rfl rfl
  have hp : PassesOwn (model P w) (cxF P w K mg base fn__law_pool cdv A outer s H E).A (cxF P w K mg base fn__law_pool cdv A outer s H E).env (cxF P w K mg base fn__law_pool cdv A outer s H E).xe := passes_of rfl
  have hN : (cxF P w K mg base fn__law_pool cdv A outer s H E).N.Nodup := sc__law_pool.nd
  have hu := cx.hu
  have hroom : Room 2 (cxF P w K mg base fn__law_pool cdv A outer s H E).A := cx.room.mono (by omega)
  have n_int := N.n_int
  have n_len := N.n_len
  exact (ss_cons (ss_setLc false (own := [("cell", 3)]) rfl hN rfl rfl rfl (si_seq (se_slice false (se_var 0) so_none (so_some se_int))) (blkOk_by (by first | (change blkC fn__law_pool.N (defScope fn__law_pool.st) _ _ = true; decide +kernel) | rfl)) (fun _ _ _ _ _ => (sg_name hN rfl (by first | exact Or.inl rfl | exact Or.inr (Or.inl rfl) | exact Or.inr rfl))) (fun _ _ _ _ _ => st_nil) (fun _ _ _ _ _ => (se_intC rfl n_int (sa_cons (se_var 3) sa_nil))))
 (ss_cons (ss_set hN rfl (by first | exact Or.inl rfl | exact Or.inr (Or.inl rfl) | exact Or.inr rfl) (se_add false se_int (se_len rfl n_len (sa_cons (se_var 1) sa_nil))))
 (ss_cons (ss_for (ws := [3]) hp rfl (si_seq (se_var 1)) (sg_name hN rfl (by first | exact Or.inl rfl | exact Or.inr (Or.inl rfl) | exact Or.inr rfl))
 (ss_one (ss_set hN rfl (by first | exact Or.inl rfl | exact Or.inr (Or.inl rfl) | exact Or.inr rfl) (se_mod (se_add false (se_add false (se_mul false (se_var 2) (se_var 2)) (se_var 3)) se_int) se_int))))
 (ss_one (ss_ret (se_lst true (sa_cons (se_var 1) (sa_cons se_int (sa_cons se_int (sa_cons (se_var 2) sa_nil))))))))))
theorem der__law_draw (N : Nm P w K mg base) (cx : CxF (cxF P w K mg base fn__law_draw cdv A outer s H E) T hots k) : SSs (cxF P w K mg base fn__law_draw cdv A outer s H E) (wE E) (sem__law_draw (callN T k)) (defBody st__law_draw) := by
  have tk : L2N.Takes (cxF P w K mg base fn__law_draw cdv A outer s H E) (wE E) := L2N.takes_of rfl rfl rfl rfl
  have hp : PassesOwn (model P w) (cxF P w K mg base fn__law_draw cdv A outer s H E).A (cxF P w K mg base fn__law_draw cdv A outer s H E).env (cxF P w K mg base fn__law_draw cdv A outer s H E).xe := passes_of rfl
  have hN : (cxF P w K mg base fn__law_draw cdv A outer s H E).N.Nodup := sc__law_draw.nd
  have hu := cx.hu
  have hroom : Room 2 (cxF P w K mg base fn__law_draw cdv A outer s H E).A := cx.room.mono (by omega)
  have n_abs := N.n_abs
  have n_int := N.n_int
  have n_len := N.n_len
  exact (ss_cons (ss_if (st_cmpS cs_lt (se_idx (se_var 0) se_int) (se_var 1))
 (ss_cons (ss_set hN rfl (by first | exact Or.inl rfl | exact Or.inr (Or.inl rfl) | exact Or.inr rfl) se_int)
 (ss_cons (ss_if (st_cmpS cs_lt (se_idx (se_var 0) se_int) (se_len rfl n_len (sa_cons (se_idx (se_var 0) se_int) sa_nil)))
 (ss_one (ss_set hN rfl (by first | exact Or.inl rfl | exact Or.inr (Or.inl rfl) | exact Or.inr rfl) (se_abs rfl n_abs (sa_cons (se_idx (se_idx (se_var 0) se_int) (se_idx (se_var 0) se_int)) sa_nil))))
 ss_nil)
 (ss_cons (ss_putL (se_add false (se_idx (se_var 0) se_int) se_int) (se_var 0) se_int)
 (ss_cons (ss_putL se_int (se_var 0) se_int)
 (ss_cons (ss_if (st_cmpS cs_ge (se_var 2) (se_pow se_int se_int))
 (ss_one (ss_putL (se_var 2) (se_var 0) se_int))
 ss_nil)
 (ss_one (ss_putL (se_mod (se_add false (se_add false (se_mul false (se_idx (se_var 0) se_int) (se_idx (se_var 0) se_int)) (se_var 2)) (se_idx (se_var 0) se_int)) se_int) (se_var 0) se_int)))))))
 ss_nil)
 (ss_cons (ss_if (st_cmpS cs_ge (se_idx (se_var 0) se_int) (se_var 1))
 (ss_cons (ss_set hN rfl (by first | exact Or.inl rfl | exact Or.inr (Or.inl rfl) | exact Or.inr rfl) (se_mod (se_intC rfl n_int (sa_cons (se_idx (se_var 0) se_int) sa_nil)) (se_var 1)))
 (ss_cons (ss_putL (se_fdiv (se_idx (se_var 0) se_int) (se_var 1)) (se_var 0) se_int)
 (ss_one (ss_ret (se_var 3)))))
 ss_nil)
 (ss_one (ss_ret (se_mod (se_intC rfl n_int (sa_cons (se_fdiv (se_idx (se_var 0) se_int) se_int) sa_nil)) (se_var 1))))))
theorem der__law_same (N : Nm P w K mg base) (cx : CxF (cxF P w K mg base fn__law_same cdv A outer s H E) T hots k) : SSs (cxF P w K mg base fn__law_same cdv A outer s H E) (wE E) (sem__law_same (callN T k)) (defBody st__law_same) := by
  have tk : L2N.Takes (cxF P w K mg base fn__law_same cdv A outer s H E) (wE E) := L2N.takes_of rfl rfl rfl rfl
  have hp : PassesOwn (model P w) (cxF P w K mg base fn__law_same cdv A outer s H E).A (cxF P w K mg base fn__law_same cdv A outer s H E).env (cxF P w K mg base fn__law_same cdv A outer s H E).xe := passes_of rfl
  have hN : (cxF P w K mg base fn__law_same cdv A outer s H E).N.Nodup := sc__law_same.nd
  have hu := cx.hu
  have hroom : Room 2 (cxF P w K mg base fn__law_same cdv A outer s H E).A := cx.room.mono (by omega)
  have g__law_same := N.g__law_same
  have n_bool := N.n_bool
  have n_int := N.n_int
  have n_isinstance := N.n_isinstance
  have n_len := N.n_len
  have n_list := N.n_list
  have n_range := N.n_range
  have n_str := N.n_str
  have n_tuple := N.n_tuple
  exact (ss_cons (ss_if (SW.st (sw_or (st_val (se_isi .tup rfl n_isinstance rfl n_tuple boot_tuple (se_var 1))) (sw_or1 (st_val (se_isi .lst rfl n_isinstance rfl n_list boot_list (se_var 1))))))
 (ss_cons (ss_if (SW.st (sw_or (st_cmpS (cs_ne hu) (se_isi .tup rfl n_isinstance rfl n_tuple boot_tuple (se_var 0)) (se_isi .tup rfl n_isinstance rfl n_tuple boot_tuple (se_var 1))) (sw_or1 (st_cmpS (cs_ne hu) (se_isi .lst rfl n_isinstance rfl n_list boot_list (se_var 0)) (se_isi .lst rfl n_isinstance rfl n_list boot_list (se_var 1))))))
 (ss_one (ss_ret se_bl))
 ss_nil)
 (ss_cons (ss_if (st_cmpS (cs_ne hu) (se_len rfl n_len (sa_cons (se_var 0) sa_nil)) (se_len rfl n_len (sa_cons (se_var 1) sa_nil)))
 (ss_one (ss_ret se_bl))
 ss_nil)
 (ss_cons (ss_for (ws := [2]) hp rfl (si_range1 rfl n_range (sa_cons (se_len rfl n_len (sa_cons (se_var 1) sa_nil)) sa_nil)) (sg_name hN rfl (by first | exact Or.inl rfl | exact Or.inr (Or.inl rfl) | exact Or.inr rfl))
 (ss_one (ss_if (st_not (st_val (se_call cx tk rfl rfl rfl g__law_same (sa_cons (se_idx (se_var 0) (se_var 2)) (sa_cons (se_idx (se_var 1) (se_var 2)) sa_nil)))))
 (ss_one (ss_ret se_bl))
 ss_nil)))
 (ss_one (ss_ret se_bl)))))
 ss_nil)
 (ss_cons (ss_if (st_cmpS cs_is (se_var 1) se_non)
 (ss_one (ss_ret (se_cmpS cs_is (se_var 0) se_non)))
 ss_nil)
 (ss_cons (ss_if (st_cmpS cs_is (se_var 1) se_bl)
 (ss_one (ss_ret (se_cmpS cs_is (se_var 0) se_bl)))
 ss_nil)
 (ss_cons (ss_if (st_cmpS cs_is (se_var 1) se_bl)
 (ss_one (ss_ret (se_cmpS cs_is (se_var 0) se_bl)))
 ss_nil)
 (ss_cons (ss_if (st_val (se_isi .int rfl n_isinstance rfl n_int boot_int (se_var 1)))
 (ss_one (ss_ret (se_and (se_isi .int rfl n_isinstance rfl n_int boot_int (se_var 0)) (se_and (se_not (se_isi .bl rfl n_isinstance rfl n_bool boot_bool (se_var 0))) (se_one (se_cmpS (cs_eq hu) (se_var 0) (se_var 1)))))))
 ss_nil)
 (ss_one (ss_ret (se_and (se_isi .str rfl n_isinstance rfl n_str boot_str (se_var 0)) (se_one (se_cmpS (cs_eq hu) (se_var 0) (se_var 1)))))))))))
theorem derH__law_same {p : Addr × Obj} (N : Nm P w K mg base) (cx : CxH (cxH P w K mg base fn__law_same cdv A outer s H E p) T hots k) : SSs (cxH P w K mg base fn__law_same cdv A outer s H E p) (wE E) (sem__law_same (callN T k)) (defBody st__law_same) := by
  have tk : L2N.Takes (cxH P w K mg base fn__law_same cdv A outer s H E p) (wE E) := L2N.takes_of rfl rfl rfl rfl
  have hp : PassesOwn (model P w) (cxH P w K mg base fn__law_same cdv A outer s H E p).A (cxH P w K mg base fn__law_same cdv A outer s H E p).env (cxH P w K mg base fn__law_same cdv A outer s H E p).xe := passes_of rfl
  have hN : (cxH P w K mg base fn__law_same cdv A outer s H E p).N.Nodup := sc__law_same.nd
  have hu := cx.hu
  have g__law_same := N.g__law_same
  have n_bool := N.n_bool
  have n_int := N.n_int
  have n_isinstance := N.n_isinstance
  have n_len := N.n_len
  have n_list := N.n_list
  have n_range := N.n_range
  have n_str := N.n_str
  have n_tuple := N.n_tuple
  exact (ss_cons (ss_if (SW.st (sw_or (st_val (se_isi .tup rfl n_isinstance rfl n_tuple boot_tuple (se_var 1))) (sw_or1 (st_val (se_isi .lst rfl n_isinstance rfl n_list boot_list (se_var 1))))))
 (ss_cons (ss_if (SW.st (sw_or (st_cmpS (cs_ne hu) (se_isi .tup rfl n_isinstance rfl n_tuple boot_tuple (se_var 0)) (se_isi .tup rfl n_isinstance rfl n_tuple boot_tuple (se_var 1))) (sw_or1 (st_cmpS (cs_ne hu) (se_isi .lst rfl n_isinstance rfl n_list boot_list (se_var 0)) (se_isi .lst rfl n_isinstance rfl n_list boot_list (se_var 1))))))
 (ss_one (ss_ret se_bl))
 ss_nil)
 (ss_cons (ss_if (st_cmpS (cs_ne hu) (se_len rfl n_len (sa_cons (se_var 0) sa_nil)) (se_len rfl n_len (sa_cons (se_var 1) sa_nil)))
 (ss_one (ss_ret se_bl))
 ss_nil)
 (ss_cons (ss_forH (ws := [2]) hp cx.hot (si_range1H rfl n_range (sa_cons (se_len rfl n_len (sa_cons (se_var 1) sa_nil)) sa_nil)) (sg_name hN rfl (by first | exact Or.inl rfl | exact Or.inr (Or.inl rfl) | exact Or.inr rfl))
 (ss_one (ss_if (st_not (st_val (se_callH cx tk rfl (by decide) rfl rfl g__law_same (sa_cons (se_idx (se_var 0) (se_var 2)) (sa_cons (se_idx (se_var 1) (se_var 2)) sa_nil)))))
 (ss_one (ss_ret se_bl))
 ss_nil)))
 (ss_one (ss_ret se_bl)))))
 ss_nil)
 (ss_cons (ss_if (st_cmpS cs_is (se_var 1) se_non)
 (ss_one (ss_ret (se_cmpS cs_is (se_var 0) se_non)))
 ss_nil)
 (ss_cons (ss_if (st_cmpS cs_is (se_var 1) se_bl)
 (ss_one (ss_ret (se_cmpS cs_is (se_var 0) se_bl)))
 ss_nil)
 (ss_cons (ss_if (st_cmpS cs_is (se_var 1) se_bl)
 (ss_one (ss_ret (se_cmpS cs_is (se_var 0) se_bl)))
 ss_nil)
 (ss_cons (ss_if (st_val (se_isi .int rfl n_isinstance rfl n_int boot_int (se_var 1)))
 (ss_one (ss_ret (se_and (se_isi .int rfl n_isinstance rfl n_int boot_int (se_var 0)) (se_and (se_not (se_isi .bl rfl n_isinstance rfl n_bool boot_bool (se_var 0))) (se_one (se_cmpS (cs_eq hu) (se_var 0) (se_var 1)))))))
 ss_nil)
 (ss_one (ss_ret (se_and (se_isi .str rfl n_isinstance rfl n_str boot_str (se_var 0)) (se_one (se_cmpS (cs_eq hu) (se_var 0) (se_var 1)))))))))))
theorem der__law_way (N : Nm P w K mg base) (cx : CxF (cxF P w K mg base fn__law_way cdv A outer s H E) T hots k) : SSs (cxF P w K mg base fn__law_way cdv A outer s H E) (wE E) (sem__law_way (callN T k)) (defBody st__law_way) := by
  have tk : L2N.Takes (cxF P w K mg base fn__law_way cdv A outer s H E) (wE E) := L2N.takes_of rfl rfl rfl rfl
  have hp : PassesOwn (model P w) (cxF P w K mg base fn__law_way cdv A outer s H E).A (cxF P w K mg base fn__law_way cdv A outer s H E).env (cxF P w K mg base fn__law_way cdv A outer s H E).xe := passes_of rfl
  have hN : (cxF P w K mg base fn__law_way cdv A outer s H E).N.Nodup := sc__law_way.nd
  have hu := cx.hu
  have hroom : Room 2 (cxF P w K mg base fn__law_way cdv A outer s H E).A := cx.room.mono (by omega)
  have g__law_draw := N.g__law_draw
  exact (ss_cons (ss_set hN rfl (by first | exact Or.inl rfl | exact Or.inr (Or.inl rfl) | exact Or.inr rfl) (se_call cx tk rfl rfl rfl g__law_draw (sa_cons (se_var 0) (sa_cons se_int sa_nil))))
 (ss_cons (ss_set hN rfl (by first | exact Or.inl rfl | exact Or.inr (Or.inl rfl) | exact Or.inr rfl) (se_add false se_int (se_call cx tk rfl rfl rfl g__law_draw (sa_cons (se_var 0) (sa_cons se_int sa_nil)))))
 (ss_cons (ss_if (st_cmpS (cs_eq hu) (se_var 1) se_int)
 (ss_one (ss_ret (se_tup (sa_cons se_int (sa_cons (se_var 2) sa_nil)))))
 ss_nil)
 (ss_cons (ss_if (st_cmpS (cs_eq hu) (se_var 1) se_int)
 (ss_one (ss_ret (se_tup (sa_cons (se_var 2) (sa_cons (se_var 2) sa_nil)))))
 ss_nil)
 (ss_cons (ss_if (st_cmpS (cs_eq hu) (se_var 1) se_int)
 (ss_cons (ss_set hN rfl (by first | exact Or.inl rfl | exact Or.inr (Or.inl rfl) | exact Or.inr rfl) (se_add false se_int (se_call cx tk rfl rfl rfl g__law_draw (sa_cons (se_var 0) (sa_cons se_int sa_nil)))))
 (ss_one (ss_ret (se_tup (sa_cons (se_var 3) (sa_cons (se_mul false se_int (se_var 3)) sa_nil))))))
 ss_nil)
 (ss_one (ss_ret (se_tup (sa_cons (se_call cx tk rfl rfl rfl g__law_draw (sa_cons (se_var 0) (sa_cons (se_add false (se_var 2) se_int) sa_nil))) (sa_cons (se_var 2) sa_nil))))))))))
theorem der__law_mark (N : Nm P w K mg base) (cx : CxF (cxF P w K mg base fn__law_mark cdv A outer s H E) T hots k) : SSs (cxF P w K mg base fn__law_mark cdv A outer s H E) (wE E) (sem__law_mark (callN T k)) (defBody st__law_mark) := by
  have tk : L2N.Takes (cxF P w K mg base fn__law_mark cdv A outer s H E) (wE E) := L2N.takes_of rfl rfl rfl rfl
  have hp : PassesOwn (model P w) (cxF P w K mg base fn__law_mark cdv A outer s H E).A (cxF P w K mg base fn__law_mark cdv A outer s H E).env (cxF P w K mg base fn__law_mark cdv A outer s H E).xe := passes_of rfl
  have hN : (cxF P w K mg base fn__law_mark cdv A outer s H E).N.Nodup := sc__law_mark.nd
  have hu := cx.hu
  have hroom : Room 2 (cxF P w K mg base fn__law_mark cdv A outer s H E).A := cx.room.mono (by omega)
  exact (ss_one (ss_ret (se_add false (se_mul false (se_idx (se_var 0) se_int) (se_sub (se_var 1) se_int)) (se_idx (se_var 0) se_int))))
theorem der__law_lowest (N : Nm P w K mg base) (cx : CxF (cxF P w K mg base fn__law_lowest cdv A outer s H E) T hots k) : SSs (cxF P w K mg base fn__law_lowest cdv A outer s H E) (wE E) (sem__law_lowest (callN T k)) (defBody st__law_lowest) := by
  have tk : L2N.Takes (cxF P w K mg base fn__law_lowest cdv A outer s H E) (wE E) := L2N.takes_of rfl rfl rfl rfl
  have hp : PassesOwn (model P w) (cxF P w K mg base fn__law_lowest cdv A outer s H E).A (cxF P w K mg base fn__law_lowest cdv A outer s H E).env (cxF P w K mg base fn__law_lowest cdv A outer s H E).xe := passes_of rfl
  have hN : (cxF P w K mg base fn__law_lowest cdv A outer s H E).N.Nodup := sc__law_lowest.nd
  have hu := cx.hu
  have hroom : Room 2 (cxF P w K mg base fn__law_lowest cdv A outer s H E).A := cx.room.mono (by omega)
  have n_int := N.n_int
  have n_range := N.n_range
  exact (ss_cons (ss_set hN rfl (by first | exact Or.inl rfl | exact Or.inr (Or.inl rfl) | exact Or.inr rfl) (se_var 0))
 (ss_cons (ss_set hN rfl (by first | exact Or.inl rfl | exact Or.inr (Or.inl rfl) | exact Or.inr rfl) (se_var 1))
 (ss_cons (ss_for (ws := [4]) hp rfl (si_range1 rfl n_range (sa_cons se_int sa_nil)) (sg_name hN rfl (by first | exact Or.inl rfl | exact Or.inr (Or.inl rfl) | exact Or.inr rfl))
 (ss_one (ss_if (st_cmpS cs_gt (se_var 3) se_int)
 (ss_cons (ss_set hN rfl (by first | exact Or.inl rfl | exact Or.inr (Or.inl rfl) | exact Or.inr rfl) (se_mod (se_intC rfl n_int (sa_cons (se_var 2) sa_nil)) (se_var 3)))
 (ss_cons (ss_set hN rfl (by first | exact Or.inl rfl | exact Or.inr (Or.inl rfl) | exact Or.inr rfl) (se_var 3))
 (ss_one (ss_set hN rfl (by first | exact Or.inl rfl | exact Or.inr (Or.inl rfl) | exact Or.inr rfl) (se_var 5)))))
 ss_nil)))
 (ss_one (ss_ret (se_tup (sa_cons (se_fdiv (se_var 0) (se_var 2)) (sa_cons (se_fdiv (se_var 1) (se_var 2)) sa_nil))))))))
theorem der__law_worth (N : Nm P w K mg base) (cx : CxF (cxF P w K mg base fn__law_worth cdv A outer s H E) T hots k) : SSs (cxF P w K mg base fn__law_worth cdv A outer s H E) (wE E) (sem__law_worth (callN T k)) (defBody st__law_worth) := by
  have tk : L2N.Takes (cxF P w K mg base fn__law_worth cdv A outer s H E) (wE E) := L2N.takes_of rfl rfl rfl rfl
  have hp : PassesOwn (model P w) (cxF P w K mg base fn__law_worth cdv A outer s H E).A (cxF P w K mg base fn__law_worth cdv A outer s H E).env (cxF P w K mg base fn__law_worth cdv A outer s H E).xe := passes_of rfl
  have hN : (cxF P w K mg base fn__law_worth cdv A outer s H E).N.Nodup := sc__law_worth.nd
  have hu := cx.hu
  have hroom : Room 2 (cxF P w K mg base fn__law_worth cdv A outer s H E).A := cx.room.mono (by omega)
  have g__law_draw := N.g__law_draw
  have g__law_mark := N.g__law_mark
  have n_max := N.n_max
  exact (ss_cons (ss_set hN rfl (by first | exact Or.inl rfl | exact Or.inr (Or.inl rfl) | exact Or.inr rfl) (se_call cx tk rfl rfl rfl g__law_draw (sa_cons (se_var 0) (sa_cons se_int sa_nil))))
 (ss_cons (ss_set hN rfl (by first | exact Or.inl rfl | exact Or.inr (Or.inl rfl) | exact Or.inr rfl) (se_add false se_int (se_call cx tk rfl rfl rfl g__law_draw (sa_cons (se_var 0) (sa_cons (se_idx (se_lst false (sa_cons se_int (sa_cons se_int (sa_cons se_int sa_nil)))) (se_call cx tk rfl rfl rfl g__law_draw (sa_cons (se_var 0) (sa_cons se_int sa_nil)))) sa_nil)))))
 (ss_cons (ss_set hN rfl (by first | exact Or.inl rfl | exact Or.inr (Or.inl rfl) | exact Or.inr rfl) (se_add false se_int (se_call cx tk rfl rfl rfl g__law_draw (sa_cons (se_var 0) (sa_cons (se_idx (se_lst false (sa_cons se_int (sa_cons (se_pow se_int se_int) (sa_cons (se_pow se_int se_int) sa_nil)))) (se_call cx tk rfl rfl rfl g__law_draw (sa_cons (se_var 0) (sa_cons se_int sa_nil)))) sa_nil)))))
 (ss_cons (ss_if (st_cmpS cs_lt (se_var 2) se_int)
 (ss_one (ss_ret (se_tup (sa_cons (se_call cx tk rfl rfl rfl g__law_mark (sa_cons (se_var 1) (sa_cons (se_var 3) sa_nil))) (sa_cons (se_idx (se_var 1) se_int) sa_nil)))))
 ss_nil)
 (ss_cons (ss_if (st_cmpS (cs_eq hu) (se_var 2) se_int)
 (ss_one (ss_ret (se_tup (sa_cons (se_add false (se_mul false (se_call cx tk rfl rfl rfl g__law_mark (sa_cons (se_var 1) (sa_cons (se_var 3) sa_nil))) (se_var 4)) (se_idx (se_var 1) se_int)) (sa_cons (se_mul false (se_idx (se_var 1) se_int) (se_var 4)) sa_nil)))))
 ss_nil)
 (ss_cons (ss_if (st_cmpS (cs_eq hu) (se_var 2) se_int)
 (ss_one (ss_ret (se_tup (sa_cons (se_max2 rfl rfl n_max (sa_cons se_int (sa_cons (se_sub (se_mul false (se_call cx tk rfl rfl rfl g__law_mark (sa_cons (se_var 1) (sa_cons (se_var 3) sa_nil))) (se_var 4)) (se_idx (se_var 1) se_int)) sa_nil))) (sa_cons (se_mul false (se_idx (se_var 1) se_int) (se_var 4)) sa_nil)))))
 ss_nil)
 (ss_cons (ss_if (st_cmpS (cs_eq hu) (se_var 2) se_int)
 (ss_one (ss_ret (se_tup (sa_cons (se_call cx tk rfl rfl rfl g__law_draw (sa_cons (se_var 0) (sa_cons se_int sa_nil))) (sa_cons (se_add false se_int (se_call cx tk rfl rfl rfl g__law_draw (sa_cons (se_var 0) (sa_cons se_int sa_nil)))) sa_nil)))))
 ss_nil)
 (ss_cons (ss_if (st_cmpS (cs_eq hu) (se_var 2) se_int)
 (ss_one (ss_ret (se_tup (sa_cons (se_call cx tk rfl rfl rfl g__law_draw (sa_cons (se_var 0) (sa_cons se_int sa_nil))) (sa_cons se_int sa_nil)))))
 ss_nil)
 (ss_one (ss_ret (se_tup (sa_cons (se_add false (se_mul false (se_call cx tk rfl rfl rfl g__law_draw (sa_cons (se_var 0) (sa_cons (se_pow se_int se_int) sa_nil))) (se_pow se_int se_int)) (se_call cx tk rfl rfl rfl g__law_draw (sa_cons (se_var 0) (sa_cons (se_pow se_int se_int) sa_nil)))) (sa_cons (se_var 4) sa_nil)))))))))))))
theorem der__law_due (N : Nm P w K mg base) (cx : CxF (cxF P w K mg base fn__law_due cdv A outer s H E) T hots k) : SSs (cxF P w K mg base fn__law_due cdv A outer s H E) (wE E) (sem__law_due (callN T k)) (defBody st__law_due) := by
  have tk : L2N.Takes (cxF P w K mg base fn__law_due cdv A outer s H E) (wE E) := L2N.takes_of rfl rfl rfl rfl
  have hp : PassesOwn (model P w) (cxF P w K mg base fn__law_due cdv A outer s H E).A (cxF P w K mg base fn__law_due cdv A outer s H E).env (cxF P w K mg base fn__law_due cdv A outer s H E).xe := passes_of rfl
  have hN : (cxF P w K mg base fn__law_due cdv A outer s H E).N.Nodup := sc__law_due.nd
  have hu := cx.hu
  have hroom : Room 2 (cxF P w K mg base fn__law_due cdv A outer s H E).A := cx.room.mono (by omega)
  have g__law_mark := N.g__law_mark
  have n_max := N.n_max
  have n_range := N.n_range
  have n_tuple := N.n_tuple
  exact (ss_cons (ss_set hN rfl (by first | exact Or.inl rfl | exact Or.inr (Or.inl rfl) | exact Or.inr rfl) (se_fdiv (se_idx (se_var 1) se_int) (se_idx (se_var 1) se_int)))
 (ss_cons (ss_set hN rfl (by first | exact Or.inl rfl | exact Or.inr (Or.inl rfl) | exact Or.inr rfl) (se_lst true sa_nil))
 (ss_cons (ss_for (ws := [4]) hp rfl (si_range2G rfl n_range (sa_cons (se_max2 rfl rfl n_max (sa_cons se_int (sa_cons (se_sub (se_var 2) se_int) sa_nil))) (sa_cons (se_add false (se_var 2) se_int) sa_nil))) (sg_name hN rfl (by first | exact Or.inl rfl | exact Or.inr (Or.inl rfl) | exact Or.inr rfl))
 (ss_cons (ss_set hN rfl (by first | exact Or.inl rfl | exact Or.inr (Or.inl rfl) | exact Or.inr rfl) (se_or (se_cmpS (cs_eq hu) (se_var 4) se_int) (se_one (se_cmpS cs_le (se_mul false (se_call cx tk rfl rfl rfl g__law_mark (sa_cons (se_var 0) (sa_cons (se_var 4) sa_nil))) (se_idx (se_var 1) se_int)) (se_mul false (se_idx (se_var 1) se_int) (se_idx (se_var 0) se_int))))))
 (ss_one (ss_if (SW.st (sw_and (st_val (se_var 5)) (sw_and1 (st_cmpS cs_le (se_mul false (se_idx (se_var 1) se_int) (se_idx (se_var 0) se_int)) (se_mul false (se_call cx tk rfl rfl rfl g__law_mark (sa_cons (se_var 0) (sa_cons (se_add false (se_var 4) se_int) sa_nil))) (se_idx (se_var 1) se_int))))))
 (ss_one (ss_expr (se_append (se_var 3) (se_var 4))))
 ss_nil))))
 (ss_one (ss_ret (se_tuple rfl n_tuple (sa_cons (se_var 3) sa_nil)))))))
theorem der__law_refused (N : Nm P w K mg base) (cx : CxF (cxF P w K mg base fn__law_refused cdv A outer s H E) T hots k) : SSs (cxF P w K mg base fn__law_refused cdv A outer s H E) (wE E) (sem__law_refused (callN T k)) (defBody st__law_refused) := by
  have tk : L2N.Takes (cxF P w K mg base fn__law_refused cdv A outer s H E) (wE E) := L2N.takes_of rfl rfl rfl rfl
  have hp : PassesOwn (model P w) (cxF P w K mg base fn__law_refused cdv A outer s H E).A (cxF P w K mg base fn__law_refused cdv A outer s H E).env (cxF P w K mg base fn__law_refused cdv A outer s H E).xe := passes_of rfl
  have hN : (cxF P w K mg base fn__law_refused cdv A outer s H E).N.Nodup := sc__law_refused.nd
  have hu := cx.hu
  have hroom : Room 2 (cxF P w K mg base fn__law_refused cdv A outer s H E).A := cx.room.mono (by omega)
  have cl_Rule := N.cl_Rule
  have g_InvalidFraction := N.g_InvalidFraction
  have g__law_same := N.g__law_same
  have mt_Rule_rounded := N.mt_Rule_rounded
  have xc_InvalidFraction := N.xc_InvalidFraction
  have xm_InvalidFraction := N.xm_InvalidFraction
  exact (ss_cons (ss_try rfl rfl hN tk (fun W1 pn1 xe1 tk1 hp1 => (ss_one (ss_expr (se_meth (cx.tr _ _) tk1 rfl rfl cl_Rule mt_Rule_rounded (se_var 0) (sa_cons (se_var 1) sa_nil))))) (.cons ⟨rfl, by decide, .inl g_InvalidFraction⟩ ⟨rfl, rfl⟩ xm_InvalidFraction (fun a oe c dd pn hz hf => by exact (ss_one (ss_ret (se_callH (CxF.suite (a := a) cx pn hz hf) (takesS (a := a)) rfl (by decide) rfl rfl g__law_same (sa_cons (se_xf (L := ["value"]) (j := 0) (i := 2) xc_InvalidFraction (by decide) rfl (by decide) hz hf rfl) (sa_cons (se_var 1) sa_nil)))))) .nil))
 (ss_one (ss_ret se_bl)))
theorem der_law (N : Nm P w K mg base) (cx : CxF (cxF P w K mg base fn_law cdv A outer s H E) T hots k) : SSs (cxF P w K mg base fn_law cdv A outer s H E) (wE E) (sem_law (callN T k)) (defBody st_law) := by
  have tk : L2N.Takes (cxF P w K mg base fn_law cdv A outer s H E) (wE E) := L2N.takes_of rfl rfl rfl rfl
  have hp : PassesOwn (model P w) (cxF P w K mg base fn_law cdv A outer s H E).A (cxF P w K mg base fn_law cdv A outer s H E).env (cxF P w K mg base fn_law cdv A outer s H E).xe := passes_of rfl
  have hN : (cxF P w K mg base fn_law cdv A outer s H E).N.Nodup := sc_law.nd
  have hu := cx.hu
  have hroom : Room 2 (cxF P w K mg base fn_law cdv A outer s H E).A := cx.room.mono (by omega)
  have cl_Rule := N.cl_Rule
  have g_Rule := N.g_Rule
  have g__law_draw := N.g__law_draw
  have g__law_due := N.g__law_due
  have g__law_lowest := N.g__law_lowest
  have g__law_mark := N.g__law_mark
  have g__law_pool := N.g__law_pool
  have g__law_refused := N.g__law_refused
  have g__law_same := N.g__law_same
  have g__law_way := N.g__law_way
  have g__law_worth := N.g__law_worth
  have mk_Rule := N.mk_Rule
  have mt_Rule_mark := N.mt_Rule_mark
  have mt_Rule_rounded := N.mt_Rule_rounded
  have n_len := N.n_len
  have n_range := N.n_range
  have na_Rule_part := N.na_Rule_part
  exact (ss_cons (ss_set hN rfl (by first | exact Or.inl rfl | exact Or.inr (Or.inl rfl) | exact Or.inr rfl) (se_call cx tk rfl rfl rfl g__law_pool (sa_cons (se_var 0) sa_nil)))
 (ss_cons (ss_set hN rfl (by first | exact Or.inl rfl | exact Or.inr (Or.inl rfl) | exact Or.inr rfl) (se_call cx tk rfl rfl rfl g__law_way (sa_cons (se_var 1) sa_nil)))
 (ss_cons (ss_set hN rfl (by first | exact Or.inl rfl | exact Or.inr (Or.inl rfl) | exact Or.inr rfl) (se_new true cx tk rfl rfl mk_Rule rfl g_Rule (sa_cons (se_idx (se_var 2) se_int) (sa_cons (se_idx (se_var 2) se_int) sa_nil))))
 (ss_cons (ss_for (ws := [4]) hp rfl (si_range1 rfl n_range (sa_cons se_int sa_nil)) (sg_name hN rfl (by first | exact Or.inl rfl | exact Or.inr (Or.inl rfl) | exact Or.inr rfl))
 (ss_cons (ss_set hN rfl (by first | exact Or.inl rfl | exact Or.inr (Or.inl rfl) | exact Or.inr rfl) (se_call cx tk rfl rfl rfl g__law_worth (sa_cons (se_var 1) (sa_cons (se_var 2) sa_nil))))
 (ss_cons (ss_set hN rfl (by first | exact Or.inl rfl | exact Or.inr (Or.inl rfl) | exact Or.inr rfl) (se_call cx tk rfl rfl rfl g__law_lowest (sa_cons (se_idx (se_var 6) se_int) (sa_cons (se_idx (se_var 6) se_int) sa_nil))))
 (ss_cons (ss_if (st_cmpS (cs_eq hu) (se_var 4) se_int)
 (ss_one (ss_set hN rfl (by first | exact Or.inl rfl | exact Or.inr (Or.inl rfl) | exact Or.inr rfl) (se_methK0 cx tk rfl rfl kw_Rule_rounded_0 cl_Rule mt_Rule_rounded (se_var 3) (sk_cons (se_var 7) sk_nil))))
 (ss_one (ss_set hN rfl (by first | exact Or.inl rfl | exact Or.inr (Or.inl rfl) | exact Or.inr rfl) (se_meth cx tk rfl rfl cl_Rule mt_Rule_rounded (se_var 3) (sa_cons (se_var 7) sa_nil)))))
 (ss_cons (ss_set hN rfl (by first | exact Or.inl rfl | exact Or.inr (Or.inl rfl) | exact Or.inr rfl) (se_call cx tk rfl rfl rfl g__law_due (sa_cons (se_var 2) (sa_cons (se_var 7) sa_nil))))
 (ss_cons (ss_if (st_not (st_val (se_call cx tk rfl rfl rfl g__law_same (sa_cons (se_var 9) (sa_cons (se_var 8) sa_nil)))))
 (ss_one (ss_ret se_bl))
 ss_nil)
 (ss_cons (ss_if (st_chain cs_le cs_le se_int (se_idx (se_var 8) (se_neg se_int)) se_int)
 (ss_one (ss_if (st_not (st_val (se_call cx tk rfl rfl rfl g__law_same (sa_cons (se_meth cx tk rfl rfl cl_Rule mt_Rule_mark (se_var 3) (sa_cons (se_idx (se_var 8) (se_neg se_int)) sa_nil)) (sa_cons (se_call cx tk rfl rfl rfl g__law_lowest (sa_cons (se_call cx tk rfl rfl rfl g__law_mark (sa_cons (se_var 2) (sa_cons (se_idx (se_var 8) (se_neg se_int)) sa_nil))) (sa_cons (se_idx (se_var 2) se_int) sa_nil))) sa_nil)))))
 (ss_one (ss_ret se_bl))
 ss_nil))
 ss_nil)
 (ss_one (ss_if (SW.st (sw_or (st_not (st_val (se_call cx tk rfl rfl rfl g__law_refused (sa_cons (se_var 3) (sa_cons (se_lst false (sa_cons (se_idx (se_var 7) se_int) (sa_cons (se_idx (se_var 7) se_int) sa_nil))) sa_nil))))) (sw_or1 (st_not (st_val (se_call cx tk rfl rfl rfl g__law_refused (sa_cons (se_var 3) (sa_cons (se_tup (sa_cons (se_mul false se_int (se_idx (se_var 7) se_int)) (sa_cons (se_mul false se_int (se_idx (se_var 7) se_int)) sa_nil))) sa_nil))))))))
 (ss_one (ss_ret se_bl))
 ss_nil)))))))))
 (ss_cons (ss_set hN rfl (by first | exact Or.inl rfl | exact Or.inr (Or.inl rfl) | exact Or.inr rfl) (se_lst false (sa_cons se_non (sa_cons se_int (sa_cons se_bl (sa_cons se_str (sa_cons (se_tup sa_nil) (sa_cons (se_tup (sa_cons se_int sa_nil)) (sa_cons (se_tup (sa_cons se_int (sa_cons se_int (sa_cons se_int sa_nil)))) (sa_cons (se_tup (sa_cons se_int (sa_cons se_int sa_nil))) (sa_cons (se_tup (sa_cons se_int (sa_cons se_int sa_nil))) (sa_cons (se_tup (sa_cons se_int (sa_cons se_int sa_nil))) (sa_cons (se_tup (sa_cons se_int (sa_cons (se_neg se_int) sa_nil))) (sa_cons (se_tup (sa_cons (se_neg se_int) (sa_cons se_int sa_nil))) (sa_cons (se_tup (sa_cons se_bl (sa_cons se_int sa_nil))) (sa_cons (se_tup (sa_cons se_int (sa_cons se_bl sa_nil))) sa_nil))))))))))))))))
 (ss_cons (ss_set hN rfl (by first | exact Or.inl rfl | exact Or.inr (Or.inl rfl) | exact Or.inr rfl) (se_add false (se_var 5) (se_lst false (sa_cons (se_tup (sa_cons (se_tup (sa_cons se_int (sa_cons se_int sa_nil))) (sa_cons se_int sa_nil))) (sa_cons (se_tup (sa_cons se_int (sa_cons se_str sa_nil))) (sa_cons (se_tup (sa_cons se_int (sa_cons se_int sa_nil))) (sa_cons (se_tup (sa_cons se_non (sa_cons se_int sa_nil))) (sa_cons (se_lst false (sa_cons (se_tup (sa_cons se_int (sa_cons se_int sa_nil))) sa_nil)) sa_nil))))))))
 (ss_cons (ss_for (ws := [4]) hp rfl (si_range1 rfl n_range (sa_cons se_int sa_nil)) (sg_name hN rfl (by first | exact Or.inl rfl | exact Or.inr (Or.inl rfl) | exact Or.inr rfl))
 (ss_one (ss_if (st_not (st_val (se_call cx tk rfl rfl rfl g__law_refused (sa_cons (se_var 3) (sa_cons (se_idx (se_var 5) (se_call cx tk rfl rfl rfl g__law_draw (sa_cons (se_var 1) (sa_cons (se_len rfl n_len (sa_cons (se_var 5) sa_nil)) sa_nil)))) sa_nil)))))
 (ss_one (ss_ret se_bl))
 ss_nil)))
 (ss_one (ss_ret (se_call cx tk rfl rfl rfl g__law_same (sa_cons (se_fld (L := ["part"]) (j := 0) cl_Rule na_Rule_part rfl (by decide) (se_var 3)) (sa_cons (se_call cx tk rfl rfl rfl g__law_lowest (sa_cons (se_idx (se_var 2) se_int) (sa_cons (se_idx (se_var 2) se_int) sa_nil))) sa_nil))))))))))))
end
end LK

end
section
namespace LK
open PySem VI
open L2 (atI ixN CDivW)
variable {k : Nat} {vh : VH} {kx : KX} {kd : KD}
theorem low_int {n : Nat} {i : Int} : low n (.int i) := by simp only [low]
theorem low_bl {n : Nat} {i : Bool} : low n (.bl i) := by simp only [low]
theorem low_non {n : Nat} : low n .non := by simp only [low]
theorem low_two {n : Nat} {i j : Int} : low n (.tup [.int i, .int j]) := by simp only [low, lows, and_self]
theorem lows_one {n : Nat} {d : D} (h : low n d) : lows n [d] := by simp only [lows]; exact ⟨h, trivial⟩
theorem sp_is_integer {d : D} (hd : pl d = true) (h : kd (.bl (isInt d)) vh) : callN T (k + 1) i_is_integer [d] vh kx kd := by
  refine enter (fn := fn_is_integer) rfl rfl rfl rfl ?_
  dsimp only [fn_is_integer, sem_is_integer, sVar, sCst, sBin, sUn, sTB, sNotT, sAndT, sOrT, sAndV, sOrV, sNotV, sIfE, sNil, sCons, sTup, sLst, sCallB, sSeq, sSkip, sDrop, sRet, sRetN, sBrk, sCnt, sIf, sSet, gN, gsNil, gsCons, gT, sAsg, sFor, sWhile, sIt, sItA, sLc, sYes, sCall, sCallK, sMethK, sNewK, oview, sFld, sMeth, sNew, sPutNew, sPutOld, sPutL, sAug, sChain, sNoP, sPart, sSl, isT, sIsi, sApp, sRaise, sTry, exTry, ksAs, envAs, sXf, look, wipeE, List.set, List.map, List.replicate, id, perm, List.filterMap, List.length_cons, List.length_nil, List.nil_append, List.cons_append, Nat.sub_self, Nat.reduceAdd, Nat.reduceSub, newL_f, newL_t, oAdd_i, oAdd_s, oAdd_t, oAdd_l, oMul_i, oSub_i, oFdiv_i, oMod_i, oPow_i, oLt_i, oLe_i, oGt_i, oGe_i, oNeg_i, oAddI_i, oEq_ii, oEq_ss, oEq_bb, oEq_nn, oEq_ni, oEq_in, oEq_ns, oEq_sn, oEq_is, oEq_si, oNe_ii, oNe_ss, oNe_bb, oIs_n, oIs_b, oIsNot_n, oIsNot_b, isNon_n, isNon_i, isNon_b, isNon_s, isNon_t, isNon_l, isNon_r, isBl_n, isBl_i, isBl_b, isBl_s, isBl_t, isBl_l, isBl_r, oIx_t, oIx_l, oIx_s, oLen_t, oLen_l, oLen_c, oLen_s, oAbs_i, oInt_i, oInt_b, oMax2_i, oMin2_i, oGcd_i, oIter_t, oIter_l, oIter_c, oRng1_i, oRng2_i, oRng2G_i, oSl_t, oSl_l, oSl_c, oIsi_n, oIsi_b, oIsi_i, oIsi_s, oIsi_t, oIsi_l]
  cases d <;> first | exact absurd hd Bool.false_ne_true | exact fin_pure low_bl h
def isNum : D → Bool
  | .int i => decide (0 ≤ i)
  | _ => false
theorem sp_is_number {d : D} (hd : pl d = true) (h : kd (.bl (isNum d)) vh) : callN T (k + 2) i_is_number [d] vh kx kd := by
  refine enter (fn := fn_is_number) rfl rfl rfl rfl ?_
  dsimp only [fn_is_number, sem_is_number, sVar, sCst, sBin, sUn, sTB, sNotT, sAndT, sOrT, sAndV, sOrV, sNotV, sIfE, sNil, sCons, sTup, sLst, sCallB, sSeq, sSkip, sDrop, sRet, sRetN, sBrk, sCnt, sIf, sSet, gN, gsNil, gsCons, gT, sAsg, sFor, sWhile, sIt, sItA, sLc, sYes, sCall, sCallK, sMethK, sNewK, oview, sFld, sMeth, sNew, sPutNew, sPutOld, sPutL, sAug, sChain, sNoP, sPart, sSl, isT, sIsi, sApp, sRaise, sTry, exTry, ksAs, envAs, sXf, look, wipeE, List.set, List.map, List.replicate, id, perm, List.filterMap, List.length_cons, List.length_nil, List.nil_append, List.cons_append, Nat.sub_self, Nat.reduceAdd, Nat.reduceSub, newL_f, newL_t, oAdd_i, oAdd_s, oAdd_t, oAdd_l, oMul_i, oSub_i, oFdiv_i, oMod_i, oPow_i, oLt_i, oLe_i, oGt_i, oGe_i, oNeg_i, oAddI_i, oEq_ii, oEq_ss, oEq_bb, oEq_nn, oEq_ni, oEq_in, oEq_ns, oEq_sn, oEq_is, oEq_si, oNe_ii, oNe_ss, oNe_bb, oIs_n, oIs_b, oIsNot_n, oIsNot_b, isNon_n, isNon_i, isNon_b, isNon_s, isNon_t, isNon_l, isNon_r, isBl_n, isBl_i, isBl_b, isBl_s, isBl_t, isBl_l, isBl_r, oIx_t, oIx_l, oIx_s, oLen_t, oLen_l, oLen_c, oLen_s, oAbs_i, oInt_i, oInt_b, oMax2_i, oMin2_i, oGcd_i, oIter_t, oIter_l, oIter_c, oRng1_i, oRng2_i, oRng2G_i, oSl_t, oSl_l, oSl_c, oIsi_n, oIsi_b, oIsi_i, oIsi_s, oIsi_t, oIsi_l]
  refine sp_is_integer hd ?_
  cases d <;> dsimp only [isInt, sVar, sCst, sBin, sUn, sTB, sNotT, sAndT, sOrT, sAndV, sOrV, sNotV, sIfE, sNil, sCons, sTup, sLst, sCallB, sSeq, sSkip, sDrop, sRet, sRetN, sBrk, sCnt, sIf, sSet, gN, gsNil, gsCons, gT, sAsg, sFor, sWhile, sIt, sItA, sLc, sYes, sCall, sCallK, sMethK, sNewK, oview, sFld, sMeth, sNew, sPutNew, sPutOld, sPutL, sAug, sChain, sNoP, sPart, sSl, isT, sIsi, sApp, sRaise, sTry, exTry, ksAs, envAs, sXf, look, wipeE, List.set, List.map, List.replicate, id, perm, List.filterMap, List.length_cons, List.length_nil, List.nil_append, List.cons_append, Nat.sub_self, Nat.reduceAdd, Nat.reduceSub, newL_f, newL_t, oAdd_i, oAdd_s, oAdd_t, oAdd_l, oMul_i, oSub_i, oFdiv_i, oMod_i, oPow_i, oLt_i, oLe_i, oGt_i, oGe_i, oNeg_i, oAddI_i, oEq_ii, oEq_ss, oEq_bb, oEq_nn, oEq_ni, oEq_in, oEq_ns, oEq_sn, oEq_is, oEq_si, oNe_ii, oNe_ss, oNe_bb, oIs_n, oIs_b, oIsNot_n, oIsNot_b, isNon_n, isNon_i, isNon_b, isNon_s, isNon_t, isNon_l, isNon_r, isBl_n, isBl_i, isBl_b, isBl_s, isBl_t, isBl_l, isBl_r, oIx_t, oIx_l, oIx_s, oLen_t, oLen_l, oLen_c, oLen_s, oAbs_i, oInt_i, oInt_b, oMax2_i, oMin2_i, oGcd_i, oIter_t, oIter_l, oIter_c, oRng1_i, oRng2_i, oRng2G_i, oSl_t, oSl_l, oSl_c, oIsi_n, oIsi_b, oIsi_i, oIsi_s, oIsi_t, oIsi_l] <;> first | exact absurd hd Bool.false_ne_true | exact fin_pure low_bl h
/-! fractions: two natural numbers -/
@[reducible] def fr (a b : Nat) : D := .tup [.int a, .int b]
theorem isNum_nat {a : Nat} : isNum (.int a) = true := decide_eq_true (Int.natCast_nonneg a)
theorem at0 {x y : D} : atI [x, y] 0 = some x := rfl
theorem at1 {x y : D} : atI [x, y] 1 = some y := rfl
theorem dec_lt1 {b : Nat} (h : 1 ≤ b) : decide ((b : Int) < 1) = false := decide_eq_false (by omega)
theorem sp_is_fraction {a b : Nat} (hb : 1 ≤ b) (hg : Nat.gcd a b = 1) (h : kd (.bl true) vh) : callN T (k + 3) i_is_fraction [fr a b] vh kx kd := by
  refine enter (fn := fn_is_fraction) rfl rfl rfl rfl ?_
  dsimp only [fn_is_fraction, sem_is_fraction, sVar, sCst, sBin, sUn, sTB, sNotT, sAndT, sOrT, sAndV, sOrV, sNotV, sIfE, sNil, sCons, sTup, sLst, sCallB, sSeq, sSkip, sDrop, sRet, sRetN, sBrk, sCnt, sIf, sSet, gN, gsNil, gsCons, gT, sAsg, sFor, sWhile, sIt, sItA, sLc, sYes, sCall, sCallK, sMethK, sNewK, oview, sFld, sMeth, sNew, sPutNew, sPutOld, sPutL, sAug, sChain, sNoP, sPart, sSl, isT, sIsi, sApp, sRaise, sTry, exTry, ksAs, envAs, sXf, look, wipeE, List.set, List.map, List.replicate, id, perm, List.filterMap, List.length_cons, List.length_nil, List.nil_append, List.cons_append, Nat.sub_self, Nat.reduceAdd, Nat.reduceSub, newL_f, newL_t, oAdd_i, oAdd_s, oAdd_t, oAdd_l, oMul_i, oSub_i, oFdiv_i, oMod_i, oPow_i, oLt_i, oLe_i, oGt_i, oGe_i, oNeg_i, oAddI_i, oEq_ii, oEq_ss, oEq_bb, oEq_nn, oEq_ni, oEq_in, oEq_ns, oEq_sn, oEq_is, oEq_si, oNe_ii, oNe_ss, oNe_bb, oIs_n, oIs_b, oIsNot_n, oIsNot_b, isNon_n, isNon_i, isNon_b, isNon_s, isNon_t, isNon_l, isNon_r, isBl_n, isBl_i, isBl_b, isBl_s, isBl_t, isBl_l, isBl_r, oIx_t, oIx_l, oIx_s, oLen_t, oLen_l, oLen_c, oLen_s, oAbs_i, oInt_i, oInt_b, oMax2_i, oMin2_i, oGcd_i, oIter_t, oIter_l, oIter_c, oRng1_i, oRng2_i, oRng2G_i, oSl_t, oSl_l, oSl_c, oIsi_n, oIsi_b, oIsi_i, oIsi_s, oIsi_t, oIsi_l]
  refine ⟨rfl, rfl, sp_is_number rfl ?_⟩
  try dsimp only [isNum]
  rw [decide_eq_true (Int.natCast_nonneg a)]
  try dsimp only
  refine sp_is_integer rfl ?_
  try dsimp only [isInt]
  rw [dec_lt1 hb]
  try dsimp only
  rw [Int.natAbs_natCast, Int.natAbs_natCast, hg]
  exact fin_pure low_bl h
theorem sp_check_fraction {a b : Nat} (hb : 1 ≤ b) (hg : Nat.gcd a b = 1) (h : kd .non vh) : callN T (k + 4) i_check_fraction [fr a b] vh kx kd := by
  refine enter (fn := fn_check_fraction) rfl rfl rfl rfl ?_
  dsimp only [fn_check_fraction, sem_check_fraction, sVar, sCst, sBin, sUn, sTB, sNotT, sAndT, sOrT, sAndV, sOrV, sNotV, sIfE, sNil, sCons, sTup, sLst, sCallB, sSeq, sSkip, sDrop, sRet, sRetN, sBrk, sCnt, sIf, sSet, gN, gsNil, gsCons, gT, sAsg, sFor, sWhile, sIt, sItA, sLc, sYes, sCall, sCallK, sMethK, sNewK, oview, sFld, sMeth, sNew, sPutNew, sPutOld, sPutL, sAug, sChain, sNoP, sPart, sSl, isT, sIsi, sApp, sRaise, sTry, exTry, ksAs, envAs, sXf, look, wipeE, List.set, List.map, List.replicate, id, perm, List.filterMap, List.length_cons, List.length_nil, List.nil_append, List.cons_append, Nat.sub_self, Nat.reduceAdd, Nat.reduceSub, newL_f, newL_t, oAdd_i, oAdd_s, oAdd_t, oAdd_l, oMul_i, oSub_i, oFdiv_i, oMod_i, oPow_i, oLt_i, oLe_i, oGt_i, oGe_i, oNeg_i, oAddI_i, oEq_ii, oEq_ss, oEq_bb, oEq_nn, oEq_ni, oEq_in, oEq_ns, oEq_sn, oEq_is, oEq_si, oNe_ii, oNe_ss, oNe_bb, oIs_n, oIs_b, oIsNot_n, oIsNot_b, isNon_n, isNon_i, isNon_b, isNon_s, isNon_t, isNon_l, isNon_r, isBl_n, isBl_i, isBl_b, isBl_s, isBl_t, isBl_l, isBl_r, oIx_t, oIx_l, oIx_s, oLen_t, oLen_l, oLen_c, oLen_s, oAbs_i, oInt_i, oInt_b, oMax2_i, oMin2_i, oGcd_i, oIter_t, oIter_l, oIter_c, oRng1_i, oRng2_i, oRng2G_i, oSl_t, oSl_l, oSl_c, oIsi_n, oIsi_b, oIsi_i, oIsi_s, oIsi_t, oIsi_l]
  refine sp_is_fraction hb hg ?_
  exact fin_pure low_non h
@[reducible] def frL (a b : Nat) : D := fr (a / Nat.gcd a b) (b / Nat.gcd a b)
theorem gcd_pos {a b : Nat} (hb : 1 ≤ b) : 1 ≤ Nat.gcd a b := Nat.gcd_pos_of_pos_right a hb
theorem gcd_le {a b : Nat} (hb : 1 ≤ b) : Nat.gcd a b ≤ b := Nat.le_of_dvd hb (Nat.gcd_dvd_right a b)
theorem div_gcd {a b : Nat} (hb : 1 ≤ b) (bb : (b : Int) < 2 ^ 1000) {i : Int} : CDivW i (Nat.gcd a b : Nat) := by
  have h1 := gcd_pos (a := a) hb
  have h2 := gcd_le (a := a) hb
  exact div_ok (by omega) (by omega)
theorem sp_reduced {a b : Nat} (hb : 1 ≤ b) (bb : (b : Int) < 2 ^ 1000) (h : kd (frL a b) vh) : callN T (k + 1) i_reduced [.int a, .int b] vh kx kd := by
  refine enter (fn := fn_reduced) rfl rfl rfl rfl ?_
  dsimp only [fn_reduced, sem_reduced, sVar, sCst, sBin, sUn, sTB, sNotT, sAndT, sOrT, sAndV, sOrV, sNotV, sIfE, sNil, sCons, sTup, sLst, sCallB, sSeq, sSkip, sDrop, sRet, sRetN, sBrk, sCnt, sIf, sSet, gN, gsNil, gsCons, gT, sAsg, sFor, sWhile, sIt, sItA, sLc, sYes, sCall, sCallK, sMethK, sNewK, oview, sFld, sMeth, sNew, sPutNew, sPutOld, sPutL, sAug, sChain, sNoP, sPart, sSl, isT, sIsi, sApp, sRaise, sTry, exTry, ksAs, envAs, sXf, look, wipeE, List.set, List.map, List.replicate, id, perm, List.filterMap, List.length_cons, List.length_nil, List.nil_append, List.cons_append, Nat.sub_self, Nat.reduceAdd, Nat.reduceSub, newL_f, newL_t, oAdd_i, oAdd_s, oAdd_t, oAdd_l, oMul_i, oSub_i, oFdiv_i, oMod_i, oPow_i, oLt_i, oLe_i, oGt_i, oGe_i, oNeg_i, oAddI_i, oEq_ii, oEq_ss, oEq_bb, oEq_nn, oEq_ni, oEq_in, oEq_ns, oEq_sn, oEq_is, oEq_si, oNe_ii, oNe_ss, oNe_bb, oIs_n, oIs_b, oIsNot_n, oIsNot_b, isNon_n, isNon_i, isNon_b, isNon_s, isNon_t, isNon_l, isNon_r, isBl_n, isBl_i, isBl_b, isBl_s, isBl_t, isBl_l, isBl_r, oIx_t, oIx_l, oIx_s, oLen_t, oLen_l, oLen_c, oLen_s, oAbs_i, oInt_i, oInt_b, oMax2_i, oMin2_i, oGcd_i, oIter_t, oIter_l, oIter_c, oRng1_i, oRng2_i, oRng2G_i, oSl_t, oSl_l, oSl_c, oIsi_n, oIsi_b, oIsi_i, oIsi_s, oIsi_t, oIsi_l]
  rw [Int.natAbs_natCast, Int.natAbs_natCast]
  refine ⟨div_gcd hb bb, div_gcd hb bb, by decide, ?_⟩
  exact fin_pure low_two h
def sgn (l r : Nat) : Int := if r < l then 1 else if l < r then -1 else 0
theorem sp_is_less {a b c d : Nat} (m1 : MulOk a d) (m2 : MulOk c b) (h : kd (.bl (decide (a * d < c * b))) vh) : callN T (k + 1) i_is_less [fr a b, fr c d] vh kx kd := by
  refine enter (fn := fn_is_less) rfl rfl rfl rfl ?_
  dsimp only [fn_is_less, sem_is_less, sVar, sCst, sBin, sUn, sTB, sNotT, sAndT, sOrT, sAndV, sOrV, sNotV, sIfE, sNil, sCons, sTup, sLst, sCallB, sSeq, sSkip, sDrop, sRet, sRetN, sBrk, sCnt, sIf, sSet, gN, gsNil, gsCons, gT, sAsg, sFor, sWhile, sIt, sItA, sLc, sYes, sCall, sCallK, sMethK, sNewK, oview, sFld, sMeth, sNew, sPutNew, sPutOld, sPutL, sAug, sChain, sNoP, sPart, sSl, isT, sIsi, sApp, sRaise, sTry, exTry, ksAs, envAs, sXf, look, wipeE, List.set, List.map, List.replicate, id, perm, List.filterMap, List.length_cons, List.length_nil, List.nil_append, List.cons_append, Nat.sub_self, Nat.reduceAdd, Nat.reduceSub, newL_f, newL_t, oAdd_i, oAdd_s, oAdd_t, oAdd_l, oMul_i, oSub_i, oFdiv_i, oMod_i, oPow_i, oLt_i, oLe_i, oGt_i, oGe_i, oNeg_i, oAddI_i, oEq_ii, oEq_ss, oEq_bb, oEq_nn, oEq_ni, oEq_in, oEq_ns, oEq_sn, oEq_is, oEq_si, oNe_ii, oNe_ss, oNe_bb, oIs_n, oIs_b, oIsNot_n, oIsNot_b, isNon_n, isNon_i, isNon_b, isNon_s, isNon_t, isNon_l, isNon_r, isBl_n, isBl_i, isBl_b, isBl_s, isBl_t, isBl_l, isBl_r, oIx_t, oIx_l, oIx_s, oLen_t, oLen_l, oLen_c, oLen_s, oAbs_i, oInt_i, oInt_b, oMax2_i, oMin2_i, oGcd_i, oIter_t, oIter_l, oIter_c, oRng1_i, oRng2_i, oRng2G_i, oSl_t, oSl_l, oSl_c, oIsi_n, oIsi_b, oIsi_i, oIsi_s, oIsi_t, oIsi_l]
  refine ⟨_, rfl, _, rfl, m1, _, rfl, _, rfl, m2, ?_⟩
  have e : decide ((a : Int) * d < c * b) = decide (a * d < c * b) := by
    rw [Bool.eq_iff_iff, decide_eq_true_iff, decide_eq_true_iff]
    exact_mod_cast Iff.rfl
  try dsimp only [isT, look, List.length_cons, List.length_nil, List.nil_append, List.cons_append, Nat.sub_self, newL_f, newL_t, oAdd_i, oAdd_s, oAdd_t, oAdd_l, oMul_i, oSub_i, oFdiv_i, oMod_i, oPow_i, oLt_i, oLe_i, oGt_i, oGe_i, oNeg_i, oAddI_i, oEq_ii, oEq_ss, oEq_bb, oEq_nn, oEq_ni, oEq_in, oEq_ns, oEq_sn, oEq_is, oEq_si, oNe_ii, oNe_ss, oNe_bb, oIs_n, oIs_b, oIsNot_n, oIsNot_b, isNon_n, isNon_i, isNon_b, isNon_s, isNon_t, isNon_l, isNon_r, isBl_n, isBl_i, isBl_b, isBl_s, isBl_t, isBl_l, isBl_r, oIx_t, oIx_l, oIx_s, oLen_t, oLen_l, oLen_c, oLen_s, oAbs_i, oInt_i, oInt_b, oMax2_i, oMin2_i, oGcd_i, oIter_t, oIter_l, oIter_c, oRng1_i, oRng2_i, oRng2G_i, oSl_t, oSl_l, oSl_c, oIsi_n, oIsi_b, oIsi_i, oIsi_s, oIsi_t, oIsi_l, List.set, List.length_cons, List.length_nil, Nat.reduceAdd]
  rw [e]
  exact fin_pure low_bl h
theorem mul_nat {a b : Nat} (h1 : (a : Int) < 2 ^ 1000) (h2 : (b : Int) < 2 ^ 1000) : MulOk a b := mul_ok (by omega) h1 (by omega) h2

/-! the answers by arithmetic -/
theorem nat_dlt {x y : Nat} : decide ((x : Int) < y) = decide (x < y) := by
  rw [Bool.eq_iff_iff, decide_eq_true_iff, decide_eq_true_iff]
  exact Int.ofNat_lt
theorem nat_eq0 {c : Nat} : ((c : Int) == 0) = decide (c = 0) := by
  rw [Bool.eq_iff_iff, beq_iff_eq, decide_eq_true_iff]
  omega
/-! the law's own helpers -/
theorem sp_lowest {a b : Nat} (hb : 1 ≤ b) (bb : b < (fibs 200).1) (b2 : (b : Int) < 2 ^ 1000) (h : kd (frL a b) vh) : callN T (k + 1) i__law_lowest [.int a, .int b] vh kx kd := by
  refine enter (fn := fn__law_lowest) rfl rfl rfl rfl ?_
  dsimp only [fn__law_lowest, sem__law_lowest, sVar, sCst, sBin, sUn, sTB, sNotT, sAndT, sOrT, sAndV, sOrV, sNotV, sIfE, sNil, sCons, sTup, sLst, sCallB, sSeq, sSkip, sDrop, sRet, sRetN, sBrk, sCnt, sIf, sSet, gN, gsNil, gsCons, gT, sAsg, sFor, sWhile, sIt, sItA, sLc, sYes, sCall, sCallK, sMethK, sNewK, oview, sFld, sMeth, sNew, sPutNew, sPutOld, sPutL, sAug, sChain, sNoP, sPart, sSl, isT, sIsi, sApp, sRaise, sTry, exTry, ksAs, envAs, sXf, look, wipeE, List.set, List.map, List.replicate, id, perm, List.filterMap, List.length_cons, List.length_nil, List.nil_append, List.cons_append, Nat.sub_self, Nat.reduceAdd, Nat.reduceSub, newL_f, newL_t, oAdd_i, oAdd_s, oAdd_t, oAdd_l, oMul_i, oSub_i, oFdiv_i, oMod_i, oPow_i, oLt_i, oLe_i, oGt_i, oGe_i, oNeg_i, oAddI_i, oEq_ii, oEq_ss, oEq_bb, oEq_nn, oEq_ni, oEq_in, oEq_ns, oEq_sn, oEq_is, oEq_si, oNe_ii, oNe_ss, oNe_bb, oIs_n, oIs_b, oIsNot_n, oIsNot_b, isNon_n, isNon_i, isNon_b, isNon_s, isNon_t, isNon_l, isNon_r, isBl_n, isBl_i, isBl_b, isBl_s, isBl_t, isBl_l, isBl_r, oIx_t, oIx_l, oIx_s, oLen_t, oLen_l, oLen_c, oLen_s, oAbs_i, oInt_i, oInt_b, oMax2_i, oMin2_i, oGcd_i, oIter_t, oIter_l, oIter_c, oRng1_i, oRng2_i, oRng2G_i, oSl_t, oSl_l, oSl_c, oIsi_n, oIsi_b, oIsi_i, oIsi_s, oIsi_t, oIsi_l]
  refine ⟨by decide, by decide, ?_⟩
  refine forL_inv (fun i env vh' => vh' = vh ∧ ∃ x y, env = [some (.int a), some (.int b), some (.int ((turns i (a, b)).1 : Nat)), some (.int ((turns i (a, b)).2 : Nat)), x, y]) (fun _ _ _ _ => trivial) ?_ ?_ ⟨rfl, none, none, rfl⟩
  · rintro i d env vh' nx hd ⟨rfl, x, y, rfl⟩ hI
    have e := turns_succ i (a, b)
    have e2 := turn_at (turns i (a, b)).1 (turns i (a, b)).2
    dsimp only [sVar, sCst, sBin, sUn, sTB, sNotT, sAndT, sOrT, sAndV, sOrV, sNotV, sIfE, sNil, sCons, sTup, sLst, sCallB, sSeq, sSkip, sDrop, sRet, sRetN, sBrk, sCnt, sIf, sSet, gN, gsNil, gsCons, gT, sAsg, sFor, sWhile, sIt, sItA, sLc, sYes, sCall, sCallK, sMethK, sNewK, oview, sFld, sMeth, sNew, sPutNew, sPutOld, sPutL, sAug, sChain, sNoP, sPart, sSl, isT, sIsi, sApp, sRaise, sTry, exTry, ksAs, envAs, sXf, look, wipeE, List.set, List.map, List.replicate, id, perm, List.filterMap, List.length_cons, List.length_nil, List.nil_append, List.cons_append, Nat.sub_self, Nat.reduceAdd, Nat.reduceSub, newL_f, newL_t, oAdd_i, oAdd_s, oAdd_t, oAdd_l, oMul_i, oSub_i, oFdiv_i, oMod_i, oPow_i, oLt_i, oLe_i, oGt_i, oGe_i, oNeg_i, oAddI_i, oEq_ii, oEq_ss, oEq_bb, oEq_nn, oEq_ni, oEq_in, oEq_ns, oEq_sn, oEq_is, oEq_si, oNe_ii, oNe_ss, oNe_bb, oIs_n, oIs_b, oIsNot_n, oIsNot_b, isNon_n, isNon_i, isNon_b, isNon_s, isNon_t, isNon_l, isNon_r, isBl_n, isBl_i, isBl_b, isBl_s, isBl_t, isBl_l, isBl_r, oIx_t, oIx_l, oIx_s, oLen_t, oLen_l, oLen_c, oLen_s, oAbs_i, oInt_i, oInt_b, oMax2_i, oMin2_i, oGcd_i, oIter_t, oIter_l, oIter_c, oRng1_i, oRng2_i, oRng2G_i, oSl_t, oSl_l, oSl_c, oIsi_n, oIsi_b, oIsi_i, oIsi_s, oIsi_t, oIsi_l]
    by_cases hs : (turns i (a, b)).2 = 0
    · rw [decide_eq_false (by omega)]
      try dsimp only
      refine hI _ _ ⟨rfl, some d, y, ?_⟩
      rw [e, show turn (turns i (a, b)) = turns i (a, b) from by rw [show turns i (a, b) = ((turns i (a, b)).1, (turns i (a, b)).2) from rfl, e2, if_pos hs]]
    · rw [decide_eq_true (by omega)]
      try dsimp only
      refine ⟨by omega, hI _ _ ⟨rfl, some d, some (.int (((turns i (a, b)).1 : Int) % ((turns i (a, b)).2 : Int))), ?_⟩⟩
      rw [e, show turn (turns i (a, b)) = ((turns i (a, b)).2, (turns i (a, b)).1 % (turns i (a, b)).2) from by rw [show turns i (a, b) = ((turns i (a, b)).1, (turns i (a, b)).2) from rfl, e2, if_neg hs]]
      rfl
  · rintro env vh' ⟨rfl, x, y, rfl⟩
    rw [rngL_len, show (Int.toNat 200) = 200 from rfl, turns_end bb]
    dsimp only [sVar, sCst, sBin, sUn, sTB, sNotT, sAndT, sOrT, sAndV, sOrV, sNotV, sIfE, sNil, sCons, sTup, sLst, sCallB, sSeq, sSkip, sDrop, sRet, sRetN, sBrk, sCnt, sIf, sSet, gN, gsNil, gsCons, gT, sAsg, sFor, sWhile, sIt, sItA, sLc, sYes, sCall, sCallK, sMethK, sNewK, oview, sFld, sMeth, sNew, sPutNew, sPutOld, sPutL, sAug, sChain, sNoP, sPart, sSl, isT, sIsi, sApp, sRaise, sTry, exTry, ksAs, envAs, sXf, look, wipeE, List.set, List.map, List.replicate, id, perm, List.filterMap, List.length_cons, List.length_nil, List.nil_append, List.cons_append, Nat.sub_self, Nat.reduceAdd, Nat.reduceSub, newL_f, newL_t, oAdd_i, oAdd_s, oAdd_t, oAdd_l, oMul_i, oSub_i, oFdiv_i, oMod_i, oPow_i, oLt_i, oLe_i, oGt_i, oGe_i, oNeg_i, oAddI_i, oEq_ii, oEq_ss, oEq_bb, oEq_nn, oEq_ni, oEq_in, oEq_ns, oEq_sn, oEq_is, oEq_si, oNe_ii, oNe_ss, oNe_bb, oIs_n, oIs_b, oIsNot_n, oIsNot_b, isNon_n, isNon_i, isNon_b, isNon_s, isNon_t, isNon_l, isNon_r, isBl_n, isBl_i, isBl_b, isBl_s, isBl_t, isBl_l, isBl_r, oIx_t, oIx_l, oIx_s, oLen_t, oLen_l, oLen_c, oLen_s, oAbs_i, oInt_i, oInt_b, oMax2_i, oMin2_i, oGcd_i, oIter_t, oIter_l, oIter_c, oRng1_i, oRng2_i, oRng2G_i, oSl_t, oSl_l, oSl_c, oIsi_n, oIsi_b, oIsi_i, oIsi_s, oIsi_t, oIsi_l]
    exact ⟨div_gcd hb b2, div_gcd hb b2, by decide, fin_pure low_two h⟩

/-! the pool of draws -/
abbrev MM : Int := 2305843009213693951
/-- what a pool's cell holds -/
def PoolOk (c : Cell) : Prop := ∃ (ns : List Int) (i : Nat) (b s : Int), c = .lst [.lst (ns.map D.int), .int i, .int b, .int s] ∧ 0 ≤ b ∧ 0 ≤ s ∧ s < MM
theorem at4_0 {a b c d : D} : atI [a, b, c, d] 0 = some a := rfl
theorem at4_1 {a b c d : D} : atI [a, b, c, d] 1 = some b := rfl
theorem at4_2 {a b c d : D} : atI [a, b, c, d] 2 = some c := rfl
theorem at4_3 {a b c d : D} : atI [a, b, c, d] 3 = some d := rfl
theorem at_nat {xs : List D} {i : Nat} {d : D} (h : xs[i]? = some d) : atI xs (i : Int) = some d := by
  have hl := (List.getElem?_eq_some_iff.mp h).1
  unfold L2.atI L2.ixN
  rw [if_pos (Int.natCast_nonneg i), if_pos (by omega), Int.toNat_natCast]
  exact h
theorem ints_get {ns : List Int} {i : Nat} (h : i < ns.length) : (ns.map D.int)[i]? = some (.int ns[i]) := by
  rw [List.getElem?_map, List.getElem?_eq_getElem h]
  rfl
theorem pow18 : ((10 : Int) ^ (18 : Int).toNat) = 1000000000000000000 := by decide
theorem cpow18 : L2.CPow 10 18 := ⟨by decide, by decide, by decide⟩
theorem mul_state {s : Int} (h0 : 0 ≤ s) (h1 : s < MM) : VI.MulOk s s := mul_ok h0 (by unfold MM at h1; omega) h0 (by unfold MM at h1; omega)
theorem mod_M {x : Int} : 0 ≤ x % MM ∧ x % MM < MM := ⟨Int.emod_nonneg _ (by decide), Int.emod_lt_of_pos _ (by decide)⟩
theorem sp_pool {ns : List Int} (hn : ns.length ≤ 63) (h : ∀ c, PoolOk c → kd (.ref vh.length) (vh ++ [c])) : callN T (k + 1) i__law_pool [.scr ns] vh kx kd := by
  refine enter (fn := fn__law_pool) rfl rfl rfl rfl ?_
  dsimp only [fn__law_pool, sem__law_pool, sVar, sCst, sBin, sUn, sTB, sNotT, sAndT, sOrT, sAndV, sOrV, sNotV, sIfE, sNil, sCons, sTup, sLst, sCallB, sSeq, sSkip, sDrop, sRet, sRetN, sBrk, sCnt, sIf, sSet, gN, gsNil, gsCons, gT, sAsg, sFor, sWhile, sIt, sItA, sLc, sYes, sCall, sCallK, sMethK, sNewK, oview, sFld, sMeth, sNew, sPutNew, sPutOld, sPutL, sAug, sChain, sNoP, sPart, sSl, isT, sIsi, sApp, sRaise, sTry, exTry, ksAs, envAs, sXf, look, wipeE, List.set, List.map, List.replicate, id, perm, List.filterMap, List.length_cons, List.length_nil, List.nil_append, List.cons_append, Nat.sub_self, Nat.reduceAdd, Nat.reduceSub, newL_f, newL_t, oAdd_i, oAdd_s, oAdd_t, oAdd_l, oMul_i, oSub_i, oFdiv_i, oMod_i, oPow_i, oLt_i, oLe_i, oGt_i, oGe_i, oNeg_i, oAddI_i, oEq_ii, oEq_ss, oEq_bb, oEq_nn, oEq_ni, oEq_in, oEq_ns, oEq_sn, oEq_is, oEq_si, oNe_ii, oNe_ss, oNe_bb, oIs_n, oIs_b, oIsNot_n, oIsNot_b, isNon_n, isNon_i, isNon_b, isNon_s, isNon_t, isNon_l, isNon_r, isBl_n, isBl_i, isBl_b, isBl_s, isBl_t, isBl_l, isBl_r, oIx_t, oIx_l, oIx_s, oLen_t, oLen_l, oLen_c, oLen_s, oAbs_i, oInt_i, oInt_b, oMax2_i, oMin2_i, oGcd_i, oIter_t, oIter_l, oIter_c, oRng1_i, oRng2_i, oRng2G_i, oSl_t, oSl_l, oSl_c, oIsi_n, oIsi_b, oIsi_i, oIsi_s, oIsi_t, oIsi_l]
  have hc : (cutD ns none (some 63)).length ≤ 63 := by
    unfold cutD
    rw [List.length_take, List.length_drop]
    omega
  refine ⟨by rw [List.length_map]; omega, ?_⟩
  refine lcL_map (fun d => d) trivial (fun d hd kd' kf hk => ?_) ?_
  · obtain ⟨z, _, rfl⟩ := List.mem_map.mp hd
    exact hk
  · rw [List.map_id']
    refine forL_inv (fun _ env vh' => vh' = vh ∧ ∃ s x, env = [some (.scr ns), some (.lst ((cutD ns none (some 63)).map D.int)), some (.int s), x] ∧ 0 ≤ s ∧ s < MM) (fun _ _ _ _ => trivial) ?_ ?_ ⟨rfl, _, _, rfl, ?_, ?_⟩
    · rintro i d env vh' nx hd ⟨rfl, s, x, rfl, h0, h1⟩ hI
      obtain ⟨z, hz, rfl⟩ := List.mem_map.mp (List.mem_of_getElem? hd)
      dsimp only [sVar, sCst, sBin, sUn, sTB, sNotT, sAndT, sOrT, sAndV, sOrV, sNotV, sIfE, sNil, sCons, sTup, sLst, sCallB, sSeq, sSkip, sDrop, sRet, sRetN, sBrk, sCnt, sIf, sSet, gN, gsNil, gsCons, gT, sAsg, sFor, sWhile, sIt, sItA, sLc, sYes, sCall, sCallK, sMethK, sNewK, oview, sFld, sMeth, sNew, sPutNew, sPutOld, sPutL, sAug, sChain, sNoP, sPart, sSl, isT, sIsi, sApp, sRaise, sTry, exTry, ksAs, envAs, sXf, look, wipeE, List.set, List.map, List.replicate, id, perm, List.filterMap, List.length_cons, List.length_nil, List.nil_append, List.cons_append, Nat.sub_self, Nat.reduceAdd, Nat.reduceSub, newL_f, newL_t, oAdd_i, oAdd_s, oAdd_t, oAdd_l, oMul_i, oSub_i, oFdiv_i, oMod_i, oPow_i, oLt_i, oLe_i, oGt_i, oGe_i, oNeg_i, oAddI_i, oEq_ii, oEq_ss, oEq_bb, oEq_nn, oEq_ni, oEq_in, oEq_ns, oEq_sn, oEq_is, oEq_si, oNe_ii, oNe_ss, oNe_bb, oIs_n, oIs_b, oIsNot_n, oIsNot_b, isNon_n, isNon_i, isNon_b, isNon_s, isNon_t, isNon_l, isNon_r, isBl_n, isBl_i, isBl_b, isBl_s, isBl_t, isBl_l, isBl_r, oIx_t, oIx_l, oIx_s, oLen_t, oLen_l, oLen_c, oLen_s, oAbs_i, oInt_i, oInt_b, oMax2_i, oMin2_i, oGcd_i, oIter_t, oIter_l, oIter_c, oRng1_i, oRng2_i, oRng2G_i, oSl_t, oSl_l, oSl_c, oIsi_n, oIsi_b, oIsi_i, oIsi_s, oIsi_t, oIsi_l]
      refine ⟨mul_state h0 h1, by decide, hI _ _ ⟨rfl, _, _, rfl, mod_M.1, mod_M.2⟩⟩
    · rintro env vh' ⟨rfl, s, x, rfl, h0, h1⟩
      dsimp only [sVar, sCst, sBin, sUn, sTB, sNotT, sAndT, sOrT, sAndV, sOrV, sNotV, sIfE, sNil, sCons, sTup, sLst, sCallB, sSeq, sSkip, sDrop, sRet, sRetN, sBrk, sCnt, sIf, sSet, gN, gsNil, gsCons, gT, sAsg, sFor, sWhile, sIt, sItA, sLc, sYes, sCall, sCallK, sMethK, sNewK, oview, sFld, sMeth, sNew, sPutNew, sPutOld, sPutL, sAug, sChain, sNoP, sPart, sSl, isT, sIsi, sApp, sRaise, sTry, exTry, ksAs, envAs, sXf, look, wipeE, List.set, List.map, List.replicate, id, perm, List.filterMap, List.length_cons, List.length_nil, List.nil_append, List.cons_append, Nat.sub_self, Nat.reduceAdd, Nat.reduceSub, newL_f, newL_t, oAdd_i, oAdd_s, oAdd_t, oAdd_l, oMul_i, oSub_i, oFdiv_i, oMod_i, oPow_i, oLt_i, oLe_i, oGt_i, oGe_i, oNeg_i, oAddI_i, oEq_ii, oEq_ss, oEq_bb, oEq_nn, oEq_ni, oEq_in, oEq_ns, oEq_sn, oEq_is, oEq_si, oNe_ii, oNe_ss, oNe_bb, oIs_n, oIs_b, oIsNot_n, oIsNot_b, isNon_n, isNon_i, isNon_b, isNon_s, isNon_t, isNon_l, isNon_r, isBl_n, isBl_i, isBl_b, isBl_s, isBl_t, isBl_l, isBl_r, oIx_t, oIx_l, oIx_s, oLen_t, oLen_l, oLen_c, oLen_s, oAbs_i, oInt_i, oInt_b, oMax2_i, oMin2_i, oGcd_i, oIter_t, oIter_l, oIter_c, oRng1_i, oRng2_i, oRng2G_i, oSl_t, oSl_l, oSl_c, oIsi_n, oIsi_b, oIsi_i, oIsi_s, oIsi_t, oIsi_l]
      refine ⟨by decide, [.lst [.lst ((cutD ns none (some 63)).map D.int), .int 0, .int 0, .int s]], vh'.length, _, rfl, rfl, Nat.le_refl _, ?_, ?_, h _ ⟨cutD ns none (some 63), 0, 0, s, rfl, by decide, h0, h1⟩⟩
      · rw [List.getElem?_append_right (Nat.le_refl _), Nat.sub_self]
        rfl
      · simp only [lows, low, and_true, true_and]
        have : ∀ l : List Int, lows vh'.length (l.map D.int) := by
          intro l
          induction l with
          | nil => simp only [List.map_nil, lows]
          | cons a r ih => simp only [List.map_cons, lows, low, true_and]; exact ih
        exact this _
    · rw [List.length_map]; omega
    · rw [List.length_map]; unfold MM; omega
theorem sp_draw {p : Nat} {limit : Int} {c : Cell} (hp : vh[p]? = some c) (hc : PoolOk c) (h1 : 1 ≤ limit) (h2 : limit < 2 ^ 1000) (h : ∀ (r : Nat) c', (r : Int) < limit → PoolOk c' → kd (.int r) (vh.set p c')) : callN T (k + 1) i__law_draw [.ref p, .int limit] vh kx kd := by
  refine enter (fn := fn__law_draw) rfl rfl rfl rfl ?_
  dsimp only [fn__law_draw, sem__law_draw]
  refine seq_inv (fun env' vh' => ∃ (ns : List Int) (i : Nat) (b s : Int) (x y : Option D), env' = [some (.ref p), some (.int limit), x, y] ∧ vh' = vh.set p (.lst [.lst (ns.map D.int), .int i, .int b, .int s]) ∧ 0 ≤ b ∧ 0 ≤ s ∧ s < MM) ?_ ?_
  · intro nx hI
    obtain ⟨ns, i, b, s, rfl, hb, hs, hsM⟩ := hc
    dsimp only [sVar, sCst, sBin, sUn, sTB, sNotT, sAndT, sOrT, sAndV, sOrV, sNotV, sIfE, sNil, sCons, sTup, sLst, sCallB, sSeq, sSkip, sDrop, sRet, sRetN, sBrk, sCnt, sIf, sSet, gN, gsNil, gsCons, gT, sAsg, sFor, sWhile, sIt, sItA, sLc, sYes, sCall, sCallK, sMethK, sNewK, oview, sFld, sMeth, sNew, sPutNew, sPutOld, sPutL, sAug, sChain, sNoP, sPart, sSl, isT, sIsi, sApp, sRaise, sTry, exTry, ksAs, envAs, sXf, look, wipeE, List.set, List.map, List.replicate, id, perm, List.filterMap, List.length_cons, List.length_nil, List.nil_append, List.cons_append, Nat.sub_self, Nat.reduceAdd, Nat.reduceSub, newL_f, newL_t, oAdd_i, oAdd_s, oAdd_t, oAdd_l, oMul_i, oSub_i, oFdiv_i, oMod_i, oPow_i, oLt_i, oLe_i, oGt_i, oGe_i, oNeg_i, oAddI_i, oEq_ii, oEq_ss, oEq_bb, oEq_nn, oEq_ni, oEq_in, oEq_ns, oEq_sn, oEq_is, oEq_si, oNe_ii, oNe_ss, oNe_bb, oIs_n, oIs_b, oIsNot_n, oIsNot_b, isNon_n, isNon_i, isNon_b, isNon_s, isNon_t, isNon_l, isNon_r, isBl_n, isBl_i, isBl_b, isBl_s, isBl_t, isBl_l, isBl_r, oIx_t, oIx_l, oIx_s, oLen_t, oLen_l, oLen_c, oLen_s, oAbs_i, oInt_i, oInt_b, oMax2_i, oMin2_i, oGcd_i, oIter_t, oIter_l, oIter_c, oRng1_i, oRng2_i, oRng2G_i, oSl_t, oSl_l, oSl_c, oIsi_n, oIsi_b, oIsi_i, oIsi_s, oIsi_t, oIsi_l]
    refine ix_ref hp at4_2 ?_
    try dsimp only [isT, look, List.length_cons, List.length_nil, List.nil_append, List.cons_append, Nat.sub_self, newL_f, newL_t, oAdd_i, oAdd_s, oAdd_t, oAdd_l, oMul_i, oSub_i, oFdiv_i, oMod_i, oPow_i, oLt_i, oLe_i, oGt_i, oGe_i, oNeg_i, oAddI_i, oEq_ii, oEq_ss, oEq_bb, oEq_nn, oEq_ni, oEq_in, oEq_ns, oEq_sn, oEq_is, oEq_si, oNe_ii, oNe_ss, oNe_bb, oIs_n, oIs_b, oIsNot_n, oIsNot_b, isNon_n, isNon_i, isNon_b, isNon_s, isNon_t, isNon_l, isNon_r, isBl_n, isBl_i, isBl_b, isBl_s, isBl_t, isBl_l, isBl_r, oIx_t, oIx_l, oIx_s, oLen_t, oLen_l, oLen_c, oLen_s, oAbs_i, oInt_i, oInt_b, oMax2_i, oMin2_i, oGcd_i, oIter_t, oIter_l, oIter_c, oRng1_i, oRng2_i, oRng2G_i, oSl_t, oSl_l, oSl_c, oIsi_n, oIsi_b, oIsi_i, oIsi_s, oIsi_t, oIsi_l, List.set, List.length_cons, List.length_nil, Nat.reduceAdd]
    by_cases hl : b < limit
    · rw [decide_eq_true hl]
      try dsimp only
      refine ix_ref hp at4_1 ?_
      refine ix_ref hp at4_0 ?_
      try dsimp only [isT, look, List.length_cons, List.length_nil, List.nil_append, List.cons_append, Nat.sub_self, newL_f, newL_t, oAdd_i, oAdd_s, oAdd_t, oAdd_l, oMul_i, oSub_i, oFdiv_i, oMod_i, oPow_i, oLt_i, oLe_i, oGt_i, oGe_i, oNeg_i, oAddI_i, oEq_ii, oEq_ss, oEq_bb, oEq_nn, oEq_ni, oEq_in, oEq_ns, oEq_sn, oEq_is, oEq_si, oNe_ii, oNe_ss, oNe_bb, oIs_n, oIs_b, oIsNot_n, oIsNot_b, isNon_n, isNon_i, isNon_b, isNon_s, isNon_t, isNon_l, isNon_r, isBl_n, isBl_i, isBl_b, isBl_s, isBl_t, isBl_l, isBl_r, oIx_t, oIx_l, oIx_s, oLen_t, oLen_l, oLen_c, oLen_s, oAbs_i, oInt_i, oInt_b, oMax2_i, oMin2_i, oGcd_i, oIter_t, oIter_l, oIter_c, oRng1_i, oRng2_i, oRng2G_i, oSl_t, oSl_l, oSl_c, oIsi_n, oIsi_b, oIsi_i, oIsi_s, oIsi_t, oIsi_l, List.set, List.length_cons, List.length_nil, Nat.reduceAdd]
      rw [List.length_map]
      by_cases hi : i < ns.length
      · rw [decide_eq_true (by omega)]
        try dsimp only
        refine ix_ref hp at4_0 ?_
        refine ix_ref hp at4_1 ?_
        try dsimp only [isT, look, List.length_cons, List.length_nil, List.nil_append, List.cons_append, Nat.sub_self, newL_f, newL_t, oAdd_i, oAdd_s, oAdd_t, oAdd_l, oMul_i, oSub_i, oFdiv_i, oMod_i, oPow_i, oLt_i, oLe_i, oGt_i, oGe_i, oNeg_i, oAddI_i, oEq_ii, oEq_ss, oEq_bb, oEq_nn, oEq_ni, oEq_in, oEq_ns, oEq_sn, oEq_is, oEq_si, oNe_ii, oNe_ss, oNe_bb, oIs_n, oIs_b, oIsNot_n, oIsNot_b, isNon_n, isNon_i, isNon_b, isNon_s, isNon_t, isNon_l, isNon_r, isBl_n, isBl_i, isBl_b, isBl_s, isBl_t, isBl_l, isBl_r, oIx_t, oIx_l, oIx_s, oLen_t, oLen_l, oLen_c, oLen_s, oAbs_i, oInt_i, oInt_b, oMax2_i, oMin2_i, oGcd_i, oIter_t, oIter_l, oIter_c, oRng1_i, oRng2_i, oRng2G_i, oSl_t, oSl_l, oSl_c, oIsi_n, oIsi_b, oIsi_i, oIsi_s, oIsi_t, oIsi_l, List.set, List.length_cons, List.length_nil, Nat.reduceAdd]
        refine ⟨_, at_nat (ints_get hi), ?_⟩
        try dsimp only [isT, look, List.length_cons, List.length_nil, List.nil_append, List.cons_append, Nat.sub_self, newL_f, newL_t, oAdd_i, oAdd_s, oAdd_t, oAdd_l, oMul_i, oSub_i, oFdiv_i, oMod_i, oPow_i, oLt_i, oLe_i, oGt_i, oGe_i, oNeg_i, oAddI_i, oEq_ii, oEq_ss, oEq_bb, oEq_nn, oEq_ni, oEq_in, oEq_ns, oEq_sn, oEq_is, oEq_si, oNe_ii, oNe_ss, oNe_bb, oIs_n, oIs_b, oIsNot_n, oIsNot_b, isNon_n, isNon_i, isNon_b, isNon_s, isNon_t, isNon_l, isNon_r, isBl_n, isBl_i, isBl_b, isBl_s, isBl_t, isBl_l, isBl_r, oIx_t, oIx_l, oIx_s, oLen_t, oLen_l, oLen_c, oLen_s, oAbs_i, oInt_i, oInt_b, oMax2_i, oMin2_i, oGcd_i, oIter_t, oIter_l, oIter_c, oRng1_i, oRng2_i, oRng2G_i, oSl_t, oSl_l, oSl_c, oIsi_n, oIsi_b, oIsi_i, oIsi_s, oIsi_t, oIsi_l, List.set, List.length_cons, List.length_nil, Nat.reduceAdd]
        refine ix_ref hp at4_1 ?_
        try dsimp only [isT, look, List.length_cons, List.length_nil, List.nil_append, List.cons_append, Nat.sub_self, newL_f, newL_t, oAdd_i, oAdd_s, oAdd_t, oAdd_l, oMul_i, oSub_i, oFdiv_i, oMod_i, oPow_i, oLt_i, oLe_i, oGt_i, oGe_i, oNeg_i, oAddI_i, oEq_ii, oEq_ss, oEq_bb, oEq_nn, oEq_ni, oEq_in, oEq_ns, oEq_sn, oEq_is, oEq_si, oNe_ii, oNe_ss, oNe_bb, oIs_n, oIs_b, oIsNot_n, oIsNot_b, isNon_n, isNon_i, isNon_b, isNon_s, isNon_t, isNon_l, isNon_r, isBl_n, isBl_i, isBl_b, isBl_s, isBl_t, isBl_l, isBl_r, oIx_t, oIx_l, oIx_s, oLen_t, oLen_l, oLen_c, oLen_s, oAbs_i, oInt_i, oInt_b, oMax2_i, oMin2_i, oGcd_i, oIter_t, oIter_l, oIter_c, oRng1_i, oRng2_i, oRng2G_i, oSl_t, oSl_l, oSl_c, oIsi_n, oIsi_b, oIsi_i, oIsi_s, oIsi_t, oIsi_l, List.set, List.length_cons, List.length_nil, Nat.reduceAdd]
        refine put_ref hp rfl ?_
        refine put_ref (get_set_self hp) rfl ?_
        rw [List.set_set]
        refine ⟨cpow18, ?_⟩
        rw [pow18]
        try dsimp only [isT, look, List.length_cons, List.length_nil, List.nil_append, List.cons_append, Nat.sub_self, newL_f, newL_t, oAdd_i, oAdd_s, oAdd_t, oAdd_l, oMul_i, oSub_i, oFdiv_i, oMod_i, oPow_i, oLt_i, oLe_i, oGt_i, oGe_i, oNeg_i, oAddI_i, oEq_ii, oEq_ss, oEq_bb, oEq_nn, oEq_ni, oEq_in, oEq_ns, oEq_sn, oEq_is, oEq_si, oNe_ii, oNe_ss, oNe_bb, oIs_n, oIs_b, oIsNot_n, oIsNot_b, isNon_n, isNon_i, isNon_b, isNon_s, isNon_t, isNon_l, isNon_r, isBl_n, isBl_i, isBl_b, isBl_s, isBl_t, isBl_l, isBl_r, oIx_t, oIx_l, oIx_s, oLen_t, oLen_l, oLen_c, oLen_s, oAbs_i, oInt_i, oInt_b, oMax2_i, oMin2_i, oGcd_i, oIter_t, oIter_l, oIter_c, oRng1_i, oRng2_i, oRng2G_i, oSl_t, oSl_l, oSl_c, oIsi_n, oIsi_b, oIsi_i, oIsi_s, oIsi_t, oIsi_l, List.set, List.length_cons, List.length_nil, Nat.reduceAdd]
        by_cases hx : (1000000000000000000 : Int) ≤ (ns[i].natAbs : Int)
        · rw [decide_eq_true hx]
          try dsimp only
          refine put_ref (get_set_self hp) rfl ?_
          rw [List.set_set]
          refine ix_ref (get_set_self hp) at4_3 ?_
          refine ix_ref (get_set_self hp) at4_3 ?_
          try dsimp only [isT, look, List.length_cons, List.length_nil, List.nil_append, List.cons_append, Nat.sub_self, newL_f, newL_t, oAdd_i, oAdd_s, oAdd_t, oAdd_l, oMul_i, oSub_i, oFdiv_i, oMod_i, oPow_i, oLt_i, oLe_i, oGt_i, oGe_i, oNeg_i, oAddI_i, oEq_ii, oEq_ss, oEq_bb, oEq_nn, oEq_ni, oEq_in, oEq_ns, oEq_sn, oEq_is, oEq_si, oNe_ii, oNe_ss, oNe_bb, oIs_n, oIs_b, oIsNot_n, oIsNot_b, isNon_n, isNon_i, isNon_b, isNon_s, isNon_t, isNon_l, isNon_r, isBl_n, isBl_i, isBl_b, isBl_s, isBl_t, isBl_l, isBl_r, oIx_t, oIx_l, oIx_s, oLen_t, oLen_l, oLen_c, oLen_s, oAbs_i, oInt_i, oInt_b, oMax2_i, oMin2_i, oGcd_i, oIter_t, oIter_l, oIter_c, oRng1_i, oRng2_i, oRng2G_i, oSl_t, oSl_l, oSl_c, oIsi_n, oIsi_b, oIsi_i, oIsi_s, oIsi_t, oIsi_l, List.set, List.length_cons, List.length_nil, Nat.reduceAdd]
          refine ⟨mul_state hs hsM, ?_⟩
          refine ix_ref (get_set_self hp) at4_1 ?_
          try dsimp only [isT, look, List.length_cons, List.length_nil, List.nil_append, List.cons_append, Nat.sub_self, newL_f, newL_t, oAdd_i, oAdd_s, oAdd_t, oAdd_l, oMul_i, oSub_i, oFdiv_i, oMod_i, oPow_i, oLt_i, oLe_i, oGt_i, oGe_i, oNeg_i, oAddI_i, oEq_ii, oEq_ss, oEq_bb, oEq_nn, oEq_ni, oEq_in, oEq_ns, oEq_sn, oEq_is, oEq_si, oNe_ii, oNe_ss, oNe_bb, oIs_n, oIs_b, oIsNot_n, oIsNot_b, isNon_n, isNon_i, isNon_b, isNon_s, isNon_t, isNon_l, isNon_r, isBl_n, isBl_i, isBl_b, isBl_s, isBl_t, isBl_l, isBl_r, oIx_t, oIx_l, oIx_s, oLen_t, oLen_l, oLen_c, oLen_s, oAbs_i, oInt_i, oInt_b, oMax2_i, oMin2_i, oGcd_i, oIter_t, oIter_l, oIter_c, oRng1_i, oRng2_i, oRng2G_i, oSl_t, oSl_l, oSl_c, oIsi_n, oIsi_b, oIsi_i, oIsi_s, oIsi_t, oIsi_l, List.set, List.length_cons, List.length_nil, Nat.reduceAdd]
          refine ⟨by decide, ?_⟩
          refine put_ref (get_set_self hp) rfl ?_
          rw [List.set_set]
          exact hI _ _ ⟨ns, i + 1, _, _, _, _, rfl, rfl, by omega, mod_M.1, mod_M.2⟩
        · rw [decide_eq_false hx]
          try dsimp only
          refine ix_ref (get_set_self hp) at4_3 ?_
          refine ix_ref (get_set_self hp) at4_3 ?_
          try dsimp only [isT, look, List.length_cons, List.length_nil, List.nil_append, List.cons_append, Nat.sub_self, newL_f, newL_t, oAdd_i, oAdd_s, oAdd_t, oAdd_l, oMul_i, oSub_i, oFdiv_i, oMod_i, oPow_i, oLt_i, oLe_i, oGt_i, oGe_i, oNeg_i, oAddI_i, oEq_ii, oEq_ss, oEq_bb, oEq_nn, oEq_ni, oEq_in, oEq_ns, oEq_sn, oEq_is, oEq_si, oNe_ii, oNe_ss, oNe_bb, oIs_n, oIs_b, oIsNot_n, oIsNot_b, isNon_n, isNon_i, isNon_b, isNon_s, isNon_t, isNon_l, isNon_r, isBl_n, isBl_i, isBl_b, isBl_s, isBl_t, isBl_l, isBl_r, oIx_t, oIx_l, oIx_s, oLen_t, oLen_l, oLen_c, oLen_s, oAbs_i, oInt_i, oInt_b, oMax2_i, oMin2_i, oGcd_i, oIter_t, oIter_l, oIter_c, oRng1_i, oRng2_i, oRng2G_i, oSl_t, oSl_l, oSl_c, oIsi_n, oIsi_b, oIsi_i, oIsi_s, oIsi_t, oIsi_l, List.set, List.length_cons, List.length_nil, Nat.reduceAdd]
          refine ⟨mul_state hs hsM, ?_⟩
          refine ix_ref (get_set_self hp) at4_1 ?_
          try dsimp only [isT, look, List.length_cons, List.length_nil, List.nil_append, List.cons_append, Nat.sub_self, newL_f, newL_t, oAdd_i, oAdd_s, oAdd_t, oAdd_l, oMul_i, oSub_i, oFdiv_i, oMod_i, oPow_i, oLt_i, oLe_i, oGt_i, oGe_i, oNeg_i, oAddI_i, oEq_ii, oEq_ss, oEq_bb, oEq_nn, oEq_ni, oEq_in, oEq_ns, oEq_sn, oEq_is, oEq_si, oNe_ii, oNe_ss, oNe_bb, oIs_n, oIs_b, oIsNot_n, oIsNot_b, isNon_n, isNon_i, isNon_b, isNon_s, isNon_t, isNon_l, isNon_r, isBl_n, isBl_i, isBl_b, isBl_s, isBl_t, isBl_l, isBl_r, oIx_t, oIx_l, oIx_s, oLen_t, oLen_l, oLen_c, oLen_s, oAbs_i, oInt_i, oInt_b, oMax2_i, oMin2_i, oGcd_i, oIter_t, oIter_l, oIter_c, oRng1_i, oRng2_i, oRng2G_i, oSl_t, oSl_l, oSl_c, oIsi_n, oIsi_b, oIsi_i, oIsi_s, oIsi_t, oIsi_l, List.set, List.length_cons, List.length_nil, Nat.reduceAdd]
          refine ⟨by decide, ?_⟩
          refine put_ref (get_set_self hp) rfl ?_
          rw [List.set_set]
          exact hI _ _ ⟨ns, i + 1, _, _, _, _, rfl, rfl, by decide, mod_M.1, mod_M.2⟩
      · rw [decide_eq_false (by omega)]
        try dsimp only
        refine ix_ref hp at4_1 ?_
        try dsimp only [isT, look, List.length_cons, List.length_nil, List.nil_append, List.cons_append, Nat.sub_self, newL_f, newL_t, oAdd_i, oAdd_s, oAdd_t, oAdd_l, oMul_i, oSub_i, oFdiv_i, oMod_i, oPow_i, oLt_i, oLe_i, oGt_i, oGe_i, oNeg_i, oAddI_i, oEq_ii, oEq_ss, oEq_bb, oEq_nn, oEq_ni, oEq_in, oEq_ns, oEq_sn, oEq_is, oEq_si, oNe_ii, oNe_ss, oNe_bb, oIs_n, oIs_b, oIsNot_n, oIsNot_b, isNon_n, isNon_i, isNon_b, isNon_s, isNon_t, isNon_l, isNon_r, isBl_n, isBl_i, isBl_b, isBl_s, isBl_t, isBl_l, isBl_r, oIx_t, oIx_l, oIx_s, oLen_t, oLen_l, oLen_c, oLen_s, oAbs_i, oInt_i, oInt_b, oMax2_i, oMin2_i, oGcd_i, oIter_t, oIter_l, oIter_c, oRng1_i, oRng2_i, oRng2G_i, oSl_t, oSl_l, oSl_c, oIsi_n, oIsi_b, oIsi_i, oIsi_s, oIsi_t, oIsi_l, List.set, List.length_cons, List.length_nil, Nat.reduceAdd]
        refine put_ref hp rfl ?_
        refine put_ref (get_set_self hp) rfl ?_
        rw [List.set_set]
        refine ⟨cpow18, ?_⟩
        rw [pow18]
        try dsimp only [isT, look, List.length_cons, List.length_nil, List.nil_append, List.cons_append, Nat.sub_self, newL_f, newL_t, oAdd_i, oAdd_s, oAdd_t, oAdd_l, oMul_i, oSub_i, oFdiv_i, oMod_i, oPow_i, oLt_i, oLe_i, oGt_i, oGe_i, oNeg_i, oAddI_i, oEq_ii, oEq_ss, oEq_bb, oEq_nn, oEq_ni, oEq_in, oEq_ns, oEq_sn, oEq_is, oEq_si, oNe_ii, oNe_ss, oNe_bb, oIs_n, oIs_b, oIsNot_n, oIsNot_b, isNon_n, isNon_i, isNon_b, isNon_s, isNon_t, isNon_l, isNon_r, isBl_n, isBl_i, isBl_b, isBl_s, isBl_t, isBl_l, isBl_r, oIx_t, oIx_l, oIx_s, oLen_t, oLen_l, oLen_c, oLen_s, oAbs_i, oInt_i, oInt_b, oMax2_i, oMin2_i, oGcd_i, oIter_t, oIter_l, oIter_c, oRng1_i, oRng2_i, oRng2G_i, oSl_t, oSl_l, oSl_c, oIsi_n, oIsi_b, oIsi_i, oIsi_s, oIsi_t, oIsi_l, List.set, List.length_cons, List.length_nil, Nat.reduceAdd]
        refine ix_ref (get_set_self hp) at4_3 ?_
        refine ix_ref (get_set_self hp) at4_3 ?_
        try dsimp only [isT, look, List.length_cons, List.length_nil, List.nil_append, List.cons_append, Nat.sub_self, newL_f, newL_t, oAdd_i, oAdd_s, oAdd_t, oAdd_l, oMul_i, oSub_i, oFdiv_i, oMod_i, oPow_i, oLt_i, oLe_i, oGt_i, oGe_i, oNeg_i, oAddI_i, oEq_ii, oEq_ss, oEq_bb, oEq_nn, oEq_ni, oEq_in, oEq_ns, oEq_sn, oEq_is, oEq_si, oNe_ii, oNe_ss, oNe_bb, oIs_n, oIs_b, oIsNot_n, oIsNot_b, isNon_n, isNon_i, isNon_b, isNon_s, isNon_t, isNon_l, isNon_r, isBl_n, isBl_i, isBl_b, isBl_s, isBl_t, isBl_l, isBl_r, oIx_t, oIx_l, oIx_s, oLen_t, oLen_l, oLen_c, oLen_s, oAbs_i, oInt_i, oInt_b, oMax2_i, oMin2_i, oGcd_i, oIter_t, oIter_l, oIter_c, oRng1_i, oRng2_i, oRng2G_i, oSl_t, oSl_l, oSl_c, oIsi_n, oIsi_b, oIsi_i, oIsi_s, oIsi_t, oIsi_l, List.set, List.length_cons, List.length_nil, Nat.reduceAdd]
        refine ⟨mul_state hs hsM, ?_⟩
        refine ix_ref (get_set_self hp) at4_1 ?_
        try dsimp only [isT, look, List.length_cons, List.length_nil, List.nil_append, List.cons_append, Nat.sub_self, newL_f, newL_t, oAdd_i, oAdd_s, oAdd_t, oAdd_l, oMul_i, oSub_i, oFdiv_i, oMod_i, oPow_i, oLt_i, oLe_i, oGt_i, oGe_i, oNeg_i, oAddI_i, oEq_ii, oEq_ss, oEq_bb, oEq_nn, oEq_ni, oEq_in, oEq_ns, oEq_sn, oEq_is, oEq_si, oNe_ii, oNe_ss, oNe_bb, oIs_n, oIs_b, oIsNot_n, oIsNot_b, isNon_n, isNon_i, isNon_b, isNon_s, isNon_t, isNon_l, isNon_r, isBl_n, isBl_i, isBl_b, isBl_s, isBl_t, isBl_l, isBl_r, oIx_t, oIx_l, oIx_s, oLen_t, oLen_l, oLen_c, oLen_s, oAbs_i, oInt_i, oInt_b, oMax2_i, oMin2_i, oGcd_i, oIter_t, oIter_l, oIter_c, oRng1_i, oRng2_i, oRng2G_i, oSl_t, oSl_l, oSl_c, oIsi_n, oIsi_b, oIsi_i, oIsi_s, oIsi_t, oIsi_l, List.set, List.length_cons, List.length_nil, Nat.reduceAdd]
        refine ⟨by decide, ?_⟩
        refine put_ref (get_set_self hp) rfl ?_
        rw [List.set_set]
        exact hI _ _ ⟨ns, i + 1, _, _, _, _, rfl, rfl, by decide, mod_M.1, mod_M.2⟩
    · rw [decide_eq_false hl]
      try dsimp only
      exact hI _ _ ⟨ns, i, b, s, _, _, rfl, (set_same hp).symm, hb, hs, hsM⟩
  · rintro env' vh' ⟨ns, i, b, s, x, y, rfl, rfl, hb, hs, hsM⟩
    have nn : ∀ z : Int, 0 ≤ z % limit ∧ z % limit < limit := fun z => ⟨Int.emod_nonneg _ (by omega), Int.emod_lt_of_pos _ (by omega)⟩
    have nt : ∀ z : Int, ((z % limit).toNat : Int) = z % limit := fun z => Int.toNat_of_nonneg (nn z).1
    dsimp only [sVar, sCst, sBin, sUn, sTB, sNotT, sAndT, sOrT, sAndV, sOrV, sNotV, sIfE, sNil, sCons, sTup, sLst, sCallB, sSeq, sSkip, sDrop, sRet, sRetN, sBrk, sCnt, sIf, sSet, gN, gsNil, gsCons, gT, sAsg, sFor, sWhile, sIt, sItA, sLc, sYes, sCall, sCallK, sMethK, sNewK, oview, sFld, sMeth, sNew, sPutNew, sPutOld, sPutL, sAug, sChain, sNoP, sPart, sSl, isT, sIsi, sApp, sRaise, sTry, exTry, ksAs, envAs, sXf, look, wipeE, List.set, List.map, List.replicate, id, perm, List.filterMap, List.length_cons, List.length_nil, List.nil_append, List.cons_append, Nat.sub_self, Nat.reduceAdd, Nat.reduceSub, newL_f, newL_t, oAdd_i, oAdd_s, oAdd_t, oAdd_l, oMul_i, oSub_i, oFdiv_i, oMod_i, oPow_i, oLt_i, oLe_i, oGt_i, oGe_i, oNeg_i, oAddI_i, oEq_ii, oEq_ss, oEq_bb, oEq_nn, oEq_ni, oEq_in, oEq_ns, oEq_sn, oEq_is, oEq_si, oNe_ii, oNe_ss, oNe_bb, oIs_n, oIs_b, oIsNot_n, oIsNot_b, isNon_n, isNon_i, isNon_b, isNon_s, isNon_t, isNon_l, isNon_r, isBl_n, isBl_i, isBl_b, isBl_s, isBl_t, isBl_l, isBl_r, oIx_t, oIx_l, oIx_s, oLen_t, oLen_l, oLen_c, oLen_s, oAbs_i, oInt_i, oInt_b, oMax2_i, oMin2_i, oGcd_i, oIter_t, oIter_l, oIter_c, oRng1_i, oRng2_i, oRng2G_i, oSl_t, oSl_l, oSl_c, oIsi_n, oIsi_b, oIsi_i, oIsi_s, oIsi_t, oIsi_l]
    refine ix_ref (get_set_self hp) at4_2 ?_
    try dsimp only [isT, look, List.length_cons, List.length_nil, List.nil_append, List.cons_append, Nat.sub_self, newL_f, newL_t, oAdd_i, oAdd_s, oAdd_t, oAdd_l, oMul_i, oSub_i, oFdiv_i, oMod_i, oPow_i, oLt_i, oLe_i, oGt_i, oGe_i, oNeg_i, oAddI_i, oEq_ii, oEq_ss, oEq_bb, oEq_nn, oEq_ni, oEq_in, oEq_ns, oEq_sn, oEq_is, oEq_si, oNe_ii, oNe_ss, oNe_bb, oIs_n, oIs_b, oIsNot_n, oIsNot_b, isNon_n, isNon_i, isNon_b, isNon_s, isNon_t, isNon_l, isNon_r, isBl_n, isBl_i, isBl_b, isBl_s, isBl_t, isBl_l, isBl_r, oIx_t, oIx_l, oIx_s, oLen_t, oLen_l, oLen_c, oLen_s, oAbs_i, oInt_i, oInt_b, oMax2_i, oMin2_i, oGcd_i, oIter_t, oIter_l, oIter_c, oRng1_i, oRng2_i, oRng2G_i, oSl_t, oSl_l, oSl_c, oIsi_n, oIsi_b, oIsi_i, oIsi_s, oIsi_t, oIsi_l, List.set, List.length_cons, List.length_nil, Nat.reduceAdd]
    by_cases hl : limit ≤ b
    · rw [decide_eq_true hl]
      try dsimp only
      refine ix_ref (get_set_self hp) at4_2 ?_
      try dsimp only [isT, look, List.length_cons, List.length_nil, List.nil_append, List.cons_append, Nat.sub_self, newL_f, newL_t, oAdd_i, oAdd_s, oAdd_t, oAdd_l, oMul_i, oSub_i, oFdiv_i, oMod_i, oPow_i, oLt_i, oLe_i, oGt_i, oGe_i, oNeg_i, oAddI_i, oEq_ii, oEq_ss, oEq_bb, oEq_nn, oEq_ni, oEq_in, oEq_ns, oEq_sn, oEq_is, oEq_si, oNe_ii, oNe_ss, oNe_bb, oIs_n, oIs_b, oIsNot_n, oIsNot_b, isNon_n, isNon_i, isNon_b, isNon_s, isNon_t, isNon_l, isNon_r, isBl_n, isBl_i, isBl_b, isBl_s, isBl_t, isBl_l, isBl_r, oIx_t, oIx_l, oIx_s, oLen_t, oLen_l, oLen_c, oLen_s, oAbs_i, oInt_i, oInt_b, oMax2_i, oMin2_i, oGcd_i, oIter_t, oIter_l, oIter_c, oRng1_i, oRng2_i, oRng2G_i, oSl_t, oSl_l, oSl_c, oIsi_n, oIsi_b, oIsi_i, oIsi_s, oIsi_t, oIsi_l, List.set, List.length_cons, List.length_nil, Nat.reduceAdd]
      refine ⟨by omega, ?_⟩
      refine ix_ref (get_set_self hp) at4_2 ?_
      try dsimp only [isT, look, List.length_cons, List.length_nil, List.nil_append, List.cons_append, Nat.sub_self, newL_f, newL_t, oAdd_i, oAdd_s, oAdd_t, oAdd_l, oMul_i, oSub_i, oFdiv_i, oMod_i, oPow_i, oLt_i, oLe_i, oGt_i, oGe_i, oNeg_i, oAddI_i, oEq_ii, oEq_ss, oEq_bb, oEq_nn, oEq_ni, oEq_in, oEq_ns, oEq_sn, oEq_is, oEq_si, oNe_ii, oNe_ss, oNe_bb, oIs_n, oIs_b, oIsNot_n, oIsNot_b, isNon_n, isNon_i, isNon_b, isNon_s, isNon_t, isNon_l, isNon_r, isBl_n, isBl_i, isBl_b, isBl_s, isBl_t, isBl_l, isBl_r, oIx_t, oIx_l, oIx_s, oLen_t, oLen_l, oLen_c, oLen_s, oAbs_i, oInt_i, oInt_b, oMax2_i, oMin2_i, oGcd_i, oIter_t, oIter_l, oIter_c, oRng1_i, oRng2_i, oRng2G_i, oSl_t, oSl_l, oSl_c, oIsi_n, oIsi_b, oIsi_i, oIsi_s, oIsi_t, oIsi_l, List.set, List.length_cons, List.length_nil, Nat.reduceAdd]
      refine ⟨div_ok (by omega) h2, ?_⟩
      refine put_ref (get_set_self hp) rfl ?_
      rw [List.set_set]
      have z := h (b % limit).toNat (.lst [.lst (ns.map D.int), .int i, .int (b / limit), .int s]) (by rw [nt]; exact (nn b).2) ⟨ns, i, _, _, rfl, Int.ediv_nonneg hb (by omega), hs, hsM⟩
      rw [nt] at z
      exact z
    · rw [decide_eq_false hl]
      try dsimp only
      refine ix_ref (get_set_self hp) at4_3 ?_
      try dsimp only [isT, look, List.length_cons, List.length_nil, List.nil_append, List.cons_append, Nat.sub_self, newL_f, newL_t, oAdd_i, oAdd_s, oAdd_t, oAdd_l, oMul_i, oSub_i, oFdiv_i, oMod_i, oPow_i, oLt_i, oLe_i, oGt_i, oGe_i, oNeg_i, oAddI_i, oEq_ii, oEq_ss, oEq_bb, oEq_nn, oEq_ni, oEq_in, oEq_ns, oEq_sn, oEq_is, oEq_si, oNe_ii, oNe_ss, oNe_bb, oIs_n, oIs_b, oIsNot_n, oIsNot_b, isNon_n, isNon_i, isNon_b, isNon_s, isNon_t, isNon_l, isNon_r, isBl_n, isBl_i, isBl_b, isBl_s, isBl_t, isBl_l, isBl_r, oIx_t, oIx_l, oIx_s, oLen_t, oLen_l, oLen_c, oLen_s, oAbs_i, oInt_i, oInt_b, oMax2_i, oMin2_i, oGcd_i, oIter_t, oIter_l, oIter_c, oRng1_i, oRng2_i, oRng2G_i, oSl_t, oSl_l, oSl_c, oIsi_n, oIsi_b, oIsi_i, oIsi_s, oIsi_t, oIsi_l, List.set, List.length_cons, List.length_nil, Nat.reduceAdd]
      refine ⟨div_ok (by decide) (by omega), by omega, ?_⟩
      have z := h (s / 1048576 % limit).toNat (.lst [.lst (ns.map D.int), .int i, .int b, .int s]) (by rw [nt]; exact (nn _).2) ⟨ns, i, _, _, rfl, hb, hs, hsM⟩
      rw [nt] at z
      exact z

/-! _law_same of a datum and itself -/
def SD : Nat → D → Prop
  | 0, d => match d with
    | .non => True | .bl _ => True | .int _ => True | .str _ => True | _ => False
  | n + 1, d => match d with
    | .non => True | .bl _ => True | .int _ => True | .str _ => True
    | .tup ds => ds.length < 16777217 ∧ ∀ x ∈ ds, SD n x
    | .lst ds => ds.length < 16777217 ∧ ∀ x ∈ ds, SD n x
    | _ => False
theorem SD.scal : ∀ {n : Nat} {d : D}, SD 0 d → SD n d
  | 0, _, h => h
  | n + 1, .non, _ => trivial
  | n + 1, .bl _, _ => trivial
  | n + 1, .int _, _ => trivial
  | n + 1, .str _, _ => trivial
theorem same_loop {n : Nat} {ds : List D} {d : D} (hd : d = .tup ds ∨ d = .lst ds) (hs : ∀ x ∈ ds, SD n x) (ih : ∀ {x : D} {kd : KD} {kx : KX}, SD n x → kd (.bl true) vh → callN T (k + n + 1) i__law_same [x, x] vh kx kd) {kd : KD} {K0 : KS} (hK : K0.rt = finD .pure vh kd) (h : kd (.bl true) vh) {x : Option D} :
    forL (gN 2) (sIf (sNotT (sTB (sCall (callN T (k + n + 1)) i__law_same (sCons (sBin oIx (sVar 0) (sVar 2)) (sCons (sBin oIx (sVar 1) (sVar 2)) sNil))))) (sRet (sCst (.bl false))) sSkip) always (rngL 0 ds.length) [some d, some d, x] vh { K0 with nx := fun env' vh' => sRet (sCst (.bl true)) env' vh' K0 } := by
  refine forL_inv (fun _ env vh' => vh' = vh ∧ ∃ x, env = [some d, some d, x]) (fun _ _ _ _ => trivial) ?_ ?_ ⟨rfl, x, rfl⟩
  · rintro i e env vh' nx he ⟨rfl, x, rfl⟩ hI
    obtain ⟨hi, rfl⟩ := rng_get he
    have hi2 : ds[i]? = some ds[i] := List.getElem?_eq_getElem hi
    have ha : atI ds ((0 : Int) + i) = some ds[i] := by rw [Int.zero_add]; exact at_nat hi2
    have hx : oIx d (.int ((0 : Int) + i)) vh' = fun kd => ∃ z, atI ds ((0 : Int) + i) = some z ∧ kd z vh' := by
      rcases hd with rfl | rfl <;> rfl
    dsimp only [sVar, sCst, sBin, sUn, sTB, sNotT, sAndT, sOrT, sAndV, sOrV, sNotV, sIfE, sNil, sCons, sTup, sLst, sCallB, sSeq, sSkip, sDrop, sRet, sRetN, sBrk, sCnt, sIf, sSet, gN, gsNil, gsCons, gT, sAsg, sFor, sWhile, sIt, sItA, sLc, sYes, sCall, sCallK, sMethK, sNewK, oview, sFld, sMeth, sNew, sPutNew, sPutOld, sPutL, sAug, sChain, sNoP, sPart, sSl, isT, sIsi, sApp, sRaise, sTry, exTry, ksAs, envAs, sXf, look, wipeE, List.set, List.map, List.replicate, id, perm, List.filterMap, List.length_cons, List.length_nil, List.nil_append, List.cons_append, Nat.sub_self, Nat.reduceAdd, Nat.reduceSub, newL_f, newL_t, oAdd_i, oAdd_s, oAdd_t, oAdd_l, oMul_i, oSub_i, oFdiv_i, oMod_i, oPow_i, oLt_i, oLe_i, oGt_i, oGe_i, oNeg_i, oAddI_i, oEq_ii, oEq_ss, oEq_bb, oEq_nn, oEq_ni, oEq_in, oEq_ns, oEq_sn, oEq_is, oEq_si, oNe_ii, oNe_ss, oNe_bb, oIs_n, oIs_b, oIsNot_n, oIsNot_b, isNon_n, isNon_i, isNon_b, isNon_s, isNon_t, isNon_l, isNon_r, isBl_n, isBl_i, isBl_b, isBl_s, isBl_t, isBl_l, isBl_r, oIx_t, oIx_l, oIx_s, oLen_t, oLen_l, oLen_c, oLen_s, oAbs_i, oInt_i, oInt_b, oMax2_i, oMin2_i, oGcd_i, oIter_t, oIter_l, oIter_c, oRng1_i, oRng2_i, oRng2G_i, oSl_t, oSl_l, oSl_c, oIsi_n, oIsi_b, oIsi_i, oIsi_s, oIsi_t, oIsi_l]
    rw [hx]
    refine ⟨_, ha, ?_⟩
    try dsimp only
    rw [hx]
    refine ⟨_, ha, ?_⟩
    refine ih (hs _ (List.getElem_mem hi)) ?_
    exact hI _ _ ⟨rfl, _, rfl⟩
  · rintro env vh' ⟨rfl, x, rfl⟩
    show K0.rt (.bl true) vh'
    rw [hK]
    exact fin_pure low_bl h
theorem sp_same : ∀ (n : Nat) {d : D} {kd : KD} {kx : KX}, SD n d → kd (.bl true) vh → callN T (k + n + 1) i__law_same [d, d] vh kx kd := by
  intro n
  induction n with
  | zero =>
    intro d kd kx hd h
    refine enter (fn := fn__law_same) rfl rfl rfl rfl ?_
    dsimp only [fn__law_same, sem__law_same, sVar, sCst, sBin, sUn, sTB, sNotT, sAndT, sOrT, sAndV, sOrV, sNotV, sIfE, sNil, sCons, sTup, sLst, sCallB, sSeq, sSkip, sDrop, sRet, sRetN, sBrk, sCnt, sIf, sSet, gN, gsNil, gsCons, gT, sAsg, sFor, sWhile, sIt, sItA, sLc, sYes, sCall, sCallK, sMethK, sNewK, oview, sFld, sMeth, sNew, sPutNew, sPutOld, sPutL, sAug, sChain, sNoP, sPart, sSl, isT, sIsi, sApp, sRaise, sTry, exTry, ksAs, envAs, sXf, look, wipeE, List.set, List.map, List.replicate, id, perm, List.filterMap, List.length_cons, List.length_nil, List.nil_append, List.cons_append, Nat.sub_self, Nat.reduceAdd, Nat.reduceSub, newL_f, newL_t, oAdd_i, oAdd_s, oAdd_t, oAdd_l, oMul_i, oSub_i, oFdiv_i, oMod_i, oPow_i, oLt_i, oLe_i, oGt_i, oGe_i, oNeg_i, oAddI_i, oEq_ii, oEq_ss, oEq_bb, oEq_nn, oEq_ni, oEq_in, oEq_ns, oEq_sn, oEq_is, oEq_si, oNe_ii, oNe_ss, oNe_bb, oIs_n, oIs_b, oIsNot_n, oIsNot_b, isNon_n, isNon_i, isNon_b, isNon_s, isNon_t, isNon_l, isNon_r, isBl_n, isBl_i, isBl_b, isBl_s, isBl_t, isBl_l, isBl_r, oIx_t, oIx_l, oIx_s, oLen_t, oLen_l, oLen_c, oLen_s, oAbs_i, oInt_i, oInt_b, oMax2_i, oMin2_i, oGcd_i, oIter_t, oIter_l, oIter_c, oRng1_i, oRng2_i, oRng2G_i, oSl_t, oSl_l, oSl_c, oIsi_n, oIsi_b, oIsi_i, oIsi_s, oIsi_t, oIsi_l]
    cases d with
    | non => exact fin_pure low_bl h
    | bl b => cases b <;> exact fin_pure low_bl h
    | int i =>
      try dsimp only [isT, look, List.length_cons, List.length_nil, List.nil_append, List.cons_append, Nat.sub_self, newL_f, newL_t, oAdd_i, oAdd_s, oAdd_t, oAdd_l, oMul_i, oSub_i, oFdiv_i, oMod_i, oPow_i, oLt_i, oLe_i, oGt_i, oGe_i, oNeg_i, oAddI_i, oEq_ii, oEq_ss, oEq_bb, oEq_nn, oEq_ni, oEq_in, oEq_ns, oEq_sn, oEq_is, oEq_si, oNe_ii, oNe_ss, oNe_bb, oIs_n, oIs_b, oIsNot_n, oIsNot_b, isNon_n, isNon_i, isNon_b, isNon_s, isNon_t, isNon_l, isNon_r, isBl_n, isBl_i, isBl_b, isBl_s, isBl_t, isBl_l, isBl_r, oIx_t, oIx_l, oIx_s, oLen_t, oLen_l, oLen_c, oLen_s, oAbs_i, oInt_i, oInt_b, oMax2_i, oMin2_i, oGcd_i, oIter_t, oIter_l, oIter_c, oRng1_i, oRng2_i, oRng2G_i, oSl_t, oSl_l, oSl_c, oIsi_n, oIsi_b, oIsi_i, oIsi_s, oIsi_t, oIsi_l, List.set, List.length_cons, List.length_nil, Nat.reduceAdd]
      rw [beq_self_eq_true]
      exact fin_pure low_bl h
    | str x =>
      try dsimp only [isT, look, List.length_cons, List.length_nil, List.nil_append, List.cons_append, Nat.sub_self, newL_f, newL_t, oAdd_i, oAdd_s, oAdd_t, oAdd_l, oMul_i, oSub_i, oFdiv_i, oMod_i, oPow_i, oLt_i, oLe_i, oGt_i, oGe_i, oNeg_i, oAddI_i, oEq_ii, oEq_ss, oEq_bb, oEq_nn, oEq_ni, oEq_in, oEq_ns, oEq_sn, oEq_is, oEq_si, oNe_ii, oNe_ss, oNe_bb, oIs_n, oIs_b, oIsNot_n, oIsNot_b, isNon_n, isNon_i, isNon_b, isNon_s, isNon_t, isNon_l, isNon_r, isBl_n, isBl_i, isBl_b, isBl_s, isBl_t, isBl_l, isBl_r, oIx_t, oIx_l, oIx_s, oLen_t, oLen_l, oLen_c, oLen_s, oAbs_i, oInt_i, oInt_b, oMax2_i, oMin2_i, oGcd_i, oIter_t, oIter_l, oIter_c, oRng1_i, oRng2_i, oRng2G_i, oSl_t, oSl_l, oSl_c, oIsi_n, oIsi_b, oIsi_i, oIsi_s, oIsi_t, oIsi_l, List.set, List.length_cons, List.length_nil, Nat.reduceAdd]
      rw [beq_self_eq_true]
      exact fin_pure low_bl h
    | _ => exact hd.elim
  | succ n ih =>
    intro d kd kx hd h
    refine enter (fn := fn__law_same) rfl rfl rfl rfl ?_
    dsimp only [fn__law_same, sem__law_same]
    cases d with
    | non => exact fin_pure low_bl h
    | bl b => cases b <;> exact fin_pure low_bl h
    | int i =>
      dsimp only [sVar, sCst, sBin, sUn, sTB, sNotT, sAndT, sOrT, sAndV, sOrV, sNotV, sIfE, sNil, sCons, sTup, sLst, sCallB, sSeq, sSkip, sDrop, sRet, sRetN, sBrk, sCnt, sIf, sSet, gN, gsNil, gsCons, gT, sAsg, sFor, sWhile, sIt, sItA, sLc, sYes, sCall, sCallK, sMethK, sNewK, oview, sFld, sMeth, sNew, sPutNew, sPutOld, sPutL, sAug, sChain, sNoP, sPart, sSl, isT, sIsi, sApp, sRaise, sTry, exTry, ksAs, envAs, sXf, look, wipeE, List.set, List.map, List.replicate, id, perm, List.filterMap, List.length_cons, List.length_nil, List.nil_append, List.cons_append, Nat.sub_self, Nat.reduceAdd, Nat.reduceSub, newL_f, newL_t, oAdd_i, oAdd_s, oAdd_t, oAdd_l, oMul_i, oSub_i, oFdiv_i, oMod_i, oPow_i, oLt_i, oLe_i, oGt_i, oGe_i, oNeg_i, oAddI_i, oEq_ii, oEq_ss, oEq_bb, oEq_nn, oEq_ni, oEq_in, oEq_ns, oEq_sn, oEq_is, oEq_si, oNe_ii, oNe_ss, oNe_bb, oIs_n, oIs_b, oIsNot_n, oIsNot_b, isNon_n, isNon_i, isNon_b, isNon_s, isNon_t, isNon_l, isNon_r, isBl_n, isBl_i, isBl_b, isBl_s, isBl_t, isBl_l, isBl_r, oIx_t, oIx_l, oIx_s, oLen_t, oLen_l, oLen_c, oLen_s, oAbs_i, oInt_i, oInt_b, oMax2_i, oMin2_i, oGcd_i, oIter_t, oIter_l, oIter_c, oRng1_i, oRng2_i, oRng2G_i, oSl_t, oSl_l, oSl_c, oIsi_n, oIsi_b, oIsi_i, oIsi_s, oIsi_t, oIsi_l]
      rw [beq_self_eq_true]
      exact fin_pure low_bl h
    | str x =>
      dsimp only [sVar, sCst, sBin, sUn, sTB, sNotT, sAndT, sOrT, sAndV, sOrV, sNotV, sIfE, sNil, sCons, sTup, sLst, sCallB, sSeq, sSkip, sDrop, sRet, sRetN, sBrk, sCnt, sIf, sSet, gN, gsNil, gsCons, gT, sAsg, sFor, sWhile, sIt, sItA, sLc, sYes, sCall, sCallK, sMethK, sNewK, oview, sFld, sMeth, sNew, sPutNew, sPutOld, sPutL, sAug, sChain, sNoP, sPart, sSl, isT, sIsi, sApp, sRaise, sTry, exTry, ksAs, envAs, sXf, look, wipeE, List.set, List.map, List.replicate, id, perm, List.filterMap, List.length_cons, List.length_nil, List.nil_append, List.cons_append, Nat.sub_self, Nat.reduceAdd, Nat.reduceSub, newL_f, newL_t, oAdd_i, oAdd_s, oAdd_t, oAdd_l, oMul_i, oSub_i, oFdiv_i, oMod_i, oPow_i, oLt_i, oLe_i, oGt_i, oGe_i, oNeg_i, oAddI_i, oEq_ii, oEq_ss, oEq_bb, oEq_nn, oEq_ni, oEq_in, oEq_ns, oEq_sn, oEq_is, oEq_si, oNe_ii, oNe_ss, oNe_bb, oIs_n, oIs_b, oIsNot_n, oIsNot_b, isNon_n, isNon_i, isNon_b, isNon_s, isNon_t, isNon_l, isNon_r, isBl_n, isBl_i, isBl_b, isBl_s, isBl_t, isBl_l, isBl_r, oIx_t, oIx_l, oIx_s, oLen_t, oLen_l, oLen_c, oLen_s, oAbs_i, oInt_i, oInt_b, oMax2_i, oMin2_i, oGcd_i, oIter_t, oIter_l, oIter_c, oRng1_i, oRng2_i, oRng2G_i, oSl_t, oSl_l, oSl_c, oIsi_n, oIsi_b, oIsi_i, oIsi_s, oIsi_t, oIsi_l]
      rw [beq_self_eq_true]
      exact fin_pure low_bl h
    | tup ds =>
      obtain ⟨hl, hs⟩ := hd
      dsimp only [sVar, sCst, sBin, sUn, sTB, sNotT, sAndT, sOrT, sAndV, sOrV, sNotV, sIfE, sNil, sCons, sTup, sLst, sCallB, sSeq, sSkip, sDrop, sRet, sRetN, sBrk, sCnt, sIf, sSet, gN, gsNil, gsCons, gT, sAsg, sFor, sWhile, sIt, sItA, sLc, sYes, sCall, sCallK, sMethK, sNewK, oview, sFld, sMeth, sNew, sPutNew, sPutOld, sPutL, sAug, sChain, sNoP, sPart, sSl, isT, sIsi, sApp, sRaise, sTry, exTry, ksAs, envAs, sXf, look, wipeE, List.set, List.map, List.replicate, id, perm, List.filterMap, List.length_cons, List.length_nil, List.nil_append, List.cons_append, Nat.sub_self, Nat.reduceAdd, Nat.reduceSub, newL_f, newL_t, oAdd_i, oAdd_s, oAdd_t, oAdd_l, oMul_i, oSub_i, oFdiv_i, oMod_i, oPow_i, oLt_i, oLe_i, oGt_i, oGe_i, oNeg_i, oAddI_i, oEq_ii, oEq_ss, oEq_bb, oEq_nn, oEq_ni, oEq_in, oEq_ns, oEq_sn, oEq_is, oEq_si, oNe_ii, oNe_ss, oNe_bb, oIs_n, oIs_b, oIsNot_n, oIsNot_b, isNon_n, isNon_i, isNon_b, isNon_s, isNon_t, isNon_l, isNon_r, isBl_n, isBl_i, isBl_b, isBl_s, isBl_t, isBl_l, isBl_r, oIx_t, oIx_l, oIx_s, oLen_t, oLen_l, oLen_c, oLen_s, oAbs_i, oInt_i, oInt_b, oMax2_i, oMin2_i, oGcd_i, oIter_t, oIter_l, oIter_c, oRng1_i, oRng2_i, oRng2G_i, oSl_t, oSl_l, oSl_c, oIsi_n, oIsi_b, oIsi_i, oIsi_s, oIsi_t, oIsi_l]
      simp only [beq_self_eq_true, Bool.not_true, Int.toNat_natCast]
      refine ⟨by omega, by omega, ?_⟩
      exact same_loop (K0 := ⟨fun _ _ => False, finD .pure vh kd, _, _, _⟩) (.inl rfl) hs ih rfl h
    | lst ds =>
      obtain ⟨hl, hs⟩ := hd
      dsimp only [sVar, sCst, sBin, sUn, sTB, sNotT, sAndT, sOrT, sAndV, sOrV, sNotV, sIfE, sNil, sCons, sTup, sLst, sCallB, sSeq, sSkip, sDrop, sRet, sRetN, sBrk, sCnt, sIf, sSet, gN, gsNil, gsCons, gT, sAsg, sFor, sWhile, sIt, sItA, sLc, sYes, sCall, sCallK, sMethK, sNewK, oview, sFld, sMeth, sNew, sPutNew, sPutOld, sPutL, sAug, sChain, sNoP, sPart, sSl, isT, sIsi, sApp, sRaise, sTry, exTry, ksAs, envAs, sXf, look, wipeE, List.set, List.map, List.replicate, id, perm, List.filterMap, List.length_cons, List.length_nil, List.nil_append, List.cons_append, Nat.sub_self, Nat.reduceAdd, Nat.reduceSub, newL_f, newL_t, oAdd_i, oAdd_s, oAdd_t, oAdd_l, oMul_i, oSub_i, oFdiv_i, oMod_i, oPow_i, oLt_i, oLe_i, oGt_i, oGe_i, oNeg_i, oAddI_i, oEq_ii, oEq_ss, oEq_bb, oEq_nn, oEq_ni, oEq_in, oEq_ns, oEq_sn, oEq_is, oEq_si, oNe_ii, oNe_ss, oNe_bb, oIs_n, oIs_b, oIsNot_n, oIsNot_b, isNon_n, isNon_i, isNon_b, isNon_s, isNon_t, isNon_l, isNon_r, isBl_n, isBl_i, isBl_b, isBl_s, isBl_t, isBl_l, isBl_r, oIx_t, oIx_l, oIx_s, oLen_t, oLen_l, oLen_c, oLen_s, oAbs_i, oInt_i, oInt_b, oMax2_i, oMin2_i, oGcd_i, oIter_t, oIter_l, oIter_c, oRng1_i, oRng2_i, oRng2G_i, oSl_t, oSl_l, oSl_c, oIsi_n, oIsi_b, oIsi_i, oIsi_s, oIsi_t, oIsi_l]
      simp only [beq_self_eq_true, Bool.not_true, Int.toNat_natCast]
      refine ⟨by omega, by omega, ?_⟩
      exact same_loop (K0 := ⟨fun _ _ => False, finD .pure vh kd, _, _, _⟩) (.inr rfl) hs ih rfl h
    | _ => exact hd.elim

/-! plain lemmas and the first cell -/
theorem fibs_big : 10 ^ 36 < (fibs 200).1 := by decide +kernel
theorem low_fr {n : Nat} {a b : Nat} : low n (fr a b) := low_two
theorem sp_draw1 {limit : Int} {c : Cell} (hc : PoolOk c) (h1 : 1 ≤ limit) (h2 : limit < 2 ^ 1000) (h : ∀ (r : Nat) c', (r : Int) < limit → PoolOk c' → kd (.int r) [c']) : callN T (k + 1) i__law_draw [.ref 0, .int limit] [c] kx kd := sp_draw (vh := [c]) rfl hc h1 h2 h
theorem gcd_div {a b : Nat} (hb : 1 ≤ b) : 1 ≤ b / Nat.gcd a b ∧ Nat.gcd (a / Nat.gcd a b) (b / Nat.gcd a b) = 1 := by
  have hg := gcd_pos (a := a) hb
  refine ⟨?_, Nat.gcd_div_gcd_div_gcd_of_pos_right hb⟩
  exact (Nat.one_le_div_iff hg).mpr (gcd_le hb)
theorem nat_eq {a b : Nat} : ((a : Int) == (b : Int)) = decide (a = b) := by
  rw [Bool.eq_iff_iff, beq_iff_eq, decide_eq_true_iff]
  omega
theorem frL_scale {g a b : Nat} (hg : 0 < g) : frL (g * a) (g * b) = frL a b := by
  unfold frL
  rw [Nat.gcd_mul_left, Nat.mul_div_mul_left _ _ hg, Nat.mul_div_mul_left _ _ hg]
theorem b200 {a b : Nat} (h1 : a < 2 ^ 200) (h2 : b < 2 ^ 200) : a * b < 2 ^ 400 := by
  have := Nat.mul_lt_mul'' h1 h2
  have e : (2 : Nat) ^ 200 * 2 ^ 200 = 2 ^ 400 := by rw [← Nat.pow_add]
  omega
theorem m200 {a b : Nat} (h1 : a < 2 ^ 200) (h2 : b < 2 ^ 200) : VI.MulOk a b := mul_nat (by omega) (by omega)
theorem SD_fr {a b : Nat} : SD 1 (fr a b) := by
  refine ⟨by show 2 < 16777217; omega, fun x hx => ?_⟩
  rcases List.mem_cons.mp hx with rfl | hx
  · trivial
  · rcases List.mem_cons.mp hx with rfl | hx
    · trivial
    · cases hx
theorem sp_same_fr {a b : Nat} (h : kd (.bl true) vh) : callN T (k + 2) i__law_same [fr a b, fr a b] vh kx kd := sp_same 1 SD_fr h
theorem sp_same_int {a : Int} (h : kd (.bl true) vh) : callN T (k + 1) i__law_same [.int a, .int a] vh kx kd := sp_same 0 trivial h
theorem sp_same_bl {a : Bool} (h : kd (.bl true) vh) : callN T (k + 1) i__law_same [.bl a, .bl a] vh kx kd := sp_same 0 trivial h

/-! what is no fraction -/
def frB : D → D → Bool
  | .int a, .int b => decide (0 ≤ a) && (!decide (b < 1) && (((Nat.gcd a.natAbs b.natAbs : Nat) : Int) == 1))
  | _, _ => false
def badFr : D → Bool
  | .non => true | .bl _ => true | .int _ => true | .str _ => true | .lst _ => true
  | .tup [x, y] => pl x && (pl y && !frB x y)
  | .tup ds => !(((ds.length : Nat) : Int) == 2)
  | _ => false
theorem sp_frac2 {x y : D} (hx : pl x = true) (hy : pl y = true) (hf : frB x y = false) (h : kd (.bl false) vh) : callN T (k + 3) i_is_fraction [.tup [x, y]] vh kx kd := by
  refine enter (fn := fn_is_fraction) rfl rfl rfl rfl ?_
  dsimp only [fn_is_fraction, sem_is_fraction, sVar, sCst, sBin, sUn, sTB, sNotT, sAndT, sOrT, sAndV, sOrV, sNotV, sIfE, sNil, sCons, sTup, sLst, sCallB, sSeq, sSkip, sDrop, sRet, sRetN, sBrk, sCnt, sIf, sSet, gN, gsNil, gsCons, gT, sAsg, sFor, sWhile, sIt, sItA, sLc, sYes, sCall, sCallK, sMethK, sNewK, oview, sFld, sMeth, sNew, sPutNew, sPutOld, sPutL, sAug, sChain, sNoP, sPart, sSl, isT, sIsi, sApp, sRaise, sTry, exTry, ksAs, envAs, sXf, look, wipeE, List.set, List.map, List.replicate, id, perm, List.filterMap, List.length_cons, List.length_nil, List.nil_append, List.cons_append, Nat.sub_self, Nat.reduceAdd, Nat.reduceSub, newL_f, newL_t, oAdd_i, oAdd_s, oAdd_t, oAdd_l, oMul_i, oSub_i, oFdiv_i, oMod_i, oPow_i, oLt_i, oLe_i, oGt_i, oGe_i, oNeg_i, oAddI_i, oEq_ii, oEq_ss, oEq_bb, oEq_nn, oEq_ni, oEq_in, oEq_ns, oEq_sn, oEq_is, oEq_si, oNe_ii, oNe_ss, oNe_bb, oIs_n, oIs_b, oIsNot_n, oIsNot_b, isNon_n, isNon_i, isNon_b, isNon_s, isNon_t, isNon_l, isNon_r, isBl_n, isBl_i, isBl_b, isBl_s, isBl_t, isBl_l, isBl_r, oIx_t, oIx_l, oIx_s, oLen_t, oLen_l, oLen_c, oLen_s, oAbs_i, oInt_i, oInt_b, oMax2_i, oMin2_i, oGcd_i, oIter_t, oIter_l, oIter_c, oRng1_i, oRng2_i, oRng2G_i, oSl_t, oSl_l, oSl_c, oIsi_n, oIsi_b, oIsi_i, oIsi_s, oIsi_t, oIsi_l]
  refine ⟨rfl, rfl, sp_is_number hx ?_⟩
  cases hn : isNum x with
  | false => exact fin_pure low_bl h
  | true =>
    try dsimp only
    refine sp_is_integer hy ?_
    cases hi : isInt y with
    | false => exact fin_pure low_bl h
    | true =>
      cases x <;> first | cases hn | skip
      cases y <;> first | cases hi | skip
      rename_i a b
      try dsimp only [isT, look, List.length_cons, List.length_nil, List.nil_append, List.cons_append, Nat.sub_self, newL_f, newL_t, oAdd_i, oAdd_s, oAdd_t, oAdd_l, oMul_i, oSub_i, oFdiv_i, oMod_i, oPow_i, oLt_i, oLe_i, oGt_i, oGe_i, oNeg_i, oAddI_i, oEq_ii, oEq_ss, oEq_bb, oEq_nn, oEq_ni, oEq_in, oEq_ns, oEq_sn, oEq_is, oEq_si, oNe_ii, oNe_ss, oNe_bb, oIs_n, oIs_b, oIsNot_n, oIsNot_b, isNon_n, isNon_i, isNon_b, isNon_s, isNon_t, isNon_l, isNon_r, isBl_n, isBl_i, isBl_b, isBl_s, isBl_t, isBl_l, isBl_r, oIx_t, oIx_l, oIx_s, oLen_t, oLen_l, oLen_c, oLen_s, oAbs_i, oInt_i, oInt_b, oMax2_i, oMin2_i, oGcd_i, oIter_t, oIter_l, oIter_c, oRng1_i, oRng2_i, oRng2G_i, oSl_t, oSl_l, oSl_c, oIsi_n, oIsi_b, oIsi_i, oIsi_s, oIsi_t, oIsi_l, List.set, List.length_cons, List.length_nil, Nat.reduceAdd]
      have ha : decide (0 ≤ a) = true := hn
      have hf : (decide (0 ≤ a) && (!decide (b < 1) && (((Nat.gcd a.natAbs b.natAbs : Nat) : Int) == 1))) = false := hf
      rw [ha, Bool.true_and] at hf
      by_cases hb : b < 1
      · rw [decide_eq_true hb]
        exact fin_pure low_bl h
      · rw [decide_eq_false hb] at hf ⊢
        rw [Bool.not_false, Bool.true_and] at hf
        try dsimp only [isT, look, List.length_cons, List.length_nil, List.nil_append, List.cons_append, Nat.sub_self, newL_f, newL_t, oAdd_i, oAdd_s, oAdd_t, oAdd_l, oMul_i, oSub_i, oFdiv_i, oMod_i, oPow_i, oLt_i, oLe_i, oGt_i, oGe_i, oNeg_i, oAddI_i, oEq_ii, oEq_ss, oEq_bb, oEq_nn, oEq_ni, oEq_in, oEq_ns, oEq_sn, oEq_is, oEq_si, oNe_ii, oNe_ss, oNe_bb, oIs_n, oIs_b, oIsNot_n, oIsNot_b, isNon_n, isNon_i, isNon_b, isNon_s, isNon_t, isNon_l, isNon_r, isBl_n, isBl_i, isBl_b, isBl_s, isBl_t, isBl_l, isBl_r, oIx_t, oIx_l, oIx_s, oLen_t, oLen_l, oLen_c, oLen_s, oAbs_i, oInt_i, oInt_b, oMax2_i, oMin2_i, oGcd_i, oIter_t, oIter_l, oIter_c, oRng1_i, oRng2_i, oRng2G_i, oSl_t, oSl_l, oSl_c, oIsi_n, oIsi_b, oIsi_i, oIsi_s, oIsi_t, oIsi_l, List.set, List.length_cons, List.length_nil, Nat.reduceAdd]
        rw [hf]
        exact fin_pure low_bl h
theorem sp_bad {d : D} (hd : badFr d = true) (h : kd (.bl false) vh) : callN T (k + 3) i_is_fraction [d] vh kx kd := by
  have flat : (∀ ds, d ≠ .tup ds) → callN T (k + 3) i_is_fraction [d] vh kx kd := fun hn => by
    refine enter (fn := fn_is_fraction) rfl rfl rfl rfl ?_
    dsimp only [fn_is_fraction, sem_is_fraction, sVar, sCst, sBin, sUn, sTB, sNotT, sAndT, sOrT, sAndV, sOrV, sNotV, sIfE, sNil, sCons, sTup, sLst, sCallB, sSeq, sSkip, sDrop, sRet, sRetN, sBrk, sCnt, sIf, sSet, gN, gsNil, gsCons, gT, sAsg, sFor, sWhile, sIt, sItA, sLc, sYes, sCall, sCallK, sMethK, sNewK, oview, sFld, sMeth, sNew, sPutNew, sPutOld, sPutL, sAug, sChain, sNoP, sPart, sSl, isT, sIsi, sApp, sRaise, sTry, exTry, ksAs, envAs, sXf, look, wipeE, List.set, List.map, List.replicate, id, perm, List.filterMap, List.length_cons, List.length_nil, List.nil_append, List.cons_append, Nat.sub_self, Nat.reduceAdd, Nat.reduceSub, newL_f, newL_t, oAdd_i, oAdd_s, oAdd_t, oAdd_l, oMul_i, oSub_i, oFdiv_i, oMod_i, oPow_i, oLt_i, oLe_i, oGt_i, oGe_i, oNeg_i, oAddI_i, oEq_ii, oEq_ss, oEq_bb, oEq_nn, oEq_ni, oEq_in, oEq_ns, oEq_sn, oEq_is, oEq_si, oNe_ii, oNe_ss, oNe_bb, oIs_n, oIs_b, oIsNot_n, oIsNot_b, isNon_n, isNon_i, isNon_b, isNon_s, isNon_t, isNon_l, isNon_r, isBl_n, isBl_i, isBl_b, isBl_s, isBl_t, isBl_l, isBl_r, oIx_t, oIx_l, oIx_s, oLen_t, oLen_l, oLen_c, oLen_s, oAbs_i, oInt_i, oInt_b, oMax2_i, oMin2_i, oGcd_i, oIter_t, oIter_l, oIter_c, oRng1_i, oRng2_i, oRng2G_i, oSl_t, oSl_l, oSl_c, oIsi_n, oIsi_b, oIsi_i, oIsi_s, oIsi_t, oIsi_l]
    cases d <;> first | exact absurd hd Bool.false_ne_true | exact absurd rfl (hn _) | exact fin_pure low_bl h
  have long : ∀ ds, d = .tup ds → (((ds.length : Nat) : Int) == 2) = false → callN T (k + 3) i_is_fraction [d] vh kx kd := fun ds e hl => by
    subst e
    refine enter (fn := fn_is_fraction) rfl rfl rfl rfl ?_
    dsimp only [fn_is_fraction, sem_is_fraction, sVar, sCst, sBin, sUn, sTB, sNotT, sAndT, sOrT, sAndV, sOrV, sNotV, sIfE, sNil, sCons, sTup, sLst, sCallB, sSeq, sSkip, sDrop, sRet, sRetN, sBrk, sCnt, sIf, sSet, gN, gsNil, gsCons, gT, sAsg, sFor, sWhile, sIt, sItA, sLc, sYes, sCall, sCallK, sMethK, sNewK, oview, sFld, sMeth, sNew, sPutNew, sPutOld, sPutL, sAug, sChain, sNoP, sPart, sSl, isT, sIsi, sApp, sRaise, sTry, exTry, ksAs, envAs, sXf, look, wipeE, List.set, List.map, List.replicate, id, perm, List.filterMap, List.length_cons, List.length_nil, List.nil_append, List.cons_append, Nat.sub_self, Nat.reduceAdd, Nat.reduceSub, newL_f, newL_t, oAdd_i, oAdd_s, oAdd_t, oAdd_l, oMul_i, oSub_i, oFdiv_i, oMod_i, oPow_i, oLt_i, oLe_i, oGt_i, oGe_i, oNeg_i, oAddI_i, oEq_ii, oEq_ss, oEq_bb, oEq_nn, oEq_ni, oEq_in, oEq_ns, oEq_sn, oEq_is, oEq_si, oNe_ii, oNe_ss, oNe_bb, oIs_n, oIs_b, oIsNot_n, oIsNot_b, isNon_n, isNon_i, isNon_b, isNon_s, isNon_t, isNon_l, isNon_r, isBl_n, isBl_i, isBl_b, isBl_s, isBl_t, isBl_l, isBl_r, oIx_t, oIx_l, oIx_s, oLen_t, oLen_l, oLen_c, oLen_s, oAbs_i, oInt_i, oInt_b, oMax2_i, oMin2_i, oGcd_i, oIter_t, oIter_l, oIter_c, oRng1_i, oRng2_i, oRng2G_i, oSl_t, oSl_l, oSl_c, oIsi_n, oIsi_b, oIsi_i, oIsi_s, oIsi_t, oIsi_l]
    rw [hl]
    exact fin_pure low_bl h
  cases d with
  | tup ds =>
    match ds, hd, long with
    | [], _, long => exact long _ rfl rfl
    | [_], _, long => exact long _ rfl rfl
    | [x, y], hd, _ =>
      simp only [badFr, Bool.and_eq_true, Bool.not_eq_true'] at hd
      exact sp_frac2 hd.1 hd.2.1 hd.2.2 h
    | a :: b :: c :: r, hd, long =>
      refine long _ rfl ?_
      simp only [badFr, Bool.not_eq_true'] at hd
      exact hd
  | _ => exact flat fun ds e => nomatch e
theorem sp_check_bad {d : D} (hd : badFr d = true) (hl : low vh.length d) (h : kx ⟨"InvalidFraction", ["value"], [d]⟩ vh) : callN T (k + 4) i_check_fraction [d] vh kx kd := by
  refine enter (fn := fn_check_fraction) rfl rfl rfl rfl ?_
  dsimp only [fn_check_fraction, sem_check_fraction, sVar, sCst, sBin, sUn, sTB, sNotT, sAndT, sOrT, sAndV, sOrV, sNotV, sIfE, sNil, sCons, sTup, sLst, sCallB, sSeq, sSkip, sDrop, sRet, sRetN, sBrk, sCnt, sIf, sSet, gN, gsNil, gsCons, gT, sAsg, sFor, sWhile, sIt, sItA, sLc, sYes, sCall, sCallK, sMethK, sNewK, oview, sFld, sMeth, sNew, sPutNew, sPutOld, sPutL, sAug, sChain, sNoP, sPart, sSl, isT, sIsi, sApp, sRaise, sTry, exTry, ksAs, envAs, sXf, look, wipeE, List.set, List.map, List.replicate, id, perm, List.filterMap, List.length_cons, List.length_nil, List.nil_append, List.cons_append, Nat.sub_self, Nat.reduceAdd, Nat.reduceSub, newL_f, newL_t, oAdd_i, oAdd_s, oAdd_t, oAdd_l, oMul_i, oSub_i, oFdiv_i, oMod_i, oPow_i, oLt_i, oLe_i, oGt_i, oGe_i, oNeg_i, oAddI_i, oEq_ii, oEq_ss, oEq_bb, oEq_nn, oEq_ni, oEq_in, oEq_ns, oEq_sn, oEq_is, oEq_si, oNe_ii, oNe_ss, oNe_bb, oIs_n, oIs_b, oIsNot_n, oIsNot_b, isNon_n, isNon_i, isNon_b, isNon_s, isNon_t, isNon_l, isNon_r, isBl_n, isBl_i, isBl_b, isBl_s, isBl_t, isBl_l, isBl_r, oIx_t, oIx_l, oIx_s, oLen_t, oLen_l, oLen_c, oLen_s, oAbs_i, oInt_i, oInt_b, oMax2_i, oMin2_i, oGcd_i, oIter_t, oIter_l, oIter_c, oRng1_i, oRng2_i, oRng2G_i, oSl_t, oSl_l, oSl_c, oIsi_n, oIsi_b, oIsi_i, oIsi_s, oIsi_t, oIsi_l]
  refine sp_bad (k := k) hd ?_
  exact ⟨rfl, finX_pure (lows_one hl) h⟩
/-! data of a depth, decided -/
def sdb : Nat → D → Bool
  | 0, .non => true | 0, .bl _ => true | 0, .int _ => true | 0, .str _ => true | 0, _ => false
  | _ + 1, .non => true | _ + 1, .bl _ => true | _ + 1, .int _ => true | _ + 1, .str _ => true
  | n + 1, .tup ds => decide (ds.length < 16777217) && ds.all (sdb n)
  | n + 1, .lst ds => decide (ds.length < 16777217) && ds.all (sdb n)
  | _ + 1, _ => false
theorem SD.of : ∀ {n : Nat} {d : D}, sdb n d = true → SD n d
  | 0, d, h => by cases d <;> first | trivial | cases h
  | n + 1, d, h => by
    cases d with
    | tup ds =>
      simp only [sdb, Bool.and_eq_true, decide_eq_true_iff, List.all_eq_true] at h
      exact ⟨h.1, fun x hx => SD.of (h.2 x hx)⟩
    | lst ds =>
      simp only [sdb, Bool.and_eq_true, decide_eq_true_iff, List.all_eq_true] at h
      exact ⟨h.1, fun x hx => SD.of (h.2 x hx)⟩
    | non => trivial
    | bl _ => trivial
    | int _ => trivial
    | str _ => trivial
    | _ => cases h
theorem lows_of {m : Nat} : ∀ {ds : List D}, (∀ x ∈ ds, low m x) → lows m ds
  | [], _ => by simp only [lows]
  | d :: r, h => by
    simp only [lows]
    exact ⟨h d List.mem_cons_self, lows_of fun x hx => h x (List.mem_cons_of_mem _ hx)⟩
theorem SD.low {m : Nat} : ∀ {n : Nat} {d : D}, SD n d → VI.low m d
  | 0, d, h => by cases d <;> first | (simp only [VI.low]; done) | exact h.elim
  | n + 1, d, h => by
    cases d with
    | tup ds =>
      simp only [VI.low]
      exact lows_of fun x hx => SD.low (h.2 x hx)
    | lst ds =>
      simp only [VI.low]
      exact lows_of fun x hx => SD.low (h.2 x hx)
    | non => simp only [VI.low]
    | bl _ => simp only [VI.low]
    | int _ => simp only [VI.low]
    | str _ => simp only [VI.low]
    | _ => exact h.elim

/-! law k05 -/
def lev : Nat := 14
theorem sp_from_to {a l m : Int} (h : kd (.bl (decide (l ≤ a) && decide (a ≤ m))) vh) : callN T (k + 2) i_is_from_to [.int a, .int l, .int m] vh kx kd := by
  refine enter (fn := fn_is_from_to) rfl rfl rfl rfl ?_
  dsimp only [fn_is_from_to, sem_is_from_to, sVar, sCst, sBin, sUn, sTB, sNotT, sAndT, sOrT, sAndV, sOrV, sNotV, sIfE, sNil, sCons, sTup, sLst, sCallB, sSeq, sSkip, sDrop, sRet, sRetN, sBrk, sCnt, sIf, sSet, gN, gsNil, gsCons, gT, sAsg, sFor, sWhile, sIt, sItA, sLc, sYes, sCall, sCallK, sMethK, sNewK, oview, sFld, sMeth, sNew, sPutNew, sPutOld, sPutL, sAug, sChain, sNoP, sPart, sSl, isT, sIsi, sApp, sRaise, sTry, exTry, ksAs, envAs, sXf, look, wipeE, List.set, List.map, List.replicate, id, perm, List.filterMap, List.length_cons, List.length_nil, List.nil_append, List.cons_append, Nat.sub_self, Nat.reduceAdd, Nat.reduceSub, newL_f, newL_t, oAdd_i, oAdd_s, oAdd_t, oAdd_l, oMul_i, oSub_i, oFdiv_i, oMod_i, oPow_i, oLt_i, oLe_i, oGt_i, oGe_i, oNeg_i, oAddI_i, oEq_ii, oEq_ss, oEq_bb, oEq_nn, oEq_ni, oEq_in, oEq_ns, oEq_sn, oEq_is, oEq_si, oNe_ii, oNe_ss, oNe_bb, oIs_n, oIs_b, oIsNot_n, oIsNot_b, isNon_n, isNon_i, isNon_b, isNon_s, isNon_t, isNon_l, isNon_r, isBl_n, isBl_i, isBl_b, isBl_s, isBl_t, isBl_l, isBl_r, oIx_t, oIx_l, oIx_s, oLen_t, oLen_l, oLen_c, oLen_s, oAbs_i, oInt_i, oInt_b, oMax2_i, oMin2_i, oGcd_i, oIter_t, oIter_l, oIter_c, oRng1_i, oRng2_i, oRng2G_i, oSl_t, oSl_l, oSl_c, oIsi_n, oIsi_b, oIsi_i, oIsi_s, oIsi_t, oIsi_l]
  refine sp_is_integer rfl ?_
  dsimp only [isInt, isT, look, List.length_cons, List.length_nil, List.nil_append, List.cons_append, Nat.sub_self, newL_f, newL_t, oAdd_i, oAdd_s, oAdd_t, oAdd_l, oMul_i, oSub_i, oFdiv_i, oMod_i, oPow_i, oLt_i, oLe_i, oGt_i, oGe_i, oNeg_i, oAddI_i, oEq_ii, oEq_ss, oEq_bb, oEq_nn, oEq_ni, oEq_in, oEq_ns, oEq_sn, oEq_is, oEq_si, oNe_ii, oNe_ss, oNe_bb, oIs_n, oIs_b, oIsNot_n, oIsNot_b, isNon_n, isNon_i, isNon_b, isNon_s, isNon_t, isNon_l, isNon_r, isBl_n, isBl_i, isBl_b, isBl_s, isBl_t, isBl_l, isBl_r, oIx_t, oIx_l, oIx_s, oLen_t, oLen_l, oLen_c, oLen_s, oAbs_i, oInt_i, oInt_b, oMax2_i, oMin2_i, oGcd_i, oIter_t, oIter_l, oIter_c, oRng1_i, oRng2_i, oRng2G_i, oSl_t, oSl_l, oSl_c, oIsi_n, oIsi_b, oIsi_i, oIsi_s, oIsi_t, oIsi_l, List.set, List.length_cons, List.length_nil, Nat.reduceAdd]
  by_cases h1 : l ≤ a
  · rw [decide_eq_true h1] at h ⊢
    exact fin_pure low_bl h
  · rw [decide_eq_false h1] at h ⊢
    exact fin_pure low_bl h
@[reducible] def ruleD (a b : Nat) : D := .obj "Rule" ["part"] [frL a b]
theorem sp_rule {a b : Nat} (hb : 1 ≤ b) (hb2 : b ≤ 20) (ha : a ≤ b) {kd0 : KD} {kx0 : KX} (h : kd0 .non (vh ++ [.ins "Rule" ["part"] [frL a b]])) : callN T (k + 4) i_RuleU_initU [.ref vh.length, .int a, .int b] (vh ++ [.ins "Rule" [] []]) kx0 kd0 := by
  refine enter (fn := fn_RuleU_initU) rfl rfl rfl rfl ?_
  dsimp only [fn_RuleU_initU, sem_RuleU_initU, sVar, sCst, sBin, sUn, sTB, sNotT, sAndT, sOrT, sAndV, sOrV, sNotV, sIfE, sNil, sCons, sTup, sLst, sCallB, sSeq, sSkip, sDrop, sRet, sRetN, sBrk, sCnt, sIf, sSet, gN, gsNil, gsCons, gT, sAsg, sFor, sWhile, sIt, sItA, sLc, sYes, sCall, sCallK, sMethK, sNewK, oview, sFld, sMeth, sNew, sPutNew, sPutOld, sPutL, sAug, sChain, sNoP, sPart, sSl, isT, sIsi, sApp, sRaise, sTry, exTry, ksAs, envAs, sXf, look, wipeE, List.set, List.map, List.replicate, id, perm, List.filterMap, List.length_cons, List.length_nil, List.nil_append, List.cons_append, Nat.sub_self, Nat.reduceAdd, Nat.reduceSub, newL_f, newL_t, oAdd_i, oAdd_s, oAdd_t, oAdd_l, oMul_i, oSub_i, oFdiv_i, oMod_i, oPow_i, oLt_i, oLe_i, oGt_i, oGe_i, oNeg_i, oAddI_i, oEq_ii, oEq_ss, oEq_bb, oEq_nn, oEq_ni, oEq_in, oEq_ns, oEq_sn, oEq_is, oEq_si, oNe_ii, oNe_ss, oNe_bb, oIs_n, oIs_b, oIsNot_n, oIsNot_b, isNon_n, isNon_i, isNon_b, isNon_s, isNon_t, isNon_l, isNon_r, isBl_n, isBl_i, isBl_b, isBl_s, isBl_t, isBl_l, isBl_r, oIx_t, oIx_l, oIx_s, oLen_t, oLen_l, oLen_c, oLen_s, oAbs_i, oInt_i, oInt_b, oMax2_i, oMin2_i, oGcd_i, oIter_t, oIter_l, oIter_c, oRng1_i, oRng2_i, oRng2G_i, oSl_t, oSl_l, oSl_c, oIsi_n, oIsi_b, oIsi_i, oIsi_s, oIsi_t, oIsi_l]
  refine sp_from_to (k := k + 1) ?_
  rw [decide_eq_true (by omega), decide_eq_true (by omega)]
  try dsimp only [Bool.and_self, Bool.not_true]
  refine sp_from_to (k := k + 1) ?_
  rw [decide_eq_true (by omega), decide_eq_true (by omega)]
  try dsimp only [Bool.and_self, Bool.not_true]
  refine sp_reduced (k := k + 2) hb (by omega) ?_
  try dsimp only
  refine ⟨[], ?_, ?_⟩
  · rw [List.getElem?_append_right (Nat.le_refl _), Nat.sub_self]
    rfl
  · rw [List.set_append_right _ _ (Nat.le_refl _), Nat.sub_self]
    exact h
theorem sp_mark_of {a b n : Nat} {d : D} (hd : d = ruleD a b) (hb : 1 ≤ b) (hb2 : b ≤ 20) (ha : a ≤ b) (hn : 1 ≤ n) (hn2 : (n : Int) < 2 ^ 900) (h : kd (frL (b / Nat.gcd a b * (n - 1) + a / Nat.gcd a b) (b / Nat.gcd a b)) vh) : callN T (k + 2) i_Rule_mark_of [d, .int n] vh kx kd := by
  subst hd
  obtain ⟨y1, xy⟩ := gcd_div (a := a) hb
  have lx : a / Nat.gcd a b ≤ a := Nat.div_le_self _ _
  have ly : b / Nat.gcd a b ≤ b := Nat.div_le_self _ _
  refine enter (fn := fn_Rule_mark_of) rfl rfl rfl rfl ?_
  dsimp only [fn_Rule_mark_of, sem_Rule_mark_of, sVar, sCst, sBin, sUn, sTB, sNotT, sAndT, sOrT, sAndV, sOrV, sNotV, sIfE, sNil, sCons, sTup, sLst, sCallB, sSeq, sSkip, sDrop, sRet, sRetN, sBrk, sCnt, sIf, sSet, gN, gsNil, gsCons, gT, sAsg, sFor, sWhile, sIt, sItA, sLc, sYes, sCall, sCallK, sMethK, sNewK, oview, sFld, sMeth, sNew, sPutNew, sPutOld, sPutL, sAug, sChain, sNoP, sPart, sSl, isT, sIsi, sApp, sRaise, sTry, exTry, ksAs, envAs, sXf, look, wipeE, List.set, List.map, List.replicate, id, perm, List.filterMap, List.length_cons, List.length_nil, List.nil_append, List.cons_append, Nat.sub_self, Nat.reduceAdd, Nat.reduceSub, newL_f, newL_t, oAdd_i, oAdd_s, oAdd_t, oAdd_l, oMul_i, oSub_i, oFdiv_i, oMod_i, oPow_i, oLt_i, oLe_i, oGt_i, oGe_i, oNeg_i, oAddI_i, oEq_ii, oEq_ss, oEq_bb, oEq_nn, oEq_ni, oEq_in, oEq_ns, oEq_sn, oEq_is, oEq_si, oNe_ii, oNe_ss, oNe_bb, oIs_n, oIs_b, oIsNot_n, oIsNot_b, isNon_n, isNon_i, isNon_b, isNon_s, isNon_t, isNon_l, isNon_r, isBl_n, isBl_i, isBl_b, isBl_s, isBl_t, isBl_l, isBl_r, oIx_t, oIx_l, oIx_s, oLen_t, oLen_l, oLen_c, oLen_s, oAbs_i, oInt_i, oInt_b, oMax2_i, oMin2_i, oGcd_i, oIter_t, oIter_l, oIter_c, oRng1_i, oRng2_i, oRng2G_i, oSl_t, oSl_l, oSl_c, oIsi_n, oIsi_b, oIsi_i, oIsi_s, oIsi_t, oIsi_l]
  refine ⟨rfl, rfl, _, rfl, ?_⟩
  try dsimp only
  refine ⟨rfl, rfl, ?_⟩
  try dsimp only [isT, look, List.length_cons, List.length_nil, List.nil_append, List.cons_append, Nat.sub_self, newL_f, newL_t, oAdd_i, oAdd_s, oAdd_t, oAdd_l, oMul_i, oSub_i, oFdiv_i, oMod_i, oPow_i, oLt_i, oLe_i, oGt_i, oGe_i, oNeg_i, oAddI_i, oEq_ii, oEq_ss, oEq_bb, oEq_nn, oEq_ni, oEq_in, oEq_ns, oEq_sn, oEq_is, oEq_si, oNe_ii, oNe_ss, oNe_bb, oIs_n, oIs_b, oIsNot_n, oIsNot_b, isNon_n, isNon_i, isNon_b, isNon_s, isNon_t, isNon_l, isNon_r, isBl_n, isBl_i, isBl_b, isBl_s, isBl_t, isBl_l, isBl_r, oIx_t, oIx_l, oIx_s, oLen_t, oLen_l, oLen_c, oLen_s, oAbs_i, oInt_i, oInt_b, oMax2_i, oMin2_i, oGcd_i, oIter_t, oIter_l, oIter_c, oRng1_i, oRng2_i, oRng2G_i, oSl_t, oSl_l, oSl_c, oIsi_n, oIsi_b, oIsi_i, oIsi_s, oIsi_t, oIsi_l, List.set, List.length_cons, List.length_nil, Nat.reduceAdd]
  have e : ((n : Int) - 1) * ((b / Nat.gcd a b : Nat) : Int) + ((a / Nat.gcd a b : Nat) : Int) = ((b / Nat.gcd a b * (n - 1) + a / Nat.gcd a b : Nat) : Int) := by
    rw [Int.natCast_add, Int.natCast_mul, Int.natCast_sub hn, Int.mul_comm]
    rfl
  refine ⟨mul_ok (by omega) (by omega) (by omega) (by omega), ?_⟩
  rw [e]
  refine sp_reduced (k := k) y1 (by omega) ?_
  exact fin_pure low_two h
/-- the n-th mark, not reduced -/
def mk0 (x y n : Nat) : Nat := y * (n - 1) + x
theorem sp_mark {a b n : Nat} {d : D} (hd : d = ruleD a b) (hb : 1 ≤ b) (hb2 : b ≤ 20) (ha : a ≤ b) (hn : 1 ≤ n) (hn2 : n ≤ 1000) (h : kd (frL (b / Nat.gcd a b * (n - 1) + a / Nat.gcd a b) (b / Nat.gcd a b)) vh) : callN T (k + 3) i_Rule_mark [d, .int n] vh kx kd := by
  refine enter (fn := fn_Rule_mark) rfl rfl rfl rfl ?_
  subst hd
  dsimp only [fn_Rule_mark, sem_Rule_mark, sVar, sCst, sBin, sUn, sTB, sNotT, sAndT, sOrT, sAndV, sOrV, sNotV, sIfE, sNil, sCons, sTup, sLst, sCallB, sSeq, sSkip, sDrop, sRet, sRetN, sBrk, sCnt, sIf, sSet, gN, gsNil, gsCons, gT, sAsg, sFor, sWhile, sIt, sItA, sLc, sYes, sCall, sCallK, sMethK, sNewK, oview, sFld, sMeth, sNew, sPutNew, sPutOld, sPutL, sAug, sChain, sNoP, sPart, sSl, isT, sIsi, sApp, sRaise, sTry, exTry, ksAs, envAs, sXf, look, wipeE, List.set, List.map, List.replicate, id, perm, List.filterMap, List.length_cons, List.length_nil, List.nil_append, List.cons_append, Nat.sub_self, Nat.reduceAdd, Nat.reduceSub, newL_f, newL_t, oAdd_i, oAdd_s, oAdd_t, oAdd_l, oMul_i, oSub_i, oFdiv_i, oMod_i, oPow_i, oLt_i, oLe_i, oGt_i, oGe_i, oNeg_i, oAddI_i, oEq_ii, oEq_ss, oEq_bb, oEq_nn, oEq_ni, oEq_in, oEq_ns, oEq_sn, oEq_is, oEq_si, oNe_ii, oNe_ss, oNe_bb, oIs_n, oIs_b, oIsNot_n, oIsNot_b, isNon_n, isNon_i, isNon_b, isNon_s, isNon_t, isNon_l, isNon_r, isBl_n, isBl_i, isBl_b, isBl_s, isBl_t, isBl_l, isBl_r, oIx_t, oIx_l, oIx_s, oLen_t, oLen_l, oLen_c, oLen_s, oAbs_i, oInt_i, oInt_b, oMax2_i, oMin2_i, oGcd_i, oIter_t, oIter_l, oIter_c, oRng1_i, oRng2_i, oRng2G_i, oSl_t, oSl_l, oSl_c, oIsi_n, oIsi_b, oIsi_i, oIsi_s, oIsi_t, oIsi_l]
  refine sp_from_to (k := k) ?_
  rw [decide_eq_true (by omega), decide_eq_true (by omega)]
  try dsimp only [Bool.and_self, Bool.not_true]
  refine ⟨rfl, (by decide), ?_⟩
  refine sp_mark_of (k := k) rfl hb hb2 ha hn (by omega) ?_
  exact fin_pure low_two h
theorem less_l {p q M Y g : Nat} (hg : 0 < g) (h1 : g ∣ M) (h2 : g ∣ Y) : decide (p * (Y / g) < M / g * q) = decide (p * Y < M * q) := by
  rw [decide_eq_decide]
  obtain ⟨m, rfl⟩ := h1
  obtain ⟨y, rfl⟩ := h2
  rw [Nat.mul_div_cancel_left _ hg, Nat.mul_div_cancel_left _ hg, Nat.mul_left_comm, Nat.mul_assoc]
  exact (Nat.mul_lt_mul_left hg).symm
theorem less_r {p q M Y g : Nat} (hg : 0 < g) (h1 : g ∣ M) (h2 : g ∣ Y) : decide (M / g * q < p * (Y / g)) = decide (M * q < p * Y) := by
  rw [decide_eq_decide]
  obtain ⟨m, rfl⟩ := h1
  obtain ⟨y, rfl⟩ := h2
  rw [Nat.mul_div_cancel_left _ hg, Nat.mul_div_cancel_left _ hg, Nat.mul_left_comm, Nat.mul_assoc]
  exact (Nat.mul_lt_mul_left hg).symm
/-- may the value p / q stand between the marks n and n + 1 -/
def mayB (p q X Y n : Nat) : Bool := (decide (n = 0) || !decide (p * Y < mk0 X Y n * q)) && !decide (mk0 X Y (n + 1) * q < p * Y)
theorem mk0_lt {X Y n : Nat} (hX : X ≤ 20) (hY : Y ≤ 20) (hn : n < 2 ^ 200) : mk0 X Y n < 2 ^ 210 := by
  unfold mk0
  have h1 : Y * (n - 1) ≤ 20 * n := Nat.mul_le_mul hY (Nat.sub_le n 1)
  omega
theorem sp_may_be {a b p q n : Nat} {d : D} (hd : d = ruleD a b) (hb : 1 ≤ b) (hb2 : b ≤ 20) (ha : a ≤ b) (hn : n + 1 < 2 ^ 200) (hp : p < 2 ^ 200) (hq : q < 2 ^ 200) (h : kd (.bl (mayB p q (a / Nat.gcd a b) (b / Nat.gcd a b) n)) vh) : callN T (k + 3) i_Rule_may_be [d, fr p q, .int n] vh kx kd := by
  obtain ⟨y1, xy⟩ := gcd_div (a := a) hb
  have lx : a / Nat.gcd a b ≤ a := Nat.div_le_self _ _
  have ly : b / Nat.gcd a b ≤ b := Nat.div_le_self _ _
  have key : ∀ m : Nat, m < 2 ^ 200 → ∃ g : Nat, 0 < g ∧ g ∣ mk0 (a / Nat.gcd a b) (b / Nat.gcd a b) m ∧ g ∣ b / Nat.gcd a b ∧ frL (mk0 (a / Nat.gcd a b) (b / Nat.gcd a b) m) (b / Nat.gcd a b) = fr (mk0 (a / Nat.gcd a b) (b / Nat.gcd a b) m / g) (b / Nat.gcd a b / g) := fun m _ => ⟨_, gcd_pos y1, Nat.gcd_dvd_left _ _, Nat.gcd_dvd_right _ _, rfl⟩
  generalize hX : a / Nat.gcd a b = X at *
  generalize hY : b / Nat.gcd a b = Y at *
  have lm : ∀ m g : Nat, m < 2 ^ 200 → ((mk0 X Y m / g : Nat) : Int) < 2 ^ 1000 := fun m g hm => by
    have := mk0_lt (X := X) (Y := Y) (by omega) (by omega) hm
    have h2 : mk0 X Y m / g ≤ mk0 X Y m := Nat.div_le_self _ _
    omega
  have lY : ∀ g : Nat, ((Y / g : Nat) : Int) < 2 ^ 1000 := fun g => by
    have h2 : Y / g ≤ Y := Nat.div_le_self _ _
    omega
  refine enter (fn := fn_Rule_may_be) rfl rfl rfl rfl ?_
  dsimp only [fn_Rule_may_be, sem_Rule_may_be, sVar, sCst, sBin, sUn, sTB, sNotT, sAndT, sOrT, sAndV, sOrV, sNotV, sIfE, sNil, sCons, sTup, sLst, sCallB, sSeq, sSkip, sDrop, sRet, sRetN, sBrk, sCnt, sIf, sSet, gN, gsNil, gsCons, gT, sAsg, sFor, sWhile, sIt, sItA, sLc, sYes, sCall, sCallK, sMethK, sNewK, oview, sFld, sMeth, sNew, sPutNew, sPutOld, sPutL, sAug, sChain, sNoP, sPart, sSl, isT, sIsi, sApp, sRaise, sTry, exTry, ksAs, envAs, sXf, look, wipeE, List.set, List.map, List.replicate, id, perm, List.filterMap, List.length_cons, List.length_nil, List.nil_append, List.cons_append, Nat.sub_self, Nat.reduceAdd, Nat.reduceSub, newL_f, newL_t, oAdd_i, oAdd_s, oAdd_t, oAdd_l, oMul_i, oSub_i, oFdiv_i, oMod_i, oPow_i, oLt_i, oLe_i, oGt_i, oGe_i, oNeg_i, oAddI_i, oEq_ii, oEq_ss, oEq_bb, oEq_nn, oEq_ni, oEq_in, oEq_ns, oEq_sn, oEq_is, oEq_si, oNe_ii, oNe_ss, oNe_bb, oIs_n, oIs_b, oIsNot_n, oIsNot_b, isNon_n, isNon_i, isNon_b, isNon_s, isNon_t, isNon_l, isNon_r, isBl_n, isBl_i, isBl_b, isBl_s, isBl_t, isBl_l, isBl_r, oIx_t, oIx_l, oIx_s, oLen_t, oLen_l, oLen_c, oLen_s, oAbs_i, oInt_i, oInt_b, oMax2_i, oMin2_i, oGcd_i, oIter_t, oIter_l, oIter_c, oRng1_i, oRng2_i, oRng2G_i, oSl_t, oSl_l, oSl_c, oIsi_n, oIsi_b, oIsi_i, oIsi_s, oIsi_t, oIsi_l]
  obtain ⟨g1, p1, d1, d1', e1⟩ := key n (by omega)
  obtain ⟨g2, p2, d2, d2', e2⟩ := key (n + 1) hn
  have last : ∀ {kd1 : KD}, kd1 (.bl (!decide (mk0 X Y (n + 1) * q < p * Y))) vh → (callN T (k + 2) i_Rule_mark_of [d, .int ((n : Int) + 1)] vh (fun e h => finX Kind.pure vh kx e h) fun d1 vh1 => callN T (k + 2) i_is_less [d1, fr p q] vh1 (fun e h => finX Kind.pure vh kx e h) fun d2 vh2 => match d2 with
    | .bl c => kd1 (.bl !c) vh2
    | _ => False) := by
    intro kd1 hh
    have en : ((n : Int) + 1) = ((n + 1 : Nat) : Int) := by omega
    rw [en]
    refine sp_mark_of (k := k) hd hb hb2 ha (by omega) (by omega) ?_
    rw [hX, hY]
    show callN T (k + 2) i_is_less [frL (mk0 X Y (n + 1)) Y, fr p q] vh _ _
    rw [e2]
    refine sp_is_less (k := k + 1) (mul_nat (lm _ _ hn) (by omega)) (mul_nat (by omega) (lY _)) ?_
    rw [less_r p2 d2 d2']
    exact hh
  subst hd
  by_cases hn0 : 0 < n
  · rw [decide_eq_true (by omega)]
    dsimp only
    refine ⟨rfl, (by decide), ?_⟩
    refine sp_mark_of (k := k) rfl hb hb2 ha (by omega) (by omega) ?_
    rw [hX, hY]
    show callN T (k + 2) i_is_less [fr p q, frL (mk0 X Y n) Y] vh _ _
    rw [e1]
    refine sp_is_less (k := k + 1) (mul_nat (by omega) (lY _)) (mul_nat (lm _ _ (by omega)) (by omega)) ?_
    rw [less_l p1 d1 d1']
    unfold mayB at h
    rw [decide_eq_false (show ¬ n = 0 by omega), Bool.false_or] at h
    by_cases h1 : p * Y < mk0 X Y n * q
    · rw [decide_eq_true h1] at h ⊢
      exact fin_pure low_bl h
    · rw [decide_eq_false h1] at h ⊢
      refine ⟨rfl, (by decide), ?_⟩
      refine last (kd1 := finD .pure vh kd) ?_
      exact fin_pure low_bl h
  · rw [decide_eq_false (by omega)]
    unfold mayB at h
    rw [decide_eq_true (show n = 0 by omega), Bool.true_or, Bool.true_and] at h
    refine ⟨rfl, (by decide), ?_⟩
    refine last (kd1 := finD .pure vh kd) ?_
    exact fin_pure low_bl h
/-- the numbers among lo, lo + 1, .. (so many) that f takes -/
def taken (f : Nat → Bool) (lo : Nat) : Nat → List Nat
  | 0 => []
  | i + 1 => taken f lo i ++ (if f (lo + i) then [lo + i] else [])
def natD (l : List Nat) : List D := l.map fun n : Nat => D.int (n : Int)
theorem taken_len (f : Nat → Bool) (lo : Nat) : ∀ i, (taken f lo i).length ≤ i
  | 0 => Nat.le_refl _
  | i + 1 => by
    show (taken f lo i ++ _).length ≤ i + 1
    rw [List.length_append]
    have := taken_len f lo i
    split <;> simp <;> omega
theorem natD_low {n : Nat} : ∀ l : List Nat, lows n (natD l)
  | [] => by simp only [natD, List.map_nil, lows]
  | a :: r => by
    have := natD_low (n := n) r
    simp only [natD, List.map_cons, lows, low, true_and] at this ⊢
    exact this
/-! the plain law of k05 -/
theorem taken_skip {f : Nat → Bool} {lo i : Nat} : ∀ e, (∀ j, i ≤ j → j < i + e → f (lo + j) = false) → taken f lo (i + e) = taken f lo i
  | 0, _ => rfl
  | e + 1, h => by
    show taken f lo (i + e) ++ (if f (lo + (i + e)) then [lo + (i + e)] else []) = _
    rw [h (i + e) (by omega) (by omega), taken_skip e fun j h1 h2 => h j h1 (by omega)]
    simp
theorem taken_none {f : Nat → Bool} {lo : Nat} : ∀ d, (∀ j, j < d → f (lo + j) = false) → taken f lo d = []
  | 0, _ => rfl
  | d + 1, h => by
    show taken f lo d ++ (if f (lo + d) then [lo + d] else []) = _
    rw [h d (by omega), taken_none d fun j hj => h j (by omega)]
    simp
theorem taken_shift {f : Nat → Bool} {lo d : Nat} (h : ∀ j, j < d → f (lo + j) = false) : ∀ i, taken f lo (d + i) = taken f (lo + d) i
  | 0 => taken_none d h
  | i + 1 => by
    show taken f lo (d + i) ++ (if f (lo + (d + i)) then [lo + (d + i)] else []) = taken f (lo + d) i ++ (if f (lo + d + i) then [lo + d + i] else [])
    rw [taken_shift h i, Nat.add_assoc]
theorem taken_some {f : Nat → Bool} {lo j : Nat} (hf : f (lo + j) = true) : ∀ i, j < i → taken f lo i ≠ []
  | 0, h => by omega
  | i + 1, h => by
    show taken f lo i ++ (if f (lo + i) then [lo + i] else []) ≠ []
    by_cases e : j = i
    · subst e
      rw [hf]
      simp
    · have := taken_some hf i (by omega)
      simp [this]
theorem natD_last : ∀ {l : List Nat}, l ≠ [] → ∃ m : Nat, atI (natD l) (-1) = some (.int m)
  | [], h => absurd rfl h
  | a :: r, _ => by
    have hl : (natD (a :: r)).length = r.length + 1 := by simp [natD]
    have h : ixN (natD (a :: r)).length (-1) = some r.length := by
      rw [hl]
      unfold L2.ixN
      rw [if_neg (by decide), if_pos (by omega)]
      congr 1
      omega
    unfold L2.atI
    rw [h]
    refine ⟨(a :: r)[r.length]'(by simp), ?_⟩
    show (natD (a :: r))[r.length]? = _
    unfold natD
    rw [List.getElem?_map, List.getElem?_eq_getElem (by simp)]
    rfl
theorem mayB_iff {p q X Y n : Nat} : mayB p q X Y n = true ↔ (n = 0 ∨ mk0 X Y n * q ≤ p * Y) ∧ p * Y ≤ mk0 X Y (n + 1) * q := by
  unfold mayB
  simp only [Bool.and_eq_true, Bool.or_eq_true, decide_eq_true_iff, Bool.not_eq_true', decide_eq_false_iff_not, Nat.not_lt]
theorem mk0_scale {g X Y n : Nat} : mk0 (g * X) (g * Y) n = g * mk0 X Y n := by
  unfold mk0
  rw [Nat.mul_add, Nat.mul_assoc]
theorem mayB_scale {g p q X Y n : Nat} (hg : 0 < g) : mayB p q (g * X) (g * Y) n = mayB p q X Y n := by
  rw [Bool.eq_iff_iff, mayB_iff, mayB_iff, mk0_scale, mk0_scale, Nat.mul_assoc, Nat.mul_assoc, Nat.mul_left_comm p, Nat.mul_le_mul_left_iff hg, Nat.mul_le_mul_left_iff hg]
theorem mayB_near {p q X Y n : Nat} (hq : 1 ≤ q) (hY : 1 ≤ Y) (hX : X ≤ Y) (h : mayB p q X Y n = true) : p / q ≤ n + 1 ∧ n ≤ p / q + 1 := by
  rw [mayB_iff] at h
  obtain ⟨h1, h2⟩ := h
  constructor
  · have a : mk0 X Y (n + 1) ≤ Y * (n + 1) := by
      unfold mk0
      rw [Nat.add_sub_cancel, Nat.mul_add]
      omega
    have b : p * Y ≤ Y * (n + 1) * q := Nat.le_trans h2 (Nat.mul_le_mul_right q a)
    have c : Y * p ≤ Y * (q * (n + 1)) := by rw [Nat.mul_comm Y p, Nat.mul_comm q, ← Nat.mul_assoc]; exact b
    exact Nat.div_le_of_le_mul (Nat.le_of_mul_le_mul_left c hY)
  · rcases h1 with h1 | h1
    · subst h1
      exact Nat.zero_le _
    · have a : Y * (n - 1) ≤ mk0 X Y n := Nat.le_add_right _ _
      have b : Y * (n - 1) * q ≤ p * Y := Nat.le_trans (Nat.mul_le_mul_right q a) h1
      have c : Y * ((n - 1) * q) ≤ Y * p := by rw [← Nat.mul_assoc, Nat.mul_comm Y p]; exact b
      have d := (Nat.le_div_iff_mul_le (show 0 < q by omega)).mpr (Nat.le_of_mul_le_mul_left c hY)
      omega
theorem mayB_some {p q X Y : Nat} (hq : 1 ≤ q) (hX : X ≤ Y) : ∃ n, p / q ≤ n ∧ n ≤ p / q + 1 ∧ mayB p q X Y n = true := by
  have h1 : p / q * q ≤ p := Nat.div_mul_le_self p q
  have h2 : p < (p / q + 1) * q := by
    have := Nat.lt_div_mul_add (a := p) (show 0 < q by omega)
    rw [Nat.add_mul]
    omega
  generalize p / q = F at *
  by_cases hc : p * Y ≤ mk0 X Y (F + 1) * q
  · refine ⟨F, Nat.le_refl _, by omega, mayB_iff.mpr ⟨?_, hc⟩⟩
    by_cases h0 : F = 0
    · exact .inl h0
    · right
      have a : mk0 X Y F ≤ Y * F := by
        unfold mk0
        have e : Y * F = Y * (F - 1) + Y := by
          conv => lhs; rw [show F = F - 1 + 1 by omega]
          rw [Nat.mul_add, Nat.mul_one]
        omega
      calc mk0 X Y F * q ≤ Y * F * q := Nat.mul_le_mul_right q a
        _ = Y * (F * q) := Nat.mul_assoc _ _ _
        _ ≤ Y * p := Nat.mul_le_mul_left Y h1
        _ = p * Y := Nat.mul_comm _ _
  · refine ⟨F + 1, by omega, Nat.le_refl _, mayB_iff.mpr ⟨.inr (by omega), ?_⟩⟩
    have a : Y * (F + 1) ≤ mk0 X Y (F + 1 + 1) := Nat.le_add_right _ _
    calc p * Y = Y * p := Nat.mul_comm _ _
      _ ≤ Y * ((F + 1) * q) := Nat.mul_le_mul_left Y (by omega)
      _ = Y * (F + 1) * q := (Nat.mul_assoc _ _ _).symm
      _ ≤ mk0 X Y (F + 1 + 1) * q := Nat.mul_le_mul_right q a
/-- what is due -/
def dueL (p q X Y : Nat) : List Nat := taken (mayB p q X Y) (p / q - 1) (p / q + 2 - (p / q - 1))
theorem due_wide {p q X Y : Nat} (hq : 1 ≤ q) (hY : 1 ≤ Y) (hX : X ≤ Y) : taken (mayB p q X Y) (p / q - 2) (p / q + 4 - (p / q - 2)) = dueL p q X Y := by
  have near := fun n => @mayB_near p q X Y n hq hY hX
  unfold dueL
  generalize p / q = F at *
  have off : ∀ n, (n + 1 < F ∨ F + 1 < n) → mayB p q X Y n = false := fun n h => by
    cases e : mayB p q X Y n with
    | false => rfl
    | true => have := near n e; omega
  have e1 : F + 4 - (F - 2) = (F - 1 - (F - 2)) + ((F + 2 - (F - 1)) + 2) := by omega
  have e2 : F - 2 + (F - 1 - (F - 2)) = F - 1 := by omega
  rw [e1, taken_shift (fun j hj => off _ (by omega)), e2, taken_skip 2 fun j h1 h2 => off _ (by omega)]
theorem due_scale {p q g X Y : Nat} (hg : 0 < g) : dueL p q (g * X) (g * Y) = dueL p q X Y := by
  have e : mayB p q (g * X) (g * Y) = mayB p q X Y := funext fun n => mayB_scale hg
  unfold dueL
  rw [e]
theorem due_some {p q X Y : Nat} (hq : 1 ≤ q) (hX : X ≤ Y) : dueL p q X Y ≠ [] := by
  obtain ⟨n, h1, h2, h3⟩ := mayB_some (p := p) hq hX
  have e : n = p / q - 1 + (n - (p / q - 1)) := by omega
  rw [e] at h3
  exact taken_some h3 _ (by omega)
theorem SD_nat : ∀ l : List Nat, ∀ x ∈ natD l, SD 0 x := fun l x hx => by
  obtain ⟨a, _, rfl⟩ := List.mem_map.mp hx
  trivial

/-! law k05, continued -/
theorem sp_rounded {a b p q : Nat} {d : D} (hd : d = ruleD a b) (hb : 1 ≤ b) (hb2 : b ≤ 20) (ha : a ≤ b) (hq1 : 1 ≤ q) (hg : Nat.gcd p q = 1) (hp : p < 2 ^ 190) (hq : q < 2 ^ 190)
    (h : kd (.tup (natD (dueL p q (a / Nat.gcd a b) (b / Nat.gcd a b)))) vh) : callN T (k + 5) i_Rule_rounded [d, fr p q] vh kx kd := by
  refine enter (fn := fn_Rule_rounded) rfl rfl rfl rfl ?_
  dsimp only [fn_Rule_rounded, sem_Rule_rounded, sVar, sCst, sBin, sUn, sTB, sNotT, sAndT, sOrT, sAndV, sOrV, sNotV, sIfE, sNil, sCons, sTup, sLst, sCallB, sSeq, sSkip, sDrop, sRet, sRetN, sBrk, sCnt, sIf, sSet, gN, gsNil, gsCons, gT, sAsg, sFor, sWhile, sIt, sItA, sLc, sYes, sCall, sCallK, sMethK, sNewK, oview, sFld, sMeth, sNew, sPutNew, sPutOld, sPutL, sAug, sChain, sNoP, sPart, sSl, isT, sIsi, sApp, sRaise, sTry, exTry, ksAs, envAs, sXf, look, wipeE, List.set, List.map, List.replicate, id, perm, List.filterMap, List.length_cons, List.length_nil, List.nil_append, List.cons_append, Nat.sub_self, Nat.reduceAdd, Nat.reduceSub, newL_f, newL_t, oAdd_i, oAdd_s, oAdd_t, oAdd_l, oMul_i, oSub_i, oFdiv_i, oMod_i, oPow_i, oLt_i, oLe_i, oGt_i, oGe_i, oNeg_i, oAddI_i, oEq_ii, oEq_ss, oEq_bb, oEq_nn, oEq_ni, oEq_in, oEq_ns, oEq_sn, oEq_is, oEq_si, oNe_ii, oNe_ss, oNe_bb, oIs_n, oIs_b, oIsNot_n, oIsNot_b, isNon_n, isNon_i, isNon_b, isNon_s, isNon_t, isNon_l, isNon_r, isBl_n, isBl_i, isBl_b, isBl_s, isBl_t, isBl_l, isBl_r, oIx_t, oIx_l, oIx_s, oLen_t, oLen_l, oLen_c, oLen_s, oAbs_i, oInt_i, oInt_b, oMax2_i, oMin2_i, oGcd_i, oIter_t, oIter_l, oIter_c, oRng1_i, oRng2_i, oRng2G_i, oSl_t, oSl_l, oSl_c, oIsi_n, oIsi_b, oIsi_i, oIsi_s, oIsi_t, oIsi_l]
  refine sp_check_fraction (k := k) hq1 hg ?_
  try dsimp only [isT, look, List.length_cons, List.length_nil, List.nil_append, List.cons_append, Nat.sub_self, newL_f, newL_t, oAdd_i, oAdd_s, oAdd_t, oAdd_l, oMul_i, oSub_i, oFdiv_i, oMod_i, oPow_i, oLt_i, oLe_i, oGt_i, oGe_i, oNeg_i, oAddI_i, oEq_ii, oEq_ss, oEq_bb, oEq_nn, oEq_ni, oEq_in, oEq_ns, oEq_sn, oEq_is, oEq_si, oNe_ii, oNe_ss, oNe_bb, oIs_n, oIs_b, oIsNot_n, oIsNot_b, isNon_n, isNon_i, isNon_b, isNon_s, isNon_t, isNon_l, isNon_r, isBl_n, isBl_i, isBl_b, isBl_s, isBl_t, isBl_l, isBl_r, oIx_t, oIx_l, oIx_s, oLen_t, oLen_l, oLen_c, oLen_s, oAbs_i, oInt_i, oInt_b, oMax2_i, oMin2_i, oGcd_i, oIter_t, oIter_l, oIter_c, oRng1_i, oRng2_i, oRng2G_i, oSl_t, oSl_l, oSl_c, oIsi_n, oIsi_b, oIsi_i, oIsi_s, oIsi_t, oIsi_l, List.set, List.length_cons, List.length_nil, Nat.reduceAdd]
  refine ⟨_, rfl, _, rfl, ?_⟩
  try dsimp only [isT, look, List.length_cons, List.length_nil, List.nil_append, List.cons_append, Nat.sub_self, newL_f, newL_t, oAdd_i, oAdd_s, oAdd_t, oAdd_l, oMul_i, oSub_i, oFdiv_i, oMod_i, oPow_i, oLt_i, oLe_i, oGt_i, oGe_i, oNeg_i, oAddI_i, oEq_ii, oEq_ss, oEq_bb, oEq_nn, oEq_ni, oEq_in, oEq_ns, oEq_sn, oEq_is, oEq_si, oNe_ii, oNe_ss, oNe_bb, oIs_n, oIs_b, oIsNot_n, oIsNot_b, isNon_n, isNon_i, isNon_b, isNon_s, isNon_t, isNon_l, isNon_r, isBl_n, isBl_i, isBl_b, isBl_s, isBl_t, isBl_l, isBl_r, oIx_t, oIx_l, oIx_s, oLen_t, oLen_l, oLen_c, oLen_s, oAbs_i, oInt_i, oInt_b, oMax2_i, oMin2_i, oGcd_i, oIter_t, oIter_l, oIter_c, oRng1_i, oRng2_i, oRng2G_i, oSl_t, oSl_l, oSl_c, oIsi_n, oIsi_b, oIsi_i, oIsi_s, oIsi_t, oIsi_l, List.set, List.length_cons, List.length_nil, Nat.reduceAdd]
  refine ⟨div_ok (by omega) (by omega), ?_⟩
  rw [← Int.natCast_ediv]
  have hF : p / q ≤ p := Nat.div_le_self _ _
  unfold dueL at h
  generalize p / q = F at *
  rw [show max (0 : Int) ((F : Int) - 1) = ((F - 1 : Nat) : Int) by omega, show ((F : Int) + 2 - ((F - 1 : Nat) : Int)).toNat = F + 2 - (F - 1) by omega]
  generalize hf : mayB p q (a / Nat.gcd a b) (b / Nat.gcd a b) = f at h
  refine ⟨by decide, ?_⟩
  refine forL_inv (fun i env vh' => ∃ x, vh' = vh ++ [.lst (natD (taken f (F - 1) i))] ∧ env = [some d, some (fr p q), some (.int F), some (.ref vh.length), x]) (fun _ _ _ _ => trivial) ?_ ?_ ⟨none, rfl, rfl⟩
  · rintro i e env vh' nx he ⟨x, rfl, rfl⟩ hI
    obtain ⟨hi, rfl⟩ := rng_get he
    have hc : (vh ++ [Cell.lst (natD (taken f (F - 1) i))])[vh.length]? = some (.lst (natD (taken f (F - 1) i))) := by
      rw [List.getElem?_append_right (Nat.le_refl _), Nat.sub_self]
      rfl
    rw [← Int.natCast_add]
    try dsimp only [sVar, sCst, sBin, sUn, sTB, sNotT, sAndT, sOrT, sAndV, sOrV, sNotV, sIfE, sNil, sCons, sTup, sLst, sCallB, sSeq, sSkip, sDrop, sRet, sRetN, sBrk, sCnt, sIf, sSet, gN, gsNil, gsCons, gT, sAsg, sFor, sWhile, sIt, sItA, sLc, sYes, sCall, sCallK, sMethK, sNewK, oview, sFld, sMeth, sNew, sPutNew, sPutOld, sPutL, sAug, sChain, sNoP, sPart, sSl, isT, sIsi, sApp, sRaise, sTry, exTry, ksAs, envAs, sXf, look, wipeE, List.set, List.map, List.replicate, id, perm, List.filterMap, List.length_cons, List.length_nil, List.nil_append, List.cons_append, Nat.sub_self, Nat.reduceAdd, Nat.reduceSub, newL_f, newL_t, oAdd_i, oAdd_s, oAdd_t, oAdd_l, oMul_i, oSub_i, oFdiv_i, oMod_i, oPow_i, oLt_i, oLe_i, oGt_i, oGe_i, oNeg_i, oAddI_i, oEq_ii, oEq_ss, oEq_bb, oEq_nn, oEq_ni, oEq_in, oEq_ns, oEq_sn, oEq_is, oEq_si, oNe_ii, oNe_ss, oNe_bb, oIs_n, oIs_b, oIsNot_n, oIsNot_b, isNon_n, isNon_i, isNon_b, isNon_s, isNon_t, isNon_l, isNon_r, isBl_n, isBl_i, isBl_b, isBl_s, isBl_t, isBl_l, isBl_r, oIx_t, oIx_l, oIx_s, oLen_t, oLen_l, oLen_c, oLen_s, oAbs_i, oInt_i, oInt_b, oMax2_i, oMin2_i, oGcd_i, oIter_t, oIter_l, oIter_c, oRng1_i, oRng2_i, oRng2G_i, oSl_t, oSl_l, oSl_c, oIsi_n, oIsi_b, oIsi_i, oIsi_s, oIsi_t, oIsi_l]
    subst hd
    refine ⟨rfl, by decide, ?_⟩
    refine sp_may_be (k := k + 1) rfl hb hb2 ha (by omega) (by omega) (by omega) ?_
    rw [hf]
    cases hv : f (F - 1 + i) with
    | false =>
      refine hI _ _ ⟨_, ?_, rfl⟩
      show _ = vh ++ [Cell.lst (natD (taken f (F - 1) i ++ (if f (F - 1 + i) then [F - 1 + i] else [])))]
      rw [hv]
      simp
    | true =>
      refine ⟨⟨_, hc⟩, _, hc, ?_, ?_⟩
      · rw [natD, List.length_map]
        have := taken_len f (F - 1) i
        omega
      · refine hI _ _ ⟨_, ?_, rfl⟩
        show _ = vh ++ [Cell.lst (natD (taken f (F - 1) i ++ (if f (F - 1 + i) then [F - 1 + i] else [])))]
        rw [hv, List.set_append_right _ _ (Nat.le_refl _), Nat.sub_self]
        simp [natD]
  · rintro env vh' ⟨x, rfl, rfl⟩
    rw [rngL_len]
    have hc : (vh ++ [Cell.lst (natD (taken f (F - 1) (F + 2 - (F - 1))))])[vh.length]? = some (.lst (natD (taken f (F - 1) (F + 2 - (F - 1))))) := by
      rw [List.getElem?_append_right (Nat.le_refl _), Nat.sub_self]
      rfl
    try dsimp only [sVar, sCst, sBin, sUn, sTB, sNotT, sAndT, sOrT, sAndV, sOrV, sNotV, sIfE, sNil, sCons, sTup, sLst, sCallB, sSeq, sSkip, sDrop, sRet, sRetN, sBrk, sCnt, sIf, sSet, gN, gsNil, gsCons, gT, sAsg, sFor, sWhile, sIt, sItA, sLc, sYes, sCall, sCallK, sMethK, sNewK, oview, sFld, sMeth, sNew, sPutNew, sPutOld, sPutL, sAug, sChain, sNoP, sPart, sSl, isT, sIsi, sApp, sRaise, sTry, exTry, ksAs, envAs, sXf, look, wipeE, List.set, List.map, List.replicate, id, perm, List.filterMap, List.length_cons, List.length_nil, List.nil_append, List.cons_append, Nat.sub_self, Nat.reduceAdd, Nat.reduceSub, newL_f, newL_t, oAdd_i, oAdd_s, oAdd_t, oAdd_l, oMul_i, oSub_i, oFdiv_i, oMod_i, oPow_i, oLt_i, oLe_i, oGt_i, oGe_i, oNeg_i, oAddI_i, oEq_ii, oEq_ss, oEq_bb, oEq_nn, oEq_ni, oEq_in, oEq_ns, oEq_sn, oEq_is, oEq_si, oNe_ii, oNe_ss, oNe_bb, oIs_n, oIs_b, oIsNot_n, oIsNot_b, isNon_n, isNon_i, isNon_b, isNon_s, isNon_t, isNon_l, isNon_r, isBl_n, isBl_i, isBl_b, isBl_s, isBl_t, isBl_l, isBl_r, oIx_t, oIx_l, oIx_s, oLen_t, oLen_l, oLen_c, oLen_s, oAbs_i, oInt_i, oInt_b, oMax2_i, oMin2_i, oGcd_i, oIter_t, oIter_l, oIter_c, oRng1_i, oRng2_i, oRng2G_i, oSl_t, oSl_l, oSl_c, oIsi_n, oIsi_b, oIsi_i, oIsi_s, oIsi_t, oIsi_l]
    unfold oTuple
    try dsimp only [sview]
    rw [hc]
    exact ⟨[_], _, rfl, .low (by simp only [low]; exact natD_low _), h⟩

/-! the law's parts -/
theorem sp_lmark {u v n : Nat} (hu : u ≤ 20) (hv : v ≤ 20) (hn : 1 ≤ n) (hn2 : n < 2 ^ 200) (h : kd (.int ((mk0 u v n : Nat) : Int)) vh) : callN T (k + 1) i__law_mark [fr u v, .int n] vh kx kd := by
  refine enter (fn := fn__law_mark) rfl rfl rfl rfl ?_
  dsimp only [fn__law_mark, sem__law_mark, sVar, sCst, sBin, sUn, sTB, sNotT, sAndT, sOrT, sAndV, sOrV, sNotV, sIfE, sNil, sCons, sTup, sLst, sCallB, sSeq, sSkip, sDrop, sRet, sRetN, sBrk, sCnt, sIf, sSet, gN, gsNil, gsCons, gT, sAsg, sFor, sWhile, sIt, sItA, sLc, sYes, sCall, sCallK, sMethK, sNewK, oview, sFld, sMeth, sNew, sPutNew, sPutOld, sPutL, sAug, sChain, sNoP, sPart, sSl, isT, sIsi, sApp, sRaise, sTry, exTry, ksAs, envAs, sXf, look, wipeE, List.set, List.map, List.replicate, id, perm, List.filterMap, List.length_cons, List.length_nil, List.nil_append, List.cons_append, Nat.sub_self, Nat.reduceAdd, Nat.reduceSub, newL_f, newL_t, oAdd_i, oAdd_s, oAdd_t, oAdd_l, oMul_i, oSub_i, oFdiv_i, oMod_i, oPow_i, oLt_i, oLe_i, oGt_i, oGe_i, oNeg_i, oAddI_i, oEq_ii, oEq_ss, oEq_bb, oEq_nn, oEq_ni, oEq_in, oEq_ns, oEq_sn, oEq_is, oEq_si, oNe_ii, oNe_ss, oNe_bb, oIs_n, oIs_b, oIsNot_n, oIsNot_b, isNon_n, isNon_i, isNon_b, isNon_s, isNon_t, isNon_l, isNon_r, isBl_n, isBl_i, isBl_b, isBl_s, isBl_t, isBl_l, isBl_r, oIx_t, oIx_l, oIx_s, oLen_t, oLen_l, oLen_c, oLen_s, oAbs_i, oInt_i, oInt_b, oMax2_i, oMin2_i, oGcd_i, oIter_t, oIter_l, oIter_c, oRng1_i, oRng2_i, oRng2G_i, oSl_t, oSl_l, oSl_c, oIsi_n, oIsi_b, oIsi_i, oIsi_s, oIsi_t, oIsi_l]
  refine ⟨_, rfl, mul_ok (by omega) (by omega) (by omega) (by omega), _, rfl, ?_⟩
  try dsimp only [isT, look, List.length_cons, List.length_nil, List.nil_append, List.cons_append, Nat.sub_self, newL_f, newL_t, oAdd_i, oAdd_s, oAdd_t, oAdd_l, oMul_i, oSub_i, oFdiv_i, oMod_i, oPow_i, oLt_i, oLe_i, oGt_i, oGe_i, oNeg_i, oAddI_i, oEq_ii, oEq_ss, oEq_bb, oEq_nn, oEq_ni, oEq_in, oEq_ns, oEq_sn, oEq_is, oEq_si, oNe_ii, oNe_ss, oNe_bb, oIs_n, oIs_b, oIsNot_n, oIsNot_b, isNon_n, isNon_i, isNon_b, isNon_s, isNon_t, isNon_l, isNon_r, isBl_n, isBl_i, isBl_b, isBl_s, isBl_t, isBl_l, isBl_r, oIx_t, oIx_l, oIx_s, oLen_t, oLen_l, oLen_c, oLen_s, oAbs_i, oInt_i, oInt_b, oMax2_i, oMin2_i, oGcd_i, oIter_t, oIter_l, oIter_c, oRng1_i, oRng2_i, oRng2G_i, oSl_t, oSl_l, oSl_c, oIsi_n, oIsi_b, oIsi_i, oIsi_s, oIsi_t, oIsi_l, List.set, List.length_cons, List.length_nil, Nat.reduceAdd]
  have e : (v : Int) * ((n : Int) - 1) + (u : Int) = ((mk0 u v n : Nat) : Int) := by
    unfold mk0
    rw [Int.natCast_add, Int.natCast_mul, Int.natCast_sub hn]
    rfl
  rw [e]
  exact fin_pure low_int h
theorem nat_le {a b : Nat} : decide ((a : Int) ≤ (b : Int)) = decide (a ≤ b) := by
  rw [decide_eq_decide]
  omega
theorem m200' {u v n q : Nat} (hu : u ≤ 20) (hv : v ≤ 20) (hn : n < 2 ^ 200) (hq : q < 2 ^ 200) : VI.MulOk (mk0 u v n) q := by
  have := mk0_lt hu hv hn
  exact mul_nat (by omega) (by omega)
theorem mayB_dec {p q u v n : Nat} : mayB p q u v n = ((decide (n = 0) || decide (mk0 u v n * q ≤ p * v)) && decide (p * v ≤ mk0 u v (n + 1) * q)) := by
  rw [Bool.eq_iff_iff, mayB_iff]
  simp only [Bool.and_eq_true, Bool.or_eq_true, decide_eq_true_iff]
theorem sp_due {p q u v : Nat} (hu : u ≤ 20) (hv : v ≤ 20) (hq1 : 1 ≤ q) (hp : p < 2 ^ 190) (hq : q < 2 ^ 190)
    (h : kd (.tup (natD (taken (mayB p q u v) (p / q - 2) (p / q + 4 - (p / q - 2))))) vh) : callN T (k + 2) i__law_due [fr u v, fr p q] vh kx kd := by
  refine enter (fn := fn__law_due) rfl rfl rfl rfl ?_
  dsimp only [fn__law_due, sem__law_due, sVar, sCst, sBin, sUn, sTB, sNotT, sAndT, sOrT, sAndV, sOrV, sNotV, sIfE, sNil, sCons, sTup, sLst, sCallB, sSeq, sSkip, sDrop, sRet, sRetN, sBrk, sCnt, sIf, sSet, gN, gsNil, gsCons, gT, sAsg, sFor, sWhile, sIt, sItA, sLc, sYes, sCall, sCallK, sMethK, sNewK, oview, sFld, sMeth, sNew, sPutNew, sPutOld, sPutL, sAug, sChain, sNoP, sPart, sSl, isT, sIsi, sApp, sRaise, sTry, exTry, ksAs, envAs, sXf, look, wipeE, List.set, List.map, List.replicate, id, perm, List.filterMap, List.length_cons, List.length_nil, List.nil_append, List.cons_append, Nat.sub_self, Nat.reduceAdd, Nat.reduceSub, newL_f, newL_t, oAdd_i, oAdd_s, oAdd_t, oAdd_l, oMul_i, oSub_i, oFdiv_i, oMod_i, oPow_i, oLt_i, oLe_i, oGt_i, oGe_i, oNeg_i, oAddI_i, oEq_ii, oEq_ss, oEq_bb, oEq_nn, oEq_ni, oEq_in, oEq_ns, oEq_sn, oEq_is, oEq_si, oNe_ii, oNe_ss, oNe_bb, oIs_n, oIs_b, oIsNot_n, oIsNot_b, isNon_n, isNon_i, isNon_b, isNon_s, isNon_t, isNon_l, isNon_r, isBl_n, isBl_i, isBl_b, isBl_s, isBl_t, isBl_l, isBl_r, oIx_t, oIx_l, oIx_s, oLen_t, oLen_l, oLen_c, oLen_s, oAbs_i, oInt_i, oInt_b, oMax2_i, oMin2_i, oGcd_i, oIter_t, oIter_l, oIter_c, oRng1_i, oRng2_i, oRng2G_i, oSl_t, oSl_l, oSl_c, oIsi_n, oIsi_b, oIsi_i, oIsi_s, oIsi_t, oIsi_l]
  refine ⟨_, rfl, _, rfl, ?_⟩
  try dsimp only [isT, look, List.length_cons, List.length_nil, List.nil_append, List.cons_append, Nat.sub_self, newL_f, newL_t, oAdd_i, oAdd_s, oAdd_t, oAdd_l, oMul_i, oSub_i, oFdiv_i, oMod_i, oPow_i, oLt_i, oLe_i, oGt_i, oGe_i, oNeg_i, oAddI_i, oEq_ii, oEq_ss, oEq_bb, oEq_nn, oEq_ni, oEq_in, oEq_ns, oEq_sn, oEq_is, oEq_si, oNe_ii, oNe_ss, oNe_bb, oIs_n, oIs_b, oIsNot_n, oIsNot_b, isNon_n, isNon_i, isNon_b, isNon_s, isNon_t, isNon_l, isNon_r, isBl_n, isBl_i, isBl_b, isBl_s, isBl_t, isBl_l, isBl_r, oIx_t, oIx_l, oIx_s, oLen_t, oLen_l, oLen_c, oLen_s, oAbs_i, oInt_i, oInt_b, oMax2_i, oMin2_i, oGcd_i, oIter_t, oIter_l, oIter_c, oRng1_i, oRng2_i, oRng2G_i, oSl_t, oSl_l, oSl_c, oIsi_n, oIsi_b, oIsi_i, oIsi_s, oIsi_t, oIsi_l, List.set, List.length_cons, List.length_nil, Nat.reduceAdd]
  refine ⟨div_ok (by omega) (by omega), ?_⟩
  rw [← Int.natCast_ediv]
  have hF : p / q ≤ p := Nat.div_le_self _ _
  generalize p / q = F at *
  rw [show max (0 : Int) ((F : Int) - 2) = ((F - 2 : Nat) : Int) by omega, show ((F : Int) + 4 - ((F - 2 : Nat) : Int)).toNat = F + 4 - (F - 2) by omega]
  have hfd := fun n => @mayB_dec p q u v n
  generalize mayB p q u v = f at *
  refine ⟨by decide, ?_⟩
  refine forL_inv (fun i env vh' => ∃ x y, vh' = vh ++ [.lst (natD (taken f (F - 2) i))] ∧ env = [some (fr u v), some (fr p q), some (.int F), some (.ref vh.length), x, y]) (fun _ _ _ _ => trivial) ?_ ?_ ⟨none, none, rfl, rfl⟩
  · rintro i e env vh' nx he ⟨x, y, rfl, rfl⟩ hI
    obtain ⟨hi, rfl⟩ := rng_get he
    have hc : (vh ++ [Cell.lst (natD (taken f (F - 2) i))])[vh.length]? = some (.lst (natD (taken f (F - 2) i))) := by
      rw [List.getElem?_append_right (Nat.le_refl _), Nat.sub_self]
      rfl
    rw [← Int.natCast_add]
    try dsimp only [sVar, sCst, sBin, sUn, sTB, sNotT, sAndT, sOrT, sAndV, sOrV, sNotV, sIfE, sNil, sCons, sTup, sLst, sCallB, sSeq, sSkip, sDrop, sRet, sRetN, sBrk, sCnt, sIf, sSet, gN, gsNil, gsCons, gT, sAsg, sFor, sWhile, sIt, sItA, sLc, sYes, sCall, sCallK, sMethK, sNewK, oview, sFld, sMeth, sNew, sPutNew, sPutOld, sPutL, sAug, sChain, sNoP, sPart, sSl, isT, sIsi, sApp, sRaise, sTry, exTry, ksAs, envAs, sXf, look, wipeE, List.set, List.map, List.replicate, id, perm, List.filterMap, List.length_cons, List.length_nil, List.nil_append, List.cons_append, Nat.sub_self, Nat.reduceAdd, Nat.reduceSub, newL_f, newL_t, oAdd_i, oAdd_s, oAdd_t, oAdd_l, oMul_i, oSub_i, oFdiv_i, oMod_i, oPow_i, oLt_i, oLe_i, oGt_i, oGe_i, oNeg_i, oAddI_i, oEq_ii, oEq_ss, oEq_bb, oEq_nn, oEq_ni, oEq_in, oEq_ns, oEq_sn, oEq_is, oEq_si, oNe_ii, oNe_ss, oNe_bb, oIs_n, oIs_b, oIsNot_n, oIsNot_b, isNon_n, isNon_i, isNon_b, isNon_s, isNon_t, isNon_l, isNon_r, isBl_n, isBl_i, isBl_b, isBl_s, isBl_t, isBl_l, isBl_r, oIx_t, oIx_l, oIx_s, oLen_t, oLen_l, oLen_c, oLen_s, oAbs_i, oInt_i, oInt_b, oMax2_i, oMin2_i, oGcd_i, oIter_t, oIter_l, oIter_c, oRng1_i, oRng2_i, oRng2G_i, oSl_t, oSl_l, oSl_c, oIsi_n, oIsi_b, oIsi_i, oIsi_s, oIsi_t, oIsi_l]
    rw [nat_eq0]
    by_cases h0 : F - 2 + i = 0
    · have ef : ∀ b, decide (p * v ≤ mk0 u v (F - 2 + i + 1) * q) = b → f (F - 2 + i) = b := fun b hb => by rw [hfd, decide_eq_true h0, hb]; rfl
      rw [decide_eq_true h0]
      try dsimp only
      refine ⟨_, rfl, _, rfl, ?_⟩
      try dsimp only [isT, look, List.length_cons, List.length_nil, List.nil_append, List.cons_append, Nat.sub_self, newL_f, newL_t, oAdd_i, oAdd_s, oAdd_t, oAdd_l, oMul_i, oSub_i, oFdiv_i, oMod_i, oPow_i, oLt_i, oLe_i, oGt_i, oGe_i, oNeg_i, oAddI_i, oEq_ii, oEq_ss, oEq_bb, oEq_nn, oEq_ni, oEq_in, oEq_ns, oEq_sn, oEq_is, oEq_si, oNe_ii, oNe_ss, oNe_bb, oIs_n, oIs_b, oIsNot_n, oIsNot_b, isNon_n, isNon_i, isNon_b, isNon_s, isNon_t, isNon_l, isNon_r, isBl_n, isBl_i, isBl_b, isBl_s, isBl_t, isBl_l, isBl_r, oIx_t, oIx_l, oIx_s, oLen_t, oLen_l, oLen_c, oLen_s, oAbs_i, oInt_i, oInt_b, oMax2_i, oMin2_i, oGcd_i, oIter_t, oIter_l, oIter_c, oRng1_i, oRng2_i, oRng2G_i, oSl_t, oSl_l, oSl_c, oIsi_n, oIsi_b, oIsi_i, oIsi_s, oIsi_t, oIsi_l, List.set, List.length_cons, List.length_nil, Nat.reduceAdd]
      refine ⟨m200 (by omega) (by omega), ?_⟩
      rw [show ((F - 2 + i : Nat) : Int) + 1 = ((F - 2 + i + 1 : Nat) : Int) by omega]
      refine sp_lmark (k := k) hu hv (by omega) (by omega) ?_
      refine ⟨_, rfl, ?_⟩
      try dsimp only [isT, look, List.length_cons, List.length_nil, List.nil_append, List.cons_append, Nat.sub_self, newL_f, newL_t, oAdd_i, oAdd_s, oAdd_t, oAdd_l, oMul_i, oSub_i, oFdiv_i, oMod_i, oPow_i, oLt_i, oLe_i, oGt_i, oGe_i, oNeg_i, oAddI_i, oEq_ii, oEq_ss, oEq_bb, oEq_nn, oEq_ni, oEq_in, oEq_ns, oEq_sn, oEq_is, oEq_si, oNe_ii, oNe_ss, oNe_bb, oIs_n, oIs_b, oIsNot_n, oIsNot_b, isNon_n, isNon_i, isNon_b, isNon_s, isNon_t, isNon_l, isNon_r, isBl_n, isBl_i, isBl_b, isBl_s, isBl_t, isBl_l, isBl_r, oIx_t, oIx_l, oIx_s, oLen_t, oLen_l, oLen_c, oLen_s, oAbs_i, oInt_i, oInt_b, oMax2_i, oMin2_i, oGcd_i, oIter_t, oIter_l, oIter_c, oRng1_i, oRng2_i, oRng2G_i, oSl_t, oSl_l, oSl_c, oIsi_n, oIsi_b, oIsi_i, oIsi_s, oIsi_t, oIsi_l, List.set, List.length_cons, List.length_nil, Nat.reduceAdd]
      refine ⟨m200' hu hv (by omega) (by omega), ?_⟩
      rw [← Int.natCast_mul, ← Int.natCast_mul, nat_le]
      cases hv2 : decide (p * v ≤ mk0 u v (F - 2 + i + 1) * q) with
      | false =>
        refine hI _ _ ⟨_, _, ?_, rfl⟩
        show _ = vh ++ [Cell.lst (natD (taken f (F - 2) i ++ (if f (F - 2 + i) then [F - 2 + i] else [])))]
        rw [ef false hv2]
        simp
      | true =>
        refine ⟨⟨_, hc⟩, _, hc, ?_, ?_⟩
        · rw [natD, List.length_map]
          have := taken_len f (F - 2) i
          omega
        · refine hI _ _ ⟨_, _, ?_, rfl⟩
          show _ = vh ++ [Cell.lst (natD (taken f (F - 2) i ++ (if f (F - 2 + i) then [F - 2 + i] else [])))]
          rw [ef true hv2, List.set_append_right _ _ (Nat.le_refl _), Nat.sub_self]
          simp [natD]
    · rw [decide_eq_false h0]
      try dsimp only
      refine sp_lmark (k := k) hu hv (by omega) (by omega) ?_
      refine ⟨_, rfl, ?_⟩
      try dsimp only [isT, look, List.length_cons, List.length_nil, List.nil_append, List.cons_append, Nat.sub_self, newL_f, newL_t, oAdd_i, oAdd_s, oAdd_t, oAdd_l, oMul_i, oSub_i, oFdiv_i, oMod_i, oPow_i, oLt_i, oLe_i, oGt_i, oGe_i, oNeg_i, oAddI_i, oEq_ii, oEq_ss, oEq_bb, oEq_nn, oEq_ni, oEq_in, oEq_ns, oEq_sn, oEq_is, oEq_si, oNe_ii, oNe_ss, oNe_bb, oIs_n, oIs_b, oIsNot_n, oIsNot_b, isNon_n, isNon_i, isNon_b, isNon_s, isNon_t, isNon_l, isNon_r, isBl_n, isBl_i, isBl_b, isBl_s, isBl_t, isBl_l, isBl_r, oIx_t, oIx_l, oIx_s, oLen_t, oLen_l, oLen_c, oLen_s, oAbs_i, oInt_i, oInt_b, oMax2_i, oMin2_i, oGcd_i, oIter_t, oIter_l, oIter_c, oRng1_i, oRng2_i, oRng2G_i, oSl_t, oSl_l, oSl_c, oIsi_n, oIsi_b, oIsi_i, oIsi_s, oIsi_t, oIsi_l, List.set, List.length_cons, List.length_nil, Nat.reduceAdd]
      refine ⟨m200' hu hv (by omega) (by omega), _, rfl, _, rfl, ?_⟩
      try dsimp only [isT, look, List.length_cons, List.length_nil, List.nil_append, List.cons_append, Nat.sub_self, newL_f, newL_t, oAdd_i, oAdd_s, oAdd_t, oAdd_l, oMul_i, oSub_i, oFdiv_i, oMod_i, oPow_i, oLt_i, oLe_i, oGt_i, oGe_i, oNeg_i, oAddI_i, oEq_ii, oEq_ss, oEq_bb, oEq_nn, oEq_ni, oEq_in, oEq_ns, oEq_sn, oEq_is, oEq_si, oNe_ii, oNe_ss, oNe_bb, oIs_n, oIs_b, oIsNot_n, oIsNot_b, isNon_n, isNon_i, isNon_b, isNon_s, isNon_t, isNon_l, isNon_r, isBl_n, isBl_i, isBl_b, isBl_s, isBl_t, isBl_l, isBl_r, oIx_t, oIx_l, oIx_s, oLen_t, oLen_l, oLen_c, oLen_s, oAbs_i, oInt_i, oInt_b, oMax2_i, oMin2_i, oGcd_i, oIter_t, oIter_l, oIter_c, oRng1_i, oRng2_i, oRng2G_i, oSl_t, oSl_l, oSl_c, oIsi_n, oIsi_b, oIsi_i, oIsi_s, oIsi_t, oIsi_l, List.set, List.length_cons, List.length_nil, Nat.reduceAdd]
      refine ⟨m200 (by omega) (by omega), ?_⟩
      rw [← Int.natCast_mul, ← Int.natCast_mul, nat_le]
      cases hv1 : decide (mk0 u v (F - 2 + i) * q ≤ p * v) with
      | false =>
        try dsimp only
        refine hI _ _ ⟨_, _, ?_, rfl⟩
        show _ = vh ++ [Cell.lst (natD (taken f (F - 2) i ++ (if f (F - 2 + i) then [F - 2 + i] else [])))]
        rw [hfd, hv1, decide_eq_false h0]
        simp
      | true =>
        have ef : ∀ b, decide (p * v ≤ mk0 u v (F - 2 + i + 1) * q) = b → f (F - 2 + i) = b := fun b hb => by rw [hfd, hv1, hb, Bool.or_true]; rfl
        try dsimp only
        refine ⟨_, rfl, _, rfl, ?_⟩
        try dsimp only [isT, look, List.length_cons, List.length_nil, List.nil_append, List.cons_append, Nat.sub_self, newL_f, newL_t, oAdd_i, oAdd_s, oAdd_t, oAdd_l, oMul_i, oSub_i, oFdiv_i, oMod_i, oPow_i, oLt_i, oLe_i, oGt_i, oGe_i, oNeg_i, oAddI_i, oEq_ii, oEq_ss, oEq_bb, oEq_nn, oEq_ni, oEq_in, oEq_ns, oEq_sn, oEq_is, oEq_si, oNe_ii, oNe_ss, oNe_bb, oIs_n, oIs_b, oIsNot_n, oIsNot_b, isNon_n, isNon_i, isNon_b, isNon_s, isNon_t, isNon_l, isNon_r, isBl_n, isBl_i, isBl_b, isBl_s, isBl_t, isBl_l, isBl_r, oIx_t, oIx_l, oIx_s, oLen_t, oLen_l, oLen_c, oLen_s, oAbs_i, oInt_i, oInt_b, oMax2_i, oMin2_i, oGcd_i, oIter_t, oIter_l, oIter_c, oRng1_i, oRng2_i, oRng2G_i, oSl_t, oSl_l, oSl_c, oIsi_n, oIsi_b, oIsi_i, oIsi_s, oIsi_t, oIsi_l, List.set, List.length_cons, List.length_nil, Nat.reduceAdd]
        refine ⟨m200 (by omega) (by omega), ?_⟩
        rw [show ((F - 2 + i : Nat) : Int) + 1 = ((F - 2 + i + 1 : Nat) : Int) by omega]
        refine sp_lmark (k := k) hu hv (by omega) (by omega) ?_
        refine ⟨_, rfl, ?_⟩
        try dsimp only [isT, look, List.length_cons, List.length_nil, List.nil_append, List.cons_append, Nat.sub_self, newL_f, newL_t, oAdd_i, oAdd_s, oAdd_t, oAdd_l, oMul_i, oSub_i, oFdiv_i, oMod_i, oPow_i, oLt_i, oLe_i, oGt_i, oGe_i, oNeg_i, oAddI_i, oEq_ii, oEq_ss, oEq_bb, oEq_nn, oEq_ni, oEq_in, oEq_ns, oEq_sn, oEq_is, oEq_si, oNe_ii, oNe_ss, oNe_bb, oIs_n, oIs_b, oIsNot_n, oIsNot_b, isNon_n, isNon_i, isNon_b, isNon_s, isNon_t, isNon_l, isNon_r, isBl_n, isBl_i, isBl_b, isBl_s, isBl_t, isBl_l, isBl_r, oIx_t, oIx_l, oIx_s, oLen_t, oLen_l, oLen_c, oLen_s, oAbs_i, oInt_i, oInt_b, oMax2_i, oMin2_i, oGcd_i, oIter_t, oIter_l, oIter_c, oRng1_i, oRng2_i, oRng2G_i, oSl_t, oSl_l, oSl_c, oIsi_n, oIsi_b, oIsi_i, oIsi_s, oIsi_t, oIsi_l, List.set, List.length_cons, List.length_nil, Nat.reduceAdd]
        refine ⟨m200' hu hv (by omega) (by omega), ?_⟩
        rw [← Int.natCast_mul, ← Int.natCast_mul, nat_le]
        cases hv2 : decide (p * v ≤ mk0 u v (F - 2 + i + 1) * q) with
        | false =>
          refine hI _ _ ⟨_, _, ?_, rfl⟩
          show _ = vh ++ [Cell.lst (natD (taken f (F - 2) i ++ (if f (F - 2 + i) then [F - 2 + i] else [])))]
          rw [ef false hv2]
          simp
        | true =>
          refine ⟨⟨_, hc⟩, _, hc, ?_, ?_⟩
          · rw [natD, List.length_map]
            have := taken_len f (F - 2) i
            omega
          · refine hI _ _ ⟨_, _, ?_, rfl⟩
            show _ = vh ++ [Cell.lst (natD (taken f (F - 2) i ++ (if f (F - 2 + i) then [F - 2 + i] else [])))]
            rw [ef true hv2, List.set_append_right _ _ (Nat.le_refl _), Nat.sub_self]
            simp [natD]
  · rintro env vh' ⟨x, y, rfl, rfl⟩
    rw [rngL_len]
    have hc : (vh ++ [Cell.lst (natD (taken f (F - 2) (F + 4 - (F - 2))))])[vh.length]? = some (.lst (natD (taken f (F - 2) (F + 4 - (F - 2))))) := by
      rw [List.getElem?_append_right (Nat.le_refl _), Nat.sub_self]
      rfl
    try dsimp only [sVar, sCst, sBin, sUn, sTB, sNotT, sAndT, sOrT, sAndV, sOrV, sNotV, sIfE, sNil, sCons, sTup, sLst, sCallB, sSeq, sSkip, sDrop, sRet, sRetN, sBrk, sCnt, sIf, sSet, gN, gsNil, gsCons, gT, sAsg, sFor, sWhile, sIt, sItA, sLc, sYes, sCall, sCallK, sMethK, sNewK, oview, sFld, sMeth, sNew, sPutNew, sPutOld, sPutL, sAug, sChain, sNoP, sPart, sSl, isT, sIsi, sApp, sRaise, sTry, exTry, ksAs, envAs, sXf, look, wipeE, List.set, List.map, List.replicate, id, perm, List.filterMap, List.length_cons, List.length_nil, List.nil_append, List.cons_append, Nat.sub_self, Nat.reduceAdd, Nat.reduceSub, newL_f, newL_t, oAdd_i, oAdd_s, oAdd_t, oAdd_l, oMul_i, oSub_i, oFdiv_i, oMod_i, oPow_i, oLt_i, oLe_i, oGt_i, oGe_i, oNeg_i, oAddI_i, oEq_ii, oEq_ss, oEq_bb, oEq_nn, oEq_ni, oEq_in, oEq_ns, oEq_sn, oEq_is, oEq_si, oNe_ii, oNe_ss, oNe_bb, oIs_n, oIs_b, oIsNot_n, oIsNot_b, isNon_n, isNon_i, isNon_b, isNon_s, isNon_t, isNon_l, isNon_r, isBl_n, isBl_i, isBl_b, isBl_s, isBl_t, isBl_l, isBl_r, oIx_t, oIx_l, oIx_s, oLen_t, oLen_l, oLen_c, oLen_s, oAbs_i, oInt_i, oInt_b, oMax2_i, oMin2_i, oGcd_i, oIter_t, oIter_l, oIter_c, oRng1_i, oRng2_i, oRng2G_i, oSl_t, oSl_l, oSl_c, oIsi_n, oIsi_b, oIsi_i, oIsi_s, oIsi_t, oIsi_l]
    unfold oTuple
    try dsimp only [sview]
    rw [hc]
    exact ⟨[_], _, rfl, .low (by simp only [low]; exact natD_low _), h⟩
/-- a draw with its end changed: the first cell is the pool -/
theorem sp_way {c : Cell} (hc : PoolOk c) (h : ∀ (u v : Nat) c', 1 ≤ v → v ≤ 20 → u ≤ v → PoolOk c' → kd (fr u v) [c']) : callN T (k + 2) i__law_way [.ref 0] [c] kx kd := by
  refine enter (fn := fn__law_way) rfl rfl rfl rfl ?_
  dsimp only [fn__law_way, sem__law_way, sVar, sCst, sBin, sUn, sTB, sNotT, sAndT, sOrT, sAndV, sOrV, sNotV, sIfE, sNil, sCons, sTup, sLst, sCallB, sSeq, sSkip, sDrop, sRet, sRetN, sBrk, sCnt, sIf, sSet, gN, gsNil, gsCons, gT, sAsg, sFor, sWhile, sIt, sItA, sLc, sYes, sCall, sCallK, sMethK, sNewK, oview, sFld, sMeth, sNew, sPutNew, sPutOld, sPutL, sAug, sChain, sNoP, sPart, sSl, isT, sIsi, sApp, sRaise, sTry, exTry, ksAs, envAs, sXf, look, wipeE, List.set, List.map, List.replicate, id, perm, List.filterMap, List.length_cons, List.length_nil, List.nil_append, List.cons_append, Nat.sub_self, Nat.reduceAdd, Nat.reduceSub, newL_f, newL_t, oAdd_i, oAdd_s, oAdd_t, oAdd_l, oMul_i, oSub_i, oFdiv_i, oMod_i, oPow_i, oLt_i, oLe_i, oGt_i, oGe_i, oNeg_i, oAddI_i, oEq_ii, oEq_ss, oEq_bb, oEq_nn, oEq_ni, oEq_in, oEq_ns, oEq_sn, oEq_is, oEq_si, oNe_ii, oNe_ss, oNe_bb, oIs_n, oIs_b, oIsNot_n, oIsNot_b, isNon_n, isNon_i, isNon_b, isNon_s, isNon_t, isNon_l, isNon_r, isBl_n, isBl_i, isBl_b, isBl_s, isBl_t, isBl_l, isBl_r, oIx_t, oIx_l, oIx_s, oLen_t, oLen_l, oLen_c, oLen_s, oAbs_i, oInt_i, oInt_b, oMax2_i, oMin2_i, oGcd_i, oIter_t, oIter_l, oIter_c, oRng1_i, oRng2_i, oRng2G_i, oSl_t, oSl_l, oSl_c, oIsi_n, oIsi_b, oIsi_i, oIsi_s, oIsi_t, oIsi_l]
  refine sp_draw1 hc (by decide) (by decide) fun r c1 hr hc1 => ?_
  try dsimp only
  refine sp_draw1 hc1 (by decide) (by decide) fun w c2 hw hc2 => ?_
  try dsimp only [isT, look, List.length_cons, List.length_nil, List.nil_append, List.cons_append, Nat.sub_self, newL_f, newL_t, oAdd_i, oAdd_s, oAdd_t, oAdd_l, oMul_i, oSub_i, oFdiv_i, oMod_i, oPow_i, oLt_i, oLe_i, oGt_i, oGe_i, oNeg_i, oAddI_i, oEq_ii, oEq_ss, oEq_bb, oEq_nn, oEq_ni, oEq_in, oEq_ns, oEq_sn, oEq_is, oEq_si, oNe_ii, oNe_ss, oNe_bb, oIs_n, oIs_b, oIsNot_n, oIsNot_b, isNon_n, isNon_i, isNon_b, isNon_s, isNon_t, isNon_l, isNon_r, isBl_n, isBl_i, isBl_b, isBl_s, isBl_t, isBl_l, isBl_r, oIx_t, oIx_l, oIx_s, oLen_t, oLen_l, oLen_c, oLen_s, oAbs_i, oInt_i, oInt_b, oMax2_i, oMin2_i, oGcd_i, oIter_t, oIter_l, oIter_c, oRng1_i, oRng2_i, oRng2G_i, oSl_t, oSl_l, oSl_c, oIsi_n, oIsi_b, oIsi_i, oIsi_s, oIsi_t, oIsi_l, List.set, List.length_cons, List.length_nil, Nat.reduceAdd]
  have e1 : (1 : Int) + w = ((1 + w : Nat) : Int) := by omega
  rw [e1, nat_eq0]
  by_cases h0 : r = 0
  · rw [decide_eq_true h0]
    exact ⟨by decide, h 0 (1 + w) c2 (by omega) (by omega) (by omega) hc2⟩
  · rw [decide_eq_false h0]
    try dsimp only [isT, look, List.length_cons, List.length_nil, List.nil_append, List.cons_append, Nat.sub_self, newL_f, newL_t, oAdd_i, oAdd_s, oAdd_t, oAdd_l, oMul_i, oSub_i, oFdiv_i, oMod_i, oPow_i, oLt_i, oLe_i, oGt_i, oGe_i, oNeg_i, oAddI_i, oEq_ii, oEq_ss, oEq_bb, oEq_nn, oEq_ni, oEq_in, oEq_ns, oEq_sn, oEq_is, oEq_si, oNe_ii, oNe_ss, oNe_bb, oIs_n, oIs_b, oIsNot_n, oIsNot_b, isNon_n, isNon_i, isNon_b, isNon_s, isNon_t, isNon_l, isNon_r, isBl_n, isBl_i, isBl_b, isBl_s, isBl_t, isBl_l, isBl_r, oIx_t, oIx_l, oIx_s, oLen_t, oLen_l, oLen_c, oLen_s, oAbs_i, oInt_i, oInt_b, oMax2_i, oMin2_i, oGcd_i, oIter_t, oIter_l, oIter_c, oRng1_i, oRng2_i, oRng2G_i, oSl_t, oSl_l, oSl_c, oIsi_n, oIsi_b, oIsi_i, oIsi_s, oIsi_t, oIsi_l, List.set, List.length_cons, List.length_nil, Nat.reduceAdd]
    rw [show ((r : Int) == 1) = decide (r = 1) from nat_eq (b := 1)]
    by_cases h1 : r = 1
    · rw [decide_eq_true h1]
      exact ⟨by decide, h (1 + w) (1 + w) c2 (by omega) (by omega) (by omega) hc2⟩
    · rw [decide_eq_false h1]
      try dsimp only [isT, look, List.length_cons, List.length_nil, List.nil_append, List.cons_append, Nat.sub_self, newL_f, newL_t, oAdd_i, oAdd_s, oAdd_t, oAdd_l, oMul_i, oSub_i, oFdiv_i, oMod_i, oPow_i, oLt_i, oLe_i, oGt_i, oGe_i, oNeg_i, oAddI_i, oEq_ii, oEq_ss, oEq_bb, oEq_nn, oEq_ni, oEq_in, oEq_ns, oEq_sn, oEq_is, oEq_si, oNe_ii, oNe_ss, oNe_bb, oIs_n, oIs_b, oIsNot_n, oIsNot_b, isNon_n, isNon_i, isNon_b, isNon_s, isNon_t, isNon_l, isNon_r, isBl_n, isBl_i, isBl_b, isBl_s, isBl_t, isBl_l, isBl_r, oIx_t, oIx_l, oIx_s, oLen_t, oLen_l, oLen_c, oLen_s, oAbs_i, oInt_i, oInt_b, oMax2_i, oMin2_i, oGcd_i, oIter_t, oIter_l, oIter_c, oRng1_i, oRng2_i, oRng2G_i, oSl_t, oSl_l, oSl_c, oIsi_n, oIsi_b, oIsi_i, oIsi_s, oIsi_t, oIsi_l, List.set, List.length_cons, List.length_nil, Nat.reduceAdd]
      rw [show ((r : Int) == 2) = decide (r = 2) from nat_eq (b := 2)]
      by_cases h2 : r = 2
      · rw [decide_eq_true h2]
        try dsimp only
        refine sp_draw1 hc2 (by decide) (by decide) fun z c3 hz hc3 => ?_
        try dsimp only [isT, look, List.length_cons, List.length_nil, List.nil_append, List.cons_append, Nat.sub_self, newL_f, newL_t, oAdd_i, oAdd_s, oAdd_t, oAdd_l, oMul_i, oSub_i, oFdiv_i, oMod_i, oPow_i, oLt_i, oLe_i, oGt_i, oGe_i, oNeg_i, oAddI_i, oEq_ii, oEq_ss, oEq_bb, oEq_nn, oEq_ni, oEq_in, oEq_ns, oEq_sn, oEq_is, oEq_si, oNe_ii, oNe_ss, oNe_bb, oIs_n, oIs_b, oIsNot_n, oIsNot_b, isNon_n, isNon_i, isNon_b, isNon_s, isNon_t, isNon_l, isNon_r, isBl_n, isBl_i, isBl_b, isBl_s, isBl_t, isBl_l, isBl_r, oIx_t, oIx_l, oIx_s, oLen_t, oLen_l, oLen_c, oLen_s, oAbs_i, oInt_i, oInt_b, oMax2_i, oMin2_i, oGcd_i, oIter_t, oIter_l, oIter_c, oRng1_i, oRng2_i, oRng2G_i, oSl_t, oSl_l, oSl_c, oIsi_n, oIsi_b, oIsi_i, oIsi_s, oIsi_t, oIsi_l, List.set, List.length_cons, List.length_nil, Nat.reduceAdd]
        refine ⟨mul_ok (by omega) (by omega) (by omega) (by omega), ?_⟩
        rw [show (1 : Int) + z = ((1 + z : Nat) : Int) by omega, show (2 : Int) * ((1 + z : Nat) : Int) = ((2 * (1 + z) : Nat) : Int) by omega]
        exact ⟨by decide, h (1 + z) (2 * (1 + z)) c3 (by omega) (by omega) (by omega) hc3⟩
      · rw [decide_eq_false h2]
        try dsimp only [isT, look, List.length_cons, List.length_nil, List.nil_append, List.cons_append, Nat.sub_self, newL_f, newL_t, oAdd_i, oAdd_s, oAdd_t, oAdd_l, oMul_i, oSub_i, oFdiv_i, oMod_i, oPow_i, oLt_i, oLe_i, oGt_i, oGe_i, oNeg_i, oAddI_i, oEq_ii, oEq_ss, oEq_bb, oEq_nn, oEq_ni, oEq_in, oEq_ns, oEq_sn, oEq_is, oEq_si, oNe_ii, oNe_ss, oNe_bb, oIs_n, oIs_b, oIsNot_n, oIsNot_b, isNon_n, isNon_i, isNon_b, isNon_s, isNon_t, isNon_l, isNon_r, isBl_n, isBl_i, isBl_b, isBl_s, isBl_t, isBl_l, isBl_r, oIx_t, oIx_l, oIx_s, oLen_t, oLen_l, oLen_c, oLen_s, oAbs_i, oInt_i, oInt_b, oMax2_i, oMin2_i, oGcd_i, oIter_t, oIter_l, oIter_c, oRng1_i, oRng2_i, oRng2G_i, oSl_t, oSl_l, oSl_c, oIsi_n, oIsi_b, oIsi_i, oIsi_s, oIsi_t, oIsi_l, List.set, List.length_cons, List.length_nil, Nat.reduceAdd]
        refine sp_draw1 hc2 (by omega) (by omega) fun z c3 hz hc3 => ?_
        exact ⟨by decide, h z (1 + w) c3 (by omega) (by omega) (by omega) hc3⟩

theorem pick3 {a b c : Int} : ∀ {r : Nat}, (r : Int) < 3 → ∃ z, (z = a ∨ z = b ∨ z = c) ∧ atI [D.int a, D.int b, D.int c] (r : Int) = some (.int z)
  | 0, _ => ⟨a, .inl rfl, rfl⟩
  | 1, _ => ⟨b, .inr (.inl rfl), rfl⟩
  | 2, _ => ⟨c, .inr (.inr rfl), rfl⟩
  | r + 3, h => by omega
theorem sp_worth {u v : Nat} {c : Cell} (hc : PoolOk c) (hv1 : 1 ≤ v) (hv : v ≤ 20) (hu : u ≤ v) (h : ∀ (A B : Nat) c', 1 ≤ B → B ≤ 20 * 10 ^ 18 → A < 10 ^ 38 → PoolOk c' → kd (fr A B) [c']) : callN T (k + 2) i__law_worth [.ref 0, fr u v] [c] kx kd := by
  refine enter (fn := fn__law_worth) rfl rfl rfl rfl ?_
  dsimp only [fn__law_worth, sem__law_worth]
  refine seq_inv (fun env vh => ∃ (c : Cell) (kd : Nat), vh = [c] ∧ PoolOk c ∧ env = [some (.ref 0), some (fr u v), some (.int kd), none, none]) ?_ ?_
  · intro nx hI
    dsimp only [sVar, sCst, sBin, sUn, sTB, sNotT, sAndT, sOrT, sAndV, sOrV, sNotV, sIfE, sNil, sCons, sTup, sLst, sCallB, sSeq, sSkip, sDrop, sRet, sRetN, sBrk, sCnt, sIf, sSet, gN, gsNil, gsCons, gT, sAsg, sFor, sWhile, sIt, sItA, sLc, sYes, sCall, sCallK, sMethK, sNewK, oview, sFld, sMeth, sNew, sPutNew, sPutOld, sPutL, sAug, sChain, sNoP, sPart, sSl, isT, sIsi, sApp, sRaise, sTry, exTry, ksAs, envAs, sXf, look, wipeE, List.set, List.map, List.replicate, id, perm, List.filterMap, List.length_cons, List.length_nil, List.nil_append, List.cons_append, Nat.sub_self, Nat.reduceAdd, Nat.reduceSub, newL_f, newL_t, oAdd_i, oAdd_s, oAdd_t, oAdd_l, oMul_i, oSub_i, oFdiv_i, oMod_i, oPow_i, oLt_i, oLe_i, oGt_i, oGe_i, oNeg_i, oAddI_i, oEq_ii, oEq_ss, oEq_bb, oEq_nn, oEq_ni, oEq_in, oEq_ns, oEq_sn, oEq_is, oEq_si, oNe_ii, oNe_ss, oNe_bb, oIs_n, oIs_b, oIsNot_n, oIsNot_b, isNon_n, isNon_i, isNon_b, isNon_s, isNon_t, isNon_l, isNon_r, isBl_n, isBl_i, isBl_b, isBl_s, isBl_t, isBl_l, isBl_r, oIx_t, oIx_l, oIx_s, oLen_t, oLen_l, oLen_c, oLen_s, oAbs_i, oInt_i, oInt_b, oMax2_i, oMin2_i, oGcd_i, oIter_t, oIter_l, oIter_c, oRng1_i, oRng2_i, oRng2G_i, oSl_t, oSl_l, oSl_c, oIsi_n, oIsi_b, oIsi_i, oIsi_s, oIsi_t, oIsi_l]
    exact sp_draw1 hc (by decide) (by decide) fun r c1 hr hc1 => hI _ _ ⟨c1, r, rfl, hc1, rfl⟩
  rintro env vh ⟨c, kd1, rfl, hc, rfl⟩
  refine seq_inv (fun env vh => ∃ (c : Cell) (s : Nat), vh = [c] ∧ PoolOk c ∧ 1 ≤ s ∧ s ≤ 1200 ∧ env = [some (.ref 0), some (fr u v), some (.int kd1), some (.int s), none]) ?_ ?_
  · intro nx hI
    dsimp only [sVar, sCst, sBin, sUn, sTB, sNotT, sAndT, sOrT, sAndV, sOrV, sNotV, sIfE, sNil, sCons, sTup, sLst, sCallB, sSeq, sSkip, sDrop, sRet, sRetN, sBrk, sCnt, sIf, sSet, gN, gsNil, gsCons, gT, sAsg, sFor, sWhile, sIt, sItA, sLc, sYes, sCall, sCallK, sMethK, sNewK, oview, sFld, sMeth, sNew, sPutNew, sPutOld, sPutL, sAug, sChain, sNoP, sPart, sSl, isT, sIsi, sApp, sRaise, sTry, exTry, ksAs, envAs, sXf, look, wipeE, List.set, List.map, List.replicate, id, perm, List.filterMap, List.length_cons, List.length_nil, List.nil_append, List.cons_append, Nat.sub_self, Nat.reduceAdd, Nat.reduceSub, newL_f, newL_t, oAdd_i, oAdd_s, oAdd_t, oAdd_l, oMul_i, oSub_i, oFdiv_i, oMod_i, oPow_i, oLt_i, oLe_i, oGt_i, oGe_i, oNeg_i, oAddI_i, oEq_ii, oEq_ss, oEq_bb, oEq_nn, oEq_ni, oEq_in, oEq_ns, oEq_sn, oEq_is, oEq_si, oNe_ii, oNe_ss, oNe_bb, oIs_n, oIs_b, oIsNot_n, oIsNot_b, isNon_n, isNon_i, isNon_b, isNon_s, isNon_t, isNon_l, isNon_r, isBl_n, isBl_i, isBl_b, isBl_s, isBl_t, isBl_l, isBl_r, oIx_t, oIx_l, oIx_s, oLen_t, oLen_l, oLen_c, oLen_s, oAbs_i, oInt_i, oInt_b, oMax2_i, oMin2_i, oGcd_i, oIter_t, oIter_l, oIter_c, oRng1_i, oRng2_i, oRng2G_i, oSl_t, oSl_l, oSl_c, oIsi_n, oIsi_b, oIsi_i, oIsi_s, oIsi_t, oIsi_l]
    refine ⟨by decide, ?_⟩
    refine sp_draw1 hc (by decide) (by decide) fun r c1 hr hc1 => ?_
    obtain ⟨z, hz, ez⟩ := pick3 (a := 4) (b := 30) (c := 1200) hr
    try dsimp only [isT, look, List.length_cons, List.length_nil, List.nil_append, List.cons_append, Nat.sub_self, newL_f, newL_t, oAdd_i, oAdd_s, oAdd_t, oAdd_l, oMul_i, oSub_i, oFdiv_i, oMod_i, oPow_i, oLt_i, oLe_i, oGt_i, oGe_i, oNeg_i, oAddI_i, oEq_ii, oEq_ss, oEq_bb, oEq_nn, oEq_ni, oEq_in, oEq_ns, oEq_sn, oEq_is, oEq_si, oNe_ii, oNe_ss, oNe_bb, oIs_n, oIs_b, oIsNot_n, oIsNot_b, isNon_n, isNon_i, isNon_b, isNon_s, isNon_t, isNon_l, isNon_r, isBl_n, isBl_i, isBl_b, isBl_s, isBl_t, isBl_l, isBl_r, oIx_t, oIx_l, oIx_s, oLen_t, oLen_l, oLen_c, oLen_s, oAbs_i, oInt_i, oInt_b, oMax2_i, oMin2_i, oGcd_i, oIter_t, oIter_l, oIter_c, oRng1_i, oRng2_i, oRng2G_i, oSl_t, oSl_l, oSl_c, oIsi_n, oIsi_b, oIsi_i, oIsi_s, oIsi_t, oIsi_l, List.set, List.length_cons, List.length_nil, Nat.reduceAdd]
    refine ⟨_, ez, ?_⟩
    have z1 : 1 ≤ z ∧ z ≤ 1200 := by omega
    try dsimp only [isT, look, List.length_cons, List.length_nil, List.nil_append, List.cons_append, Nat.sub_self, newL_f, newL_t, oAdd_i, oAdd_s, oAdd_t, oAdd_l, oMul_i, oSub_i, oFdiv_i, oMod_i, oPow_i, oLt_i, oLe_i, oGt_i, oGe_i, oNeg_i, oAddI_i, oEq_ii, oEq_ss, oEq_bb, oEq_nn, oEq_ni, oEq_in, oEq_ns, oEq_sn, oEq_is, oEq_si, oNe_ii, oNe_ss, oNe_bb, oIs_n, oIs_b, oIsNot_n, oIsNot_b, isNon_n, isNon_i, isNon_b, isNon_s, isNon_t, isNon_l, isNon_r, isBl_n, isBl_i, isBl_b, isBl_s, isBl_t, isBl_l, isBl_r, oIx_t, oIx_l, oIx_s, oLen_t, oLen_l, oLen_c, oLen_s, oAbs_i, oInt_i, oInt_b, oMax2_i, oMin2_i, oGcd_i, oIter_t, oIter_l, oIter_c, oRng1_i, oRng2_i, oRng2G_i, oSl_t, oSl_l, oSl_c, oIsi_n, oIsi_b, oIsi_i, oIsi_s, oIsi_t, oIsi_l, List.set, List.length_cons, List.length_nil, Nat.reduceAdd]
    refine sp_draw1 hc1 z1.1 (by omega) fun r2 c2 hr2 hc2 => ?_
    try dsimp only [isT, look, List.length_cons, List.length_nil, List.nil_append, List.cons_append, Nat.sub_self, newL_f, newL_t, oAdd_i, oAdd_s, oAdd_t, oAdd_l, oMul_i, oSub_i, oFdiv_i, oMod_i, oPow_i, oLt_i, oLe_i, oGt_i, oGe_i, oNeg_i, oAddI_i, oEq_ii, oEq_ss, oEq_bb, oEq_nn, oEq_ni, oEq_in, oEq_ns, oEq_sn, oEq_is, oEq_si, oNe_ii, oNe_ss, oNe_bb, oIs_n, oIs_b, oIsNot_n, oIsNot_b, isNon_n, isNon_i, isNon_b, isNon_s, isNon_t, isNon_l, isNon_r, isBl_n, isBl_i, isBl_b, isBl_s, isBl_t, isBl_l, isBl_r, oIx_t, oIx_l, oIx_s, oLen_t, oLen_l, oLen_c, oLen_s, oAbs_i, oInt_i, oInt_b, oMax2_i, oMin2_i, oGcd_i, oIter_t, oIter_l, oIter_c, oRng1_i, oRng2_i, oRng2G_i, oSl_t, oSl_l, oSl_c, oIsi_n, oIsi_b, oIsi_i, oIsi_s, oIsi_t, oIsi_l, List.set, List.length_cons, List.length_nil, Nat.reduceAdd]
    rw [show (1 : Int) + r2 = ((1 + r2 : Nat) : Int) by omega]
    exact hI _ _ ⟨c2, 1 + r2, rfl, hc2, by omega, by omega, rfl⟩
  rintro env vh ⟨c, s, rfl, hc, hs1, hs2, rfl⟩
  refine seq_inv (fun env vh => ∃ (c : Cell) (w : Nat), vh = [c] ∧ PoolOk c ∧ 1 ≤ w ∧ w ≤ 10 ^ 18 ∧ env = [some (.ref 0), some (fr u v), some (.int kd1), some (.int s), some (.int w)]) ?_ ?_
  · intro nx hI
    dsimp only [sVar, sCst, sBin, sUn, sTB, sNotT, sAndT, sOrT, sAndV, sOrV, sNotV, sIfE, sNil, sCons, sTup, sLst, sCallB, sSeq, sSkip, sDrop, sRet, sRetN, sBrk, sCnt, sIf, sSet, gN, gsNil, gsCons, gT, sAsg, sFor, sWhile, sIt, sItA, sLc, sYes, sCall, sCallK, sMethK, sNewK, oview, sFld, sMeth, sNew, sPutNew, sPutOld, sPutL, sAug, sChain, sNoP, sPart, sSl, isT, sIsi, sApp, sRaise, sTry, exTry, ksAs, envAs, sXf, look, wipeE, List.set, List.map, List.replicate, id, perm, List.filterMap, List.length_cons, List.length_nil, List.nil_append, List.cons_append, Nat.sub_self, Nat.reduceAdd, Nat.reduceSub, newL_f, newL_t, oAdd_i, oAdd_s, oAdd_t, oAdd_l, oMul_i, oSub_i, oFdiv_i, oMod_i, oPow_i, oLt_i, oLe_i, oGt_i, oGe_i, oNeg_i, oAddI_i, oEq_ii, oEq_ss, oEq_bb, oEq_nn, oEq_ni, oEq_in, oEq_ns, oEq_sn, oEq_is, oEq_si, oNe_ii, oNe_ss, oNe_bb, oIs_n, oIs_b, oIsNot_n, oIsNot_b, isNon_n, isNon_i, isNon_b, isNon_s, isNon_t, isNon_l, isNon_r, isBl_n, isBl_i, isBl_b, isBl_s, isBl_t, isBl_l, isBl_r, oIx_t, oIx_l, oIx_s, oLen_t, oLen_l, oLen_c, oLen_s, oAbs_i, oInt_i, oInt_b, oMax2_i, oMin2_i, oGcd_i, oIter_t, oIter_l, oIter_c, oRng1_i, oRng2_i, oRng2G_i, oSl_t, oSl_l, oSl_c, oIsi_n, oIsi_b, oIsi_i, oIsi_s, oIsi_t, oIsi_l]
    refine ⟨⟨by decide, by decide, by decide⟩, ⟨by decide, by decide, by decide⟩, by decide, ?_⟩
    refine sp_draw1 hc (by decide) (by decide) fun r c1 hr hc1 => ?_
    rw [show ((10 : Int) ^ (6 : Int).toNat) = 1000000 by decide, show ((10 : Int) ^ (18 : Int).toNat) = 1000000000000000000 by decide]
    obtain ⟨z, hz, ez⟩ := pick3 (a := 12) (b := 1000000) (c := 1000000000000000000) hr
    try dsimp only [isT, look, List.length_cons, List.length_nil, List.nil_append, List.cons_append, Nat.sub_self, newL_f, newL_t, oAdd_i, oAdd_s, oAdd_t, oAdd_l, oMul_i, oSub_i, oFdiv_i, oMod_i, oPow_i, oLt_i, oLe_i, oGt_i, oGe_i, oNeg_i, oAddI_i, oEq_ii, oEq_ss, oEq_bb, oEq_nn, oEq_ni, oEq_in, oEq_ns, oEq_sn, oEq_is, oEq_si, oNe_ii, oNe_ss, oNe_bb, oIs_n, oIs_b, oIsNot_n, oIsNot_b, isNon_n, isNon_i, isNon_b, isNon_s, isNon_t, isNon_l, isNon_r, isBl_n, isBl_i, isBl_b, isBl_s, isBl_t, isBl_l, isBl_r, oIx_t, oIx_l, oIx_s, oLen_t, oLen_l, oLen_c, oLen_s, oAbs_i, oInt_i, oInt_b, oMax2_i, oMin2_i, oGcd_i, oIter_t, oIter_l, oIter_c, oRng1_i, oRng2_i, oRng2G_i, oSl_t, oSl_l, oSl_c, oIsi_n, oIsi_b, oIsi_i, oIsi_s, oIsi_t, oIsi_l, List.set, List.length_cons, List.length_nil, Nat.reduceAdd]
    refine ⟨_, ez, ?_⟩
    have z1 : 1 ≤ z ∧ z ≤ 1000000000000000000 := by omega
    try dsimp only [isT, look, List.length_cons, List.length_nil, List.nil_append, List.cons_append, Nat.sub_self, newL_f, newL_t, oAdd_i, oAdd_s, oAdd_t, oAdd_l, oMul_i, oSub_i, oFdiv_i, oMod_i, oPow_i, oLt_i, oLe_i, oGt_i, oGe_i, oNeg_i, oAddI_i, oEq_ii, oEq_ss, oEq_bb, oEq_nn, oEq_ni, oEq_in, oEq_ns, oEq_sn, oEq_is, oEq_si, oNe_ii, oNe_ss, oNe_bb, oIs_n, oIs_b, oIsNot_n, oIsNot_b, isNon_n, isNon_i, isNon_b, isNon_s, isNon_t, isNon_l, isNon_r, isBl_n, isBl_i, isBl_b, isBl_s, isBl_t, isBl_l, isBl_r, oIx_t, oIx_l, oIx_s, oLen_t, oLen_l, oLen_c, oLen_s, oAbs_i, oInt_i, oInt_b, oMax2_i, oMin2_i, oGcd_i, oIter_t, oIter_l, oIter_c, oRng1_i, oRng2_i, oRng2G_i, oSl_t, oSl_l, oSl_c, oIsi_n, oIsi_b, oIsi_i, oIsi_s, oIsi_t, oIsi_l, List.set, List.length_cons, List.length_nil, Nat.reduceAdd]
    refine sp_draw1 hc1 z1.1 (by omega) fun r2 c2 hr2 hc2 => ?_
    try dsimp only [isT, look, List.length_cons, List.length_nil, List.nil_append, List.cons_append, Nat.sub_self, newL_f, newL_t, oAdd_i, oAdd_s, oAdd_t, oAdd_l, oMul_i, oSub_i, oFdiv_i, oMod_i, oPow_i, oLt_i, oLe_i, oGt_i, oGe_i, oNeg_i, oAddI_i, oEq_ii, oEq_ss, oEq_bb, oEq_nn, oEq_ni, oEq_in, oEq_ns, oEq_sn, oEq_is, oEq_si, oNe_ii, oNe_ss, oNe_bb, oIs_n, oIs_b, oIsNot_n, oIsNot_b, isNon_n, isNon_i, isNon_b, isNon_s, isNon_t, isNon_l, isNon_r, isBl_n, isBl_i, isBl_b, isBl_s, isBl_t, isBl_l, isBl_r, oIx_t, oIx_l, oIx_s, oLen_t, oLen_l, oLen_c, oLen_s, oAbs_i, oInt_i, oInt_b, oMax2_i, oMin2_i, oGcd_i, oIter_t, oIter_l, oIter_c, oRng1_i, oRng2_i, oRng2G_i, oSl_t, oSl_l, oSl_c, oIsi_n, oIsi_b, oIsi_i, oIsi_s, oIsi_t, oIsi_l, List.set, List.length_cons, List.length_nil, Nat.reduceAdd]
    rw [show (1 : Int) + r2 = ((1 + r2 : Nat) : Int) by omega]
    exact hI _ _ ⟨c2, 1 + r2, rfl, hc2, by omega, by omega, rfl⟩
  rintro env vh ⟨c, w, rfl, hc, hw1, hw2, rfl⟩
  have hm : mk0 u v s ≤ 20 * 1200 + 20 := by
    unfold mk0
    have : v * (s - 1) ≤ 20 * 1200 := Nat.mul_le_mul hv (by omega)
    omega
  have hmw : mk0 u v s * w ≤ 24020 * 10 ^ 18 := Nat.mul_le_mul hm hw2
  have hvw : v * w ≤ 20 * 10 ^ 18 := Nat.mul_le_mul hv hw2
  have hvw1 : 1 * 1 ≤ v * w := Nat.mul_le_mul hv1 hw1
  dsimp only [sVar, sCst, sBin, sUn, sTB, sNotT, sAndT, sOrT, sAndV, sOrV, sNotV, sIfE, sNil, sCons, sTup, sLst, sCallB, sSeq, sSkip, sDrop, sRet, sRetN, sBrk, sCnt, sIf, sSet, gN, gsNil, gsCons, gT, sAsg, sFor, sWhile, sIt, sItA, sLc, sYes, sCall, sCallK, sMethK, sNewK, oview, sFld, sMeth, sNew, sPutNew, sPutOld, sPutL, sAug, sChain, sNoP, sPart, sSl, isT, sIsi, sApp, sRaise, sTry, exTry, ksAs, envAs, sXf, look, wipeE, List.set, List.map, List.replicate, id, perm, List.filterMap, List.length_cons, List.length_nil, List.nil_append, List.cons_append, Nat.sub_self, Nat.reduceAdd, Nat.reduceSub, newL_f, newL_t, oAdd_i, oAdd_s, oAdd_t, oAdd_l, oMul_i, oSub_i, oFdiv_i, oMod_i, oPow_i, oLt_i, oLe_i, oGt_i, oGe_i, oNeg_i, oAddI_i, oEq_ii, oEq_ss, oEq_bb, oEq_nn, oEq_ni, oEq_in, oEq_ns, oEq_sn, oEq_is, oEq_si, oNe_ii, oNe_ss, oNe_bb, oIs_n, oIs_b, oIsNot_n, oIsNot_b, isNon_n, isNon_i, isNon_b, isNon_s, isNon_t, isNon_l, isNon_r, isBl_n, isBl_i, isBl_b, isBl_s, isBl_t, isBl_l, isBl_r, oIx_t, oIx_l, oIx_s, oLen_t, oLen_l, oLen_c, oLen_s, oAbs_i, oInt_i, oInt_b, oMax2_i, oMin2_i, oGcd_i, oIter_t, oIter_l, oIter_c, oRng1_i, oRng2_i, oRng2G_i, oSl_t, oSl_l, oSl_c, oIsi_n, oIsi_b, oIsi_i, oIsi_s, oIsi_t, oIsi_l]
  by_cases k0 : (kd1 : Int) < 2
  · rw [decide_eq_true k0]
    try dsimp only
    refine sp_lmark (by omega) hv hs1 (by omega) ?_
    try dsimp only [isT, look, List.length_cons, List.length_nil, List.nil_append, List.cons_append, Nat.sub_self, newL_f, newL_t, oAdd_i, oAdd_s, oAdd_t, oAdd_l, oMul_i, oSub_i, oFdiv_i, oMod_i, oPow_i, oLt_i, oLe_i, oGt_i, oGe_i, oNeg_i, oAddI_i, oEq_ii, oEq_ss, oEq_bb, oEq_nn, oEq_ni, oEq_in, oEq_ns, oEq_sn, oEq_is, oEq_si, oNe_ii, oNe_ss, oNe_bb, oIs_n, oIs_b, oIsNot_n, oIsNot_b, isNon_n, isNon_i, isNon_b, isNon_s, isNon_t, isNon_l, isNon_r, isBl_n, isBl_i, isBl_b, isBl_s, isBl_t, isBl_l, isBl_r, oIx_t, oIx_l, oIx_s, oLen_t, oLen_l, oLen_c, oLen_s, oAbs_i, oInt_i, oInt_b, oMax2_i, oMin2_i, oGcd_i, oIter_t, oIter_l, oIter_c, oRng1_i, oRng2_i, oRng2G_i, oSl_t, oSl_l, oSl_c, oIsi_n, oIsi_b, oIsi_i, oIsi_s, oIsi_t, oIsi_l, List.set, List.length_cons, List.length_nil, Nat.reduceAdd]
    refine ⟨_, rfl, ?_⟩
    exact ⟨by decide, h _ _ c hv1 (by omega) (by omega) hc⟩
  rw [decide_eq_false k0]
  try dsimp only
  rw [show ((kd1 : Int) == 2) = decide (kd1 = 2) from nat_eq (b := 2)]
  by_cases k2 : kd1 = 2
  · rw [decide_eq_true k2]
    try dsimp only
    refine sp_lmark (by omega) hv hs1 (by omega) ?_
    try dsimp only [isT, look, List.length_cons, List.length_nil, List.nil_append, List.cons_append, Nat.sub_self, newL_f, newL_t, oAdd_i, oAdd_s, oAdd_t, oAdd_l, oMul_i, oSub_i, oFdiv_i, oMod_i, oPow_i, oLt_i, oLe_i, oGt_i, oGe_i, oNeg_i, oAddI_i, oEq_ii, oEq_ss, oEq_bb, oEq_nn, oEq_ni, oEq_in, oEq_ns, oEq_sn, oEq_is, oEq_si, oNe_ii, oNe_ss, oNe_bb, oIs_n, oIs_b, oIsNot_n, oIsNot_b, isNon_n, isNon_i, isNon_b, isNon_s, isNon_t, isNon_l, isNon_r, isBl_n, isBl_i, isBl_b, isBl_s, isBl_t, isBl_l, isBl_r, oIx_t, oIx_l, oIx_s, oLen_t, oLen_l, oLen_c, oLen_s, oAbs_i, oInt_i, oInt_b, oMax2_i, oMin2_i, oGcd_i, oIter_t, oIter_l, oIter_c, oRng1_i, oRng2_i, oRng2G_i, oSl_t, oSl_l, oSl_c, oIsi_n, oIsi_b, oIsi_i, oIsi_s, oIsi_t, oIsi_l, List.set, List.length_cons, List.length_nil, Nat.reduceAdd]
    refine ⟨mul_nat (by omega) (by omega), _, rfl, _, rfl, mul_nat (by omega) (by omega), ?_⟩
    rw [← Int.natCast_mul, ← Int.natCast_mul, ← Int.natCast_add]
    exact ⟨by decide, h _ _ c (by omega) (by omega) (by omega) hc⟩
  rw [decide_eq_false k2]
  try dsimp only
  rw [show ((kd1 : Int) == 3) = decide (kd1 = 3) from nat_eq (b := 3)]
  by_cases k3 : kd1 = 3
  · rw [decide_eq_true k3]
    try dsimp only
    refine sp_lmark (by omega) hv hs1 (by omega) ?_
    try dsimp only [isT, look, List.length_cons, List.length_nil, List.nil_append, List.cons_append, Nat.sub_self, newL_f, newL_t, oAdd_i, oAdd_s, oAdd_t, oAdd_l, oMul_i, oSub_i, oFdiv_i, oMod_i, oPow_i, oLt_i, oLe_i, oGt_i, oGe_i, oNeg_i, oAddI_i, oEq_ii, oEq_ss, oEq_bb, oEq_nn, oEq_ni, oEq_in, oEq_ns, oEq_sn, oEq_is, oEq_si, oNe_ii, oNe_ss, oNe_bb, oIs_n, oIs_b, oIsNot_n, oIsNot_b, isNon_n, isNon_i, isNon_b, isNon_s, isNon_t, isNon_l, isNon_r, isBl_n, isBl_i, isBl_b, isBl_s, isBl_t, isBl_l, isBl_r, oIx_t, oIx_l, oIx_s, oLen_t, oLen_l, oLen_c, oLen_s, oAbs_i, oInt_i, oInt_b, oMax2_i, oMin2_i, oGcd_i, oIter_t, oIter_l, oIter_c, oRng1_i, oRng2_i, oRng2G_i, oSl_t, oSl_l, oSl_c, oIsi_n, oIsi_b, oIsi_i, oIsi_s, oIsi_t, oIsi_l, List.set, List.length_cons, List.length_nil, Nat.reduceAdd]
    refine ⟨mul_nat (by omega) (by omega), _, rfl, _, rfl, mul_nat (by omega) (by omega), ?_⟩
    rw [← Int.natCast_mul, ← Int.natCast_mul, show max (0 : Int) (((mk0 u v s * w : Nat) : Int) - (v : Int)) = ((mk0 u v s * w - v : Nat) : Int) by omega]
    exact ⟨by decide, h _ _ c (by omega) (by omega) (by omega) hc⟩
  rw [decide_eq_false k3]
  try dsimp only
  rw [show ((kd1 : Int) == 4) = decide (kd1 = 4) from nat_eq (b := 4)]
  by_cases k4 : kd1 = 4
  · rw [decide_eq_true k4]
    try dsimp only
    refine sp_draw1 hc (by decide) (by decide) fun r c1 hr hc1 => ?_
    try dsimp only
    refine sp_draw1 hc1 (by decide) (by decide) fun r2 c2 hr2 hc2 => ?_
    try dsimp only [isT, look, List.length_cons, List.length_nil, List.nil_append, List.cons_append, Nat.sub_self, newL_f, newL_t, oAdd_i, oAdd_s, oAdd_t, oAdd_l, oMul_i, oSub_i, oFdiv_i, oMod_i, oPow_i, oLt_i, oLe_i, oGt_i, oGe_i, oNeg_i, oAddI_i, oEq_ii, oEq_ss, oEq_bb, oEq_nn, oEq_ni, oEq_in, oEq_ns, oEq_sn, oEq_is, oEq_si, oNe_ii, oNe_ss, oNe_bb, oIs_n, oIs_b, oIsNot_n, oIsNot_b, isNon_n, isNon_i, isNon_b, isNon_s, isNon_t, isNon_l, isNon_r, isBl_n, isBl_i, isBl_b, isBl_s, isBl_t, isBl_l, isBl_r, oIx_t, oIx_l, oIx_s, oLen_t, oLen_l, oLen_c, oLen_s, oAbs_i, oInt_i, oInt_b, oMax2_i, oMin2_i, oGcd_i, oIter_t, oIter_l, oIter_c, oRng1_i, oRng2_i, oRng2G_i, oSl_t, oSl_l, oSl_c, oIsi_n, oIsi_b, oIsi_i, oIsi_s, oIsi_t, oIsi_l, List.set, List.length_cons, List.length_nil, Nat.reduceAdd]
    rw [show (1 : Int) + r2 = ((1 + r2 : Nat) : Int) by omega]
    exact ⟨by decide, h _ _ c2 (by omega) (by omega) (by omega) hc2⟩
  rw [decide_eq_false k4]
  try dsimp only
  rw [show ((kd1 : Int) == 5) = decide (kd1 = 5) from nat_eq (b := 5)]
  by_cases k5 : kd1 = 5
  · rw [decide_eq_true k5]
    try dsimp only
    refine sp_draw1 hc (by decide) (by decide) fun r c1 hr hc1 => ?_
    exact ⟨by decide, h _ 1 c1 (by omega) (by omega) (by omega) hc1⟩
  rw [decide_eq_false k5]
  try dsimp only
  refine ⟨⟨by decide, by decide, by decide⟩, ?_⟩
  rw [show ((10 : Int) ^ (18 : Int).toNat) = 1000000000000000000 by decide]
  refine sp_draw1 hc (by decide) (by decide) fun r c1 hr hc1 => ?_
  try dsimp only [isT, look, List.length_cons, List.length_nil, List.nil_append, List.cons_append, Nat.sub_self, newL_f, newL_t, oAdd_i, oAdd_s, oAdd_t, oAdd_l, oMul_i, oSub_i, oFdiv_i, oMod_i, oPow_i, oLt_i, oLe_i, oGt_i, oGe_i, oNeg_i, oAddI_i, oEq_ii, oEq_ss, oEq_bb, oEq_nn, oEq_ni, oEq_in, oEq_ns, oEq_sn, oEq_is, oEq_si, oNe_ii, oNe_ss, oNe_bb, oIs_n, oIs_b, oIsNot_n, oIsNot_b, isNon_n, isNon_i, isNon_b, isNon_s, isNon_t, isNon_l, isNon_r, isBl_n, isBl_i, isBl_b, isBl_s, isBl_t, isBl_l, isBl_r, oIx_t, oIx_l, oIx_s, oLen_t, oLen_l, oLen_c, oLen_s, oAbs_i, oInt_i, oInt_b, oMax2_i, oMin2_i, oGcd_i, oIter_t, oIter_l, oIter_c, oRng1_i, oRng2_i, oRng2G_i, oSl_t, oSl_l, oSl_c, oIsi_n, oIsi_b, oIsi_i, oIsi_s, oIsi_t, oIsi_l, List.set, List.length_cons, List.length_nil, Nat.reduceAdd]
  refine ⟨⟨by decide, by decide, by decide⟩, ?_⟩
  rw [show ((10 : Int) ^ (19 : Int).toNat) = 10000000000000000000 by decide]
  refine ⟨mul_ok (by omega) (by omega) (by omega) (by omega), ⟨by decide, by decide, by decide⟩, ?_⟩
  refine sp_draw1 hc1 (by decide) (by decide) fun r2 c2 hr2 hc2 => ?_
  try dsimp only [isT, look, List.length_cons, List.length_nil, List.nil_append, List.cons_append, Nat.sub_self, newL_f, newL_t, oAdd_i, oAdd_s, oAdd_t, oAdd_l, oMul_i, oSub_i, oFdiv_i, oMod_i, oPow_i, oLt_i, oLe_i, oGt_i, oGe_i, oNeg_i, oAddI_i, oEq_ii, oEq_ss, oEq_bb, oEq_nn, oEq_ni, oEq_in, oEq_ns, oEq_sn, oEq_is, oEq_si, oNe_ii, oNe_ss, oNe_bb, oIs_n, oIs_b, oIsNot_n, oIsNot_b, isNon_n, isNon_i, isNon_b, isNon_s, isNon_t, isNon_l, isNon_r, isBl_n, isBl_i, isBl_b, isBl_s, isBl_t, isBl_l, isBl_r, oIx_t, oIx_l, oIx_s, oLen_t, oLen_l, oLen_c, oLen_s, oAbs_i, oInt_i, oInt_b, oMax2_i, oMin2_i, oGcd_i, oIter_t, oIter_l, oIter_c, oRng1_i, oRng2_i, oRng2G_i, oSl_t, oSl_l, oSl_c, oIsi_n, oIsi_b, oIsi_i, oIsi_s, oIsi_t, oIsi_l, List.set, List.length_cons, List.length_nil, Nat.reduceAdd]
  rw [show (r : Int) * 10000000000000000000 + (r2 : Int) = ((r * 10000000000000000000 + r2 : Nat) : Int) by omega]
  exact ⟨by decide, h _ _ c2 hw1 (by omega) (by omega) hc2⟩

theorem sp_rounded_bad {d x : D} (hd : badFr x = true) (hl : SD 2 x) (h : kx ⟨"InvalidFraction", ["value"], [x]⟩ vh) : callN T (k + 5) i_Rule_rounded [d, x] vh kx kd := by
  refine enter (fn := fn_Rule_rounded) rfl rfl rfl rfl ?_
  dsimp only [fn_Rule_rounded, sem_Rule_rounded, sVar, sCst, sBin, sUn, sTB, sNotT, sAndT, sOrT, sAndV, sOrV, sNotV, sIfE, sNil, sCons, sTup, sLst, sCallB, sSeq, sSkip, sDrop, sRet, sRetN, sBrk, sCnt, sIf, sSet, gN, gsNil, gsCons, gT, sAsg, sFor, sWhile, sIt, sItA, sLc, sYes, sCall, sCallK, sMethK, sNewK, oview, sFld, sMeth, sNew, sPutNew, sPutOld, sPutL, sAug, sChain, sNoP, sPart, sSl, isT, sIsi, sApp, sRaise, sTry, exTry, ksAs, envAs, sXf, look, wipeE, List.set, List.map, List.replicate, id, perm, List.filterMap, List.length_cons, List.length_nil, List.nil_append, List.cons_append, Nat.sub_self, Nat.reduceAdd, Nat.reduceSub, newL_f, newL_t, oAdd_i, oAdd_s, oAdd_t, oAdd_l, oMul_i, oSub_i, oFdiv_i, oMod_i, oPow_i, oLt_i, oLe_i, oGt_i, oGe_i, oNeg_i, oAddI_i, oEq_ii, oEq_ss, oEq_bb, oEq_nn, oEq_ni, oEq_in, oEq_ns, oEq_sn, oEq_is, oEq_si, oNe_ii, oNe_ss, oNe_bb, oIs_n, oIs_b, oIsNot_n, oIsNot_b, isNon_n, isNon_i, isNon_b, isNon_s, isNon_t, isNon_l, isNon_r, isBl_n, isBl_i, isBl_b, isBl_s, isBl_t, isBl_l, isBl_r, oIx_t, oIx_l, oIx_s, oLen_t, oLen_l, oLen_c, oLen_s, oAbs_i, oInt_i, oInt_b, oMax2_i, oMin2_i, oGcd_i, oIter_t, oIter_l, oIter_c, oRng1_i, oRng2_i, oRng2G_i, oSl_t, oSl_l, oSl_c, oIsi_n, oIsi_b, oIsi_i, oIsi_s, oIsi_t, oIsi_l]
  refine sp_check_bad (k := k) hd hl.low ?_
  exact finX_pure (lows_one hl.low) h
theorem sp_refused {a b : Nat} {x : D} (hd : badFr x = true) (hl : SD 2 x) (h : kd (.bl true) vh) : callN T (k + 6) i__law_refused [ruleD a b, x] vh kx kd := by
  refine enter (fn := fn__law_refused) rfl rfl rfl rfl ?_
  dsimp only [fn__law_refused, sem__law_refused, sVar, sCst, sBin, sUn, sTB, sNotT, sAndT, sOrT, sAndV, sOrV, sNotV, sIfE, sNil, sCons, sTup, sLst, sCallB, sSeq, sSkip, sDrop, sRet, sRetN, sBrk, sCnt, sIf, sSet, gN, gsNil, gsCons, gT, sAsg, sFor, sWhile, sIt, sItA, sLc, sYes, sCall, sCallK, sMethK, sNewK, oview, sFld, sMeth, sNew, sPutNew, sPutOld, sPutL, sAug, sChain, sNoP, sPart, sSl, isT, sIsi, sApp, sRaise, sTry, exTry, ksAs, envAs, sXf, look, wipeE, List.set, List.map, List.replicate, id, perm, List.filterMap, List.length_cons, List.length_nil, List.nil_append, List.cons_append, Nat.sub_self, Nat.reduceAdd, Nat.reduceSub, newL_f, newL_t, oAdd_i, oAdd_s, oAdd_t, oAdd_l, oMul_i, oSub_i, oFdiv_i, oMod_i, oPow_i, oLt_i, oLe_i, oGt_i, oGe_i, oNeg_i, oAddI_i, oEq_ii, oEq_ss, oEq_bb, oEq_nn, oEq_ni, oEq_in, oEq_ns, oEq_sn, oEq_is, oEq_si, oNe_ii, oNe_ss, oNe_bb, oIs_n, oIs_b, oIsNot_n, oIsNot_b, isNon_n, isNon_i, isNon_b, isNon_s, isNon_t, isNon_l, isNon_r, isBl_n, isBl_i, isBl_b, isBl_s, isBl_t, isBl_l, isBl_r, oIx_t, oIx_l, oIx_s, oLen_t, oLen_l, oLen_c, oLen_s, oAbs_i, oInt_i, oInt_b, oMax2_i, oMin2_i, oGcd_i, oIter_t, oIter_l, oIter_c, oRng1_i, oRng2_i, oRng2G_i, oSl_t, oSl_l, oSl_c, oIsi_n, oIsi_b, oIsi_i, oIsi_s, oIsi_t, oIsi_l]
  refine ⟨rfl, by decide, ?_⟩
  refine sp_rounded_bad (k := k) hd hl ?_
  refine ⟨show ("InvalidFraction" : Str) ∈ exL by decide, ?_⟩
  simp only [show exSub ("InvalidFraction" : Str) ("InvalidFraction" : Str) = true from by decide]
  intro a0 dd
  exact ⟨⟨trivial, trivial, trivial, rfl⟩, _, rfl, sp_same (k := k + 2) 2 hl (fin_pure low_bl h)⟩
def things : List D := [.non, .int 3, .bl true, .str "1/2", .tup [], .tup [.int 1], .tup [.int 1, .int 2, .int 3], .tup [.int 1, .int 0], .tup [.int 0, .int 0], .tup [.int 0, .int 2], .tup [.int 1, .int (-2)], .tup [.int (-1), .int 2], .tup [.bl true, .int 1], .tup [.int 1, .bl true],
  .tup [.tup [.int 1, .int 2], .int 1], .tup [.int 1, .str "2"], .tup [.int 4, .int 6], .tup [.non, .int 1], .lst [.tup [.int 1, .int 2]]]
theorem things_all : things.all (fun d => badFr d && sdb 2 d) = true := by decide +kernel
theorem things_at {r : Nat} (h : (r : Int) < 19) : ∃ d, atI things (r : Int) = some d ∧ badFr d = true ∧ SD 2 d := by
  have hl : r < things.length := by
    have : things.length = 19 := rfl
    omega
  have hg : things[r]? = some things[r] := List.getElem?_eq_getElem hl
  have ha := List.all_eq_true.mp things_all _ (List.getElem_mem hl)
  rw [Bool.and_eq_true] at ha
  exact ⟨_, at_nat hg, ha.1, SD.of ha.2⟩
theorem len3 {f : Nat → Bool} {F : Nat} : (natD (taken f (F - 1) (F + 2 - (F - 1)))).length < 16777217 := by
  rw [natD, List.length_map]
  have := taken_len f (F - 1) (F + 2 - (F - 1))
  omega
/-- the law's names -/
def eL (ns : List Int) (u v : Nat) (x4 x5 x6 x7 x8 x9 : Option D) : VI.Env := [some (.scr ns), some (.ref 0), some (fr u v), some (ruleD u v), x4, x5, x6, x7, x8, x9]
theorem len_due {p q X Y : Nat} : (natD (dueL p q X Y)).length < 16777217 := by
  unfold dueL
  exact len3
theorem sp_same_due {p q X Y : Nat} (h : kd (.bl true) vh) : callN T (k + 2) i__law_same [.tup (natD (dueL p q X Y)), .tup (natD (dueL p q X Y))] vh kx kd := sp_same 1 ⟨len_due, SD_nat _⟩ h
theorem twice {p q : Nat} (hq : 1 ≤ q) : badFr (.tup [.int (2 * (p : Int)), .int (2 * (q : Int))]) = true := by
  have e : (((Nat.gcd (2 * (p : Int)).natAbs (2 * (q : Int)).natAbs : Nat) : Int) == 1) = false := by
    rw [show (2 * (p : Int)).natAbs = 2 * p by omega, show (2 * (q : Int)).natAbs = 2 * q by omega, Nat.gcd_mul_left]
    rw [beq_eq_false_iff_ne]
    omega
  show (true && (true && !(decide (0 ≤ 2 * (p : Int)) && (!decide (2 * (q : Int) < 1) && (((Nat.gcd (2 * (p : Int)).natAbs (2 * (q : Int)).natAbs : Nat) : Int) == 1))))) = true
  rw [e]
  simp
theorem spec_law : ∀ ns : List Int, ns.length ≤ 63 → callN T lev i_law [.scr ns] [] noX fun d _ => d = .bl true := by
  intro ns hn
  refine enter (fn := fn_law) (k := 13) rfl rfl rfl rfl ?_
  dsimp only [fn_law, sem_law]
  refine seq_inv (fun env vh => ∃ c, vh = [c] ∧ PoolOk c ∧ env = [some (.scr ns), some (.ref 0), none, none, none, none, none, none, none, none]) ?_ ?_
  · intro nx hI
    dsimp only [sVar, sCst, sBin, sUn, sTB, sNotT, sAndT, sOrT, sAndV, sOrV, sNotV, sIfE, sNil, sCons, sTup, sLst, sCallB, sSeq, sSkip, sDrop, sRet, sRetN, sBrk, sCnt, sIf, sSet, gN, gsNil, gsCons, gT, sAsg, sFor, sWhile, sIt, sItA, sLc, sYes, sCall, sCallK, sMethK, sNewK, oview, sFld, sMeth, sNew, sPutNew, sPutOld, sPutL, sAug, sChain, sNoP, sPart, sSl, isT, sIsi, sApp, sRaise, sTry, exTry, ksAs, envAs, sXf, look, wipeE, List.set, List.map, List.replicate, id, perm, List.filterMap, List.length_cons, List.length_nil, List.nil_append, List.cons_append, Nat.sub_self, Nat.reduceAdd, Nat.reduceSub, newL_f, newL_t, oAdd_i, oAdd_s, oAdd_t, oAdd_l, oMul_i, oSub_i, oFdiv_i, oMod_i, oPow_i, oLt_i, oLe_i, oGt_i, oGe_i, oNeg_i, oAddI_i, oEq_ii, oEq_ss, oEq_bb, oEq_nn, oEq_ni, oEq_in, oEq_ns, oEq_sn, oEq_is, oEq_si, oNe_ii, oNe_ss, oNe_bb, oIs_n, oIs_b, oIsNot_n, oIsNot_b, isNon_n, isNon_i, isNon_b, isNon_s, isNon_t, isNon_l, isNon_r, isBl_n, isBl_i, isBl_b, isBl_s, isBl_t, isBl_l, isBl_r, oIx_t, oIx_l, oIx_s, oLen_t, oLen_l, oLen_c, oLen_s, oAbs_i, oInt_i, oInt_b, oMax2_i, oMin2_i, oGcd_i, oIter_t, oIter_l, oIter_c, oRng1_i, oRng2_i, oRng2G_i, oSl_t, oSl_l, oSl_c, oIsi_n, oIsi_b, oIsi_i, oIsi_s, oIsi_t, oIsi_l]
    exact sp_pool (k := 12) hn fun c hc => hI _ _ ⟨c, rfl, hc, rfl⟩
  rintro env vh ⟨c, rfl, hc, rfl⟩
  refine seq_inv (fun env vh => ∃ c u v, vh = [c] ∧ PoolOk c ∧ 1 ≤ v ∧ v ≤ 20 ∧ u ≤ v ∧ env = [some (.scr ns), some (.ref 0), some (fr u v), none, none, none, none, none, none, none]) ?_ ?_
  · intro nx hI
    dsimp only [sVar, sCst, sBin, sUn, sTB, sNotT, sAndT, sOrT, sAndV, sOrV, sNotV, sIfE, sNil, sCons, sTup, sLst, sCallB, sSeq, sSkip, sDrop, sRet, sRetN, sBrk, sCnt, sIf, sSet, gN, gsNil, gsCons, gT, sAsg, sFor, sWhile, sIt, sItA, sLc, sYes, sCall, sCallK, sMethK, sNewK, oview, sFld, sMeth, sNew, sPutNew, sPutOld, sPutL, sAug, sChain, sNoP, sPart, sSl, isT, sIsi, sApp, sRaise, sTry, exTry, ksAs, envAs, sXf, look, wipeE, List.set, List.map, List.replicate, id, perm, List.filterMap, List.length_cons, List.length_nil, List.nil_append, List.cons_append, Nat.sub_self, Nat.reduceAdd, Nat.reduceSub, newL_f, newL_t, oAdd_i, oAdd_s, oAdd_t, oAdd_l, oMul_i, oSub_i, oFdiv_i, oMod_i, oPow_i, oLt_i, oLe_i, oGt_i, oGe_i, oNeg_i, oAddI_i, oEq_ii, oEq_ss, oEq_bb, oEq_nn, oEq_ni, oEq_in, oEq_ns, oEq_sn, oEq_is, oEq_si, oNe_ii, oNe_ss, oNe_bb, oIs_n, oIs_b, oIsNot_n, oIsNot_b, isNon_n, isNon_i, isNon_b, isNon_s, isNon_t, isNon_l, isNon_r, isBl_n, isBl_i, isBl_b, isBl_s, isBl_t, isBl_l, isBl_r, oIx_t, oIx_l, oIx_s, oLen_t, oLen_l, oLen_c, oLen_s, oAbs_i, oInt_i, oInt_b, oMax2_i, oMin2_i, oGcd_i, oIter_t, oIter_l, oIter_c, oRng1_i, oRng2_i, oRng2G_i, oSl_t, oSl_l, oSl_c, oIsi_n, oIsi_b, oIsi_i, oIsi_s, oIsi_t, oIsi_l]
    exact sp_way (k := 11) hc fun u v c1 h1 h2 h3 hc1 => hI _ _ ⟨c1, u, v, rfl, hc1, h1, h2, h3, rfl⟩
  rintro env vh ⟨c, u, v, rfl, hc, hv1, hv2, huv, rfl⟩
  obtain ⟨Y1, XY⟩ := gcd_div (a := u) hv1
  have gp := gcd_pos (a := u) hv1
  have eX : Nat.gcd u v * (u / Nat.gcd u v) = u := Nat.mul_div_cancel' (Nat.gcd_dvd_left u v)
  have eY : Nat.gcd u v * (v / Nat.gcd u v) = v := Nat.mul_div_cancel' (Nat.gcd_dvd_right u v)
  have lXY : u / Nat.gcd u v ≤ v / Nat.gcd u v := Nat.div_le_div_right huv
  refine seq_inv (fun env vh => ∃ c, vh = [c] ∧ PoolOk c ∧ env = eL ns u v none none none none none none) ?_ ?_
  · intro nx hI
    dsimp only [sVar, sCst, sBin, sUn, sTB, sNotT, sAndT, sOrT, sAndV, sOrV, sNotV, sIfE, sNil, sCons, sTup, sLst, sCallB, sSeq, sSkip, sDrop, sRet, sRetN, sBrk, sCnt, sIf, sSet, gN, gsNil, gsCons, gT, sAsg, sFor, sWhile, sIt, sItA, sLc, sYes, sCall, sCallK, sMethK, sNewK, oview, sFld, sMeth, sNew, sPutNew, sPutOld, sPutL, sAug, sChain, sNoP, sPart, sSl, isT, sIsi, sApp, sRaise, sTry, exTry, ksAs, envAs, sXf, look, wipeE, List.set, List.map, List.replicate, id, perm, List.filterMap, List.length_cons, List.length_nil, List.nil_append, List.cons_append, Nat.sub_self, Nat.reduceAdd, Nat.reduceSub, newL_f, newL_t, oAdd_i, oAdd_s, oAdd_t, oAdd_l, oMul_i, oSub_i, oFdiv_i, oMod_i, oPow_i, oLt_i, oLe_i, oGt_i, oGe_i, oNeg_i, oAddI_i, oEq_ii, oEq_ss, oEq_bb, oEq_nn, oEq_ni, oEq_in, oEq_ns, oEq_sn, oEq_is, oEq_si, oNe_ii, oNe_ss, oNe_bb, oIs_n, oIs_b, oIsNot_n, oIsNot_b, isNon_n, isNon_i, isNon_b, isNon_s, isNon_t, isNon_l, isNon_r, isBl_n, isBl_i, isBl_b, isBl_s, isBl_t, isBl_l, isBl_r, oIx_t, oIx_l, oIx_s, oLen_t, oLen_l, oLen_c, oLen_s, oAbs_i, oInt_i, oInt_b, oMax2_i, oMin2_i, oGcd_i, oIter_t, oIter_l, oIter_c, oRng1_i, oRng2_i, oRng2G_i, oSl_t, oSl_l, oSl_c, oIsi_n, oIsi_b, oIsi_i, oIsi_s, oIsi_t, oIsi_l]
    refine ⟨_, rfl, _, rfl, ?_⟩
    refine sp_rule (k := 9) (vh := [c]) hv1 hv2 huv ?_
    refine ⟨rfl, [.ins "Rule" ["part"] [frL u v]], .obj "Rule" ["part"] [frL u v], rfl, .ins (Nat.le_refl _) rfl (.cons (.low low_two) .nil), ?_⟩
    exact hI _ _ ⟨c, rfl, hc, rfl⟩
  rintro env vh ⟨c, rfl, hc, rfl⟩
  refine seq_inv (fun env vh => ∃ c x4 x6 x7 x8 x9, vh = [c] ∧ PoolOk c ∧ env = eL ns u v x4 none x6 x7 x8 x9) ?_ ?_
  · intro nx hI
    unfold sFor
    dsimp only [sItA, sCons, sNil, sCst, oRng1_i]
    refine ⟨by decide, by decide, ?_⟩
    refine forL_inv (fun i env vh => ∃ c x4 x6 x7 x8 x9, vh = [c] ∧ PoolOk c ∧ env = eL ns u v x4 none x6 x7 x8 x9) (fun _ _ _ _ => trivial) ?_ ?_ ⟨c, none, none, none, none, none, rfl, hc, rfl⟩
    · rintro i e env vh nx he ⟨c, x4, x6, x7, x8, x9, rfl, hc, rfl⟩ hI
      obtain ⟨hi, rfl⟩ := rng_get he
      have hb := fibs_big
      show sSeq _ _ (eL ns u v _ none x6 x7 x8 x9) _ _
      refine seq_inv (fun env vh => ∃ c A B, vh = [c] ∧ PoolOk c ∧ 1 ≤ B ∧ B ≤ 20 * 10 ^ 18 ∧ A < 10 ^ 38 ∧ env = eL ns u v (some (.int (0 + (i : Int)))) none (some (fr A B)) x7 x8 x9) ?_ ?_
      · intro nx hI
        dsimp only [eL, sVar, sCst, sBin, sUn, sTB, sNotT, sAndT, sOrT, sAndV, sOrV, sNotV, sIfE, sNil, sCons, sTup, sLst, sCallB, sSeq, sSkip, sDrop, sRet, sRetN, sBrk, sCnt, sIf, sSet, gN, gsNil, gsCons, gT, sAsg, sFor, sWhile, sIt, sItA, sLc, sYes, sCall, sCallK, sMethK, sNewK, oview, sFld, sMeth, sNew, sPutNew, sPutOld, sPutL, sAug, sChain, sNoP, sPart, sSl, isT, sIsi, sApp, sRaise, sTry, exTry, ksAs, envAs, sXf, look, wipeE, List.set, List.map, List.replicate, id, perm, List.filterMap, List.length_cons, List.length_nil, List.nil_append, List.cons_append, Nat.sub_self, Nat.reduceAdd, Nat.reduceSub, newL_f, newL_t, oAdd_i, oAdd_s, oAdd_t, oAdd_l, oMul_i, oSub_i, oFdiv_i, oMod_i, oPow_i, oLt_i, oLe_i, oGt_i, oGe_i, oNeg_i, oAddI_i, oEq_ii, oEq_ss, oEq_bb, oEq_nn, oEq_ni, oEq_in, oEq_ns, oEq_sn, oEq_is, oEq_si, oNe_ii, oNe_ss, oNe_bb, oIs_n, oIs_b, oIsNot_n, oIsNot_b, isNon_n, isNon_i, isNon_b, isNon_s, isNon_t, isNon_l, isNon_r, isBl_n, isBl_i, isBl_b, isBl_s, isBl_t, isBl_l, isBl_r, oIx_t, oIx_l, oIx_s, oLen_t, oLen_l, oLen_c, oLen_s, oAbs_i, oInt_i, oInt_b, oMax2_i, oMin2_i, oGcd_i, oIter_t, oIter_l, oIter_c, oRng1_i, oRng2_i, oRng2G_i, oSl_t, oSl_l, oSl_c, oIsi_n, oIsi_b, oIsi_i, oIsi_s, oIsi_t, oIsi_l]
        exact sp_worth (k := 11) hc hv1 hv2 huv fun A B c1 hB1 hB2 hA hc1 => hI _ _ ⟨c1, A, B, rfl, hc1, hB1, hB2, hA, rfl⟩
      rintro env vh ⟨c, A, B, rfl, hc, hB1, hB2, hA, rfl⟩
      refine seq_inv (fun env vh => ∃ p q, vh = [c] ∧ 1 ≤ q ∧ Nat.gcd p q = 1 ∧ p < 2 ^ 190 ∧ q < 2 ^ 190 ∧ env = eL ns u v (some (.int (0 + (i : Int)))) none (some (fr A B)) (some (fr p q)) x8 x9) ?_ ?_
      · intro nx hI
        dsimp only [eL, sVar, sCst, sBin, sUn, sTB, sNotT, sAndT, sOrT, sAndV, sOrV, sNotV, sIfE, sNil, sCons, sTup, sLst, sCallB, sSeq, sSkip, sDrop, sRet, sRetN, sBrk, sCnt, sIf, sSet, gN, gsNil, gsCons, gT, sAsg, sFor, sWhile, sIt, sItA, sLc, sYes, sCall, sCallK, sMethK, sNewK, oview, sFld, sMeth, sNew, sPutNew, sPutOld, sPutL, sAug, sChain, sNoP, sPart, sSl, isT, sIsi, sApp, sRaise, sTry, exTry, ksAs, envAs, sXf, look, wipeE, List.set, List.map, List.replicate, id, perm, List.filterMap, List.length_cons, List.length_nil, List.nil_append, List.cons_append, Nat.sub_self, Nat.reduceAdd, Nat.reduceSub, newL_f, newL_t, oAdd_i, oAdd_s, oAdd_t, oAdd_l, oMul_i, oSub_i, oFdiv_i, oMod_i, oPow_i, oLt_i, oLe_i, oGt_i, oGe_i, oNeg_i, oAddI_i, oEq_ii, oEq_ss, oEq_bb, oEq_nn, oEq_ni, oEq_in, oEq_ns, oEq_sn, oEq_is, oEq_si, oNe_ii, oNe_ss, oNe_bb, oIs_n, oIs_b, oIsNot_n, oIsNot_b, isNon_n, isNon_i, isNon_b, isNon_s, isNon_t, isNon_l, isNon_r, isBl_n, isBl_i, isBl_b, isBl_s, isBl_t, isBl_l, isBl_r, oIx_t, oIx_l, oIx_s, oLen_t, oLen_l, oLen_c, oLen_s, oAbs_i, oInt_i, oInt_b, oMax2_i, oMin2_i, oGcd_i, oIter_t, oIter_l, oIter_c, oRng1_i, oRng2_i, oRng2G_i, oSl_t, oSl_l, oSl_c, oIsi_n, oIsi_b, oIsi_i, oIsi_s, oIsi_t, oIsi_l]
        refine ⟨_, rfl, _, rfl, ?_⟩
        refine sp_lowest (k := 12) hB1 (by omega) (by omega) ?_
        obtain ⟨q1, pq⟩ := gcd_div (a := A) hB1
        have lp : A / Nat.gcd A B ≤ A := Nat.div_le_self _ _
        have lq : B / Nat.gcd A B ≤ B := Nat.div_le_self _ _
        exact hI _ _ ⟨_, _, rfl, q1, pq, by omega, by omega, rfl⟩
      rintro env vh ⟨p, q, rfl, hq1, hg, hp, hq, rfl⟩
      refine seq_inv (fun env vh => vh = [c] ∧ env = eL ns u v (some (.int (0 + (i : Int)))) none (some (fr A B)) (some (fr p q)) x8 (some (.tup (natD (dueL p q (u / Nat.gcd u v) (v / Nat.gcd u v)))))) ?_ ?_
      · intro nx hI
        dsimp only [eL, sVar, sCst, sBin, sUn, sTB, sNotT, sAndT, sOrT, sAndV, sOrV, sNotV, sIfE, sNil, sCons, sTup, sLst, sCallB, sSeq, sSkip, sDrop, sRet, sRetN, sBrk, sCnt, sIf, sSet, gN, gsNil, gsCons, gT, sAsg, sFor, sWhile, sIt, sItA, sLc, sYes, sCall, sCallK, sMethK, sNewK, oview, sFld, sMeth, sNew, sPutNew, sPutOld, sPutL, sAug, sChain, sNoP, sPart, sSl, isT, sIsi, sApp, sRaise, sTry, exTry, ksAs, envAs, sXf, look, wipeE, List.set, List.map, List.replicate, id, perm, List.filterMap, List.length_cons, List.length_nil, List.nil_append, List.cons_append, Nat.sub_self, Nat.reduceAdd, Nat.reduceSub, newL_f, newL_t, oAdd_i, oAdd_s, oAdd_t, oAdd_l, oMul_i, oSub_i, oFdiv_i, oMod_i, oPow_i, oLt_i, oLe_i, oGt_i, oGe_i, oNeg_i, oAddI_i, oEq_ii, oEq_ss, oEq_bb, oEq_nn, oEq_ni, oEq_in, oEq_ns, oEq_sn, oEq_is, oEq_si, oNe_ii, oNe_ss, oNe_bb, oIs_n, oIs_b, oIsNot_n, oIsNot_b, isNon_n, isNon_i, isNon_b, isNon_s, isNon_t, isNon_l, isNon_r, isBl_n, isBl_i, isBl_b, isBl_s, isBl_t, isBl_l, isBl_r, oIx_t, oIx_l, oIx_s, oLen_t, oLen_l, oLen_c, oLen_s, oAbs_i, oInt_i, oInt_b, oMax2_i, oMin2_i, oGcd_i, oIter_t, oIter_l, oIter_c, oRng1_i, oRng2_i, oRng2G_i, oSl_t, oSl_l, oSl_c, oIsi_n, oIsi_b, oIsi_i, oIsi_s, oIsi_t, oIsi_l]
        cases hz : ((0 + (i : Int)) == 0) with
        | true =>
          refine ⟨rfl, by decide, rfl, rfl, ?_⟩
          exact sp_rounded (k := 8) rfl hv1 hv2 huv hq1 hg hp hq (hI _ _ ⟨rfl, rfl⟩)
        | false =>
          refine ⟨rfl, by decide, ?_⟩
          exact sp_rounded (k := 8) rfl hv1 hv2 huv hq1 hg hp hq (hI _ _ ⟨rfl, rfl⟩)
      rintro env vh ⟨rfl, rfl⟩
      refine seq_inv (fun env vh => vh = [c] ∧ env = eL ns u v (some (.int (0 + (i : Int)))) none (some (fr A B)) (some (fr p q)) (some (.tup (natD (dueL p q (u / Nat.gcd u v) (v / Nat.gcd u v))))) (some (.tup (natD (dueL p q (u / Nat.gcd u v) (v / Nat.gcd u v)))))) ?_ ?_
      · intro nx hI
        dsimp only [eL, sVar, sCst, sBin, sUn, sTB, sNotT, sAndT, sOrT, sAndV, sOrV, sNotV, sIfE, sNil, sCons, sTup, sLst, sCallB, sSeq, sSkip, sDrop, sRet, sRetN, sBrk, sCnt, sIf, sSet, gN, gsNil, gsCons, gT, sAsg, sFor, sWhile, sIt, sItA, sLc, sYes, sCall, sCallK, sMethK, sNewK, oview, sFld, sMeth, sNew, sPutNew, sPutOld, sPutL, sAug, sChain, sNoP, sPart, sSl, isT, sIsi, sApp, sRaise, sTry, exTry, ksAs, envAs, sXf, look, wipeE, List.set, List.map, List.replicate, id, perm, List.filterMap, List.length_cons, List.length_nil, List.nil_append, List.cons_append, Nat.sub_self, Nat.reduceAdd, Nat.reduceSub, newL_f, newL_t, oAdd_i, oAdd_s, oAdd_t, oAdd_l, oMul_i, oSub_i, oFdiv_i, oMod_i, oPow_i, oLt_i, oLe_i, oGt_i, oGe_i, oNeg_i, oAddI_i, oEq_ii, oEq_ss, oEq_bb, oEq_nn, oEq_ni, oEq_in, oEq_ns, oEq_sn, oEq_is, oEq_si, oNe_ii, oNe_ss, oNe_bb, oIs_n, oIs_b, oIsNot_n, oIsNot_b, isNon_n, isNon_i, isNon_b, isNon_s, isNon_t, isNon_l, isNon_r, isBl_n, isBl_i, isBl_b, isBl_s, isBl_t, isBl_l, isBl_r, oIx_t, oIx_l, oIx_s, oLen_t, oLen_l, oLen_c, oLen_s, oAbs_i, oInt_i, oInt_b, oMax2_i, oMin2_i, oGcd_i, oIter_t, oIter_l, oIter_c, oRng1_i, oRng2_i, oRng2G_i, oSl_t, oSl_l, oSl_c, oIsi_n, oIsi_b, oIsi_i, oIsi_s, oIsi_t, oIsi_l]
        refine sp_due (k := 11) (by omega) hv2 hq1 hp hq ?_
        rw [due_wide hq1 hv1 huv]
        have e : dueL p q u v = dueL p q (u / Nat.gcd u v) (v / Nat.gcd u v) := by
          have z := due_scale (p := p) (q := q) (X := u / Nat.gcd u v) (Y := v / Nat.gcd u v) gp
          rw [eX, eY] at z
          exact z
        rw [e]
        exact hI _ _ ⟨rfl, rfl⟩
      rintro env vh ⟨rfl, rfl⟩
      have hm := natD_last (due_some (p := p) (X := u / Nat.gcd u v) (Y := v / Nat.gcd u v) hq1 lXY)
      obtain ⟨m, em⟩ := hm
      dsimp only [eL, sVar, sCst, sBin, sUn, sTB, sNotT, sAndT, sOrT, sAndV, sOrV, sNotV, sIfE, sNil, sCons, sTup, sLst, sCallB, sSeq, sSkip, sDrop, sRet, sRetN, sBrk, sCnt, sIf, sSet, gN, gsNil, gsCons, gT, sAsg, sFor, sWhile, sIt, sItA, sLc, sYes, sCall, sCallK, sMethK, sNewK, oview, sFld, sMeth, sNew, sPutNew, sPutOld, sPutL, sAug, sChain, sNoP, sPart, sSl, isT, sIsi, sApp, sRaise, sTry, exTry, ksAs, envAs, sXf, look, wipeE, List.set, List.map, List.replicate, id, perm, List.filterMap, List.length_cons, List.length_nil, List.nil_append, List.cons_append, Nat.sub_self, Nat.reduceAdd, Nat.reduceSub, newL_f, newL_t, oAdd_i, oAdd_s, oAdd_t, oAdd_l, oMul_i, oSub_i, oFdiv_i, oMod_i, oPow_i, oLt_i, oLe_i, oGt_i, oGe_i, oNeg_i, oAddI_i, oEq_ii, oEq_ss, oEq_bb, oEq_nn, oEq_ni, oEq_in, oEq_ns, oEq_sn, oEq_is, oEq_si, oNe_ii, oNe_ss, oNe_bb, oIs_n, oIs_b, oIsNot_n, oIsNot_b, isNon_n, isNon_i, isNon_b, isNon_s, isNon_t, isNon_l, isNon_r, isBl_n, isBl_i, isBl_b, isBl_s, isBl_t, isBl_l, isBl_r, oIx_t, oIx_l, oIx_s, oLen_t, oLen_l, oLen_c, oLen_s, oAbs_i, oInt_i, oInt_b, oMax2_i, oMin2_i, oGcd_i, oIter_t, oIter_l, oIter_c, oRng1_i, oRng2_i, oRng2G_i, oSl_t, oSl_l, oSl_c, oIsi_n, oIsi_b, oIsi_i, oIsi_s, oIsi_t, oIsi_l]
      refine sp_same_due (k := 11) ?_
      try dsimp only
      refine ⟨_, em, ?_⟩
      try dsimp only [isT, look, List.length_cons, List.length_nil, List.nil_append, List.cons_append, Nat.sub_self, newL_f, newL_t, oAdd_i, oAdd_s, oAdd_t, oAdd_l, oMul_i, oSub_i, oFdiv_i, oMod_i, oPow_i, oLt_i, oLe_i, oGt_i, oGe_i, oNeg_i, oAddI_i, oEq_ii, oEq_ss, oEq_bb, oEq_nn, oEq_ni, oEq_in, oEq_ns, oEq_sn, oEq_is, oEq_si, oNe_ii, oNe_ss, oNe_bb, oIs_n, oIs_b, oIsNot_n, oIsNot_b, isNon_n, isNon_i, isNon_b, isNon_s, isNon_t, isNon_l, isNon_r, isBl_n, isBl_i, isBl_b, isBl_s, isBl_t, isBl_l, isBl_r, oIx_t, oIx_l, oIx_s, oLen_t, oLen_l, oLen_c, oLen_s, oAbs_i, oInt_i, oInt_b, oMax2_i, oMin2_i, oGcd_i, oIter_t, oIter_l, oIter_c, oRng1_i, oRng2_i, oRng2G_i, oSl_t, oSl_l, oSl_c, oIsi_n, oIsi_b, oIsi_i, oIsi_s, oIsi_t, oIsi_l, List.set, List.length_cons, List.length_nil, Nat.reduceAdd]
      by_cases hm1 : (1 : Int) ≤ m
      · rw [decide_eq_true hm1]
        try dsimp only [isT, look, List.length_cons, List.length_nil, List.nil_append, List.cons_append, Nat.sub_self, newL_f, newL_t, oAdd_i, oAdd_s, oAdd_t, oAdd_l, oMul_i, oSub_i, oFdiv_i, oMod_i, oPow_i, oLt_i, oLe_i, oGt_i, oGe_i, oNeg_i, oAddI_i, oEq_ii, oEq_ss, oEq_bb, oEq_nn, oEq_ni, oEq_in, oEq_ns, oEq_sn, oEq_is, oEq_si, oNe_ii, oNe_ss, oNe_bb, oIs_n, oIs_b, oIsNot_n, oIsNot_b, isNon_n, isNon_i, isNon_b, isNon_s, isNon_t, isNon_l, isNon_r, isBl_n, isBl_i, isBl_b, isBl_s, isBl_t, isBl_l, isBl_r, oIx_t, oIx_l, oIx_s, oLen_t, oLen_l, oLen_c, oLen_s, oAbs_i, oInt_i, oInt_b, oMax2_i, oMin2_i, oGcd_i, oIter_t, oIter_l, oIter_c, oRng1_i, oRng2_i, oRng2G_i, oSl_t, oSl_l, oSl_c, oIsi_n, oIsi_b, oIsi_i, oIsi_s, oIsi_t, oIsi_l, List.set, List.length_cons, List.length_nil, Nat.reduceAdd]
        by_cases hm2 : (m : Int) ≤ 1000
        · rw [decide_eq_true hm2]
          try dsimp only
          refine ⟨rfl, by decide, _, em, ?_⟩
          refine sp_mark (k := 10) rfl hv1 hv2 huv (by omega) (by omega) ?_
          try dsimp only [isT, look, List.length_cons, List.length_nil, List.nil_append, List.cons_append, Nat.sub_self, newL_f, newL_t, oAdd_i, oAdd_s, oAdd_t, oAdd_l, oMul_i, oSub_i, oFdiv_i, oMod_i, oPow_i, oLt_i, oLe_i, oGt_i, oGe_i, oNeg_i, oAddI_i, oEq_ii, oEq_ss, oEq_bb, oEq_nn, oEq_ni, oEq_in, oEq_ns, oEq_sn, oEq_is, oEq_si, oNe_ii, oNe_ss, oNe_bb, oIs_n, oIs_b, oIsNot_n, oIsNot_b, isNon_n, isNon_i, isNon_b, isNon_s, isNon_t, isNon_l, isNon_r, isBl_n, isBl_i, isBl_b, isBl_s, isBl_t, isBl_l, isBl_r, oIx_t, oIx_l, oIx_s, oLen_t, oLen_l, oLen_c, oLen_s, oAbs_i, oInt_i, oInt_b, oMax2_i, oMin2_i, oGcd_i, oIter_t, oIter_l, oIter_c, oRng1_i, oRng2_i, oRng2G_i, oSl_t, oSl_l, oSl_c, oIsi_n, oIsi_b, oIsi_i, oIsi_s, oIsi_t, oIsi_l, List.set, List.length_cons, List.length_nil, Nat.reduceAdd]
          refine ⟨_, em, ?_⟩
          refine sp_lmark (k := 12) (by omega) hv2 (by omega) (by omega) ?_
          refine ⟨_, rfl, ?_⟩
          refine sp_lowest (k := 12) hv1 (by omega) (by omega) ?_
          have ez : frL (mk0 u v m) v = frL (v / Nat.gcd u v * (m - 1) + u / Nat.gcd u v) (v / Nat.gcd u v) := by
            have z := mk0_scale (g := Nat.gcd u v) (X := u / Nat.gcd u v) (Y := v / Nat.gcd u v) (n := m)
            rw [eX, eY] at z
            have z2 := frL_scale (a := mk0 (u / Nat.gcd u v) (v / Nat.gcd u v) m) (b := v / Nat.gcd u v) gp
            rw [eY] at z2
            rw [z]
            exact z2
          rw [ez]
          refine sp_same_fr (k := 11) ?_
          try dsimp only [isT, look, List.length_cons, List.length_nil, List.nil_append, List.cons_append, Nat.sub_self, newL_f, newL_t, oAdd_i, oAdd_s, oAdd_t, oAdd_l, oMul_i, oSub_i, oFdiv_i, oMod_i, oPow_i, oLt_i, oLe_i, oGt_i, oGe_i, oNeg_i, oAddI_i, oEq_ii, oEq_ss, oEq_bb, oEq_nn, oEq_ni, oEq_in, oEq_ns, oEq_sn, oEq_is, oEq_si, oNe_ii, oNe_ss, oNe_bb, oIs_n, oIs_b, oIsNot_n, oIsNot_b, isNon_n, isNon_i, isNon_b, isNon_s, isNon_t, isNon_l, isNon_r, isBl_n, isBl_i, isBl_b, isBl_s, isBl_t, isBl_l, isBl_r, oIx_t, oIx_l, oIx_s, oLen_t, oLen_l, oLen_c, oLen_s, oAbs_i, oInt_i, oInt_b, oMax2_i, oMin2_i, oGcd_i, oIter_t, oIter_l, oIter_c, oRng1_i, oRng2_i, oRng2G_i, oSl_t, oSl_l, oSl_c, oIsi_n, oIsi_b, oIsi_i, oIsi_s, oIsi_t, oIsi_l, List.set, List.length_cons, List.length_nil, Nat.reduceAdd]
          refine ⟨_, rfl, _, rfl, by decide, ?_⟩
          refine sp_refused (k := 7) (by rfl) (SD.of (by rfl)) ?_
          try dsimp only [isT, look, List.length_cons, List.length_nil, List.nil_append, List.cons_append, Nat.sub_self, newL_f, newL_t, oAdd_i, oAdd_s, oAdd_t, oAdd_l, oMul_i, oSub_i, oFdiv_i, oMod_i, oPow_i, oLt_i, oLe_i, oGt_i, oGe_i, oNeg_i, oAddI_i, oEq_ii, oEq_ss, oEq_bb, oEq_nn, oEq_ni, oEq_in, oEq_ns, oEq_sn, oEq_is, oEq_si, oNe_ii, oNe_ss, oNe_bb, oIs_n, oIs_b, oIsNot_n, oIsNot_b, isNon_n, isNon_i, isNon_b, isNon_s, isNon_t, isNon_l, isNon_r, isBl_n, isBl_i, isBl_b, isBl_s, isBl_t, isBl_l, isBl_r, oIx_t, oIx_l, oIx_s, oLen_t, oLen_l, oLen_c, oLen_s, oAbs_i, oInt_i, oInt_b, oMax2_i, oMin2_i, oGcd_i, oIter_t, oIter_l, oIter_c, oRng1_i, oRng2_i, oRng2G_i, oSl_t, oSl_l, oSl_c, oIsi_n, oIsi_b, oIsi_i, oIsi_s, oIsi_t, oIsi_l, List.set, List.length_cons, List.length_nil, Nat.reduceAdd]
          refine ⟨_, rfl, ?_⟩
          try dsimp only [isT, look, List.length_cons, List.length_nil, List.nil_append, List.cons_append, Nat.sub_self, newL_f, newL_t, oAdd_i, oAdd_s, oAdd_t, oAdd_l, oMul_i, oSub_i, oFdiv_i, oMod_i, oPow_i, oLt_i, oLe_i, oGt_i, oGe_i, oNeg_i, oAddI_i, oEq_ii, oEq_ss, oEq_bb, oEq_nn, oEq_ni, oEq_in, oEq_ns, oEq_sn, oEq_is, oEq_si, oNe_ii, oNe_ss, oNe_bb, oIs_n, oIs_b, oIsNot_n, oIsNot_b, isNon_n, isNon_i, isNon_b, isNon_s, isNon_t, isNon_l, isNon_r, isBl_n, isBl_i, isBl_b, isBl_s, isBl_t, isBl_l, isBl_r, oIx_t, oIx_l, oIx_s, oLen_t, oLen_l, oLen_c, oLen_s, oAbs_i, oInt_i, oInt_b, oMax2_i, oMin2_i, oGcd_i, oIter_t, oIter_l, oIter_c, oRng1_i, oRng2_i, oRng2G_i, oSl_t, oSl_l, oSl_c, oIsi_n, oIsi_b, oIsi_i, oIsi_s, oIsi_t, oIsi_l, List.set, List.length_cons, List.length_nil, Nat.reduceAdd]
          refine ⟨mul_ok (by decide) (by decide) (by omega) (by omega), _, rfl, ?_⟩
          try dsimp only [isT, look, List.length_cons, List.length_nil, List.nil_append, List.cons_append, Nat.sub_self, newL_f, newL_t, oAdd_i, oAdd_s, oAdd_t, oAdd_l, oMul_i, oSub_i, oFdiv_i, oMod_i, oPow_i, oLt_i, oLe_i, oGt_i, oGe_i, oNeg_i, oAddI_i, oEq_ii, oEq_ss, oEq_bb, oEq_nn, oEq_ni, oEq_in, oEq_ns, oEq_sn, oEq_is, oEq_si, oNe_ii, oNe_ss, oNe_bb, oIs_n, oIs_b, oIsNot_n, oIsNot_b, isNon_n, isNon_i, isNon_b, isNon_s, isNon_t, isNon_l, isNon_r, isBl_n, isBl_i, isBl_b, isBl_s, isBl_t, isBl_l, isBl_r, oIx_t, oIx_l, oIx_s, oLen_t, oLen_l, oLen_c, oLen_s, oAbs_i, oInt_i, oInt_b, oMax2_i, oMin2_i, oGcd_i, oIter_t, oIter_l, oIter_c, oRng1_i, oRng2_i, oRng2G_i, oSl_t, oSl_l, oSl_c, oIsi_n, oIsi_b, oIsi_i, oIsi_s, oIsi_t, oIsi_l, List.set, List.length_cons, List.length_nil, Nat.reduceAdd]
          refine ⟨mul_ok (by decide) (by decide) (by omega) (by omega), by decide, ?_⟩
          refine sp_refused (k := 7) (twice hq1) (SD.of (by rfl)) ?_
          exact hI _ _ ⟨c, _, _, _, _, _, rfl, hc, rfl⟩
        · rw [decide_eq_false hm2]
          try dsimp only
          try dsimp only [isT, look, List.length_cons, List.length_nil, List.nil_append, List.cons_append, Nat.sub_self, newL_f, newL_t, oAdd_i, oAdd_s, oAdd_t, oAdd_l, oMul_i, oSub_i, oFdiv_i, oMod_i, oPow_i, oLt_i, oLe_i, oGt_i, oGe_i, oNeg_i, oAddI_i, oEq_ii, oEq_ss, oEq_bb, oEq_nn, oEq_ni, oEq_in, oEq_ns, oEq_sn, oEq_is, oEq_si, oNe_ii, oNe_ss, oNe_bb, oIs_n, oIs_b, oIsNot_n, oIsNot_b, isNon_n, isNon_i, isNon_b, isNon_s, isNon_t, isNon_l, isNon_r, isBl_n, isBl_i, isBl_b, isBl_s, isBl_t, isBl_l, isBl_r, oIx_t, oIx_l, oIx_s, oLen_t, oLen_l, oLen_c, oLen_s, oAbs_i, oInt_i, oInt_b, oMax2_i, oMin2_i, oGcd_i, oIter_t, oIter_l, oIter_c, oRng1_i, oRng2_i, oRng2G_i, oSl_t, oSl_l, oSl_c, oIsi_n, oIsi_b, oIsi_i, oIsi_s, oIsi_t, oIsi_l, List.set, List.length_cons, List.length_nil, Nat.reduceAdd]
          refine ⟨_, rfl, _, rfl, by decide, ?_⟩
          refine sp_refused (k := 7) (by rfl) (SD.of (by rfl)) ?_
          try dsimp only [isT, look, List.length_cons, List.length_nil, List.nil_append, List.cons_append, Nat.sub_self, newL_f, newL_t, oAdd_i, oAdd_s, oAdd_t, oAdd_l, oMul_i, oSub_i, oFdiv_i, oMod_i, oPow_i, oLt_i, oLe_i, oGt_i, oGe_i, oNeg_i, oAddI_i, oEq_ii, oEq_ss, oEq_bb, oEq_nn, oEq_ni, oEq_in, oEq_ns, oEq_sn, oEq_is, oEq_si, oNe_ii, oNe_ss, oNe_bb, oIs_n, oIs_b, oIsNot_n, oIsNot_b, isNon_n, isNon_i, isNon_b, isNon_s, isNon_t, isNon_l, isNon_r, isBl_n, isBl_i, isBl_b, isBl_s, isBl_t, isBl_l, isBl_r, oIx_t, oIx_l, oIx_s, oLen_t, oLen_l, oLen_c, oLen_s, oAbs_i, oInt_i, oInt_b, oMax2_i, oMin2_i, oGcd_i, oIter_t, oIter_l, oIter_c, oRng1_i, oRng2_i, oRng2G_i, oSl_t, oSl_l, oSl_c, oIsi_n, oIsi_b, oIsi_i, oIsi_s, oIsi_t, oIsi_l, List.set, List.length_cons, List.length_nil, Nat.reduceAdd]
          refine ⟨_, rfl, ?_⟩
          try dsimp only [isT, look, List.length_cons, List.length_nil, List.nil_append, List.cons_append, Nat.sub_self, newL_f, newL_t, oAdd_i, oAdd_s, oAdd_t, oAdd_l, oMul_i, oSub_i, oFdiv_i, oMod_i, oPow_i, oLt_i, oLe_i, oGt_i, oGe_i, oNeg_i, oAddI_i, oEq_ii, oEq_ss, oEq_bb, oEq_nn, oEq_ni, oEq_in, oEq_ns, oEq_sn, oEq_is, oEq_si, oNe_ii, oNe_ss, oNe_bb, oIs_n, oIs_b, oIsNot_n, oIsNot_b, isNon_n, isNon_i, isNon_b, isNon_s, isNon_t, isNon_l, isNon_r, isBl_n, isBl_i, isBl_b, isBl_s, isBl_t, isBl_l, isBl_r, oIx_t, oIx_l, oIx_s, oLen_t, oLen_l, oLen_c, oLen_s, oAbs_i, oInt_i, oInt_b, oMax2_i, oMin2_i, oGcd_i, oIter_t, oIter_l, oIter_c, oRng1_i, oRng2_i, oRng2G_i, oSl_t, oSl_l, oSl_c, oIsi_n, oIsi_b, oIsi_i, oIsi_s, oIsi_t, oIsi_l, List.set, List.length_cons, List.length_nil, Nat.reduceAdd]
          refine ⟨mul_ok (by decide) (by decide) (by omega) (by omega), _, rfl, ?_⟩
          try dsimp only [isT, look, List.length_cons, List.length_nil, List.nil_append, List.cons_append, Nat.sub_self, newL_f, newL_t, oAdd_i, oAdd_s, oAdd_t, oAdd_l, oMul_i, oSub_i, oFdiv_i, oMod_i, oPow_i, oLt_i, oLe_i, oGt_i, oGe_i, oNeg_i, oAddI_i, oEq_ii, oEq_ss, oEq_bb, oEq_nn, oEq_ni, oEq_in, oEq_ns, oEq_sn, oEq_is, oEq_si, oNe_ii, oNe_ss, oNe_bb, oIs_n, oIs_b, oIsNot_n, oIsNot_b, isNon_n, isNon_i, isNon_b, isNon_s, isNon_t, isNon_l, isNon_r, isBl_n, isBl_i, isBl_b, isBl_s, isBl_t, isBl_l, isBl_r, oIx_t, oIx_l, oIx_s, oLen_t, oLen_l, oLen_c, oLen_s, oAbs_i, oInt_i, oInt_b, oMax2_i, oMin2_i, oGcd_i, oIter_t, oIter_l, oIter_c, oRng1_i, oRng2_i, oRng2G_i, oSl_t, oSl_l, oSl_c, oIsi_n, oIsi_b, oIsi_i, oIsi_s, oIsi_t, oIsi_l, List.set, List.length_cons, List.length_nil, Nat.reduceAdd]
          refine ⟨mul_ok (by decide) (by decide) (by omega) (by omega), by decide, ?_⟩
          refine sp_refused (k := 7) (twice hq1) (SD.of (by rfl)) ?_
          exact hI _ _ ⟨c, _, _, _, _, _, rfl, hc, rfl⟩
      · rw [decide_eq_false hm1]
        try dsimp only
        try dsimp only [isT, look, List.length_cons, List.length_nil, List.nil_append, List.cons_append, Nat.sub_self, newL_f, newL_t, oAdd_i, oAdd_s, oAdd_t, oAdd_l, oMul_i, oSub_i, oFdiv_i, oMod_i, oPow_i, oLt_i, oLe_i, oGt_i, oGe_i, oNeg_i, oAddI_i, oEq_ii, oEq_ss, oEq_bb, oEq_nn, oEq_ni, oEq_in, oEq_ns, oEq_sn, oEq_is, oEq_si, oNe_ii, oNe_ss, oNe_bb, oIs_n, oIs_b, oIsNot_n, oIsNot_b, isNon_n, isNon_i, isNon_b, isNon_s, isNon_t, isNon_l, isNon_r, isBl_n, isBl_i, isBl_b, isBl_s, isBl_t, isBl_l, isBl_r, oIx_t, oIx_l, oIx_s, oLen_t, oLen_l, oLen_c, oLen_s, oAbs_i, oInt_i, oInt_b, oMax2_i, oMin2_i, oGcd_i, oIter_t, oIter_l, oIter_c, oRng1_i, oRng2_i, oRng2G_i, oSl_t, oSl_l, oSl_c, oIsi_n, oIsi_b, oIsi_i, oIsi_s, oIsi_t, oIsi_l, List.set, List.length_cons, List.length_nil, Nat.reduceAdd]
        refine ⟨_, rfl, _, rfl, by decide, ?_⟩
        refine sp_refused (k := 7) (by rfl) (SD.of (by rfl)) ?_
        try dsimp only [isT, look, List.length_cons, List.length_nil, List.nil_append, List.cons_append, Nat.sub_self, newL_f, newL_t, oAdd_i, oAdd_s, oAdd_t, oAdd_l, oMul_i, oSub_i, oFdiv_i, oMod_i, oPow_i, oLt_i, oLe_i, oGt_i, oGe_i, oNeg_i, oAddI_i, oEq_ii, oEq_ss, oEq_bb, oEq_nn, oEq_ni, oEq_in, oEq_ns, oEq_sn, oEq_is, oEq_si, oNe_ii, oNe_ss, oNe_bb, oIs_n, oIs_b, oIsNot_n, oIsNot_b, isNon_n, isNon_i, isNon_b, isNon_s, isNon_t, isNon_l, isNon_r, isBl_n, isBl_i, isBl_b, isBl_s, isBl_t, isBl_l, isBl_r, oIx_t, oIx_l, oIx_s, oLen_t, oLen_l, oLen_c, oLen_s, oAbs_i, oInt_i, oInt_b, oMax2_i, oMin2_i, oGcd_i, oIter_t, oIter_l, oIter_c, oRng1_i, oRng2_i, oRng2G_i, oSl_t, oSl_l, oSl_c, oIsi_n, oIsi_b, oIsi_i, oIsi_s, oIsi_t, oIsi_l, List.set, List.length_cons, List.length_nil, Nat.reduceAdd]
        refine ⟨_, rfl, ?_⟩
        try dsimp only [isT, look, List.length_cons, List.length_nil, List.nil_append, List.cons_append, Nat.sub_self, newL_f, newL_t, oAdd_i, oAdd_s, oAdd_t, oAdd_l, oMul_i, oSub_i, oFdiv_i, oMod_i, oPow_i, oLt_i, oLe_i, oGt_i, oGe_i, oNeg_i, oAddI_i, oEq_ii, oEq_ss, oEq_bb, oEq_nn, oEq_ni, oEq_in, oEq_ns, oEq_sn, oEq_is, oEq_si, oNe_ii, oNe_ss, oNe_bb, oIs_n, oIs_b, oIsNot_n, oIsNot_b, isNon_n, isNon_i, isNon_b, isNon_s, isNon_t, isNon_l, isNon_r, isBl_n, isBl_i, isBl_b, isBl_s, isBl_t, isBl_l, isBl_r, oIx_t, oIx_l, oIx_s, oLen_t, oLen_l, oLen_c, oLen_s, oAbs_i, oInt_i, oInt_b, oMax2_i, oMin2_i, oGcd_i, oIter_t, oIter_l, oIter_c, oRng1_i, oRng2_i, oRng2G_i, oSl_t, oSl_l, oSl_c, oIsi_n, oIsi_b, oIsi_i, oIsi_s, oIsi_t, oIsi_l, List.set, List.length_cons, List.length_nil, Nat.reduceAdd]
        refine ⟨mul_ok (by decide) (by decide) (by omega) (by omega), _, rfl, ?_⟩
        try dsimp only [isT, look, List.length_cons, List.length_nil, List.nil_append, List.cons_append, Nat.sub_self, newL_f, newL_t, oAdd_i, oAdd_s, oAdd_t, oAdd_l, oMul_i, oSub_i, oFdiv_i, oMod_i, oPow_i, oLt_i, oLe_i, oGt_i, oGe_i, oNeg_i, oAddI_i, oEq_ii, oEq_ss, oEq_bb, oEq_nn, oEq_ni, oEq_in, oEq_ns, oEq_sn, oEq_is, oEq_si, oNe_ii, oNe_ss, oNe_bb, oIs_n, oIs_b, oIsNot_n, oIsNot_b, isNon_n, isNon_i, isNon_b, isNon_s, isNon_t, isNon_l, isNon_r, isBl_n, isBl_i, isBl_b, isBl_s, isBl_t, isBl_l, isBl_r, oIx_t, oIx_l, oIx_s, oLen_t, oLen_l, oLen_c, oLen_s, oAbs_i, oInt_i, oInt_b, oMax2_i, oMin2_i, oGcd_i, oIter_t, oIter_l, oIter_c, oRng1_i, oRng2_i, oRng2G_i, oSl_t, oSl_l, oSl_c, oIsi_n, oIsi_b, oIsi_i, oIsi_s, oIsi_t, oIsi_l, List.set, List.length_cons, List.length_nil, Nat.reduceAdd]
        refine ⟨mul_ok (by decide) (by decide) (by omega) (by omega), by decide, ?_⟩
        refine sp_refused (k := 7) (twice hq1) (SD.of (by rfl)) ?_
        exact hI _ _ ⟨c, _, _, _, _, _, rfl, hc, rfl⟩
    · rintro env vh ⟨c, x4, x6, x7, x8, x9, rfl, hc, rfl⟩
      exact hI _ _ ⟨c, x4, x6, x7, x8, x9, rfl, hc, rfl⟩
  rintro env vh ⟨c, x4, x6, x7, x8, x9, rfl, hc, rfl⟩
  have two : ∀ (nx : VI.Env → VH → Prop), True := fun _ => trivial
  rw [show ∀ a b d : SemS, ∀ (e : VI.Env) (h : VH) (kk : KS), sSeq a (sSeq b d) e h kk = sSeq (sSeq a b) d e h kk from fun _ _ _ _ _ _ => rfl]
  refine seq_inv (fun env vh => vh = [c] ∧ env = eL ns u v x4 (some (.lst things)) x6 x7 x8 x9) ?_ ?_
  · intro nx hI
    dsimp only [eL, sVar, sCst, sBin, sUn, sTB, sNotT, sAndT, sOrT, sAndV, sOrV, sNotV, sIfE, sNil, sCons, sTup, sLst, sCallB, sSeq, sSkip, sDrop, sRet, sRetN, sBrk, sCnt, sIf, sSet, gN, gsNil, gsCons, gT, sAsg, sFor, sWhile, sIt, sItA, sLc, sYes, sCall, sCallK, sMethK, sNewK, oview, sFld, sMeth, sNew, sPutNew, sPutOld, sPutL, sAug, sChain, sNoP, sPart, sSl, isT, sIsi, sApp, sRaise, sTry, exTry, ksAs, envAs, sXf, look, wipeE, List.set, List.map, List.replicate, id, perm, List.filterMap, List.length_cons, List.length_nil, List.nil_append, List.cons_append, Nat.sub_self, Nat.reduceAdd, Nat.reduceSub, newL_f, newL_t, oAdd_i, oAdd_s, oAdd_t, oAdd_l, oMul_i, oSub_i, oFdiv_i, oMod_i, oPow_i, oLt_i, oLe_i, oGt_i, oGe_i, oNeg_i, oAddI_i, oEq_ii, oEq_ss, oEq_bb, oEq_nn, oEq_ni, oEq_in, oEq_ns, oEq_sn, oEq_is, oEq_si, oNe_ii, oNe_ss, oNe_bb, oIs_n, oIs_b, oIsNot_n, oIsNot_b, isNon_n, isNon_i, isNon_b, isNon_s, isNon_t, isNon_l, isNon_r, isBl_n, isBl_i, isBl_b, isBl_s, isBl_t, isBl_l, isBl_r, oIx_t, oIx_l, oIx_s, oLen_t, oLen_l, oLen_c, oLen_s, oAbs_i, oInt_i, oInt_b, oMax2_i, oMin2_i, oGcd_i, oIter_t, oIter_l, oIter_c, oRng1_i, oRng2_i, oRng2G_i, oSl_t, oSl_l, oSl_c, oIsi_n, oIsi_b, oIsi_i, oIsi_s, oIsi_t, oIsi_l]
    repeat' (first | exact hI _ _ ⟨rfl, rfl⟩ | refine ⟨by decide, ?_⟩)
  rintro env vh ⟨rfl, rfl⟩
  refine seq_inv (fun env vh => ∃ c x4, vh = [c] ∧ PoolOk c ∧ env = eL ns u v x4 (some (.lst things)) x6 x7 x8 x9) ?_ ?_
  · intro nx hI
    unfold sFor
    dsimp only [sItA, sCons, sNil, sCst, oRng1_i]
    refine ⟨by decide, by decide, ?_⟩
    refine forL_inv (fun i env vh => ∃ c x4, vh = [c] ∧ PoolOk c ∧ env = eL ns u v x4 (some (.lst things)) x6 x7 x8 x9) (fun _ _ _ _ => trivial) ?_ ?_ ⟨c, x4, rfl, hc, rfl⟩
    · rintro i e env vh nx he ⟨c, x4, rfl, hc, rfl⟩ hI
      dsimp only [eL, sVar, sCst, sBin, sUn, sTB, sNotT, sAndT, sOrT, sAndV, sOrV, sNotV, sIfE, sNil, sCons, sTup, sLst, sCallB, sSeq, sSkip, sDrop, sRet, sRetN, sBrk, sCnt, sIf, sSet, gN, gsNil, gsCons, gT, sAsg, sFor, sWhile, sIt, sItA, sLc, sYes, sCall, sCallK, sMethK, sNewK, oview, sFld, sMeth, sNew, sPutNew, sPutOld, sPutL, sAug, sChain, sNoP, sPart, sSl, isT, sIsi, sApp, sRaise, sTry, exTry, ksAs, envAs, sXf, look, wipeE, List.set, List.map, List.replicate, id, perm, List.filterMap, List.length_cons, List.length_nil, List.nil_append, List.cons_append, Nat.sub_self, Nat.reduceAdd, Nat.reduceSub, newL_f, newL_t, oAdd_i, oAdd_s, oAdd_t, oAdd_l, oMul_i, oSub_i, oFdiv_i, oMod_i, oPow_i, oLt_i, oLe_i, oGt_i, oGe_i, oNeg_i, oAddI_i, oEq_ii, oEq_ss, oEq_bb, oEq_nn, oEq_ni, oEq_in, oEq_ns, oEq_sn, oEq_is, oEq_si, oNe_ii, oNe_ss, oNe_bb, oIs_n, oIs_b, oIsNot_n, oIsNot_b, isNon_n, isNon_i, isNon_b, isNon_s, isNon_t, isNon_l, isNon_r, isBl_n, isBl_i, isBl_b, isBl_s, isBl_t, isBl_l, isBl_r, oIx_t, oIx_l, oIx_s, oLen_t, oLen_l, oLen_c, oLen_s, oAbs_i, oInt_i, oInt_b, oMax2_i, oMin2_i, oGcd_i, oIter_t, oIter_l, oIter_c, oRng1_i, oRng2_i, oRng2G_i, oSl_t, oSl_l, oSl_c, oIsi_n, oIsi_b, oIsi_i, oIsi_s, oIsi_t, oIsi_l]
      rw [show ((things.length : Nat) : Int) = 19 from rfl]
      refine sp_draw1 (k := 12) hc (by decide) (by decide) fun r c1 hr hc1 => ?_
      obtain ⟨d, ed, hd1, hd2⟩ := things_at hr
      try dsimp only [isT, look, List.length_cons, List.length_nil, List.nil_append, List.cons_append, Nat.sub_self, newL_f, newL_t, oAdd_i, oAdd_s, oAdd_t, oAdd_l, oMul_i, oSub_i, oFdiv_i, oMod_i, oPow_i, oLt_i, oLe_i, oGt_i, oGe_i, oNeg_i, oAddI_i, oEq_ii, oEq_ss, oEq_bb, oEq_nn, oEq_ni, oEq_in, oEq_ns, oEq_sn, oEq_is, oEq_si, oNe_ii, oNe_ss, oNe_bb, oIs_n, oIs_b, oIsNot_n, oIsNot_b, isNon_n, isNon_i, isNon_b, isNon_s, isNon_t, isNon_l, isNon_r, isBl_n, isBl_i, isBl_b, isBl_s, isBl_t, isBl_l, isBl_r, oIx_t, oIx_l, oIx_s, oLen_t, oLen_l, oLen_c, oLen_s, oAbs_i, oInt_i, oInt_b, oMax2_i, oMin2_i, oGcd_i, oIter_t, oIter_l, oIter_c, oRng1_i, oRng2_i, oRng2G_i, oSl_t, oSl_l, oSl_c, oIsi_n, oIsi_b, oIsi_i, oIsi_s, oIsi_t, oIsi_l, List.set, List.length_cons, List.length_nil, Nat.reduceAdd]
      refine ⟨_, ed, ?_⟩
      refine sp_refused (k := 7) hd1 hd2 ?_
      exact hI _ _ ⟨c1, _, rfl, hc1, rfl⟩
    · rintro env vh ⟨c, x4, rfl, hc, rfl⟩
      exact hI _ _ ⟨c, x4, rfl, hc, rfl⟩
  rintro env vh ⟨c, x4, rfl, hc, rfl⟩
  dsimp only [eL, sVar, sCst, sBin, sUn, sTB, sNotT, sAndT, sOrT, sAndV, sOrV, sNotV, sIfE, sNil, sCons, sTup, sLst, sCallB, sSeq, sSkip, sDrop, sRet, sRetN, sBrk, sCnt, sIf, sSet, gN, gsNil, gsCons, gT, sAsg, sFor, sWhile, sIt, sItA, sLc, sYes, sCall, sCallK, sMethK, sNewK, oview, sFld, sMeth, sNew, sPutNew, sPutOld, sPutL, sAug, sChain, sNoP, sPart, sSl, isT, sIsi, sApp, sRaise, sTry, exTry, ksAs, envAs, sXf, look, wipeE, List.set, List.map, List.replicate, id, perm, List.filterMap, List.length_cons, List.length_nil, List.nil_append, List.cons_append, Nat.sub_self, Nat.reduceAdd, Nat.reduceSub, newL_f, newL_t, oAdd_i, oAdd_s, oAdd_t, oAdd_l, oMul_i, oSub_i, oFdiv_i, oMod_i, oPow_i, oLt_i, oLe_i, oGt_i, oGe_i, oNeg_i, oAddI_i, oEq_ii, oEq_ss, oEq_bb, oEq_nn, oEq_ni, oEq_in, oEq_ns, oEq_sn, oEq_is, oEq_si, oNe_ii, oNe_ss, oNe_bb, oIs_n, oIs_b, oIsNot_n, oIsNot_b, isNon_n, isNon_i, isNon_b, isNon_s, isNon_t, isNon_l, isNon_r, isBl_n, isBl_i, isBl_b, isBl_s, isBl_t, isBl_l, isBl_r, oIx_t, oIx_l, oIx_s, oLen_t, oLen_l, oLen_c, oLen_s, oAbs_i, oInt_i, oInt_b, oMax2_i, oMin2_i, oGcd_i, oIter_t, oIter_l, oIter_c, oRng1_i, oRng2_i, oRng2G_i, oSl_t, oSl_l, oSl_c, oIsi_n, oIsi_b, oIsi_i, oIsi_s, oIsi_t, oIsi_l]
  have hb := fibs_big
  refine ⟨rfl, rfl, _, rfl, ?_⟩
  try dsimp only [isT, look, List.length_cons, List.length_nil, List.nil_append, List.cons_append, Nat.sub_self, newL_f, newL_t, oAdd_i, oAdd_s, oAdd_t, oAdd_l, oMul_i, oSub_i, oFdiv_i, oMod_i, oPow_i, oLt_i, oLe_i, oGt_i, oGe_i, oNeg_i, oAddI_i, oEq_ii, oEq_ss, oEq_bb, oEq_nn, oEq_ni, oEq_in, oEq_ns, oEq_sn, oEq_is, oEq_si, oNe_ii, oNe_ss, oNe_bb, oIs_n, oIs_b, oIsNot_n, oIsNot_b, isNon_n, isNon_i, isNon_b, isNon_s, isNon_t, isNon_l, isNon_r, isBl_n, isBl_i, isBl_b, isBl_s, isBl_t, isBl_l, isBl_r, oIx_t, oIx_l, oIx_s, oLen_t, oLen_l, oLen_c, oLen_s, oAbs_i, oInt_i, oInt_b, oMax2_i, oMin2_i, oGcd_i, oIter_t, oIter_l, oIter_c, oRng1_i, oRng2_i, oRng2G_i, oSl_t, oSl_l, oSl_c, oIsi_n, oIsi_b, oIsi_i, oIsi_s, oIsi_t, oIsi_l, List.set, List.length_cons, List.length_nil, Nat.reduceAdd]
  refine ⟨_, rfl, _, rfl, ?_⟩
  refine sp_lowest (k := 12) hv1 (by omega) (by omega) ?_
  exact sp_same_fr (k := 11) ⟨[c], .bl true, rfl, .low low_bl, rfl⟩

end LK

end
section
namespace LK
open PySem PySem.Spec L2 VI
open PyProof.Rows hiding St
def dx_InvalidNumber : He.DefD := ⟨("InvalidNumber", some "__init__"), "__init__", "InvalidNumber.__init__", defArgs (mth 3 0), defBody (mth 3 0), defScope (mth 3 0), [], []⟩
def dx_InvalidFraction : He.DefD := ⟨("InvalidFraction", some "__init__"), "__init__", "InvalidFraction.__init__", defArgs (mth 4 0), defBody (mth 4 0), defScope (mth 4 0), [], []⟩
def dx_InvalidRule : He.DefD := ⟨("InvalidRule", some "__init__"), "__init__", "InvalidRule.__init__", defArgs (mth 5 0), defBody (mth 5 0), defScope (mth 5 0), [], []⟩
def fnD : List He.DefD := [fn_is_integer.d, fn_is_from_to.d, fn_is_number.d, fn_is_fraction.d, fn_check_fraction.d, fn_reduced.d, fn_is_less.d, fn_RuleU_initU.d, fn_Rule_mark.d, fn_Rule_mark_of.d, fn_Rule_rounded.d, fn_Rule_may_be.d, fn__law_pool.d, fn__law_draw.d, fn__law_same.d, fn__law_way.d, fn__law_mark.d, fn__law_lowest.d, fn__law_worth.d, fn__law_due.d, fn__law_refused.d, fn_law.d, dx_InvalidNumber, dx_InvalidFraction, dx_InvalidRule]
def fa : List He.Fa := [.int "MOST_BOTTOM" 20, .int "MOST_MARK" 1000, .cls "Rule", .glo "InvalidFraction", .glo "InvalidNumber", .glo "InvalidRule", .glo "Rule", .glo "_law_draw", .glo "_law_due", .glo "_law_lowest", .glo "_law_mark", .glo "_law_pool", .glo "_law_refused", .glo "_law_same", .glo "_law_way", .glo "_law_worth", .glo "check_fraction", .glo "is_fraction", .glo "is_from_to", .glo "is_integer", .glo "is_less", .glo "is_number", .glo "reduced", .mkr "Rule", .meth "Rule" "mark", .meth "Rule" "mark_of", .meth "Rule" "may_be", .meth "Rule" "rounded", .free "abs", .free "bool", .free "int", .free "isinstance", .free "len", .free "list", .free "max", .free "range", .free "str", .free "tuple", .noat "Rule" "part", .glo "law"]
def exs (K : PySem.W.Frag) : List Bool := [bltB K "gcd" "math.gcd", exB K ("InvalidFraction", ["value"]), exB K ("InvalidNumber", ["value"]), exB K ("InvalidRule", ["part"]), exmB K exL exSub "InvalidFraction"]
def exAll (K : PySem.W.Frag) : Bool := (exs K).all id
theorem exAt {K : PySem.W.Frag} (h : exAll K = true) (i : Nat) {b : Bool} (e : (exs K)[i]? = some b) : b = true := List.all_eq_true.mp h b (List.mem_of_getElem? e)
abbrev R : PySem.W.OpenRow := PySem.W.OpenLaw.row PySem.Challenge.rw_seatsbothways_k05_whole_rounded_by_marks
abbrev hk : PySem.W.Hook := hookV 6 fa fnD exAll
def ob (s : PySem.W.SharedT) : He.AlD := obsVG 6 fa fnD exAll (HandSHeadRun.getT s)
theorem ob_eq (s : PySem.W.SharedT) : ob s = hk.obs s.abs := obsVG_eq (HandSHeadRun.getT_eq s)
def loose0 : List Str := ["__name__", "SeatError", "InvalidNumber", "InvalidFraction", "InvalidRule", "is_integer", "is_from_to", "is_number", "is_fraction", "check_fraction", "reduced", "is_less", "MOST_BOTTOM", "MOST_MARK", "Rule", "_law_pool", "_law_draw", "_law_same", "_law_way", "_law_mark", "_law_lowest", "_law_worth", "_law_due", "_law_refused"]
def loose : List Str := loose0
theorem run (w : World) : HandSHeadRun.RunEqI R (PySem.W.view R.prog [0, 29]) hk ob 60000 loose w := by
  unfold HandSHeadRun.RunEqI
  kernel_rfl
section
variable {P : Program} {w : World} {K : PySem.W.Frag} {mg : Str → Option Value} {base h : Heap}
theorem nm_ok (X : K.In h) (G : h.Ns mainGlobals mg) (c : SaysV fa fnD exAll K) : Nm P w K mg base := by
  obtain ⟨cx, cs⟩ := c.both
  exact ⟨He.int_ok X G (cs.fact 0 rfl),
    He.int_ok X G (cs.fact 1 rfl),
    He.cls_ok (cs.fact 2 rfl),
    He.glo_ok X G (cs.fact 3 rfl),
    He.glo_ok X G (cs.fact 4 rfl),
    He.glo_ok X G (cs.fact 5 rfl),
    He.glo_ok X G (cs.fact 6 rfl),
    He.glo_ok X G (cs.fact 7 rfl),
    He.glo_ok X G (cs.fact 8 rfl),
    He.glo_ok X G (cs.fact 9 rfl),
    He.glo_ok X G (cs.fact 10 rfl),
    He.glo_ok X G (cs.fact 11 rfl),
    He.glo_ok X G (cs.fact 12 rfl),
    He.glo_ok X G (cs.fact 13 rfl),
    He.glo_ok X G (cs.fact 14 rfl),
    He.glo_ok X G (cs.fact 15 rfl),
    He.glo_ok X G (cs.fact 16 rfl),
    He.glo_ok X G (cs.fact 17 rfl),
    He.glo_ok X G (cs.fact 18 rfl),
    He.glo_ok X G (cs.fact 19 rfl),
    He.glo_ok X G (cs.fact 20 rfl),
    He.glo_ok X G (cs.fact 21 rfl),
    He.glo_ok X G (cs.fact 22 rfl),
    He.mkr_ok (cs.fact 23 rfl),
    He.meth_ok (cs.fact 24 rfl),
    He.meth_ok (cs.fact 25 rfl),
    He.meth_ok (cs.fact 26 rfl),
    He.meth_ok (cs.fact 27 rfl),
    He.free_ok X G (cs.fact 28 rfl),
    He.free_ok X G (cs.fact 29 rfl),
    bltB_ok X G (exAt cx 0 rfl),
    He.free_ok X G (cs.fact 30 rfl),
    He.free_ok X G (cs.fact 31 rfl),
    He.free_ok X G (cs.fact 32 rfl),
    He.free_ok X G (cs.fact 33 rfl),
    He.free_ok X G (cs.fact 34 rfl),
    He.free_ok X G (cs.fact 35 rfl),
    He.free_ok X G (cs.fact 36 rfl),
    He.free_ok X G (cs.fact 37 rfl),
    He.noat_ok (cs.fact 38 rfl),
    ExC.by1 (exAt cx 1 rfl) fun T0 h0 => (cs.def_ 23 (d := dx_InvalidFraction) rfl).elim fun fd F => ⟨fd, ["self", "value"], F.bindsN (fun _ _ _ _ _ _ us hl => match us, hl with | [_, _], _ => rfl), init1 F T0 h0 ⟨rfl, rfl, rfl, by decide +kernel, rfl, by decide +kernel, by decide +kernel⟩ rfl rfl⟩,
    ExC.by1 (exAt cx 2 rfl) fun T0 h0 => (cs.def_ 22 (d := dx_InvalidNumber) rfl).elim fun fd F => ⟨fd, ["self", "value"], F.bindsN (fun _ _ _ _ _ _ us hl => match us, hl with | [_, _], _ => rfl), init1 F T0 h0 ⟨rfl, rfl, rfl, by decide +kernel, rfl, by decide +kernel, by decide +kernel⟩ rfl rfl⟩,
    ExC.by1 (exAt cx 3 rfl) fun T0 h0 => (cs.def_ 24 (d := dx_InvalidRule) rfl).elim fun fd F => ⟨fd, ["self", "part"], F.bindsN (fun _ _ _ _ _ _ us hl => match us, hl with | [_, _], _ => rfl), init1 F T0 h0 ⟨rfl, rfl, rfl, by decide +kernel, rfl, by decide +kernel, by decide +kernel⟩ rfl rfl⟩,
    exmB_ok (exAt cx 4 rfl)⟩
theorem mk_ok (N : Nm P w K mg base) (c : SaysV fa fnD exAll K) : ∀ f fn, T f = some fn → FnMk P w K mg base T hots f fn := fun f fn e => by
  obtain ⟨cx, cs⟩ := c.both
  have z := AllIx.at (p := FnMk P w K mg base T hots) (n := 0) (l := table) ⟨⟨rfl, cs.def_ 0 (d := fn_is_integer.d) rfl, sc_is_integer, bd_is_integer, fun _ _ _ _ _ _ _ cx => der_is_integer N cx, fun h => absurd h (by decide)⟩,
    ⟨rfl, cs.def_ 1 (d := fn_is_from_to.d) rfl, sc_is_from_to, bd_is_from_to, fun _ _ _ _ _ _ _ cx => der_is_from_to N cx, fun h => absurd h (by decide)⟩,
    ⟨rfl, cs.def_ 2 (d := fn_is_number.d) rfl, sc_is_number, bd_is_number, fun _ _ _ _ _ _ _ cx => der_is_number N cx, fun h => absurd h (by decide)⟩,
    ⟨rfl, cs.def_ 3 (d := fn_is_fraction.d) rfl, sc_is_fraction, bd_is_fraction, fun _ _ _ _ _ _ _ cx => der_is_fraction N cx, fun h => absurd h (by decide)⟩,
    ⟨rfl, cs.def_ 4 (d := fn_check_fraction.d) rfl, sc_check_fraction, bd_check_fraction, fun _ _ _ _ _ _ _ cx => der_check_fraction N cx, fun h => absurd h (by decide)⟩,
    ⟨rfl, cs.def_ 5 (d := fn_reduced.d) rfl, sc_reduced, bd_reduced, fun _ _ _ _ _ _ _ cx => der_reduced N cx, fun h => absurd h (by decide)⟩,
    ⟨rfl, cs.def_ 6 (d := fn_is_less.d) rfl, sc_is_less, bd_is_less, fun _ _ _ _ _ _ _ cx => der_is_less N cx, fun h => absurd h (by decide)⟩,
    ⟨rfl, cs.def_ 7 (d := fn_RuleU_initU.d) rfl, sc_RuleU_initU, bd_RuleU_initU, fun _ _ _ _ _ _ _ cx => der_RuleU_initU N cx, fun h => absurd h (by decide)⟩,
    ⟨rfl, cs.def_ 8 (d := fn_Rule_mark.d) rfl, sc_Rule_mark, bd_Rule_mark, fun _ _ _ _ _ _ _ cx => der_Rule_mark N cx, fun h => absurd h (by decide)⟩,
    ⟨rfl, cs.def_ 9 (d := fn_Rule_mark_of.d) rfl, sc_Rule_mark_of, bd_Rule_mark_of, fun _ _ _ _ _ _ _ cx => der_Rule_mark_of N cx, fun h => absurd h (by decide)⟩,
    ⟨rfl, cs.def_ 10 (d := fn_Rule_rounded.d) rfl, sc_Rule_rounded, bd_Rule_rounded, fun _ _ _ _ _ _ _ cx => der_Rule_rounded N cx, fun h => absurd h (by decide)⟩,
    ⟨rfl, cs.def_ 11 (d := fn_Rule_may_be.d) rfl, sc_Rule_may_be, bd_Rule_may_be, fun _ _ _ _ _ _ _ cx => der_Rule_may_be N cx, fun h => absurd h (by decide)⟩,
    ⟨rfl, cs.def_ 12 (d := fn__law_pool.d) rfl, sc__law_pool, bd__law_pool, fun _ _ _ _ _ _ _ cx => der__law_pool N cx, fun h => absurd h (by decide)⟩,
    ⟨rfl, cs.def_ 13 (d := fn__law_draw.d) rfl, sc__law_draw, bd__law_draw, fun _ _ _ _ _ _ _ cx => der__law_draw N cx, fun h => absurd h (by decide)⟩,
    ⟨rfl, cs.def_ 14 (d := fn__law_same.d) rfl, sc__law_same, bd__law_same, fun _ _ _ _ _ _ _ cx => der__law_same N cx, fun _ _ _ _ _ _ _ _ _ cx => derH__law_same N cx⟩,
    ⟨rfl, cs.def_ 15 (d := fn__law_way.d) rfl, sc__law_way, bd__law_way, fun _ _ _ _ _ _ _ cx => der__law_way N cx, fun h => absurd h (by decide)⟩,
    ⟨rfl, cs.def_ 16 (d := fn__law_mark.d) rfl, sc__law_mark, bd__law_mark, fun _ _ _ _ _ _ _ cx => der__law_mark N cx, fun h => absurd h (by decide)⟩,
    ⟨rfl, cs.def_ 17 (d := fn__law_lowest.d) rfl, sc__law_lowest, bd__law_lowest, fun _ _ _ _ _ _ _ cx => der__law_lowest N cx, fun h => absurd h (by decide)⟩,
    ⟨rfl, cs.def_ 18 (d := fn__law_worth.d) rfl, sc__law_worth, bd__law_worth, fun _ _ _ _ _ _ _ cx => der__law_worth N cx, fun h => absurd h (by decide)⟩,
    ⟨rfl, cs.def_ 19 (d := fn__law_due.d) rfl, sc__law_due, bd__law_due, fun _ _ _ _ _ _ _ cx => der__law_due N cx, fun h => absurd h (by decide)⟩,
    ⟨rfl, cs.def_ 20 (d := fn__law_refused.d) rfl, sc__law_refused, bd__law_refused, fun _ _ _ _ _ _ _ cx => der__law_refused N cx, fun h => absurd h (by decide)⟩,
    ⟨rfl, cs.def_ 21 (d := fn_law.d) rfl, sc_law, bd_law, fun _ _ _ _ _ _ _ cx => der_law N cx, fun h => absurd h (by decide)⟩, trivial⟩ e
  rw [Nat.zero_add] at z
  exact z
end
end LK
open PySem PySem.W PySem.Calls PyProof.Rows
theorem PySem.Challenge.cw_seatsbothways_k05_whole_rounded_by_marks_holds : PySem.Challenge.rw_seatsbothways_k05_whole_rounded_by_marks.Holds := by
  w_on; o_law
  refine HandSHeadRun.head_imp (r := OpenLaw.row PySem.Challenge.rw_seatsbothways_k05_whole_rounded_by_marks) (q := view (OpenLaw.row PySem.Challenge.rw_seatsbothways_k05_whole_rounded_by_marks).prog [0, 29]) (H := LK.hk) (ob := LK.ob) (M := 60000) (loose := LK.loose)
    (d := HandSHeadRun.topDef (OpenLaw.row PySem.Challenge.rw_seatsbothways_k05_whole_rounded_by_marks).prog 29) (kwd := []) LK.ob_eq LK.run (by kernel_rfl) (by kernel_rfl) (by kernel_rfl) (by rfl) (by first | assumption | decide +kernel) (by decide +kernel) ⟨rfl, rfl, rfl, rfl, rfl, by decide +kernel⟩ ?hw ?hc
  case hw => w_witness2
  case hc =>
    have en : (HandSHeadRun.topDef (OpenLaw.row PySem.Challenge.rw_seatsbothways_k05_whole_rounded_by_marks).prog 29).name = ("law" : PySem.Str) := by kernel_rfl
    refine VI.law_walk (l := PySem.Challenge.rw_seatsbothways_k05_whole_rounded_by_marks) (n := 63) (k := LK.lev) (f := LK.i_law) (T := LK.T) (hots := LK.hots) (fn := LK.fn_law) (x := "script") rfl (by decide) (by kernel_rfl) ⟨rfl, by decide, by decide⟩ rfl rfl (by rw [en]; rfl) (fun w mg h Y G => ?_) LK.spec_law
    obtain ⟨K, KX, c⟩ := Y
    refine ⟨K, KX, ?_, fun base _ _ => LK.mk_ok (LK.nm_ok KX G c) c⟩
    rw [en]
    exact He.glo_ok KX G (c.both.2.fact 39 rfl)

end
