import PyProof.Rows.All
import Wide.All
import OpenK.AllK
import Wide.FinOn
import HandS.ForMost
import HandS.Exc
import HandS.ExcOwn
import HandS.CallSlots
import HandS.TryMany
import HandS.TryOnly
import HandS.ExcInit
import HandS.ExcField
import HandS.IsInst
import HandS.Wide
import HandS.Gcd
import HandS.TupAny
import HandS.Zip
import HandS.Rev
import HandS.HeadHook2
import HandS.HotCalls
import HandS.ExcInitHot
import HandS.WordsExc
import HandS.Defaults
import HandS.Deep
import HandS.Style
import HandS.Head3
import HandS.HeadEnd
import PyProof.LongRange
import KE.GoesMore
import PyProof.Rows.SumAny
import HandS.TupMul
import KE.KMathGC
import HandS.SetFor
import HandS.Ends
import PyProof.ReprRoads
import KE.KExcPX
import KE.KIsAll
import PyProof.WalkInts
import PyProof.WalksMore
import KE.GoesZip
import KE.GoesEnum
import HandS.Sort
import HandS.SortOrd
import HandS.SortRule
import HandS.Text
import HandS.WideBits
import HandS.List
import HandS.SortKw
import HandS.Call
import KE.DataMinMax
import HandS.RaiseMore
import HandS.More
import PySem.Challenge.RW_seatsbothways_k04_rule_marks_and_errors
set_option Elab.async false
set_option linter.all false
set_option maxRecDepth 100000
set_option maxHeartbeats 0
set_option exponentiation.threshold 2000
section
/-! VI1: plain data, the small heap, how both stand in HandS's heap. -/
namespace VI
open PySem PySem.Spec PyProof.Rows L2

/-- data: tuples, frozen lists and frozen instances by value; ref: a cell of the small heap; scr: the script -/
inductive D where
  | non | bl (b : Bool) | int (i : Int) | str (x : Str)
  | tup (ds : List D) | lst (ds : List D) | obj (c : Str) (ns : List Str) (ds : List D)
  | ref (p : Nat) | scr (ns : List Int)
  | exn (a dd : Addr) (c : Str) (ns : List Str) (ds : List D)
/-- a cell of the small heap: a list, an instance -/
inductive Cell where
  | lst (ds : List D) | ins (c : Str) (ns : List Str) (ds : List D) | rng (lo hi : Int)
abbrev VH := List Cell
/-- an exception: its class, its fields -/
structure Exc where
  c : Str
  ns : List Str
  ds : List D

/-- where the cells stand; hid: addresses that no datum may name -/
structure Map where
  ats : Nat → Option Addr
  hid : Addr → Prop
def Map.Imm (m : Map) (a : Addr) : Prop := (∀ p, m.ats p ≠ some a) ∧ ¬ m.hid a

section
variable (K : PySem.W.Frag) (m : Map) (H : Hp)
mutual
def Rep : D → V → Prop
  | .non, v => v = .non
  | .bl b, v => v = .bl b
  | .int i, v => v = .int i
  | .str x, v => v = .str x
  | .tup ds, v => ∃ a xs, v = .ref a ∧ SqT K H a xs ∧ Reps ds xs
  | .lst ds, v => ∃ a xs, v = .ref a ∧ H a = some (.lst xs) ∧ m.Imm a ∧ Reps ds xs
  | .obj c ns ds, v => ∃ a dx fs, v = .ref a ∧ H a = some (.ins (He.ga K c) dx fs) ∧ m.Imm a ∧ fs.map (·.1) = ns ∧ Reps ds (fs.map (·.2))
  | .ref p, v => ∃ a, v = .ref a ∧ m.ats p = some a
  | .scr ns, v => ∃ a, v = .ref a ∧ ((∃ o, H a = some (.frz o (.lst (ns.map V.int)))) ∨ SqL K (fun _ => none) a (ns.map V.int))
  | .exn a dd _ ns ds, v => v = .ref a ∧ ∃ fs, H dd = some (.xd fs) ∧ m.Imm dd ∧ fs.map (·.1) = ns ∧ Reps ds (fs.map (·.2))
def Reps : List D → List V → Prop
  | [], xs => xs = []
  | d :: ds, xs => ∃ v vs, xs = v :: vs ∧ Rep d v ∧ Reps ds vs
end
def RepC : Cell → Addr → Prop
  | .lst ds, a => ∃ xs, H a = some (.lst xs) ∧ Reps K m H ds xs
  | .ins c ns ds, a => ∃ dx fs, H a = some (.ins (He.ga K c) dx fs) ∧ fs.map (·.1) = ns ∧ Reps K m H ds (fs.map (·.2))
  | .rng lo hi, a => H a = some (.rng lo hi)
structure Hr (vh : VH) : Prop where
  dom : ∀ p, (∃ a, m.ats p = some a) ↔ p < vh.length
  inj : ∀ p q a, m.ats p = some a → m.ats q = some a → p = q
  ats : ∀ p c a, vh[p]? = some c → m.ats p = some a → RepC K m H c a
  hid : ∀ a, m.hid a → (∃ xs, H a = some (.lst xs)) ∧ ∀ p, m.ats p ≠ some a
end
def Step (m : Map) (H : Hp) (m' : Map) (H' : Hp) : Prop :=
  (∀ a, m.hid a → m'.hid a) ∧ (∀ p a, m.ats p = some a → m'.ats p = some a) ∧ ∀ a o, H a = some o → (∀ p, m.ats p ≠ some a) → H' a = some o ∧ (∀ p, m'.ats p ≠ some a) ∧ (m'.hid a → m.hid a)
theorem Step.refl (m : Map) (H : Hp) : Step m H m H := ⟨fun _ h => h, fun _ _ h => h, fun _ _ h n => ⟨h, n, fun z => z⟩⟩
theorem Step.trans {m m1 m2 : Map} {H H1 H2 : Hp} (a : Step m H m1 H1) (b : Step m1 H1 m2 H2) : Step m H m2 H2 :=
  ⟨fun x h => b.1 x (a.1 x h), fun p x h => b.2.1 p x (a.2.1 p x h), fun x o h n => let ⟨h1, n1, z1⟩ := a.2.2 x o h n; let ⟨h2, n2, z2⟩ := b.2.2 x o h1 n1; ⟨h2, n2, fun z => z1 (z2 z)⟩⟩
theorem Step.same {m : Map} {H H' : Hp} (s : Same H H') : Step m H m H' := ⟨fun _ h => h, fun _ _ h => h, fun a o h n => ⟨s a o h, n, fun z => z⟩⟩
theorem same_new {H : Hp} {p : Addr} {o : HO} (h : H p = none) : Same H (upd H p o) := fun b x e => by
  rw [upd_ne (ne_of_none e h)]; exact e

section
variable {K : PySem.W.Frag} {m m' : Map} {H H' : Hp} {vh vh' : VH}
theorem RepC.obj {c : Cell} {a : Addr} (h : RepC K m H c a) : (∃ xs, H a = some (.lst xs)) ∨ (∃ C dx fs, H a = some (.ins C dx fs)) ∨ ∃ lo hi, H a = some (.rng lo hi) := by
  cases c with
  | lst ds => obtain ⟨xs, e, _⟩ := h; exact .inl ⟨xs, e⟩
  | ins c ns ds => obtain ⟨dx, fs, e, _⟩ := h; exact .inr (.inl ⟨_, dx, fs, e⟩)
  | rng lo hi => exact .inr (.inr ⟨lo, hi, h⟩)
theorem Hr.cell (h : Hr K m H vh) {p : Nat} {a : Addr} (e : m.ats p = some a) : ∃ c, vh[p]? = some c ∧ RepC K m H c a := by
  have lt := (h.dom p).mp ⟨a, e⟩
  exact ⟨vh[p], List.getElem?_eq_getElem lt, h.ats p _ a (List.getElem?_eq_getElem lt) e⟩
theorem Hr.obj (h : Hr K m H vh) {p : Nat} {a : Addr} (e : m.ats p = some a) : (∃ xs, H a = some (.lst xs)) ∨ (∃ C dx fs, H a = some (.ins C dx fs)) ∨ ∃ lo hi, H a = some (.rng lo hi) := by
  obtain ⟨c, _, r⟩ := h.cell e; exact r.obj
theorem Hr.notup (h : Hr K m H vh) {a : Addr} {xs : List V} (r : Rd H a (.tup xs)) : m.Imm a := by
  refine ⟨fun p e => ?_, fun z => ?_⟩
  · rcases h.obj e with ⟨ys, q⟩ | ⟨C, dx, fs, q⟩ | ⟨lo, hi, q⟩ <;> rcases r with r | ⟨o, r⟩ <;> rw [q] at r <;> cases r
  · obtain ⟨⟨ys, q⟩, _⟩ := h.hid a z
    rcases r with r | ⟨o, r⟩ <;> rw [q] at r <;> cases r
theorem SqT.step (h : Hr K m H vh) (s : Step m H m' H') {a : Addr} {xs : List V} (q : SqT K H a xs) : SqT K H' a xs := by
  rcases q with q | q
  · have im := h.notup q
    rcases q with q | ⟨o, q⟩
    · exact .inl (.inl (s.2.2 a _ q im.1).1)
    · exact .inl (.inr ⟨o, (s.2.2 a _ q im.1).1⟩)
  · exact .inr q
theorem Imm.step {a : Addr} {o : HO} (s : Step m H m' H') (e : H a = some o) (im : m.Imm a) : H' a = some o ∧ m'.Imm a := by
  obtain ⟨h1, h2, h3⟩ := s.2.2 a o e im.1
  exact ⟨h1, h2, fun z => im.2 (h3 z)⟩

mutual
theorem Rep.step (h : Hr K m H vh) (s : Step m H m' H') : ∀ (d : D) (v : V), Rep K m H d v → Rep K m' H' d v
  | .non, _, r => r
  | .bl _, _, r => r
  | .int _, _, r => r
  | .str _, _, r => r
  | .tup ds, v, r => by
    simp only [Rep] at r ⊢
    obtain ⟨a, xs, e, q, r⟩ := r
    exact ⟨a, xs, e, SqT.step h s q, Reps.step h s ds xs r⟩
  | .lst ds, v, r => by
    simp only [Rep] at r ⊢
    obtain ⟨a, xs, e, q, im, r⟩ := r
    obtain ⟨q', im'⟩ := Imm.step s q im
    exact ⟨a, xs, e, q', im', Reps.step h s ds xs r⟩
  | .obj c ns ds, v, r => by
    simp only [Rep] at r ⊢
    obtain ⟨a, dx, fs, e, q, im, en, r⟩ := r
    obtain ⟨q', im'⟩ := Imm.step s q im
    exact ⟨a, dx, fs, e, q', im', en, Reps.step h s ds _ r⟩
  | .ref p, v, r => by
    simp only [Rep] at r ⊢
    obtain ⟨a, e, q⟩ := r
    exact ⟨a, e, s.2.1 p a q⟩
  | .scr ns, v, r => by
    simp only [Rep] at r ⊢
    obtain ⟨a, e, q⟩ := r
    rcases q with ⟨o, q⟩ | q
    · have im : m.Imm a := by
        refine ⟨fun p e => ?_, fun z => ?_⟩
        · rcases h.obj e with ⟨ys, q'⟩ | ⟨C, dx, fs, q'⟩ | ⟨lo, hi, q'⟩ <;> rw [q'] at q <;> cases q
        · obtain ⟨⟨ys, q'⟩, _⟩ := h.hid a z
          rw [q'] at q; cases q
      exact ⟨a, e, .inl ⟨o, (s.2.2 a _ q im.1).1⟩⟩
    · exact ⟨a, e, .inr q⟩
  | .exn a dd c ns ds, v, r => by
    simp only [Rep] at r ⊢
    obtain ⟨e, fs, q, im, en, r⟩ := r
    obtain ⟨q', im'⟩ := Imm.step s q im
    exact ⟨e, fs, q', im', en, Reps.step h s ds _ r⟩
theorem Reps.step (h : Hr K m H vh) (s : Step m H m' H') : ∀ (ds : List D) (xs : List V), Reps K m H ds xs → Reps K m' H' ds xs
  | [], _, r => r
  | d :: ds, xs, r => by
    simp only [Reps] at r ⊢
    obtain ⟨v, vs, e, r1, r2⟩ := r
    exact ⟨v, vs, e, Rep.step h s d v r1, Reps.step h s ds vs r2⟩
end
theorem Reps.len : ∀ {ds : List D} {xs : List V}, Reps K m H ds xs → ds.length = xs.length
  | [], xs, r => by simp only [Reps] at r; subst r; rfl
  | d :: ds, xs, r => by
    simp only [Reps] at r
    obtain ⟨v, vs, rfl, _, r2⟩ := r
    rw [List.length_cons, List.length_cons, Reps.len r2]
theorem Reps.get : ∀ {ds : List D} {xs : List V} {i : Nat} {d : D}, Reps K m H ds xs → ds[i]? = some d → ∃ v, xs[i]? = some v ∧ Rep K m H d v
  | [], _, _, _, _, e => by simp at e
  | d :: ds, xs, 0, d', r, e => by
    simp only [Reps] at r
    obtain ⟨v, vs, rfl, r1, _⟩ := r
    simp at e; subst e
    exact ⟨v, rfl, r1⟩
  | d :: ds, xs, i + 1, d', r, e => by
    simp only [Reps] at r
    obtain ⟨v, vs, rfl, _, r2⟩ := r
    obtain ⟨w, h1, h2⟩ := Reps.get (i := i) r2 (by simpa using e)
    exact ⟨w, by simpa using h1, h2⟩
theorem Reps.app : ∀ {ds es : List D} {xs ys : List V}, Reps K m H ds xs → Reps K m H es ys → Reps K m H (ds ++ es) (xs ++ ys)
  | [], _, _, _, r, s => by simp only [Reps] at r; subst r; exact s
  | d :: ds, es, xs, ys, r, s => by
    simp only [Reps] at r
    obtain ⟨v, vs, rfl, r1, r2⟩ := r
    rw [List.cons_append, List.cons_append]
    simp only [Reps]
    exact ⟨v, vs ++ ys, rfl, r1, Reps.app r2 s⟩
theorem Reps.one {d : D} {v : V} (r : Rep K m H d v) : Reps K m H [d] [v] := by
  simp only [Reps]; exact ⟨v, [], rfl, r, rfl⟩
theorem Reps.cons {d : D} {v : V} {ds : List D} {vs : List V} (r : Rep K m H d v) (s : Reps K m H ds vs) : Reps K m H (d :: ds) (v :: vs) := by
  simp only [Reps]; exact ⟨v, vs, rfl, r, s⟩
theorem Reps.nil : Reps K m H [] [] := by simp only [Reps]
theorem Reps.set : ∀ {ds : List D} {xs : List V} {d : D} {v : V} (i : Nat), Reps K m H ds xs → Rep K m H d v → Reps K m H (ds.set i d) (xs.set i v)
  | [], xs, _, _, i, r, _ => by simp only [Reps] at r; subst r; simpa using Reps.nil
  | e :: ds, xs, d, v, 0, r, s => by
    simp only [Reps] at r
    obtain ⟨w, vs, rfl, r1, r2⟩ := r
    exact Reps.cons s r2
  | e :: ds, xs, d, v, i + 1, r, s => by
    simp only [Reps] at r
    obtain ⟨w, vs, rfl, r1, r2⟩ := r
    exact Reps.cons r1 (Reps.set i r2 s)
theorem Reps.take : ∀ {ds : List D} {xs : List V} (n : Nat), Reps K m H ds xs → Reps K m H (ds.take n) (xs.take n)
  | _, _, 0, _ => by simpa using Reps.nil
  | [], xs, n + 1, r => by simp only [Reps] at r; subst r; simpa using Reps.nil
  | e :: ds, xs, n + 1, r => by
    simp only [Reps] at r
    obtain ⟨w, vs, rfl, r1, r2⟩ := r
    exact Reps.cons r1 (Reps.take n r2)
theorem Reps.drop : ∀ {ds : List D} {xs : List V} (n : Nat), Reps K m H ds xs → Reps K m H (ds.drop n) (xs.drop n)
  | _, _, 0, r => by simpa using r
  | [], xs, n + 1, r => by simp only [Reps] at r; subst r; simpa using Reps.nil
  | e :: ds, xs, n + 1, r => by
    simp only [Reps] at r
    obtain ⟨w, vs, rfl, r1, r2⟩ := r
    exact Reps.drop n r2
theorem Reps.ints : ∀ {ns : List Int} {xs : List V}, Reps K m H (ns.map D.int) xs ↔ xs = ns.map V.int
  | [], xs => by simp only [List.map_nil, Reps]
  | n :: ns, xs => by
    simp only [List.map_cons, Reps, Rep]
    constructor
    · rintro ⟨v, vs, rfl, rfl, r⟩; rw [Reps.ints.mp r]
    · rintro rfl; exact ⟨_, _, rfl, rfl, Reps.ints.mpr rfl⟩
/-- the heap grows by what is new -/
theorem Hr.same (h : Hr K m H vh) (s : Same H H') : Hr K m H' vh := by
  have st := Step.same (m := m) s
  refine ⟨h.dom, h.inj, fun p c a e1 e2 => ?_, fun a z => ⟨let ⟨xs, q⟩ := (h.hid a z).1; ⟨xs, s _ _ q⟩, (h.hid a z).2⟩⟩
  have r := h.ats p c a e1 e2
  cases c with
  | lst ds => obtain ⟨xs, q, r⟩ := r; exact ⟨xs, s _ _ q, Reps.step h st _ _ r⟩
  | ins c ns ds => obtain ⟨dx, fs, q, en, r⟩ := r; exact ⟨dx, fs, s _ _ q, en, Reps.step h st _ _ r⟩
  | rng lo hi => exact s _ _ r
/-- a new cell -/
def Map.push (m : Map) (n : Nat) (a : Addr) : Map := { m with ats := fun p => if p = n then some a else m.ats p }
theorem Hr.none_ne (h : Hr K m H vh) {a : Addr} (hn : H a = none) (p : Nat) : m.ats p ≠ some a := fun e => by
  rcases h.obj e with ⟨ys, q⟩ | ⟨C, dx, fs, q⟩ | ⟨lo, hi, q⟩ <;> rw [hn] at q <;> cases q
theorem push_step (h : Hr K m H vh) {a : Addr} {o : HO} (hn : H a = none) : Step m H (m.push vh.length a) (upd H a o) := by
  refine ⟨fun _ z => z, fun p b e => ?_, fun b u e n => ⟨same_new hn b u e, fun p => ?_, fun z => z⟩⟩
  · have lt := (h.dom p).mp ⟨b, e⟩
    show (if p = vh.length then some a else m.ats p) = some b
    rw [if_neg (by omega)]; exact e
  · show (if p = vh.length then some a else m.ats p) ≠ some b
    by_cases hp : p = vh.length
    · rw [if_pos hp]
      intro z
      have := Option.some.inj z
      rw [← this, hn] at e; cases e
    · rw [if_neg hp]; exact n p
theorem Hr.push (h : Hr K m H vh) {a : Addr} {o : HO} {c : Cell} (hn : H a = none) (r : RepC K (m.push vh.length a) (upd H a o) c a) : Hr K (m.push vh.length a) (upd H a o) (vh ++ [c]) := by
  have st := push_step (o := o) h hn
  have old : ∀ p, p ≠ vh.length → (m.push vh.length a).ats p = m.ats p := fun p hp => if_neg hp
  have new : (m.push vh.length a).ats vh.length = some a := if_pos rfl
  refine ⟨fun p => ?_, fun p q b e1 e2 => ?_, fun p c' b e1 e2 => ?_, fun b z => ?_⟩
  · rw [List.length_append, List.length_singleton]
    by_cases hp : p = vh.length
    · subst hp; rw [new]; exact ⟨fun _ => by omega, fun _ => ⟨a, rfl⟩⟩
    · rw [old p hp, h.dom p]; omega
  · by_cases hp : p = vh.length <;> by_cases hq : q = vh.length
    · rw [hp, hq]
    · rw [hp, new] at e1; cases e1; rw [old q hq] at e2; exact absurd e2 (h.none_ne hn q)
    · rw [hq, new] at e2; cases e2; rw [old p hp] at e1; exact absurd e1 (h.none_ne hn p)
    · rw [old p hp] at e1; rw [old q hq] at e2; exact h.inj p q b e1 e2
  · by_cases hp : p = vh.length
    · subst hp
      rw [new] at e2; cases e2
      rw [List.getElem?_append_right (Nat.le_refl _), Nat.sub_self] at e1
      cases e1; exact r
    · have hl : p < vh.length := by
        have := (List.getElem?_eq_some_iff.mp e1).1
        rw [List.length_append, List.length_singleton] at this; omega
      rw [old p hp] at e2
      rw [List.getElem?_append_left hl] at e1
      have r' := h.ats p c' b e1 e2
      have nb : b ≠ a := fun z => h.none_ne hn p (z ▸ e2)
      cases c' with
      | lst ds => obtain ⟨xs, q, r⟩ := r'; exact ⟨xs, by rw [upd_ne nb]; exact q, Reps.step h st _ _ r⟩
      | ins c ns ds => obtain ⟨dx, fs, q, en, r⟩ := r'; exact ⟨dx, fs, by rw [upd_ne nb]; exact q, en, Reps.step h st _ _ r⟩
      | rng lo hi =>
        show upd H a _ b = _
        rw [upd_ne nb]
        exact r'
  · obtain ⟨⟨xs, q⟩, n⟩ := h.hid b z
    refine ⟨⟨xs, same_new hn _ _ q⟩, fun p => ?_⟩
    by_cases hp : p = vh.length
    · subst hp; rw [new]; intro e; cases e; rw [hn] at q; cases q
    · rw [old p hp]; exact n p
/-- a cell is written -/
theorem set_step {p : Nat} {a : Addr} {o : HO} (e : m.ats p = some a) : Step m H m (upd H a o) :=
  ⟨fun _ z => z, fun _ _ h => h, fun b u q n => ⟨by rw [upd_ne (show b ≠ a from fun z => n p (by rw [z]; exact e))]; exact q, n, fun z => z⟩⟩
theorem Hr.set (h : Hr K m H vh) {p : Nat} {a : Addr} {o : HO} {c : Cell} (e : m.ats p = some a) (r : RepC K m (upd H a o) c a) : Hr K m (upd H a o) (vh.set p c) := by
  have st := set_step (H := H) (o := o) e
  refine ⟨fun q => by rw [List.length_set]; exact h.dom q, h.inj, fun q c' b e1 e2 => ?_, fun b z => ?_⟩
  · by_cases hq : q = p
    · subst hq
      rw [e] at e2; cases e2
      have lt := (h.dom q).mp ⟨a, e⟩
      rw [List.getElem?_set_self lt] at e1; cases e1; exact r
    · rw [List.getElem?_set_ne (Ne.symm hq)] at e1
      have nb : b ≠ a := fun z => hq (h.inj q p b e2 (z ▸ e))
      have r' := h.ats q c' b e1 e2
      cases c' with
      | lst ds => obtain ⟨xs, q, r⟩ := r'; exact ⟨xs, by rw [upd_ne nb]; exact q, Reps.step h st _ _ r⟩
      | ins c ns ds => obtain ⟨dx, fs, q, en, r⟩ := r'; exact ⟨dx, fs, by rw [upd_ne nb]; exact q, en, Reps.step h st _ _ r⟩
      | rng lo hi =>
        show upd H a _ b = _
        rw [upd_ne nb]
        exact r'
  · obtain ⟨⟨xs, q⟩, n⟩ := h.hid b z
    exact ⟨⟨xs, by rw [upd_ne (show b ≠ a from fun y => n p (by rw [y]; exact e))]; exact q⟩, n⟩
/-! ### hiding a list that is being made -/
def Map.hide (m : Map) (a : Addr) : Map := { m with hid := fun b => m.hid b ∨ b = a }
mutual
theorem Rep.hideNew {a : Addr} {o : HO} (hn : H a = none) : ∀ (d : D) (v : V), Rep K m H d v → Rep K (m.hide a) (upd H a o) d v
  | .non, _, r => r
  | .bl _, _, r => r
  | .int _, _, r => r
  | .str _, _, r => r
  | .tup ds, v, r => by
    simp only [Rep] at r ⊢
    obtain ⟨b, xs, e, q, r⟩ := r
    refine ⟨b, xs, e, ?_, Reps.hideNew hn ds xs r⟩
    rcases q with (q | ⟨o', q⟩) | q
    · exact .inl (.inl (same_new hn _ _ q))
    · exact .inl (.inr ⟨o', same_new hn _ _ q⟩)
    · exact .inr q
  | .lst ds, v, r => by
    simp only [Rep] at r ⊢
    obtain ⟨b, xs, e, q, im, r⟩ := r
    exact ⟨b, xs, e, same_new hn _ _ q, ⟨im.1, fun z => z.elim im.2 (ne_of_none q hn)⟩, Reps.hideNew hn ds xs r⟩
  | .obj c ns ds, v, r => by
    simp only [Rep] at r ⊢
    obtain ⟨b, dx, fs, e, q, im, en, r⟩ := r
    exact ⟨b, dx, fs, e, same_new hn _ _ q, ⟨im.1, fun z => z.elim im.2 (ne_of_none q hn)⟩, en, Reps.hideNew hn ds _ r⟩
  | .ref p, v, r => by
    simp only [Rep] at r ⊢
    exact r
  | .scr ns, v, r => by
    simp only [Rep] at r ⊢
    obtain ⟨b, e, q⟩ := r
    exact ⟨b, e, q.elim (fun ⟨o, q⟩ => .inl ⟨o, same_new hn _ _ q⟩) .inr⟩
  | .exn b dd c ns ds, v, r => by
    simp only [Rep] at r ⊢
    obtain ⟨e, fs, q, im, en, r⟩ := r
    exact ⟨e, fs, same_new hn _ _ q, ⟨im.1, fun z => z.elim im.2 (ne_of_none q hn)⟩, en, Reps.hideNew hn ds _ r⟩
theorem Reps.hideNew {a : Addr} {o : HO} (hn : H a = none) : ∀ (ds : List D) (xs : List V), Reps K m H ds xs → Reps K (m.hide a) (upd H a o) ds xs
  | [], _, r => r
  | d :: ds, xs, r => by
    simp only [Reps] at r ⊢
    obtain ⟨v, vs, e, r1, r2⟩ := r
    exact ⟨v, vs, e, Rep.hideNew hn d v r1, Reps.hideNew hn ds vs r2⟩
end
theorem Hr.hideNew {a : Addr} {ys : List V} (h : Hr K m H vh) (hn : H a = none) : Hr K (m.hide a) (upd H a (.lst ys)) vh := by
  refine ⟨h.dom, h.inj, fun p c b e1 e2 => ?_, fun b z => ?_⟩
  · have nb : b ≠ a := fun z => h.none_ne hn p (by rw [← z]; exact e2)
    have r' := h.ats p c b e1 e2
    cases c with
    | lst ds => obtain ⟨xs, q, r⟩ := r'; exact ⟨xs, by rw [upd_ne nb]; exact q, Reps.hideNew hn _ _ r⟩
    | ins c ns ds => obtain ⟨dx, fs, q, en, r⟩ := r'; exact ⟨dx, fs, by rw [upd_ne nb]; exact q, en, Reps.hideNew hn _ _ r⟩
    | rng lo hi =>
      show upd H a _ b = _
      rw [upd_ne nb]
      exact r'
  · rcases z with z | z
    · obtain ⟨⟨xs, q⟩, n⟩ := h.hid b z
      exact ⟨⟨xs, same_new hn _ _ q⟩, n⟩
    · subst z
      exact ⟨⟨ys, upd_same⟩, fun p => h.none_ne hn p⟩
theorem hide_step (h : Hr K m H vh) {a : Addr} {o : HO} (hn : H a = none) : Step m H (m.hide a) (upd H a o) :=
  ⟨fun _ z => .inl z, fun _ _ e => e, fun b u e n => ⟨same_new hn b u e, n, fun z => z.elim id fun y => by rw [y, hn] at e; cases e⟩⟩
/-- what is hidden may be written -/
theorem Hr.hid_ne (h : Hr K m H vh) {a : Addr} (z : m.hid a) (p : Nat) : m.ats p ≠ some a := (h.hid a z).2 p
mutual
theorem Rep.hidSet {a : Addr} {xs0 ys : List V} (z : m.hid a) (ha : H a = some (.lst xs0)) : ∀ (d : D) (v : V), Rep K m H d v → Rep K m (upd H a (.lst ys)) d v
  | .non, _, r => r
  | .bl _, _, r => r
  | .int _, _, r => r
  | .str _, _, r => r
  | .tup ds, v, r => by
    simp only [Rep] at r ⊢
    obtain ⟨b, xs, e, q, r⟩ := r
    refine ⟨b, xs, e, ?_, Reps.hidSet z ha ds xs r⟩
    rcases q with (q | ⟨o', q⟩) | q
    · exact .inl (.inl (by rw [upd_ne (ne_of q ha (by intro z; cases z))]; exact q))
    · exact .inl (.inr ⟨o', by rw [upd_ne (ne_of q ha (by intro z; cases z))]; exact q⟩)
    · exact .inr q
  | .lst ds, v, r => by
    simp only [Rep] at r ⊢
    obtain ⟨b, xs, e, q, im, r⟩ := r
    exact ⟨b, xs, e, by rw [upd_ne (show b ≠ a from fun y => im.2 (by rw [y]; exact z))]; exact q, im, Reps.hidSet z ha ds xs r⟩
  | .obj c ns ds, v, r => by
    simp only [Rep] at r ⊢
    obtain ⟨b, dx, fs, e, q, im, en, r⟩ := r
    exact ⟨b, dx, fs, e, by rw [upd_ne (show b ≠ a from fun y => im.2 (by rw [y]; exact z))]; exact q, im, en, Reps.hidSet z ha ds _ r⟩
  | .ref p, v, r => by
    simp only [Rep] at r ⊢
    exact r
  | .scr ns, v, r => by
    simp only [Rep] at r ⊢
    obtain ⟨b, e, q⟩ := r
    exact ⟨b, e, q.elim (fun ⟨o, q⟩ => .inl ⟨o, by rw [upd_ne (ne_of q ha (by intro z; cases z))]; exact q⟩) .inr⟩
  | .exn b dd c ns ds, v, r => by
    simp only [Rep] at r ⊢
    obtain ⟨e, fs, q, im, en, r⟩ := r
    exact ⟨e, fs, by rw [upd_ne (show dd ≠ a from fun y => im.2 (by rw [y]; exact z))]; exact q, im, en, Reps.hidSet z ha ds _ r⟩
theorem Reps.hidSet {a : Addr} {xs0 ys : List V} (z : m.hid a) (ha : H a = some (.lst xs0)) : ∀ (ds : List D) (xs : List V), Reps K m H ds xs → Reps K m (upd H a (.lst ys)) ds xs
  | [], _, r => r
  | d :: ds, xs, r => by
    simp only [Reps] at r ⊢
    obtain ⟨v, vs, e, r1, r2⟩ := r
    exact ⟨v, vs, e, Rep.hidSet z ha d v r1, Reps.hidSet z ha ds vs r2⟩
end
theorem Hr.hidSet {a : Addr} {xs0 ys : List V} (h : Hr K m H vh) (z : m.hid a) (ha : H a = some (.lst xs0)) : Hr K m (upd H a (.lst ys)) vh := by
  refine ⟨h.dom, h.inj, fun p c b e1 e2 => ?_, fun b y => ?_⟩
  · have nb : b ≠ a := fun y => h.hid_ne z p (by rw [← y]; exact e2)
    have r' := h.ats p c b e1 e2
    cases c with
    | lst ds => obtain ⟨xs, q, r⟩ := r'; exact ⟨xs, by rw [upd_ne nb]; exact q, Reps.hidSet z ha _ _ r⟩
    | ins c ns ds => obtain ⟨dx, fs, q, en, r⟩ := r'; exact ⟨dx, fs, by rw [upd_ne nb]; exact q, en, Reps.hidSet z ha _ _ r⟩
    | rng lo hi =>
      show upd H a _ b = _
      rw [upd_ne nb]
      exact r'
  · obtain ⟨⟨xs, q⟩, n⟩ := h.hid b y
    by_cases hb : b = a
    · subst hb; exact ⟨⟨ys, upd_same⟩, n⟩
    · exact ⟨⟨xs, by rw [upd_ne hb]; exact q⟩, n⟩
/-- fewer addresses are hidden -/
def Map.bare (m : Map) (z : Addr → Prop) : Map := { m with hid := z }
mutual
theorem Rep.bare {z : Addr → Prop} (hz : ∀ a, z a → m.hid a) : ∀ (d : D) (v : V), Rep K m H d v → Rep K (m.bare z) H d v
  | .non, _, r => r
  | .bl _, _, r => r
  | .int _, _, r => r
  | .str _, _, r => r
  | .tup ds, v, r => by
    simp only [Rep] at r ⊢
    obtain ⟨b, xs, e, q, r⟩ := r
    exact ⟨b, xs, e, q, Reps.bare hz ds xs r⟩
  | .lst ds, v, r => by
    simp only [Rep] at r ⊢
    obtain ⟨b, xs, e, q, im, r⟩ := r
    exact ⟨b, xs, e, q, ⟨im.1, fun y => im.2 (hz _ y)⟩, Reps.bare hz ds xs r⟩
  | .obj c ns ds, v, r => by
    simp only [Rep] at r ⊢
    obtain ⟨b, dx, fs, e, q, im, en, r⟩ := r
    exact ⟨b, dx, fs, e, q, ⟨im.1, fun y => im.2 (hz _ y)⟩, en, Reps.bare hz ds _ r⟩
  | .ref p, v, r => by
    simp only [Rep] at r ⊢
    exact r
  | .scr ns, v, r => by
    simp only [Rep] at r ⊢
    exact r
  | .exn b dd c ns ds, v, r => by
    simp only [Rep] at r ⊢
    obtain ⟨e, fs, q, im, en, r⟩ := r
    exact ⟨e, fs, q, ⟨im.1, fun y => im.2 (hz _ y)⟩, en, Reps.bare hz ds _ r⟩
theorem Reps.bare {z : Addr → Prop} (hz : ∀ a, z a → m.hid a) : ∀ (ds : List D) (xs : List V), Reps K m H ds xs → Reps K (m.bare z) H ds xs
  | [], _, r => r
  | d :: ds, xs, r => by
    simp only [Reps] at r ⊢
    obtain ⟨v, vs, e, r1, r2⟩ := r
    exact ⟨v, vs, e, Rep.bare hz d v r1, Reps.bare hz ds vs r2⟩
end
theorem Hr.bare {z : Addr → Prop} (h : Hr K m H vh) (hz : ∀ a, z a → m.hid a) : Hr K (m.bare z) H vh := by
  refine ⟨h.dom, h.inj, fun p c b e1 e2 => ?_, fun b y => h.hid b (hz b y)⟩
  have r' := h.ats p c b e1 e2
  cases c with
  | lst ds => obtain ⟨xs, q, r⟩ := r'; exact ⟨xs, q, Reps.bare hz _ _ r⟩
  | ins c ns ds => obtain ⟨dx, fs, q, en, r⟩ := r'; exact ⟨dx, fs, q, en, Reps.bare hz _ _ r⟩
  | rng lo hi => exact r'

theorem bare_step (s : Step m H m' H') : Step m H (m'.bare m.hid) H' := ⟨fun _ z => z, s.2.1, fun b u e n => let ⟨h1, h2, _⟩ := s.2.2 b u e n; ⟨h1, h2, fun z => z⟩⟩
/-! ### a def is left: its own cells go -/
mutual
theorem Rep.down (s : Step m H m' H') : ∀ (d : D) (v0 v : V), Rep K m H d v0 → Rep K m' H' d v → Rep K m H' d v
  | .non, _, _, _, r => r
  | .bl _, _, _, _, r => r
  | .int _, _, _, _, r => r
  | .str _, _, _, _, r => r
  | .tup ds, v0, v, r0, r => by
    simp only [Rep] at r0 r ⊢
    obtain ⟨b0, xs0, e0, q0, r0⟩ := r0
    obtain ⟨b, xs, e, q, r⟩ := r
    exact ⟨b, xs, e, q, Reps.down s ds xs0 xs r0 r⟩
  | .lst ds, v0, v, r0, r => by
    simp only [Rep] at r0 r ⊢
    obtain ⟨b0, xs0, e0, q0, im0, r0⟩ := r0
    obtain ⟨b, xs, e, q, im, r⟩ := r
    exact ⟨b, xs, e, q, ⟨fun p z => im.1 p (s.2.1 p _ z), fun y => im.2 (s.1 _ y)⟩, Reps.down s ds xs0 xs r0 r⟩
  | .obj c ns ds, v0, v, r0, r => by
    simp only [Rep] at r0 r ⊢
    obtain ⟨b0, dx0, fs0, e0, q0, im0, en0, r0⟩ := r0
    obtain ⟨b, dx, fs, e, q, im, en, r⟩ := r
    exact ⟨b, dx, fs, e, q, ⟨fun p z => im.1 p (s.2.1 p _ z), fun y => im.2 (s.1 _ y)⟩, en, Reps.down s ds _ _ r0 r⟩
  | .ref p, v0, v, r0, r => by
    simp only [Rep] at r0 r ⊢
    obtain ⟨a0, e0, q0⟩ := r0
    obtain ⟨a, e, q⟩ := r
    have z := s.2.1 p a0 q0
    rw [q] at z
    have z' := Option.some.inj z
    exact ⟨a0, by rw [e, z'], q0⟩
  | .scr ns, v0, v, r0, r => by
    simp only [Rep] at r0 r ⊢
    exact r
  | .exn b dd c ns ds, v0, v, r0, r => by
    simp only [Rep] at r0 r ⊢
    obtain ⟨e0, fs0, q0, im0, en0, r0⟩ := r0
    obtain ⟨e, fs, q, im, en, r⟩ := r
    exact ⟨e, fs, q, ⟨fun p z => im.1 p (s.2.1 p _ z), fun y => im.2 (s.1 _ y)⟩, en, Reps.down s ds _ _ r0 r⟩
theorem Reps.down (s : Step m H m' H') : ∀ (ds : List D) (xs0 xs : List V), Reps K m H ds xs0 → Reps K m' H' ds xs → Reps K m H' ds xs
  | [], _, _, _, r => r
  | d :: ds, xs0, xs, r0, r => by
    simp only [Reps] at r0 r ⊢
    obtain ⟨v0, vs0, e0, r01, r02⟩ := r0
    obtain ⟨v, vs, e, r1, r2⟩ := r
    exact ⟨v, vs, e, Rep.down s d v0 v r01 r1, Reps.down s ds vs0 vs r02 r2⟩
end
theorem Hr.trim {g : VH} (h : Hr K m H vh) (s : Step m H m' H') (h' : Hr K m' H' (vh ++ g)) : Hr K m H' vh ∧ Step m H m H' := by
  refine ⟨⟨h.dom, h.inj, fun p c b e1 e2 => ?_, fun b z => ?_⟩, fun _ z => z, fun _ _ e => e, fun a o e n => ⟨(s.2.2 a o e n).1, n, fun z => z⟩⟩
  · have lt := (List.getElem?_eq_some_iff.mp e1).1
    have r0 := h.ats p c b e1 e2
    have r' := h'.ats p c b (by rw [List.getElem?_append_left lt]; exact e1) (s.2.1 p b e2)
    cases c with
    | lst ds =>
      obtain ⟨xs, q, r⟩ := r'
      obtain ⟨xs0, q0, r0⟩ := r0
      exact ⟨xs, q, Reps.down s _ _ _ r0 r⟩
    | ins c ns ds =>
      obtain ⟨dx, fs, q, en, r⟩ := r'
      obtain ⟨dx0, fs0, q0, en0, r0⟩ := r0
      exact ⟨dx, fs, q, en, Reps.down s _ _ _ r0 r⟩
    | rng lo hi => exact r'
  · exact ⟨(h'.hid b (s.1 b z)).1, (h.hid b z).2⟩
mutual
/-- all cells that a datum names are below n -/
def low (n : Nat) : D → Prop
  | .non => True
  | .bl _ => True
  | .int _ => True
  | .str _ => True
  | .tup ds => lows n ds
  | .lst ds => lows n ds
  | .obj _ _ ds => lows n ds
  | .ref p => p < n
  | .scr _ => True
  | .exn _ _ _ _ ds => lows n ds
def lows (n : Nat) : List D → Prop
  | [] => True
  | d :: ds => low n d ∧ lows n ds
end
mutual
theorem Rep.low (h : Hr K m H vh) (s : Step m H m' H') : ∀ (d : D) (v : V), VI.low vh.length d → Rep K m' H' d v → Rep K m H' d v
  | .non, _, _, r => r
  | .bl _, _, _, r => r
  | .int _, _, _, r => r
  | .str _, _, _, r => r
  | .tup ds, v, l, r => by
    simp only [Rep, VI.low] at l r ⊢
    obtain ⟨b, xs, e, q, r⟩ := r
    exact ⟨b, xs, e, q, Reps.low h s ds xs l r⟩
  | .lst ds, v, l, r => by
    simp only [Rep, VI.low] at l r ⊢
    obtain ⟨b, xs, e, q, im, r⟩ := r
    exact ⟨b, xs, e, q, ⟨fun p z => im.1 p (s.2.1 p _ z), fun y => im.2 (s.1 _ y)⟩, Reps.low h s ds xs l r⟩
  | .obj c ns ds, v, l, r => by
    simp only [Rep, VI.low] at l r ⊢
    obtain ⟨b, dx, fs, e, q, im, en, r⟩ := r
    exact ⟨b, dx, fs, e, q, ⟨fun p z => im.1 p (s.2.1 p _ z), fun y => im.2 (s.1 _ y)⟩, en, Reps.low h s ds _ l r⟩
  | .ref p, v, l, r => by
    simp only [Rep, VI.low] at l r ⊢
    obtain ⟨a, e, q⟩ := r
    obtain ⟨a0, q0⟩ := (h.dom p).mpr l
    have z := s.2.1 p a0 q0
    rw [q] at z
    have z' := Option.some.inj z
    exact ⟨a0, by rw [e, z'], q0⟩
  | .scr ns, v, _, r => by
    simp only [Rep] at r ⊢
    exact r
  | .exn b dd c ns ds, v, l, r => by
    simp only [Rep, VI.low] at l r ⊢
    obtain ⟨e, fs, q, im, en, r⟩ := r
    exact ⟨e, fs, q, ⟨fun p z => im.1 p (s.2.1 p _ z), fun y => im.2 (s.1 _ y)⟩, en, Reps.low h s ds _ l r⟩
theorem Reps.low (h : Hr K m H vh) (s : Step m H m' H') : ∀ (ds : List D) (xs : List V), VI.lows vh.length ds → Reps K m' H' ds xs → Reps K m H' ds xs
  | [], _, _, r => r
  | d :: ds, xs, l, r => by
    simp only [Reps, VI.lows] at l r ⊢
    obtain ⟨v, vs, e, r1, r2⟩ := r
    exact ⟨v, vs, e, Rep.low h s d v l.1 r1, Reps.low h s ds vs l.2 r2⟩
end
mutual
/-- a datum without the cells from n on: they are frozen -/
inductive Frz (vh : VH) (n : Nat) : D → D → Prop
  | low {d : D} : VI.low n d → Frz vh n d d
  | tup {ds es : List D} : Frzs vh n ds es → Frz vh n (.tup ds) (.tup es)
  | lst {p : Nat} {ds es : List D} : n ≤ p → vh[p]? = some (.lst ds) → Frzs vh n ds es → Frz vh n (.ref p) (.lst es)
  | ins {p : Nat} {c : Str} {ns : List Str} {ds es : List D} : n ≤ p → vh[p]? = some (.ins c ns ds) → Frzs vh n ds es → Frz vh n (.ref p) (.obj c ns es)
inductive Frzs (vh : VH) (n : Nat) : List D → List D → Prop
  | nil : Frzs vh n [] []
  | cons {d e : D} {ds es : List D} : Frz vh n d e → Frzs vh n ds es → Frzs vh n (d :: ds) (e :: es)
end
theorem high_imm (h : Hr K m H vh) (s : Step m H m' H') (h' : Hr K m' H' vh') {p : Nat} {a : Addr} (hp : vh.length ≤ p) (e : m'.ats p = some a) : m.Imm a := by
  refine ⟨fun q z => ?_, fun z => ?_⟩
  · have lt := (h.dom q).mp ⟨a, z⟩
    have := h'.inj q p a (s.2.1 q a z) e
    omega
  · exact (h'.hid a (s.1 a z)).2 p e
mutual
theorem Frz.rep (h : Hr K m H vh) (s : Step m H m' H') (h' : Hr K m' H' vh') : ∀ {d e : D} {v : V}, Frz vh' vh.length d e → Rep K m' H' d v → Rep K m H' e v
  | d, _, v, .low l, r => Rep.low h s d v l r
  | .tup ds, .tup es, v, .tup f, r => by
    simp only [Rep] at r ⊢
    obtain ⟨b, xs, e, q, r⟩ := r
    exact ⟨b, xs, e, q, Frzs.rep h s h' f r⟩
  | .ref p, .lst es, v, .lst hp e f, r => by
    simp only [Rep] at r ⊢
    obtain ⟨a, ev, q⟩ := r
    obtain ⟨xs, ea, rs⟩ := h'.ats p _ a e q
    exact ⟨a, xs, ev, ea, high_imm h s h' hp q, Frzs.rep h s h' f rs⟩
  | .ref p, .obj c ns es, v, .ins hp e f, r => by
    simp only [Rep] at r ⊢
    obtain ⟨a, ev, q⟩ := r
    obtain ⟨dx, fs, ea, en, rs⟩ := h'.ats p _ a e q
    exact ⟨a, dx, fs, ev, ea, high_imm h s h' hp q, en, Frzs.rep h s h' f rs⟩
theorem Frzs.rep (h : Hr K m H vh) (s : Step m H m' H') (h' : Hr K m' H' vh') : ∀ {ds es : List D} {xs : List V}, Frzs vh' vh.length ds es → Reps K m' H' ds xs → Reps K m H' es xs
  | [], [], _, .nil, r => by simpa only [Reps] using r
  | _ :: _, _ :: _, xs, .cons f fs, r => by
    simp only [Reps] at r ⊢
    obtain ⟨v, vs, e, r1, r2⟩ := r
    exact ⟨v, vs, e, Frz.rep h s h' f r1, Frzs.rep h s h' fs r2⟩
end
end
end VI

end
section
/-! VI2: sems (what a piece of text asks, in continuations, over plain data) and their soundness: expressions. -/
namespace VI
open PySem PySem.Spec L2
open PyProof.Rows hiding St

abbrev Env := List (Option D)
abbrev KD := D → VH → Prop
abbrev KL := List D → VH → Prop
abbrev KB := Bool → VH → Prop
abbrev KX := Exc → VH → Prop
abbrev SemE := Env → VH → KX → KD → Prop
abbrev SemA := Env → VH → KX → KL → Prop
abbrev SemT := Env → VH → KX → KB → Prop

section
variable (K : PySem.W.Frag) (m : Map) (H : Hp)
def Er (env : Env) (σ : St) : Prop := env.length = σ.length ∧ ∀ (i : Nat) d, env[i]? = some (some d) → ∃ v, σ[i]? = some (some v) ∧ Rep K m H d v
def RepX (ex : Exc) (cls : Value) (dd : Option Addr) : Prop := cls = .ref (He.ga K ex.c) ∧ ∃ a fs, dd = some a ∧ H a = some (.xd fs) ∧ fs.map (·.1) = ex.ns ∧ Reps K m H ex.ds (fs.map (·.2))
def Out (kd : KD) (Q : VK) : Prop := ∀ m' vh' H' d v, Step m H m' H' → Hr K m' H' vh' → Rep K m' H' d v → kd d vh' → Q v H'
def OutL (kd : KL) (Q : List V → Hp → Prop) : Prop := ∀ m' vh' H' ds vs, Step m H m' H' → Hr K m' H' vh' → Reps K m' H' ds vs → kd ds vh' → Q vs H'
def OutB (kb : KB) (Q : Bool → Hp → Prop) : Prop := ∀ m' vh' H' b, Step m H m' H' → Hr K m' H' vh' → kb b vh' → Q b H'
def OutX (W : WX) (σ : St) (kx : KX) : Prop := ∀ m' vh' H' ex cls dd, Step m H m' H' → Hr K m' H' vh' → RepX K m' H' ex cls dd → kx ex vh' → W cls dd σ H'
end
section
variable {K : PySem.W.Frag} {m m' : Map} {H H' : Hp} {vh : VH} {env : Env} {σ : St} {W : WX} {kx : KX} {kd : KD}
theorem Er.step (h : Hr K m H vh) (s : Step m H m' H') (e : Er K m H env σ) : Er K m' H' env σ :=
  ⟨e.1, fun i d q => let ⟨v, h1, h2⟩ := e.2 i d q; ⟨v, h1, Rep.step h s d v h2⟩⟩
theorem OutX.step (s : Step m H m' H') (o : OutX K m H W σ kx) : OutX K m' H' W σ kx := fun m2 vh2 H2 ex cls dd s2 => o m2 vh2 H2 ex cls dd (s.trans s2)
theorem Out.step {Q : VK} (s : Step m H m' H') (o : Out K m H kd Q) : Out K m' H' kd Q := fun m2 vh2 H2 d v s2 => o m2 vh2 H2 d v (s.trans s2)
theorem OutB.step {kb : KB} {Q : Bool → Hp → Prop} (s : Step m H m' H') (o : OutB K m H kb Q) : OutB K m' H' kb Q := fun m2 vh2 H2 b s2 => o m2 vh2 H2 b (s.trans s2)
theorem OutL.step {kl : KL} {Q : List V → Hp → Prop} (s : Step m H m' H') (o : OutL K m H kl Q) : OutL K m' H' kl Q := fun m2 vh2 H2 ds vs s2 => o m2 vh2 H2 ds vs (s.trans s2)
theorem Er.set {i : Nat} {d : D} {v : V} (e : Er K m H env σ) (r : Rep K m H d v) : Er K m H (env.set i (some d)) (σ.set i (some v)) := by
  refine ⟨by rw [List.length_set, List.length_set]; exact e.1, fun j d' q => ?_⟩
  by_cases hj : i = j
  · subst hj
    have lt : i < env.length := by
      have := (List.getElem?_eq_some_iff.mp q).1
      rw [List.length_set] at this; exact this
    rw [List.getElem?_set_self lt] at q
    cases q
    exact ⟨v, by rw [List.getElem?_set_self (by rw [← e.1]; exact lt)], r⟩
  · rw [List.getElem?_set_ne hj] at q
    obtain ⟨w, h1, h2⟩ := e.2 j d' q
    exact ⟨w, by rw [List.getElem?_set_ne hj]; exact h1, h2⟩
end

/-! ### the readings -/
def tE (K : PySem.W.Frag) (W : WX) (sem : SemE) : TE := fun σ H Q => ∃ m env vh kx kd, Hr K m H vh ∧ Er K m H env σ ∧ sem env vh kx kd ∧ Out K m H kd Q ∧ OutX K m H W σ kx
def tT (K : PySem.W.Frag) (W : WX) (sem : SemT) : TT := fun σ H Q => ∃ m env vh kx kd, Hr K m H vh ∧ Er K m H env σ ∧ sem env vh kx kd ∧ OutB K m H kd Q ∧ OutX K m H W σ kx
def tA (K : PySem.W.Frag) (W : WX) (sem : SemA) : TA := fun σ H Q => ∃ m env vh kx kd, Hr K m H vh ∧ Er K m H env σ ∧ sem env vh kx kd ∧ OutL K m H kd Q ∧ OutX K m H W σ kx
def SE (X : Cx) (W : WX) (sem : SemE) (e : Expr) : Prop := PE X e (tE X.K W sem)
def ST (X : Cx) (W : WX) (sem : SemT) (e : Expr) : Prop := PT X e (tT X.K W sem)
def SA (X : Cx) (W : WX) (sem : SemA) (es : List Expr) : Prop := PA X es (tA X.K W sem)
theorem peImp {X : Cx} {e : Expr} {t t' : TE} (h : PE X e t) (k : ∀ σ H Q, t' σ H Q → t σ H Q) : PE X e t' := ⟨fun pins s σ H Q I q => h.run pins s σ H Q I (k σ H Q q)⟩
theorem ptImp {X : Cx} {e : Expr} {t t' : TT} (h : PT X e t) (k : ∀ σ H Q, t' σ H Q → t σ H Q) : PT X e t' := ⟨fun pins s σ H Q I q => h.run pins s σ H Q I (k σ H Q q)⟩
theorem pwImp {X : Cx} {e : Expr} {t t' : TT} (h : PW X e t) (k : ∀ σ H Q, t' σ H Q → t σ H Q) : PW X e t' := ⟨fun wh pins s σ H Q I q => h.run wh pins s σ H Q I (k σ H Q q)⟩
theorem paImp {X : Cx} {es : List Expr} {t t' : TA} (h : PA X es t) (k : ∀ σ H Q, t' σ H Q → t σ H Q) : PA X es t' := ⟨fun pos pins s σ H Q I q => h.run pos pins s σ H Q I (k σ H Q q)⟩
section
variable {K : PySem.W.Frag} {m : Map} {H : Hp} {vh : VH} {env : Env} {σ : St} {W : WX} {kx : KX} {kd : KD} {kb : KB} {kl : KL}
/-- a part is asked; behind it all stands anew -/
theorem tE.go {sem : SemE} {Q : VK} (hr : Hr K m H vh) (er : Er K m H env σ) (ox : OutX K m H W σ kx) (hs : sem env vh kx kd)
    (hq : ∀ m' vh' H' d v, Step m H m' H' → Hr K m' H' vh' → Er K m' H' env σ → OutX K m' H' W σ kx → Rep K m' H' d v → kd d vh' → Q v H') : tE K W sem σ H Q :=
  ⟨m, env, vh, kx, kd, hr, er, hs, fun m' vh' H' d v s h' r k => hq m' vh' H' d v s h' (er.step hr s) (ox.step s) r k, ox⟩
theorem tT.go {sem : SemT} {Q : Bool → Hp → Prop} (hr : Hr K m H vh) (er : Er K m H env σ) (ox : OutX K m H W σ kx) (hs : sem env vh kx kb)
    (hq : ∀ m' vh' H' b, Step m H m' H' → Hr K m' H' vh' → Er K m' H' env σ → OutX K m' H' W σ kx → kb b vh' → Q b H') : tT K W sem σ H Q :=
  ⟨m, env, vh, kx, kb, hr, er, hs, fun m' vh' H' b s h' k => hq m' vh' H' b s h' (er.step hr s) (ox.step s) k, ox⟩
theorem tA.go {sem : SemA} {Q : List V → Hp → Prop} (hr : Hr K m H vh) (er : Er K m H env σ) (ox : OutX K m H W σ kx) (hs : sem env vh kx kl)
    (hq : ∀ m' vh' H' ds vs, Step m H m' H' → Hr K m' H' vh' → Er K m' H' env σ → OutX K m' H' W σ kx → Reps K m' H' ds vs → kl ds vh' → Q vs H') : tA K W sem σ H Q :=
  ⟨m, env, vh, kx, kl, hr, er, hs, fun m' vh' H' b vs s h' r k => hq m' vh' H' b vs s h' (er.step hr s) (ox.step s) r k, ox⟩
end

/-! ### names, constants -/
@[reducible] def look : Env → Nat → Option D
  | [], _ => none
  | x :: _, 0 => x
  | _ :: r, n + 1 => look r n
theorem look_at : ∀ {env : Env} {i : Nat} {d : D}, look env i = some d → env[i]? = some (some d)
  | [], _, _, h => by cases h
  | x :: _, 0, d, h => by simp only [look] at h; subst h; rfl
  | _ :: r, i + 1, d, h => by simpa using look_at (env := r) h
def sVar (i : Nat) : SemE := fun env vh _ kd => match look env i with
  | some d => kd d vh
  | none => False
def sCst (d : D) : SemE := fun _ vh _ kd => kd d vh
section
variable {X : Cx} {W : WX} {pos : Pos}
theorem se_var (i : Nat) {x : Str} (hN : X.N[i]? = some x := by rfl) (hv : Vis X.env.scope x := by first | exact Or.inl rfl | exact Or.inr (Or.inl rfl) | exact Or.inr (Or.inr rfl)) (hd : (x == ("__debug__" : Str)) = false := by decide)
    (hcd : (x == ("__classdict__" : Str)) = false := by decide) : SE X W (sVar i) (.Name x pos) := by
  refine peImp (pe_var hN hv hd hcd) fun σ H Q h => ?_
  obtain ⟨m, env, vh, kx, kd, hr, er, hs, ho, ox⟩ := h
  revert hs
  show (match look env i with | some d => kd d vh | none => False) → _
  cases e : look env i with
  | none => exact False.elim
  | some d =>
    intro hs
    obtain ⟨v, h1, h2⟩ := er.2 i d (look_at e)
    exact ⟨v, h1, ho m vh H d v (Step.refl _ _) hr h2 hs⟩
theorem se_cst {e : Expr} {d : D} {v : V} (h : PE X e (tC v)) (r : ∀ m H, Rep X.K m H d v) : SE X W (sCst d) e := by
  refine peImp h fun σ H Q q => ?_
  obtain ⟨m, env, vh, kx, kd, hr, er, hs, ho, ox⟩ := q
  exact ho m vh H d v (Step.refl _ _) hr (r m H) hs
theorem se_int {i j} : SE X W (sCst (.int i)) (.Constant (.int i) j pos) := se_cst pe_int fun _ _ => rfl
theorem se_bl {b j} : SE X W (sCst (.bl b)) (.Constant (.bool b) j pos) := se_cst pe_bl fun _ _ => rfl
theorem se_non {j} : SE X W (sCst .non) (.Constant .none j pos) := se_cst pe_non fun _ _ => rfl
theorem se_str {x j} : SE X W (sCst (.str x)) (.Constant (.str x) j pos) := se_cst pe_str fun _ _ => rfl
/-- a constant of the module -/
theorem se_glob {x : Str} {d : D} {v : V} {u : Value} (hg : Gl X x) (hm : X.mg x = some u) (r : RelV v u) (rep : ∀ m H, Rep X.K m H d v) (hd : (x == ("__debug__" : Str)) = false := by decide) : SE X W (sCst d) (.Name x pos) := se_cst (pe_glob hg hm r hd) rep

/-! ### operators of two, of one -/
abbrev SO2 := D → D → VH → KD → Prop
abbrev SO1 := D → VH → KD → Prop
/-- the operator's sem meets the rule's reading -/
def Sn2 (K : PySem.W.Frag) (so : SO2) (r : R2) : Prop := ∀ m H vh d1 d2 v1 v2 kd Q, Hr K m H vh → Rep K m H d1 v1 → Rep K m H d2 v2 → so d1 d2 vh kd → Out K m H kd Q → r v1 v2 H Q
def Sn1 (K : PySem.W.Frag) (so : SO1) (r : V → Hp → VK → Prop) : Prop := ∀ m H vh d1 v1 kd Q, Hr K m H vh → Rep K m H d1 v1 → so d1 vh kd → Out K m H kd Q → r v1 H Q
def sBin (so : SO2) (sa sb : SemE) : SemE := fun env vh kx kd => sa env vh kx fun d1 vh1 => sb env vh1 kx fun d2 vh2 => so d1 d2 vh2 kd
def sUn (so : SO1) (sa : SemE) : SemE := fun env vh kx kd => sa env vh kx fun d1 vh1 => so d1 vh1 kd
variable {a b : Expr} {sa sb sc : SemE}
theorem tOp_of {so : SO2} {r : R2} (hs : Sn2 X.K so r) {σ : St} {H : Hp} {Q : VK} (h : tE X.K W (sBin so sa sb) σ H Q) : tOp r (tE X.K W sa) (tE X.K W sb) σ H Q := by
  obtain ⟨m, env, vh, kx, kd, hr, er, h, ho, ox⟩ := h
  refine tE.go hr er ox h fun m1 vh1 H1 d1 v1 s1 hr1 er1 ox1 r1 k1 => ?_
  refine tE.go hr1 er1 ox1 k1 fun m2 vh2 H2 d2 v2 s2 hr2 er2 ox2 r2 k2 => ?_
  exact hs m2 H2 vh2 d1 d2 v1 v2 kd Q hr2 (Rep.step hr1 s2 d1 v1 r1) r2 k2 (ho.step (s1.trans s2))
theorem se_bin {op : Operator} {so : SO2} {r : R2} (ho : OpR X (binaryOp op) r) (hs : Sn2 X.K so r) (ha : SE X W sa a) (hb : SE X W sb b) : SE X W (sBin so sa sb) (.BinOp a op b pos) :=
  peImp (pe_op ho ha hb) fun _ _ _ h => tOp_of hs h
theorem se_un {op : UnaryOp} {so : SO1} {r : V → Hp → VK → Prop} (ho : UnR X (unaryOp op) r) (hs : Sn1 X.K so r) (ha : SE X W sa a) : SE X W (sUn so sa) (.UnaryOp op a pos) := by
  refine peImp (pe_un ho ha) fun σ H Q h => ?_
  obtain ⟨m, env, vh, kx, kd, hr, er, h, ho, ox⟩ := h
  refine tE.go hr er ox h fun m1 vh1 H1 d1 v1 s1 hr1 er1 ox1 r1 k1 => ?_
  exact hs m1 H1 vh1 d1 v1 kd Q hr1 r1 k1 (ho.step s1)
/-- a comparison as a value, as a test -/
theorem se_cmp {op : CmpOp} {so : SO2} {r : R2} (ho : OpR X (compareOp op) r) (hs : Sn2 X.K so r) (ha : SE X W sa a) (hb : SE X W sb b) (hm : behindInMarks op b = false) : SE X W (sBin so sa sb) (.Compare a [op] [b] pos) :=
  peImp (pe_cmpR ho ha hb hm) fun _ _ _ h => tOp_of hs h
/-- a value as a test, where it is a truth value -/
def sTB (s : SemE) : SemT := fun env vh kx kb => s env vh kx fun d vh' => match d with
  | .bl c => kb c vh'
  | _ => False
theorem tB_of {s : SemE} {σ : St} {H : Hp} {Q : Bool → Hp → Prop} (h : tT X.K W (sTB s) σ H Q) : tE X.K W s σ H fun x H' => ∃ k, x = .bl k ∧ Q k H' := by
  obtain ⟨m, env, vh, kx, kb, hr, er, h, ho, ox⟩ := h
  refine tE.go hr er ox h fun m1 vh1 H1 d1 v1 s1 hr1 er1 ox1 r1 k1 => ?_
  cases d1 with
  | bl c => exact ⟨c, r1, ho m1 vh1 H1 c s1 hr1 k1⟩
  | _ => exact k1.elim
theorem st_cmp {op : CmpOp} {so : SO2} {r : R2} (ho : OpR X (compareOp op) r) (hs : Sn2 X.K so r) (ha : SE X W sa a) (hb : SE X W sb b) (hm : behindInMarks op b = false) : ST X W (sTB (sBin so sa sb)) (.Compare a [op] [b] pos) :=
  ptImp (pt_cmpR ho ha hb hm) fun _ _ _ h => tOp_of hs (tB_of h)
end
end VI

end
section
namespace VI
open PySem PySem.Spec L2
open PyProof.Rows hiding St
section
variable {X : Cx} {W : WX} {pos : Pos} {a b : Expr} {rest : List Expr} {sa sb sc : SemE} {ta tb tc : SemT}
/-! ### and, or, not -/
def sNotT (t : SemT) : SemT := fun env vh kx kb => t env vh kx fun c vh' => kb (!c) vh'
def sAndT (t u : SemT) : SemT := fun env vh kx kb => t env vh kx fun c vh' => match c with
  | true => u env vh' kx kb
  | false => kb false vh'
def sOrT (t u : SemT) : SemT := fun env vh kx kb => t env vh kx fun c vh' => match c with
  | true => kb true vh'
  | false => u env vh' kx kb
def SW (X : Cx) (W : WX) (sem : SemT) (e : Expr) : Prop := PW X e (tT X.K W sem)
theorem SW.st {e : Expr} (h : SW X W ta e) : ST X W ta e := PW.pt h
theorem st_not (h : ST X W ta a) : ST X W (sNotT ta) (.UnaryOp .Not a pos) := by
  refine ptImp (pt_not h) fun σ H Q h => ?_
  obtain ⟨m, env, vh, kx, kd, hr, er, h, ho, ox⟩ := h
  exact tT.go hr er ox h fun m1 vh1 H1 c s1 hr1 er1 ox1 k1 => ho m1 vh1 H1 _ s1 hr1 k1
theorem sw_and1 (h : ST X W ta a) : SW X W ta (.BoolOp .And [a] pos) := pw_and1 h
theorem sw_or1 (h : ST X W ta a) : SW X W ta (.BoolOp .Or [a] pos) := pw_or1 h
theorem sw_and (ha : ST X W ta a) (hb : SW X W tb (.BoolOp .And (b :: rest) pos)) : SW X W (sAndT ta tb) (.BoolOp .And (a :: b :: rest) pos) := by
  refine pwImp (pw_and ha hb) fun σ H Q h => ?_
  obtain ⟨m, env, vh, kx, kd, hr, er, h, ho, ox⟩ := h
  refine tT.go hr er ox h fun m1 vh1 H1 c s1 hr1 er1 ox1 k1 => ?_
  cases c with
  | true => exact iteT (tT.go hr1 er1 ox1 k1 fun m2 vh2 H2 c s2 hr2 er2 ox2 k2 => ho m2 vh2 H2 c (s1.trans s2) hr2 k2)
  | false => exact iteF (ho m1 vh1 H1 false s1 hr1 k1)
theorem sw_or (ha : ST X W ta a) (hb : SW X W tb (.BoolOp .Or (b :: rest) pos)) : SW X W (sOrT ta tb) (.BoolOp .Or (a :: b :: rest) pos) := by
  refine pwImp (pw_or ha hb) fun σ H Q h => ?_
  obtain ⟨m, env, vh, kx, kd, hr, er, h, ho, ox⟩ := h
  refine tT.go hr er ox h fun m1 vh1 H1 c s1 hr1 er1 ox1 k1 => ?_
  cases c with
  | true => exact iteT (ho m1 vh1 H1 true s1 hr1 k1)
  | false => exact iteF (tT.go hr1 er1 ox1 k1 fun m2 vh2 H2 c s2 hr2 er2 ox2 k2 => ho m2 vh2 H2 c (s1.trans s2) hr2 k2)
/-- .. as values; all but the last are truth values -/
def sAndV (sa sb : SemE) : SemE := fun env vh kx kd => sa env vh kx fun d vh' => match d with
  | .bl true => sb env vh' kx kd
  | .bl false => kd (.bl false) vh'
  | _ => False
def sOrV (sa sb : SemE) : SemE := fun env vh kx kd => sa env vh kx fun d vh' => match d with
  | .bl true => kd (.bl true) vh'
  | .bl false => sb env vh' kx kd
  | _ => False
def sNotV (sa : SemE) : SemE := fun env vh kx kd => sa env vh kx fun d vh' => match d with
  | .bl c => kd (.bl (!c)) vh'
  | _ => False
theorem se_one {op} (h : SE X W sa a) : SE X W sa (.BoolOp op [a] pos) := pe_one h
theorem se_and (ha : SE X W sa a) (hb : SE X W sb (.BoolOp .And (b :: rest) pos)) : SE X W (sAndV sa sb) (.BoolOp .And (a :: b :: rest) pos) := by
  refine peImp (pe_and ha hb) fun σ H Q h => ?_
  obtain ⟨m, env, vh, kx, kd, hr, er, h, ho, ox⟩ := h
  refine tE.go hr er ox h fun m1 vh1 H1 d v s1 hr1 er1 ox1 r1 k1 => ?_
  cases d with
  | bl c =>
    cases c with
    | true => exact ⟨true, r1, iteT (tE.go hr1 er1 ox1 k1 fun m2 vh2 H2 d v s2 hr2 er2 ox2 r2 k2 => ho m2 vh2 H2 d v (s1.trans s2) hr2 r2 k2)⟩
    | false => exact ⟨false, r1, iteF (ho m1 vh1 H1 (.bl false) _ s1 hr1 rfl k1)⟩
  | _ => exact k1.elim
theorem se_or (ha : SE X W sa a) (hb : SE X W sb (.BoolOp .Or (b :: rest) pos)) : SE X W (sOrV sa sb) (.BoolOp .Or (a :: b :: rest) pos) := by
  refine peImp (pe_or ha hb) fun σ H Q h => ?_
  obtain ⟨m, env, vh, kx, kd, hr, er, h, ho, ox⟩ := h
  refine tE.go hr er ox h fun m1 vh1 H1 d v s1 hr1 er1 ox1 r1 k1 => ?_
  cases d with
  | bl c =>
    cases c with
    | true => exact ⟨true, r1, iteT (ho m1 vh1 H1 (.bl true) _ s1 hr1 rfl k1)⟩
    | false => exact ⟨false, r1, iteF (tE.go hr1 er1 ox1 k1 fun m2 vh2 H2 d v s2 hr2 er2 ox2 r2 k2 => ho m2 vh2 H2 d v (s1.trans s2) hr2 r2 k2)⟩
  | _ => exact k1.elim
theorem se_not (ha : SE X W sa a) : SE X W (sNotV sa) (.UnaryOp .Not a pos) := by
  refine peImp (pe_not ha) fun σ H Q h => ?_
  obtain ⟨m, env, vh, kx, kd, hr, er, h, ho, ox⟩ := h
  refine tE.go hr er ox h fun m1 vh1 H1 d v s1 hr1 er1 ox1 r1 k1 => ?_
  cases d with
  | bl c => exact ⟨c, r1, ho m1 vh1 H1 (.bl (!c)) _ s1 hr1 rfl k1⟩
  | _ => exact k1.elim
/-- a value that is a truth value, as a test -/
theorem st_val {e : Expr} (h : SE X W sa e) (he : ∀ whole, isTrue e X.env whole = (do let v ← whole; standAt e.pos; holding [v] (truthy v)) := by intro _; rfl) : ST X W (sTB sa) e :=
  ptImp (pt_val h he) fun _ _ _ q => tB_of q
/-- a if t else b -/
def sIfE (t : SemT) (sa sb : SemE) : SemE := fun env vh kx kd => t env vh kx fun c vh' => match c with
  | true => sa env vh' kx kd
  | false => sb env vh' kx kd
theorem se_if {c : Expr} (hc : ST X W tc c) (ha : SE X W sa a) (hb : SE X W sb b) : SE X W (sIfE tc sa sb) (.IfExp c a b pos) := by
  refine peImp (pe_ifExp hc ha hb) fun σ H Q h => ?_
  obtain ⟨m, env, vh, kx, kd, hr, er, h, ho, ox⟩ := h
  refine tT.go hr er ox h fun m1 vh1 H1 c s1 hr1 er1 ox1 k1 => ?_
  cases c with
  | true => exact iteT (tE.go hr1 er1 ox1 k1 fun m2 vh2 H2 d v s2 hr2 er2 ox2 r2 k2 => ho m2 vh2 H2 d v (s1.trans s2) hr2 r2 k2)
  | false => exact iteF (tE.go hr1 er1 ox1 k1 fun m2 vh2 H2 d v s2 hr2 er2 ox2 r2 k2 => ho m2 vh2 H2 d v (s1.trans s2) hr2 r2 k2)
/-! ### views -/
@[reducible] def lview (vh : VH) : D → Option (List D)
  | .lst ds => some ds
  | .ref p => match vh[p]? with
    | some (.lst ds) => some ds
    | _ => none
  | _ => none
@[reducible] def sview (vh : VH) : D → Option (List D)
  | .tup ds => some ds
  | .lst ds => some ds
  | .ref p => match vh[p]? with
    | some (.lst ds) => some ds
    | _ => none
  | _ => none
section
variable {K : PySem.W.Frag} {m : Map} {H : Hp} {vh : VH}
theorem lview_rep (hr : Hr K m H vh) {d : D} {v : V} {ds : List D} (r : Rep K m H d v) (e : lview vh d = some ds) : ∃ a xs, v = .ref a ∧ H a = some (.lst xs) ∧ Reps K m H ds xs := by
  cases d with
  | lst ds' =>
    simp only [Rep] at r
    cases e
    obtain ⟨a, xs, e1, e2, _, r⟩ := r
    exact ⟨a, xs, e1, e2, r⟩
  | ref p =>
    simp only [Rep] at r
    obtain ⟨a, e1, e2⟩ := r
    simp only [lview] at e
    cases q : vh[p]? with
    | none => rw [q] at e; cases e
    | some c =>
      rw [q] at e
      cases c with
      | lst ds' =>
        cases e
        obtain ⟨xs, e3, r⟩ := hr.ats p _ a q e2
        exact ⟨a, xs, e1, e3, r⟩
      | ins _ _ _ => cases e
      | rng _ _ => cases e
  | _ => cases e
theorem sview_rep (hr : Hr K m H vh) {d : D} {v : V} {ds : List D} (r : Rep K m H d v) (e : sview vh d = some ds) : ∃ a xs, v = .ref a ∧ (SqL K H a xs ∨ SqT K H a xs) ∧ Reps K m H ds xs := by
  cases d with
  | tup ds' =>
    simp only [Rep] at r
    cases e
    obtain ⟨a, xs, e1, e2, r⟩ := r
    exact ⟨a, xs, e1, .inr e2, r⟩
  | lst ds' =>
    obtain ⟨a, xs, e1, e2, r⟩ := lview_rep hr r (show lview vh (.lst ds') = some ds from e)
    exact ⟨a, xs, e1, .inl (.of e2), r⟩
  | ref p =>
    obtain ⟨a, xs, e1, e2, r⟩ := lview_rep hr r (show lview vh (.ref p) = some ds from e)
    exact ⟨a, xs, e1, .inl (.of e2), r⟩
  | _ => cases e
end
/-! ### new lists, tuples -/
def newL (cell : Bool) (ds : List D) (vh : VH) (kd : KD) : Prop := match cell with
  | false => kd (.lst ds) vh
  | true => kd (.ref vh.length) (vh ++ [.lst ds])
section
variable {K : PySem.W.Frag} {m : Map} {H : Hp} {vh : VH} {kd : KD} {Q : VK} {ds : List D} {vs : List V}
theorem out_tup (hr : Hr K m H vh) (rs : Reps K m H ds vs) (k : kd (.tup ds) vh) (ho : Out K m H kd Q) {p : Addr} (hp : H p = none) : Q (.ref p) (upd H p (.tup vs)) := by
  have sm := same_new (o := .tup vs) hp
  have st := Step.same (m := m) sm
  refine ho m vh _ (.tup ds) _ st (hr.same sm) ?_ k
  simp only [Rep]
  exact ⟨p, vs, rfl, .of upd_same, Reps.step hr st _ _ rs⟩
theorem imm_new (hr : Hr K m H vh) {p : Addr} (hp : H p = none) : m.Imm p := ⟨hr.none_ne hp, fun z => by obtain ⟨⟨xs, q⟩, _⟩ := hr.hid p z; rw [hp] at q; cases q⟩
theorem out_lst {cell : Bool} (hr : Hr K m H vh) (rs : Reps K m H ds vs) (k : newL cell ds vh kd) (ho : Out K m H kd Q) {p : Addr} (hp : H p = none) : Q (.ref p) (upd H p (.lst vs)) := by
  cases cell with
  | false =>
    have sm := same_new (o := .lst vs) hp
    have st := Step.same (m := m) sm
    refine ho m vh _ (.lst ds) _ st (hr.same sm) ?_ k
    simp only [Rep]
    exact ⟨p, vs, rfl, upd_same, imm_new hr hp, Reps.step hr st _ _ rs⟩
  | true =>
    have st := push_step (o := .lst vs) hr hp
    refine ho (m.push vh.length p) _ _ (.ref vh.length) _ st (hr.push (c := .lst ds) hp ⟨vs, upd_same, Reps.step hr st _ _ rs⟩) ?_ k
    simp only [Rep]
    exact ⟨p, rfl, if_pos rfl⟩
end
/-! ### arguments, displays -/
def sNil : SemA := fun _ vh _ kl => kl [] vh
def sCons (s : SemE) (t : SemA) : SemA := fun env vh kx kl => s env vh kx fun d vh' => t env vh' kx fun ds vh'' => kl (d :: ds) vh''
variable {e : Expr} {es : List Expr} {sl : SemA}
theorem sa_nil : SA X W sNil [] := by
  refine paImp pa_nil fun σ H Q h => ?_
  obtain ⟨m, env, vh, kx, kd, hr, er, h, ho, ox⟩ := h
  exact ho m vh H [] [] (Step.refl _ _) hr Reps.nil h
theorem sa_cons (he : SE X W sa e) (hs : SA X W sl es) (h : starEach (e :: es) X.env = (false, eval e X.env) :: starEach es X.env := by rfl) : SA X W (sCons sa sl) (e :: es) := by
  refine paImp (pa_cons he hs h) fun σ H Q h => ?_
  obtain ⟨m, env, vh, kx, kd, hr, er, h, ho, ox⟩ := h
  refine tE.go hr er ox h fun m1 vh1 H1 d1 v1 s1 hr1 er1 ox1 r1 k1 => ?_
  refine tA.go hr1 er1 ox1 k1 fun m2 vh2 H2 ds vs s2 hr2 er2 ox2 r2 k2 => ?_
  exact ho m2 vh2 H2 (d1 :: ds) (v1 :: vs) (s1.trans s2) hr2 (Reps.cons (Rep.step hr1 s2 _ _ r1) r2) k2
def sTup (t : SemA) : SemE := fun env vh kx kd => t env vh kx fun ds vh' => ds.length ≤ 16777216 ∧ kd (.tup ds) vh'
def sLst (cell : Bool) (t : SemA) : SemE := fun env vh kx kd => t env vh kx fun ds vh' => ds.length ≤ 16777216 ∧ newL cell ds vh' kd
theorem se_tup {x1} (hs : SA X W sl es) : SE X W (sTup sl) (.Tuple es x1 pos) := by
  refine peImp (pe_tup hs) fun σ H Q h => ?_
  obtain ⟨m, env, vh, kx, kd, hr, er, h, ho, ox⟩ := h
  refine tA.go hr er ox h fun m1 vh1 H1 ds vs s1 hr1 er1 ox1 r1 k1 => ?_
  exact ⟨by rw [← r1.len, sizeLine_eq]; exact k1.1, fun p hp => out_tup hr1 r1 k1.2 (ho.step s1) hp⟩
theorem se_lst (cell : Bool) (hs : SA X W sl es) : SE X W (sLst cell sl) (.List es pos) := by
  refine peImp (pe_lst hs) fun σ H Q h => ?_
  obtain ⟨m, env, vh, kx, kd, hr, er, h, ho, ox⟩ := h
  refine tA.go hr er ox h fun m1 vh1 H1 ds vs s1 hr1 er1 ox1 r1 k1 => ?_
  exact ⟨by rw [← r1.len, sizeLine_eq]; exact k1.1, fun p hp => out_lst (cell := cell) hr1 r1 k1.2 (ho.step s1) hp⟩
/-! ### calls of built-ins -/
abbrev SOL := List D → VH → KD → Prop
def SnL (K : PySem.W.Frag) (so : SOL) (r : List V → Hp → VK → Prop) : Prop := ∀ m H vh ds vs kd Q, Hr K m H vh → Reps K m H ds vs → so ds vh kd → Out K m H kd Q → r vs H Q
def sCallB (so : SOL) (t : SemA) : SemE := fun env vh kx kd => t env vh kx fun ds vh' => so ds vh' kd
theorem tCB_of {so : SOL} {r : List V → Hp → VK → Prop} (hs : SnL X.K so r) {σ : L2.St} {H : Hp} {Q : VK} (h : tE X.K W (sCallB so sl) σ H Q) : tCB r (tA X.K W sl) σ H Q := by
  obtain ⟨m, env, vh, kx, kd, hr, er, h, ho, ox⟩ := h
  refine tA.go hr er ox h fun m1 vh1 H1 ds vs s1 hr1 er1 ox1 r1 k1 => ?_
  exact hs m1 H1 vh1 ds vs kd Q hr1 r1 k1 (ho.step s1)
variable {x : Str} {p : Pos} {id T : String} {so : SOL} {r : List V → Hp → VK → Prop}
theorem se_callB (hc : CallR X (.builtin id) r) (hs : SnL X.K so r) (hg : Gl X x) (hm : X.mg x = none) (hv : bootBuiltins x = some (.builtin id)) (ha : SA X W sl (e :: es)) (hn : x ≠ "__name__" := by decide) (hdb : (x == ("__debug__" : Str)) = false := by decide)
    (he : starEach (e :: es) X.env = (false, eval e X.env) :: starEach es X.env := by rfl) (hpl : (backTo pos (starEach es X.env)).any (·.1) = false := by rfl) : SE X W (sCallB so sl) (.Call (.Name x p) (e :: es) [] pos) :=
  peImp (pe_callB hc hg hm hv ha hn hdb he hpl) fun _ _ _ h => tCB_of hs h
theorem se_callTy (hc : CallR X (.type T) r) (hs : SnL X.K so r) (hg : Gl X x) (hm : X.mg x = none) (hv : bootBuiltins x = some (.type T)) (ha : SA X W sl (e :: es)) (hn : x ≠ "__name__" := by decide) (hdb : (x == ("__debug__" : Str)) = false := by decide)
    (he : starEach (e :: es) X.env = (false, eval e X.env) :: starEach es X.env := by rfl) (hpl : (backTo pos (starEach es X.env)).any (·.1) = false := by rfl) : SE X W (sCallB so sl) (.Call (.Name x p) (e :: es) [] pos) :=
  peImp (pe_callTy hc hg hm hv ha hn hdb he hpl) fun _ _ _ h => tCB_of hs h
theorem se_callBf (hc : CallR X (.builtin id) r) (hs : SnL X.K so r) (hg : Gl X x) (hm : X.mg x = some (.builtin id)) (ha : SA X W sl (e :: es)) (hdb : (x == ("__debug__" : Str)) = false := by decide)
    (he : starEach (e :: es) X.env = (false, eval e X.env) :: starEach es X.env := by rfl) (hpl : (backTo pos (starEach es X.env)).any (·.1) = false := by rfl) : SE X W (sCallB so sl) (.Call (.Name x p) (e :: es) [] pos) :=
  peImp (pe_callBfun hc hg hm ha hdb he hpl) fun _ _ _ h => tCB_of hs h
/-! ### subscripts -/
theorem se_ix {so : SO2} {r : R2} (hr : IxR X r) (hs : Sn2 X.K so r) (ha : SE X W sa a) (hb : SE X W sb b) (hp : PlainIx b) : SE X W (sBin so sa sb) (.Subscript a b pos) :=
  peImp (pe_ix hr ha hb hp) fun _ _ _ h => tOp_of hs h
end
end VI

end
section
/-! VI4: statements, defs, calls. -/
namespace VI
open PySem PySem.Spec L2
open PyProof.Rows hiding St

/-- what is wanted behind a statement -/
structure KS where
  nx : Env → VH → Prop
  rt : KD
  bk : Env → VH → Prop
  ct : Env → VH → Prop
  ex : Exc → Env → VH → Prop
abbrev SemS := Env → VH → KS → Prop
abbrev KN := Env → VH → Prop
section
variable (K : PySem.W.Frag) (m : Map) (H : Hp)
def OutN (kn : KN) (R : L2.St → Hp → Prop) : Prop := ∀ m' vh' H' env σ, Step m H m' H' → Hr K m' H' vh' → Er K m' H' env σ → kn env vh' → R σ H'
def OutE (kx : Exc → Env → VH → Prop) (W : WX) : Prop := ∀ m' vh' H' env σ ex cls dd, Step m H m' H' → Hr K m' H' vh' → Er K m' H' env σ → RepX K m' H' ex cls dd → kx ex env vh' → W cls dd σ H'
structure OutS (k : KS) (W : WX) (Dn : Ends) : Prop where
  nx : OutN K m H k.nx Dn.nx
  rt : Out K m H k.rt Dn.rt
  bk : OutN K m H k.bk Dn.bk
  ct : OutN K m H k.ct Dn.ct
  ex : OutE K m H k.ex W
end
def tS (K : PySem.W.Frag) (W : WX) (sem : SemS) : TS := fun Dn σ H => ∃ m env vh k, Hr K m H vh ∧ Er K m H env σ ∧ sem env vh k ∧ OutS K m H k W Dn
def SS (X : Cx) (W : WX) (sem : SemS) (st : Stmt) : Prop := PS X st (tS X.K W sem)
def SSs (X : Cx) (W : WX) (sem : SemS) (st : List Stmt) : Prop := PSs X st (tS X.K W sem)
theorem psImp {X : Cx} {e : Stmt} {t t' : TS} (h : PS X e t) (k : ∀ Dn σ H, t' Dn σ H → t Dn σ H) : PS X e t' := ⟨fun pins s σ H Dn I q => h.run pins s σ H Dn I (k Dn σ H q)⟩
theorem pssImp {X : Cx} {e : List Stmt} {t t' : TS} (h : PSs X e t) (k : ∀ Dn σ H, t' Dn σ H → t Dn σ H) : PSs X e t' := ⟨fun pins s σ H Dn I q => h.run pins s σ H Dn I (k Dn σ H q)⟩
section
variable {K : PySem.W.Frag} {m m' : Map} {H H' : Hp} {vh : VH} {env : Env} {σ : L2.St} {W : WX} {k : KS} {Dn : Ends}
theorem OutN.step {kn : KN} {R : L2.St → Hp → Prop} (s : Step m H m' H') (o : OutN K m H kn R) : OutN K m' H' kn R := fun m2 vh2 H2 env σ s2 => o m2 vh2 H2 env σ (s.trans s2)
theorem OutE.step {kx : Exc → Env → VH → Prop} (s : Step m H m' H') (o : OutE K m H kx W) : OutE K m' H' kx W := fun m2 vh2 H2 env σ ex cls dd s2 => o m2 vh2 H2 env σ ex cls dd (s.trans s2)
theorem OutS.step (s : Step m H m' H') (o : OutS K m H k W Dn) : OutS K m' H' k W Dn := ⟨o.nx.step s, o.rt.step s, o.bk.step s, o.ct.step s, o.ex.step s⟩
/-- the exceptions of an expression -/
theorem OutS.x (o : OutS K m H k W Dn) (hr : Hr K m H vh) (er : Er K m H env σ) : OutX K m H W σ fun e h => k.ex e env h := fun m2 vh2 H2 ex cls dd s hr2 rx kx => o.ex m2 vh2 H2 env σ ex cls dd s hr2 (er.step hr s) rx kx
theorem tS.go {sem : SemS} {k' : KS} {Dn' : Ends} (hr : Hr K m H vh) (er : Er K m H env σ) (hs : sem env vh k') (o : OutS K m H k' W Dn') : tS K W sem Dn' σ H := ⟨m, env, vh, k', hr, er, hs, o⟩
/-- an expression within a statement -/
theorem tE.goS {sem : SemE} {kd : KD} {Q : VK} (hr : Hr K m H vh) (er : Er K m H env σ) (o : OutS K m H k W Dn) (hs : sem env vh (fun e h => k.ex e env h) kd)
    (hq : ∀ m' vh' H' d v, Step m H m' H' → Hr K m' H' vh' → Er K m' H' env σ → OutS K m' H' k W Dn → Rep K m' H' d v → kd d vh' → Q v H') : tE K W sem σ H Q :=
  tE.go hr er (o.x hr er) hs fun m' vh' H' d v s hr' er' _ r kk => hq m' vh' H' d v s hr' er' (o.step s) r kk
theorem tT.goS {sem : SemT} {kb : KB} {Q : Bool → Hp → Prop} (hr : Hr K m H vh) (er : Er K m H env σ) (o : OutS K m H k W Dn) (hs : sem env vh (fun e h => k.ex e env h) kb)
    (hq : ∀ m' vh' H' b, Step m H m' H' → Hr K m' H' vh' → Er K m' H' env σ → OutS K m' H' k W Dn → kb b vh' → Q b H') : tT K W sem σ H Q :=
  tT.go hr er (o.x hr er) hs fun m' vh' H' b s hr' er' _ kk => hq m' vh' H' b s hr' er' (o.step s) kk
end

/-! ### blocks, small statements -/
def sSeq (s t : SemS) : SemS := fun env vh k => s env vh { k with nx := fun env' vh' => t env' vh' k }
def sSkip : SemS := fun env vh k => k.nx env vh
def sDrop (s : SemE) : SemS := fun env vh k => s env vh (fun e h => k.ex e env h) fun _ vh' => k.nx env vh'
def sRet (s : SemE) : SemS := fun env vh k => s env vh (fun e h => k.ex e env h) k.rt
def sRetN : SemS := fun _ vh k => k.rt .non vh
def sBrk : SemS := fun env vh k => k.bk env vh
def sCnt : SemS := fun env vh k => k.ct env vh
def sIf (c : SemT) (s t : SemS) : SemS := fun env vh k => c env vh (fun e h => k.ex e env h) fun b vh' => match b with
  | true => s env vh' k
  | false => t env vh' k
def sSet (i : Nat) (s : SemE) : SemS := fun env vh k => s env vh (fun e h => k.ex e env h) fun d vh' => k.nx (env.set i (some d)) vh'
section
variable {X : Cx} {W : WX} {pos : Pos} {st : Stmt} {rest : List Stmt} {sa sb : SemS} {e : Expr} {se : SemE}
theorem ss_nil : SSs X W sSkip [] := pssImp pss_nil fun Dn σ H ⟨m, env, vh, k, hr, er, hs, o⟩ => o.nx m vh H env σ (Step.refl _ _) hr er hs
theorem ss_cons (h1 : SS X W sa st) (h2 : SSs X W sb rest) : SSs X W (sSeq sa sb) (st :: rest) :=
  pssImp (pss_cons h1 h2) fun Dn σ H ⟨m, env, vh, k, hr, er, hs, o⟩ =>
    ⟨m, env, vh, _, hr, er, hs, ⟨fun m' vh' H' env' σ' s hr' er' kk => ⟨m', env', vh', k, hr', er', kk, o.step s⟩, o.rt, o.bk, o.ct, o.ex⟩⟩
theorem ss_one (h1 : SS X W sa st) : SSs X W sa [st] := pss_one h1
theorem ss_pass : SS X W sSkip (.Pass pos) := psImp ps_pass fun Dn σ H ⟨m, env, vh, k, hr, er, hs, o⟩ => o.nx m vh H env σ (Step.refl _ _) hr er hs
theorem ss_brk : SS X W sBrk (.Break pos) := psImp ps_break fun Dn σ H ⟨m, env, vh, k, hr, er, hs, o⟩ => o.bk m vh H env σ (Step.refl _ _) hr er hs
theorem ss_cnt : SS X W sCnt (.Continue pos) := psImp ps_continue fun Dn σ H ⟨m, env, vh, k, hr, er, hs, o⟩ => o.ct m vh H env σ (Step.refl _ _) hr er hs
theorem ss_expr (he : SE X W se e) (hs : swapsWith e none pos.line X.env = pure false := by rfl) : SS X W (sDrop se) (.Expr e pos) :=
  psImp (ps_expr he hs) fun Dn σ H ⟨m, env, vh, k, hr, er, hs, o⟩ => tE.goS hr er o hs fun m' vh' H' d v s hr' er' o' r kk => o'.nx m' vh' H' env σ (Step.refl _ _) hr' er' kk
theorem ss_ret (he : SE X W se e) : SS X W (sRet se) (.Return (some e) pos) :=
  psImp (ps_ret he) fun Dn σ H ⟨m, env, vh, k, hr, er, hs, o⟩ => tE.goS hr er o hs fun m' vh' H' d v s hr' er' o' r kk => o'.rt m' vh' H' d v (Step.refl _ _) hr' r kk
theorem ss_retN : SS X W sRetN (.Return none pos) := psImp ps_retN fun Dn σ H ⟨m, env, vh, k, hr, er, hs, o⟩ => o.rt m vh H .non .non (Step.refl _ _) hr rfl hs
theorem ss_if {c : Expr} {tc : SemT} {la lb : List Stmt} (hc : ST X W tc c) (ha : SSs X W sa la) (hb : SSs X W sb lb) : SS X W (sIf tc sa sb) (.If c la lb pos) :=
  psImp (ps_if hc ha hb) fun Dn σ H ⟨m, env, vh, k, hr, er, hs, o⟩ => tT.goS hr er o hs fun m' vh' H' b s hr' er' o' kk => by
    cases b with
    | true => exact iteT ⟨m', env, vh', k, hr', er', kk, o'⟩
    | false => exact iteF ⟨m', env, vh', k, hr', er', kk, o'⟩
theorem ss_set {i : Nat} {x : Str} {pos' : Pos} (hN : X.N.Nodup) (hi : X.N[i]? = some x) (hx : Loc X.env.scope x) (he : SE X W se e) (hs : swapsWith e (some (.Name x pos')) pos.line X.env = pure false := by rfl) (hf : X.fn x = true ∨ X.env.scope.names.lookup x = some .local := by first | exact .inl rfl | exact .inr rfl | assumption) :
    SS X W (sSet i se) (.Assign [.Name x pos'] e pos) :=
  psImp (ps_set hN hi hx he hs hf) fun Dn σ H ⟨m, env, vh, k, hr, er, hs, o⟩ => tE.goS hr er o hs fun m' vh' H' d v s hr' er' o' r kk => o'.nx m' vh' H' _ _ (Step.refl _ _) hr' (er'.set r) kk
end

/-! ### targets -/
theorem wipe_set {i : Nat} {x : Option V} : ∀ {vs : List Nat} {σ : L2.St}, i ∈ vs → wipe (σ.set i x) vs = wipe σ vs
  | [], _, h => by cases h
  | v :: vs, σ, h => by
    unfold wipe
    by_cases hi : i ∈ vs
    · rw [wipe_set hi]
    · have e : i = v := by
        rcases List.mem_cons.mp h with e | e
        · exact e
        · exact absurd e hi
      subst e
      have key : ∀ (ws : List Nat) (τ : L2.St), i ∉ ws → wipe (τ.set i x) ws = (wipe τ ws).set i x := by
        intro ws
        induction ws with
        | nil => intro τ _; rfl
        | cons w ws ih =>
          intro τ hn
          have h1 : i ≠ w := fun z => hn (by rw [z]; exact List.mem_cons_self)
          have h2 : i ∉ ws := fun z => hn (List.mem_cons_of_mem _ z)
          show (wipe (τ.set i x) ws).set w none = ((wipe τ ws).set w none).set i x
          rw [ih τ h2, List.set_comm _ _ h1]
      rw [key vs σ hi, List.set_set]
abbrev SemG := D → Env → VH → KN → Prop
/-- behind a target: only the slots vs have changed -/
def OutG (K : PySem.W.Frag) (m : Map) (H : Hp) (vs : List Nat) (σ : L2.St) (kn : KN) (R : L2.St → Hp → Prop) : Prop := ∀ m' vh' H' env σ', Step m H m' H' → Hr K m' H' vh' → Er K m' H' env σ' → wipe σ' vs = wipe σ vs → kn env vh' → R σ' H'
theorem OutN.g {K : PySem.W.Frag} {m : Map} {H : Hp} {vs : List Nat} {σ : L2.St} {kn : KN} {R : L2.St → Hp → Prop} (o : OutN K m H kn R) : OutG K m H vs σ kn R := fun m' vh' H' env σ' s hr er _ k => o m' vh' H' env σ' s hr er k
def tG (K : PySem.W.Frag) (vs : List Nat) (sg : SemG) : TG := fun v σ H Q => ∃ m d env vh kn, Hr K m H vh ∧ Er K m H env σ ∧ Rep K m H d v ∧ sg d env vh kn ∧ OutG K m H vs σ kn Q
def SG (X : Cx) (vs : List Nat) (sg : SemG) (tg : Expr) : Prop := PG X tg (tG X.K vs sg)
abbrev SemGs := List D → Env → VH → KN → Prop
def tGs (K : PySem.W.Frag) (ws : List Nat) (sg : SemGs) : TGs := fun vs σ H Q => ∃ m ds env vh kn, Hr K m H vh ∧ Er K m H env σ ∧ Reps K m H ds vs ∧ sg ds env vh kn ∧ OutG K m H ws σ kn Q
def SGs (X : Cx) (ws : List Nat) (sg : SemGs) (tgs : List Expr) : Prop := PGs X tgs (tGs X.K ws sg)
theorem pgImp {X : Cx} {e : Expr} {t t' : TG} (h : PG X e t) (k : ∀ v σ H Q, t' v σ H Q → t v σ H Q) : PG X e t' := ⟨fun pins s σ H v u Q I r q => h.run pins s σ H v u Q I r (k v σ H Q q)⟩
theorem pgsImp {X : Cx} {e : List Expr} {t t' : TGs} (h : PGs X e t) (k : ∀ v σ H Q, t' v σ H Q → t v σ H Q) : PGs X e t' := ⟨fun pins s σ H v u Q I r q => h.run pins s σ H v u Q I r (k v σ H Q q)⟩
def gN (i : Nat) : SemG := fun d env vh kn => kn (env.set i (some d)) vh
def gsNil : SemGs := fun ds env vh kn => ds = [] ∧ kn env vh
def gsCons (g : SemG) (gs : SemGs) : SemGs := fun ds env vh kn => match ds with
  | [] => False
  | d :: r => g d env vh fun env' vh' => gs r env' vh' kn
def gT (n : Nat) (gs : SemGs) : SemG := fun d env vh kn => match d with
  | .tup ds => ds.length = n ∧ gs ds env vh kn
  | _ => False
section
variable {X : Cx} {W : WX} {pos : Pos} {e : Expr} {es : List Expr} {g : SemG} {gs : SemGs} {se : SemE} {ws : List Nat}
theorem sg_name {i : Nat} {x : Str} (hN : X.N.Nodup) (hi : X.N[i]? = some x) (hx : Loc X.env.scope x) (hw : i ∈ ws := by decide) (hf : X.fn x = true ∨ X.env.scope.names.lookup x = some .local := by first | exact .inl rfl | exact .inr rfl | assumption) : SG X ws (gN i) (.Name x pos) :=
  pgImp (pg_name hN hi hx hf) fun v σ H Q ⟨m, d, env, vh, kn, hr, er, r, hs, o⟩ => o m vh H _ _ (Step.refl _ _) hr (er.set r) (wipe_set hw) hs
theorem sgs_nil : SGs X ws gsNil [] := pgsImp pgs_nil fun vs σ H Q ⟨m, ds, env, vh, kn, hr, er, r, hs, o⟩ => by
  obtain ⟨rfl, kk⟩ := hs
  exact ⟨by simpa only [Reps] using r, o m vh H _ _ (Step.refl _ _) hr er rfl kk⟩
theorem sgs_cons (h1 : SG X ws g e) (h2 : SGs X ws gs es) (hs : (assignEach (e :: es) X.env).map (·.2) = assign e X.env :: (assignEach es X.env).map (·.2) := by rfl) : SGs X ws (gsCons g gs) (e :: es) :=
  pgsImp (pgs_cons h1 h2 hs) fun vs σ H Q ⟨m, ds, env, vh, kn, hr, er, r, hs, o⟩ => by
    cases ds with
    | nil => exact hs.elim
    | cons d ds =>
      simp only [Reps] at r
      obtain ⟨v, r', rfl, r1, r2⟩ := r
      exact ⟨v, r', rfl, m, d, env, vh, _, hr, er, r1, hs, fun m' vh' H' env' σ' s hr' er' hw kk => ⟨m', ds, env', vh', kn, hr', er', Reps.step hr s _ _ r2, kk, fun m2 vh2 H2 env2 σ2 s2 hr2 er2 hw2 k2 => o m2 vh2 H2 env2 σ2 (s.trans s2) hr2 er2 (hw2.trans hw) k2⟩⟩
theorem sg_tup {k : Nat} {n : Nat} (hc : X.calm = true) (h : SGs X ws gs es) (hn : (assignEach es X.env).length = n := by rfl) (hst : (assignEach es X.env).findIdx? (·.1) = none := by rfl) : SG X ws (gT n gs) (.Tuple es k pos) :=
  pgImp (pg_tup hc h hn hst) fun v σ H Q ⟨m, d, env, vh, kn, hr, er, r, hs, o⟩ => by
    cases d with
    | tup ds =>
      simp only [Rep] at r
      obtain ⟨a, xs, e1, e2, r⟩ := r
      exact ⟨a, xs, e1, e2, by rw [← r.len]; exact hs.1, m, ds, env, vh, kn, hr, er, r, hs.2, o⟩
    | _ => exact hs.elim
def sAsg (s : SemE) (g : SemG) : SemS := fun env vh k => s env vh (fun e h => k.ex e env h) fun d vh' => g d env vh' k.nx
theorem ss_asg {tg : Expr} (he : SE X W se e) (hg : SG X ws g tg) (hs : swapsWithSole [tg] e pos.line X.env = pure false := by rfl) (hw : swappedStores [tg] e X.env = pure none := by rfl)
    (h1 : (assignEach [tg] X.env).map (·.2) = [assign tg X.env] := by rfl) : SS X W (sAsg se g) (.Assign [tg] e pos) :=
  psImp (ps_asg he hg hs hw h1) fun Dn σ H ⟨m, env, vh, k, hr, er, hs, o⟩ => tE.goS hr er o hs fun m' vh' H' d v s hr' er' o' r kk =>
    ⟨m', d, env, vh', k.nx, hr', er', r, kk, o'.nx.g⟩
end

/-! ### what is walked -/
/-- the items, and when the source still stands -/
structure Src where
  items : List D
  still : VH → Prop
/-- the iterator J yields the items -/
def SrcRep (K : PySem.W.Frag) (m : Map) (H : Hp) (src : Src) (J : It) : Prop := ∀ m' vh' H', Step m H m' H' → Hr K m' H' vh' → src.still vh' →
  (∀ i d, src.items[i]? = some d → J.go i H' ∧ ∀ x H2, J.yld i H' x H2 → Same H' H2 ∧ Rep K m' H2 d x) ∧ ∀ i, src.items.length ≤ i → J.stop i H'
theorem SrcRep.step {K : PySem.W.Frag} {m m' : Map} {H H' : Hp} {src : Src} {J : It} (s : Step m H m' H') (r : SrcRep K m H src J) : SrcRep K m' H' src J := fun m2 vh2 H2 s2 => r m2 vh2 H2 (s.trans s2)
abbrev SemI := Env → VH → KX → (Src → VH → Prop) → Prop
def OutI (K : PySem.W.Frag) (m : Map) (H : Hp) (ki : Src → VH → Prop) (R : It → Hp → Prop) : Prop := ∀ m' vh' H' src J, Step m H m' H' → Hr K m' H' vh' → SrcRep K m' H' src J → ki src vh' → R J H'
def tI (K : PySem.W.Frag) (W : WX) (sem : SemI) : TI := fun σ H R => ∃ m env vh kx ki, Hr K m H vh ∧ Er K m H env σ ∧ sem env vh kx ki ∧ OutI K m H ki R ∧ OutX K m H W σ kx
def SI (X : Cx) (W : WX) (sem : SemI) (tg it : Expr) : Prop := PI X tg it (tI X.K W sem)
theorem piImp {X : Cx} {tg it : Expr} {t t' : TI} (h : PI X tg it t) (k : ∀ σ H R, t' σ H R → t σ H R) : PI X tg it t' := ⟨fun pins s σ H R I q => h.run pins s σ H R I (k σ H R q)⟩
/-- the turns -/
def forL (g : SemG) (body : SemS) (still : VH → Prop) : List D → Env → VH → KS → Prop
  | [], env, vh, k => still vh ∧ k.nx env vh
  | d :: ds, env, vh, k => still vh ∧ g d env vh fun env' vh' => body env' vh' { k with nx := fun e h => forL g body still ds e h k, ct := fun e h => forL g body still ds e h k, bk := k.nx }
def sFor (si : SemI) (g : SemG) (body : SemS) : SemS := fun env vh k => si env vh (fun e h => k.ex e env h) fun src vh' => forL g body src.still src.items env vh' k
section
variable {X : Cx} {W : WX} {pos : Pos} {tg iter : Expr} {body : List Stmt} {si : SemI} {g : SemG} {sb : SemS} {ws : List Nat}
theorem for_of {K : PySem.W.Frag} {W : WX} {si : SemI} {g : SemG} {sb : SemS} {ws : List Nat} {m : Map} {H : Hp} {vh : VH} {env : Env} {σ : L2.St} {k : KS} {Dn : Ends} (hr : Hr K m H vh) (er : Er K m H env σ) (hs : sFor si g sb env vh k) (o : OutS K m H k W Dn) : tFor (tI K W si) (tG K ws g) (tS K W sb) Dn σ H := by
  refine ⟨m, env, vh, _, _, hr, er, hs, fun m' vh' H' src J s hr' sr kk => ?_, o.x hr er⟩
  have er' := er.step hr s
  have o' := o.step s
  refine ⟨fun i n σ2 H2 => n = src.items.length - i ∧ ∃ m2 env2 vh2, Step m' H' m2 H2 ∧ Hr K m2 H2 vh2 ∧ Er K m2 H2 env2 σ2 ∧ forL g sb src.still (src.items.drop i) env2 vh2 k, ⟨src.items.length, by simp, m', env, vh', Step.refl _ _, hr', er', by simpa using kk⟩, ?_⟩
  rintro i n σ2 H2 ⟨rfl, m2, env2, vh2, s2, hr2, er2, kk2⟩
  cases e : src.items[i]? with
  | none =>
    have hl : src.items.length ≤ i := List.getElem?_eq_none_iff.mp e
    rw [List.drop_eq_nil_of_le hl] at kk2
    obtain ⟨q1, q2⟩ := kk2
    exact .inl ⟨(sr m2 vh2 H2 s2 hr2 q1).2 i hl, o'.nx m2 vh2 H2 env2 σ2 s2 hr2 er2 q2⟩
  | some d =>
    obtain ⟨hl, hd⟩ := List.getElem?_eq_some_iff.mp e
    rw [List.drop_eq_getElem_cons hl, hd] at kk2
    obtain ⟨q1, q2⟩ := kk2
    obtain ⟨g1, g2⟩ := (sr m2 vh2 H2 s2 hr2 q1).1 i d e
    refine .inr ⟨g1, fun σ3 H3 => ∃ m3 env3 vh3, Step m' H' m3 H3 ∧ Hr K m3 H3 vh3 ∧ Er K m3 H3 env3 σ3 ∧ forL g sb src.still (src.items.drop (i + 1)) env3 vh3 k, fun σ3 H3 q => ⟨src.items.length - (i + 1), by omega, rfl, q⟩, fun x H3 y => ?_⟩
    obtain ⟨sm, rx⟩ := g2 x H3 y
    have st3 := Step.same (m := m2) sm
    have hr3 := hr2.same sm
    have again : ∀ m4 vh4 H4 env4 σ4, Step m2 H3 m4 H4 → Hr K m4 H4 vh4 → Er K m4 H4 env4 σ4 → forL g sb src.still (src.items.drop (i + 1)) env4 vh4 k → ∃ m3 env3 vh3, Step m' H' m3 H4 ∧ Hr K m3 H4 vh3 ∧ Er K m3 H4 env3 σ4 ∧ forL g sb src.still (src.items.drop (i + 1)) env3 vh3 k :=
      fun m4 vh4 H4 env4 σ4 s4 hr4 er4 k4 => ⟨m4, env4, vh4, (s2.trans st3).trans s4, hr4, er4, k4⟩
    have o3 := (o'.step s2).step st3
    refine ⟨m2, d, env2, vh2, _, hr3, er2.step hr2 st3, rx, q2, fun m4 vh4 H4 env4 σ4 s4 hr4 er4 _ k4 => ?_⟩
    refine ⟨m4, env4, vh4, _, hr4, er4, k4, ⟨?_, (o3.step s4).rt, (o3.step s4).nx, ?_, (o3.step s4).ex⟩⟩
    · exact fun m5 vh5 H5 env5 σ5 s5 hr5 er5 k5 => again m5 vh5 H5 env5 σ5 (s4.trans s5) hr5 er5 k5
    · exact fun m5 vh5 H5 env5 σ5 s5 hr5 er5 k5 => again m5 vh5 H5 env5 σ5 (s4.trans s5) hr5 er5 k5
theorem ss_for (hp : PassesOwn (model X.prog X.w) X.A X.env X.xe) (hc : X.calm = true) (hi : SI X W si tg iter) (hg : SG X ws g tg) (hb : SSs X W sb body) (hs : ∀ x, foldedSetIterable iter X.env x = pure x := by intro _; rfl) : SS X W (sFor si g sb) (.For tg iter body [] pos) := psImp (ps_for hp hc hi hg hb hs) fun Dn σ H ⟨m, env, vh, k, hr, er, hs, o⟩ => for_of hr er hs o
/-- while: so many turns at most -/
def whileN (c : SemT) (body : SemS) : Nat → Env → VH → KS → Prop
  | 0, _, _, _ => False
  | n + 1, env, vh, k => c env vh (fun e h => k.ex e env h) fun b vh' => match b with
    | true => body env vh' { k with nx := fun e h => whileN c body n e h k, ct := fun e h => whileN c body n e h k, bk := k.nx }
    | false => k.nx env vh'
def sWhile (c : SemT) (body : SemS) : SemS := fun env vh k => ∃ n, whileN c body n env vh k
theorem ss_while {c : Expr} {tc : SemT} (hp : PassesOwn (model X.prog X.w) X.A X.env X.xe) (hc : ST X W tc c) (hb : SSs X W sb body) : SS X W (sWhile tc sb) (.While c body [] pos) := by
  refine psImp (ps_while hp hc hb) fun Dn σ H ⟨m, env, vh, k, hr, er, ⟨n, hs⟩, o⟩ => ?_
  refine ⟨fun n σ2 H2 => ∃ m2 env2 vh2, Step m H m2 H2 ∧ Hr X.K m2 H2 vh2 ∧ Er X.K m2 H2 env2 σ2 ∧ whileN tc sb n env2 vh2 k, ⟨n, m, env, vh, Step.refl _ _, hr, er, hs⟩, ?_⟩
  rintro n σ2 H2 ⟨m2, env2, vh2, s2, hr2, er2, kk2⟩
  cases n with
  | zero => exact kk2.elim
  | succ n =>
    refine tT.goS hr2 er2 (o.step s2) kk2 fun m3 vh3 H3 b s3 hr3 er3 o3 k3 => ?_
    cases b with
    | false => exact iteF (o3.nx m3 vh3 H3 env2 σ2 (Step.refl _ _) hr3 er3 k3)
    | true =>
      refine iteT ⟨fun σ4 H4 => ∃ m4 env4 vh4, Step m H m4 H4 ∧ Hr X.K m4 H4 vh4 ∧ Er X.K m4 H4 env4 σ4 ∧ whileN tc sb n env4 vh4 k, fun σ4 H4 q => ⟨n, by omega, q⟩, ?_⟩
      refine ⟨m3, env2, vh3, _, hr3, er3, k3, ⟨?_, o3.rt, o3.nx, ?_, o3.ex⟩⟩
      · exact fun m5 vh5 H5 env5 σ5 s5 hr5 er5 k5 => ⟨m5, env5, vh5, (s2.trans s3).trans s5, hr5, er5, k5⟩
      · exact fun m5 vh5 H5 env5 σ5 s5 hr5 er5 k5 => ⟨m5, env5, vh5, (s2.trans s3).trans s5, hr5, er5, k5⟩
end
end VI

end
section
/-! VI5: what is walked, comprehensions. -/
namespace VI
open PySem PySem.Spec L2
open PyProof.Rows hiding St

section
variable {X : Cx} {W : WX} {tg : Expr}
/-- a list or a tuple -/
def iSeq (K : PySem.W.Frag) (tl : TE) : TI := fun σ H R => tl σ H fun x H1 => ∃ a, x = .ref a ∧ (((∃ xs, SqL K H1 a xs) ∧ R (Itl K a) H1) ∨ ((∃ xs, SqT K H1 a xs) ∧ R (Itt K a) H1) ∨ ∃ lo hi : Int, (H1 a = some (.rng lo hi) ∧ -(2 ^ 62) ≤ lo ∧ lo < 2 ^ 62 ∧ -(2 ^ 62) ≤ hi ∧ hi < 2 ^ 62) ∧ R (Itr lo (hi - lo).toNat) H1)
theorem pi_seq {l : Expr} {tl : TE} (hl : PE X l tl) : PI X tg l (iSeq X.K tl) := by
  refine ⟨fun pins s σ H R I h => ?_⟩
  refine thn (hl.run pins s σ H _ I h) fun v s1 ⟨x, H1, I1, r1, q1⟩ => ?_
  obtain ⟨a, e, q⟩ := q1
  subst e
  cases r1
  rcases q with ⟨⟨xs, hq⟩, q⟩ | ⟨⟨xs, hq⟩, q⟩ | ⟨lo, hi, ⟨ha, h1, h2, h3, h4⟩, q⟩
  · obtain ⟨its, rv, p, hz⟩ := I1.list hq
    refine wpAny_pyIter_list p.isList ?_
    refine ⟨s1.heap.objs.size, [s1.heap.objs.size], _, _, H1, rfl, I1.kept (t' := s1.toks) fun b o e => Heap.get?_push_of_some _ e, turn_list a _, ⟨_, Heap.get?_push_size _ rfl, rfl, rfl⟩, fun b hb => ?_, q⟩
    have e : b = s1.heap.objs.size := by simpa using hb
    subst e
    exact I1.fpOk (Nat.le_refl _) (I1.hok.fresh (Nat.le_refl _))
  · obtain ⟨its, rv, p, hz⟩ := I1.tuple hq
    refine wpAny_pyIter_tuple (show s1.heap.IsTuple a its.toArray from p) ?_
    refine ⟨s1.heap.objs.size, [s1.heap.objs.size], _, _, H1, rfl, I1.kept (t' := s1.toks) fun b o e => Heap.get?_push_of_some _ e, turn_tuple a _, ⟨_, Heap.get?_push_size _ rfl, rfl, rfl⟩, fun b hb => ?_, q⟩
    have e : b = s1.heap.objs.size := by simpa using hb
    subst e
    exact I1.fpOk (Nat.le_refl _) (I1.hok.fresh (Nat.le_refl _))
  · obtain ⟨t, u, v, ho⟩ := I1.hok a _ ha
    refine wpAny_pyIter_range ho (small_one h1 h2 h3 h4) ?_
    refine ⟨s1.heap.objs.size, [s1.heap.objs.size], _, _, H1, rfl, I1.kept (t' := s1.toks) fun b o e => Heap.get?_push_of_some _ e, turn_range _ lo (hi - lo).toNat, ?_, fun b hb => ?_, q⟩
    · have e1 : lo + ((0 : Nat) : Int) * 1 = lo := by simp
      have e2 : (((hi - lo).toNat : Nat) : Int) - ((0 : Nat) : Int) = Builtin.Range.rangeSize lo hi 1 := by rw [rangeSize_one]; split <;> omega
      show IsRangeIter _ _ (lo + ((0 : Nat) : Int) * 1) ((((hi - lo).toNat : Nat) : Int) - ((0 : Nat) : Int)) 1
      rw [e1, e2]
      exact Heap.get?_push_size _ rfl
    · have e : b = s1.heap.objs.size := by simpa using hb
      subst e
      exact I1.fpOk (Nat.le_refl _) (I1.hok.fresh (Nat.le_refl _))
@[reducible] def always : VH → Prop := fun _ => True
@[reducible] def stays (p : Nat) (ds : List D) : VH → Prop := fun vh => vh[p]? = some (.lst ds)
def rngL : Int → Nat → List D
  | _, 0 => []
  | lo, n + 1 => .int lo :: rngL (lo + 1) n
theorem rngL_len : ∀ (n : Nat) (lo : Int), (rngL lo n).length = n
  | 0, _ => rfl
  | n + 1, lo => by show (rngL (lo + 1) n).length + 1 = n + 1; rw [rngL_len n]
theorem rngL_get : ∀ (n : Nat) (lo : Int) (i : Nat), i < n → (rngL lo n)[i]? = some (.int (lo + i))
  | 0, _, i, h => by omega
  | n + 1, lo, 0, _ => by simp [rngL]
  | n + 1, lo, i + 1, h => by
    show (rngL (lo + 1) n)[i]? = _
    rw [rngL_get n (lo + 1) i (by omega)]
    congr 2
    rw [Int.natCast_add]
    omega
theorem src_rng {K : PySem.W.Frag} {m : Map} {H : Hp} (lo : Int) (n : Nat) : SrcRep K m H ⟨rngL lo n, always⟩ (Itr lo n) := by
  intro m' vh' H' s hr' st
  refine ⟨fun i d e => ?_, fun i hi => by rw [rngL_len] at hi; exact hi⟩
  have hl := (List.getElem?_eq_some_iff.mp e).1
  rw [rngL_len] at hl
  rw [rngL_get n lo i hl] at e
  cases e
  exact ⟨hl, fun x H2 ⟨e1, e2⟩ => by subst e1; subst e2; exact ⟨Same.refl _, rfl⟩⟩
def oIter : D → VH → (Src → VH → Prop) → Prop := fun d vh ki => match d with
  | .tup ds => ki ⟨ds, always⟩ vh
  | .lst ds => ki ⟨ds, always⟩ vh
  | .ref p => match vh[p]? with
    | some (.lst ds) => ki ⟨ds, stays p ds⟩ vh
    | some (.rng lo hi) => (-(2 ^ 62) ≤ lo ∧ lo < 2 ^ 62 ∧ -(2 ^ 62) ≤ hi ∧ hi < 2 ^ 62) ∧ ki ⟨rngL lo (hi - lo).toNat, always⟩ vh
    | _ => False
  | .scr ns => ki ⟨ns.map D.int, always⟩ vh
  | _ => False
def sIt (s : SemE) : SemI := fun env vh kx ki => s env vh kx fun d vh' => oIter d vh' ki
section
variable {K : PySem.W.Frag} {m : Map} {H : Hp} {vh : VH}
theorem src_tup {still : VH → Prop} {a : Addr} {ds : List D} (h : ∀ m' vh' H', Step m H m' H' → Hr K m' H' vh' → still vh' → ∃ xs, SqT K H' a xs ∧ Reps K m' H' ds xs) : SrcRep K m H ⟨ds, still⟩ (Itt K a) := by
  intro m' vh' H' s hr' st
  obtain ⟨xs, hq, r⟩ := h m' vh' H' s hr' st
  refine ⟨fun i d e => ?_, fun i hi => ⟨xs, hq, by rw [← r.len]; exact hi⟩⟩
  obtain ⟨v, e2, rv⟩ := r.get e
  exact ⟨⟨xs, v, hq, e2⟩, fun x H2 ⟨e1, y⟩ => by
    subst e1
    have := y xs hq
    rw [e2] at this; cases this
    exact ⟨Same.refl _, rv⟩⟩
theorem src_lst {still : VH → Prop} {a : Addr} {ds : List D} (h : ∀ m' vh' H', Step m H m' H' → Hr K m' H' vh' → still vh' → ∃ xs, SqL K H' a xs ∧ Reps K m' H' ds xs) : SrcRep K m H ⟨ds, still⟩ (Itl K a) := by
  intro m' vh' H' s hr' st
  obtain ⟨xs, hq, r⟩ := h m' vh' H' s hr' st
  refine ⟨fun i d e => ?_, fun i hi => ⟨xs, hq, by rw [← r.len]; exact hi⟩⟩
  obtain ⟨v, e2, rv⟩ := r.get e
  exact ⟨⟨xs, v, hq, e2⟩, fun x H2 ⟨e1, y⟩ => by
    subst e1
    have := y xs hq
    rw [e2] at this; cases this
    exact ⟨Same.refl _, rv⟩⟩
end
theorem si_seq {e : Expr} {se : SemE} (he : SE X W se e) : SI X W (sIt se) tg e := by
  refine piImp (pi_seq he) fun σ H R ⟨m, env, vh, kx, ki, hr, er, hs, o, ox⟩ => ?_
  refine tE.go hr er ox hs fun m1 vh1 H1 d v s1 hr1 er1 ox1 r1 k1 => ?_
  have o1 : OutI X.K m1 H1 ki R := fun m2 vh2 H2 src J s2 => o m2 vh2 H2 src J (s1.trans s2)
  cases d with
  | tup ds =>
    simp only [Rep] at r1
    obtain ⟨a, xs, rfl, e2, rs⟩ := r1
    exact ⟨a, rfl, .inr (.inl ⟨⟨xs, e2⟩, o1 m1 vh1 H1 _ _ (Step.refl _ _) hr1 (src_tup fun m' vh' H' s _ _ => ⟨xs, SqT.step hr1 s e2, Reps.step hr1 s _ _ rs⟩) k1⟩)⟩
  | lst ds =>
    simp only [Rep] at r1
    obtain ⟨a, xs, rfl, e2, im, rs⟩ := r1
    exact ⟨a, rfl, .inl ⟨⟨xs, .of e2⟩, o1 m1 vh1 H1 _ _ (Step.refl _ _) hr1 (src_lst fun m' vh' H' s _ _ => ⟨xs, .of (Imm.step s e2 im).1, Reps.step hr1 s _ _ rs⟩) k1⟩⟩
  | ref p =>
    have r1' := r1
    simp only [Rep] at r1
    obtain ⟨a, rfl, e2⟩ := r1
    simp only [oIter] at k1
    cases q : vh1[p]? with
    | none => rw [q] at k1; exact k1.elim
    | some c =>
      rw [q] at k1
      cases c with
      | ins _ _ _ => exact k1.elim
      | rng lo hi =>
        have e3 : H1 a = some (.rng lo hi) := hr1.ats p _ a q e2
        exact ⟨a, rfl, .inr (.inr ⟨lo, hi, ⟨e3, k1.1⟩, o1 m1 vh1 H1 _ _ (Step.refl _ _) hr1 (src_rng lo (hi - lo).toNat) k1.2⟩)⟩
      | lst ds =>
        obtain ⟨xs, e3, rs⟩ := hr1.ats p _ a q e2
        refine ⟨a, rfl, .inl ⟨⟨xs, .of e3⟩, o1 m1 vh1 H1 _ _ (Step.refl _ _) hr1 (src_lst fun m' vh' H' s hr' st => ?_) k1⟩⟩
        obtain ⟨xs', e4, rs'⟩ := hr'.ats p _ a st (s.2.1 p a e2)
        exact ⟨xs', .of e4, rs'⟩
  | scr ns =>
    have rr := r1
    simp only [Rep] at r1
    obtain ⟨a, rfl, e2⟩ := r1
    have key : ∀ m' H', Step m1 H1 m' H' → SqL X.K H' a (ns.map V.int) := fun m' H' s => by
      have := Rep.step hr1 s (.scr ns) _ rr
      simp only [Rep] at this
      obtain ⟨b, eb, q⟩ := this
      cases eb
      rcases q with ⟨o, q⟩ | q
      · exact .inl (.inr ⟨o, q⟩)
      · rcases q with q | q
        · rcases q with q | ⟨o, q⟩ <;> cases q
        · exact .inr q
    exact ⟨a, rfl, .inl ⟨⟨_, key m1 H1 (Step.refl _ _)⟩, o1 m1 vh1 H1 _ _ (Step.refl _ _) hr1 (src_lst fun m' vh' H' s _ _ => ⟨_, key m' H' s, Reps.ints.mpr rfl⟩) k1⟩⟩
  | _ => exact k1.elim

/-! ### ranges -/
def oRng1 : List D → VH → (Src → VH → Prop) → Prop := fun ds vh ki => match ds with
  | [.int j] => -(2 ^ 62) ≤ j ∧ j < 2 ^ 62 ∧ ki ⟨rngL 0 j.toNat, always⟩ vh
  | _ => False
def oRng2 : List D → VH → (Src → VH → Prop) → Prop := fun ds vh ki => match ds with
  | [.int i, .int j] => (-(2 ^ 62) ≤ i ∧ i < 2 ^ 62 ∧ -(2 ^ 62) ≤ j ∧ j < 2 ^ 62) ∧ ki ⟨rngL i (j - i).toNat, always⟩ vh
  | _ => False
def sItA (o : List D → VH → (Src → VH → Prop) → Prop) (t : SemA) : SemI := fun env vh kx ki => t env vh kx fun ds vh' => o ds vh' ki
theorem oRng1_inv {ds : List D} {vh : VH} {ki : Src → VH → Prop} (k : oRng1 ds vh ki) : ∃ j : Int, ds = [j].map D.int ∧ -(2 ^ 62) ≤ j ∧ j < 2 ^ 62 ∧ ki ⟨rngL 0 j.toNat, always⟩ vh := by
  cases ds with
  | nil => exact False.elim k
  | cons d r =>
    cases r with
    | nil =>
      cases d with
      | int j => exact ⟨j, rfl, k⟩
      | _ => exact False.elim k
    | cons _ _ => cases d <;> exact False.elim k
theorem oRng2_inv {ds : List D} {vh : VH} {ki : Src → VH → Prop} (k : oRng2 ds vh ki) : ∃ i j : Int, ds = [i, j].map D.int ∧ (-(2 ^ 62) ≤ i ∧ i < 2 ^ 62 ∧ -(2 ^ 62) ≤ j ∧ j < 2 ^ 62) ∧ ki ⟨rngL i (j - i).toNat, always⟩ vh := by
  cases ds with
  | nil => exact False.elim k
  | cons d r =>
    cases r with
    | nil => cases d <;> exact False.elim k
    | cons e r =>
      cases r with
      | nil =>
        cases d with
        | int i =>
          cases e with
          | int j => exact ⟨i, j, rfl, k⟩
          | _ => exact False.elim k
        | _ => cases e <;> exact False.elim k
      | cons _ _ => cases d <;> cases e <;> exact False.elim k
variable {a b : Expr} {sl : SemA} {p pos : Pos}
theorem si_range1 (hg : Gl X "range") (hm : X.mg "range" = none) (ha : SA X W sl [a]) (hs : starEach [a] X.env = [(false, eval a X.env)] := by rfl) : SI X W (sItA oRng1 sl) tg (.Call (.Name "range" p) [a] [] pos) := by
  refine piImp (pi_range1 hg hm ha hs) fun σ H R ⟨m, env, vh, kx, ki, hr, er, hs, o, ox⟩ => ?_
  refine tA.go hr er ox hs fun m1 vh1 H1 ds vs s1 hr1 er1 ox1 r1 k1 => ?_
  obtain ⟨j, rfl, h1, h2, k2⟩ := oRng1_inv k1
  exact ⟨j, Reps.ints.mp r1, h1, h2, o m1 vh1 H1 _ _ s1 hr1 (src_rng 0 j.toNat) k2⟩
theorem si_range2 (hg : Gl X "range") (hm : X.mg "range" = none) (ha : SA X W sl [a, b]) (hs : starEach [a, b] X.env = [(false, eval a X.env), (false, eval b X.env)] := by rfl) (hs2 : starEach [b] X.env = [(false, eval b X.env)] := by rfl) : SI X W (sItA oRng2 sl) tg (.Call (.Name "range" p) [a, b] [] pos) := by
  refine piImp (pi_range2 hg hm ha hs hs2) fun σ H R ⟨m, env, vh, kx, ki, hr, er, hs, o, ox⟩ => ?_
  refine tA.go hr er ox hs fun m1 vh1 H1 ds vs s1 hr1 er1 ox1 r1 k1 => ?_
  obtain ⟨i, j, rfl, h1, k2⟩ := oRng2_inv k1
  exact ⟨i, j, Reps.ints.mp r1, h1, o m1 vh1 H1 _ _ s1 hr1 (src_rng i (j - i).toNat) k2⟩
end
end VI

end
section
/-! VI6: comprehensions. -/
namespace VI
open PySem PySem.Spec L2
open PyProof.Rows hiding St

section
variable {K : PySem.W.Frag} {m m' m2 : Map} {H : Hp} {vh vh' : VH}
mutual
theorem Rep.map (hA : ∀ p a, m.ats p = some a → m2.ats p = some a) (hI : ∀ b, m.Imm b → m2.Imm b) : ∀ (d : D) (v : V), Rep K m H d v → Rep K m2 H d v
  | .non, _, r => r
  | .bl _, _, r => r
  | .int _, _, r => r
  | .str _, _, r => r
  | .tup ds, v, r => by
    simp only [Rep] at r ⊢
    obtain ⟨b, xs, e, q, r⟩ := r
    exact ⟨b, xs, e, q, Reps.map hA hI ds xs r⟩
  | .lst ds, v, r => by
    simp only [Rep] at r ⊢
    obtain ⟨b, xs, e, q, im, r⟩ := r
    exact ⟨b, xs, e, q, hI b im, Reps.map hA hI ds xs r⟩
  | .obj c ns ds, v, r => by
    simp only [Rep] at r ⊢
    obtain ⟨b, dx, fs, e, q, im, en, r⟩ := r
    exact ⟨b, dx, fs, e, q, hI b im, en, Reps.map hA hI ds _ r⟩
  | .ref p, v, r => by
    simp only [Rep] at r ⊢
    obtain ⟨a, e, q⟩ := r
    exact ⟨a, e, hA p a q⟩
  | .scr ns, v, r => by
    simp only [Rep] at r ⊢
    exact r
  | .exn b dd c ns ds, v, r => by
    simp only [Rep] at r ⊢
    obtain ⟨e, fs, q, im, en, r⟩ := r
    exact ⟨e, fs, q, hI dd im, en, Reps.map hA hI ds _ r⟩
theorem Reps.map (hA : ∀ p a, m.ats p = some a → m2.ats p = some a) (hI : ∀ b, m.Imm b → m2.Imm b) : ∀ (ds : List D) (xs : List V), Reps K m H ds xs → Reps K m2 H ds xs
  | [], _, r => r
  | d :: ds, xs, r => by
    simp only [Reps] at r ⊢
    obtain ⟨v, vs, e, r1, r2⟩ := r
    exact ⟨v, vs, e, Rep.map hA hI d v r1, Reps.map hA hI ds vs r2⟩
end
mutual
theorem Rep.lowTo {n : Nat} (hA : ∀ p a, p < n → m.ats p = some a → m2.ats p = some a) (hI : ∀ b, m.Imm b → m2.Imm b) : ∀ (d : D) (v : V), low n d → Rep K m H d v → Rep K m2 H d v
  | .non, _, _, r => r
  | .bl _, _, _, r => r
  | .int _, _, _, r => r
  | .str _, _, _, r => r
  | .tup ds, v, l, r => by
    simp only [Rep, low] at l r ⊢
    obtain ⟨b, xs, e, q, r⟩ := r
    exact ⟨b, xs, e, q, Reps.lowTo hA hI ds xs l r⟩
  | .lst ds, v, l, r => by
    simp only [Rep, low] at l r ⊢
    obtain ⟨b, xs, e, q, im, r⟩ := r
    exact ⟨b, xs, e, q, hI b im, Reps.lowTo hA hI ds xs l r⟩
  | .obj c ns ds, v, l, r => by
    simp only [Rep, low] at l r ⊢
    obtain ⟨b, dx, fs, e, q, im, en, r⟩ := r
    exact ⟨b, dx, fs, e, q, hI b im, en, Reps.lowTo hA hI ds _ l r⟩
  | .ref p, v, l, r => by
    simp only [Rep, low] at l r ⊢
    obtain ⟨a, e, q⟩ := r
    exact ⟨a, e, hA p a l q⟩
  | .scr ns, v, _, r => by
    simp only [Rep] at r ⊢
    exact r
  | .exn b dd c ns ds, v, l, r => by
    simp only [Rep, low] at l r ⊢
    obtain ⟨e, fs, q, im, en, r⟩ := r
    exact ⟨e, fs, q, hI dd im, en, Reps.lowTo hA hI ds _ l r⟩
theorem Reps.lowTo {n : Nat} (hA : ∀ p a, p < n → m.ats p = some a → m2.ats p = some a) (hI : ∀ b, m.Imm b → m2.Imm b) : ∀ (ds : List D) (xs : List V), lows n ds → Reps K m H ds xs → Reps K m2 H ds xs
  | [], _, _, r => r
  | d :: ds, xs, l, r => by
    simp only [Reps, lows] at l r ⊢
    obtain ⟨v, vs, e, r1, r2⟩ := r
    exact ⟨v, vs, e, Rep.lowTo hA hI d v l.1 r1, Reps.lowTo hA hI ds vs l.2 r2⟩
end
/-- a hidden list is a cell from here on -/
theorem Hr.adopt {z : Addr → Prop} {a : Addr} {ds : List D} {vs : List V} (h : Hr K m H vh) (hz : m.hid a) (hzz : ∀ b, z b → m.hid b ∧ b ≠ a) (ha : H a = some (.lst vs)) (r : Reps K m H ds vs) :
    Hr K ((m.bare z).push vh.length a) H (vh ++ [.lst ds]) ∧ (∀ p b, m.ats p = some b → ((m.bare z).push vh.length a).ats p = some b) ∧ (∀ b, m.Imm b → ((m.bare z).push vh.length a).Imm b) := by
  have old : ∀ p, p ≠ vh.length → ((m.bare z).push vh.length a).ats p = m.ats p := fun p hp => if_neg hp
  have new : ((m.bare z).push vh.length a).ats vh.length = some a := if_pos rfl
  have notin := h.hid_ne hz
  have hA : ∀ p b, m.ats p = some b → ((m.bare z).push vh.length a).ats p = some b := fun p b e => by
    have lt := (h.dom p).mp ⟨b, e⟩
    rw [old p (by omega)]; exact e
  have hI : ∀ b, m.Imm b → ((m.bare z).push vh.length a).Imm b := fun b im => by
    refine ⟨fun p => ?_, fun y => im.2 (hzz b y).1⟩
    by_cases hp : p = vh.length
    · subst hp
      rw [new]
      intro e
      have e' := Option.some.inj e
      exact im.2 (by rw [← e']; exact hz)
    · rw [old p hp]; exact im.1 p
  refine ⟨⟨fun p => ?_, fun p q b e1 e2 => ?_, fun p c b e1 e2 => ?_, fun b y => ?_⟩, hA, hI⟩
  · rw [List.length_append, List.length_singleton]
    by_cases hp : p = vh.length
    · subst hp; rw [new]; exact ⟨fun _ => by omega, fun _ => ⟨a, rfl⟩⟩
    · rw [old p hp, h.dom p]; omega
  · by_cases hp : p = vh.length <;> by_cases hq : q = vh.length
    · rw [hp, hq]
    · rw [hp, new] at e1; cases e1; rw [old q hq] at e2; exact absurd e2 (notin q)
    · rw [hq, new] at e2; cases e2; rw [old p hp] at e1; exact absurd e1 (notin p)
    · rw [old p hp] at e1; rw [old q hq] at e2; exact h.inj p q b e1 e2
  · by_cases hp : p = vh.length
    · subst hp
      rw [new] at e2; cases e2
      rw [List.getElem?_append_right (Nat.le_refl _), Nat.sub_self] at e1
      cases e1
      exact ⟨vs, ha, Reps.map hA hI _ _ r⟩
    · have hl : p < vh.length := by
        have := (List.getElem?_eq_some_iff.mp e1).1
        rw [List.length_append, List.length_singleton] at this; omega
      rw [old p hp] at e2
      rw [List.getElem?_append_left hl] at e1
      have r' := h.ats p c b e1 e2
      cases c with
      | lst es => obtain ⟨xs, q, r⟩ := r'; exact ⟨xs, q, Reps.map hA hI _ _ r⟩
      | ins c ns es => obtain ⟨dx, fs, q, en, r⟩ := r'; exact ⟨dx, fs, q, en, Reps.map hA hI _ _ r⟩
      | rng lo hi => exact r'
  · obtain ⟨hb, nb⟩ := hzz b y
    refine ⟨(h.hid b hb).1, fun p => ?_⟩
    by_cases hp : p = vh.length
    · subst hp; rw [new]; intro e; exact nb (Option.some.inj e).symm
    · rw [old p hp]; exact (h.hid b hb).2 p
end
/-- no exception is wished for -/
abbrev W0 : WX := fun _ _ _ _ => False
@[reducible] def noX : KX := fun _ _ => False
theorem outX0 {K : PySem.W.Frag} {m : Map} {H : Hp} {W : WX} {σ : L2.St} : OutX K m H W σ noX := fun _ _ _ _ _ _ _ _ _ z => z.elim
@[reducible] def wipeE (env : Env) : List Nat → Env
  | [] => env
  | v :: vs => (wipeE env vs).set v none
theorem Er.unset {K : PySem.W.Frag} {m : Map} {H : Hp} {env : Env} {σ : L2.St} {i : Nat} (e : Er K m H env σ) : Er K m H (env.set i none) (σ.set i none) := by
  refine ⟨by rw [List.length_set, List.length_set]; exact e.1, fun j d' q => ?_⟩
  by_cases hj : i = j
  · subst hj
    have lt : i < env.length := by
      have := (List.getElem?_eq_some_iff.mp q).1
      rw [List.length_set] at this; exact this
    rw [List.getElem?_set_self lt] at q
    cases q
  · rw [List.getElem?_set_ne hj] at q
    obtain ⟨w, h1, h2⟩ := e.2 j d' q
    exact ⟨w, by rw [List.getElem?_set_ne hj]; exact h1, h2⟩
theorem Er.wipe {K : PySem.W.Frag} {m : Map} {H : Hp} {env : Env} {σ : L2.St} (e : Er K m H env σ) : ∀ vs : List Nat, Er K m H (wipeE env vs) (L2.wipe σ vs)
  | [] => e
  | v :: vs => (Er.wipe e vs).unset
/-- the elements -/
def lcL (g : SemG) (c : SemT) (elt : SemE) (still : VH → Prop) (env0 : Env) : List D → VH → KL → Prop
  | [], vh, kl => still vh ∧ kl [] vh
  | d :: ds, vh, kl => still vh ∧ g d env0 vh fun env' vh' => c env' vh' noX fun b vh2 => match b with
    | true => elt env' vh2 noX fun y vh3 => lcL g c elt still env0 ds vh3 fun ys vh4 => kl (y :: ys) vh4
    | false => lcL g c elt still env0 ds vh2 kl
def sYes : SemT := fun _ vh _ kb => kb true vh
def sLc (cell : Bool) (ws : List Nat) (si : SemI) (g : SemG) (c : SemT) (elt : SemE) : SemE := fun env vh kx kd => si env vh kx fun src vh' => src.items.length ≤ 16777216 ∧ lcL g c elt src.still (wipeE env ws) src.items vh' fun ys vh'' => newL cell ys vh'' kd
def STs (X : Cx) (sem : SemT) (ifs : List Expr) : Prop := PTs X ifs (tT X.K W0 sem)
theorem wipe_at (ws : List Nat) (σ : L2.St) : ∀ i, i ∈ ws → i < σ.length → (L2.wipe σ ws)[i]? = some none := by
  induction ws with
  | nil => intro i h; cases h
  | cons w ws ih =>
    intro i h hl
    show ((L2.wipe σ ws).set w none)[i]? = some none
    by_cases e : w = i
    · subst e
      rw [List.getElem?_set_self (by rw [wipe_length]; exact hl)]
    · rw [List.getElem?_set_ne e]
      exact ih i ((List.mem_cons.mp h).resolve_left (fun z => e z.symm)) hl
theorem wipe_wipe (ws : List Nat) (σ : L2.St) : L2.wipe (L2.wipe σ ws) ws = L2.wipe σ ws := by
  apply List.ext_getElem?
  intro i
  by_cases h : i ∈ ws
  · by_cases hl : i < σ.length
    · rw [wipe_at ws _ i h (by rw [wipe_length]; exact hl), wipe_at ws _ i h hl]
    · rw [List.getElem?_eq_none (by rw [wipe_length, wipe_length]; omega), List.getElem?_eq_none (by rw [wipe_length]; omega)]
  · rw [wipe_out h]
section
variable {X : Cx} {W : WX}
theorem st_nil : STs X sYes [] := ⟨fun pins s σ H Q I h => by
  obtain ⟨m, env, vh, kx, kb, hr, er, hs, o, ox⟩ := h
  exact pts_nil.run pins s σ H Q I (o m vh H true (Step.refl _ _) hr hs)⟩
theorem st_one {c : Expr} {t : SemT} (h : ST X W0 t c) : STs X t [c] := pts_one h
/-- the new list's end -/
theorem lc_end {K : PySem.W.Frag} {m1 m' : Map} {H1 H' : Hp} {vh1 vh' : VH} {Dd : Addr} {cell : Bool} {ds : List D} {vs : List V} {kd : KD} {Q : VK} (hr1 : Hr K m1 H1 vh1) (hn : H1 Dd = none) (s1 : Step m1 H1 m' H') (hz : m'.hid Dd) (hr : Hr K m' H' vh')
    (hd : H' Dd = some (.lst vs)) (r : Reps K m' H' ds vs) (k : newL cell ds vh' kd) (ho : Out K m1 H1 kd Q) : Q (.ref Dd) H' := by
  have hz1 : ∀ a, m1.hid a → m'.hid a := s1.1
  have notin : ∀ p, m'.ats p ≠ some Dd := hr.hid_ne hz
  have nh : ¬ m1.hid Dd := fun z => by
    obtain ⟨⟨xs, q⟩, _⟩ := hr1.hid Dd z
    rw [hn] at q; cases q
  cases cell with
  | false =>
    refine ho _ vh' H' (.lst ds) _ (bare_step s1) (hr.bare hz1) ?_ k
    simp only [Rep]
    exact ⟨Dd, vs, rfl, hd, ⟨notin, nh⟩, Reps.bare hz1 _ _ r⟩
  | true =>
    obtain ⟨ha, hA, hI⟩ := hr.adopt (z := m1.hid) hz (fun b y => ⟨hz1 b y, fun e => nh (by rw [← e]; exact y)⟩) hd r
    refine ho ((m'.bare m1.hid).push vh'.length Dd) _ H' (.ref vh'.length) _ ⟨fun _ y => y, fun p b e => hA p b (s1.2.1 p b e), fun b u e n => ?_⟩ ha ?_ k
    · obtain ⟨h1, h2, h3⟩ := s1.2.2 b u e n
      refine ⟨h1, fun p => ?_, fun y => y⟩
      show (if p = vh'.length then some Dd else m'.ats p) ≠ some b
      by_cases hp : p = vh'.length
      · rw [if_pos hp]
        intro z
        have z' := Option.some.inj z
        rw [← z', hn] at e; cases e
      · rw [if_neg hp]; exact h2 p
    · simp only [Rep]
      exact ⟨Dd, rfl, if_pos rfl⟩
/-- the invariant of the new list's making -/
theorem lc_of {K : PySem.W.Frag} {m : Map} {H : Hp} {vh : VH} {env : Env} {σ : L2.St} {W : WX} {kx : KX} {kd : KD} {Q : VK} {ws : List Nat} {si : SemI} {g : SemG} {c : SemT} {elt : SemE} {cell : Bool}
    (hr : Hr K m H vh) (er : Er K m H env σ) (hs : sLc cell ws si g c elt env vh kx kd) (ho : Out K m H kd Q) (ox : OutX K m H W σ kx) :
    tLc (tI K W si) (tG K ws g) (tT K W0 c) (tE K W0 elt) ws σ H Q := by
  refine ⟨m, env, vh, kx, _, hr, er, hs, fun m1 vh1 H1 src J s1 hr1 sr k1 => ?_, ox⟩
  obtain ⟨hlen, k1⟩ := k1
  intro Dd hn
  have er1 := (er.step hr s1).wipe ws
  have ho1 := ho.step s1
  have hs2 := hide_step (o := .lst []) hr1 hn
  have hr2 := hr1.hideNew (ys := []) hn
  refine ⟨fun i n H' => n = src.items.length - i ∧ ∃ m' vh' av ad kl, Step m1 H1 m' H' ∧ m'.hid Dd ∧ Hr K m' H' vh' ∧ H' Dd = some (.lst av) ∧ Reps K m' H' ad av ∧ ad.length ≤ i ∧
    lcL g c elt src.still (wipeE env ws) (src.items.drop i) vh' kl ∧ ∀ ys vh2, kl ys vh2 → newL cell (ad ++ ys) vh2 kd,
    ⟨src.items.length, by simp, m1.hide Dd, vh1, [], [], _, hs2, .inr rfl, hr2, upd_same, Reps.nil, Nat.zero_le _, by simpa using k1, fun ys vh2 k => k⟩, ?_⟩
  rintro i n H' ⟨rfl, m', vh', av, ad, kl, s', hz, hr', hd, ra, hal, kk, hfin⟩
  have fin : ∀ {m'' : Map} {H'' : Hp}, True := trivial
  -- the source, seen from here
  have sb := bare_step s'
  have hrb := hr'.bare s'.1
  cases e : src.items[i]? with
  | none =>
    have hl : src.items.length ≤ i := List.getElem?_eq_none_iff.mp e
    rw [List.drop_eq_nil_of_le hl] at kk
    obtain ⟨q1, q2⟩ := kk
    refine .inl ⟨(sr _ vh' H' s' hr' q1).2 i hl, ?_⟩
    have q3 := hfin _ _ q2
    rw [List.append_nil] at q3
    exact lc_end hr1 hn s' hz hr' hd ra q3 ho1
  | some d =>
    obtain ⟨hl, hdd⟩ := List.getElem?_eq_some_iff.mp e
    rw [List.drop_eq_getElem_cons hl, hdd] at kk
    obtain ⟨q1, q2⟩ := kk
    obtain ⟨g1, g2⟩ := (sr _ vh' H' s' hr' q1).1 i d e
    refine .inr ⟨g1, fun H3 => ∃ m3 vh3 av3 ad3 kl3, Step m1 H1 m3 H3 ∧ m3.hid Dd ∧ Hr K m3 H3 vh3 ∧ H3 Dd = some (.lst av3) ∧ Reps K m3 H3 ad3 av3 ∧ ad3.length ≤ i + 1 ∧
      lcL g c elt src.still (wipeE env ws) (src.items.drop (i + 1)) vh3 kl3 ∧ ∀ ys vh2, kl3 ys vh2 → newL cell (ad3 ++ ys) vh2 kd, fun H3 q => ⟨src.items.length - (i + 1), by omega, rfl, q⟩, fun x H3 y => ?_⟩
    obtain ⟨sm, rx⟩ := g2 x H3 y
    have st3 := Step.same (m := m') sm
    have hr3 := hr'.same sm
    have er3 : Er K m' H3 (wipeE env ws) (L2.wipe σ ws) := (er1.step hr1 s').step hr' st3
    have sz : (sizeLine : Nat) = 16777216 := sizeLine_eq
    refine ⟨m', d, wipeE env ws, vh', _, hr3, er3, rx, q2, fun m4 vh4 H4 env4 σ4 s4 hr4 er4 hw k4 => ⟨?_, ?_⟩⟩
    · rw [hw]
      have idem : ∀ (vs : List Nat) (τ : L2.St), (∀ j ∈ vs, ∀ τ' : L2.St, τ' = τ → True) → True := fun _ _ _ => trivial
      exact wipe_wipe ws σ
    · refine tT.go hr4 er4 outX0 k4 fun m5 vh5 H5 b s5 hr5 er5 _ k5 => ?_
      have z5 : m5.hid Dd := s5.1 _ (s4.1 _ hz)
      have keep : ∀ {m6 : Map} {H6 : Hp} {u : HO}, Step m' H3 m6 H6 → H3 Dd = some u → H6 Dd = some u := fun {m6 H6 u} s6 e6 => (s6.2.2 Dd u e6 (hr3.hid_ne hz)).1
      have d3 : H3 Dd = some (.lst av) := sm _ _ hd
      cases b with
      | false =>
        refine iteF ⟨m5, vh5, av, ad, kl, (s'.trans st3).trans (s4.trans s5), z5, hr5, keep (s4.trans s5) d3, Reps.step hr4 s5 _ _ (Reps.step hr3 s4 _ _ (Reps.step hr' st3 _ _ ra)), by omega, k5, hfin⟩
      | true =>
        refine iteT (tE.go hr5 er5 outX0 k5 fun m6 vh6 H6 y6 v6 s6 hr6 er6 _ r6 k6 => ?_)
        have z6 : m6.hid Dd := s6.1 _ z5
        have s36 := s4.trans (s5.trans s6)
        have d6 := keep s36 d3
        have ra6 : Reps K m6 H6 ad av := Reps.step hr5 s6 _ _ (Reps.step hr4 s5 _ _ (Reps.step hr3 s4 _ _ (Reps.step hr' st3 _ _ ra)))
        refine ⟨av, d6, by rw [← ra.len, sz]; omega, m6, vh6, av ++ [v6], ad ++ [y6], _, ?_, z6, hr6.hidSet z6 d6, upd_same, Reps.hidSet z6 d6 _ _ (ra6.app (Reps.one r6)), by rw [List.length_append, List.length_singleton]; omega, k6, fun ys vh2 k => ?_⟩
        · have s16 := (s'.trans st3).trans s36
          exact ⟨s16.1, s16.2.1, fun b u e1 n1 => by
            obtain ⟨h1, h2, h3⟩ := s16.2.2 b u e1 n1
            exact ⟨by rw [upd_ne (ne_of_none e1 hn)]; exact h1, h2, h3⟩⟩
        · have := hfin _ _ k
          rw [List.append_assoc]
          exact this
variable {elt tg iter : Expr} {ifs : List Expr} {scope : Scope} {own : List (Str × Nat)} {pos spos : Pos} {si : SemI} {g : SemG} {c : SemT} {se : SemE}
theorem se_lc (cell : Bool) (hc : X.calm = true) (hN : X.N.Nodup) (hi : SI X W si tg iter) (ok : BlkOk X.N X.env.scope scope own)
    (hg : ∀ (s : Shared) (H : Hp) (C : Addr) (cl : List (Str × Addr)) (fp : List Addr), SG (X.blk s H scope (compEnvC scope cl C X.env) fp) (own.map (·.2)) g tg) (ht : ∀ (s : Shared) (H : Hp) (C : Addr) (cl : List (Str × Addr)) (fp : List Addr), STs (X.blk s H scope (compEnvC scope cl C X.env) fp) c ifs)
    (he : ∀ (s : Shared) (H : Hp) (C : Addr) (cl : List (Str × Addr)) (fp : List Addr), SE (X.blk s H scope (compEnvC scope cl C X.env) fp) W0 se elt) (hs : ∀ x, foldedSetIterable iter X.env x = pure x := by intro _; rfl) :
    SE X W (sLc cell (own.map (·.2)) si g c se) (.ListComp elt [⟨tg, iter, ifs, 0⟩] scope pos) :=
  peImp (pe_lc (g := tG X.K (own.map fun q : Str × Nat => q.2) g) (tt := tT X.K W0 c) (te := tE X.K W0 se) hc hN hi ok hg ht he hs) fun σ H Q ⟨m, env, vh, kx, kd, hr, er, h, ho, ox⟩ => lc_of hr er h ho ox
theorem ss_setLc (cell : Bool) {i : Nat} {y : Str} {py : Pos} (hc : X.calm = true) (hN : X.N.Nodup) (hy : X.N[i]? = some y) (hyl : X.env.scope.names.lookup y = some .local)
    (hsw : swapsWith (.ListComp elt [⟨tg, iter, ifs, 0⟩] scope pos) (some (.Name y py)) spos.line X.env = pure true) (hi : SI X W si tg iter) (ok : BlkOk X.N X.env.scope scope own)
    (hg : ∀ (s : Shared) (H : Hp) (C : Addr) (cl : List (Str × Addr)) (fp : List Addr), SG (X.blk s H scope (compEnvC scope cl C X.env) fp) (own.map (·.2)) g tg) (ht : ∀ (s : Shared) (H : Hp) (C : Addr) (cl : List (Str × Addr)) (fp : List Addr), STs (X.blk s H scope (compEnvC scope cl C X.env) fp) c ifs)
    (he : ∀ (s : Shared) (H : Hp) (C : Addr) (cl : List (Str × Addr)) (fp : List Addr), SE (X.blk s H scope (compEnvC scope cl C X.env) fp) W0 se elt) (hs : ∀ x, foldedSetIterable iter X.env x = pure x := by intro _; rfl) :
    SS X W (sSet i (sLc cell (own.map (·.2)) si g c se)) (.Assign [.Name y py] (.ListComp elt [⟨tg, iter, ifs, 0⟩] scope pos) spos) :=
  psImp (ps_setLc (g := tG X.K (own.map fun q : Str × Nat => q.2) g) (tt := tT X.K W0 c) (te := tE X.K W0 se) hc hN hy hyl hsw hi ok hg ht he hs) fun Dn σ H ⟨m, env, vh, k, hr, er, h, o⟩ => by
    show tLc _ _ _ _ _ σ H fun v H' => Dn.nx (List.set σ i (some v)) H'
    exact lc_of hr er h (fun m' vh' H' d v s hr' r kk => o.nx m' vh' H' _ _ s hr' ((er.step hr s).set r) kk) (o.x hr er)
end
end VI

end
section
/-! VI7: defs, their promises, calls. -/
namespace VI
open PySem PySem.Spec L2
open PyProof.Rows hiding St

abbrev Calls := Nat → List D → VH → KX → KD → Prop
inductive Kind | pure | keep | fresh
/-- what is asked where a def is left: vh its heap at the entry -/
@[reducible] def finD (kind : Kind) (vh : VH) (kd : KD) : KD := match kind with
  | .pure => fun d h' => ∃ g d', h' = vh ++ g ∧ Frz h' vh.length d d' ∧ kd d' vh
  | .keep => kd
  | .fresh => fun d h' => ∃ g p ds, h' = vh ++ g ∧ d = .ref p ∧ vh.length ≤ p ∧ h'[p]? = some (.lst ds) ∧ lows vh.length ds ∧ kd (.ref vh.length) (vh ++ [.lst ds])
@[reducible] def finX (kind : Kind) (vh : VH) (kx : KX) : KX := match kind with
  | .keep => kx
  | _ => fun ex h' => ∃ g es, h' = vh ++ g ∧ Frzs h' vh.length ex.ds es ∧ kx ⟨ex.c, ex.ns, es⟩ vh
/-- a def: where it stands (a global's name; a class and its method), its text, its parameters, its slots, what it asks -/
structure Fn where
  id : Nat
  at_ : Str × Option Str
  name : Str
  qual : Str
  st : Stmt
  ps : List Str
  N : List Str
  kind : Kind
  sem : Calls → SemS
def Fn.d (f : Fn) : He.DefD := ⟨f.at_, f.name, f.qual, defArgs f.st, defBody f.st, defScope f.st, [], []⟩
@[reducible] def runFn (f : Fn) (C : Calls) (ds : List D) (vh : VH) (kx : KX) (kd : KD) : Prop :=
  f.sem C (ds.map some ++ List.replicate (f.N.length - ds.length) none) vh ⟨fun _ h' => finD f.kind vh kd .non h', finD f.kind vh kd, fun _ _ => False, fun _ _ => False, fun e _ h' => finX f.kind vh kx e h'⟩
def callN (T : Nat → Option Fn) : Nat → Calls
  | 0 => fun _ _ _ _ _ => False
  | k + 1 => fun f ds vh kx kd => ∃ fn, T f = some fn ∧ ds.length = fn.ps.length ∧ runFn fn (callN T k) ds vh kx kd
/-- the promise -/
def OutXE (K : PySem.W.Frag) (m : Map) (H : Hp) (E : XK) (kx : KX) : Prop := ∀ m' vh' H' ex cls dd, Step m H m' H' → Hr K m' H' vh' → RepX K m' H' ex cls dd → kx ex vh' → E cls dd H'
def spV (K : PySem.W.Frag) (C : Calls) (f n : Nat) : Sp := fun vs H Q E => ∃ m vh ds kx kd, Hr K m H vh ∧ Reps K m H ds vs ∧ ds.length = n ∧ C f ds vh kx kd ∧ Out K m H kd Q ∧ OutXE K m H E kx
structure FnAt (P : Program) (w : World) (K : PySem.W.Frag) (mg : Str → Option Value) (base : Heap) (C : Calls) (lev : Nat) (fn : Fn) : Prop where
  ex : ∃ fd, FunD K fn.name fn.qual (defArgs fn.st) (defBody fn.st) (defScope fn.st) [] [] (He.fAd K fn.at_) fd ∧ Binds K fd fn.ps [] ∧ FnOk P w K mg base (L2N.CX P w) lev (He.fAd K fn.at_) fd fn.ps (spV K C fn.id fn.ps.length)
/-- .. while an exception is handled -/
structure FnAtH (P : Program) (w : World) (K : PySem.W.Frag) (mg : Str → Option Value) (base : Heap) (C : Calls) (lev : Nat) (fn : Fn) : Prop where
  ex : ∃ fd, FunD K fn.name fn.qual (defArgs fn.st) (defBody fn.st) (defScope fn.st) [] [] (He.fAd K fn.at_) fd ∧ Binds K fd fn.ps [] ∧ L2H.FnH P w K mg base (L2N.CX P w) lev (He.fAd K fn.at_) fd fn.ps (spV K C fn.id fn.ps.length)
/-- what stands around; hots: the defs that are called while an exception is handled -/
structure CxF (X : Cx) (T : Nat → Option Fn) (hots : List Nat) (k : Nat) : Prop where
  room : Room (3 * k + 2) X.A
  calm : X.calm = true
  fns : ∀ f fn, T f = some fn → FnAt X.prog X.w X.K X.mg X.base (callN T k) (3 * k) fn
  hfn : ∀ f fn, T f = some fn → f ∈ hots → FnAtH X.prog X.w X.K X.mg X.base (callN T k) (3 * k) fn
  ids : ∀ f fn, T f = some fn → fn.id = f
structure CxH (X : Cx) (T : Nat → Option Fn) (hots : List Nat) (k : Nat) : Prop where
  room : L2H.RoomH (3 * k + 2) X.A
  hot : L2H.HotC X
  hfn : ∀ f fn, T f = some fn → f ∈ hots → FnAtH X.prog X.w X.K X.mg X.base (callN T k) (3 * k) fn
  ids : ∀ f fn, T f = some fn → fn.id = f

/-! ### leaving a def -/
section
variable {K : PySem.W.Frag} {m m' : Map} {H H' : Hp} {vh : VH} {kd : KD} {kx : KX} {Q : VK}
mutual
theorem low_of (h : Hr K m H vh) : ∀ {d : D} {v : V}, Rep K m H d v → low vh.length d
  | .non, _, _ => by simp only [low]
  | .bl _, _, _ => by simp only [low]
  | .int _, _, _ => by simp only [low]
  | .str _, _, _ => by simp only [low]
  | .tup ds, v, r => by
    simp only [Rep, low] at r ⊢
    obtain ⟨b, xs, e, q, r⟩ := r
    exact lows_of h r
  | .lst ds, v, r => by
    simp only [Rep, low] at r ⊢
    obtain ⟨b, xs, e, q, im, r⟩ := r
    exact lows_of h r
  | .obj c ns ds, v, r => by
    simp only [Rep, low] at r ⊢
    obtain ⟨b, dx, fs, e, q, im, en, r⟩ := r
    exact lows_of h r
  | .ref p, v, r => by
    simp only [Rep, low] at r ⊢
    obtain ⟨a, e, q⟩ := r
    exact (h.dom p).mp ⟨a, q⟩
  | .scr ns, v, _ => by simp only [low]
  | .exn a dd c ns ds, v, r => by
    simp only [Rep, low] at r ⊢
    obtain ⟨e, fs, q, im, en, r⟩ := r
    exact lows_of h r
theorem lows_of (h : Hr K m H vh) : ∀ {ds : List D} {xs : List V}, Reps K m H ds xs → lows vh.length ds
  | [], _, _ => by simp only [lows]
  | d :: ds, xs, r => by
    simp only [Reps, lows] at r ⊢
    obtain ⟨v, vs, e, r1, r2⟩ := r
    exact ⟨low_of h r1, lows_of h r2⟩
end
theorem fresh_out {g : VH} {p : Nat} {a : Addr} {ds : List D} (h : Hr K m H vh) (s : Step m H m' H') (h' : Hr K m' H' (vh ++ g)) (hp : vh.length ≤ p) (e : (vh ++ g)[p]? = some (.lst ds)) (f : lows vh.length ds) (ea : m'.ats p = some a) :
    Hr K (m.push vh.length a) H' (vh ++ [.lst ds]) ∧ Step m H (m.push vh.length a) H' := by
  have im := high_imm h s h' hp ea
  obtain ⟨h1, s1⟩ := h.trim s h'
  obtain ⟨xs, eH, rs⟩ := h'.ats p _ a e ea
  have old : ∀ q, q ≠ vh.length → (m.push vh.length a).ats q = m.ats q := fun q hq => if_neg hq
  have new : (m.push vh.length a).ats vh.length = some a := if_pos rfl
  have hA : ∀ q b, m.ats q = some b → (m.push vh.length a).ats q = some b := fun q b e => by
    have lt := (h.dom q).mp ⟨b, e⟩
    rw [old q (by omega)]; exact e
  have hI : ∀ b, m'.Imm b → (m.push vh.length a).Imm b := fun b imb => by
    refine ⟨fun q => ?_, fun z => imb.2 (s.1 b z)⟩
    by_cases hq : q = vh.length
    · subst hq; rw [new]; intro z
      exact imb.1 p (by rw [ea]; exact z)
    · rw [old q hq]; exact fun z => imb.1 q (s.2.1 q b z)
  have hA' : ∀ q b, q < vh.length → m'.ats q = some b → (m.push vh.length a).ats q = some b := fun q b lt e => by
    obtain ⟨b0, q0⟩ := (h.dom q).mpr lt
    have z := s.2.1 q b0 q0
    rw [e] at z
    rw [old q (by omega), q0, Option.some.inj z]
  -- the data of the cells below, under the new map
  have lowR : ∀ (es : List D) (xs0 xs : List V), Reps K m H es xs0 → Reps K m' H' es xs → Reps K (m.push vh.length a) H' es xs := fun es xs0 xs r0 r => by
    refine Reps.lowTo (n := vh.length) hA' hI _ _ ?_ r
    exact lows_of h r0
  refine ⟨⟨fun q => ?_, fun q r b e1 e2 => ?_, fun q c b e1 e2 => ?_, fun b z => ?_⟩, ⟨fun _ z => z, hA, fun b o e n => ?_⟩⟩
  · rw [List.length_append, List.length_singleton]
    by_cases hq : q = vh.length
    · subst hq; rw [new]; exact ⟨fun _ => by omega, fun _ => ⟨a, rfl⟩⟩
    · rw [old q hq, h.dom q]; omega
  · by_cases hq : q = vh.length <;> by_cases hr : r = vh.length
    · rw [hq, hr]
    · rw [hq, new] at e1; cases e1; rw [old r hr] at e2; exact absurd e2 (im.1 r)
    · rw [hr, new] at e2; cases e2; rw [old q hq] at e1; exact absurd e1 (im.1 q)
    · rw [old q hq] at e1; rw [old r hr] at e2; exact h.inj q r b e1 e2
  · by_cases hq : q = vh.length
    · subst hq
      rw [new] at e2; cases e2
      rw [List.getElem?_append_right (Nat.le_refl _), Nat.sub_self] at e1
      cases e1
      exact ⟨xs, eH, Reps.lowTo (n := vh.length) hA' hI _ _ f rs⟩
    · have hl : q < vh.length := by
        have := (List.getElem?_eq_some_iff.mp e1).1
        rw [List.length_append, List.length_singleton] at this; omega
      rw [old q hq] at e2
      rw [List.getElem?_append_left hl] at e1
      have r0 := h.ats q c b e1 e2
      have r' := h'.ats q c b (by rw [List.getElem?_append_left hl]; exact e1) (s.2.1 q b e2)
      cases c with
      | lst es' => obtain ⟨xs0, _, r0⟩ := r0; obtain ⟨ys, q, r⟩ := r'; exact ⟨ys, q, lowR _ _ _ r0 r⟩
      | ins c ns es' => obtain ⟨_, _, _, _, r0⟩ := r0; obtain ⟨dx, fs, q, en, r⟩ := r'; exact ⟨dx, fs, q, en, lowR _ _ _ r0 r⟩
      | rng lo hi => exact r'
  · refine ⟨(h'.hid b (s.1 b z)).1, fun q => ?_⟩
    by_cases hq : q = vh.length
    · subst hq; rw [new]; intro y
      have y' := Option.some.inj y
      exact im.2 (by rw [y']; exact z)
    · rw [old q hq]; exact (h.hid b z).2 q
  · refine ⟨(s.2.2 b o e n).1, fun q => ?_, fun z => z⟩
    by_cases hq : q = vh.length
    · subst hq; rw [new]; intro y
      have y' := Option.some.inj y
      exact (s.2.2 b o e n).2.1 p (by rw [ea, y'])
    · rw [old q hq]; exact n q
/-- what a def asks where it is left is what its caller wants -/
theorem finD_out (kind : Kind) (h : Hr K m H vh) (ho : Out K m H kd Q) : Out K m H (finD kind vh kd) Q := by
  intro m' vh' H' d v s h' r k
  cases kind with
  | keep => exact ho m' vh' H' d v s h' r k
  | pure =>
    obtain ⟨g, d', e, f, k⟩ := k
    subst e
    obtain ⟨h1, s1⟩ := h.trim s h'
    exact ho m vh H' d' v s1 h1 (Frz.rep h s h' f r) k
  | fresh =>
    obtain ⟨g, p, ds, e, ed, hp, ep, f, k⟩ := k
    subst e
    subst ed
    simp only [Rep] at r
    obtain ⟨a, ev, ea⟩ := r
    obtain ⟨h1, s1⟩ := fresh_out h s h' hp ep f ea
    refine ho _ _ H' (.ref vh.length) v s1 h1 ?_ k
    simp only [Rep]
    exact ⟨a, ev, if_pos rfl⟩
theorem finX_out (kind : Kind) (h : Hr K m H vh) {E : XK} (ho : OutXE K m H E kx) : OutXE K m H E (finX kind vh kx) := by
  intro m' vh' H' ex cls dd s h' r k
  have key : (∃ g es, vh' = vh ++ g ∧ Frzs vh' vh.length ex.ds es ∧ kx ⟨ex.c, ex.ns, es⟩ vh) → E cls dd H' := fun ⟨g, es, e, f, k2⟩ => by
    subst e
    obtain ⟨h1, s1⟩ := h.trim s h'
    obtain ⟨e1, a, fs, e2, e3, e4, rs⟩ := r
    exact ho m vh H' ⟨ex.c, ex.ns, es⟩ cls dd s1 h1 ⟨e1, a, fs, e2, e3, e4, Frzs.rep h s h' f rs⟩ k2
  cases kind with
  | keep => exact ho m' vh' H' ex cls dd s h' r k
  | pure => exact key k
  | fresh => exact key k
end
/-! ### a def keeps its promise -/
theorem er_start {K : PySem.W.Frag} {m : Map} {H : Hp} {ds : List D} {vs : List V} (N : List Str) (r : Reps K m H ds vs) : Er K m H (ds.map some ++ List.replicate (N.length - ds.length) none) (L2.start N vs) := by
  have hl := r.len
  refine ⟨by simp [L2.start, hl], fun i d e => ?_⟩
  by_cases hi : i < ds.length
  · rw [List.getElem?_append_left (by simpa using hi), List.getElem?_map] at e
    cases q : ds[i]? with
    | none => rw [q] at e; cases e
    | some d' =>
      rw [q] at e
      cases e
      obtain ⟨v, e2, rv⟩ := r.get q
      refine ⟨v, ?_, rv⟩
      unfold L2.start
      rw [List.getElem?_append_left (by rw [List.length_map, ← hl]; exact hi), List.getElem?_map, e2]
      rfl
  · rw [List.getElem?_append_right (by simpa using hi)] at e
    have := List.getElem?_replicate (a := (none : Option D)) (n := N.length - ds.length) (i := i - (ds.map some).length)
    rw [this] at e
    split at e <;> cases e
def BindOk (fn : Fn) : Prop := ∀ (kV doc pm : Value) (an : Option Addr) (cdv ct : Value) (us : List Value), us.length = fn.ps.length → bindArgs (PySem.W.fnOf fn.name fn.qual (defArgs fn.st) (defBody fn.st) (defScope fn.st) .none kV doc pm an cdv ct) ⟨us, []⟩ = pure (fn.ps.zip us)
/-- the context of a def's body -/
abbrev cxF (P : Program) (w : World) (K : PySem.W.Frag) (mg : Str → Option Value) (base : Heap) (fn : Fn) (cdv : Value) (A : Around) (outer : List PySem.Env) (s : Shared) (H : Hp) (E : XK) : Cx :=
  cxOf (L2N.CX P w) P w K mg base fn.N fn.qual (defScope fn.st) (He.fAd K fn.at_) cdv A outer s H E
abbrev wE (E : XK) : WX := fun c d _ H => E c d H
theorem FnAt.made {P : Program} {w : World} {K : PySem.W.Frag} {mg : Str → Option Value} {base : Heap} {T : Nat → Option Fn} {hots : List Nat} {k : Nat} {fn : Fn} {fd : FuncData} (hT : T fn.id = some fn)
    (F : FunD K fn.name fn.qual (defArgs fn.st) (defBody fn.st) (defScope fn.st) [] [] (He.fAd K fn.at_) fd) (S : FnScope fn.N fn.ps (defScope fn.st)) (bd : BindOk fn)
    (ids : ∀ f gn, T f = some gn → gn.id = f) (lower : ∀ f gn, T f = some gn → FnAt P w K mg base (callN T k) (3 * k) gn) (lowerH : ∀ f gn, T f = some gn → f ∈ hots → FnAtH P w K mg base (callN T k) (3 * k) gn)
    (der : ∀ (cdv : Value) (A : Around) (outer : List PySem.Env) (s : Shared) (H : Hp) (E : XK), CxF (cxF P w K mg base fn cdv A outer s H E) T hots k → SSs (cxF P w K mg base fn cdv A outer s H E) (wE E) (fn.sem (callN T k)) (defBody fn.st)) :
    FnAt P w K mg base (callN T (k + 1)) (3 * (k + 1)) fn := by
  refine ⟨fd, F, F.bindsN bd, ?_⟩
  refine F.ok S (k := 3 * k + 2) (fun vs H Q E h => ?_) fun cdv A outer s H vs Q E hr h => ?_
  · obtain ⟨m, vh, ds, kx, kd, hr, r, hl, _⟩ := h
    rw [← r.len]; exact hl
  · obtain ⟨m, vh, ds, kx, kd, hr', r, hl, hc, ho, ox⟩ := h
    obtain ⟨fn', e, hlen, run⟩ := hc
    rw [hT] at e
    cases e
    refine ⟨_, der cdv A outer s H E ⟨hr, rfl, lower, lowerH, ids⟩, m, _, vh, _, hr', er_start fn.N r, run, ⟨fun _ _ H' _ _ s' h' _ kk => ?_, ?_, ?_, ?_, ?_⟩⟩
    · exact finD_out fn.kind hr' ho _ _ H' .non .non s' h' rfl kk
    · exact finD_out fn.kind hr' ho
    · exact fun _ _ _ _ _ _ _ _ z => z.elim
    · exact fun _ _ _ _ _ _ _ _ z => z.elim
    · exact fun m' vh' H' env σ ex cls dd s' h' _ rx kk => finX_out fn.kind hr' ox m' vh' H' ex cls dd s' h' rx kk
/-- the context of a def's body while an exception is handled -/
abbrev cxH (P : Program) (w : World) (K : PySem.W.Frag) (mg : Str → Option Value) (base : Heap) (fn : Fn) (cdv : Value) (A : Around) (outer : List PySem.Env) (s : Shared) (H : Hp) (E : XK) (p : Addr × Obj) : Cx :=
  L2H.cxH (L2N.CX P w) P w K mg base fn.N fn.qual (defScope fn.st) (He.fAd K fn.at_) cdv A outer s H E p
theorem FnAtH.made {P : Program} {w : World} {K : PySem.W.Frag} {mg : Str → Option Value} {base : Heap} {T : Nat → Option Fn} {hots : List Nat} {k : Nat} {fn : Fn} {fd : FuncData} (hT : T fn.id = some fn)
    (F : FunD K fn.name fn.qual (defArgs fn.st) (defBody fn.st) (defScope fn.st) [] [] (He.fAd K fn.at_) fd) (S : FnScope fn.N fn.ps (defScope fn.st)) (bd : BindOk fn)
    (ids : ∀ f gn, T f = some gn → gn.id = f) (lowerH : ∀ f gn, T f = some gn → f ∈ hots → FnAtH P w K mg base (callN T k) (3 * k) gn)
    (der : ∀ (cdv : Value) (A : Around) (outer : List PySem.Env) (s : Shared) (H : Hp) (E : XK) (p : Addr × Obj), CxH (cxH P w K mg base fn cdv A outer s H E p) T hots k → SSs (cxH P w K mg base fn cdv A outer s H E p) (wE E) (fn.sem (callN T k)) (defBody fn.st)) :
    FnAtH P w K mg base (callN T (k + 1)) (3 * (k + 1)) fn := by
  refine ⟨fd, F, F.bindsN bd, ?_⟩
  obtain ⟨oc, od, dV, kV, doc, pm, an, cdv, ct, osl, rfl, lk, hcd, _, _⟩ := F.ex
  refine L2H.fn_ofH (k := 3 * k + 2) lk hcd S (fun vs H Q E h => ?_) fun A outer s H vs Q E p hot hr h => ?_
  · obtain ⟨m, vh, ds, kx, kd, hr, r, hl, _⟩ := h
    rw [← r.len]; exact hl
  · obtain ⟨m, vh, ds, kx, kd, hr', r, hl, hc, ho, ox⟩ := h
    obtain ⟨fn', e, hlen, run⟩ := hc
    rw [hT] at e
    cases e
    refine ⟨_, der cdv A outer s H E p ⟨hr, ⟨p, hot, List.mem_singleton.mpr rfl⟩, lowerH, ids⟩, m, _, vh, _, hr', er_start fn.N r, run, ⟨fun _ _ H' _ _ s' h' _ kk => ?_, ?_, ?_, ?_, ?_⟩⟩
    · exact finD_out fn.kind hr' ho _ _ H' .non .non s' h' rfl kk
    · exact finD_out fn.kind hr' ho
    · exact fun _ _ _ _ _ _ _ _ z => z.elim
    · exact fun _ _ _ _ _ _ _ _ z => z.elim
    · exact fun m' vh' H' env σ ex cls dd s' h' _ rx kk => finX_out fn.kind hr' ox m' vh' H' ex cls dd s' h' rx kk
theorem FnAtH.zero {P : Program} {w : World} {K : PySem.W.Frag} {mg : Str → Option Value} {base : Heap} {T : Nat → Option Fn} {fn : Fn} {fd : FuncData}
    (F : FunD K fn.name fn.qual (defArgs fn.st) (defBody fn.st) (defScope fn.st) [] [] (He.fAd K fn.at_) fd) (bd : BindOk fn) : FnAtH P w K mg base (callN T 0) 0 fn :=
  ⟨fd, F, F.bindsN bd, ⟨fun vs H Q E h => by obtain ⟨m, vh, ds, kx, kd, hr, r, hl, hc, _⟩ := h; exact hc.elim, fun A outer s H args us vs Q E p _ _ _ _ _ _ h => by obtain ⟨m, vh, ds, kx, kd, hr, r, hl, hc, _⟩ := h; exact hc.elim⟩⟩
theorem FnAt.zero {P : Program} {w : World} {K : PySem.W.Frag} {mg : Str → Option Value} {base : Heap} {T : Nat → Option Fn} {fn : Fn} {fd : FuncData}
    (F : FunD K fn.name fn.qual (defArgs fn.st) (defBody fn.st) (defScope fn.st) [] [] (He.fAd K fn.at_) fd) (bd : BindOk fn) : FnAt P w K mg base (callN T 0) 0 fn :=
  ⟨fd, F, F.bindsN bd, ⟨fun vs H Q E h => by obtain ⟨m, vh, ds, kx, kd, hr, r, hl, hc, _⟩ := h; exact hc.elim, fun A outer s H args us vs Q E _ _ _ _ h => by obtain ⟨m, vh, ds, kx, kd, hr, r, hl, hc, _⟩ := h; exact hc.elim⟩⟩
end VI

end
section
/-! VI8: calls, fields, stores. -/
namespace VI
open PySem PySem.Spec L2
open PyProof.Rows hiding St

def sCall (C : Calls) (f : Nat) (t : SemA) : SemE := fun env vh kx kd => t env vh kx fun ds vh' => C f ds vh' kx kd
section
variable {X : Cx} {W : WX} {T : Nat → Option Fn} {hots : List Nat} {k : Nat} {fn : Fn} {x : Str} {p pos apos : Pos} {e o : Expr} {es : List Expr} {sl : SemA} {so se : SemE} {f : Nat}
theorem CxF.at (c : CxF X T hots k) (hf : T f = some fn) : fn.id = f ∧ FnAt X.prog X.w X.K X.mg X.base (callN T k) (3 * k) fn := ⟨c.ids f fn hf, c.fns f fn hf⟩
/-- the promise at a call -/
theorem spV_at {K : PySem.W.Frag} {m m0 : Map} {H H0 : Hp} {vh : VH} {ds : List D} {vs : List V} {kx : KX} {kd : KD} {Q : VK} {σ : L2.St} {W : WX} (hr : Hr K m H vh) (r : Reps K m H ds vs) (hf : T f = some fn) (hi : fn.id = f)
    (hc : callN T k f ds vh kx kd) (ho : Out K m H kd Q) (ox : OutX K m H W σ kx) : spV K (callN T k) fn.id fn.ps.length vs H Q (WE W σ) := by
  refine ⟨m, vh, ds, kx, kd, hr, r, ?_, by rw [hi]; exact hc, ho, ox⟩
  cases k with
  | zero => exact hc.elim
  | succ k =>
    obtain ⟨fn', e, hl, _⟩ := hc
    rw [hf] at e
    cases e
    exact hl
theorem se_call (c : CxF X T hots k) (tk : L2N.Takes X W) (hf : T f = some fn) (ha0 : fn.at_ = (x, none)) (hg : Gl X x) (hm : X.mg x = some (.ref (He.ga X.K x))) (ha : SA X W sl (e :: es)) (hdb : (x == ("__debug__" : Str)) = false := by decide)
    (he : starEach (e :: es) X.env = (false, eval e X.env) :: starEach es X.env := by rfl) (hpl : (backTo pos (starEach es X.env)).any (·.1) = false := by rfl) : SE X W (sCall (callN T k) f sl) (.Call (.Name x p) (e :: es) [] pos) := by
  obtain ⟨hi, ⟨fd, F, hb, ok⟩⟩ := c.at hf
  have ead : He.fAd X.K fn.at_ = He.ga X.K x := by rw [ha0]; rfl
  rw [ead] at F ok
  refine peImp (pe_callS ok (c.room.mono (by omega)) hg hm F.kp hb (fun σ => L2N.passAt tk σ) ha hdb he hpl) fun σ H Q ⟨m, env, vh, kx, kd, hr, er, h, ho, ox⟩ => ?_
  exact tA.go hr er ox h fun m1 vh1 H1 ds vs s1 hr1 er1 ox1 r1 k1 => spV_at (m0 := m) (H0 := H) hr1 r1 hf hi k1 (ho.step s1) ox1
theorem se_call0 (c : CxF X T hots k) (tk : L2N.Takes X W) (hf : T f = some fn) (ha0 : fn.at_ = (x, none)) (hg : Gl X x) (hm : X.mg x = some (.ref (He.ga X.K x))) (hdb : (x == ("__debug__" : Str)) = false := by decide) : SE X W (sCall (callN T k) f sNil) (.Call (.Name x p) [] [] pos) := by
  obtain ⟨hi, ⟨fd, F, hb, ok⟩⟩ := c.at hf
  have ead : He.fAd X.K fn.at_ = He.ga X.K x := by rw [ha0]; rfl
  rw [ead] at F ok
  refine ⟨fun pins s σ H Q I ⟨m, env, vh, kx, kd, hr, er, h, ho, ox⟩ => ?_⟩
  refine wpAny_Call_Name_kw (ld_glob I hg hm ?_ hdb)
  exact PySem.W.callWith_K0 I.kIn F.kp (run_fnS (us := []) ok (c.room.mono (by omega)) hb (L2N.passAt tk σ) I .nil (spV_at (m0 := m) (H0 := H) hr Reps.nil hf hi h ho ox))
/-- how a call with keywords binds; perm: the parameters' order -/
structure KwOk (fn : Fn) (n : Nat) (ks : List Str) (g : {α : Type} → List α → List α → List α) : Prop where
  to : ∀ (kV doc pm : Value) (an : Option Addr) (cdv ct : Value) (us ws : List Value), us.length = n → ws.length = ks.length → bindArgs (PySem.W.fnOf fn.name fn.qual (defArgs fn.st) (defBody fn.st) (defScope fn.st) .none kV doc pm an cdv ct) ⟨us, ks.zip ws⟩ = pure (fn.ps.zip (g us ws))
  rel : ∀ {vs zs : List V} {us ws : List Value}, Vals vs us → Vals zs ws → Vals (g vs zs) (g us ws)
  reps : ∀ {K : PySem.W.Frag} {m : Map} {H : Hp} {ds es : List D} {vs zs : List V}, Reps K m H ds vs → Reps K m H es zs → Reps K m H (g ds es) (g vs zs)
def sCallK (C : Calls) (f n l : Nat) (g : List D → List D → List D) (t tk : SemA) : SemE := fun env vh kx kd => t env vh kx fun ds vh' => tk env vh' kx fun es vh'' => ds.length = n ∧ es.length = l ∧ C f (g ds es) vh'' kx kd
/-- the keywords' values -/
def SK (X : Cx) (W : WX) (sem : SemA) (kws : List Keyword) : Prop := PK X kws (tA X.K W sem)
theorem sk_nil : SK X W sNil [] := ⟨fun pos pins s σ H Q I ⟨m, env, vh, kx, kd, hr, er, h, ho, ox⟩ => pk_nil.run pos pins s σ H Q I (ho m vh H [] [] (Step.refl _ _) hr Reps.nil h)⟩
theorem sk_cons {nm : Option Str} {kpos : Pos} {kws : List Keyword} (he : SE X W se e) (hs : SK X W sl kws) : SK X W (sCons se sl) (⟨nm, e, kpos⟩ :: kws) :=
  ⟨fun pos pins s σ H Q I ⟨m, env, vh, kx, kd, hr, er, h, ho, ox⟩ => (pk_cons he hs).run pos pins s σ H Q I (by
    refine tE.go hr er ox h fun m1 vh1 H1 d1 v1 s1 hr1 er1 ox1 r1 k1 => ?_
    refine tA.go hr1 er1 ox1 k1 fun m2 vh2 H2 ds vs s2 hr2 er2 ox2 r2 k2 => ?_
    exact ho m2 vh2 H2 (d1 :: ds) (v1 :: vs) (s1.trans s2) hr2 (Reps.cons (Rep.step hr1 s2 _ _ r1) r2) k2)⟩
theorem run_fnkS {CX : CXT} {j : Nat} {fa : Addr} {fd : FuncData} {ps ks : List Str} {sp : Sp} {E : L2.St → XK} {pins : List (Addr × Obj)} {σ : L2.St} {H : Hp} {s : Shared} {Q : VK} {us ws zs : List Value} {vs : List V} (F : FnOk X.prog X.w X.K X.mg X.base CX j fa fd ps sp) (hr : Room j X.A)
    (hb : BindsTo s fd ⟨us, ks.zip ws⟩ (ps.zip zs)) (hx : PassesAt CX X σ (E σ)) (I : Inv X pins σ H s) (r : Vals vs zs) (h : sp vs H Q (E σ)) : wpAny (model X.prog X.w) X.A (call (.ref fa) us (ks.zip ws)) (EP X pins σ Q) X.xe s := by
  refine wpAny_call (codeAny_mono (F.run X.A X.stack s H ⟨us, ks.zip ws⟩ zs vs Q (E σ) hr I.env0 hb r h) fun r s' hq => ?_)
  cases r with
  | error e => exact hx pins H s e s' I hq
  | ok fl =>
    cases fl with
    | ret u => exact I.after hq
    | next => exact False.elim hq
    | brk => exact False.elim hq
    | cont => exact False.elim hq
theorem binds_kw {n : Nat} {ks : List Str} {g : {α : Type} → List α → List α → List α} {K : PySem.W.Frag} {fd : FuncData} {fa : Addr} (F : FunD K fn.name fn.qual (defArgs fn.st) (defBody fn.st) (defScope fn.st) [] [] fa fd) (kw : KwOk fn n ks @g) (s : Shared) {us ws : List Value} (h1 : us.length = n) (h2 : ws.length = ks.length) :
    BindsTo s fd ⟨us, ks.zip ws⟩ (fn.ps.zip (g us ws)) := by
  obtain ⟨oc, od, dV, kV, doc, pm, an, cdv, ct, osl, rfl, lk, hcd, hD, hK⟩ := F.ex
  rcases hD with ⟨_, rfl⟩ | ⟨e, _⟩
  · exact .of_eq (kw.to kV doc pm an cdv ct us ws h1 h2)
  · exact absurd rfl e
/-- f(e, .., k = v, ..) -/
theorem se_callK {kws : List Keyword} {ks : List Str} {n : Nat} {g : {α : Type} → List α → List α → List α} {tk' : SemA} (c : CxF X T hots k) (tk : L2N.Takes X W) (hf : T f = some fn) (ha0 : fn.at_ = (x, none)) (kw : KwOk fn n ks @g) (hg : Gl X x) (hm : X.mg x = some (.ref (He.ga X.K x))) (ha : SA X W sl (e :: es)) (hkw : SK X W tk' kws)
    (hall : (backToKw pos (keywordEach kws X.env)).all (·.1.isSome) = true := by rfl) (hks : (backToKw pos (keywordEach kws X.env)).filterMap (·.1) = ks := by rfl)
    (hdb : (x == ("__debug__" : Str)) = false := by decide) (he : starEach (e :: es) X.env = (false, eval e X.env) :: starEach es X.env := by rfl)
    (hpl : ((backTo pos (starEach (e :: es) X.env)).any (·.1) || (backToKw pos (keywordEach kws X.env)).any (·.1.isNone)) = false := by rfl) :
    SE X W (sCallK (callN T k) f n ks.length g sl tk') (.Call (.Name x p) (e :: es) kws pos) := by
  obtain ⟨hi, ⟨fd, F, hb, ok⟩⟩ := c.at hf
  have ead : He.fAd X.K fn.at_ = He.ga X.K x := by rw [ha0]; rfl
  rw [ead] at F ok
  refine ⟨fun pins s σ H Q I ⟨m, env, vh, kx, kd, hr, er, h, ho, ox⟩ => ?_⟩
  refine wpAny_Call_Name_kw (ld_glob I hg hm ?_ hdb)
  have h0 : tA X.K W sl σ H (fun vs H1 => tA X.K W tk' σ H1 fun zs H2 => vs.length = n ∧ zs.length = ks.length ∧ spV X.K (callN T k) fn.id fn.ps.length (g vs zs) H2 Q (WE W σ)) :=
    tA.go hr er ox h fun m1 vh1 H1 ds vs s1 hr1 er1 ox1 r1 k1 => tA.go hr1 er1 ox1 k1 fun m2 vh2 H2 es zs s2 hr2 er2 ox2 r2 k2 =>
      ⟨by rw [← r1.len]; exact k2.1, by rw [← r2.len]; exact k2.2.1, spV_at (m0 := m) (H0 := H) hr2 (kw.reps (Reps.step hr1 s2 _ _ r1) r2) hf hi k2.2.2 (ho.step (s1.trans s2)) ox2⟩
  refine PySem.W.callWith_KW (h₀ := X.base) I.ok.mod.kin F.kp hall (thn (ha.run pos pins s σ H _ I h0) fun us s1 ⟨vs, H1, I1, r, q⟩ => ?_) hpl he
  refine thn (hkw.run pos pins s1 σ H1 _ I1 q) fun ws s2 ⟨zs, H2, I2, rz, l1, l2, q2⟩ => ⟨I2.kIn, ?_⟩
  rw [hks]
  exact run_fnkS (E := WE W) ok (c.room.mono (by omega)) (binds_kw F @kw s2 (r.length.symm.trans l1) (rz.length.symm.trans l2)) (L2N.passAt tk σ) I2 (kw.rel r rz) q2
/-- f(k = v, ..): no positional argument -/
theorem se_callK0 {kws : List Keyword} {ks : List Str} {g : {α : Type} → List α → List α → List α} {tk' : SemA} (c : CxF X T hots k) (tk : L2N.Takes X W) (hf : T f = some fn) (ha0 : fn.at_ = (x, none)) (kw : KwOk fn 0 ks @g) (hg : Gl X x) (hm : X.mg x = some (.ref (He.ga X.K x))) (hkw : SK X W tk' kws)
    (hall : (backToKw pos (keywordEach kws X.env)).all (·.1.isSome) = true := by rfl) (hks : (backToKw pos (keywordEach kws X.env)).filterMap (·.1) = ks := by rfl)
    (hdb : (x == ("__debug__" : Str)) = false := by decide)
    (hpl : ((backTo pos (starEach [] X.env)).any (·.1) || (backToKw pos (keywordEach kws X.env)).any (·.1.isNone)) = false := by rfl) :
    SE X W (sCallK (callN T k) f 0 ks.length g sNil tk') (.Call (.Name x p) [] kws pos) := by
  obtain ⟨hi, ⟨fd, F, hb, ok⟩⟩ := c.at hf
  have ead : He.fAd X.K fn.at_ = He.ga X.K x := by rw [ha0]; rfl
  rw [ead] at F ok
  refine ⟨fun pins s σ H Q I ⟨m, env, vh, kx, kd, hr, er, h, ho, ox⟩ => ?_⟩
  refine wpAny_Call_Name_kw (ld_glob I hg hm ?_ hdb)
  have h0 : tA X.K W tk' σ H fun zs H2 => zs.length = ks.length ∧ spV X.K (callN T k) fn.id fn.ps.length (g [] zs) H2 Q (WE W σ) :=
    tA.go hr er ox h fun m2 vh2 H2 es zs s2 hr2 er2 ox2 r2 k2 =>
      ⟨by rw [← r2.len]; exact k2.2.1, spV_at (m0 := m) (H0 := H) hr2 (kw.reps Reps.nil r2) hf hi k2.2.2 (ho.step s2) ox2⟩
  refine PySem.W.callWith_KW0 (h₀ := X.base) I.ok.mod.kin F.kp hall (thn (hkw.run pos pins s σ H _ I h0) fun ws s2 ⟨zs, H2, I2, rz, l2, q2⟩ => ⟨I2.kIn, ?_⟩) hpl
  rw [hks]
  exact run_fnkS (E := WE W) ok (c.room.mono (by omega)) (binds_kw F @kw s2 rfl (rz.length.symm.trans l2)) (L2N.passAt tk σ) I2 (kw.rel .nil rz) q2
/-! ### instances -/
@[reducible] def oview (vh : VH) : D → Option (Str × List Str × List D)
  | .obj c ns ds => some (c, ns, ds)
  | .ref p => match vh[p]? with
    | some (.ins c ns ds) => some (c, ns, ds)
    | _ => none
  | _ => none
theorem oview_rep {K : PySem.W.Frag} {m : Map} {H : Hp} {vh : VH} (hr : Hr K m H vh) {d : D} {v : V} {c : Str} {ns : List Str} {ds : List D} (r : Rep K m H d v) (e : oview vh d = some (c, ns, ds)) : ∃ a dx fs, v = .ref a ∧ H a = some (.ins (He.ga K c) dx fs) ∧ fs.map (·.1) = ns ∧ Reps K m H ds (fs.map (·.2)) := by
  cases d with
  | obj c' ns' ds' =>
    simp only [Rep] at r
    cases e
    obtain ⟨a, dx, fs, e1, e2, _, e3, r⟩ := r
    exact ⟨a, dx, fs, e1, e2, e3, r⟩
  | ref p =>
    simp only [Rep] at r
    obtain ⟨a, e1, e2⟩ := r
    simp only [oview] at e
    cases q : vh[p]? with
    | none => rw [q] at e; cases e
    | some c' =>
      rw [q] at e
      cases c' with
      | lst _ => cases e
      | rng _ _ => cases e
      | ins c' ns' ds' =>
        cases e
        obtain ⟨dx, fs, e3, e4, r⟩ := hr.ats p _ a q e2
        exact ⟨a, dx, fs, e1, e3, e4, r⟩
  | _ => cases e
theorem lookup_none {f : Str} : ∀ {fs : List (Str × V)}, f ∉ fs.map (·.1) → fs.lookup f = none
  | [], _ => rfl
  | (g, v) :: r, h => by
    have h1 : f ≠ g := fun z => h (by rw [z]; exact List.mem_cons_self)
    have h2 : f ∉ r.map (·.1) := fun z => h (List.mem_cons_of_mem _ z)
    rw [List.lookup_cons, beq_eq_false_iff_ne.mpr h1]
    exact lookup_none h2
theorem lookup_ix {f : Str} : ∀ {fs : List (Str × V)} {j : Nat} {v : V}, f ∉ (fs.map (·.1)).take j → (fs.map (·.1))[j]? = some f → (fs.map (·.2))[j]? = some v → fs.lookup f = some v
  | [], j, v, _, h, _ => by simp at h
  | (g, x) :: r, 0, v, _, h1, h2 => by
    simp at h1 h2
    subst h1; subst h2
    rw [List.lookup_cons, beq_self_eq_true]
  | (g, x) :: r, j + 1, v, hn, h1, h2 => by
    have n1 : f ≠ g := fun z => hn (by rw [z]; simp)
    have n2 : f ∉ (r.map (·.1)).take j := fun z => hn (by simp [z])
    rw [List.lookup_cons, beq_eq_false_iff_ne.mpr n1]
    exact lookup_ix (j := j) n2 (by simpa using h1) (by simpa using h2)
/-- o.f: the j-th field; L: the names up to it -/
def sFld (c : Str) (L : List Str) (j : Nat) (s : SemE) : SemE := fun env vh kx kd => s env vh kx fun d vh' => match oview vh' d with
  | some (c', ns, ds) => c' = c ∧ ns.take (j + 1) = L ∧ ∃ d', ds[j]? = some d' ∧ kd d' vh'
  | none => False
theorem se_fld {fl c : Str} {L : List Str} {j : Nat} (cl : Cls X.K (He.ga X.K c)) (na : NoAttr X.K (He.ga X.K c) fl) (hL : L[j]? = some fl) (hn : fl ∉ L.take j) (ho : SE X W so o) (hb : attributeBase o fl X.env (eval o X.env) = eval o X.env := by rfl) : SE X W (sFld c L j so) (.Attribute o fl pos) := by
  refine peImp (pe_fld ho hb) fun σ H Q ⟨m, env, vh, kx, kd, hr, er, h, ho, ox⟩ => ?_
  refine tE.go hr er ox h fun m1 vh1 H1 d v s1 hr1 er1 ox1 r1 k1 => ?_
  cases e : oview vh1 d with
  | none => rw [e] at k1; exact k1.elim
  | some q =>
    obtain ⟨c', ns, ds⟩ := q
    rw [e] at k1
    obtain ⟨rfl, eL, d', ed, kk⟩ := k1
    obtain ⟨a, dx, fs, ev, ea, en, rs⟩ := oview_rep hr1 r1 e
    obtain ⟨v', ev', rv⟩ := rs.get ed
    refine ⟨a, _, dx, fs, v', ev, ea, cl, na, lookup_ix (j := j) ?_ ?_ ev', ho m1 vh1 H1 d' v' s1 hr1 rv kk⟩
    · rw [en]
      have : ns.take j = L.take j := by rw [← eL, List.take_take, Nat.min_eq_left (Nat.le_succ j)]
      rw [this]; exact hn
    · rw [en]
      have : (ns.take (j + 1))[j]? = some fl := by rw [eL]; exact hL
      rw [List.getElem?_take_of_lt (Nat.lt_succ_self j)] at this
      exact this
/-- o.m(..) -/
def sMeth (C : Calls) (c mt : Str) (f : Nat) (so : SemE) (t : SemA) : SemE := fun env vh kx kd => so env vh kx fun d vh1 => match oview vh1 d with
  | some (c', ns, _) => c' = c ∧ mt ∉ ns ∧ t env vh1 kx fun ds vh2 => C f (d :: ds) vh2 kx kd
  | none => False
variable {mt c : Str}
theorem tMeth_of {a : Addr} (cx : CxF X T hots k) (hf : T f = some fn) (hi : fn.id = f) {σ : L2.St} {H : Hp} {Q : VK} (h : tE X.K W (sMeth (callN T k) c mt f so sl) σ H Q) :
    tE X.K W so σ H fun x H1 => ∃ a dx fs, x = .ref a ∧ H1 a = some (.ins (He.ga X.K c) dx fs) ∧ fs.lookup mt = none ∧ tA X.K W sl σ H1 fun vs H2 => spV X.K (callN T k) fn.id fn.ps.length (x :: vs) H2 Q (WE W σ) := by
  obtain ⟨m, env, vh, kx, kd, hr, er, h, ho, ox⟩ := h
  refine tE.go hr er ox h fun m1 vh1 H1 d v s1 hr1 er1 ox1 r1 k1 => ?_
  cases e : oview vh1 d with
  | none => rw [e] at k1; exact k1.elim
  | some q =>
    obtain ⟨c', ns, ds⟩ := q
    rw [e] at k1
    obtain ⟨rfl, en0, kk⟩ := k1
    obtain ⟨a, dx, fs, ev, ea, en, rs⟩ := oview_rep hr1 r1 e
    refine ⟨a, dx, fs, ev, ea, lookup_none (by rw [en]; exact en0), ?_⟩
    exact tA.go hr1 er1 ox1 kk fun m2 vh2 H2 es vs s2 hr2 er2 ox2 r2 k2 => spV_at (m0 := m) (H0 := H) hr2 (Reps.cons (Rep.step hr1 s2 _ _ r1) r2) hf hi k2 (ho.step (s1.trans s2)) ox2
theorem se_meth {pl : Sem Bool} (cx : CxF X T hots k) (tk : L2N.Takes X W) (hf : T f = some fn) (ha0 : fn.at_ = (c, some mt)) (cl : Cls X.K (He.ga X.K c)) (hm : Meth X.K (He.ga X.K c) mt (He.ma X.K (He.ga X.K c) mt)) (ho : SE X W so o) (ha : SA X W sl (e :: es))
    (hst : starEach (e :: es) X.env = (false, eval e X.env) :: starEach es X.env := by rfl) (hpl : (backTo pos (starEach es X.env)).any (·.1) = false := by rfl)
    (ht : eval (.Call (.Attribute o mt apos) (e :: es) [] pos) X.env = (do
      let ov ← eval o X.env
      standAt apos.atName
      let (f, first) ← holding [ov] (getMethod ov mt pl)
      callWith pos f first (backTo pos (starEach (e :: es) X.env)) (backToKw pos (keywordEach [] X.env))) := by rfl) :
    SE X W (sMeth (callN T k) c mt f so sl) (.Call (.Attribute o mt apos) (e :: es) [] pos) := by
  obtain ⟨hi, ⟨fd, F, hb, ok⟩⟩ := cx.at hf
  have ead : He.fAd X.K fn.at_ = He.ma X.K (He.ga X.K c) mt := by rw [ha0]; rfl
  rw [ead] at F ok
  refine ⟨fun pins s σ H Q I h => ?_⟩
  have h0 := tMeth_of (a := 0) cx hf hi h
  refine PySem.W.methodCall_KW (pl := pl) (thn (ho.run pins s σ H _ I h0) fun u s1 ⟨x, H1, I1, rx, a, dx, fs, ex, ea, l, q⟩ => ?_) ht
  subst ex
  obtain rfl : u = Value.ref a := rx
  refine getmeth_ok I1 ea cl hm l ?_
  refine PySem.W.callWith_K (first := [.ref a]) (h₀ := X.base) I.ok.mod.kin hm.kp (thn (ha.run pos pins s1 σ H1 _ I1 q) fun us s2 ⟨vs, H2, I2, r, q2⟩ => ⟨I2.kIn, ?_⟩) hst hpl
  exact run_fnS (E := WE W) (us := .ref a :: us) (vs := .ref a :: vs) ok (cx.room.mono (by omega)) hb (L2N.passAt tk σ) I2 (.cons rfl r) q2
theorem se_meth0 {pl : Sem Bool} (cx : CxF X T hots k) (tk : L2N.Takes X W) (hf : T f = some fn) (ha0 : fn.at_ = (c, some mt)) (cl : Cls X.K (He.ga X.K c)) (hm : Meth X.K (He.ga X.K c) mt (He.ma X.K (He.ga X.K c) mt)) (ho : SE X W so o)
    (ht : eval (.Call (.Attribute o mt apos) [] [] pos) X.env = (do
      let ov ← eval o X.env
      standAt apos.atName
      let (f, first) ← holding [ov] (getMethod ov mt pl)
      callWith pos f first (backTo pos (starEach [] X.env)) (backToKw pos (keywordEach [] X.env))) := by rfl) :
    SE X W (sMeth (callN T k) c mt f so sNil) (.Call (.Attribute o mt apos) [] [] pos) := by
  obtain ⟨hi, ⟨fd, F, hb, ok⟩⟩ := cx.at hf
  have ead : He.fAd X.K fn.at_ = He.ma X.K (He.ga X.K c) mt := by rw [ha0]; rfl
  rw [ead] at F ok
  refine ⟨fun pins s σ H Q I h => ?_⟩
  have h0 := tMeth_of (a := 0) cx hf hi h
  refine PySem.W.methodCall_KW (pl := pl) (thn (ho.run pins s σ H _ I h0) fun u s1 ⟨x, H1, I1, rx, a, dx, fs, ex, ea, l, q⟩ => ?_) ht
  subst ex
  obtain rfl : u = Value.ref a := rx
  refine getmeth_ok I1 ea cl hm l ?_
  refine PySem.W.callWith_K0 (first := [.ref a]) I1.kIn hm.kp ?_
  have q3 : spV X.K (callN T k) fn.id fn.ps.length [.ref a] H1 Q (WE W σ) := by
    obtain ⟨m, env, vh, kx, kd, hr, er, h, ho, ox⟩ := q
    exact ho m vh H1 [] [] (Step.refl _ _) hr Reps.nil h
  exact run_fnS (E := WE W) (us := [.ref a]) (vs := [.ref a]) ok (cx.room.mono (by omega)) hb (L2N.passAt tk σ) I1 (.cons rfl .nil) q3
end
end VI

end
section
/-! VI9: new instances, stores, raise, try. -/
namespace VI
open PySem PySem.Spec L2
open PyProof.Rows hiding St

/-! ### C(..) -/
/-- behind __init__: the instance is frozen, or stays a cell -/
@[reducible] def newEnd (frz : Bool) (vh1 : VH) (kd : KD) : KD := match frz with
  | true => fun d vh2 => d = .non ∧ ∃ g d', vh2 = vh1 ++ g ∧ Frz vh2 vh1.length (.ref vh1.length) d' ∧ kd d' vh1
  | false => fun d vh2 => d = .non ∧ kd (.ref vh1.length) vh2
@[reducible] def newEx (vh1 : VH) (kx : KX) : KX := fun ex h' => ∃ g es, h' = vh1 ++ g ∧ Frzs h' vh1.length ex.ds es ∧ kx ⟨ex.c, ex.ns, es⟩ vh1
def sNew (C : Calls) (frz : Bool) (c : Str) (f : Nat) (t : SemA) : SemE := fun env vh kx kd => t env vh kx fun ds vh1 => C f (.ref vh1.length :: ds) (vh1 ++ [.ins c [] []]) (newEx vh1 kx) (newEnd frz vh1 kd)
section
variable {X : Cx} {W : WX} {T : Nat → Option Fn} {hots : List Nat} {k : Nat} {fn : Fn} {x c : Str} {p pos apos : Pos} {e o : Expr} {es : List Expr} {sl : SemA} {so se : SemE} {f : Nat}
theorem run_makeS {CX : CXT} {j : Nat} {fa C : Addr} {fd : FuncData} {ps : List Str} {sp : Sp} {E : L2.St → XK} {pins : List (Addr × Obj)} {σ : L2.St} {H : Hp} {s : Shared} {Q : VK} {us : List Value} {vs : List V} (M : Mk X.K C fa) (F : FnOk X.prog X.w X.K X.mg X.base CX j fa fd ps sp) (hr : Room (j + 1) X.A) (hb : Binds X.K fd ps [])
    (hx : PassesAt CX X σ (E σ)) (I : Inv X pins σ H s) (r : Vals vs us)
    (h : ∀ x dx, H x = none → H dx = none → dx ≠ x → sp (.ref x :: vs) (upd (upd H dx (.own x)) x (.ins C dx [])) (fun v H2 => v = .non ∧ Q (.ref x) H2) (E σ)) :
    wpAny (model X.prog X.w) X.A (call (.ref C) us) (EP X pins σ Q) X.xe s := by
  have hq := h (s.heap.objs.size + 1) s.heap.objs.size (I.hok.fresh (Nat.le_succ _)) (I.hok.fresh (Nat.le_refl _)) (Nat.ne_of_lt (Nat.lt_succ_self _))
  have I2 := Inv.made (C := C) I
  have r2 : Vals (V.ref (s.heap.objs.size + 1) :: vs) (Value.ref (s.heap.objs.size + 1) :: us) := .cons rfl r
  have hl : (Value.ref (s.heap.objs.size + 1) :: us).length = ps.length := by
    have e := r2.length
    rw [F.len _ _ _ _ hq] at e
    exact e.symm
  have b := hb _ (Value.ref (s.heap.objs.size + 1) :: us) I2.kIn (by rw [List.append_nil]; exact hl)
  rw [List.append_nil] at b
  refine wpAny_call (make_map (f := fa) I.kIn M.makes M.init (beq_iff_eq.mp M.fn) (codeAny_mono (F.run _ X.stack _ _ ⟨Value.ref (s.heap.objs.size + 1) :: us, []⟩ (Value.ref (s.heap.objs.size + 1) :: us) _ _ (E σ) (hr.make C us [])
    (I2.env0.make C us []) b r2 hq) fun r s' hq' => ?_))
  cases r with
  | error e => exact hx pins _ _ e s' I2 hq'
  | ok fl =>
    cases fl with
    | ret u =>
      obtain ⟨v, H', I3, rv, ev, q3⟩ := I2.after hq'
      subst ev
      exact ⟨rv, ⟨V.ref (s.heap.objs.size + 1), H', I3, rfl, q3⟩⟩
    | next => exact False.elim hq'
    | brk => exact False.elim hq'
    | cont => exact False.elim hq'
theorem new_of {frz : Bool} (cx : CxF X T hots k) (hf : T f = some fn) (hi : fn.id = f) {m : Map} {H : Hp} {vh : VH} {ds : List D} {vs : List V} {kx : KX} {kd : KD} {Q : VK} {σ : L2.St} (hr : Hr X.K m H vh) (r : Reps X.K m H ds vs)
    (hc : callN T k f (.ref vh.length :: ds) (vh ++ [.ins c [] []]) (newEx vh kx) (newEnd frz vh kd)) (ho : Out X.K m H kd Q) (ox : OutX X.K m H W σ kx) (x dx : Addr) (hx : H x = none) (hdx : H dx = none) (hne : dx ≠ x) :
    spV X.K (callN T k) fn.id fn.ps.length (.ref x :: vs) (upd (upd H dx (.own x)) x (.ins (He.ga X.K c) dx [])) (fun v H2 => v = .non ∧ Q (.ref x) H2) (WE W σ) := by
  have s1 := Step.same (m := m) (same_new (o := .own x) hdx)
  have hr1 := hr.same (same_new (o := .own x) hdx)
  have hx1 : upd H dx (.own x) x = none := by rw [upd_ne (Ne.symm hne)]; exact hx
  have s2 := push_step (o := .ins (He.ga X.K c) dx []) hr1 hx1
  have hr2 := hr1.push (c := .ins c [] []) (o := .ins (He.ga X.K c) dx []) hx1 ⟨dx, [], upd_same, rfl, Reps.nil⟩
  have st := s1.trans s2
  have rs : Reps X.K (m.push vh.length x) (upd (upd H dx (.own x)) x (.ins (He.ga X.K c) dx [])) (.ref vh.length :: ds) (.ref x :: vs) :=
    Reps.cons (by simp only [Rep]; exact ⟨x, rfl, if_pos rfl⟩) (Reps.step hr st _ _ r)
  refine spV_at (m0 := m) (H0 := H) hr2 rs hf hi hc (fun m' vh' H' d v s' h' rv kk => ?_) (fun m' vh' H' ex cls dd s' h' rx kk => ?_)
  · have st' := st.trans s'
    cases frz with
    | false =>
      obtain ⟨rfl, kk⟩ := kk
      have e : v = .non := rv
      refine ⟨e, ho m' vh' H' (.ref vh.length) (.ref x) st' h' ?_ kk⟩
      simp only [Rep]
      exact ⟨x, rfl, s'.2.1 _ _ (if_pos rfl)⟩
    | true =>
      obtain ⟨rfl, g, d', e, fz, kk⟩ := kk
      have ev : v = .non := rv
      subst e
      obtain ⟨h1, s3⟩ := hr.trim st' h'
      refine ⟨ev, ho m vh H' d' (.ref x) s3 h1 (Frz.rep hr st' h' fz ?_) kk⟩
      simp only [Rep]
      exact ⟨x, rfl, s'.2.1 _ _ (if_pos rfl)⟩
  · obtain ⟨g, es, e, fz, kk⟩ := kk
    subst e
    have st' := st.trans s'
    obtain ⟨h1, s3⟩ := hr.trim st' h'
    obtain ⟨e1, a, fs, e2, e3, e4, rs⟩ := rx
    exact ox m vh H' ⟨ex.c, ex.ns, es⟩ cls dd s3 h1 ⟨e1, a, fs, e2, e3, e4, Frzs.rep hr st' h' fz rs⟩ kk
theorem se_new (frz : Bool) (cx : CxF X T hots k) (tk : L2N.Takes X W) (hf : T f = some fn) (ha0 : fn.at_ = (c, some ("__init__" : Str))) (M : Mk X.K (He.ga X.K c) (He.ma X.K (He.ga X.K c) "__init__")) (hg : Gl X c) (hm : X.mg c = some (.ref (He.ga X.K c))) (ha : SA X W sl (e :: es)) (hdb : (c == ("__debug__" : Str)) = false := by decide)
    (he : starEach (e :: es) X.env = (false, eval e X.env) :: starEach es X.env := by rfl) (hpl : (backTo pos (starEach es X.env)).any (·.1) = false := by rfl) : SE X W (sNew (callN T k) frz c f sl) (.Call (.Name c p) (e :: es) [] pos) := by
  obtain ⟨hi, ⟨fd, F, hb, ok⟩⟩ := cx.at hf
  have ead : He.fAd X.K fn.at_ = He.ma X.K (He.ga X.K c) "__init__" := by rw [ha0]; rfl
  rw [ead] at F ok
  refine ⟨fun pins s σ H Q I ⟨m, env, vh, kx, kd, hr, er, h, ho, ox⟩ => ?_⟩
  refine wpAny_Call_Name_kw (ld_glob I hg hm ?_ hdb)
  have h0 : tA X.K W sl σ H (fun vs H1 => ∀ x dx, H1 x = none → H1 dx = none → dx ≠ x → spV X.K (callN T k) fn.id fn.ps.length (.ref x :: vs) (upd (upd H1 dx (.own x)) x (.ins (He.ga X.K c) dx [])) (fun v H2 => v = .non ∧ Q (.ref x) H2) (WE W σ)) :=
    tA.go hr er ox h fun m1 vh1 H1 ds vs s1 hr1 er1 ox1 r1 k1 => new_of cx hf hi hr1 r1 k1 (ho.step s1) ox1
  refine PySem.W.callWith_K (h₀ := X.base) I.ok.mod.kin M.kp (thn (ha.run pos pins s σ H _ I h0) fun us s1 ⟨vs, H1, I1, r, q⟩ => ⟨I1.kIn, ?_⟩) he hpl
  exact run_makeS (E := WE W) M ok (cx.room.mono (by omega)) hb (L2N.passAt tk σ) I1 r q
/-! ### o.f = e -/
theorem putF_new {fl : Str} {v : V} : ∀ {fs : List (Str × V)}, fl ∉ fs.map (·.1) → putF fl v fs = fs ++ [(fl, v)]
  | [], _ => rfl
  | (g, y) :: r, h => by
    have h1 : ¬ g = fl := fun z => h (by rw [z]; exact List.mem_cons_self)
    have h2 : fl ∉ r.map (·.1) := fun z => h (List.mem_cons_of_mem _ z)
    show (if g = fl then (g, v) :: r else (g, y) :: putF fl v r) = _
    rw [if_neg h1, putF_new h2]
    rfl
theorem putF_old {fl : Str} {v : V} : ∀ {fs : List (Str × V)} {j : Nat}, fl ∉ (fs.map (·.1)).take j → (fs.map (·.1))[j]? = some fl → (putF fl v fs).map (·.1) = fs.map (·.1) ∧ (putF fl v fs).map (·.2) = (fs.map (·.2)).set j v
  | [], j, _, h => by simp at h
  | (g, y) :: r, 0, _, h => by
    simp at h
    subst h
    show ((if g = g then (g, v) :: r else (g, y) :: putF g v r).map (·.1) = _) ∧ ((if g = g then (g, v) :: r else (g, y) :: putF g v r).map (·.2) = _)
    rw [if_pos rfl]
    exact ⟨rfl, rfl⟩
  | (g, y) :: r, j + 1, hn, h => by
    have n1 : ¬ g = fl := fun z => hn (by rw [← z]; simp)
    have n2 : fl ∉ (r.map (·.1)).take j := fun z => hn (by simp [z])
    obtain ⟨i1, i2⟩ := putF_old (v := v) (j := j) n2 (by simpa using h)
    show ((if g = fl then (g, v) :: r else (g, y) :: putF fl v r).map (·.1) = _) ∧ ((if g = fl then (g, v) :: r else (g, y) :: putF fl v r).map (·.2) = _)
    rw [if_neg n1]
    exact ⟨by rw [List.map_cons, List.map_cons, i1], by rw [List.map_cons, i2]; rfl⟩
/-- a field that is new: L the names there are; a field that is the j-th: L the names up to it -/
def sPutNew (c : Str) (L : List Str) (fl : Str) (so se : SemE) : SemS := fun env vh k => se env vh (fun e h => k.ex e env h) fun d vh1 => so env vh1 (fun e h => k.ex e env h) fun od vh2 => match od with
  | .ref p => ∃ ds, vh2[p]? = some (.ins c L ds) ∧ k.nx env (vh2.set p (.ins c (L ++ [fl]) (ds ++ [d])))
  | _ => False
def sPutOld (c : Str) (L : List Str) (j : Nat) (so se : SemE) : SemS := fun env vh k => se env vh (fun e h => k.ex e env h) fun d vh1 => so env vh1 (fun e h => k.ex e env h) fun od vh2 => match od with
  | .ref p => ∃ ns ds, vh2[p]? = some (.ins c ns ds) ∧ ns.take (j + 1) = L ∧ ns.length < 1000 ∧ k.nx env (vh2.set p (.ins c ns (ds.set j d)))
  | _ => False
theorem ss_putNew {fl : Str} {L : List Str} {pos' : Pos} (cl : Cls X.K (He.ga X.K c)) (na : NoAttr X.K (He.ga X.K c) fl) (hn : fl ∉ L) (hl : L.length < 1000) (ho : SE X W so o) (he : SE X W se e) (hs : swapsWith e (some (.Attribute o fl pos')) pos.line X.env = pure false := by rfl) : SS X W (sPutNew c L fl so se) (.Assign [.Attribute o fl pos'] e pos) := by
  refine psImp (ps_fld ho he hs) fun Dn σ H ⟨m, env, vh, k, hr, er, h, o⟩ => ?_
  refine tE.goS hr er o h fun m1 vh1 H1 d v s1 hr1 er1 o1 r1 k1 => ?_
  refine tE.goS hr1 er1 o1 k1 fun m2 vh2 H2 od ov s2 hr2 er2 o2 r2 k2 => ?_
  cases od with
  | ref p =>
    simp only [Rep] at r2
    obtain ⟨a, ev, ea⟩ := r2
    obtain ⟨ds, ec, kk⟩ := k2
    obtain ⟨dx, fs, eH, en, rs⟩ := hr2.ats p _ a ec ea
    have hfl : fs.length = L.length := by rw [← en, List.length_map]
    have hnew : fl ∉ fs.map (·.1) := by rw [en]; exact hn
    refine ⟨a, _, dx, fs, ev, eH, cl, na, by rw [hfl]; exact hl, ?_⟩
    rw [putF_new hnew]
    have st := set_step (H := H2) (o := .ins (He.ga X.K c) dx (fs ++ [(fl, v)])) ea
    have rd : Rep X.K m2 H2 d v := Rep.step hr1 s2 _ _ r1
    refine o2.nx m2 _ _ env σ st (hr2.set (c := .ins c (L ++ [fl]) (ds ++ [d])) ea ⟨dx, _, upd_same, ?_, ?_⟩) (er2.step hr2 st) kk
    · rw [List.map_append, en]; rfl
    · rw [List.map_append]
      exact Reps.step hr2 st _ _ (rs.app (Reps.one rd))
  | _ => exact k2.elim
theorem ss_putOld {fl : Str} {L : List Str} {j : Nat} {pos' : Pos} (cl : Cls X.K (He.ga X.K c)) (na : NoAttr X.K (He.ga X.K c) fl) (hL : L[j]? = some fl) (hn : fl ∉ L.take j) (ho : SE X W so o) (he : SE X W se e) (hs : swapsWith e (some (.Attribute o fl pos')) pos.line X.env = pure false := by rfl) : SS X W (sPutOld c L j so se) (.Assign [.Attribute o fl pos'] e pos) := by
  refine psImp (ps_fld ho he hs) fun Dn σ H ⟨m, env, vh, k, hr, er, h, o⟩ => ?_
  refine tE.goS hr er o h fun m1 vh1 H1 d v s1 hr1 er1 o1 r1 k1 => ?_
  refine tE.goS hr1 er1 o1 k1 fun m2 vh2 H2 od ov s2 hr2 er2 o2 r2 k2 => ?_
  cases od with
  | ref p =>
    simp only [Rep] at r2
    obtain ⟨a, ev, ea⟩ := r2
    obtain ⟨ns, ds, ec, eL, hlt, kk⟩ := k2
    obtain ⟨dx, fs, eH, en, rs⟩ := hr2.ats p _ a ec ea
    have hfl : fs.length = ns.length := by rw [← en, List.length_map]
    have h1 : fl ∉ (fs.map (·.1)).take j := by
      rw [en]
      have : ns.take j = L.take j := by rw [← eL, List.take_take, Nat.min_eq_left (Nat.le_succ j)]
      rw [this]; exact hn
    have h2 : (fs.map (·.1))[j]? = some fl := by
      rw [en]
      have : (ns.take (j + 1))[j]? = some fl := by rw [eL]; exact hL
      rw [List.getElem?_take_of_lt (Nat.lt_succ_self j)] at this
      exact this
    obtain ⟨p1, p2⟩ := putF_old (v := v) h1 h2
    refine ⟨a, _, dx, fs, ev, eH, cl, na, by rw [hfl]; exact hlt, ?_⟩
    have st := set_step (H := H2) (o := .ins (He.ga X.K c) dx (putF fl v fs)) ea
    have rd : Rep X.K m2 H2 d v := Rep.step hr1 s2 _ _ r1
    refine o2.nx m2 _ _ env σ st (hr2.set (c := .ins c ns (ds.set j d)) ea ⟨dx, _, upd_same, ?_, ?_⟩) (er2.step hr2 st) kk
    · rw [p1]; exact en
    · rw [p2]; exact Reps.step hr2 st _ _ (rs.set j rd)
  | _ => exact k2.elim
/-! ### xs[i] = e -/
def oPut (d od id : D) (vh : VH) (Qn : VH → Prop) : Prop := match od, id with
  | .ref p, .int i => ∃ ds j, vh[p]? = some (.lst ds) ∧ ixN ds.length i = some j ∧ Qn (vh.set p (.lst (ds.set j d)))
  | _, _ => False
def sPutL (se so si : SemE) : SemS := fun env vh k => se env vh (fun e h => k.ex e env h) fun d vh1 => so env vh1 (fun e h => k.ex e env h) fun od vh2 => si env vh2 (fun e h => k.ex e env h) fun id vh3 => oPut d od id vh3 (k.nx env)
theorem sPutL_inv {vh : VH} {d od id : D} {Qn : VH → Prop} (h : oPut d od id vh Qn) : ∃ p i ds j, od = .ref p ∧ id = .int i ∧ vh[p]? = some (.lst ds) ∧ ixN ds.length i = some j ∧ Qn (vh.set p (.lst (ds.set j d))) := by
  cases od with
  | ref p =>
    cases id with
    | int i => obtain ⟨ds, j, h1, h2, h3⟩ := h; exact ⟨p, i, ds, j, rfl, rfl, h1, h2, h3⟩
    | _ => exact h.elim
  | _ => exact h.elim
variable {i : Expr} {si : SemE}
theorem ss_putL {pos' : Pos} (he : SE X W se e) (ho : SE X W so o) (hi : SE X W si i) (hs : swapsWithSole [.Subscript o i pos'] e pos.line X.env = pure false := by rfl) (hw : swappedStores [.Subscript o i pos'] e X.env = pure none := by rfl)
    (h1 : (assignEach [.Subscript o i pos'] X.env).map (·.2) = [assign (.Subscript o i pos') X.env] := by rfl) (hsub : ∀ v, assign (.Subscript o i pos') X.env v = (do
      let ov ← holding [v] (eval o X.env)
      let iv ← holding [v, ov] (eval i X.env)
      standAt pos'
      holding [v, ov, iv] (setItem ov iv v)
      release [v, ov, iv] []) := by intro _; rfl) : SS X W (sPutL se so si) (.Assign [.Subscript o i pos'] e pos) := by
  refine psImp (ps_asg he (pg_sub ho hi set_list hsub) hs hw h1) fun Dn σ H ⟨m, env, vh, k, hr, er, h, o⟩ => ?_
  refine tE.goS hr er o h fun m1 vh1 H1 d v s1 hr1 er1 o1 r1 k1 => ?_
  refine tE.goS hr1 er1 o1 k1 fun m2 vh2 H2 od ov s2 hr2 er2 o2 r2 k2 => ?_
  refine tE.goS hr2 er2 o2 k2 fun m3 vh3 H3 id iv s3 hr3 er3 o3 r3 k3 => ?_
  obtain ⟨p, i, ds, j, rfl, rfl, ec, ej, kk⟩ := sPutL_inv (Qn := fun h => k.nx env h) k3
  have r2' := Rep.step hr2 s3 _ _ r2
  simp only [Rep] at r2' r3
  obtain ⟨a, ev, ea⟩ := r2'
  obtain ⟨xs, eH, rs⟩ := hr3.ats p _ a ec ea
  refine ⟨a, xs, i, j, ev, r3, eH, by rw [← rs.len]; exact ej, ?_⟩
  have st := set_step (H := H3) (o := .lst (xs.set j v)) ea
  have rd : Rep X.K m3 H3 d v := Rep.step hr2 s3 _ _ (Rep.step hr1 s2 _ _ r1)
  exact o3.nx m3 _ _ env σ st (hr3.set (c := .lst (ds.set j d)) ea ⟨_, upd_same, Reps.step hr3 st _ _ (rs.set j rd)⟩) (er3.step hr3 st) kk
/-! ### a op= e -/
def SnIp (K : PySem.W.Frag) (so : SO2) (t : TIp) : Prop := ∀ m H vh d1 d2 v1 v2 kd Q, Hr K m H vh → Rep K m H d1 v1 → Rep K m H d2 v2 → so d1 d2 vh kd → Out K m H kd Q → t v1 v2 H Q
def sAug (i : Nat) (op : SO2) (se : SemE) : SemS := fun env vh k => match look env i with
  | some d1 => se env vh (fun e h => k.ex e env h) fun d2 vh1 => op d1 d2 vh1 fun d vh2 => k.nx (env.set i (some d)) vh2
  | none => False
theorem ss_aug {j : Nat} {y : Str} {op : Operator} {ti : TIp} {sop : SO2} {pos' : Pos} (hN : X.N.Nodup) (hi : X.N[j]? = some y) (hx : Loc X.env.scope y) (he : SE X W se e) (hop : PIp X op ti) (hs : SnIp X.K sop ti) (hf : X.fn y = true ∨ X.env.scope.names.lookup y = some .local := by first | exact .inl rfl | exact .inr rfl | assumption) :
    SS X W (sAug j sop se) (.AugAssign (.Name y pos') op e pos) := by
  refine psImp (ps_aug hN hi hx he hop hf) fun Dn σ H ⟨m, env, vh, k, hr, er, h, o⟩ => ?_
  revert h
  show (match look env j with
  | some d1 => se env vh (fun e h => k.ex e env h) fun d2 vh1 => sop d1 d2 vh1 fun d vh2 => k.nx (env.set j (some d)) vh2
  | none => False) → _
  cases eq : look env j with
  | none => exact False.elim
  | some d1 =>
    intro h
    obtain ⟨v1, h1, r1⟩ := er.2 j d1 (look_at eq)
    refine ⟨v1, h1, tE.goS hr er o h fun m2 vh2 H2 d2 v2 s2 hr2 er2 o2 r2 k2 => ?_⟩
    refine hs m2 H2 vh2 d1 d2 v1 v2 _ _ hr2 (Rep.step hr s2 _ _ r1) r2 k2 fun m3 vh3 H3 d v s3 hr3 r3 k3 => ?_
    exact o2.nx m3 vh3 H3 _ _ s3 hr3 ((er2.step hr2 s3).set r3) k3
end
end VI

end
section
/-! VI10: operators. -/
namespace VI
open PySem PySem.Spec L2
open PyProof.Rows hiding St

section
variable {K : PySem.W.Frag}
/-! ### ints -/
def oI (C : Int → Int → Prop) (g : Int → Int → D) : SO2 := fun a b vh kd => match a, b with
  | .int i, .int j => C i j ∧ kd (g i j) vh
  | _, _ => False
def oI0 (g : Int → Int → D) : SO2 := fun a b vh kd => match a, b with
  | .int i, .int j => kd (g i j) vh
  | _, _ => False
theorem sn_I {C : Int → Int → Prop} {g : Int → Int → D} {gv : Int → Int → V} (hg : ∀ m H i j, Rep K m H (g i j) (gv i j)) : Sn2 K (oI C g) (rI C gv) := by
  intro m H vh d1 d2 v1 v2 kd Q hr r1 r2 h ho
  cases d1 with
  | int i =>
    cases d2 with
    | int j => exact ⟨i, j, r1, r2, h.1, ho m vh H _ _ (Step.refl _ _) hr (hg m H i j) h.2⟩
    | _ => exact h.elim
  | _ => exact h.elim
theorem sn_I0 {g : Int → Int → D} {gv : Int → Int → V} (hg : ∀ m H i j, Rep K m H (g i j) (gv i j)) : Sn2 K (oI0 g) (rI0 gv) := by
  intro m H vh d1 d2 v1 v2 kd Q hr r1 r2 h ho
  cases d1 with
  | int i =>
    cases d2 with
    | int j => exact ⟨i, j, r1, r2, ho m vh H _ _ (Step.refl _ _) hr (hg m H i j) h⟩
    | _ => exact h.elim
  | _ => exact h.elim
theorem Sn2.orL {so : SO2} {r r' : R2} (h : Sn2 K so r) : Sn2 K so (fun x y H Q => r x y H Q ∨ r' x y H Q) := fun m H vh d1 d2 v1 v2 kd Q hr r1 r2 hs ho => .inl (h m H vh d1 d2 v1 v2 kd Q hr r1 r2 hs ho)
def MulOk (i j : Int) : Prop := CMul i j ∨ CMulW i j
def oSub : SO2 := oI0 fun i j => .int (i - j)
def oFdiv : SO2 := oI CDivW fun i j => .int (i / j)
def oMod : SO2 := oI (fun _ j => 0 < j) fun i j => .int (i % j)
def oPow : SO2 := oI CPow fun i j => .int (i ^ j.toNat)
def oLt : SO2 := oI0 fun i j => .bl (decide (i < j))
def oLe : SO2 := oI0 fun i j => .bl (decide (i ≤ j))
def oGt : SO2 := oI0 fun i j => .bl (decide (j < i))
def oGe : SO2 := oI0 fun i j => .bl (decide (j ≤ i))
/-! ### + -/
def oCat (cell : Bool) : SO2 := fun a b vh kd => match lview vh a, lview vh b with
  | some xs, some ys => xs.length + ys.length ≤ 16777216 ∧ newL cell (xs ++ ys) vh kd
  | _, _ => False
theorem sn_cat (cell : Bool) : Sn2 K (oCat cell) rCat := by
  intro m H vh d1 d2 v1 v2 kd Q hr r1 r2 h ho
  revert h
  show (match lview vh d1, lview vh d2 with | some xs, some ys => xs.length + ys.length ≤ 16777216 ∧ newL cell (xs ++ ys) vh kd | _, _ => False) → _
  cases e1 : lview vh d1 with
  | none => exact False.elim
  | some xs =>
    cases e2 : lview vh d2 with
    | none => exact False.elim
    | some ys =>
      intro h
      obtain ⟨a, us, ev, ea, ru⟩ := lview_rep hr r1 e1
      obtain ⟨b, ws, ev2, eb, rw'⟩ := lview_rep hr r2 e2
      exact ⟨a, b, us, ws, ev, ev2, ea, eb, by rw [← ru.len, ← rw'.len, sizeLine_eq]; exact h.1, fun p hp => out_lst (cell := cell) hr (ru.app rw') h.2 ho hp⟩
def oAdd (cell : Bool) : SO2 := fun a b vh kd => match a, b with
  | .int i, .int j => kd (.int (i + j)) vh
  | .str x, .str y => x.length + y.length ≤ 16777216 ∧ kd (.str (x ++ y)) vh
  | .tup xs, .tup ys => xs.length + ys.length ≤ 16777216 ∧ kd (.tup (xs ++ ys)) vh
  | .lst xs, b => oCat cell (.lst xs) b vh kd
  | .ref p, b => oCat cell (.ref p) b vh kd
  | _, _ => False
def rAdd (K : PySem.W.Frag) : R2 := fun x y H Q => rI0 (fun i j => .int (i + j)) x y H Q ∨ (∃ i j, x = .str i ∧ y = .str j ∧ i.length + j.length ≤ sizeLine ∧ Q (.str (i ++ j)) H) ∨ rCatA K x y H Q ∨ rCat x y H Q
theorem rep_same {m : Map} {H : Hp} {xs ys : List D} {us ws : List V} {a : Addr} (q : SqT K H a ws) (e : xs = []) (r1 : Reps K m H xs us) (r2 : Reps K m H ys ws) : Rep K m H (.tup (xs ++ ys)) (.ref a) := by
  subst e
  simp only [Rep]
  exact ⟨a, ws, rfl, q, r2⟩
theorem sn_add (cell : Bool) : Sn2 K (oAdd cell) (rAdd K) := by
  intro m H vh d1 d2 v1 v2 kd Q hr r1 r2 h ho
  cases d1 with
  | int i =>
    cases d2 with
    | int j => exact .inl ⟨i, j, r1, r2, ho m vh H (.int (i + j)) _ (Step.refl _ _) hr rfl h⟩
    | _ => exact h.elim
  | str x =>
    cases d2 with
    | str y => exact .inr (.inl ⟨x, y, r1, r2, by rw [sizeLine_eq]; exact h.1, ho m vh H (.str (x ++ y)) _ (Step.refl _ _) hr rfl h.2⟩)
    | _ => exact h.elim
  | tup xs =>
    cases d2 with
    | tup ys =>
      simp only [Rep] at r1 r2
      obtain ⟨a, us, e1, q1, r1⟩ := r1
      obtain ⟨b, ws, e2, q2, r2⟩ := r2
      refine .inr (.inr (.inl ⟨a, b, us, ws, e1, e2, q1, q2, by rw [← r1.len, ← r2.len, sizeLine_eq]; exact h.1, fun z => ?_, fun _ z => ?_, fun _ _ p hp => ?_⟩))
      · have z' : xs = [] := List.eq_nil_of_length_eq_zero (by rw [r1.len, z]; rfl)
        exact ho m vh H _ _ (Step.refl _ _) hr (rep_same q2 z' r1 r2) h.2
      · have z' : ys = [] := List.eq_nil_of_length_eq_zero (by rw [r2.len, z]; rfl)
        refine ho m vh H _ _ (Step.refl _ _) hr ?_ h.2
        subst z'
        rw [List.append_nil]
        simp only [Rep]
        exact ⟨a, us, rfl, q1, r1⟩
      · exact out_tup hr (r1.app r2) h.2 ho hp
    | _ => exact h.elim
  | lst xs => exact .inr (.inr (.inr (sn_cat cell m H vh _ d2 v1 v2 kd Q hr r1 r2 h ho)))
  | ref p => exact .inr (.inr (.inr (sn_cat cell m H vh _ d2 v1 v2 kd Q hr r1 r2 h ho)))
  | _ => exact h.elim
/-! ### * -/
def repD (ds : List D) : Nat → List D
  | 0 => []
  | n + 1 => ds ++ repD ds n
theorem Reps.rep {m : Map} {H : Hp} {ds : List D} {xs : List V} (r : Reps K m H ds xs) : ∀ n, Reps K m H (repD ds n) (List.replicate n xs).flatten
  | 0 => by simpa [repD] using Reps.nil
  | n + 1 => by
    rw [List.replicate_succ, List.flatten_cons]
    exact r.app (Reps.rep r n)
def oMul (cell : Bool) : SO2 := fun a b vh kd => match a, b with
  | .int i, .int j => MulOk i j ∧ kd (.int (i * j)) vh
  | a, .int k => match lview vh a with
    | some xs => (-(2 ^ 63) ≤ k ∧ k < 2 ^ 63 ∧ xs.length * k.toNat ≤ 16777216) ∧ newL cell (repD xs k.toNat) vh kd
    | none => False
  | _, _ => False
def rMul : R2 := fun x y H Q => (rI CMul (fun i j => .int (i * j)) x y H Q ∨ rI CMulW (fun i j => .int (i * j)) x y H Q) ∨ rRep x y H Q
theorem sn_mulL (cell : Bool) {m : Map} {H : Hp} {vh : VH} {d : D} {v v2 : V} {k : Int} {kd : KD} {Q : VK} (hr : Hr K m H vh) (r : Rep K m H d v) (e2 : v2 = .int k) (h : match lview vh d with
    | some xs => (-(2 ^ 63) ≤ k ∧ k < 2 ^ 63 ∧ xs.length * k.toNat ≤ 16777216) ∧ newL cell (repD xs k.toNat) vh kd
    | none => False) (ho : Out K m H kd Q) : rRep v v2 H Q := by
  revert h
  cases e1 : lview vh d with
  | none => exact False.elim
  | some xs =>
    intro h
    obtain ⟨a, us, ev, ea, ru⟩ := lview_rep hr r e1
    refine ⟨a, k, us, ev, e2, ea, h.1.1, h.1.2.1, by rw [← ru.len, sizeLine_eq]; exact h.1.2.2, fun p hp => ?_⟩
    exact out_lst (cell := cell) hr (ru.rep k.toNat) h.2 ho hp
theorem sn_mul (cell : Bool) : Sn2 K (oMul cell) rMul := by
  intro m H vh d1 d2 v1 v2 kd Q hr r1 r2 h ho
  cases d2 with
  | int j =>
    cases d1 with
    | int i =>
      have q := ho m vh H (.int (i * j)) _ (Step.refl _ _) hr rfl h.2
      exact .inl (h.1.elim (fun c => .inl ⟨i, j, r1, r2, c, q⟩) fun c => .inr ⟨i, j, r1, r2, c, q⟩)
    | lst xs => exact .inr (sn_mulL cell hr r1 r2 h ho)
    | ref p => exact .inr (sn_mulL cell hr r1 r2 h ho)
    | _ => exact h.elim
  | _ => cases d1 <;> exact h.elim
/-! ### == -/
mutual
def pydW (r : Nat → Option PyData) : D → Option PyData
  | .non => some .none
  | .bl b => some (.bool b)
  | .int i => some (.int i)
  | .str x => some (.str x)
  | .tup ds => (pydsW r ds).map .tuple
  | .lst ds => (pydsW r ds).map .list
  | .obj _ _ _ => none
  | .ref p => r p
  | .scr _ => none
  | .exn _ _ _ _ _ => none
def pydsW (r : Nat → Option PyData) : List D → Option (List PyData)
  | [] => some []
  | d :: ds => match pydW r d, pydsW r ds with
    | some p, some ps => some (p :: ps)
    | _, _ => none
end
def pydR (vh : VH) : Nat → Nat → Option PyData
  | 0, _ => none
  | n + 1, p => match vh[p]? with
    | some (.lst ds) => (pydsW (pydR vh n) ds).map .list
    | _ => none
/-- what == reads of a datum -/
def pyd (vh : VH) (d : D) : Option PyData := pydW (pydR vh 4) d
section
variable {m : Map} {H : Hp} {vh : VH}
mutual
theorem pydW_dp {r : Nat → Option PyData} (hr : ∀ p P v, r p = some P → Rep K m H (.ref p) v → Dp K H v P) : ∀ (d : D) (P : PyData) (v : V), pydW r d = some P → Rep K m H d v → Dp K H v P
  | .non, P, v, e, q => by simp only [pydW] at e; cases e; have q : v = .non := q; subst q; exact .non
  | .bl b, P, v, e, q => by simp only [pydW] at e; cases e; have q : v = .bl b := q; subst q; exact .bl b
  | .int i, P, v, e, q => by simp only [pydW] at e; cases e; have q : v = .int i := q; subst q; exact .int i
  | .str x, P, v, e, q => by simp only [pydW] at e; cases e; have q : v = .str x := q; subst q; exact .str x
  | .tup ds, P, v, e, q => by
    simp only [pydW] at e
    cases e1 : pydsW r ds with
    | none => rw [e1] at e; cases e
    | some ps =>
      rw [e1] at e
      cases e
      simp only [Rep] at q
      obtain ⟨a, xs, rfl, q, rs⟩ := q
      exact .tup q (pydsW_dp hr ds ps xs e1 rs)
  | .lst ds, P, v, e, q => by
    simp only [pydW] at e
    cases e1 : pydsW r ds with
    | none => rw [e1] at e; cases e
    | some ps =>
      rw [e1] at e
      cases e
      simp only [Rep] at q
      obtain ⟨a, xs, rfl, q, _, rs⟩ := q
      exact .lst (.of q) (pydsW_dp hr ds ps xs e1 rs)
  | .obj _ _ _, P, v, e, q => by simp only [pydW] at e; cases e
  | .ref p, P, v, e, q => by simp only [pydW] at e; exact hr p P v e q
  | .scr _, P, v, e, q => by simp only [pydW] at e; cases e
  | .exn _ _ _ _ _, P, v, e, q => by simp only [pydW] at e; cases e
theorem pydsW_dp {r : Nat → Option PyData} (hr : ∀ p P v, r p = some P → Rep K m H (.ref p) v → Dp K H v P) : ∀ (ds : List D) (ps : List PyData) (xs : List V), pydsW r ds = some ps → Reps K m H ds xs → DpAll K H xs ps
  | [], ps, xs, e, q => by
    simp only [pydsW] at e
    cases e
    simp only [Reps] at q
    subst q
    exact .nil
  | d :: ds, ps, xs, e, q => by
    simp only [pydsW] at e
    cases e1 : pydW r d with
    | none => rw [e1] at e; cases e
    | some P =>
      cases e2 : pydsW r ds with
      | none => rw [e1, e2] at e; cases e
      | some Ps =>
        rw [e1, e2] at e
        cases e
        simp only [Reps] at q
        obtain ⟨v, vs, rfl, q1, q2⟩ := q
        exact .cons (pydW_dp hr d P v e1 q1) (pydsW_dp hr ds Ps vs e2 q2)
end
theorem pydR_dp (hr : Hr K m H vh) : ∀ (n p : Nat) (P : PyData) (v : V), pydR vh n p = some P → Rep K m H (.ref p) v → Dp K H v P
  | 0, p, P, v, e, q => by cases e
  | n + 1, p, P, v, e, q => by
    simp only [pydR] at e
    simp only [Rep] at q
    obtain ⟨a, rfl, ea⟩ := q
    cases e1 : vh[p]? with
    | none => rw [e1] at e; cases e
    | some c =>
      rw [e1] at e
      cases c with
      | ins _ _ _ => cases e
      | rng _ _ => cases e
      | lst ds =>
        cases e2 : pydsW (pydR vh n) ds with
        | none => simp only [e2] at e; cases e
        | some ps =>
          simp only [e2] at e
          cases e
          obtain ⟨xs, eH, rs⟩ := hr.ats p _ a e1 ea
          exact .lst (.of eH) (pydsW_dp (pydR_dp hr n) ds ps xs e2 rs)
theorem pyd_dp (hr : Hr K m H vh) {d : D} {P : PyData} {v : V} (e : pyd vh d = some P) (q : Rep K m H d v) : Dp K H v P := pydW_dp (pydR_dp hr 4) d P v e q
end
/-- == of scalars -/
def eqS : D → D → Option Bool
  | .non, .non => some true
  | .non, .int _ => some false
  | .int _, .non => some false
  | .non, .bl _ => some false
  | .bl _, .non => some false
  | .non, .str _ => some false
  | .str _, .non => some false
  | .int i, .int j => some (i == j)
  | .bl i, .bl j => some (i == j)
  | .str i, .str j => some (i == j)
  | .int _, .str _ => some false
  | .str _, .int _ => some false
  | .bl _, .str _ => some false
  | .str _, .bl _ => some false
  | _, _ => none
theorem eqS_rep {m : Map} {H : Hp} {a b : D} {v u : V} {c : Bool} (e : eqS a b = some c) (ra : Rep K m H a v) (rb : Rep K m H b u) : scal v u = true ∧ decide (v = u) = c := by
  cases a with
  | non =>
    have ra : v = .non := ra
    subst ra
    cases b with
    | non => have rb : u = .non := rb; subst rb; cases e; exact ⟨rfl, by simp⟩
    | int j => have rb : u = .int j := rb; subst rb; cases e; exact ⟨rfl, by simp⟩
    | bl j => have rb : u = .bl j := rb; subst rb; cases e; exact ⟨rfl, by simp⟩
    | str j => have rb : u = .str j := rb; subst rb; cases e; exact ⟨rfl, by simp⟩
    | _ => cases e
  | int i =>
    have ra : v = .int i := ra
    subst ra
    cases b with
    | non => have rb : u = .non := rb; subst rb; cases e; exact ⟨rfl, by simp⟩
    | int j => have rb : u = .int j := rb; subst rb; cases e; exact ⟨rfl, dec_int⟩
    | str j => have rb : u = .str j := rb; subst rb; cases e; exact ⟨rfl, by simp⟩
    | _ => cases e
  | bl i =>
    have ra : v = .bl i := ra
    subst ra
    cases b with
    | non => have rb : u = .non := rb; subst rb; cases e; exact ⟨rfl, by simp⟩
    | bl j => have rb : u = .bl j := rb; subst rb; cases e; exact ⟨rfl, dec_bl⟩
    | str j => have rb : u = .str j := rb; subst rb; cases e; exact ⟨rfl, by simp⟩
    | _ => cases e
  | str i =>
    have ra : v = .str i := ra
    subst ra
    cases b with
    | non => have rb : u = .non := rb; subst rb; cases e; exact ⟨rfl, by simp⟩
    | int j => have rb : u = .int j := rb; subst rb; cases e; exact ⟨rfl, by simp⟩
    | bl j => have rb : u = .bl j := rb; subst rb; cases e; exact ⟨rfl, by simp⟩
    | str j => have rb : u = .str j := rb; subst rb; cases e; exact ⟨rfl, dec_str⟩
    | _ => cases e
  | _ => cases b <;> cases e
def oEqN (f : Bool → Bool) : SO2 := fun a b vh kd => match eqS a b with
  | some c => kd (.bl (f c)) vh
  | none => ∃ p q, pyd vh a = some p ∧ pyd vh b = some q ∧ (SeqAt.shaped p = true ∧ SeqAt.shaped q = true) ∧ kd (.bl (f (PyData.eqv p q))) vh
def oEq : SO2 := oEqN id
def oNe : SO2 := oEqN not
theorem sn_eqN {m : Map} {H : Hp} {vh : VH} {d1 d2 : D} {v1 v2 : V} {kd : KD} {Q : VK} {f : Bool → Bool} (hr : Hr K m H vh) (r1 : Rep K m H d1 v1) (r2 : Rep K m H d2 v2) (h : oEqN f d1 d2 vh kd) (ho : Out K m H kd Q) :
    (scal v1 v2 = true ∧ Q (.bl (f (decide (v1 = v2)))) H) ∨ ∃ d e, Dp K H v1 d ∧ Dp K H v2 e ∧ SeqAt.shaped d = true ∧ SeqAt.shaped e = true ∧ Q (.bl (f (PyData.eqv d e))) H := by
  revert h
  show (match eqS d1 d2 with | some c => kd (.bl (f c)) vh | none => ∃ p q, pyd vh d1 = some p ∧ pyd vh d2 = some q ∧ (SeqAt.shaped p = true ∧ SeqAt.shaped q = true) ∧ kd (.bl (f (PyData.eqv p q))) vh) → _
  cases e : eqS d1 d2 with
  | some c =>
    intro h
    obtain ⟨h1, h2⟩ := eqS_rep e r1 r2
    exact .inl ⟨h1, by rw [h2]; exact ho m vh H (.bl (f c)) _ (Step.refl _ _) hr rfl h⟩
  | none =>
    rintro ⟨p, q, e1, e2, sh, h⟩
    exact .inr ⟨p, q, pyd_dp hr e1 r1, pyd_dp hr e2 r2, sh.1, sh.2, ho m vh H (.bl (f (PyData.eqv p q))) _ (Step.refl _ _) hr rfl h⟩
theorem sn_eq : Sn2 K oEq (fun x y H Q => rEq x y H Q ∨ rEqD K x y H Q) := fun m H vh d1 d2 v1 v2 kd Q hr r1 r2 h ho => sn_eqN (f := id) hr r1 r2 h ho
theorem sn_ne : Sn2 K oNe (fun x y H Q => rNe x y H Q ∨ rNeD K x y H Q) := fun m H vh d1 d2 v1 v2 kd Q hr r1 r2 h ho => sn_eqN (f := not) hr r1 r2 h ho
/-! ### is -/
def isNon : D → Bool
  | .non => true
  | _ => false
theorem isNon_rep {m : Map} {H : Hp} {d : D} {v : V} (r : Rep K m H d v) : decide (v = .non) = isNon d := by
  cases d with
  | non => have r : v = .non := r; subst r; simp [isNon]
  | bl b => have r : v = .bl b := r; subst r; simp [isNon]
  | int b => have r : v = .int b := r; subst r; simp [isNon]
  | str b => have r : v = .str b := r; subst r; simp [isNon]
  | tup ds => simp only [Rep] at r; obtain ⟨a, xs, rfl, _⟩ := r; simp [isNon]
  | lst ds => simp only [Rep] at r; obtain ⟨a, xs, rfl, _⟩ := r; simp [isNon]
  | obj c ns ds => simp only [Rep] at r; obtain ⟨a, dx, xs, rfl, _⟩ := r; simp [isNon]
  | ref p => simp only [Rep] at r; obtain ⟨a, rfl, _⟩ := r; simp [isNon]
  | scr ns => simp only [Rep] at r; obtain ⟨a, rfl, _⟩ := r; simp [isNon]
  | exn a dd c ns ds => simp only [Rep] at r; obtain ⟨rfl, _⟩ := r; simp [isNon]
def isBl (b : Bool) : D → Bool
  | .bl c => c == b
  | _ => false
/-- a is b: b None or a truth value -/
def oIsN (f : Bool → Bool) : SO2 := fun a b vh kd => match b with
  | .non => kd (.bl (f (isNon a))) vh
  | .bl c => kd (.bl (f (isBl c a))) vh
  | _ => False
def oIs : SO2 := oIsN id
def oIsNot : SO2 := oIsN not
def blV (c : Bool) : V → Bool
  | .bl b => b == c
  | _ => false
/-- plain values, for is -/
def flatR : V → Bool
  | .non => true
  | .bl _ => true
  | .int _ => true
  | .str _ => true
  | .ref _ => true
  | _ => false
theorem flat_rep {m : Map} {H : Hp} {d : D} {v : V} (r : Rep K m H d v) : flatR v = true := by
  cases d with
  | non => have r : v = .non := r; subst r; rfl
  | bl b => have r : v = .bl b := r; subst r; rfl
  | int b => have r : v = .int b := r; subst r; rfl
  | str b => have r : v = .str b := r; subst r; rfl
  | tup ds => simp only [Rep] at r; obtain ⟨a, xs, rfl, _⟩ := r; rfl
  | lst ds => simp only [Rep] at r; obtain ⟨a, xs, rfl, _⟩ := r; rfl
  | obj c ns ds => simp only [Rep] at r; obtain ⟨a, dx, xs, rfl, _⟩ := r; rfl
  | ref p => simp only [Rep] at r; obtain ⟨a, rfl, _⟩ := r; rfl
  | scr ns => simp only [Rep] at r; obtain ⟨a, rfl, _⟩ := r; rfl
  | exn a dd c ns ds => simp only [Rep] at r; obtain ⟨rfl, _⟩ := r; rfl
theorem blV_rep {m : Map} {H : Hp} {d : D} {v : V} {c : Bool} (r : Rep K m H d v) : blV c v = isBl c d := by
  cases d with
  | non => have r : v = .non := r; subst r; rfl
  | bl b => have r : v = .bl b := r; subst r; rfl
  | int b => have r : v = .int b := r; subst r; rfl
  | str b => have r : v = .str b := r; subst r; rfl
  | tup ds => simp only [Rep] at r; obtain ⟨a, xs, rfl, _⟩ := r; rfl
  | lst ds => simp only [Rep] at r; obtain ⟨a, xs, rfl, _⟩ := r; rfl
  | obj c ns ds => simp only [Rep] at r; obtain ⟨a, dx, xs, rfl, _⟩ := r; rfl
  | ref p => simp only [Rep] at r; obtain ⟨a, rfl, _⟩ := r; rfl
  | scr ns => simp only [Rep] at r; obtain ⟨a, rfl, _⟩ := r; rfl
  | exn a dd c ns ds => simp only [Rep] at r; obtain ⟨rfl, _⟩ := r; rfl
def rIsV (f : Bool → Bool) : R2 := fun x y H Q => ∃ c : Bool, y = .bl c ∧ flatR x = true ∧ Q (.bl (f (blV c x))) H
end
section
variable {X : Cx}
theorem flat_is {x : V} {v : Value} {c : Bool} (rx : RelV x v) (h : flatR x = true) : plainIs v (.bool c) = true ∧ (v == Value.bool c) = blV c x := by
  cases x with
  | non => cases rx; exact ⟨rfl, beq_eq_false_iff_ne.mpr (fun z => by cases z)⟩
  | bl b =>
    cases rx
    refine ⟨rfl, ?_⟩
    show (Value.bool b == Value.bool c) = (b == c)
    cases b <;> cases c <;> rfl
  | int i => obtain ⟨t, rfl⟩ := rx; exact ⟨rfl, beq_eq_false_iff_ne.mpr (fun z => by cases z)⟩
  | str i => obtain ⟨t, rfl⟩ := rx; exact ⟨rfl, beq_eq_false_iff_ne.mpr (fun z => by cases z)⟩
  | ref a => cases rx; exact ⟨rfl, beq_eq_false_iff_ne.mpr (fun z => by cases z)⟩
  | _ => cases h
theorem op_isV : OpR X (compareOp .Is) (rIsV id) := by
  intro pins s σ H x y v u Q I rx ry h
  obtain ⟨c, rfl, hx, q⟩ := h
  cases (show u = Value.bool c from ry)
  obtain ⟨h1, h2⟩ := flat_is (c := c) rx hx
  exact wpAny_is_plain h1 ⟨.bl _, H, I, by rw [h2]; rfl, q⟩
theorem op_notV : OpR X (compareOp .IsNot) (rIsV not) := by
  intro pins s σ H x y v u Q I rx ry h
  obtain ⟨c, rfl, hx, q⟩ := h
  cases (show u = Value.bool c from ry)
  obtain ⟨h1, h2⟩ := flat_is (c := c) rx hx
  exact wpAny_isNot_plain h1 ⟨.bl _, H, I, by rw [h2]; rfl, q⟩
theorem sn_isN {f : Bool → Bool} : Sn2 X.K (oIsN f) (fun x y H Q => (y = .non ∧ Q (.bl (f (decide (x = .non)))) H) ∨ rIsV f x y H Q) := by
  intro m H vh d1 d2 v1 v2 kd Q hr r1 r2 h ho
  cases d2 with
  | non => exact .inl ⟨r2, by rw [isNon_rep r1]; exact ho m vh H (.bl (f (isNon d1))) _ (Step.refl _ _) hr rfl h⟩
  | bl c => exact .inr ⟨c, r2, flat_rep r1, by rw [blV_rep r1]; exact ho m vh H (.bl (f (isBl c d1))) _ (Step.refl _ _) hr rfl h⟩
  | _ => exact h.elim
end
end VI

end
section
/-! VI11: operators, subscripts, slices, built-in functions as pieces of text. -/
namespace VI
open PySem PySem.Spec L2
open PyProof.Rows hiding St

section
variable {X : Cx} {W : WX} {pos p p2 : Pos} {a b c e : Expr} {es : List Expr} {sa sb sc se : SemE} {sl : SemA} {T : Nat → Option Fn} {hots : List Nat} {k : Nat}
theorem CxF.blk (c : CxF X T hots k) (s : Shared) (H : Hp) (scope : Scope) (cenv : PySem.Env) (fp : List Addr) : CxF (X.blk s H scope cenv fp) T hots k := ⟨c.room, c.calm, c.fns, c.hfn, c.ids⟩
theorem takesB {s : Shared} {H : Hp} {scope : Scope} {cenv : PySem.Env} {fp : List Addr} : L2N.Takes (X.blk s H scope cenv fp) W0 := fun u s' ⟨a, B, sI, pins, σ, H, cls, d, e, I, nb, up, sky, na, os, ag, w⟩ => w.elim
theorem CxF.hu (c : CxF X T hots k) : X.A.units + 64 < cLine := by have := c.room.un; omega
theorem CxH.hu (c : CxH X T hots k) : X.A.units + 64 < cLine := by have := c.room.un; omega
theorem rep_int {K : PySem.W.Frag} {m : Map} {H : Hp} {i : Int} : Rep K m H (.int i) (.int i) := rfl
theorem rep_bl {K : PySem.W.Frag} {m : Map} {H : Hp} {i : Bool} : Rep K m H (.bl i) (.bl i) := rfl
/-! ### + - * // % ** -/
theorem op_addX : OpR X (binaryOp .Add) (rAdd X.K) := op_add.or (op_add_str.or (op_catA.or op_cat))
theorem op_mulX' : OpR X (binaryOp .Mult) rMul := (op_mul.or op_mulW).or op_rep
theorem se_add (cell : Bool) (ha : SE X W sa a) (hb : SE X W sb b) : SE X W (sBin (oAdd cell) sa sb) (.BinOp a .Add b pos) := se_bin op_addX (sn_add cell) ha hb
theorem se_sub (ha : SE X W sa a) (hb : SE X W sb b) : SE X W (sBin oSub sa sb) (.BinOp a .Sub b pos) := se_bin op_sub (sn_I0 fun _ _ _ _ => rep_int) ha hb
theorem se_mul (cell : Bool) (ha : SE X W sa a) (hb : SE X W sb b) : SE X W (sBin (oMul cell) sa sb) (.BinOp a .Mult b pos) := se_bin op_mulX' (sn_mul cell) ha hb
theorem se_fdiv (ha : SE X W sa a) (hb : SE X W sb b) : SE X W (sBin oFdiv sa sb) (.BinOp a .FloorDiv b pos) := se_bin op_fdivW (sn_I fun _ _ _ _ => rep_int) ha hb
theorem se_mod (ha : SE X W sa a) (hb : SE X W sb b) : SE X W (sBin oMod sa sb) (.BinOp a .Mod b pos) := se_bin op_mod (sn_I fun _ _ _ _ => rep_int) ha hb
theorem se_pow (ha : SE X W sa a) (hb : SE X W sb b) : SE X W (sBin oPow sa sb) (.BinOp a .Pow b pos) := se_bin op_pow (sn_I fun _ _ _ _ => rep_int) ha hb
def oNeg : SO1 := fun a vh kd => match a with
  | .int i => kd (.int (-i)) vh
  | _ => False
theorem sn_neg : Sn1 X.K oNeg (rU fun i => .int (-i)) := by
  intro m H vh d v kd Q hr r h ho
  cases d with
  | int i => exact ⟨i, r, ho m vh H (.int (-i)) _ (Step.refl _ _) hr rep_int h⟩
  | _ => exact h.elim
theorem se_neg (ha : SE X W sa a) : SE X W (sUn oNeg sa) (.UnaryOp .USub a pos) := se_un un_neg sn_neg ha
/-! ### comparisons -/
theorem op_eqX (hu : X.A.units + 64 < cLine) : OpR X (compareOp .Eq) (fun x y H Q => rEq x y H Q ∨ rEqD X.K x y H Q) := op_eq.or (op_eqD hu)
theorem op_neX (hu : X.A.units + 64 < cLine) : OpR X (compareOp .NotEq) (fun x y H Q => rNe x y H Q ∨ rNeD X.K x y H Q) := op_ne.or (op_neD hu)
def CmpS (X : Cx) (op : CmpOp) (so : SO2) : Prop := ∃ r, OpR X (compareOp op) r ∧ Sn2 X.K so r
theorem cs_lt : CmpS X .Lt oLt := ⟨_, op_lt, sn_I0 fun _ _ _ _ => rep_bl⟩
theorem cs_le : CmpS X .LtE oLe := ⟨_, op_le, sn_I0 fun _ _ _ _ => rep_bl⟩
theorem cs_gt : CmpS X .Gt oGt := ⟨_, op_gt, sn_I0 fun _ _ _ _ => rep_bl⟩
theorem cs_ge : CmpS X .GtE oGe := ⟨_, op_ge, sn_I0 fun _ _ _ _ => rep_bl⟩
theorem cs_eq (hu : X.A.units + 64 < cLine) : CmpS X .Eq oEq := ⟨_, op_eqX hu, sn_eq⟩
theorem cs_ne (hu : X.A.units + 64 < cLine) : CmpS X .NotEq oNe := ⟨_, op_neX hu, sn_ne⟩
theorem cs_is : CmpS X .Is oIs := ⟨_, op_isN.or op_isV, sn_isN (f := id)⟩
theorem cs_isnot : CmpS X .IsNot oIsNot := ⟨_, op_notN.or op_notV, sn_isN (f := not)⟩
theorem se_cmpS {op : CmpOp} {so : SO2} (cs : CmpS X op so) (ha : SE X W sa a) (hb : SE X W sb b) (hm : behindInMarks op b = false := by first | exact nomark _ | with_unfolding_all rfl) : SE X W (sBin so sa sb) (.Compare a [op] [b] pos) := by
  obtain ⟨r, ho, hs⟩ := cs
  exact se_cmp ho hs ha hb hm
theorem st_cmpS {op : CmpOp} {so : SO2} (cs : CmpS X op so) (ha : SE X W sa a) (hb : SE X W sb b) (hm : behindInMarks op b = false := by first | exact nomark _ | with_unfolding_all rfl) : ST X W (sTB (sBin so sa sb)) (.Compare a [op] [b] pos) := by
  obtain ⟨r, ho, hs⟩ := cs
  exact st_cmp ho hs ha hb hm
/-- a op1 b op2 c -/
def sChain (so so' : SO2) (sa sb sc : SemE) : SemE := fun env vh kx kd => sa env vh kx fun d1 vh1 => sb env vh1 kx fun d2 vh2 => so d1 d2 vh2 fun z vh3 => match z with
  | .bl true => sc env vh3 kx fun d3 vh4 => so' d2 d3 vh4 kd
  | .bl false => kd (.bl false) vh3
  | _ => False
theorem tChain_of {so so' : SO2} {r r' : R2} (hs : Sn2 X.K so r) (hs' : Sn2 X.K so' r') {σ : L2.St} {H : Hp} {Q : VK} (h : tE X.K W (sChain so so' sa sb sc) σ H Q) : tChain r r' (tE X.K W sa) (tE X.K W sb) (tE X.K W sc) σ H Q := by
  obtain ⟨m, env, vh, kx, kd, hr, er, h, ho, ox⟩ := h
  refine tE.go hr er ox h fun m1 vh1 H1 d1 v1 s1 hr1 er1 ox1 r1 k1 => ?_
  refine tE.go hr1 er1 ox1 k1 fun m2 vh2 H2 d2 v2 s2 hr2 er2 ox2 r2 k2 => ?_
  refine hs m2 H2 vh2 d1 d2 v1 v2 _ _ hr2 (Rep.step hr1 s2 d1 v1 r1) r2 k2 fun m3 vh3 H3 z vz s3 hr3 rz kz => ?_
  cases z with
  | bl t =>
    cases t with
    | true =>
      refine ⟨true, rz, iteT (tE.go hr3 (er2.step hr2 s3) (ox2.step s3) kz fun m4 vh4 H4 d3 v3 s4 hr4 er4 ox4 r3 k4 => ?_)⟩
      exact hs' m4 H4 vh4 d2 d3 v2 v3 kd Q hr4 (Rep.step hr3 s4 _ _ (Rep.step hr2 s3 d2 v2 r2)) r3 k4 (ho.step (s1.trans (s2.trans (s3.trans s4))))
    | false => exact ⟨false, rz, iteF (ho m3 vh3 H3 (.bl false) _ (s1.trans (s2.trans s3)) hr3 rfl kz)⟩
  | _ => exact kz.elim
theorem se_chain {op op' : CmpOp} {so so' : SO2} (cs : CmpS X op so) (cs' : CmpS X op' so') (ha : SE X W sa a) (hb : SE X W sb b) (hc : SE X W sc c) (hm : lastMarks [op, op'] [b, c] = false := by with_unfolding_all rfl) : SE X W (sChain so so' sa sb sc) (.Compare a [op, op'] [b, c] pos) := by
  obtain ⟨r, ho, hs⟩ := cs
  obtain ⟨r', ho', hs'⟩ := cs'
  exact peImp (pe_chain ho ho' ha hb hc hm) fun _ _ _ h => tChain_of hs hs' h
theorem st_chain {op op' : CmpOp} {so so' : SO2} (cs : CmpS X op so) (cs' : CmpS X op' so') (ha : SE X W sa a) (hb : SE X W sb b) (hc : SE X W sc c) (hm : lastMarks [op, op'] [b, c] = false := by with_unfolding_all rfl) : ST X W (sTB (sChain so so' sa sb sc)) (.Compare a [op, op'] [b, c] pos) := by
  obtain ⟨r, ho, hs⟩ := cs
  obtain ⟨r', ho', hs'⟩ := cs'
  exact ptImp (pt_chain ho ho' ha hb hc hm) fun _ _ _ h => tChain_of hs hs' (tB_of h)
/-! ### a[i], a[i:j] -/
def oIx : SO2 := fun a b vh kd => match b with
  | .int i => match a with
    | .tup ds => ∃ d, atI ds i = some d ∧ kd d vh
    | .lst ds => ∃ d, atI ds i = some d ∧ kd d vh
    | .ref p => match vh[p]? with
      | some (.lst ds) => ∃ d, atI ds i = some d ∧ kd d vh
      | _ => False
    | .str z => z.length ≤ 16777216 ∧ ∃ c, atI z.cps.toList i = some c ∧ kd (.str ⟨#[c]⟩) vh
    | .scr ns => ∃ z, atI ns i = some z ∧ kd (.int z) vh
    | _ => False
  | _ => False
theorem Reps.atI {K : PySem.W.Frag} {m : Map} {H : Hp} {ds : List D} {xs : List V} {i : Int} {d : D} (r : Reps K m H ds xs) (e : L2.atI ds i = some d) : ∃ v, L2.atI xs i = some v ∧ Rep K m H d v := by
  unfold L2.atI at e ⊢
  rw [r.len] at e
  cases q : ixN xs.length i with
  | none => rw [q] at e; cases e
  | some j =>
    rw [q] at e
    exact r.get e
theorem scr_sql {K : PySem.W.Frag} {m : Map} {H : Hp} {ns : List Int} {v : V} (r : Rep K m H (.scr ns) v) : ∃ a, v = .ref a ∧ SqL K H a (ns.map V.int) := by
  simp only [Rep] at r
  obtain ⟨a, rfl, q⟩ := r
  refine ⟨a, rfl, ?_⟩
  rcases q with ⟨o, q⟩ | q
  · exact .inl (.inr ⟨o, q⟩)
  · rcases q with q | q
    · rcases q with q | ⟨o, q⟩ <;> cases q
    · exact .inr q
theorem atI_map {α β : Type} {f : α → β} {xs : List α} {i : Int} {x : α} (e : L2.atI xs i = some x) : L2.atI (xs.map f) i = some (f x) := by
  unfold L2.atI at e ⊢
  rw [List.length_map]
  cases q : ixN xs.length i with
  | none => rw [q] at e; cases e
  | some j =>
    rw [q] at e
    show (xs.map f)[j]? = _
    rw [List.getElem?_map, show xs[j]? = some x from e]
    rfl
theorem sn_ix : Sn2 X.K oIx (rIx X.K) := by
  intro m H vh d1 d2 v1 v2 kd Q hr r1 r2 h ho
  cases d2 with
  | int i =>
    cases d1 with
    | tup ds =>
      obtain ⟨d, e, k⟩ := h
      simp only [Rep] at r1
      obtain ⟨a, xs, rfl, q, rs⟩ := r1
      obtain ⟨v, ev, rv⟩ := rs.atI e
      exact .inr (.inl ⟨a, xs, i, v, rfl, r2, q, ev, ho m vh H d v (Step.refl _ _) hr rv k⟩)
    | lst ds =>
      obtain ⟨d, e, k⟩ := h
      obtain ⟨a, xs, rfl, q, rs⟩ := lview_rep hr r1 rfl
      obtain ⟨v, ev, rv⟩ := rs.atI e
      exact .inl ⟨a, xs, i, v, rfl, r2, .of q, ev, ho m vh H d v (Step.refl _ _) hr rv k⟩
    | ref p =>
      revert h
      show (match vh[p]? with | some (.lst ds) => ∃ d, L2.atI ds i = some d ∧ kd d vh | _ => False) → _
      cases ep : vh[p]? with
      | none => exact False.elim
      | some cl =>
        cases cl with
        | ins _ _ _ => exact False.elim
        | rng _ _ => exact False.elim
        | lst ds =>
          rintro ⟨d, e, k⟩
          obtain ⟨a, xs, rfl, q, rs⟩ := lview_rep (ds := ds) hr r1 (by simp only [lview, ep])
          obtain ⟨v, ev, rv⟩ := rs.atI e
          exact .inl ⟨a, xs, i, v, rfl, r2, .of q, ev, ho m vh H d v (Step.refl _ _) hr rv k⟩
    | str z =>
      obtain ⟨hz, c, e, k⟩ := h
      exact .inr (.inr ⟨z, i, c, r1, r2, by rw [sizeLine_eq]; exact hz, e, ho m vh H (.str ⟨#[c]⟩) _ (Step.refl _ _) hr rfl k⟩)
    | scr ns =>
      obtain ⟨z, e, k⟩ := h
      obtain ⟨a, rfl, q⟩ := scr_sql r1
      exact .inl ⟨a, _, i, .int z, rfl, r2, q, atI_map e, ho m vh H (.int z) _ (Step.refl _ _) hr rfl k⟩
    | _ => exact h.elim
  | _ => exact h.elim
theorem se_idx (ha : SE X W sa a) (hb : SE X W sb b) (hp : PlainIx b := by exact fun _ _ => rfl) : SE X W (sBin oIx sa sb) (.Subscript a b pos) := se_ix ix_seq sn_ix ha hb hp
/-- parts -/
abbrev SemO := Env → VH → KX → (Option Int → VH → Prop) → Prop
def tO' (K : PySem.W.Frag) (W : WX) (sem : SemO) : TO := fun σ H Q => ∃ m env vh kx ko, Hr K m H vh ∧ Er K m H env σ ∧ sem env vh kx ko ∧ (∀ m' vh' H' o, Step m H m' H' → Hr K m' H' vh' → ko o vh' → Q o H') ∧ OutX K m H W σ kx
def SO (X : Cx) (W : WX) (sem : SemO) (e : Option Expr) : Prop := PO X e (tO' X.K W sem)
def sNoP : SemO := fun _ vh _ ko => ko none vh
def sPart (s : SemE) : SemO := fun env vh kx ko => s env vh kx fun d vh' => match d with
  | .int i => ko (some i) vh'
  | _ => False
theorem so_none : SO X W sNoP none := ⟨fun pins s σ H Q I ⟨m, env, vh, kx, ko, hr, er, h, o, ox⟩ => po_none.run pins s σ H Q I (o m vh H none (Step.refl _ _) hr h)⟩
theorem so_some (he : SE X W se e) : SO X W (sPart se) (some e) := ⟨fun pins s σ H Q I ⟨m, env, vh, kx, ko, hr, er, h, o, ox⟩ => (po_some he).run pins s σ H Q I (by
  refine tE.go hr er ox h fun m1 vh1 H1 d v s1 hr1 er1 ox1 r1 k1 => ?_
  cases d with
  | int i => exact ⟨i, r1, o m1 vh1 H1 (some i) s1 hr1 k1⟩
  | _ => exact k1.elim)⟩
def cutD {α : Type} (xs : List α) (lo hi : Option Int) : List α := (xs.drop (HT.sIx xs.length 0 lo)).take (HT.sIx xs.length xs.length hi - HT.sIx xs.length 0 lo)
theorem Reps.cut {K : PySem.W.Frag} {m : Map} {H : Hp} {ds : List D} {xs : List V} (r : Reps K m H ds xs) (lo hi : Option Int) : Reps K m H (cutD ds lo hi) (cutV xs lo hi) := by
  unfold cutD cutV
  rw [r.len]
  exact (r.drop _).take _
def oSl (cell : Bool) : D → Option Int → Option Int → VH → KD → Prop := fun d lo hi vh kd => match d with
  | .tup ds => kd (.tup (cutD ds lo hi)) vh
  | .lst ds => newL cell (cutD ds lo hi) vh kd
  | .ref p => match vh[p]? with
    | some (.lst ds) => newL cell (cutD ds lo hi) vh kd
    | _ => False
  | .scr ns => newL cell ((cutD ns lo hi).map D.int) vh kd
  | _ => False
def sSl (cell : Bool) (s : SemE) (lo hi : SemO) : SemE := fun env vh kx kd => s env vh kx fun d vh1 => lo env vh1 kx fun l vh2 => hi env vh2 kx fun u vh3 => oSl cell d l u vh3 kd
def rSl (K : PySem.W.Frag) : V → Option Int → Option Int → Hp → VK → Prop := fun x lo hi H Q => rSlL K x lo hi H Q ∨ rSlA K x lo hi H Q
theorem sl_seq : SlR X (rSl X.K) := sl_list.or sl_tupA
theorem cut_all {α : Type} {xs : List α} {lo hi : Option Int} (h : HT.sIx xs.length 0 lo = 0 ∧ HT.sIx xs.length xs.length hi = xs.length) : cutD xs lo hi = xs := by
  unfold cutD
  rw [h.1, h.2]
  simp
theorem cut_map {α β : Type} (f : α → β) (xs : List α) (lo hi : Option Int) : cutD (xs.map f) lo hi = (cutD xs lo hi).map f := by
  unfold cutD
  rw [List.length_map, List.map_take, List.map_drop]
theorem sn_sl {K : PySem.W.Frag} {cell : Bool} {m : Map} {H : Hp} {vh : VH} {d : D} {v : V} {lo hi : Option Int} {kd : KD} {Q : VK} (hr : Hr K m H vh) (r : Rep K m H d v) (h : oSl cell d lo hi vh kd) (ho : Out K m H kd Q) : rSl K v lo hi H Q := by
  cases d with
  | tup ds =>
    simp only [Rep] at r
    obtain ⟨a, xs, rfl, q, rs⟩ := r
    refine .inr ⟨a, xs, rfl, q, fun z => ?_, fun _ p hp => out_tup hr (rs.cut lo hi) h ho hp⟩
    refine ho m vh H _ _ (Step.refl _ _) hr ?_ h
    rw [← rs.len] at z
    rw [cut_all z]
    simp only [Rep]
    exact ⟨a, xs, rfl, q, rs⟩
  | lst ds =>
    obtain ⟨a, xs, rfl, q, rs⟩ := lview_rep hr r rfl
    exact .inl ⟨a, xs, rfl, .of q, fun p hp => out_lst (cell := cell) hr (rs.cut lo hi) h ho hp⟩
  | ref p =>
    revert h
    show (match vh[p]? with | some (.lst ds) => newL cell (cutD ds lo hi) vh kd | _ => False) → _
    cases ep : vh[p]? with
    | none => exact False.elim
    | some cl =>
      cases cl with
      | ins _ _ _ => exact False.elim
      | rng _ _ => exact False.elim
      | lst ds =>
        intro h
        obtain ⟨a, xs, rfl, q, rs⟩ := lview_rep (ds := ds) hr r (by simp only [lview, ep])
        exact .inl ⟨a, xs, rfl, .of q, fun p hp => out_lst (cell := cell) hr (rs.cut lo hi) h ho hp⟩
  | scr ns =>
    obtain ⟨a, rfl, q⟩ := scr_sql r
    have h : newL cell ((cutD ns lo hi).map D.int) vh kd := h
    rw [← cut_map] at h
    exact .inl ⟨a, _, rfl, q, fun p hp => out_lst (cell := cell) hr ((Reps.ints.mpr rfl).cut lo hi) h ho hp⟩
  | _ => exact h.elim
theorem se_slice (cell : Bool) {lo hi : Option Expr} {sL sH : SemO} (ha : SE X W sa a) (hl : SO X W sL lo) (hh : SO X W sH hi) : SE X W (sSl cell sa sL sH) (.Subscript a (.Slice lo hi none p2) pos) := by
  refine peImp (pe_slice sl_seq ha hl hh) fun σ H Q ⟨m, env, vh, kx, kd, hr, er, h, ho, ox⟩ => ?_
  refine tE.go hr er ox h fun m1 vh1 H1 d v s1 hr1 er1 ox1 r1 k1 => ?_
  refine ⟨m1, env, vh1, kx, _, hr1, er1, k1, fun m2 vh2 H2 l s2 hr2 k2 => ?_, ox1⟩
  refine ⟨m2, env, vh2, kx, _, hr2, er1.step hr1 s2, k2, fun m3 vh3 H3 u s3 hr3 k3 => ?_, ox1.step s2⟩
  exact sn_sl hr3 (Rep.step hr2 s3 _ _ (Rep.step hr1 s2 _ _ r1)) k3 (ho.step (s1.trans (s2.trans s3)))
/-! ### built-in functions -/
def lenD (vh : VH) : D → Option Int
  | .tup ds => some ds.length
  | .lst ds => some ds.length
  | .ref p => match vh[p]? with
    | some (.lst ds) => some ds.length
    | _ => none
  | .scr ns => some ns.length
  | _ => none
def oLen : SOL := fun ds vh kd => match ds with
  | [.str z] => z.length ≤ 16777216 ∧ kd (.int z.length) vh
  | [d] => match lenD vh d with
    | some n => kd (.int n) vh
    | none => False
  | _ => False
theorem lenD_rep {K : PySem.W.Frag} {m : Map} {H : Hp} {vh : VH} {d : D} {v : V} {n : Int} (hr : Hr K m H vh) (r : Rep K m H d v) (e : lenD vh d = some n) : ∃ p ys, v = .ref p ∧ (SqL K H p ys ∨ SqT K H p ys) ∧ (ys.length : Int) = n := by
  cases d with
  | tup ds =>
    simp only [Rep] at r
    obtain ⟨a, xs, rfl, q, rs⟩ := r
    cases e
    exact ⟨a, xs, rfl, .inr q, by rw [rs.len]⟩
  | lst ds =>
    obtain ⟨a, xs, rfl, q, rs⟩ := lview_rep hr r rfl
    cases e
    exact ⟨a, xs, rfl, .inl (.of q), by rw [rs.len]⟩
  | ref p =>
    revert e
    show (match vh[p]? with | some (.lst ds) => some (ds.length : Int) | _ => none) = some n → _
    cases ep : vh[p]? with
    | none => exact fun z => by cases z
    | some cl =>
      cases cl with
      | ins _ _ _ => exact fun z => by cases z
      | rng _ _ => exact fun z => by cases z
      | lst ds =>
        intro e
        cases e
        obtain ⟨a, xs, rfl, q, rs⟩ := lview_rep (ds := ds) hr r (by simp only [lview, ep])
        exact ⟨a, xs, rfl, .inl (.of q), by rw [rs.len]⟩
  | scr ns =>
    obtain ⟨a, rfl, q⟩ := scr_sql r
    cases e
    exact ⟨a, _, rfl, .inl q, by rw [List.length_map]⟩
  | _ => cases e
def rLen (K : PySem.W.Frag) : List V → Hp → VK → Prop := fun xs H Q => (∃ p ys, xs = [.ref p] ∧ (SqL K H p ys ∨ SqT K H p ys) ∧ Q (.int ys.length) H) ∨ ∃ z, xs = [.str z] ∧ z.length ≤ sizeLine ∧ Q (.int z.length) H
theorem reps1 {K : PySem.W.Frag} {m : Map} {H : Hp} {d : D} {vs : List V} (r : Reps K m H [d] vs) : ∃ v, vs = [v] ∧ Rep K m H d v := by
  simp only [Reps] at r
  obtain ⟨v, ws, rfl, r1, rfl⟩ := r
  exact ⟨v, rfl, r1⟩
theorem reps2 {K : PySem.W.Frag} {m : Map} {H : Hp} {d d' : D} {vs : List V} (r : Reps K m H [d, d'] vs) : ∃ v v', vs = [v, v'] ∧ Rep K m H d v ∧ Rep K m H d' v' := by
  simp only [Reps] at r
  obtain ⟨v, ws, rfl, r1, v', ws', rfl, r2, rfl⟩ := r
  exact ⟨v, v', rfl, r1, r2⟩
theorem sn_len : SnL X.K oLen (rLen X.K) := by
  intro m H vh ds vs kd Q hr r h ho
  cases ds with
  | nil => exact h.elim
  | cons d ds =>
    cases ds with
    | cons _ _ => cases d <;> exact h.elim
    | nil =>
      obtain ⟨v, rfl, r1⟩ := reps1 r
      have r := r1
      have gen : ∀ n, lenD vh d = some n → kd (.int n) vh → rLen X.K [v] H Q := fun n e k => by
        obtain ⟨p, ys, rfl, q, el⟩ := lenD_rep hr r e
        exact .inl ⟨p, ys, rfl, q, by rw [el]; exact ho m vh H (.int n) _ (Step.refl _ _) hr rep_int k⟩
      have gen2 : (match lenD vh d with | some n => kd (.int n) vh | none => False) → rLen X.K [v] H Q := fun h => by
        cases e : lenD vh d with
        | none => rw [e] at h; exact h.elim
        | some n => rw [e] at h; exact gen n e h
      cases d with
      | str z =>
        have r : v = .str z := r
        subst r
        exact .inr ⟨z, rfl, by rw [sizeLine_eq]; exact h.1, ho m vh H (.int z.length) _ (Step.refl _ _) hr rep_int h.2⟩
      | _ => exact gen2 h
theorem cr_len : CallR X (.builtin "len") (rLen X.K) := call_len_seq.or call_len_str
def oAbs : SOL := fun ds vh kd => match ds with
  | [.int i] => kd (.int i.natAbs) vh
  | _ => False
theorem sn_abs : SnL X.K oAbs (fun xs H Q => ∃ i, xs = [.int i] ∧ Q (.int (if i < 0 then -i else i)) H) := by
  intro m H vh ds vs kd Q hr r h ho
  cases ds with
  | nil => exact h.elim
  | cons d ds =>
    cases ds with
    | cons _ _ => cases d <;> exact h.elim
    | nil =>
      obtain ⟨v, rfl, r1⟩ := reps1 r
      have r := r1
      cases d with
      | int i =>
        have r : v = .int i := r
        subst r
        refine ⟨i, rfl, ?_⟩
        have e : (if i < 0 then -i else i) = (i.natAbs : Int) := by split <;> omega
        rw [e]
        exact ho m vh H (.int i.natAbs) _ (Step.refl _ _) hr rep_int h
      | _ => exact h.elim
def oInt : SOL := fun ds vh kd => match ds with
  | [.int i] => kd (.int i) vh
  | [.bl b] => kd (.int (if b then 1 else 0)) vh
  | _ => False
theorem sn_int : SnL X.K oInt (fun xs H Q => (∃ i, xs = [.int i] ∧ Q (.int i) H) ∨ ∃ k, xs = [.bl k] ∧ Q (.int (if k then 1 else 0)) H) := by
  intro m H vh ds vs kd Q hr r h ho
  cases ds with
  | nil => exact h.elim
  | cons d ds =>
    cases ds with
    | cons _ _ => cases d <;> exact h.elim
    | nil =>
      obtain ⟨v, rfl, r1⟩ := reps1 r
      have r := r1
      cases d with
      | int i =>
        have r : v = .int i := r
        subst r
        exact .inl ⟨i, rfl, ho m vh H (.int i) _ (Step.refl _ _) hr rep_int h⟩
      | bl b =>
        have r : v = .bl b := r
        subst r
        exact .inr ⟨b, rfl, ho m vh H (.int (if b then 1 else 0)) _ (Step.refl _ _) hr rep_int h⟩
      | _ => exact h.elim
def oInt2 (f : Int → Int → Int) : SOL := fun ds vh kd => match ds with
  | [.int i, .int j] => kd (.int (f i j)) vh
  | _ => False
theorem oInt2_inv {f : Int → Int → Int} {ds : List D} {vh : VH} {kd : KD} (h : oInt2 f ds vh kd) : ∃ i j, ds = [.int i, .int j] ∧ kd (.int (f i j)) vh := by
  cases ds with
  | nil => exact h.elim
  | cons d ds =>
    cases ds with
    | nil => cases d <;> exact h.elim
    | cons d' ds =>
      cases ds with
      | cons _ _ => cases d <;> cases d' <;> exact h.elim
      | nil =>
        cases d with
        | int i =>
          cases d' with
          | int j => exact ⟨i, j, rfl, h⟩
          | _ => exact h.elim
        | _ => cases d' <;> exact h.elim
theorem sn_int2 {f g : Int → Int → Int} (hf : ∀ i j, f i j = g i j) : SnL X.K (oInt2 f) (fun xs H Q => ∃ i j, xs = [.int i, .int j] ∧ Q (.int (g i j)) H) := by
  intro m H vh ds vs kd Q hr r h ho
  obtain ⟨i, j, rfl, k⟩ := oInt2_inv h
  obtain ⟨v, v', rfl, r1, r2⟩ := reps2 r
  have r1 : v = .int i := r1
  have r2 : v' = .int j := r2
  subst r1; subst r2
  exact ⟨i, j, rfl, by rw [← hf]; exact ho m vh H (.int (f i j)) _ (Step.refl _ _) hr rep_int k⟩
def oMax2 : SOL := oInt2 max
def oMin2 : SOL := oInt2 min
def oGcd : SOL := oInt2 fun a b => (Nat.gcd a.natAbs b.natAbs : Nat)
theorem sn_max2 : SnL X.K oMax2 (fun xs H Q => ∃ i j, xs = [.int i, .int j] ∧ Q (.int (if j > i then j else i)) H) := sn_int2 fun i j => by
  by_cases h : j > i
  · rw [if_pos h]; omega
  · rw [if_neg h]; omega
theorem sn_min2 : SnL X.K oMin2 (fun xs H Q => ∃ i j, xs = [.int i, .int j] ∧ Q (.int (if j < i then j else i)) H) := sn_int2 fun i j => by
  by_cases h : j < i
  · rw [if_pos h]; omega
  · rw [if_neg h]; omega
theorem sn_gcd : SnL X.K oGcd rGcd := sn_int2 fun i j => rfl
theorem se_len (hg : Gl X "len") (hm : X.mg "len" = none) (ha : SA X W sl [e]) (he : starEach [e] X.env = (false, eval e X.env) :: starEach [] X.env := by rfl) : SE X W (sCallB oLen sl) (.Call (.Name "len" p) [e] [] pos) := se_callB cr_len sn_len hg hm (by decide +kernel) ha (by decide) (by decide) he
theorem se_abs (hg : Gl X "abs") (hm : X.mg "abs" = none) (ha : SA X W sl [e]) (he : starEach [e] X.env = (false, eval e X.env) :: starEach [] X.env := by rfl) : SE X W (sCallB oAbs sl) (.Call (.Name "abs" p) [e] [] pos) := se_callB call_abs sn_abs hg hm (by decide +kernel) ha (by decide) (by decide) he
theorem se_intC (hg : Gl X "int") (hm : X.mg "int" = none) (ha : SA X W sl [e]) (he : starEach [e] X.env = (false, eval e X.env) :: starEach [] X.env := by rfl) : SE X W (sCallB oInt sl) (.Call (.Name "int" p) [e] [] pos) := se_callTy call_int1 sn_int hg hm (by decide +kernel) ha (by decide) (by decide) he
theorem se_max2 (hc : X.calm = true) (hg : Gl X "max") (hm : X.mg "max" = none) (ha : SA X W sl [e, a]) (he : starEach [e, a] X.env = (false, eval e X.env) :: starEach [a] X.env := by rfl) (hpl : (backTo pos (starEach [a] X.env)).any (·.1) = false := by rfl) : SE X W (sCallB oMax2 sl) (.Call (.Name "max" p) [e, a] [] pos) := se_callB (call_max2 hc) sn_max2 hg hm (by decide +kernel) ha (by decide) (by decide) he hpl
theorem se_min2 (hc : X.calm = true) (hg : Gl X "min") (hm : X.mg "min" = none) (ha : SA X W sl [e, a]) (he : starEach [e, a] X.env = (false, eval e X.env) :: starEach [a] X.env := by rfl) (hpl : (backTo pos (starEach [a] X.env)).any (·.1) = false := by rfl) : SE X W (sCallB oMin2 sl) (.Call (.Name "min" p) [e, a] [] pos) := se_callB (call_min2 hc) sn_min2 hg hm (by decide +kernel) ha (by decide) (by decide) he hpl
theorem se_gcd {x : Str} (hg : Gl X x) (hm : X.mg x = some (.builtin "math.gcd")) (ha : SA X W sl [e, a]) (hdb : (x == ("__debug__" : Str)) = false := by decide) (he : starEach [e, a] X.env = (false, eval e X.env) :: starEach [a] X.env := by rfl) (hpl : (backTo pos (starEach [a] X.env)).any (·.1) = false := by rfl) : SE X W (sCallB oGcd sl) (.Call (.Name x p) [e, a] [] pos) := se_callBf cr_gcd sn_gcd hg hm ha hdb he hpl
/-! ### isinstance(x, T), T a built-in type -/
inductive Ty | non | bl | int | str | tup | lst
def tyD (vh : VH) : D → Option Ty
  | .non => some .non
  | .bl _ => some .bl
  | .int _ => some .int
  | .str _ => some .str
  | .tup _ => some .tup
  | .lst _ => some .lst
  | .ref p => match vh[p]? with
    | some (.lst _) => some .lst
    | _ => none
  | _ => none
def Ty.str' : Ty → String
  | .non => "NoneType" | .bl => "bool" | .int => "int" | .str => "str" | .tup => "tuple" | .lst => "list"
def isT : Ty → Ty → Bool
  | .non, .non => true | .bl, .bl => true | .bl, .int => true | .int, .int => true | .str, .str => true | .tup, .tup => true | .lst, .lst => true | _, _ => false
theorem isT_kit {K : PySem.W.Frag} : ∀ (t u : Ty), PySem.W.kitOne K (.type t.str') (.type u.str') = some (isT t u) := by
  intro t u
  cases t <;> cases u <;> exact kit_ty (by decide +kernel)
def oIsi (u : Ty) (d : D) (vh : VH) (kd : KD) : Prop := match tyD vh d with
  | some t => kd (.bl (isT t u)) vh
  | none => False
def sIsi (u : Ty) (s : SemE) : SemE := fun env vh kx kd => s env vh kx fun d vh' => oIsi u d vh' kd
theorem tyD_rep {K : PySem.W.Frag} {m : Map} {H : Hp} {vh : VH} {d : D} {v : V} {t : Ty} (hr : Hr K m H vh) (r : Rep K m H d v) (e : tyD vh d = some t) : TyX K H v (.type t.str') := by
  cases d with
  | non => have r : v = .non := r; subst r; cases e; exact .base .non
  | bl b => have r : v = .bl b := r; subst r; cases e; exact .base (.bl b)
  | int b => have r : v = .int b := r; subst r; cases e; exact .base (.int b)
  | str b => have r : v = .str b := r; subst r; cases e; exact .base (.str b)
  | tup ds =>
    simp only [Rep] at r
    obtain ⟨a, xs, rfl, q, _⟩ := r
    cases e
    rcases q with (q | ⟨o, q⟩) | q
    · exact .base (.tup q)
    · exact .fTuple q
    · obtain ⟨o, its, n, q1, q2, _⟩ := q
      exact .kTuple q1 q2
  | lst ds =>
    obtain ⟨a, xs, rfl, q, _⟩ := lview_rep hr r rfl
    cases e
    exact .base (.lst q)
  | ref p =>
    revert e
    show (match vh[p]? with | some (.lst ds) => some Ty.lst | _ => none) = some t → _
    cases ep : vh[p]? with
    | none => exact fun z => by cases z
    | some cl =>
      cases cl with
      | ins _ _ _ => exact fun z => by cases z
      | rng _ _ => exact fun z => by cases z
      | lst ds =>
        intro e
        cases e
        obtain ⟨a, xs, rfl, q, rs⟩ := lview_rep (ds := ds) hr r (by simp only [lview, ep])
        exact .base (.lst q)
  | _ => cases e
theorem se_isi (u : Ty) {TN : Str} (hg : Gl X "isinstance") (hm : X.mg "isinstance" = none) (hgT : Gl X TN) (hmT : X.mg TN = none) (hT : bootBuiltins TN = some (.type u.str')) (he : SE X W se e) (hn : TN ≠ "__name__" := by decide) (hd : (TN == ("__debug__" : Str)) = false := by decide)
    (h1 : starEach [e, .Name TN p2] X.env = (false, eval e X.env) :: starEach [.Name TN p2] X.env := by rfl) (h2 : starEach [.Name TN p2] X.env = (false, eval (.Name TN p2) X.env) :: starEach [] X.env := by rfl) (hpl : (backTo pos (starEach [.Name TN p2] X.env)).any (·.1) = false := by rfl) :
    SE X W (sIsi u se) (.Call (.Name "isinstance" p) [e, .Name TN p2] [] pos) := by
  have hty : PE X (.Name TN p2) (tC (.ty u.str')) := pe_bltn hgT hmT hT rfl hn hd
  refine peImp (pe_callB call_isi hg hm boot_isinstance (pa_cons he (pa_cons hty pa_nil h2) h1) (by decide) (by decide) h1 hpl) fun σ H Q ⟨m, env, vh, kx, kd, hr, er, h, ho, ox⟩ => ?_
  refine tE.go hr er ox h fun m1 vh1 H1 d v s1 hr1 er1 ox1 r1 k1 => ?_
  revert k1
  show (match tyD vh1 d with | some t => kd (.bl (isT t u)) vh1 | none => False) → _
  cases et : tyD vh1 d with
  | none => exact False.elim
  | some t => exact fun k1 => ⟨v, .ty u.str', .type t.str', .type u.str', isT t u, rfl, .ty _, tyD_rep hr1 r1 et, isT_kit t u, ho m1 vh1 H1 (.bl (isT t u)) _ s1 hr1 rep_bl k1⟩
/-! ### xs.append(e) -/
def sApp (so se : SemE) : SemE := fun env vh kx kd => so env vh kx fun od vh1 => match od with
  | .ref p => (∃ ds, vh1[p]? = some (.lst ds)) ∧ se env vh1 kx fun d vh2 => ∃ ds, vh2[p]? = some (.lst ds) ∧ ds.length < 16777216 ∧ kd .non (vh2.set p (.lst (ds ++ [d])))
  | _ => False
theorem se_append {apos : Pos} {o : Expr} {so : SemE} (ho : SE X W so o) (he : SE X W se e) (hbase : attributeBase o "append" X.env (eval o X.env) = eval o X.env := by rfl)
    (hfew : ((backTo pos (starEach [e] X.env)).all (fun x => !x.1) && (backToKw pos (keywordEach [] X.env)).all (fun x => x.1.isSome)
      && decide ([e].length + ([] : List Keyword).length + (if ([] : List Keyword).isEmpty then 0 else 1) < 30)) = true := by rfl)
    (hline : (apos.endLine == pos.line) = true := by rfl) (hs : starEach [e] X.env = (false, eval e X.env) :: starEach [] X.env := by rfl) (hpl : (backTo pos (starEach [] X.env)).any (·.1) = false := by rfl) :
    SE X W (sApp so se) (.Call (.Attribute o "append" apos) [e] [] pos) := by
  refine peImp (pe_bm PySem.F.plainAttrs_list PySem.F.slot_list_append PySem.F.type_list_append mt_append ho (pa_cons he pa_nil hs) hbase hfew hline hs hpl) fun σ H Q ⟨m, env, vh, kx, kd, hr, er, h, ho, ox⟩ => ?_
  refine tE.go hr er ox h fun m1 vh1 H1 od ov s1 hr1 er1 ox1 r1 k1 => ?_
  cases od with
  | ref p =>
    obtain ⟨⟨ds0, e0⟩, k1⟩ := k1
    have r1' := r1
    simp only [Rep] at r1
    obtain ⟨a, rfl, ea⟩ := r1
    obtain ⟨xs0, eH0, _⟩ := hr1.ats p _ a e0 ea
    refine ⟨.inl ⟨rfl, xs0, .of eH0⟩, tE.go hr1 er1 ox1 k1 fun m2 vh2 H2 d v s2 hr2 er2 ox2 r2 k2 => ?_⟩
    obtain ⟨ds, ec, hl, kk⟩ := k2
    have ea2 := s2.2.1 p a ea
    obtain ⟨xs, eH, rs⟩ := hr2.ats p _ a ec ea2
    refine ⟨a, xs, v, rfl, rfl, eH, by rw [← rs.len, sizeLine_eq]; exact hl, ?_⟩
    have st := set_step (H := H2) (o := .lst (xs ++ [v])) ea2
    exact ho m2 _ _ .non .non ((s1.trans s2).trans st) (hr2.set (c := .lst (ds ++ [d])) ea2 ⟨_, upd_same, Reps.step hr2 st _ _ (rs.app (Reps.one r2))⟩) rfl kk
  | _ => exact k1.elim
end
end VI

end
section
/-! VI12: own exceptions: raise, try. -/
namespace VI
open PySem PySem.Spec L2
open PyProof.Rows hiding St

/-! ### several clauses, with and without a name -/
def dAs (o : Option Nat) (D : Ends) : Ends := match o with
  | none => D
  | some i => { nx := fun σ' H' => D.nx (σ'.set i none) H', rt := D.rt, bk := fun σ' H' => D.bk (σ'.set i none) H', ct := fun σ' H' => D.ct (σ'.set i none) H' }
def sAs (o : Option Nat) (a : Addr) (σ : L2.St) : L2.St := match o with
  | none => σ
  | some i => σ.set i (some (.ref a))
abbrev TSx := Addr → Value → Option Addr → TS
def wMix (K : PySem.W.Frag) (Wout : WX) (D : Ends) : List (Value × Option Nat × TSx) → WX
  | [] => Wout
  | (c, o, ts) :: r => fun cls d σ H => ∃ b, PySem.W.exmOne K cls c = some b ∧ (b = true → ∀ a, H a = none → ts a cls d (dAs o D) (sAs o a σ) H) ∧ (b = false → wMix K Wout D r cls d σ H)
def nameAt (X : Cx) : Option Str → Option Nat → Prop
  | none, none => True
  | some n, some i => X.N[i]? = some n ∧ X.env.kindOf n = some .local
  | _, _ => False
inductive HdsMix (X : Cx) : List ExceptHandler → List (Value × Option Nat × TSx) → Prop
  | nil : HdsMix X [] []
  | cons {x : Str} {c : Value} {ts : TSx} {b₀ : Stmt} {suite : List Stmt} {np pos' : Pos} {n : Option Str} {o : Option Nat} {hds : List ExceptHandler} {l : List (Value × Option Nat × TSx)} (hc : Names X x c) (hn : nameAt X n o)
      (hsu : ∀ (a : Addr) (oe : Obj) (cls : Value) (d : Option Addr) (pn : List (Addr × Obj)), L2N.Zn cls d oe → (∃ vs, oe.data = .fields vs) → PSs (X.suite a ((a, oe) :: pn)) (b₀ :: suite) (ts a cls d)) (r : HdsMix X hds l) :
      HdsMix X (.ExceptHandler (some (.Name x np)) n (b₀ :: suite) pos' :: hds) ((c, o, ts) :: l)
section
variable {X : Cx} {body : List Stmt} {h₀ : ExceptHandler} {hds : List ExceptHandler} {l : List (Value × Option Nat × TSx)} {pos : Pos} {tb : WX → TS} {Wout : WX}
theorem ps_try_mix (hs : X.stack = X.env :: X.outer) (hf : X.env.frame = some X.env.locals) (hN : X.N.Nodup) (tk : L2N.Takes X Wout)
    (hb : ∀ (W : WX) (pn : List (Addr × Obj)) (xe : Value → Shared → Prop), L2N.Takes (X.tr pn xe) W → PassesOwn (model X.prog X.w) X.A X.env xe → PSs (X.tr pn xe) body (tb W))
    (hh : HdsMix X (h₀ :: hds) l) : PS X (.Try body (h₀ :: hds) [] [] pos) (fun D σ H => tb (wMix X.K Wout D l) D σ H) := by
  refine ⟨fun pins s σ H D I h => ?_⟩
  have ok := I.ok
  have hfr : X.A.frames = some (X.env :: X.outer) := by rw [ok.frames, hs]
  refine wpAny_Try_except ?_
  refine wpAny_mono ((hb (wMix X.K Wout D l) (X.pn ++ pins) (fun e s₁ => wpAny (model X.prog X.w) X.A (noteFrame e X.env) (fun _ s₂ => wpAny (model X.prog X.w) X.A (setFlight e none) (fun _ s₃ =>
    wpAny (model X.prog X.w) X.A (handleBy e X.env (h₀ :: hds)) (SP X pins D) X.xe s₃) X.xe s₂) X.xe s₁) (fun u s' xx => ?_) PassesOwn.looking).run [] s σ H D (I.toTry _) h) (fun f s1 hsp => ?_) (fun e s1 he => he)
  · obtain ⟨a, B, sI, pins', σ', H', cls, d, rfl, J', nb, up, sky, na, os, ag, w⟩ := xx
    have J : Inv X pins σ' H' sI := J'.ofTry ok
    have sky' : Sky B (X.env :: X.outer) a (L2N.Zn cls d) X.env.locals s'.heap := by rw [← hs]; exact sky
    show wpAny (model X.prog X.w) X.A (noteFrame (.ref a) X.env) _ _ _
    refine L2N.Sky.land L2N.Zn.steady hfr hf sky' fun h3 fl3 up3 => ?_
    have J3 : Inv X pins σ' H' { s' with heap := h3 } := J.landed nb fl3.1 (up.trans up3) os ag
    obtain ⟨oe3, vs3, he3, hz3, hd3⟩ := fl3.there
    have notFr : ∀ {h : Heap} {o : Obj} {vs : Array Value}, h.FunFrames B (X.env :: X.outer) → h.get? a = some o → o.data = .fields vs → a ∉ frs (X.env :: X.outer) := fun {h o vs} ff e dd hm => by
      obtain ⟨_, o', e', hnf⟩ := ff.mem hm
      rw [e] at e'; cases e'
      exact hnf _ dd
    have nfr := notFr fl3.2.2.1 he3 hd3
    have nL : a ≠ X.env.locals := fun z => nfr (List.mem_filterMap.mpr ⟨X.env, List.mem_cons_self, by rw [hf, z]⟩)
    have nF : a ∉ X.fs := fun hm => by
      obtain ⟨e, he, q⟩ := List.mem_filterMap.mp hm
      exact nfr (List.mem_filterMap.mpr ⟨e, List.mem_cons_of_mem _ he, q⟩)
    have S3 := J3.suite he3 hd3 na nL nF
    have go : ∀ {hds' : List ExceptHandler} {l' : List (Value × Option Nat × TSx)}, HdsMix X hds' l' → wMix X.K Wout D l' cls d σ' H' →
        wpAny (model X.prog X.w) X.A (handleBy (.ref a) X.env hds') (SP X pins D) X.xe { s' with heap := h3 } := by
      intro hds' l' hk
      induction hk with
      | nil =>
        intro w
        refine wpAny_handleBy_nil ?_
        obtain ⟨k1, k2, k3, oe, vs, T, oT, ts', he, hz, hd, h1, hr⟩ := id fl3
        unfold PySem.passOn
        refine wpAny_bind (wpAny_field he hd h1 ?_)
        rw [if_neg (show ¬ ((Value.ref T == Value.none) = true) from by simp)]
        have fin : wpAny (model X.prog X.w) X.A (setFlight (.ref a) X.env.frame) (fun _ s4 => wpAny (model X.prog X.w) X.A (throw (.ref a) : Sem Flow) (SP X pins D) X.xe s4) X.xe { s' with heap := h3 } := by
          rw [hf]
          refine HandSPX.setFlight_upZ fl3 fun h4 hh4 up4 => wpAny_throw (tk _ _ ?_)
          exact ⟨a, B, sI, pins, σ', H', cls, d, rfl, J, nb, (up.trans up3).trans up4, .inr (.inr (by rw [hs]; exact hh4)), na, os, ag, w⟩
        first
          | exact wpAny_bind (wpAny_pure (wpAny_bind fin))
          | exact wpAny_bind fin
      | @cons x c ts b₀ suite np pos' n o hds2 l2 hc hn hsu r ih =>
        intro w
        obtain ⟨b, hb1, hyes, hno⟩ := w
        refine wpAny_handleBy_cons (codeAny_handlers_test ?_) (by intro q; cases q)
        have LT : PySem.W.Looks (model X.prog X.w) h3 (typeOf (.ref a)) cls := fun A Q E s k q => wpAny_typeOf_ref (k _ _ he3) (by rw [hz3.1]; exact q)
        have LM := PySem.W.exm_one (M := model X.prog X.w) (J3.kIn) LT hb1
        have test : ∀ {Q : Value → Shared → Prop} {E : Value → Shared → Prop}, Q c { s' with heap := h3 } → wpAny (model X.prog X.w) (X.A.mark (some (.ref a))) (eval (.Name x np) X.env) Q E { s' with heap := h3 } := fun {Q E} q => by
          obtain ⟨hg, hdbg, hm | ⟨hm, hv, hnn⟩⟩ := hc
          · exact ld_glob (X := X.suite a ((a, oe3) :: (X.pn ++ pins))) S3 hg hm q hdbg
          · exact ld_blt (X := X.suite a ((a, oe3) :: (X.pn ++ pins))) S3 hg hm hv q hnn hdbg
        refine test (LM.here ?_)
        cases b with
        | true =>
          cases n with
          | none =>
            cases o with
            | some i => exact hn.elim
            | none =>
              refine codeAny_handlers_suite ?_
              refine HandSPX.lands_againZ fl3 fun h4 fl4 up4 => ?_
              have J4 : Inv X pins σ' H' { s' with heap := h4 } := J.landed nb fl4.1 ((up.trans up3).trans up4) os ag
              obtain ⟨oe4, vs4, he4, hz4, hd4⟩ := fl4.there
              have S4 := J4.suite he4 hd4 na nL nF
              refine wpAny_mono ((hsu a oe4 cls d (X.pn ++ pins) hz4 ⟨_, hd4⟩).run [] _ _ H' _ S4 (hyes rfl a na)) (fun f s6 hsp => ?_) (fun _ _ z => False.elim z)
              cases f with
              | next =>
                obtain ⟨σ6, H6, S6, q6⟩ := hsp
                exact ⟨_, _, S6.unsuite ok, q6⟩
              | brk =>
                obtain ⟨σ6, H6, S6, q6⟩ := hsp
                exact ⟨_, _, S6.unsuite ok, q6⟩
              | cont =>
                obtain ⟨σ6, H6, S6, q6⟩ := hsp
                exact ⟨_, _, S6.unsuite ok, q6⟩
              | ret u =>
                obtain ⟨v6, σ6, H6, S6, r6, q6⟩ := hsp
                exact ⟨_, _, _, S6.unsuite ok, r6, q6⟩
          | some n =>
            cases o with
            | none => exact hn.elim
            | some i =>
              obtain ⟨hi, hln⟩ := hn
              have hloc : Loc X.env.scope n := .inl hln
              refine codeAny_handlers_suite_as ?_
              refine HandSPX.lands_againZ fl3 fun h4 fl4 up4 => ?_
              have J4 : Inv X pins σ' H' { s' with heap := h4 } := J.landed nb fl4.1 ((up.trans up3).trans up4) os ag
              obtain ⟨oe4, vs4, he4, hz4, hd4⟩ := fl4.there
              have S4 := J4.suite he4 hd4 na nL nF
              refine store_ok (X := X.suite a ((a, oe4) :: (X.pn ++ pins))) (v := .ref a) S4 hN hi hloc rfl (fun s5 S5 => ?_) (.inr hln)
              refine wpAny_mono ((hsu a oe4 cls d (X.pn ++ pins) hz4 ⟨_, hd4⟩).run [] s5 _ H' _ S5 (hyes rfl a na)) (fun f s6 hsp => ?_) (fun _ _ z => False.elim z)
              have end_ : ∀ {σ6 : L2.St} {H6 : Hp} {Q : Shared → Prop}, Inv (X.suite a ((a, oe4) :: (X.pn ++ pins))) [] σ6 H6 s6 → (∀ s7, Inv X pins (σ6.set i none) H6 s7 → Q s7) →
                  wpAny (model X.prog X.w) X.A (do bindName X.env n .none; unbindBehindTheSuite X.env n pos') (fun _ s7 => Q s7) X.xe s6 := fun {σ6 H6 Q} S6 hq => gone_ok (S6.unsuite ok) hN hi hln hq
              cases f with
              | next =>
                obtain ⟨σ6, H6, S6, q6⟩ := hsp
                exact end_ S6 fun s7 J7 => ⟨_, _, J7, q6⟩
              | brk =>
                obtain ⟨σ6, H6, S6, q6⟩ := hsp
                exact end_ S6 fun s7 J7 => ⟨_, _, J7, q6⟩
              | cont =>
                obtain ⟨σ6, H6, S6, q6⟩ := hsp
                exact end_ S6 fun s7 J7 => ⟨_, _, J7, q6⟩
              | ret u =>
                obtain ⟨v6, σ6, H6, S6, r6, q6⟩ := hsp
                exact end_ S6 fun s7 J7 => ⟨_, _, _, J7, r6, q6⟩
        | false =>
          show wpAny _ X.A (handleBy (.ref a) X.env hds2) _ _ _
          exact ih (hno rfl)
    exact go hh w
  · cases f with
    | next =>
      obtain ⟨σ', H', J', q⟩ := hsp
      exact wpAny_execs_nil ⟨σ', H', J'.ofTry ok, q⟩
    | brk =>
      obtain ⟨σ', H', J', q⟩ := hsp
      exact ⟨σ', H', J'.ofTry ok, q⟩
    | cont =>
      obtain ⟨σ', H', J', q⟩ := hsp
      exact ⟨σ', H', J'.ofTry ok, q⟩
    | ret u =>
      obtain ⟨v, σ', H', J', r, q⟩ := hsp
      exact ⟨v, σ', H', J'.ofTry ok, r, q⟩
end
/-! ### an own class with its own __init__, called; its context is None -/
section
variable {X : Cx} {e : Expr} {es : List Expr} {ta : TA} {p pos : Pos}
theorem pmk_oexN {CX : CXT} {x : Str} {C fI : Addr} {k : Nat} {fd : FuncData} {ps : List Str} {sp : Sp} (T : OexC X.K C) (iC : PySem.W.findIn X.K (.ref C) "__init__" = some (some (.ref fI))) (tI : PySem.W.typeIn X.K (.ref fI) = some (.type "function"))
    (F1 : FnOk X.prog X.w X.K X.mg X.base CX k fI fd ps sp) (hr : Room (k + 1) X.A) (hb : Binds X.K fd ps []) (hx : Passes CX X (fun _ _ _ => False)) (hg : Gl X x) (hm : X.mg x = some (.ref C)) (ha : PA X (e :: es) ta)
    (hdb : (x == ("__debug__" : Str)) = false := by decide) (he : starEach (e :: es) X.env = (false, eval e X.env) :: starEach es X.env := by rfl) (hpl : (backTo pos (starEach es X.env)).any (·.1) = false := by rfl) :
    L2N.PMk X (.Call (.Name x p) (e :: es) [] pos) (tMkO C sp [] ta) := by
  intro pins s σ H Q I h
  obtain ⟨nm, q, N, bs, bm, sn, sub, ab, col, dd, k0, k1, k2, k3, k5, hC, hbm⟩ := T.cls
  refine wpAny_Call_Name_kw (ld_glob I hg hm ?_ hdb)
  refine PySem.W.callWith_K (h₀ := X.base) I.ok.mod.kin T.kC (thn (ha.run pos pins s σ H _ I h) fun us s1 ⟨vs, H1, I1, r1, hz, q1⟩ => ⟨I1.kIn, ?_⟩) he hpl
  show wpAny _ _ (call (.ref C) us) _ _ _
  obtain ⟨hp, g, dr, tk, os⟩ := s1
  have hsz : hp.objs.size ≤ hp.objs.size + 1 := Nat.le_succ _
  have hn : H1 (hp.objs.size + 1) = none := I1.hok.fresh hsz
  have hq := q1 (hp.objs.size + 1) hn
  rw [List.append_nil] at hq
  have kk : ∀ b o, hp.get? b = some o → ((hp.push (PySem.W.kdv_tup us)).push (PySem.HandSPX.excO C hp.objs.size)).get? b = some o := fun b o e => Heap.get?_push_of_some _ (Heap.get?_push_of_some _ e)
  have hget : ((hp.push (PySem.W.kdv_tup us)).push (PySem.HandSPX.excO C hp.objs.size)).get? (hp.objs.size + 1) = some (PySem.HandSPX.excO C hp.objs.size) := by heap_get
  have I2 : Inv X pins σ (upd H1 (hp.objs.size + 1) (exo (hp.objs.size + 1) C none)) ⟨(hp.push (PySem.W.kdv_tup us)).push (PySem.HandSPX.excO C hp.objs.size), g, dr, tk, os⟩ :=
    I1.laid (t' := tk) (a := hp.objs.size + 1) (o := exo (hp.objs.size + 1) C none) (h' := (hp.push (PySem.W.kdv_tup us)).push (PySem.HandSPX.excO C hp.objs.size)) kk hsz (exo_ok hget)
  have r2 : Vals (V.ref (hp.objs.size + 1) :: vs) (Value.ref (hp.objs.size + 1) :: us) := .cons rfl r1
  have hl : (Value.ref (hp.objs.size + 1) :: us ++ []).length = ps.length := by
    have e := r2.length
    rw [F1.len _ _ _ _ hq] at e
    rw [List.append_nil]
    exact e.symm
  have hus : us.length ≤ sizeLine := by
    rw [← Paired.length r1, sizeLine_eq]
    omega
  have b2 := hb _ (Value.ref (hp.objs.size + 1) :: us) I2.kIn hl
  rw [List.append_nil] at b2
  refine wpAny_call (PySem.HandSPX.call_own F.excBase_ValueError (fun Y => PySem.HandSPX.refsVE_contains Y bm hbm) (I1.kIn _ _ hC) (PySem.W.looks_findIn I1.kIn iC) (fun self => PySem.W.bind_fn I1.kIn self tI) hus
    (codeAny_mono (F1.run _ X.stack _ _ ⟨Value.ref (hp.objs.size + 1) :: us, []⟩ (Value.ref (hp.objs.size + 1) :: us) _ _ (fun _ _ _ => False) (hr.make C us []) (I2.env0.make C us []) b2 r2 hq) fun r s' hq' => ?_))
  cases r with
  | error er => exact hx pins σ _ _ er s' I2 hq'
  | ok fl =>
    cases fl with
    | ret u =>
      obtain ⟨v, H2, os2, bare2, un2, hok2, rv, ev, d, fs, ea, ed, hd1, q2⟩ := hq'
      subst ev
      obtain ⟨h2, g2, d2, t2, os'⟩ := s'
      obtain ⟨t0, G, J, kG, ge, hoe, na⟩ := mk_end0 (d2 := d2) (t2 := t2) I1 hsz kk un2 hok2 os2 bare2 ea ed hd1
      refine ⟨rv, ⟨hp.objs.size + 1, _, _, ⟨G, g2, d2, t2, os'⟩, _, .ref C, some d, rfl, J, kG, ge, hoe, ⟨rfl, rfl, fun vs hv => ?_⟩, rfl, rfl, na, rfl, bare2, raises_own T.exC T.tyC, q2⟩⟩
      cases hv
      rfl
    | next => exact False.elim hq'
    | brk => exact False.elim hq'
    | cont => exact False.elim hq'
end
/-! ### what a class of exceptions must have -/
/-- its __init__: the fields fs are set, in this order, to the arguments -/
def spEx (K : PySem.W.Frag) (C : Addr) (fs : List Str) : Sp := fun vs H Q _ => ∃ a ws, vs = .ref a :: ws ∧ ws.length = fs.length ∧ H a = some (exo a C none) ∧
  ∀ dx H', H dx = none → dx ≠ a → H' a = some (exo a C (some dx)) → H' dx = some (exd dx (fs.zip ws).reverse) → (∀ b, b ≠ a → b ≠ dx → H' b = H b) → Q .non H'
structure ExC (P : Program) (w : World) (K : PySem.W.Frag) (mg : Str → Option Value) (base : Heap) (c : Str) (fs : List Str) : Prop where
  oex : OexC K (He.ga K c)
  ini : PySem.W.findIn K (.ref (He.ga K c)) "__init__" = some (some (.ref (He.ma K (He.ga K c) "__init__")))
  tyI : PySem.W.typeIn K (.ref (He.ma K (He.ga K c) "__init__")) = some (.type "function")
  xf : XfC K (He.ga K c)
  fld : ∀ f ∈ fs, PySem.W.findIn K (.ref (He.ga K c)) f = some none
  fn : ∃ fd ps, Binds K fd ps [] ∧ FnOk P w K mg base (L2N.CX P w) 1 (He.ma K (He.ga K c) "__init__") fd ps (spEx K (He.ga K c) fs)
theorem upd2 {H : Hp} {a b : Addr} {u v w : HO} (h : a ≠ b) (x : Addr) : upd (upd (upd H a u) b v) a w x = if x = a then some w else if x = b then some v else H x := by
  by_cases hx : x = a
  · subst hx; rw [upd_same, if_pos rfl]
  · rw [upd_ne hx, if_neg hx]
    by_cases hb : x = b
    · subst hb; rw [upd_same, if_pos rfl]
    · rw [upd_ne hb, upd_ne hx, if_neg hb]
section
variable {P : Program} {w : World} {K : PySem.W.Frag} {mg : Str → Option Value} {base : Heap} {fd : FuncData} {name qual : Str} {params : Arguments} {scope : Scope} {f g : Str} {fI C : Addr} {p1 p2 p3 p4 q1 q2 q3 q4 : Pos}
/-- def __init__(self, f): self.f = f -/
theorem init1 (F : FunD K name qual params [.Assign [.Attribute (.Name "self" p1) f p2] (.Name f p3) p4] scope [] [] fI fd) (T : OexC K C) (hf : PySem.W.findIn K (.ref C) f = some none) (S : FnScope ["self", f] ["self", f] scope) (hs : scope.names.lookup ("self" : Str) = some .local) (hl : scope.names.lookup f = some .local)
    (hd : (f == ("__debug__" : Str)) = false := by decide) (hcd : (f == ("__classdict__" : Str)) = false := by decide) : FnOk P w K mg base (L2N.CX P w) 1 fI fd ["self", f] (spEx K C [f]) := by
  refine F.ok S (k := 0) (fun vs H Q E ⟨a, ws, e, hl, _⟩ => by rw [e, List.length_cons, hl]; rfl) fun cdv A outer s H vs Q E hr ⟨a, ws, e, hlw, ea, k⟩ => ?_
  subst e
  refine ⟨_, pss_one (ps_ost (pe_var (i := 0) rfl (.inl hs)) (pe_var (i := 1) rfl (.inl hl) hd hcd)), ?_⟩
  cases ws with
  | nil => cases hlw
  | cons v r =>
    cases r with
    | cons _ _ => cases hlw
    | nil =>
      refine ⟨v, rfl, .ref a, rfl, a, C, rfl, T, hf, .inl ⟨ea, fun dx hdx hne => k dx _ hdx hne upd_same ?_ fun b h1 h2 => ?_⟩⟩
      · rw [upd_ne hne, upd_same]; rfl
      · rw [upd_ne h1, upd_ne h2]
/-- def __init__(self, f, g): self.f = f; self.g = g -/
theorem init2 (F : FunD K name qual params [.Assign [.Attribute (.Name "self" p1) f p2] (.Name f p3) p4, .Assign [.Attribute (.Name "self" q1) g q2] (.Name g q3) q4] scope [] [] fI fd) (T : OexC K C) (hf : PySem.W.findIn K (.ref C) f = some none) (hg : PySem.W.findIn K (.ref C) g = some none)
    (S : FnScope ["self", f, g] ["self", f, g] scope) (hs : scope.names.lookup ("self" : Str) = some .local) (hl : scope.names.lookup f = some .local) (hl2 : scope.names.lookup g = some .local)
    (hd : (f == ("__debug__" : Str)) = false := by decide) (hcd : (f == ("__classdict__" : Str)) = false := by decide) (hd2 : (g == ("__debug__" : Str)) = false := by decide) (hcd2 : (g == ("__classdict__" : Str)) = false := by decide) : FnOk P w K mg base (L2N.CX P w) 1 fI fd ["self", f, g] (spEx K C [f, g]) := by
  refine F.ok S (k := 0) (fun vs H Q E ⟨a, ws, e, hl, _⟩ => by rw [e, List.length_cons, hl]; rfl) fun cdv A outer s H vs Q E hr ⟨a, ws, e, hlw, ea, k⟩ => ?_
  subst e
  refine ⟨_, pss_cons (ps_ost (pe_var (i := 0) rfl (.inl hs)) (pe_var (i := 1) rfl (.inl hl) hd hcd)) (pss_one (ps_ost (pe_var (i := 0) rfl (.inl hs)) (pe_var (i := 2) rfl (.inl hl2) hd2 hcd2))), ?_⟩
  cases ws with
  | nil => cases hlw
  | cons v r =>
    cases r with
    | nil => cases hlw
    | cons v2 r =>
      cases r with
      | cons _ _ => cases hlw
      | nil =>
        refine ⟨v, rfl, .ref a, rfl, a, C, rfl, T, hf, .inl ⟨ea, fun dx hdx hne => ?_⟩⟩
        have e1 : upd (upd H dx (exd dx [(f, v)])) a (exo a C (some dx)) dx = some (exd dx [(f, v)]) := by rw [upd_ne hne, upd_same]
        refine ⟨v2, rfl, .ref a, rfl, a, C, rfl, T, hg, .inr ⟨dx, [(f, v)], upd_same, e1, (by show 1 ≤ 900; omega), ?_⟩⟩
        refine k dx _ hdx hne ?_ upd_same fun b h1 h2 => ?_
        · rw [upd_ne (Ne.symm hne), upd_same]
        · rw [upd_ne h2, upd_ne h1, upd_ne h2]
end
/-! ### raise C(e, ..) -/
def sRaise (c : Str) (fs : List Str) (t : SemA) : SemS := fun env vh k => t env vh (fun e h => k.ex e env h) fun ds vh' => ds.length = fs.length ∧ k.ex ⟨c, fs.reverse, ds.reverse⟩ env vh'
theorem zip_fst {α β : Type} : ∀ {xs : List α} {ys : List β}, ys.length = xs.length → (xs.zip ys).map (·.1) = xs
  | [], _, _ => by simp
  | x :: xs, [], h => by cases h
  | x :: xs, y :: ys, h => by rw [List.zip_cons_cons, List.map_cons, zip_fst (by simpa using h)]
theorem zip_snd {α β : Type} : ∀ {xs : List α} {ys : List β}, ys.length = xs.length → (xs.zip ys).map (·.2) = ys
  | [], [], _ => by simp
  | [], y :: ys, h => by cases h
  | x :: xs, [], h => by cases h
  | x :: xs, y :: ys, h => by rw [List.zip_cons_cons, List.map_cons, zip_snd (by simpa using h)]
theorem Reps.rev {K : PySem.W.Frag} {m : Map} {H : Hp} : ∀ {ds : List D} {xs : List V}, Reps K m H ds xs → Reps K m H ds.reverse xs.reverse
  | [], xs, r => by simp only [Reps] at r; subst r; simpa using Reps.nil
  | d :: ds, xs, r => by
    simp only [Reps] at r
    obtain ⟨v, vs, rfl, r1, r2⟩ := r
    rw [List.reverse_cons, List.reverse_cons]
    exact (Reps.rev r2).app (Reps.one r1)
section
variable {X : Cx} {W : WX} {e : Expr} {es : List Expr} {sl : SemA} {p pos pos' : Pos} {c : Str} {fs : List Str}
theorem raise_step {K : PySem.W.Frag} {m : Map} {H1 H' : Hp} {vh : VH} {ds : List D} {ws : List V} {d : Addr} (hr : Hr K m H1 vh) (r : Reps K m H1 ds ws) (hl : ws.length = fs.length) (hd1 : H1 d = none) (keep : ∀ b, H1 b ≠ none → H' b = H1 b) (hd : H' d = some (.xd (fs.zip ws).reverse)) :
    Step m H1 m H' ∧ Hr K m H' vh ∧ RepX K m H' ⟨c, fs.reverse, ds.reverse⟩ (.ref (He.ga K c)) (some d) := by
  have sm : Same H1 H' := fun b o e => by rw [keep b (by rw [e]; simp)]; exact e
  have st := Step.same (m := m) sm
  have im : m.Imm d := imm_new hr hd1
  refine ⟨st, hr.same sm, rfl, d, _, rfl, hd, ?_, ?_⟩
  · show (List.map (·.1) (fs.zip ws).reverse) = _
    rw [List.map_reverse, zip_fst hl]
  · show Reps K m H' ds.reverse (List.map (·.2) (fs.zip ws).reverse)
    rw [List.map_reverse, zip_snd hl]
    exact (Reps.step hr st _ _ r).rev
theorem ss_raise (hc : X.calm = true) (tk : L2N.Takes X W) (hroom : Room 2 X.A) (hfs : fs.length ≤ 100) (T : ExC X.prog X.w X.K X.mg X.base c fs) (hg : Gl X c) (hm : X.mg c = some (.ref (He.ga X.K c))) (ha : SA X W sl (e :: es)) (hdb : (c == ("__debug__" : Str)) = false := by decide)
    (he : starEach (e :: es) X.env = (false, eval e X.env) :: starEach es X.env := by rfl) (hpl : (backTo pos (starEach es X.env)).any (·.1) = false := by rfl) : SS X W (sRaise c fs sl) (.Raise (some (.Call (.Name c p) (e :: es) [] pos)) none pos') := by
  obtain ⟨fd, ps, hb, F⟩ := T.fn
  have hx : Passes (L2N.CX X.prog X.w) X (fun _ _ _ => False) := fun pins σ H s e s' I c => L2N.passes_call (tk.imp (W' := fun _ _ _ _ => False) fun _ _ _ _ z => z.elim) (fun _ _ _ _ z => z) pins σ H s e s' I c
  refine psImp (L2N.ps_raise hc tk (pmk_oexN T.oex T.ini T.tyI F hroom hb hx hg hm ha hdb he hpl)) fun Dn σ H ⟨m, env, vh, k, hr, er, h, o⟩ => ?_
  refine tA.go hr er (o.x hr er) h fun m1 vh1 H1 ds vs s1 hr1 er1 ox1 r1 k1 => ?_
  have hlw : vs.length = fs.length := by rw [← r1.len]; exact k1.1
  refine ⟨by omega, fun a hna => ?_⟩
  rw [List.append_nil]
  refine ⟨a, vs, rfl, hlw, upd_same, fun dx H' hdx hne h1 h2 h3 => ⟨rfl, dx, _, h1, h2, ?_, ?_⟩⟩
  · rw [upd_ne hne] at hdx; exact hdx
  · rw [upd_ne hne] at hdx
    have keep : ∀ b, H1 b ≠ none → upd (del H' a) dx (.xd (fs.zip vs).reverse) b = H1 b := fun b hb => by
      have nb : b ≠ a := fun z => hb (by rw [z]; exact hna)
      have nd : b ≠ dx := fun z => hb (by rw [z]; exact hdx)
      rw [upd_ne nd, del_ne nb, h3 b nb nd, upd_ne nb]
    obtain ⟨st, hr2, rx⟩ := raise_step (c := c) hr1 r1 hlw hdx keep upd_same
    exact (o.step s1).ex m1 vh1 _ env σ ⟨c, fs.reverse, ds.reverse⟩ _ _ st hr2 (er1.step hr1 st) rx k1.2
/-! ### try -/
abbrev SemH := Addr → Addr → Str → SemS
/-- a clause: does it take the class; its name's slot; its suite -/
structure Cl where
  c : Str
  sub : Str → Bool
  o : Option Nat
  sem : SemH
@[reducible] def ksAs (o : Option Nat) (k : KS) : KS := match o with
  | none => { k with ex := fun _ _ _ => False }
  | some i => { nx := fun env h => k.nx (env.set i none) h, rt := k.rt, bk := fun env h => k.bk (env.set i none) h, ct := fun env h => k.ct (env.set i none) h, ex := fun _ _ _ => False }
@[reducible] def envAs (o : Option Nat) (a dd : Addr) (ex : Exc) (env : Env) : Env := match o with
  | none => env
  | some i => env.set i (some (.exn a dd ex.c ex.ns ex.ds))
@[reducible] def exTry (k : KS) : List Cl → Exc → Env → VH → Prop
  | [], ex, env, vh => k.ex ex env vh
  | c :: r, ex, env, vh => match c.sub ex.c with
    | true => ∀ a dd, c.sem a dd ex.c (envAs c.o a dd ex env) vh (ksAs c.o k)
    | false => exTry k r ex env vh
def sTry (L : List Str) (sb : SemS) (cs : List Cl) : SemS := fun env vh k => sb env vh { k with ex := fun ex env' vh' => ex.c ∈ L ∧ exTry k cs ex env' vh' }
section
variable {X : Cx} {W : WX} {L : List Str} {body : List Stmt} {h₀ : ExceptHandler} {hds : List ExceptHandler} {sb : SemS} {pos : Pos}
/-- a clause's reading -/
def tsOf (K : PySem.W.Frag) (cl : Cl) : TSx := fun a cls d Dn σ H => ∃ c dd, cls = .ref (He.ga K c) ∧ d = some dd ∧ tS K W0 (cl.sem a dd c) Dn σ H
inductive ClsAre (X : Cx) (L : List Str) : List ExceptHandler → List Cl → Prop
  | nil : ClsAre X L [] []
  | cons {x : Str} {sub : Str → Bool} {o : Option Nat} {sem : SemH} {b₀ : Stmt} {suite : List Stmt} {np pos' : Pos} {n : Option Str} {hds : List ExceptHandler} {l : List Cl} (hc : Names X x (.ref (He.ga X.K x))) (hn : nameAt X n o) (hm : ∀ c ∈ L, PySem.W.exmOne X.K (.ref (He.ga X.K c)) (.ref (He.ga X.K x)) = some (sub c))
      (hsu : ∀ (a : Addr) (oe : Obj) (c : Str) (dd : Addr) (pn : List (Addr × Obj)), L2N.Zn (.ref (He.ga X.K c)) (some dd) oe → (∃ vs, oe.data = .fields vs) → SSs (X.suite a ((a, oe) :: pn)) W0 (sem a dd c) (b₀ :: suite)) (r : ClsAre X L hds l) :
      ClsAre X L (.ExceptHandler (some (.Name x np)) n (b₀ :: suite) pos' :: hds) (⟨x, sub, o, sem⟩ :: l)
theorem ClsAre.mix : ∀ {hds : List ExceptHandler} {l : List Cl}, ClsAre X L hds l → HdsMix X hds (l.map fun cl => (Value.ref (He.ga X.K cl.c), cl.o, tsOf X.K cl)) := by
  intro hds l h
  induction h with
  | nil => exact .nil
  | cons hc hn hm hsu r ih =>
    refine .cons hc hn (fun a oe cls d pn hz hf => ⟨fun pins s σ H Dn I ⟨c, dd, e1, e2, q⟩ => ?_⟩) ih
    subst e1
    subst e2
    exact (hsu a oe c dd pn hz hf).run pins s σ H Dn I q
theorem try_wish {K : PySem.W.Frag} {Dn : Ends} {k : KS} {ex : Exc} {cls : Value} {dd0 : Option Addr} {m : Map} {H : Hp} {vh : VH} {env : Env} {σ : L2.St} (hL : ex.c ∈ L) (hr : Hr K m H vh) (er : Er K m H env σ) (o : OutS K m H k W Dn) (rx : RepX K m H ex cls dd0) :
    ∀ {l : List Cl}, (∀ cl ∈ l, PySem.W.exmOne K (.ref (He.ga K ex.c)) (.ref (He.ga K cl.c)) = some (cl.sub ex.c)) → exTry k l ex env vh → wMix K W Dn (l.map fun cl => (Value.ref (He.ga K cl.c), cl.o, tsOf K cl)) cls dd0 σ H
  | [], _, h => o.ex m vh H env σ ex cls dd0 (Step.refl _ _) hr er rx h
  | cl :: l, hm, h => by
    obtain ⟨ec, dd, fs, ed, eH, en, rs⟩ := rx
    subst ed
    subst ec
    refine ⟨cl.sub ex.c, hm cl List.mem_cons_self, fun hb a ha => ?_, fun hb => ?_⟩
    · have h' : ∀ a dd, cl.sem a dd ex.c (envAs cl.o a dd ex env) vh (ksAs cl.o k) := by
        have h2 := h
        unfold exTry at h2
        rw [hb] at h2
        exact h2
      have im : m.Imm dd := by
        refine ⟨fun p e => ?_, fun z => ?_⟩
        · rcases hr.obj e with ⟨ys, q⟩ | ⟨C, dx, fs, q⟩ | ⟨lo, hi, q⟩ <;> rw [eH] at q <;> cases q
        · obtain ⟨⟨ys, q⟩, _⟩ := hr.hid dd z
          rw [eH] at q; cases q
      have rd : Rep K m H (.exn a dd ex.c ex.ns ex.ds) (.ref a) := by
        simp only [Rep]
        exact ⟨trivial, fs, eH, im, en, rs⟩
      refine ⟨ex.c, dd, rfl, rfl, m, envAs cl.o a dd ex env, vh, ksAs cl.o k, hr, ?_, h' a dd, ?_⟩
      · cases cl.o with
        | none => exact er
        | some i => exact er.set rd
      · cases cl.o with
        | none => exact ⟨o.nx, o.rt, o.bk, o.ct, fun _ _ _ _ _ _ _ _ _ _ _ _ z => z.elim⟩
        | some i => exact ⟨fun m' vh' H' env' σ' s h1 e1 kk => o.nx m' vh' H' _ _ s h1 e1.unset kk, o.rt, fun m' vh' H' env' σ' s h1 e1 kk => o.bk m' vh' H' _ _ s h1 e1.unset kk, fun m' vh' H' env' σ' s h1 e1 kk => o.ct m' vh' H' _ _ s h1 e1.unset kk, fun _ _ _ _ _ _ _ _ _ _ _ _ z => z.elim⟩
    · refine try_wish hL hr er o ⟨rfl, dd, fs, rfl, eH, en, rs⟩ (fun cl' h' => hm cl' (List.mem_cons_of_mem _ h')) ?_
      have h2 := h
      unfold exTry at h2
      rw [hb] at h2
      exact h2
theorem ClsAre.exm : ∀ {hds : List ExceptHandler} {l : List Cl}, ClsAre X L hds l → ∀ cl ∈ l, ∀ c ∈ L, PySem.W.exmOne X.K (.ref (He.ga X.K c)) (.ref (He.ga X.K cl.c)) = some (cl.sub c) := by
  intro hds l h
  induction h with
  | nil => intro cl h; cases h
  | cons hc hn hm hsu r ih =>
    intro cl h c hc'
    rcases List.mem_cons.mp h with rfl | h
    · exact hm c hc'
    · exact ih cl h c hc'
theorem ss_try {cs : List Cl} (hs : X.stack = X.env :: X.outer) (hf : X.env.frame = some X.env.locals) (hN : X.N.Nodup) (tk : L2N.Takes X W)
    (hb : ∀ (W' : WX) (pn : List (Addr × Obj)) (xe : Value → Shared → Prop), L2N.Takes (X.tr pn xe) W' → PassesOwn (model X.prog X.w) X.A X.env xe → SSs (X.tr pn xe) W' sb body) (hh : ClsAre X L (h₀ :: hds) cs) : SS X W (sTry L sb cs) (.Try body (h₀ :: hds) [] [] pos) := by
  refine psImp (ps_try_mix (tb := fun W' => tS X.K W' sb) (Wout := W) hs hf hN tk (fun W' pn xe t p => hb W' pn xe t p) hh.mix) fun Dn σ H ⟨m, env, vh, k, hr, er, h, o⟩ => ?_
  refine ⟨m, env, vh, _, hr, er, h, o.nx, o.rt, o.bk, o.ct, fun m' vh' H' env' σ' ex cls dd s hr' er' rx hx => ?_⟩
  exact try_wish hx.1 hr' er' (o.step s) rx (fun cl hcl => hh.exm cl hcl _ hx.1) hx.2
end
/-! ### e.f in a suite -/
def sXf (a dd : Addr) (c : Str) (c0 : Str) (L : List Str) (j i : Nat) : SemE := fun env vh _ kd => match look env i with
  | some (.exn a' dd' _ ns ds) => (a' = a ∧ dd' = dd ∧ c = c0 ∧ ns.take (j + 1) = L) ∧ ∃ d, ds[j]? = some d ∧ kd d vh
  | _ => False
section
variable {X : Cx}
theorem se_xf {a dd : Addr} {c c0 f x : Str} {fs L : List Str} {j i : Nat} {oe : Obj} {pn : List (Addr × Obj)} {p pos : Pos} (T : ExC X.prog X.w X.K X.mg X.base c0 fs) (hf : f ∈ fs) (hL : L[j]? = some f) (hnL : f ∉ L.take j) (hz : L2N.Zn (.ref (He.ga X.K c)) (some dd) oe) (hfl : ∃ vs, oe.data = .fields vs) (hN : X.N[i]? = some x) (hv : Vis X.env.scope x := by first | exact Or.inl rfl | exact Or.inr (Or.inl rfl) | exact Or.inr (Or.inr rfl))
    (hd : (x == ("__debug__" : Str)) = false := by decide) (hcd : (x == ("__classdict__" : Str)) = false := by decide) (hb : attributeBase (.Name x p) f X.env (eval (.Name x p) X.env) = eval (.Name x p) X.env := by rfl) :
    SE (X.suite a ((a, oe) :: pn)) W0 (sXf a dd c c0 L j i) (.Attribute (.Name x p) f pos) := by
  by_cases hc : c = c0
  · subst hc
    refine peImp (pe_xf T.xf (T.fld f hf) hz.zc hfl (pe_var (X := X.suite a ((a, oe) :: pn)) hN hv hd hcd) hb) fun σ H Q ⟨m, env, vh, kx, kd, hr, er, h, ho, ox⟩ => ?_
    revert h
    show (match look env i with | some (.exn a' dd' _ ns ds) => (a' = a ∧ dd' = dd ∧ c = c ∧ ns.take (j + 1) = L) ∧ ∃ d, ds[j]? = some d ∧ kd d vh | _ => False) → _
    cases e : look env i with
    | none => exact False.elim
    | some d0 =>
      cases d0 with
      | exn a' dd' c' ns ds =>
        rintro ⟨⟨rfl, rfl, _, eL⟩, d, ed, kk⟩
        obtain ⟨v, ev, rv⟩ := er.2 i _ (look_at e)
        simp only [Rep] at rv
        obtain ⟨rfl, fs', eH, _, en, rs⟩ := rv
        obtain ⟨v', ev', rv'⟩ := rs.get ed
        refine ⟨_, ev, rfl, rfl, dd', fs', v', rfl, eH, lookup_ix (j := j) ?_ ?_ ev', ho m vh H d v' (Step.refl _ _) hr rv' kk⟩
        · rw [en]
          have : ns.take j = L.take j := by rw [← eL, List.take_take, Nat.min_eq_left (Nat.le_succ j)]
          rw [this]; exact hnL
        · rw [en]
          have : (ns.take (j + 1))[j]? = some f := by rw [eL]; exact hL
          rw [List.getElem?_take_of_lt (Nat.lt_succ_self j)] at this
          exact this
      | _ => exact False.elim
  · refine ⟨fun pins s σ H Q I ⟨m, env, vh, kx, kd, hr, er, h, ho, ox⟩ => ?_⟩
    exfalso
    revert h
    show (match look env i with | some (.exn a' dd' _ ns ds) => (a' = a ∧ dd' = dd ∧ c = c0 ∧ ns.take (j + 1) = L) ∧ ∃ d, ds[j]? = some d ∧ kd d vh | _ => False) → False
    cases e : look env i with
    | none => exact id
    | some d0 =>
      cases d0 with
      | exn a' dd' c' ns ds => exact fun h => hc h.1.2.2.1
      | _ => exact id
end
end
end VI

end
section
/-! VI13: while an exception is handled: calls, for over a range; try bodies, suites. -/
namespace VI
open PySem PySem.Spec L2
open PyProof.Rows hiding St

section
variable {X : Cx} {W : WX} {T : Nat → Option Fn} {hots : List Nat} {k : Nat} {fn : Fn} {x : Str} {p pos : Pos} {e : Expr} {es : List Expr} {sl : SemA} {f : Nat}
theorem CxF.tr (c : CxF X T hots k) (pn : List (Addr × Obj)) (xe : Value → Shared → Prop) : CxF (X.tr pn xe) T hots k := ⟨c.room, c.calm, c.fns, c.hfn, c.ids⟩
theorem CxF.suite (c : CxF X T hots k) {a : Addr} {oe : Obj} {cls : Value} {d : Option Addr} (pn : List (Addr × Obj)) (hz : L2N.Zn cls d oe) (hf : ∃ vs, oe.data = .fields vs) : CxH (X.suite a ((a, oe) :: pn)) T hots k := by
  obtain ⟨vs, hv⟩ := hf
  exact ⟨L2H.roomH_mark c.room (some (.ref a)), ⟨(a, oe), ⟨rfl, vs, hv, hz.2.2 vs hv⟩, List.mem_cons_self⟩, c.hfn, c.ids⟩
theorem takesS {a : Addr} {pn : List (Addr × Obj)} : L2N.Takes (X.suite a pn) W0 := fun u s' ⟨a, B, sI, pins, σ, H, cls, d, e, I, nb, up, sky, na, os, ag, w⟩ => w.elim
theorem se_callH (c : CxH X T hots k) (tk : L2N.Takes X W) (hf : T f = some fn) (hh : f ∈ hots) (ha0 : fn.at_ = (x, none)) (hg : Gl X x) (hm : X.mg x = some (.ref (He.ga X.K x))) (ha : SA X W sl (e :: es)) (hdb : (x == ("__debug__" : Str)) = false := by decide)
    (he : starEach (e :: es) X.env = (false, eval e X.env) :: starEach es X.env := by rfl) (hpl : (backTo pos (starEach es X.env)).any (·.1) = false := by rfl) : SE X W (sCall (callN T k) f sl) (.Call (.Name x p) (e :: es) [] pos) := by
  obtain ⟨fd, F, hb, ok⟩ := c.hfn f fn hf hh
  have hi := c.ids f fn hf
  have ead : He.fAd X.K fn.at_ = He.ga X.K x := by rw [ha0]; rfl
  rw [ead] at F ok
  refine peImp (L2H.pe_callH (E := WE W) ok (c.room.mono (by omega)) c.hot hg hm F.kp hb (fun σ => L2N.passAt tk σ) ha hdb he hpl) fun σ H Q ⟨m, env, vh, kx, kd, hr, er, h, ho, ox⟩ => ?_
  exact tA.go hr er ox h fun m1 vh1 H1 ds vs s1 hr1 er1 ox1 r1 k1 => spV_at (m0 := m) (H0 := H) hr1 r1 hf hi k1 (ho.step s1) ox1
/-! ### for over a range -/
def SIH (X : Cx) (W : WX) (sem : SemI) (tg it : Expr) : Prop := L2H.PIH X tg it (tI X.K W sem)
theorem si_range1H {a tg : Expr} (hg : Gl X "range") (hm : X.mg "range" = none) (ha : SA X W sl [a]) (hs : starEach [a] X.env = [(false, eval a X.env)] := by rfl) : SIH X W (sItA oRng1 sl) tg (.Call (.Name "range" p) [a] [] pos) := by
  refine ⟨fun pins s σ H R I ⟨m, env, vh, kx, ki, hr, er, hs', o, ox⟩ => (L2H.pi_range1H hg hm ha hs).run pins s σ H R I ?_⟩
  refine tA.go hr er ox hs' fun m1 vh1 H1 ds vs s1 hr1 er1 ox1 r1 k1 => ?_
  obtain ⟨j, rfl, h1, h2, k2⟩ := oRng1_inv k1
  exact ⟨j, Reps.ints.mp r1, h1, h2, o m1 vh1 H1 _ _ s1 hr1 (src_rng 0 j.toNat) k2⟩
variable {tg iter : Expr} {body : List Stmt} {si : SemI} {g : SemG} {sb : SemS} {ws : List Nat}
theorem ss_forH (hp : PassesOwn (model X.prog X.w) X.A X.env X.xe) (hc : L2H.HotC X) (hi : SIH X W si tg iter) (hg : SG X ws g tg) (hb : SSs X W sb body) (hs : ∀ x, foldedSetIterable iter X.env x = pure x := by intro _; rfl) : SS X W (sFor si g sb) (.For tg iter body [] pos) := by
  refine psImp (L2H.ps_forH hp hc hi hg hb hs) fun Dn σ H ⟨m, env, vh, k, hr, er, hs, o⟩ => ?_
  exact for_of hr er hs o
end
end VI

end
section
/-! VI14: keyword arguments by their order; += of ints. -/
namespace VI
open PySem PySem.Spec L2
open PyProof.Rows hiding St
def perm {α : Type} (ix : List Nat) (xs : List α) : List α := ix.filterMap fun i => xs[i]?
theorem perm_vals {ix : List Nat} {xs : List V} {us : List Value} (r : Vals xs us) : Vals (perm ix xs) (perm ix us) := by
  induction ix with
  | nil => exact .nil
  | cons i ix ih =>
    unfold perm at ih ⊢
    rw [List.filterMap_cons, List.filterMap_cons]
    cases e : xs[i]? with
    | none =>
      have hl := r.length
      have e2 : us[i]? = none := by rw [List.getElem?_eq_none_iff] at e ⊢; omega
      rw [e2]
      exact ih
    | some v =>
      obtain ⟨u, e2, ru⟩ := r.get e
      rw [e2]
      exact .cons ru ih
theorem perm_reps {K : PySem.W.Frag} {m : Map} {H : Hp} {ix : List Nat} {ds : List D} {xs : List V} (r : Reps K m H ds xs) : Reps K m H (perm ix ds) (perm ix xs) := by
  induction ix with
  | nil => exact Reps.nil
  | cons i ix ih =>
    unfold perm at ih ⊢
    rw [List.filterMap_cons, List.filterMap_cons]
    cases e : ds[i]? with
    | none =>
      have hl := r.len
      have e2 : xs[i]? = none := by rw [List.getElem?_eq_none_iff] at e ⊢; omega
      rw [e2]
      exact ih
    | some v =>
      obtain ⟨u, e2, ru⟩ := r.get e
      rw [e2]
      exact .cons ru ih
theorem kwPerm {fn : Fn} {n : Nat} {ks : List Str} {ix : List Nat} (h : ∀ (kV doc pm : Value) (an : Option Addr) (cdv ct : Value) (us ws : List Value), us.length = n → ws.length = ks.length → bindArgs (PySem.W.fnOf fn.name fn.qual (defArgs fn.st) (defBody fn.st) (defScope fn.st) .none kV doc pm an cdv ct) ⟨us, ks.zip ws⟩ = pure (fn.ps.zip (perm ix (us ++ ws)))) :
    KwOk fn n ks (fun us ws => perm ix (us ++ ws)) := ⟨h, fun r1 r2 => perm_vals (r1.append r2), fun r1 r2 => perm_reps (r1.app r2)⟩
def oAddI : SO2 := oI0 fun i j => .int (i + j)
theorem sn_addI {K : PySem.W.Frag} : SnIp K oAddI (rI0 fun i j => .int (i + j)) := sn_I0 fun _ _ _ _ => rfl
theorem sn_subI {K : PySem.W.Frag} : SnIp K oSub (rI0 fun i j => .int (i - j)) := sn_I0 fun _ _ _ _ => rfl
end VI

end
section
/-! VI15: facts read at the head; all defs at all levels; the law. -/
namespace VI
open PySem PySem.Spec L2
open PyProof.Rows hiding St

/-! ### own classes of exceptions -/
def oexB (K : PySem.W.Frag) (C : Addr) : Bool :=
  (match K.lookup C with
  | some ⟨.type ct, _, .cls cd, sl⟩ => (match cd.mro, sl.toList with
    | .ref C' :: bm, [_, _, _, _, some (.builtin n), _] => decide (ct = "type") && (decide (C' = C) && (decide (n = "ValueError.__new__") && (!cd.hasDel && (cd.hasDict && PySem.HandSPX.refsVE bm))))
    | _, _ => false)
  | _ => false) && (He.eqO (PySem.W.findIn K (.ref C) "__setattr__") (some (some (.builtin "object.__setattr__"))) && (decide (PySem.W.subIn K (.ref C) (.type "BaseException") = some true) && (decide (PySem.W.typeIn K (.ref C) = some (.type "type")) && PySem.W.keepIn K (.ref C))))
theorem oexB_ok {K : PySem.W.Frag} {C : Addr} (h : oexB K C = true) : OexC K C := by
  obtain ⟨h1, h⟩ := He.ba h
  obtain ⟨h2, h⟩ := He.ba h
  obtain ⟨h3, h⟩ := He.ba h
  obtain ⟨h4, h5⟩ := He.ba h
  refine ⟨?_, He.eqO_ok h2, of_decide_eq_true h3, of_decide_eq_true h4, h5⟩
  split at h1
  · rename_i ct od cd sl ho
    split at h1
    · rename_i C' bm k0 k1 k2 k3 n k5 hm hs
      obtain ⟨a0, h1⟩ := He.ba h1
      obtain ⟨a1, h1⟩ := He.ba h1
      obtain ⟨a2, h1⟩ := He.ba h1
      obtain ⟨a3, h1⟩ := He.ba h1
      obtain ⟨a4, a5⟩ := He.ba h1
      have b0 := of_decide_eq_true a0
      have b1 := of_decide_eq_true a1
      have b2 := of_decide_eq_true a2
      obtain ⟨nm, bs, mro, ns, qn, hd, sn, sub, ab, col, del⟩ := cd
      simp only [Bool.not_eq_true'] at a3
      dsimp only at hm a3 a4
      subst b0 b1 b2 hm a3 a4
      have hsl : sl = #[k0, k1, k2, k3, some (.builtin "ValueError.__new__"), k5] := by
        obtain ⟨l⟩ := sl
        simp only at hs
        rw [hs]
      subst hsl
      exact ⟨_, _, _, _, _, _, _, _, _, _, _, _, _, _, _, ho, a5⟩
    · cases h1
  · cases h1
def exB (K : PySem.W.Frag) (q : Str × List Str) : Bool :=
  oexB K (He.ga K q.1) && (He.eqO (PySem.W.findIn K (.ref (He.ga K q.1)) "__init__") (some (some (.ref (He.ma K (He.ga K q.1) "__init__")))) && (decide (PySem.W.typeIn K (.ref (He.ma K (He.ga K q.1) "__init__")) = some (.type "function")) &&
    (xfB K (He.ga K q.1) && q.2.all fun f => He.eqO (PySem.W.findIn K (.ref (He.ga K q.1)) f) (some none))))
theorem ExC.by1 {P : Program} {w : World} {K : PySem.W.Frag} {mg : Str → Option Value} {base : Heap} {c f : Str} (h : exB K (c, [f]) = true)
    (F : OexC K (He.ga K c) → PySem.W.findIn K (.ref (He.ga K c)) f = some none → ∃ fd ps, Binds K fd ps [] ∧ FnOk P w K mg base (L2N.CX P w) 1 (He.ma K (He.ga K c) "__init__") fd ps (spEx K (He.ga K c) [f])) : ExC P w K mg base c [f] := by
  obtain ⟨h1, h⟩ := He.ba h
  obtain ⟨h2, h⟩ := He.ba h
  obtain ⟨h3, h⟩ := He.ba h
  obtain ⟨h4, h5⟩ := He.ba h
  have hf := He.eqO_ok (List.all_eq_true.mp h5 f List.mem_cons_self)
  exact ⟨oexB_ok h1, He.eqO_ok h2, of_decide_eq_true h3, xfB_ok h4, fun g hg => He.eqO_ok (List.all_eq_true.mp h5 g hg), F (oexB_ok h1) hf⟩
theorem ExC.by2 {P : Program} {w : World} {K : PySem.W.Frag} {mg : Str → Option Value} {base : Heap} {c f g : Str} (h : exB K (c, [f, g]) = true)
    (F : OexC K (He.ga K c) → PySem.W.findIn K (.ref (He.ga K c)) f = some none → PySem.W.findIn K (.ref (He.ga K c)) g = some none → ∃ fd ps, Binds K fd ps [] ∧ FnOk P w K mg base (L2N.CX P w) 1 (He.ma K (He.ga K c) "__init__") fd ps (spEx K (He.ga K c) [f, g])) : ExC P w K mg base c [f, g] := by
  obtain ⟨h1, h⟩ := He.ba h
  obtain ⟨h2, h⟩ := He.ba h
  obtain ⟨h3, h⟩ := He.ba h
  obtain ⟨h4, h5⟩ := He.ba h
  exact ⟨oexB_ok h1, He.eqO_ok h2, of_decide_eq_true h3, xfB_ok h4, fun g hg => He.eqO_ok (List.all_eq_true.mp h5 g hg),
    F (oexB_ok h1) (He.eqO_ok (List.all_eq_true.mp h5 f List.mem_cons_self)) (He.eqO_ok (List.all_eq_true.mp h5 g (List.mem_cons_of_mem _ List.mem_cons_self)))⟩
/-- which clause takes which class -/
def exmB (K : PySem.W.Frag) (L : List Str) (sub : Str → Str → Bool) (c : Str) : Bool := L.all fun d => decide (PySem.W.exmOne K (.ref (He.ga K d)) (.ref (He.ga K c)) = some (sub c d))
theorem exmB_ok {K : PySem.W.Frag} {L : List Str} {sub : Str → Str → Bool} {c : Str} (h : exmB K L sub c = true) : ∀ d ∈ L, PySem.W.exmOne K (.ref (He.ga K d)) (.ref (He.ga K c)) = some (sub c d) := fun d hd => of_decide_eq_true (List.all_eq_true.mp h d hd)
def bltB (K : PySem.W.Frag) (x : Str) (id : String) : Bool := He.eqO (PySem.W.nsIn K mainGlobals x) (some (some (.builtin id)))
theorem bltB_ok {K : PySem.W.Frag} {h : Heap} {mg : Str → Option Value} (X : K.In h) (G : h.Ns mainGlobals mg) {x : Str} {id : String} (c : bltB K x id = true) : mg x = some (.builtin id) := PySem.W.mg_of X G (He.eqO_ok c)
/-! ### the Hook -/
def obsV (fa : List He.Fa) (fn : List He.DefD) (ex : PySem.W.Frag → Bool) (K : PySem.W.Frag) : He.AlD := (ex K && (He.obsD fa fn K).1, (He.obsD fa fn K).2)
def SaysV (fa : List He.Fa) (fn : List He.DefD) (ex : PySem.W.Frag → Bool) (K : PySem.W.Frag) : Prop := obsV fa fn ex K = He.valD fn
def obsVG (n : Nat) (fa : List He.Fa) (fn : List He.DefD) (ex : PySem.W.Frag → Bool) (g : Addr → Option Obj) : He.AlD := obsV fa fn ex (He.frG g (He.asD g n))
def hookV (n : Nat) (fa : List He.Fa) (fn : List He.DefD) (ex : PySem.W.Frag → Bool) : PySem.W.Hook where
  α := He.AlD
  obs := fun s => obsVG n fa fn ex s.heap.get?
  val := fun _ => He.valD fn
  says := fun _ h => ∃ K : PySem.W.Frag, K.In h ∧ SaysV fa fn ex K
  of := fun _ _ e => ⟨_, He.frG_in, e⟩
  keeps := fun _ _ _ ⟨K, hK, c⟩ k => ⟨K, PySem.W.Frag.In.keeps hK k, c⟩
theorem obsVG_eq {n : Nat} {fa : List He.Fa} {fn : List He.DefD} {ex : PySem.W.Frag → Bool} {g : Addr → Option Obj} {s : Shared} (h : ∀ a, g a = s.heap.get? a) : obsVG n fa fn ex g = (hookV n fa fn ex).obs s := by
  have e : g = s.heap.get? := funext h
  rw [e] <;> rfl
theorem SaysV.both {fa : List He.Fa} {fn : List He.DefD} {ex : PySem.W.Frag → Bool} {K : PySem.W.Frag} (c : SaysV fa fn ex K) : ex K = true ∧ He.SaysD fa fn K := by
  have h1 : (ex K && (He.obsD fa fn K).1) = true := congrArg (fun z : He.AlD => z.1) c
  have h2 : (He.obsD fa fn K).2 = fn.map He.DefD.val := congrArg (fun z : He.AlD => z.2) c
  obtain ⟨a, b⟩ := He.ba h1
  exact ⟨a, Prod.ext b h2⟩
/-! ### all defs, all levels -/
def AllIx (p : Nat → Fn → Prop) : Nat → List Fn → Prop
  | _, [] => True
  | n, f :: r => p n f ∧ AllIx p (n + 1) r
theorem AllIx.at {p : Nat → Fn → Prop} : ∀ {l : List Fn} {n i : Nat} {f : Fn}, AllIx p n l → l[i]? = some f → p (n + i) f
  | [], _, _, _, _, h => by simp at h
  | g :: r, n, 0, f, h, e => by
    simp at e
    subst e
    exact h.1
  | g :: r, n, i + 1, f, h, e => by
    have := AllIx.at (i := i) h.2 (by simpa using e)
    rw [show n + (i + 1) = n + 1 + i by omega]
    exact this
def tab (l : List Fn) : Nat → Option Fn := fun i => l[i]?
/-- what each def brings -/
structure FnMk (P : Program) (w : World) (K : PySem.W.Frag) (mg : Str → Option Value) (base : Heap) (T : Nat → Option Fn) (hots : List Nat) (f : Nat) (fn : Fn) : Prop where
  id : fn.id = f
  fd : ∃ fd, FunD K fn.name fn.qual (defArgs fn.st) (defBody fn.st) (defScope fn.st) [] [] (He.fAd K fn.at_) fd
  sc : FnScope fn.N fn.ps (defScope fn.st)
  bd : BindOk fn
  der : ∀ (k : Nat) (cdv : Value) (A : Around) (outer : List PySem.Env) (s : Shared) (H : Hp) (E : XK), CxF (cxF P w K mg base fn cdv A outer s H E) T hots k → SSs (cxF P w K mg base fn cdv A outer s H E) (wE E) (fn.sem (callN T k)) (defBody fn.st)
  derH : f ∈ hots → ∀ (k : Nat) (cdv : Value) (A : Around) (outer : List PySem.Env) (s : Shared) (H : Hp) (E : XK) (p : Addr × Obj), CxH (cxH P w K mg base fn cdv A outer s H E p) T hots k → SSs (cxH P w K mg base fn cdv A outer s H E p) (wE E) (fn.sem (callN T k)) (defBody fn.st)
section
variable {P : Program} {w : World} {K : PySem.W.Frag} {mg : Str → Option Value} {base : Heap} {T : Nat → Option Fn} {hots : List Nat}
theorem all_levels (M : ∀ f fn, T f = some fn → FnMk P w K mg base T hots f fn) : ∀ k, (∀ f fn, T f = some fn → FnAt P w K mg base (callN T k) (3 * k) fn) ∧ ∀ f fn, T f = some fn → f ∈ hots → FnAtH P w K mg base (callN T k) (3 * k) fn
  | 0 => ⟨fun f fn e => (M f fn e).fd.elim fun _ F => FnAt.zero F (M f fn e).bd, fun f fn e _ => (M f fn e).fd.elim fun _ F => FnAtH.zero F (M f fn e).bd⟩
  | k + 1 => by
    obtain ⟨h1, h2⟩ := all_levels M k
    have ids : ∀ f gn, T f = some gn → gn.id = f := fun f gn e => (M f gn e).id
    refine ⟨fun f fn e => ?_, fun f fn e hf => ?_⟩
    · obtain ⟨fd, F⟩ := (M f fn e).fd
      exact FnAt.made (by rw [(M f fn e).id]; exact e) F (M f fn e).sc (M f fn e).bd ids h1 h2 fun cdv A outer s H E c => (M f fn e).der k cdv A outer s H E c
    · obtain ⟨fd, F⟩ := (M f fn e).fd
      exact FnAtH.made (by rw [(M f fn e).id]; exact e) F (M f fn e).sc (M f fn e).bd ids h2 fun cdv A outer s H E p c => (M f fn e).derH hf k cdv A outer s H E p c
end
/-! ### the law -/
def m0 : Map := ⟨fun _ => none, fun _ => False⟩
theorem hr0 {K : PySem.W.Frag} {H : Hp} : Hr K m0 H [] :=
  ⟨fun p => ⟨fun ⟨a, e⟩ => (by cases e), fun h => (by simp at h)⟩, fun p q a e => (by cases e), fun p c a e => (by simp at e), fun a z => False.elim z⟩
theorem script_rep {K : PySem.W.Frag} {H : Hp} {a : Addr} {ns : List Int} (hO : Only H) (hS : SqL K H a (ns.map V.int)) : Rep K m0 H (.scr ns) (.ref a) := by
  simp only [Rep]
  refine ⟨a, rfl, ?_⟩
  rcases hS with (e | ⟨o, e⟩) | h
  · rcases hO a with z | ⟨o, xs, z⟩ <;> rw [z] at e <;> cases e
  · exact .inl ⟨o, e⟩
  · exact .inr (.inr h)
theorem law_walk {l : PySem.W.OpenLaw} {n k f : Nat} {q : Program} {loose : List Str} {XP : (Str → Option Value) → Heap → Prop} {YP : World → Heap → Prop} {d : DefRec} {T : Nat → Option Fn} {hots : List Nat} {fn : Fn} {x : Str}
    (hn : l.most = some n) (hn2 : n ≤ sizeLine) (hdf : d.params.defaults = []) (hr : Room (3 * k) callerA) (hT : T f = some fn) (hps : fn.ps = [x]) (hat : fn.at_ = (d.name, none))
    (F : ∀ (w : World) (mg : Str → Option Value) (h : Heap), YP w h → h.Ns mainGlobals mg → ∃ K : PySem.W.Frag, K.In h ∧ mg d.name = some (.ref (He.ga K d.name)) ∧ ∀ base : Heap, K.In base → base.Ns mainGlobals mg → ∀ f fn, T f = some fn → FnMk l.prog w K mg base T hots f fn)
    (spec : ∀ ns : List Int, ns.length ≤ n → callN T k f [.scr ns] [] noX fun d _ => d = .bl true) :
    PySem.W.WalkO q loose XP YP l.row.toRowW d [] (fun f vs => PySem.call f vs) := by
  refine Att.attach_call hn hdf fun w s₀ s₁ mg mb fa o pm cd doc a vs ns G Y ho hd hcd hmg hobj hints hlen hg => ?_
  obtain ⟨K, KX, hmg2, hF⟩ := F w mg _ Y G.T.g
  rw [hmg] at hmg2
  cases hmg2
  have M0 := hF _ KX G.T.g f fn hT
  obtain ⟨fd, FD⟩ := M0.fd
  have hfa : He.fAd K fn.at_ = He.ga K d.name := by rw [hat]; rfl
  have lvl : ∀ base : Heap, K.In base → base.Ns mainGlobals mg → FnOk l.prog w K mg base (L2N.CX l.prog w) (3 * k) (He.ga K d.name) fd [x] (spV K (callN T k) f 1) := fun base kb nb => by
    obtain ⟨fd2, FD2, hb2, ok⟩ := ((all_levels (hF base kb nb) k).1 f fn hT).ex
    have e : fd2 = fd := by
      obtain ⟨_, _, _, _, _, _, _, _, _, _, _, l1, _⟩ := FD.ex
      obtain ⟨_, _, _, _, _, _, _, _, _, _, _, l2, _⟩ := FD2.ex
      rw [l1] at l2
      injection l2 with l2
      injection l2 with _ _ l3 _
      injection l3 with l3
      exact l3.symm
    subst e
    rw [hfa, hps] at ok
    have hi := M0.id
    rw [hi] at ok
    exact ok
  refine law_call (sp := spV K (callN T k) f 1) (CX := L2N.CX l.prog w) (x := x) (fd := fd) KX G.T.g G.T.b G.T.builtins G.T.nolimit hg hobj hints (Nat.le_trans hlen hn2) hr lvl (fun s u => ?_) (fun H hO hS => ?_) fun H e s' => ?_
  · have b := FD.bindsA (ps := fn.ps) M0.bd s [u] (by rw [hps]; rfl)
    rw [hps] at b
    exact b
  · refine ⟨m0, [], [.scr ns], noX, _, hr0, Reps.one (script_rep hO hS), rfl, spec ns hlen, fun m' vh' H' d v s h' r k => ?_, fun m' vh' H' ex cls dd s h' r k => k.elim⟩
    subst k
    exact r
  · rintro ⟨_, _, _, _, _, _, _, _, _, _, _, _, z⟩
    exact z
end VI

end
section
/-! VI16: plain lemmas for the specs. -/
namespace VI
open PySem PySem.Spec L2
open PyProof.Rows hiding St
theorem enter {T : Nat → Option Fn} {k f : Nat} {fn : Fn} {ds : List D} {vh : VH} {kx : KX} {kd : KD} {env : Env} {kind : Kind} (hT : T f = some fn) (hl : ds.length = fn.ps.length) (he : ds.map some ++ List.replicate (fn.N.length - ds.length) none = env) (hk : fn.kind = kind)
    (h : fn.sem (callN T k) env vh ⟨fun _ h' => finD kind vh kd .non h', finD kind vh kd, fun _ _ => False, fun _ _ => False, fun e _ h' => finX kind vh kx e h'⟩) : callN T (k + 1) f ds vh kx kd := by
  subst he
  subst hk
  exact ⟨fn, hT, hl, h⟩
theorem fin_pure {vh : VH} {kd : KD} {d : D} (hl : low vh.length d) (h : kd d vh) : finD .pure vh kd d vh := ⟨[], d, by simp, .low hl, h⟩
theorem finX_pure {vh : VH} {kx : KX} {ex : Exc} (hl : lows vh.length ex.ds) (h : kx ex vh) : finX .pure vh kx ex vh := by
  refine ⟨[], ex.ds, by simp, ?_, h⟩
  have key : ∀ (l : List D), lows vh.length l → Frzs vh vh.length l l := by
    intro l
    induction l with
    | nil => intro _; exact .nil
    | cons d r ih =>
      intro h
      simp only [lows] at h
      exact .cons (.low h.1) (ih h.2)
  exact key _ hl
/-- data without cells -/
def closed (d : D) : Prop := ∀ n, low n d
def closeds (ds : List D) : Prop := ∀ n, lows n ds
/-- data that isinstance tells -/
def pl : D → Bool
  | .non => true | .bl _ => true | .int _ => true | .str _ => true | .tup _ => true | .lst _ => true
  | _ => false
def isInt : D → Bool
  | .int _ => true
  | _ => false
theorem closed_int {i : Int} : closed (.int i) := fun n => by simp only [low]
theorem closed_tup {ds : List D} (h : closeds ds) : closed (.tup ds) := fun n => by simp only [low]; exact h n
theorem closed_lst {ds : List D} (h : closeds ds) : closed (.lst ds) := fun n => by simp only [low]; exact h n
theorem closeds_nil : closeds [] := fun n => by simp only [lows]
theorem closeds_cons {d : D} {ds : List D} (h1 : closed d) (h2 : closeds ds) : closeds (d :: ds) := fun n => by simp only [lows]; exact ⟨h1 n, h2 n⟩
theorem get_set_self {vh : VH} {p : Nat} {c c' : Cell} (h : vh[p]? = some c') : (vh.set p c)[p]? = some c := by
  have := (List.getElem?_eq_some_iff.mp h).1
  rw [List.getElem?_set_self this]
/-! ### the operators at plain data, by rfl -/
section
variable {vh : VH} {kd : KD} {i j : Int} {x y : Str} {xs ys : List D} {a b : Bool} {c : Bool} {d : D} {C : Int → Int → Prop} {ki : Src → VH → Prop} {ns : List Int} {p : Nat} {lo hi : Option Int}
theorem newL_f : newL false xs vh kd = kd (.lst xs) vh := rfl
theorem newL_t : newL true xs vh kd = kd (.ref vh.length) (vh ++ [.lst xs]) := rfl
theorem oAdd_i : oAdd c (.int i) (.int j) vh kd = kd (.int (i + j)) vh := rfl
theorem oAdd_s : oAdd c (.str x) (.str y) vh kd = (x.length + y.length ≤ 16777216 ∧ kd (.str (x ++ y)) vh) := rfl
theorem oAdd_t : oAdd c (.tup xs) (.tup ys) vh kd = (xs.length + ys.length ≤ 16777216 ∧ kd (.tup (xs ++ ys)) vh) := rfl
theorem oAdd_l : oAdd c (.lst xs) (.lst ys) vh kd = (xs.length + ys.length ≤ 16777216 ∧ newL c (xs ++ ys) vh kd) := rfl
theorem oMul_i : oMul c (.int i) (.int j) vh kd = (MulOk i j ∧ kd (.int (i * j)) vh) := rfl
theorem oSub_i : oSub (.int i) (.int j) vh kd = kd (.int (i - j)) vh := rfl
theorem oFdiv_i : oFdiv (.int i) (.int j) vh kd = (CDivW i j ∧ kd (.int (i / j)) vh) := rfl
theorem oMod_i : oMod (.int i) (.int j) vh kd = (0 < j ∧ kd (.int (i % j)) vh) := rfl
theorem oPow_i : oPow (.int i) (.int j) vh kd = (CPow i j ∧ kd (.int (i ^ j.toNat)) vh) := rfl
theorem oLt_i : oLt (.int i) (.int j) vh kd = kd (.bl (decide (i < j))) vh := rfl
theorem oLe_i : oLe (.int i) (.int j) vh kd = kd (.bl (decide (i ≤ j))) vh := rfl
theorem oGt_i : oGt (.int i) (.int j) vh kd = kd (.bl (decide (j < i))) vh := rfl
theorem oGe_i : oGe (.int i) (.int j) vh kd = kd (.bl (decide (j ≤ i))) vh := rfl
theorem oNeg_i : oNeg (.int i) vh kd = kd (.int (-i)) vh := rfl
theorem oAddI_i : oAddI (.int i) (.int j) vh kd = kd (.int (i + j)) vh := rfl
theorem oEq_ii : oEq (.int i) (.int j) vh kd = kd (.bl (i == j)) vh := rfl
theorem oEq_ss : oEq (.str x) (.str y) vh kd = kd (.bl (x == y)) vh := rfl
theorem oEq_bb : oEq (.bl a) (.bl b) vh kd = kd (.bl (a == b)) vh := rfl
theorem oEq_nn : oEq .non .non vh kd = kd (.bl true) vh := rfl
theorem oEq_ni : oEq .non (.int j) vh kd = kd (.bl false) vh := rfl
theorem oEq_in : oEq (.int i) .non vh kd = kd (.bl false) vh := rfl
theorem oEq_ns : oEq .non (.str y) vh kd = kd (.bl false) vh := rfl
theorem oEq_sn : oEq (.str x) .non vh kd = kd (.bl false) vh := rfl
theorem oEq_is : oEq (.int i) (.str y) vh kd = kd (.bl false) vh := rfl
theorem oEq_si : oEq (.str x) (.int j) vh kd = kd (.bl false) vh := rfl
theorem oNe_ii : oNe (.int i) (.int j) vh kd = kd (.bl (!(i == j))) vh := rfl
theorem oNe_ss : oNe (.str x) (.str y) vh kd = kd (.bl (!(x == y))) vh := rfl
theorem oNe_bb : oNe (.bl a) (.bl b) vh kd = kd (.bl (!(a == b))) vh := rfl
theorem oIs_n : oIs d .non vh kd = kd (.bl (isNon d)) vh := rfl
theorem oIs_b : oIs d (.bl b) vh kd = kd (.bl (isBl b d)) vh := rfl
theorem oIsNot_n : oIsNot d .non vh kd = kd (.bl (!(isNon d))) vh := rfl
theorem oIsNot_b : oIsNot d (.bl b) vh kd = kd (.bl (!(isBl b d))) vh := rfl
theorem isNon_n : isNon .non = true := rfl
theorem isNon_i : isNon (.int i) = false := rfl
theorem isNon_b : isNon (.bl b) = false := rfl
theorem isNon_s : isNon (.str x) = false := rfl
theorem isNon_t : isNon (.tup xs) = false := rfl
theorem isNon_l : isNon (.lst xs) = false := rfl
theorem isNon_r : isNon (.ref p) = false := rfl
theorem isBl_n : isBl c .non = false := rfl
theorem isBl_i : isBl c (.int i) = false := rfl
theorem isBl_b : isBl c (.bl b) = (b == c) := rfl
theorem isBl_s : isBl c (.str x) = false := rfl
theorem isBl_t : isBl c (.tup xs) = false := rfl
theorem isBl_l : isBl c (.lst xs) = false := rfl
theorem isBl_r : isBl c (.ref p) = false := rfl
theorem oIx_t : oIx (.tup xs) (.int i) vh kd = ∃ d, L2.atI xs i = some d ∧ kd d vh := rfl
theorem oIx_l : oIx (.lst xs) (.int i) vh kd = ∃ d, L2.atI xs i = some d ∧ kd d vh := rfl
theorem oIx_s : oIx (.str x) (.int i) vh kd = (x.length ≤ 16777216 ∧ ∃ c, L2.atI x.cps.toList i = some c ∧ kd (.str ⟨#[c]⟩) vh) := rfl
theorem oLen_t : oLen [.tup xs] vh kd = kd (.int xs.length) vh := rfl
theorem oLen_l : oLen [.lst xs] vh kd = kd (.int xs.length) vh := rfl
theorem oLen_c : oLen [.scr ns] vh kd = kd (.int ns.length) vh := rfl
theorem oLen_s : oLen [.str x] vh kd = (x.length ≤ 16777216 ∧ kd (.int x.length) vh) := rfl
theorem oAbs_i : oAbs [.int i] vh kd = kd (.int i.natAbs) vh := rfl
theorem oInt_i : oInt [.int i] vh kd = kd (.int i) vh := rfl
theorem oInt_b : oInt [.bl b] vh kd = kd (.int (if b then 1 else 0)) vh := rfl
theorem oMax2_i : oMax2 [.int i, .int j] vh kd = kd (.int (max i j)) vh := rfl
theorem oMin2_i : oMin2 [.int i, .int j] vh kd = kd (.int (min i j)) vh := rfl
theorem oGcd_i : oGcd [.int i, .int j] vh kd = kd (.int (Nat.gcd i.natAbs j.natAbs : Nat)) vh := rfl
theorem oIter_t : oIter (.tup xs) vh ki = ki ⟨xs, always⟩ vh := rfl
theorem oIter_l : oIter (.lst xs) vh ki = ki ⟨xs, always⟩ vh := rfl
theorem oIter_c : oIter (.scr ns) vh ki = ki ⟨ns.map D.int, always⟩ vh := rfl
theorem oRng1_i : oRng1 [.int j] vh ki = (-(2 ^ 62) ≤ j ∧ j < 2 ^ 62 ∧ ki ⟨rngL 0 j.toNat, always⟩ vh) := rfl
theorem oRng2_i : oRng2 [.int i, .int j] vh ki = ((-(2 ^ 62) ≤ i ∧ i < 2 ^ 62 ∧ -(2 ^ 62) ≤ j ∧ j < 2 ^ 62) ∧ ki ⟨rngL i (j - i).toNat, always⟩ vh) := rfl
theorem oSl_t : oSl c (.tup xs) lo hi vh kd = kd (.tup (cutD xs lo hi)) vh := rfl
theorem oSl_l : oSl c (.lst xs) lo hi vh kd = newL c (cutD xs lo hi) vh kd := rfl
theorem oSl_c : oSl c (.scr ns) lo hi vh kd = newL c ((cutD ns lo hi).map D.int) vh kd := rfl
variable {u : Ty}
theorem oIsi_n : oIsi u .non vh kd = kd (.bl (isT .non u)) vh := rfl
theorem oIsi_b : oIsi u (.bl b) vh kd = kd (.bl (isT .bl u)) vh := rfl
theorem oIsi_i : oIsi u (.int i) vh kd = kd (.bl (isT .int u)) vh := rfl
theorem oIsi_s : oIsi u (.str x) vh kd = kd (.bl (isT .str u)) vh := rfl
theorem oIsi_t : oIsi u (.tup xs) vh kd = kd (.bl (isT .tup u)) vh := rfl
theorem oIsi_l : oIsi u (.lst xs) vh kd = kd (.bl (isT .lst u)) vh := rfl
/-! cells -/
theorem ix_ref {ds : List D} {d : D} (h : vh[p]? = some (.lst ds)) (e : L2.atI ds i = some d) (k : kd d vh) : oIx (.ref p) (.int i) vh kd := by
  show (match vh[p]? with | some (.lst ds) => ∃ d, L2.atI ds i = some d ∧ kd d vh | _ => False)
  rw [h]
  exact ⟨d, e, k⟩
theorem put_ref {ds : List D} {d : D} {j : Nat} {Qn : VH → Prop} (h : vh[p]? = some (.lst ds)) (e : L2.ixN ds.length i = some j) (k : Qn (vh.set p (.lst (ds.set j d)))) : oPut d (.ref p) (.int i) vh Qn := ⟨ds, j, h, e, k⟩
theorem len_ref {ds : List D} (h : vh[p]? = some (.lst ds)) (k : kd (.int ds.length) vh) : oLen [.ref p] vh kd := by
  show (match (match vh[p]? with | some (.lst ds) => some (ds.length : Int) | _ => none) with | some n => kd (.int n) vh | none => False)
  rw [h]
  exact k
theorem iter_rng {n : Nat} (h : vh[p]? = some (.rng 0 (n : Int))) (hn : n ≤ 1000000) (k : ki ⟨rngL 0 n, always⟩ vh) : oIter (.ref p) vh ki := by
  show (match vh[p]? with | some (.lst ds) => ki ⟨ds, stays p ds⟩ vh | some (.rng lo hi) => (-(2 ^ 62) ≤ lo ∧ lo < 2 ^ 62 ∧ -(2 ^ 62) ≤ hi ∧ hi < 2 ^ 62) ∧ ki ⟨rngL lo (hi - lo).toNat, always⟩ vh | _ => False)
  rw [h]
  refine ⟨⟨by decide, by decide, by omega, by omega⟩, ?_⟩
  rw [show ((n : Int) - 0).toNat = n by omega]
  exact k
theorem iter_ref {ds : List D} (h : vh[p]? = some (.lst ds)) (k : ki ⟨ds, stays p ds⟩ vh) : oIter (.ref p) vh ki := by
  show (match vh[p]? with | some (.lst ds) => ki ⟨ds, stays p ds⟩ vh | some (.rng lo hi) => (-(2 ^ 62) ≤ lo ∧ lo < 2 ^ 62 ∧ -(2 ^ 62) ≤ hi ∧ hi < 2 ^ 62) ∧ ki ⟨rngL lo (hi - lo).toNat, always⟩ vh | _ => False)
  rw [h]
  exact k
theorem isi_ref {ds : List D} (h : vh[p]? = some (.lst ds)) (k : kd (.bl (isT .lst u)) vh) : oIsi u (.ref p) vh kd := by
  show (match (match vh[p]? with | some (.lst _) => some Ty.lst | _ => none) with | some t => kd (.bl (isT t u)) vh | none => False)
  rw [h]
  exact k
end
/-! ### loops -/
theorem forL_inv {g : SemG} {body : SemS} {still : VH → Prop} {k : KS} {ds : List D} (I : Nat → Env → VH → Prop) (hs : ∀ i env vh, I i env vh → still vh)
    (step : ∀ i d env vh (nx : Env → VH → Prop), ds[i]? = some d → I i env vh → (∀ e h, I (i + 1) e h → nx e h) → g d env vh fun env' vh' => body env' vh' { k with nx := nx, ct := nx, bk := k.nx })
    (fin : ∀ env vh, I ds.length env vh → k.nx env vh) {env : Env} {vh : VH} (h0 : I 0 env vh) : forL g body still ds env vh k := by
  have key : ∀ (m i : Nat) (env : Env) (vh : VH), ds.length - i = m → i ≤ ds.length → I i env vh → forL g body still (ds.drop i) env vh k := by
    intro m
    induction m with
    | zero =>
      intro i env vh hm hi h
      have e : i = ds.length := by omega
      subst e
      rw [List.drop_length]
      exact ⟨hs _ _ _ h, fin _ _ h⟩
    | succ m ih =>
      intro i env vh hm hi h
      have lt : i < ds.length := by omega
      rw [List.drop_eq_getElem_cons lt]
      refine ⟨hs _ _ _ h, ?_⟩
      exact step i ds[i] env vh _ (List.getElem?_eq_getElem lt) h fun e h' hI => ih (i + 1) e h' (by omega) (by omega) hI
  have := key ds.length 0 env vh (by omega) (by omega) h0
  rwa [List.drop_zero] at this
theorem lcL_map {g : SemG} {c : SemT} {elt : SemE} {still : VH → Prop} {env0 : Env} (f : D → D) {vh : VH} (hs : still vh) : ∀ {ds : List D} {kl : KL}
    (_ : ∀ d ∈ ds, ∀ (kd : KD) (kf : VH → Prop), kd (f d) vh → g d env0 vh fun env' vh' => c env' vh' noX fun b vh2 => match b with
      | true => elt env' vh2 noX fun y vh3 => kd y vh3
      | false => kf vh2) (_ : kl (ds.map f) vh), lcL g c elt still env0 ds vh kl
  | [], kl, _, h => ⟨hs, h⟩
  | d :: r, kl, step, h => ⟨hs, step d List.mem_cons_self _ _ (lcL_map f hs (fun d' hd => step d' (List.mem_cons_of_mem _ hd)) h)⟩
theorem rng_get {lo : Int} {n i : Nat} {d : D} (h : (rngL lo n)[i]? = some d) : i < n ∧ d = .int (lo + i) := by
  have hl := (List.getElem?_eq_some_iff.mp h).1
  rw [rngL_len] at hl
  rw [rngL_get n lo i hl] at h
  exact ⟨hl, (Option.some.inj h).symm⟩
/-! ### numbers -/
theorem div_ok {i j : Int} (h : 0 < j) (hb : j < 2 ^ 1000) : CDivW i j := wide_div h (b := 1000) (by omega) (by decide) (by decide)
theorem mul_ok {i j : Int} (h1 : 0 ≤ i) (h2 : i < 2 ^ 1000) (h3 : 0 ≤ j) (h4 : j < 2 ^ 1000) : MulOk i j := .inr (wide_mul (a := 1000) (b := 1000) (by omega) (by omega) (by decide) (by decide) (by decide))
/-- division by remainders, so many turns -/
def turn : Nat × Nat → Nat × Nat
  | (g, s) => if s = 0 then (g, s) else (s, g % s)
def turns : Nat → Nat × Nat → Nat × Nat
  | 0, p => p
  | n + 1, p => turns n (turn p)
theorem turns_succ : ∀ (n : Nat) (p : Nat × Nat), turns (n + 1) p = turn (turns n p)
  | 0, _ => rfl
  | n + 1, p => by
    show turns (n + 1) (turn p) = turn (turns n (turn p))
    exact turns_succ n (turn p)
theorem turn_at (g s : Nat) : turn (g, s) = if s = 0 then (g, s) else (s, g % s) := rfl
theorem turn_gcd (p : Nat × Nat) : Nat.gcd (turn p).1 (turn p).2 = Nat.gcd p.1 p.2 := by
  obtain ⟨g, s⟩ := p
  rw [turn_at]
  by_cases h : s = 0
  · rw [if_pos h]
  · rw [if_neg h]
    show Nat.gcd s (g % s) = Nat.gcd g s
    rw [Nat.gcd_comm g s, Nat.gcd_rec s g, Nat.gcd_comm]
theorem turns_gcd : ∀ (n : Nat) (p : Nat × Nat), Nat.gcd (turns n p).1 (turns n p).2 = Nat.gcd p.1 p.2
  | 0, _ => rfl
  | n + 1, p => by
    show Nat.gcd (turns n (turn p)).1 (turns n (turn p)).2 = _
    rw [turns_gcd n (turn p), turn_gcd]
/-- two neighbours of the row 1, 1, 2, 3, 5, .. -/
def fibs : Nat → Nat × Nat
  | 0 => (1, 1)
  | n + 1 => ((fibs n).2, (fibs n).1 + (fibs n).2)
theorem turns_more : ∀ (n : Nat) (g s : Nat), (turns n (g, s)).2 ≠ 0 → (fibs n).1 ≤ s ∧ (s ≤ g → (fibs n).2 ≤ g)
  | 0, g, s, h => by
    have h : s ≠ 0 := h
    show 1 ≤ s ∧ (s ≤ g → 1 ≤ g)
    omega
  | n + 1, g, s, h => by
    have h : (turns n (turn (g, s))).2 ≠ 0 := h
    by_cases hs : s = 0
    · have e : turn (g, s) = (g, s) := by rw [turn_at, if_pos hs]
      rw [e] at h
      have q := turns_more n g s h
      have p1 : ∀ m, 1 ≤ (fibs m).1 ∧ 1 ≤ (fibs m).2 := by
        intro m
        induction m with
        | zero => exact ⟨Nat.le_refl _, Nat.le_refl _⟩
        | succ m ih => exact ⟨ih.2, Nat.le_trans ih.1 (Nat.le_add_right _ _)⟩
      have := (p1 n).1
      omega
    · have e : turn (g, s) = (s, g % s) := by rw [turn_at, if_neg hs]
      rw [e] at h
      obtain ⟨q1, q2⟩ := turns_more n s (g % s) h
      have lt := Nat.mod_lt g (Nat.pos_of_ne_zero hs)
      have q3 := q2 (by omega)
      refine ⟨q3, fun hg => ?_⟩
      show (fibs n).1 + (fibs n).2 ≤ g
      have dm := Nat.div_add_mod g s
      have d1 : 1 ≤ g / s := (Nat.one_le_div_iff (Nat.pos_of_ne_zero hs)).mpr hg
      have : s * 1 ≤ s * (g / s) := Nat.mul_le_mul_left s d1
      omega
theorem turns_end {n g s : Nat} (h : s < (fibs n).1) : turns n (g, s) = (Nat.gcd g s, 0) := by
  have h0 : (turns n (g, s)).2 = 0 := by
    by_cases h1 : (turns n (g, s)).2 = 0
    · exact h1
    · have := (turns_more n g s h1).1
      omega
  have h1 := turns_gcd n (g, s)
  rw [h0, Nat.gcd_zero_right] at h1
  exact Prod.ext h1 h0
/-- a cut between two statements -/
theorem seq_inv {s t : SemS} {k : KS} {env : Env} {vh : VH} (I : Env → VH → Prop) (h1 : ∀ nx : Env → VH → Prop, (∀ e h, I e h → nx e h) → s env vh { k with nx := nx }) (h2 : ∀ env vh, I env vh → t env vh k) : sSeq s t env vh k := h1 _ h2
theorem set_same {vh : VH} {p : Nat} {c : Cell} (h : vh[p]? = some c) : vh.set p c = vh := by
  apply List.ext_getElem?
  intro i
  by_cases e : p = i
  · subst e
    rw [get_set_self h, h]
  · rw [List.getElem?_set_ne e]
end VI

end
section
/-! VI17: keyword calls of methods and classes; more built-in functions. -/
namespace VI
open PySem PySem.Spec L2
open PyProof.Rows hiding St

def sMethK (C : Calls) (c mt : Str) (f n l : Nat) (g : List D → List D → List D) (so : SemE) (t tk : SemA) : SemE := fun env vh kx kd => so env vh kx fun d vh1 => match oview vh1 d with
  | some (c', ns, _) => c' = c ∧ mt ∉ ns ∧ t env vh1 kx fun ds vh2 => tk env vh2 kx fun es vh3 => ds.length + 1 = n ∧ es.length = l ∧ C f (g (d :: ds) es) vh3 kx kd
  | none => False
section
variable {X : Cx} {W : WX} {T : Nat → Option Fn} {hots : List Nat} {k : Nat} {fn : Fn} {x c mt : Str} {p pos apos : Pos} {e o : Expr} {es : List Expr} {sl slk : SemA} {so se : SemE} {f n : Nat} {kws : List Keyword} {ks : List Str} {g : {α : Type} → List α → List α → List α}
theorem tMethK_of (cx : CxF X T hots k) (kw : KwOk fn n ks @g) (hf : T f = some fn) (hi : fn.id = f) {σ : L2.St} {H : Hp} {Q : VK} (h : tE X.K W (sMethK (callN T k) c mt f n ks.length g so sl slk) σ H Q) :
    tE X.K W so σ H fun x H1 => ∃ a dx fs, x = .ref a ∧ H1 a = some (.ins (He.ga X.K c) dx fs) ∧ fs.lookup mt = none ∧ tA X.K W sl σ H1 fun vs H2 => tA X.K W slk σ H2 fun zs H3 => vs.length + 1 = n ∧ zs.length = ks.length ∧ spV X.K (callN T k) fn.id fn.ps.length (g (x :: vs) zs) H3 Q (WE W σ) := by
  obtain ⟨m, env, vh, kx, kd, hr, er, h, ho, ox⟩ := h
  refine tE.go hr er ox h fun m1 vh1 H1 d v s1 hr1 er1 ox1 r1 k1 => ?_
  cases e : oview vh1 d with
  | none => rw [e] at k1; exact k1.elim
  | some q =>
    obtain ⟨c', ns, ds⟩ := q
    rw [e] at k1
    obtain ⟨rfl, en0, kk⟩ := k1
    obtain ⟨a, dx, fs, ev, ea, en, rs⟩ := oview_rep hr1 r1 e
    refine ⟨a, dx, fs, ev, ea, lookup_none (by rw [en]; exact en0), ?_⟩
    refine tA.go hr1 er1 ox1 kk fun m2 vh2 H2 es vs s2 hr2 er2 ox2 r2 k2 => tA.go hr2 er2 ox2 k2 fun m3 vh3 H3 fs zs s3 hr3 er3 ox3 r3 k3 => ?_
    refine ⟨by rw [← r2.len]; exact k3.1, by rw [← r3.len]; exact k3.2.1, ?_⟩
    have rd : Rep X.K m3 H3 d v := Rep.step hr2 s3 _ _ (Rep.step hr1 s2 _ _ r1)
    exact spV_at (m0 := m) (H0 := H) hr3 (kw.reps (Reps.cons rd (Reps.step hr2 s3 _ _ r2)) r3) hf hi k3.2.2 (ho.step (s1.trans (s2.trans s3))) ox3
/-- o.m(k = v, ..) -/
theorem se_methK0 {pl : Sem Bool} (cx : CxF X T hots k) (tk : L2N.Takes X W) (hf : T f = some fn) (ha0 : fn.at_ = (c, some mt)) (kw : KwOk fn n ks @g) (cl : Cls X.K (He.ga X.K c)) (hm : Meth X.K (He.ga X.K c) mt (He.ma X.K (He.ga X.K c) mt)) (ho : SE X W so o) (hkw : SK X W slk kws)
    (hall : (backToKw pos (keywordEach kws X.env)).all (·.1.isSome) = true := by rfl) (hks : (backToKw pos (keywordEach kws X.env)).filterMap (·.1) = ks := by rfl)
    (hpl : ((backTo pos (starEach [] X.env)).any (·.1) || (backToKw pos (keywordEach kws X.env)).any (·.1.isNone)) = false := by rfl)
    (ht : eval (.Call (.Attribute o mt apos) [] kws pos) X.env = (do
      let ov ← eval o X.env
      standAt apos.atName
      let (f, first) ← holding [ov] (getMethod ov mt pl)
      callWith pos f first (backTo pos (starEach [] X.env)) (backToKw pos (keywordEach kws X.env))) := by rfl) :
    SE X W (sMethK (callN T k) c mt f n ks.length g so sNil slk) (.Call (.Attribute o mt apos) [] kws pos) := by
  obtain ⟨hi, ⟨fd, F, hb, ok⟩⟩ := cx.at hf
  have ead : He.fAd X.K fn.at_ = He.ma X.K (He.ga X.K c) mt := by rw [ha0]; rfl
  rw [ead] at F ok
  refine ⟨fun pins s σ H Q I h => ?_⟩
  have h0 := tMethK_of cx @kw hf hi h
  refine PySem.W.methodCall_KW (pl := pl) (thn (ho.run pins s σ H _ I h0) fun u s1 ⟨x, H1, I1, rx, a, dx, fs, ex, ea, l, q⟩ => ?_) ht
  subst ex
  obtain rfl : u = Value.ref a := rx
  refine getmeth_ok I1 ea cl hm l ?_
  have q' : tA X.K W slk σ H1 fun zs H3 => 1 = n ∧ zs.length = ks.length ∧ spV X.K (callN T k) fn.id fn.ps.length (g [.ref a] zs) H3 Q (WE W σ) := by
    obtain ⟨m, env, vh, kx, kl, hr, er, hs, o, ox⟩ := q
    exact o m vh H1 [] [] (Step.refl _ _) hr Reps.nil hs
  refine PySem.W.callWith_KW0 (first := [.ref a]) (h₀ := X.base) I.ok.mod.kin hm.kp hall (thn (hkw.run pos pins s1 σ H1 _ I1 q') fun ws s2 ⟨zs, H2, I2, rz, l1, l2, q2⟩ => ⟨I2.kIn, ?_⟩) hpl
  rw [hks]
  exact run_fnkS (E := WE W) (us := [.ref a]) ok (cx.room.mono (by omega)) (binds_kw F @kw s2 l1 (rz.length.symm.trans l2)) (L2N.passAt tk σ) I2 (kw.rel (vs := [V.ref a]) (us := [Value.ref a]) (.cons rfl .nil) rz) q2
/-! ### C(k = v, ..) -/
def sNewK (C : Calls) (frz : Bool) (c : Str) (f l : Nat) (g : List D → List D → List D) (tk : SemA) : SemE := fun env vh kx kd => tk env vh kx fun es vh1 => es.length = l ∧ C f (g [.ref vh1.length] es) (vh1 ++ [.ins c [] []]) (newEx vh1 kx) (newEnd frz vh1 kd)
theorem run_makeKS {CX : CXT} {j : Nat} {fa C : Addr} {fd : FuncData} {ps : List Str} {sp : Sp} {E : L2.St → XK} {pins : List (Addr × Obj)} {σ : L2.St} {H : Hp} {s : Shared} {Q : VK} {ws : List Value} {zs : List V} {gU : List Value → List Value → List Value} {gV : List V → List V → List V} (M : Mk X.K C fa) (F : FnOk X.prog X.w X.K X.mg X.base CX j fa fd ps sp) (hr : Room (j + 1) X.A)
    (hb : ∀ s a, BindsTo s fd ⟨[Value.ref a], ks.zip ws⟩ (ps.zip (gU [Value.ref a] ws))) (hx : PassesAt CX X σ (E σ)) (I : Inv X pins σ H s) (r : ∀ a, Vals (gV [.ref a] zs) (gU [Value.ref a] ws))
    (h : ∀ x dx, H x = none → H dx = none → dx ≠ x → sp (gV [.ref x] zs) (upd (upd H dx (.own x)) x (.ins C dx [])) (fun v H2 => v = .non ∧ Q (.ref x) H2) (E σ)) :
    wpAny (model X.prog X.w) X.A (call (.ref C) [] (ks.zip ws)) (EP X pins σ Q) X.xe s := by
  have hq := h (s.heap.objs.size + 1) s.heap.objs.size (I.hok.fresh (Nat.le_succ _)) (I.hok.fresh (Nat.le_refl _)) (Nat.ne_of_lt (Nat.lt_succ_self _))
  have I2 := Inv.made (C := C) I
  refine wpAny_call (make_map (f := fa) I.kIn M.makes M.init (beq_iff_eq.mp M.fn) (codeAny_mono (F.run _ X.stack _ _ ⟨[Value.ref (s.heap.objs.size + 1)], ks.zip ws⟩ (gU [Value.ref (s.heap.objs.size + 1)] ws) _ _ (E σ) (hr.make C [] (ks.zip ws))
    (I2.env0.make C [] (ks.zip ws)) (hb _ _) (r _) hq) fun r s' hq' => ?_))
  cases r with
  | error e => exact hx pins _ _ e s' I2 hq'
  | ok fl =>
    cases fl with
    | ret u =>
      obtain ⟨v, H', I3, rv, ev, q3⟩ := I2.after hq'
      subst ev
      exact ⟨rv, ⟨V.ref (s.heap.objs.size + 1), H', I3, rfl, q3⟩⟩
    | next => exact False.elim hq'
    | brk => exact False.elim hq'
    | cont => exact False.elim hq'
theorem new_ofK {frz : Bool} {zs : List V} (cx : CxF X T hots k) (kw : KwOk fn 1 ks @g) (hf : T f = some fn) (hi : fn.id = f) {m : Map} {H : Hp} {vh : VH} {ds : List D} {kx : KX} {kd : KD} {Q : VK} {σ : L2.St} (hr : Hr X.K m H vh) (r : Reps X.K m H ds zs)
    (hc : callN T k f (g [.ref vh.length] ds) (vh ++ [.ins c [] []]) (newEx vh kx) (newEnd frz vh kd)) (ho : Out X.K m H kd Q) (ox : OutX X.K m H W σ kx) (x dx : Addr) (hx : H x = none) (hdx : H dx = none) (hne : dx ≠ x) :
    spV X.K (callN T k) fn.id fn.ps.length (g [.ref x] zs) (upd (upd H dx (.own x)) x (.ins (He.ga X.K c) dx [])) (fun v H2 => v = .non ∧ Q (.ref x) H2) (WE W σ) := by
  have s1 := Step.same (m := m) (same_new (o := .own x) hdx)
  have hr1 := hr.same (same_new (o := .own x) hdx)
  have hx1 : upd H dx (.own x) x = none := by rw [upd_ne (Ne.symm hne)]; exact hx
  have s2 := push_step (o := .ins (He.ga X.K c) dx []) hr1 hx1
  have hr2 := hr1.push (c := .ins c [] []) (o := .ins (He.ga X.K c) dx []) hx1 ⟨dx, [], upd_same, rfl, Reps.nil⟩
  have st := s1.trans s2
  have rself : Reps X.K (m.push vh.length x) (upd (upd H dx (.own x)) x (.ins (He.ga X.K c) dx [])) [.ref vh.length] [.ref x] := Reps.one (by simp only [Rep]; exact ⟨x, rfl, if_pos rfl⟩)
  refine spV_at (m0 := m) (H0 := H) hr2 (kw.reps rself (Reps.step hr st _ _ r)) hf hi hc (fun m' vh' H' d v s' h' rv kk => ?_) (fun m' vh' H' ex cls dd s' h' rx kk => ?_)
  · have st' := st.trans s'
    cases frz with
    | false =>
      obtain ⟨rfl, kk⟩ := kk
      have e : v = .non := rv
      refine ⟨e, ho m' vh' H' (.ref vh.length) (.ref x) st' h' ?_ kk⟩
      simp only [Rep]
      exact ⟨x, rfl, s'.2.1 _ _ (if_pos rfl)⟩
    | true =>
      obtain ⟨rfl, g', d', e, fz, kk⟩ := kk
      have ev : v = .non := rv
      subst e
      obtain ⟨h1, s3⟩ := hr.trim st' h'
      refine ⟨ev, ho m vh H' d' (.ref x) s3 h1 (Frz.rep hr st' h' fz ?_) kk⟩
      simp only [Rep]
      exact ⟨x, rfl, s'.2.1 _ _ (if_pos rfl)⟩
  · obtain ⟨g', es, e, fz, kk⟩ := kk
    subst e
    have st' := st.trans s'
    obtain ⟨h1, s3⟩ := hr.trim st' h'
    obtain ⟨e1, a, fs, e2, e3, e4, rs⟩ := rx
    exact ox m vh H' ⟨ex.c, ex.ns, es⟩ cls dd s3 h1 ⟨e1, a, fs, e2, e3, e4, Frzs.rep hr st' h' fz rs⟩ kk
theorem se_newK0 (frz : Bool) (cx : CxF X T hots k) (tk : L2N.Takes X W) (hf : T f = some fn) (ha0 : fn.at_ = (c, some ("__init__" : Str))) (kw : KwOk fn 1 ks @g) (M : Mk X.K (He.ga X.K c) (He.ma X.K (He.ga X.K c) "__init__")) (hg : Gl X c) (hm : X.mg c = some (.ref (He.ga X.K c))) (hkw : SK X W slk kws)
    (hall : (backToKw pos (keywordEach kws X.env)).all (·.1.isSome) = true := by rfl) (hks : (backToKw pos (keywordEach kws X.env)).filterMap (·.1) = ks := by rfl) (hdb : (c == ("__debug__" : Str)) = false := by decide)
    (hpl : ((backTo pos (starEach [] X.env)).any (·.1) || (backToKw pos (keywordEach kws X.env)).any (·.1.isNone)) = false := by rfl) : SE X W (sNewK (callN T k) frz c f ks.length g slk) (.Call (.Name c p) [] kws pos) := by
  obtain ⟨hi, ⟨fd, F, hb, ok⟩⟩ := cx.at hf
  have ead : He.fAd X.K fn.at_ = He.ma X.K (He.ga X.K c) "__init__" := by rw [ha0]; rfl
  rw [ead] at F ok
  refine ⟨fun pins s σ H Q I ⟨m, env, vh, kx, kd, hr, er, h, ho, ox⟩ => ?_⟩
  refine wpAny_Call_Name_kw (ld_glob I hg hm ?_ hdb)
  have h0 : tA X.K W slk σ H (fun zs H1 => zs.length = ks.length ∧ ∀ x dx, H1 x = none → H1 dx = none → dx ≠ x → spV X.K (callN T k) fn.id fn.ps.length (g [.ref x] zs) (upd (upd H1 dx (.own x)) x (.ins (He.ga X.K c) dx [])) (fun v H2 => v = .non ∧ Q (.ref x) H2) (WE W σ)) :=
    tA.go hr er ox h fun m1 vh1 H1 ds vs s1 hr1 er1 ox1 r1 k1 => ⟨by rw [← r1.len]; exact k1.1, new_ofK cx @kw hf hi hr1 r1 k1.2 (ho.step s1) ox1⟩
  refine PySem.W.callWith_KW0 (h₀ := X.base) I.ok.mod.kin M.kp hall (thn (hkw.run pos pins s σ H _ I h0) fun ws s2 ⟨zs, H2, I2, rz, l2, q2⟩ => ⟨I2.kIn, ?_⟩) hpl
  rw [hks]
  exact run_makeKS (E := WE W) (gU := g) (gV := g) M ok (cx.room.mono (by omega)) (fun s a => binds_kw F @kw s rfl (rz.length.symm.trans l2)) (L2N.passAt tk σ) I2 (fun a => kw.rel (vs := [V.ref a]) (us := [Value.ref a]) (.cons rfl .nil) rz) q2
/-! ### tuple(x), list(x) -/
def oTuple : SOL := fun ds vh kd => match ds with
  | [d] => match sview vh d with
    | some es => kd (.tup es) vh
    | none => False
  | _ => False
theorem sn_tuple : SnL X.K oTuple (fun xs H Q => ∃ p ys, xs = [.ref p] ∧ ((SqL X.K H p ys ∧ ∀ l, H l = none → Q (.ref l) (upd H l (.tup ys))) ∨ (SqT X.K H p ys ∧ Q (.ref p) H))) := by
  intro m H vh ds vs kd Q hr r h ho
  cases ds with
  | nil => exact h.elim
  | cons d ds =>
    cases ds with
    | cons _ _ => exact h.elim
    | nil =>
      obtain ⟨v, rfl, r1⟩ := reps1 r
      revert h
      show (match sview vh d with | some es => kd (.tup es) vh | none => False) → _
      cases e : sview vh d with
      | none => exact False.elim
      | some es =>
        intro h
        obtain ⟨a, xs, rfl, q, rs⟩ := sview_rep hr r1 e
        rcases q with q | q
        · exact ⟨a, xs, rfl, .inl ⟨q, fun l hl => out_tup hr rs h ho hl⟩⟩
        · refine ⟨a, xs, rfl, .inr ⟨q, ho m vh H (.tup es) _ (Step.refl _ _) hr ?_ h⟩⟩
          simp only [Rep]
          exact ⟨a, xs, rfl, q, rs⟩
theorem se_tuple (hg : Gl X "tuple") (hm : X.mg "tuple" = none) (ha : SA X W sl [e]) (he : starEach [e] X.env = (false, eval e X.env) :: starEach [] X.env := by rfl) : SE X W (sCallB oTuple sl) (.Call (.Name "tuple" p) [e] [] pos) := se_callTy call_tuple_of sn_tuple hg hm (by decide +kernel) ha (by decide) (by decide) he
/-! ### sum, max, min, all, any of a list -/
def oSum : SOL := fun ds vh kd => match ds with
  | [d] => ∃ ns : List Int, lview vh d = some (ns.map D.int) ∧ kd (.int ns.sum) vh
  | _ => False
def oMaxL : SOL := fun ds vh kd => match ds with
  | [d] => ∃ ns : List Int, lview vh d = some (ns.map D.int) ∧ 0 < ns.length ∧ ∀ m, m ∈ ns → (∀ y, y ∈ ns → y ≤ m) → kd (.int m) vh
  | _ => False
def oMinL : SOL := fun ds vh kd => match ds with
  | [d] => ∃ ns : List Int, lview vh d = some (ns.map D.int) ∧ 0 < ns.length ∧ ∀ m, m ∈ ns → (∀ y, y ∈ ns → m ≤ y) → kd (.int m) vh
  | _ => False
def oAll : SOL := fun ds vh kd => match ds with
  | [d] => ∃ bs : List Bool, lview vh d = some (bs.map D.bl) ∧ kd (.bl (bs.all id)) vh
  | _ => False
def oAny : SOL := fun ds vh kd => match ds with
  | [d] => ∃ bs : List Bool, lview vh d = some (bs.map D.bl) ∧ kd (.bl (bs.any id)) vh
  | _ => False
theorem Reps.bls {K : PySem.W.Frag} {m : Map} {H : Hp} : ∀ {ns : List Bool} {xs : List V}, Reps K m H (ns.map D.bl) xs → xs = ns.map V.bl
  | [], xs, r => by simpa only [List.map_nil, Reps] using r
  | n :: ns, xs, r => by
    simp only [List.map_cons, Reps, Rep] at r
    obtain ⟨v, vs, rfl, rfl, r⟩ := r
    rw [Reps.bls r]
    rfl
theorem sn_sum : SnL X.K oSum (rSum X.K) := by
  intro m H vh ds vs kd Q hr r h ho
  cases ds with
  | nil => exact h.elim
  | cons d ds =>
    cases ds with
    | cons _ _ => exact h.elim
    | nil =>
      obtain ⟨v, rfl, r1⟩ := reps1 r
      obtain ⟨ns, e, k⟩ := h
      obtain ⟨a, xs, rfl, q, rs⟩ := lview_rep hr r1 e
      have ex := Reps.ints.mp rs
      subst ex
      exact ⟨a, ns, rfl, .of q, ho m vh H (.int ns.sum) _ (Step.refl _ _) hr rep_int k⟩
theorem sn_maxL : SnL X.K oMaxL (rMax X.K) := by
  intro m H vh ds vs kd Q hr r h ho
  cases ds with
  | nil => exact h.elim
  | cons d ds =>
    cases ds with
    | cons _ _ => exact h.elim
    | nil =>
      obtain ⟨v, rfl, r1⟩ := reps1 r
      obtain ⟨ns, e, hl, k⟩ := h
      obtain ⟨a, xs, rfl, q, rs⟩ := lview_rep hr r1 e
      have ex := Reps.ints.mp rs
      subst ex
      exact ⟨a, ns, rfl, .of q, hl, fun z h1 h2 => ho m vh H (.int z) _ (Step.refl _ _) hr rep_int (k z h1 h2)⟩
theorem sn_minL : SnL X.K oMinL (rMin X.K) := by
  intro m H vh ds vs kd Q hr r h ho
  cases ds with
  | nil => exact h.elim
  | cons d ds =>
    cases ds with
    | cons _ _ => exact h.elim
    | nil =>
      obtain ⟨v, rfl, r1⟩ := reps1 r
      obtain ⟨ns, e, hl, k⟩ := h
      obtain ⟨a, xs, rfl, q, rs⟩ := lview_rep hr r1 e
      have ex := Reps.ints.mp rs
      subst ex
      exact ⟨a, ns, rfl, .of q, hl, fun z h1 h2 => ho m vh H (.int z) _ (Step.refl _ _) hr rep_int (k z h1 h2)⟩
theorem sn_all : SnL X.K oAll (rAll X.K) := by
  intro m H vh ds vs kd Q hr r h ho
  cases ds with
  | nil => exact h.elim
  | cons d ds =>
    cases ds with
    | cons _ _ => exact h.elim
    | nil =>
      obtain ⟨v, rfl, r1⟩ := reps1 r
      obtain ⟨ns, e, k⟩ := h
      obtain ⟨a, xs, rfl, q, rs⟩ := lview_rep hr r1 e
      have ex := rs.bls
      subst ex
      exact ⟨a, ns, rfl, .of q, ho m vh H (.bl (ns.all id)) _ (Step.refl _ _) hr rep_bl k⟩
theorem sn_any : SnL X.K oAny (rAny X.K) := by
  intro m H vh ds vs kd Q hr r h ho
  cases ds with
  | nil => exact h.elim
  | cons d ds =>
    cases ds with
    | cons _ _ => exact h.elim
    | nil =>
      obtain ⟨v, rfl, r1⟩ := reps1 r
      obtain ⟨ns, e, k⟩ := h
      obtain ⟨a, xs, rfl, q, rs⟩ := lview_rep hr r1 e
      have ex := rs.bls
      subst ex
      exact ⟨a, ns, rfl, .of q, ho m vh H (.bl (ns.any id)) _ (Step.refl _ _) hr rep_bl k⟩
theorem se_sum (hc : X.calm = true) (hg : Gl X "sum") (hm : X.mg "sum" = none) (ha : SA X W sl [e]) (he : starEach [e] X.env = (false, eval e X.env) :: starEach [] X.env := by rfl) : SE X W (sCallB oSum sl) (.Call (.Name "sum" p) [e] [] pos) := se_callB (cr_sum hc) sn_sum hg hm (by decide +kernel) ha (by decide) (by decide) he
theorem se_maxL (hc : X.calm = true) (hg : Gl X "max") (hm : X.mg "max" = none) (ha : SA X W sl [e]) (he : starEach [e] X.env = (false, eval e X.env) :: starEach [] X.env := by rfl) : SE X W (sCallB oMaxL sl) (.Call (.Name "max" p) [e] [] pos) := se_callB (cr_max hc) sn_maxL hg hm (by decide +kernel) ha (by decide) (by decide) he
theorem se_minL (hc : X.calm = true) (hg : Gl X "min") (hm : X.mg "min" = none) (ha : SA X W sl [e]) (he : starEach [e] X.env = (false, eval e X.env) :: starEach [] X.env := by rfl) : SE X W (sCallB oMinL sl) (.Call (.Name "min" p) [e] [] pos) := se_callB (cr_min hc) sn_minL hg hm (by decide +kernel) ha (by decide) (by decide) he
theorem se_all (hc : X.calm = true) (hg : Gl X "all") (hm : X.mg "all" = none) (ha : SA X W sl [e]) (he : starEach [e] X.env = (false, eval e X.env) :: starEach [] X.env := by rfl) : SE X W (sCallB oAll sl) (.Call (.Name "all" p) [e] [] pos) := se_callB (cr_all hc) sn_all hg hm (by decide +kernel) ha (by decide) (by decide) he
theorem se_any (hc : X.calm = true) (hg : Gl X "any") (hm : X.mg "any" = none) (ha : SA X W sl [e]) (he : starEach [e] X.env = (false, eval e X.env) :: starEach [] X.env := by rfl) : SE X W (sCallB oAny sl) (.Call (.Name "any" p) [e] [] pos) := se_callB (cr_any hc) sn_any hg hm (by decide +kernel) ha (by decide) (by decide) he
end
end VI

end
section
/-! VI18: ranges with great ends. -/
namespace VI
open PySem PySem.Spec L2
open PyProof.Rows hiding St
theorem turn_long {P : Program} {w : World} {K : PySem.W.Frag} {tg : Expr} (it : Addr) (lo : Int) (n : Nat) : Turn P w K tg (Itr lo n) [it] it (fun i h => IsLongIter h it (lo + (i : Nat) * 1) ((n : Int) - (i : Nat)) 1) where
  mem := by simp
  obj := fun i h st b hb => by
    have e : b = it := by simpa using hb
    subst e
    exact ⟨_, st, fun v z => nomatch z⟩
  keep := fun i h h' st k => k it (by simp) _ st
  item := by
    intro X hP hw hK hc i pins s σ H E I hf st hg
    subst hP hw hK
    obtain ⟨f0, f1, f2, f3, f4, f5⟩ := hf it (by simp)
    have W := Walks.longrange (prog := X.prog) (w := X.w) (I.ok.hd hc) it lo 1 n
    refine W.item i s _ _ hg st fun v h' tk hv st' kk => ?_
    obtain ⟨t, rfl⟩ := hv
    have I1 : Inv X pins σ H { s with heap := h', toks := tk } := I.turned (fun b o hb e => kk b o (by simpa using hb) e) f0 f1 f3 f4 f5
    refine ⟨_, rfl, go_of (s := { s with heap := h', toks := tk }) (n := "longrange_iterator") st' rfl rfl (by decide) ⟨.int (lo + (i : Nat)), H, I1, ⟨t, ?_⟩, ⟨rfl, rfl⟩, st', fun b hb => (hf b hb).1⟩⟩
    rw [Int.mul_one]
  done := by
    intro X hP hw hK hc i pins s σ H E I hf st hg
    subst hP hw hK
    obtain ⟨f0, f1, f2, f3, f4, f5⟩ := hf it (by simp)
    exact wpAny_pyNext_long_end (I.ok.hd hc) st (by have : n ≤ i := hg; omega) fun h' eb => ⟨rfl, I.turned (t' := s.toks) (fun b o hb e => eb b o hb e) f0 f1 f3 f4 f5⟩
  self := fun A i s Q E st h => wpAny_pyIter_longiter st h
section
variable {X : Cx} {W : WX} {tg : Expr}
theorem range_itG {pins : List (Addr × Obj)} {σ : L2.St} {H : Hp} {s : Shared} {R : It → Hp → Prop} {E : Value → Shared → Prop} {lo hi : Int} {t u v : Tok} {tk : Nat} (I : Inv X pins σ H s)
    (q : R (Itr lo (hi - lo).toNat) H) : wpAny (model X.prog X.w) X.A (pyIter (.ref s.heap.objs.size)) (PIE X pins σ tg R) E { s with heap := s.heap.push { cls := .type "range", data := .fields #[.int lo t, .int hi u, .int 1 v] }, toks := tk } := by
  have I1 : Inv X pins σ H { s with heap := s.heap.push { cls := .type "range", data := .fields #[.int lo t, .int hi u, .int 1 v] }, toks := tk } := I.kept fun b o e => Heap.get?_push_of_some _ e
  have e1 : lo + ((0 : Nat) : Int) * 1 = lo := by simp
  have e2 : (((hi - lo).toNat : Nat) : Int) - ((0 : Nat) : Int) = Builtin.Range.rangeSize lo hi 1 := by rw [rangeSize_one]; split <;> omega
  have e3 : ∀ b ∈ [(s.heap.push { cls := .type "range", data := .fields #[.int lo t, .int hi u, .int 1 v] }).objs.size], _ := fun b hb => by
    have e : b = (s.heap.push { cls := .type "range", data := .fields #[.int lo t, .int hi u, .int 1 v] }).objs.size := by simpa using hb
    subst e
    exact I1.fpOk (Nat.le_refl _) (I1.hok.fresh (Nat.le_refl _))
  cases hs : Builtin.Range.small lo hi 1 with
  | true =>
    refine wpAny_pyIter_range (IsRange.new ..) hs ?_
    refine ⟨_, [_], _, _, H, rfl, I1.kept (t' := tk) fun b o e => Heap.get?_push_of_some _ e, turn_range _ lo (hi - lo).toNat, ?_, e3, q⟩
    show IsRangeIter _ _ (lo + ((0 : Nat) : Int) * 1) ((((hi - lo).toNat : Nat) : Int) - ((0 : Nat) : Int)) 1
    rw [e1, e2]
    exact Heap.get?_push_size _ rfl
  | false =>
    refine wpAny_pyIter_longrange (IsRange.new ..) hs ?_
    refine ⟨_, [_], _, _, H, rfl, I1.kept (t' := tk) fun b o e => Heap.get?_push_of_some _ e, turn_long _ lo (hi - lo).toNat, ?_, e3, q⟩
    show IsLongIter _ _ (lo + ((0 : Nat) : Int) * 1) ((((hi - lo).toNat : Nat) : Int) - ((0 : Nat) : Int)) 1
    rw [e1, e2]
    exact Heap.get?_push_size _ rfl
def iRng2G (ta : TA) : TI := fun σ H R => ta σ H fun vs H1 => ∃ i j : Int, vs = [.int i, .int j] ∧ R (Itr i (j - i).toNat) H1
theorem pi_range2G {a b : Expr} {ta : TA} {p pos : Pos} (hg : Gl X "range") (hm : X.mg "range" = none) (ha : PA X [a, b] ta) (hs : starEach [a, b] X.env = [(false, eval a X.env), (false, eval b X.env)] := by rfl) (hs2 : starEach [b] X.env = [(false, eval b X.env)] := by rfl) :
    PI X tg (.Call (.Name "range" p) [a, b] [] pos) (iRng2G ta) := by
  refine ⟨fun pins s σ H R I h => ?_⟩
  refine Call_ (ld_blt I hg hm boot_range (PyProof.Rows.callWith_type1 (thn (ha.run pos pins s σ H _ I h) fun us s1 ⟨vs, H1, I1, r1, q1⟩ => ?_) (by rw [hs, hs2]) (by rw [hs2]; rfl)))
  obtain ⟨i, j, e, q⟩ := q1
  subst e
  cases r1 with
  | cons r rr =>
    cases rr with
    | cons r' rr =>
      cases rr
      obtain ⟨t, rfl⟩ := r
      obtain ⟨t', rfl⟩ := r'
      exact call_range_2 (range_itG I1 q)
def oRng2G : List D → VH → (Src → VH → Prop) → Prop := fun ds vh ki => match ds with
  | [.int i, .int j] => ki ⟨rngL i (j - i).toNat, always⟩ vh
  | _ => False
theorem oRng2G_inv {ds : List D} {vh : VH} {ki : Src → VH → Prop} (k : oRng2G ds vh ki) : ∃ i j : Int, ds = [i, j].map D.int ∧ ki ⟨rngL i (j - i).toNat, always⟩ vh := by
  cases ds with
  | nil => exact False.elim k
  | cons d r =>
    cases r with
    | nil => cases d <;> exact False.elim k
    | cons e r =>
      cases r with
      | nil =>
        cases d with
        | int i =>
          cases e with
          | int j => exact ⟨i, j, rfl, k⟩
          | _ => exact False.elim k
        | _ => cases e <;> exact False.elim k
      | cons _ _ => cases d <;> cases e <;> exact False.elim k
variable {a b : Expr} {sl : SemA} {p pos : Pos}
theorem si_range2G (hg : Gl X "range") (hm : X.mg "range" = none) (ha : SA X W sl [a, b]) (hs : starEach [a, b] X.env = [(false, eval a X.env), (false, eval b X.env)] := by rfl) (hs2 : starEach [b] X.env = [(false, eval b X.env)] := by rfl) : SI X W (sItA oRng2G sl) tg (.Call (.Name "range" p) [a, b] [] pos) := by
  refine piImp (pi_range2G hg hm ha hs hs2) fun σ H R ⟨m, env, vh, kx, ki, hr, er, hs, o, ox⟩ => ?_
  refine tA.go hr er ox hs fun m1 vh1 H1 ds vs s1 hr1 er1 ox1 r1 k1 => ?_
  obtain ⟨i, j, rfl, k2⟩ := oRng2G_inv k1
  exact ⟨i, j, Reps.ints.mp r1, o m1 vh1 H1 _ _ s1 hr1 (src_rng i (j - i).toNat) k2⟩
end
end VI
namespace VI
theorem oRng2G_i {i j : Int} {vh : VH} {ki : Src → VH → Prop} : oRng2G [.int i, .int j] vh ki = ki ⟨rngL i (j - i).toNat, always⟩ vh := rfl
end VI

end
section
/-! VI19: enumerate and zip of lists and tuples. -/
namespace VI
open PySem PySem.Spec L2
open PyProof.Rows hiding St
open Sem (wp)
open AutoSeq1 (wpAny_loadPart')
/-! ### enumerate(tuple) -/
theorem meets_enumT (l : Addr) (items : Array Value) (n : Nat) (dct : Option Addr) (sl : Array (Option Value)) :
    Meets (Builtin.«enumerate.__new__» ⟨[.type "enumerate", .ref l], []⟩) (fun _ R s => s.heap.get? l = some { cls := .type "tuple", dict := dct, data := .seq items n, slots := sl } ∧
      R (.ok (.ret (.ref (s.heap.push { cls := .type "tuple_iterator", data := .fields #[.ref l, .int 0 0] }).objs.size)))
        { s with heap := (s.heap.push { cls := .type "tuple_iterator", data := .fields #[.ref l, .int 0 0] }).push { cls := .type "enumerate", data := .fields #[.none, .bool false, .ref s.heap.objs.size, rawInt 0, .none, .none] } }) :=
  .of_wp fun prog w A R s h => by
    obtain ⟨hp, g, d, tk, os⟩ := s; obtain ⟨hl, h⟩ := h
    have hsub := sub_enumerate
    have hL : Heap.IsTuple (Shared.heap ⟨hp, g, d, tk, os⟩) l items := ⟨_, hl, rfl, n, rfl⟩
    wp_walk using wpAny_loadPart' hl
    refine wpAny_stack_any fun st => wpAny_pure ?_
    split
    · rename_i c _ _ _ _ _
      cases (c == Value.type "enumerate")
      · wp_walk using wpAny_loadPart' hl, wpAny_pyIter_tuple hL
        exact ⟨_, rfl, h⟩
      · wp_walk using wpAny_loadPart' hl, wpAny_pyIter_tuple hL
        exact ⟨_, rfl, h⟩
    · wp_walk using wpAny_loadPart' hl, wpAny_pyIter_tuple hL
      exact ⟨_, rfl, h⟩
theorem call_enumT {prog : Program} {w : World} {A : Around} {E : Value → Shared → Prop} {s : Shared} {l : Addr} {items : Array Value} {Q : Value → Shared → Prop} (hL : s.heap.IsTuple l items)
    (h : ∀ h', IsEnum h' (s.heap.objs.size + 1) s.heap.objs.size 0 .none → h'.IsTupleIter s.heap.objs.size l 0 → h'.objs.size = s.heap.objs.size + 2 →
      (∀ b o, s.heap.get? b = some o → h'.get? b = some o) → Q (.ref (s.heap.objs.size + 1)) { s with heap := h' }) :
    wpAny (model prog w) A (call (.type "enumerate") [.ref l]) Q E s := by
  obtain ⟨⟨c, dct, dt, sl⟩, hl, hc, n, hd⟩ := hL
  replace hc : c = .type "tuple" := hc
  replace hd : dt = .seq items n := hd
  subst hc hd
  refine callType_new F.called_enumerate (by decide) (F.typeCall_enumerate_1 _) (F.newCall_enumerate_1 _) (fun obj => F.args_object_init_2 obj _) F.entry_enumerate_new
    (meets_enumT l items n dct sl) ⟨hl, ?_⟩
  have hz : (s.heap.push { cls := .type "tuple_iterator", data := .fields #[.ref l, .int 0 0] }).objs.size = s.heap.objs.size + 1 := Heap.size_push ..
  show _ ∧ _
  rw [hz]
  have he : IsEnum ((s.heap.push { cls := .type "tuple_iterator", data := .fields #[.ref l, .int 0 0] }).push
      { cls := .type "enumerate", data := .fields #[.none, .bool false, .ref s.heap.objs.size, rawInt 0, .none, .none] }) (s.heap.objs.size + 1) s.heap.objs.size 0 .none := by
    have := Heap.get?_push_size (s.heap.push { cls := .type "tuple_iterator", data := .fields #[.ref l, .int 0 0] })
      (o := { cls := .type "enumerate", data := .fields #[.none, .bool false, .ref s.heap.objs.size, rawInt 0, .none, .none] }) rfl
    rw [hz] at this; exact this
  refine ⟨⟨_, he, rfl⟩, h _ he ⟨_, Heap.get?_push_of_some _ (Heap.get?_push_size _ rfl), rfl, rfl⟩ (by rw [Heap.size_push, hz]) fun b o x => Heap.get?_push_of_some _ (Heap.get?_push_of_some _ x)⟩
theorem drawsTupEnd {prog : Program} {w : World} {A : Around} (hh : A.handled = none) (it t : Addr) (items : Array Value) (n : Nat) (hx : items[n]? = none) :
    Draws prog w A it [it, t] n (fun _ _ => True) (fun j h => j = n ∧ h.IsTupleIter it t n ∧ h.IsTuple t items) where
  live := fun _ _ st => let ⟨o, ho, _⟩ := st.2.1; ⟨o, ho⟩
  frame := fun _ _ _ st hk => ⟨st.1, st.2.1.at fun o e => hk it (by simp) o e, st.2.2.at fun o e => hk t (by simp) o e⟩
  item := fun i s Q E hi st hQ => absurd st.1 (Nat.ne_of_lt hi)
  done := fun s Q E st hE => wpAny_nextOf_tuple_end hh st.2.1 st.2.2 hx hE
/-- the tuple at a, each item in a new pair -/
def IteT (K : PySem.W.Frag) (a : Addr) : It :=
  ⟨fun i H => ∃ (xs : List V) (x : V), SqT K H a xs ∧ xs[i]? = some x, fun i H v H' => ∃ T x, v = .ref T ∧ H T = none ∧ H' = upd H T (.tup [.int (i : Nat), x]) ∧ ∀ xs, SqT K H a xs → xs[i]? = some x, fun i H => ∃ xs : List V, SqT K H a xs ∧ xs.length ≤ i⟩
theorem turn_enumT {P : Program} {w : World} {K : PySem.W.Frag} {elts : List Expr} {kk : Nat} {tpos : Pos} (a e it : Addr) :
    Turn P w K (.Tuple elts kk tpos) (IteT K a) [e, it] e (fun i h => (∃ old, IsEnum h e it ((i : Nat) : Int) old) ∧ h.IsTupleIter it a i ∧ e ≠ it ∧ e ≠ a ∧ a ≠ it) where
  mem := by simp
  obj := fun i h st b hb => by
    obtain ⟨⟨old, he⟩, ⟨o, ho, hc, hd⟩, _⟩ := st
    have e' : b = e ∨ b = it := by simpa using hb
    rcases e' with z | z
    · rw [z]; exact ⟨_, he, fun v q => nomatch q⟩
    · rw [z]; exact ⟨o, ho, fun v q => by rw [hd] at q; cases q⟩
  keep := fun i h h' st k => let ⟨⟨old, he⟩, hi, hne⟩ := st; ⟨⟨old, k e (by simp) _ he⟩, hi.at fun o q => k it (by simp) o q, hne⟩
  item := by
    intro X hP hw hK hc i pins s σ H E I hf st hg
    subst hP hw hK
    obtain ⟨⟨old, he⟩, hit, hne, hea, hai⟩ := st
    obtain ⟨xs, x, hq, hx⟩ := hg
    obtain ⟨its, rv, p, hz⟩ := I.tuple hq
    obtain ⟨u, hu, ru⟩ := rv.get hx
    have hel : e < s.heap.objs.size := Heap.lt_size he
    have hil : it < s.heap.objs.size := by obtain ⟨_, q, _⟩ := hit; exact Heap.lt_size q
    have D := Draws.tuple (prog := X.prog) (w := X.w) (A := X.A.in1) (show X.A.in1.handled = none from I.ok.hd hc) it a hai its.toArray
    have hlt : i < its.toArray.size := by
      have := (List.getElem?_eq_some_iff.mp hu).1
      simpa using this
    refine wpAny_pyNext_enum_itemD D he ⟨hit, show s.heap.IsTuple a its.toArray from p⟩ hlt hne (by simp; exact ⟨hne, hea⟩) fun u' h' tk hP ho hit' hT hsz hk => ?_
    have eu : u' = u := by
      have h1 : its.toArray[i]? = some u' := hP
      have h2 : its.toArray[i]? = some u := by simpa using hu
      rw [h1] at h2
      exact Option.some.inj h2
    subst eu
    refine ⟨_, rfl, wpAny_letOwnedTupleGo_enum (s := { s with heap := h', toks := tk + 1 }) ho fun h'' he' sb => ?_⟩
    have hT2 : h''.get? s.heap.objs.size = some { cls := .type "tuple", data := .seq #[.int i tk, u'] } := (sb.2 _ (Nat.ne_of_gt hel)).trans hT
    have new : ObjOk X.prog X.w (upd H s.heap.objs.size (.tup [.int (i : Nat), x])) h'' s.heap.objs.size (.tup [.int (i : Nat), x]) :=
      ⟨by show 2 ≤ sizeLine; decide, [.int i tk, u'], .cons ⟨_, rfl⟩ (.cons ru .nil), ⟨_, hT2, rfl, _, rfl⟩⟩
    have I1 : Inv X pins σ (upd H s.heap.objs.size (.tup [.int (i : Nat), x])) { s with heap := h'', toks := tk + 1 } :=
      I.turnedNew (ch := [e, it]) (fun b ob hb q => (sb.2 b (fun z => hb (by simp [z]))).trans (hk b ob (fun z => hb (by simp [z])) (fun z => hb (by simp [z])) q)) hf (Nat.le_refl _) new
    refine ⟨.ref s.heap.objs.size, _, I1, rfl, ⟨_, x, rfl, I.hok.fresh (Nat.le_refl _), rfl, fun ys hy => by rw [I.tuple_inj hy hq]; exact hx⟩, ⟨⟨u', ?_⟩, hit'.1.at fun o q => (sb.2 it (Ne.symm hne)).trans q, hne, hea, hai⟩, fun b hb => ?_⟩
    · have e1 : ((i + 1 : Nat) : Int) = (i : Int) + 1 := by omega
      rw [e1]; exact he'
    · have hb' : b < s.heap.objs.size := by
        have e' : b = e ∨ b = it := by simpa using hb
        rcases e' with z | z
        · rw [z]; exact hel
        · rw [z]; exact hil
      rw [upd_ne (Nat.ne_of_lt hb')]
      exact (hf b hb).1
  done := by
    intro X hP hw hK hc i pins s σ H E I hf st hg
    subst hP hw hK
    obtain ⟨⟨old, he⟩, hit, hne, hea, hai⟩ := st
    obtain ⟨xs, hq, hx⟩ := hg
    obtain ⟨its, rv, p, hz⟩ := I.tuple hq
    obtain ⟨f0, f1, f2, f3, f4, f5⟩ := hf it (by simp)
    have hl := rv.length
    have D := drawsTupEnd (prog := X.prog) (w := X.w) (A := X.A.in1) (show X.A.in1.handled = none from I.ok.hd hc) it a its.toArray i (by simp; omega)
    exact wpAny_pyNext_enum_endD D he ⟨rfl, hit, show s.heap.IsTuple a its.toArray from p⟩ fun h' eb => ⟨rfl, I.turned (t' := s.toks) (fun b o hb q => eb b o hb q) f0 f1 f3 f4 f5⟩
  self := fun A i s Q E st h => let ⟨⟨_, he⟩, _⟩ := st; wpAny_pyIter_enum he h
def iEnumA (K : PySem.W.Frag) (ta : TA) : TI := fun σ H R => ta σ H fun vs H1 => ∃ a xs, vs = [.ref a] ∧ ((SqL K H1 a xs ∧ R (Ite K a) H1) ∨ (SqT K H1 a xs ∧ R (IteT K a) H1))
theorem pi_enumA {X : Cx} {e : Expr} {ta : TA} {p pos tpos : Pos} {elts : List Expr} {kk : Nat} (hg : Gl X "enumerate") (hm : X.mg "enumerate" = none) (ha : PA X [e] ta) (hs : starEach [e] X.env = [(false, eval e X.env)] := by rfl) :
    PI X (.Tuple elts kk tpos) (.Call (.Name "enumerate" p) [e] [] pos) (iEnumA X.K ta) := by
  refine ⟨fun pins s σ H R I h => ?_⟩
  refine Call_ (ld_blt I hg hm boot_enumerate (PyProof.Rows.callWith_type1 (thn (ha.run pos pins s σ H _ I h) fun us s1 ⟨vs, H1, I1, r1, q1⟩ => ?_) hs rfl))
  obtain ⟨a, xs, ex, q1⟩ := q1
  subst ex
  cases r1 with
  | cons r rr =>
    cases rr
    cases r
    have fp : ∀ b ∈ [s1.heap.objs.size + 1, s1.heap.objs.size], FpOk X pins H1 b := fun b hb => by
      have e' : b = s1.heap.objs.size + 1 ∨ b = s1.heap.objs.size := by simpa using hb
      have hle : s1.heap.objs.size ≤ b := by
        rcases e' with z | z
        · rw [z]; exact Nat.le_add_right _ _
        · rw [z]; exact Nat.le_refl _
      exact I1.fpOk hle (I1.hok.fresh hle)
    rcases q1 with ⟨hq, q⟩ | ⟨hq, q⟩
    · obtain ⟨its, rv, p', hz⟩ := I1.list hq
      refine call_enumerate_list p'.isList fun h' he hit hsz hk => wpAny_pyIter_enum he ?_
      have I2 : Inv X pins σ H1 { s1 with heap := h' } := I1.kept (t' := s1.toks) hk
      exact ⟨s1.heap.objs.size + 1, [s1.heap.objs.size + 1, s1.heap.objs.size], _, _, H1, rfl, I2, turn_enum a (s1.heap.objs.size + 1) s1.heap.objs.size, ⟨⟨.none, he⟩, hit, Nat.succ_ne_self _⟩, fp, q⟩
    · obtain ⟨its, rv, p', hz⟩ := I1.tuple hq
      have p2 : s1.heap.IsTuple a its.toArray := p'
      have hal : a < s1.heap.objs.size := by obtain ⟨_, z, _⟩ := p2; exact Heap.lt_size z
      refine call_enumT p2 fun h' he hit hsz hk => wpAny_pyIter_enum he ?_
      have I2 : Inv X pins σ H1 { s1 with heap := h' } := I1.kept (t' := s1.toks) hk
      exact ⟨s1.heap.objs.size + 1, [s1.heap.objs.size + 1, s1.heap.objs.size], _, _, H1, rfl, I2, turn_enumT a (s1.heap.objs.size + 1) s1.heap.objs.size, ⟨⟨.none, he⟩, hit, Nat.succ_ne_self _, (Nat.ne_of_lt (Nat.lt_succ_of_lt hal)).symm, Nat.ne_of_lt hal⟩, fp, q⟩
end VI

end
section
/-! VI20: sems of enumerate and zip; isinstance of own classes and of several types. -/
namespace VI
open PySem PySem.Spec L2
open PyProof.Rows hiding St
def enumL : Nat → List D → List D
  | _, [] => []
  | n, d :: ds => .tup [.int (n : Int), d] :: enumL (n + 1) ds
theorem enumL_len : ∀ (ds : List D) (n : Nat), (enumL n ds).length = ds.length
  | [], _ => rfl
  | d :: ds, n => by show (enumL (n + 1) ds).length + 1 = ds.length + 1; rw [enumL_len ds]
theorem enumL_get : ∀ (ds : List D) (n i : Nat) {e : D}, (enumL n ds)[i]? = some e → ∃ d, ds[i]? = some d ∧ e = .tup [.int ((n + i : Nat) : Int), d]
  | [], _, i, e, h => by simp [enumL] at h
  | d :: ds, n, 0, e, h => by
    have : (.tup [.int (n : Int), d] : D) = e := by simpa [enumL] using h
    exact ⟨d, rfl, this.symm⟩
  | d :: ds, n, i + 1, e, h => by
    obtain ⟨d', e1, e2⟩ := enumL_get ds (n + 1) i (e := e) (by simpa [enumL] using h)
    refine ⟨d', by simpa using e1, ?_⟩
    rw [e2, Nat.add_right_comm]
    rfl
def zipL : List D → List D → List D
  | x :: xs, y :: ys => .tup [x, y] :: zipL xs ys
  | _, _ => []
theorem zipL_get : ∀ (xs ys : List D) (i : Nat) {e : D}, (zipL xs ys)[i]? = some e → ∃ x y, xs[i]? = some x ∧ ys[i]? = some y ∧ e = .tup [x, y]
  | [], _, i, e, h => by simp [zipL] at h
  | _ :: _, [], i, e, h => by simp [zipL] at h
  | x :: xs, y :: ys, 0, e, h => by
    have : (.tup [x, y] : D) = e := by simpa [zipL] using h
    exact ⟨x, y, rfl, rfl, this.symm⟩
  | x :: xs, y :: ys, i + 1, e, h => by
    obtain ⟨x', y', e1, e2, e3⟩ := zipL_get xs ys i (e := e) (by simpa [zipL] using h)
    exact ⟨x', y', by simpa using e1, by simpa using e2, e3⟩
theorem zipL_len : ∀ (xs ys : List D), (zipL xs ys).length = min xs.length ys.length
  | [], _ => by simp [zipL]
  | _ :: _, [] => by simp [zipL]
  | x :: xs, y :: ys => by
    show (zipL xs ys).length + 1 = min (xs.length + 1) (ys.length + 1)
    rw [zipL_len]
    omega
section
variable {K : PySem.W.Frag} {m : Map} {H : Hp} {vh : VH}
theorem rep_pair {x y : D} {v w : V} {T : Addr} (hr : Hr K m H vh) (hT : H T = none) (r1 : Rep K m H x v) (r2 : Rep K m H y w) : Same H (upd H T (.tup [v, w])) ∧ Rep K m (upd H T (.tup [v, w])) (.tup [x, y]) (.ref T) := by
  have sm : Same H (upd H T (.tup [v, w])) := same_new hT
  have st := Step.same (m := m) sm
  refine ⟨sm, ?_⟩
  simp only [Rep]
  refine ⟨T, [v, w], rfl, .of upd_same, ?_⟩
  simp only [Reps]
  exact ⟨v, [w], rfl, Rep.step hr st _ _ r1, w, [], rfl, Rep.step hr st _ _ r2, rfl⟩
theorem src_enumT {still : VH → Prop} {a : Addr} {ds : List D} (h : ∀ m' vh' H', Step m H m' H' → Hr K m' H' vh' → still vh' → ∃ xs, SqT K H' a xs ∧ Reps K m' H' ds xs) : SrcRep K m H ⟨enumL 0 ds, still⟩ (IteT K a) := by
  intro m' vh' H' s hr' st
  obtain ⟨xs, hq, r⟩ := h m' vh' H' s hr' st
  refine ⟨fun i d e => ?_, fun i hi => ⟨xs, hq, by rw [← r.len]; rw [enumL_len] at hi; exact hi⟩⟩
  obtain ⟨d', e1, rfl⟩ := enumL_get _ _ _ e
  obtain ⟨v, e2, rv⟩ := r.get e1
  refine ⟨⟨xs, v, hq, e2⟩, fun x H2 ⟨T, y, ex, hT, eH, hy⟩ => ?_⟩
  subst ex eH
  have := hy xs hq
  rw [e2] at this; cases this
  rw [Nat.zero_add]
  exact rep_pair hr' hT rfl rv
theorem src_enumL {still : VH → Prop} {a : Addr} {ds : List D} (h : ∀ m' vh' H', Step m H m' H' → Hr K m' H' vh' → still vh' → ∃ xs, SqL K H' a xs ∧ Reps K m' H' ds xs) : SrcRep K m H ⟨enumL 0 ds, still⟩ (Ite K a) := by
  intro m' vh' H' s hr' st
  obtain ⟨xs, hq, r⟩ := h m' vh' H' s hr' st
  refine ⟨fun i d e => ?_, fun i hi => ⟨xs, hq, by rw [← r.len]; rw [enumL_len] at hi; exact hi⟩⟩
  obtain ⟨d', e1, rfl⟩ := enumL_get _ _ _ e
  obtain ⟨v, e2, rv⟩ := r.get e1
  refine ⟨⟨xs, v, hq, e2⟩, fun x H2 ⟨T, y, ex, hT, eH, hy⟩ => ?_⟩
  subst ex eH
  have := hy xs hq
  rw [e2] at this; cases this
  rw [Nat.zero_add]
  exact rep_pair hr' hT rfl rv
theorem src_zipT {still : VH → Prop} {a b : Addr} {ds es : List D} (h : ∀ m' vh' H', Step m H m' H' → Hr K m' H' vh' → still vh' → ∃ xs ys, SqT K H' a xs ∧ SqT K H' b ys ∧ Reps K m' H' ds xs ∧ Reps K m' H' es ys) : SrcRep K m H ⟨zipL ds es, still⟩ (RZ.ItzT K a b) := by
  intro m' vh' H' s hr' st
  obtain ⟨xs, ys, hq, hq2, r, r2⟩ := h m' vh' H' s hr' st
  refine ⟨fun i d e => ?_, fun i hi => ⟨xs, ys, hq, hq2, by rw [← r.len, ← r2.len]; rw [zipL_len] at hi; omega⟩⟩
  obtain ⟨x, y, e1, e2, rfl⟩ := zipL_get _ _ _ e
  obtain ⟨v, f1, rv⟩ := r.get e1
  obtain ⟨w, f2, rw'⟩ := r2.get e2
  refine ⟨⟨xs, ys, v, w, hq, hq2, f1, f2⟩, fun x H2 ⟨T, y, z, ex, hT, eH, hy, hz⟩ => ?_⟩
  subst ex eH
  have t1 := hy xs hq
  rw [f1] at t1; cases t1
  have t2 := hz ys hq2
  rw [f2] at t2; cases t2
  exact rep_pair hr' hT rv rw'
theorem src_zipL {still : VH → Prop} {a b : Addr} {ds es : List D} (h : ∀ m' vh' H', Step m H m' H' → Hr K m' H' vh' → still vh' → ∃ xs ys, SqL K H' a xs ∧ SqL K H' b ys ∧ Reps K m' H' ds xs ∧ Reps K m' H' es ys) : SrcRep K m H ⟨zipL ds es, still⟩ (Itz K a b) := by
  intro m' vh' H' s hr' st
  obtain ⟨xs, ys, hq, hq2, r, r2⟩ := h m' vh' H' s hr' st
  refine ⟨fun i d e => ?_, fun i hi => ⟨xs, ys, hq, hq2, by rw [← r.len, ← r2.len]; rw [zipL_len] at hi; omega⟩⟩
  obtain ⟨x, y, e1, e2, rfl⟩ := zipL_get _ _ _ e
  obtain ⟨v, f1, rv⟩ := r.get e1
  obtain ⟨w, f2, rw'⟩ := r2.get e2
  refine ⟨⟨xs, ys, v, w, hq, hq2, f1, f2⟩, fun x H2 ⟨T, y, z, ex, hT, eH, hy, hz⟩ => ?_⟩
  subst ex eH
  have t1 := hy xs hq
  rw [f1] at t1; cases t1
  have t2 := hz ys hq2
  rw [f2] at t2; cases t2
  exact rep_pair hr' hT rv rw'
/-- a list's items later on, while it stands -/
@[reducible] def lstill (d : D) (ds : List D) : VH → Prop := match d with
  | .ref p => stays p ds
  | _ => always
theorem lview_src {d : D} {v : V} {ds : List D} (hr : Hr K m H vh) (r : Rep K m H d v) (e : lview vh d = some ds) : ∃ a xs, v = .ref a ∧ SqL K H a xs ∧ ∀ m' vh' H', Step m H m' H' → Hr K m' H' vh' → lstill d ds vh' → ∃ xs, SqL K H' a xs ∧ Reps K m' H' ds xs := by
  cases d with
  | lst ds' =>
    cases e
    simp only [Rep] at r
    obtain ⟨a, xs, rfl, e2, im, rs⟩ := r
    exact ⟨a, xs, rfl, .of e2, fun m' vh' H' s _ _ => ⟨xs, .of (Imm.step s e2 im).1, Reps.step hr s _ _ rs⟩⟩
  | ref p =>
    have r1 := r
    simp only [Rep] at r1
    obtain ⟨a, rfl, e2⟩ := r1
    revert e
    show (match vh[p]? with | some (.lst ds) => some ds | _ => none) = some ds → _
    cases q : vh[p]? with
    | none => exact fun z => by cases z
    | some c =>
      cases c with
      | ins _ _ _ => exact fun z => by cases z
      | rng _ _ => exact fun z => by cases z
      | lst ds' =>
        intro z
        cases z
        obtain ⟨xs, e3, rs⟩ := hr.ats p _ a q e2
        refine ⟨a, xs, rfl, .of e3, fun m' vh' H' s hr' st => ?_⟩
        obtain ⟨xs', e4, rs'⟩ := hr'.ats p _ a st (s.2.1 p a e2)
        exact ⟨xs', .of e4, rs'⟩
  | _ => cases e
theorem tup_src {ds : List D} {v : V} (hr : Hr K m H vh) (r : Rep K m H (.tup ds) v) : ∃ a xs, v = .ref a ∧ SqT K H a xs ∧ ∀ m' vh' H', Step m H m' H' → Hr K m' H' vh' → ∃ xs, SqT K H' a xs ∧ Reps K m' H' ds xs := by
  simp only [Rep] at r
  obtain ⟨a, xs, rfl, e2, rs⟩ := r
  exact ⟨a, xs, rfl, e2, fun m' vh' H' s _ => ⟨xs, SqT.step hr s e2, Reps.step hr s _ _ rs⟩⟩
end
def oEnum : List D → VH → (Src → VH → Prop) → Prop := fun ds vh ki => match ds with
  | [.tup xs] => ki ⟨enumL 0 xs, always⟩ vh
  | [d] => match lview vh d with
    | some xs => ki ⟨enumL 0 xs, lstill d xs⟩ vh
    | none => False
  | _ => False
def oZip : List D → VH → (Src → VH → Prop) → Prop := fun ds vh ki => match ds with
  | [.tup xs, .tup ys] => ki ⟨zipL xs ys, always⟩ vh
  | [d, e] => match lview vh d, lview vh e with
    | some xs, some ys => ki ⟨zipL xs ys, fun vh' => lstill d xs vh' ∧ lstill e ys vh'⟩ vh
    | _, _ => False
  | _ => False
section
variable {X : Cx} {W : WX} {tg : Expr} {a b : Expr} {sl : SemA} {p pos tpos : Pos} {elts : List Expr} {kk : Nat}
theorem si_enum (hg : Gl X "enumerate") (hm : X.mg "enumerate" = none) (ha : SA X W sl [a]) (hs : starEach [a] X.env = [(false, eval a X.env)] := by rfl) : SI X W (sItA oEnum sl) (.Tuple elts kk tpos) (.Call (.Name "enumerate" p) [a] [] pos) := by
  refine piImp (pi_enumA hg hm ha hs) fun σ H R ⟨m, env, vh, kx, ki, hr, er, hs, o, ox⟩ => ?_
  refine tA.go hr er ox hs fun m1 vh1 H1 ds vs s1 hr1 er1 ox1 r1 k1 => ?_
  have other : ∀ d xs, ds = [d] → lview vh1 d = some xs → ki ⟨enumL 0 xs, lstill d xs⟩ vh1 → ∃ a xs, vs = [.ref a] ∧ ((SqL X.K H1 a xs ∧ R (Ite X.K a) H1) ∨ (SqT X.K H1 a xs ∧ R (IteT X.K a) H1)) := fun d xs e1 e2 kk => by
    subst e1
    simp only [Reps] at r1
    obtain ⟨v, _, rfl, rv, rfl⟩ := r1
    obtain ⟨b, ys, rfl, q, src⟩ := lview_src hr1 rv e2
    exact ⟨b, ys, rfl, .inl ⟨q, o m1 vh1 H1 _ _ s1 hr1 (src_enumL src) kk⟩⟩
  cases ds with
  | nil => exact k1.elim
  | cons d r =>
    cases r with
    | cons e r => cases d <;> exact k1.elim
    | nil =>
      cases d with
      | tup xs =>
        simp only [Reps] at r1
        obtain ⟨v, _, rfl, rv, rfl⟩ := r1
        obtain ⟨b, ys, rfl, q, src⟩ := tup_src hr1 rv
        exact ⟨b, ys, rfl, .inr ⟨q, o m1 vh1 H1 _ _ s1 hr1 (src_enumT fun m' vh' H' s hr' _ => src m' vh' H' s hr') k1⟩⟩
      | lst xs => exact other _ xs rfl rfl k1
      | ref q =>
        revert k1
        show (match lview vh1 (.ref q) with | some xs => ki ⟨enumL 0 xs, lstill (.ref q) xs⟩ vh1 | none => False) → _
        cases e2 : lview vh1 (.ref q) with
        | none => exact False.elim
        | some xs => exact fun k1 => other _ xs rfl e2 k1
      | _ => exact k1.elim
theorem si_zip (hg : Gl X "zip") (hm : X.mg "zip" = none) (ha : SA X W sl [a, b]) (hs : starEach [a, b] X.env = (false, eval a X.env) :: starEach [b] X.env := by rfl) (hpl : (backTo pos (starEach [b] X.env)).any (·.1) = false := by rfl) :
    SI X W (sItA oZip sl) (.Tuple elts kk tpos) (.Call (.Name "zip" p) [a, b] [] pos) := by
  refine piImp (RZ.pi_zipA hg hm ha hs hpl) fun σ H R ⟨m, env, vh, kx, ki, hr, er, hs, o, ox⟩ => ?_
  refine tA.go hr er ox hs fun m1 vh1 H1 ds vs s1 hr1 er1 ox1 r1 k1 => ?_
  have other : ∀ d e, ds = [d, e] → (match lview vh1 d, lview vh1 e with | some xs, some ys => ki ⟨zipL xs ys, fun vh' => lstill d xs vh' ∧ lstill e ys vh'⟩ vh1 | _, _ => False) → ∃ a b xs ys, vs = [.ref a, .ref b] ∧ ((SqL X.K H1 a xs ∧ SqL X.K H1 b ys ∧ R (Itz X.K a b) H1) ∨ (SqT X.K H1 a xs ∧ SqT X.K H1 b ys ∧ R (RZ.ItzT X.K a b) H1)) := fun d e e1 => by
    subst e1
    cases e2 : lview vh1 d with
    | none => exact False.elim
    | some xs =>
      cases e3 : lview vh1 e with
      | none => exact False.elim
      | some ys =>
        intro kk
        simp only [Reps] at r1
        obtain ⟨v, _, rfl, rv, w, _, rfl, rw', rfl⟩ := r1
        obtain ⟨b1, ys1, rfl, q1, src1⟩ := lview_src hr1 rv e2
        obtain ⟨b2, ys2, rfl, q2, src2⟩ := lview_src hr1 rw' e3
        refine ⟨b1, b2, ys1, ys2, rfl, .inl ⟨q1, q2, o m1 vh1 H1 _ _ s1 hr1 (src_zipL fun m' vh' H' s hr' st => ?_) kk⟩⟩
        obtain ⟨l1, p1, p2⟩ := src1 m' vh' H' s hr' st.1
        obtain ⟨l2, p3, p4⟩ := src2 m' vh' H' s hr' st.2
        exact ⟨l1, l2, p1, p3, p2, p4⟩
  cases ds with
  | nil => exact k1.elim
  | cons d r =>
    cases r with
    | nil => cases d <;> exact k1.elim
    | cons e r =>
      cases r with
      | cons f r => cases d <;> cases e <;> exact k1.elim
      | nil =>
        cases d with
        | tup xs =>
          cases e with
          | tup ys =>
            simp only [Reps] at r1
            obtain ⟨v, _, rfl, rv, w, _, rfl, rw', rfl⟩ := r1
            obtain ⟨b1, ys1, rfl, q1, src1⟩ := tup_src hr1 rv
            obtain ⟨b2, ys2, rfl, q2, src2⟩ := tup_src hr1 rw'
            refine ⟨b1, b2, ys1, ys2, rfl, .inr ⟨q1, q2, o m1 vh1 H1 _ _ s1 hr1 (src_zipT fun m' vh' H' s hr' st => ?_) k1⟩⟩
            obtain ⟨l1, p1, p2⟩ := src1 m' vh' H' s hr'
            obtain ⟨l2, p3, p4⟩ := src2 m' vh' H' s hr'
            exact ⟨l1, l2, p1, p3, p2, p4⟩
          | _ => exact k1.elim
        | lst xs => cases e <;> exact other _ _ rfl k1
        | ref q => cases e <;> exact other _ _ rfl k1
        | _ => cases e <;> exact k1.elim
end
end VI

end
section
/-! VI21: isinstance of own classes and of two types; o[i] op= e. -/
namespace VI
open PySem PySem.Spec L2
open PyProof.Rows hiding St
/-! ### isinstance(e, C), C an own class -/
structure IsC (K : PySem.W.Frag) (L : List Str) (C : Str) : Prop where
  ty : ∀ t : Ty, PySem.W.kitOne K (.type t.str') (.ref (He.ga K C)) = some false
  own : ∀ c ∈ L, PySem.W.kitOne K (.ref (He.ga K c)) (.ref (He.ga K C)) = some (c == C)
  at_ : ∀ {H : Hp} {a dx : Addr} {fs : List (Str × V)}, ∀ c ∈ L, H a = some (.ins (He.ga K c) dx fs) → TyX K H (.ref a) (.ref (He.ga K c))
def allTy : List Ty := [.non, .bl, .int, .str, .tup, .lst]
def isCB (K : PySem.W.Frag) (L : List Str) (C : Str) : Bool :=
  allTy.all (fun t => decide (PySem.W.kitOne K (.type t.str') (.ref (He.ga K C)) = some false)) &&
  (L.all (fun c => decide (PySem.W.kitOne K (.ref (He.ga K c)) (.ref (He.ga K C)) = some (c == C)) && ((He.Fa.cls c).ok K &&
    (He.eqO (PySem.W.findIn K (.ref (He.ga K c)) "__class__") (some (some (.builtin "object.__class__"))) && decide (PySem.W.mroIn K (He.ga K c) (.type "object") = some true)))) &&
  (He.eqO (PySem.W.specialIn K (.builtin "object.__class__") "__get__") (some (some (.builtin "getset_descriptor.__get__"))) && decide (PySem.W.takesIn K (.builtin "object.__class__") = some true)))
theorem isCB_ok {K : PySem.W.Frag} {L : List Str} {C : Str} (h : isCB K L C = true) : IsC K L C := by
  obtain ⟨h1, h⟩ := He.ba h
  obtain ⟨h2, h⟩ := He.ba h
  obtain ⟨h3, h4⟩ := He.ba h
  refine ⟨fun t => ?_, fun c hc => ?_, fun c hc e => ?_⟩
  · have := List.all_eq_true.mp h1 t (by cases t <;> simp [allTy])
    exact of_decide_eq_true this
  · obtain ⟨q, _⟩ := He.ba (List.all_eq_true.mp h2 c hc)
    exact of_decide_eq_true q
  · obtain ⟨_, q⟩ := He.ba (List.all_eq_true.mp h2 c hc)
    obtain ⟨q1, q⟩ := He.ba q
    obtain ⟨q2, q3⟩ := He.ba q
    exact .base (.ins e (He.cls_ok q1) (He.eqO_ok q2) (He.eqO_ok h3) (of_decide_eq_true h4) (of_decide_eq_true q3))
def oIsC (L : List Str) (C : Str) (d : D) (vh : VH) (kd : KD) : Prop := match tyD vh d with
  | some _ => kd (.bl false) vh
  | none => match oview vh d with
    | some (c, _, _) => c ∈ L ∧ kd (.bl (c == C)) vh
    | none => False
def sIsC (L : List Str) (C : Str) (s : SemE) : SemE := fun env vh kx kd => s env vh kx fun d vh' => oIsC L C d vh' kd
/-- isinstance(e, (S, T)) -/
def isT2 (t u v : Ty) : Bool := match isT t u with
  | true => true
  | false => isT t v
theorem isT2_kit {K : PySem.W.Frag} (t u v : Ty) : PySem.W.kitAny K (.type t.str') [.type u.str', .type v.str'] = some (isT2 t u v) := by
  refine kitAny_cons (isT_kit t u) (fun e => ?_) fun e => by unfold isT2; rw [e]
  refine kitAny_cons (isT_kit t v) (fun e2 => ?_) fun e2 => by unfold isT2; rw [e, e2]
  show some false = _
  unfold isT2
  rw [e, e2]
def oIsi2 (u v : Ty) (d : D) (vh : VH) (kd : KD) : Prop := match tyD vh d with
  | some t => kd (.bl (isT2 t u v)) vh
  | none => False
def sIsi2 (u v : Ty) (s : SemE) : SemE := fun env vh kx kd => s env vh kx fun d vh' => oIsi2 u v d vh' kd
section
variable {X : Cx} {W : WX} {p p2 p3 pos tpos : Pos} {e : Expr} {se : SemE}
theorem se_isC {L : List Str} {C : Str} (I : IsC X.K L C) (hg : Gl X "isinstance") (hm : X.mg "isinstance" = none) (hgT : Gl X C) (hmT : X.mg C = some (.ref (He.ga X.K C))) (he : SE X W se e) (hd : (C == ("__debug__" : Str)) = false := by decide)
    (h1 : starEach [e, .Name C p2] X.env = (false, eval e X.env) :: starEach [.Name C p2] X.env := by rfl) (h2 : starEach [.Name C p2] X.env = (false, eval (.Name C p2) X.env) :: starEach [] X.env := by rfl) (hpl : (backTo pos (starEach [.Name C p2] X.env)).any (·.1) = false := by rfl) :
    SE X W (sIsC L C se) (.Call (.Name "isinstance" p) [e, .Name C p2] [] pos) := by
  have hty : PE X (.Name C p2) (tC (.ref (He.ga X.K C))) := pe_glob hgT hmT rfl hd
  refine peImp (pe_callB call_isi hg hm boot_isinstance (pa_cons he (pa_cons hty pa_nil h2) h1) (by decide) (by decide) h1 hpl) fun σ H Q ⟨m, env, vh, kx, kd, hr, er, h, ho, ox⟩ => ?_
  refine tE.go hr er ox h fun m1 vh1 H1 d v s1 hr1 er1 ox1 r1 k1 => ?_
  revert k1
  show (match tyD vh1 d with | some _ => kd (.bl false) vh1 | none => match oview vh1 d with | some (c, _, _) => c ∈ L ∧ kd (.bl (c == C)) vh1 | none => False) → _
  cases et : tyD vh1 d with
  | some t => exact fun k1 => ⟨v, .ref (He.ga X.K C), .type t.str', .ref (He.ga X.K C), false, rfl, .own _, tyD_rep hr1 r1 et, I.ty t, ho m1 vh1 H1 (.bl false) _ s1 hr1 rep_bl k1⟩
  | none =>
    cases eo : oview vh1 d with
    | none => exact False.elim
    | some q =>
      obtain ⟨c, ns, ds⟩ := q
      rintro ⟨hc, k1⟩
      obtain ⟨a, dx, fs, rfl, eH, _, _⟩ := oview_rep hr1 r1 eo
      exact ⟨.ref a, .ref (He.ga X.K C), .ref (He.ga X.K c), .ref (He.ga X.K C), c == C, rfl, .own _, I.at_ c hc eH, I.own c hc, ho m1 vh1 H1 (.bl (c == C)) _ s1 hr1 rep_bl k1⟩
theorem se_isi2 (u v : Ty) {UN VN : Str} {kk : Nat} (hg : Gl X "isinstance") (hm : X.mg "isinstance" = none) (hgU : Gl X UN) (hmU : X.mg UN = none) (hU : bootBuiltins UN = some (.type u.str')) (hgV : Gl X VN) (hmV : X.mg VN = none) (hV : bootBuiltins VN = some (.type v.str')) (he : SE X W se e)
    (hn : UN ≠ "__name__" := by decide) (hd : (UN == ("__debug__" : Str)) = false := by decide) (hn' : VN ≠ "__name__" := by decide) (hd' : (VN == ("__debug__" : Str)) = false := by decide)
    (h1 : starEach [e, .Tuple [.Name UN p2, .Name VN p3] kk tpos] X.env = (false, eval e X.env) :: starEach [.Tuple [.Name UN p2, .Name VN p3] kk tpos] X.env := by rfl)
    (h2 : starEach [.Tuple [.Name UN p2, .Name VN p3] kk tpos] X.env = (false, eval (.Tuple [.Name UN p2, .Name VN p3] kk tpos) X.env) :: starEach [] X.env := by rfl)
    (h3 : starEach [.Name UN p2, .Name VN p3] X.env = (false, eval (.Name UN p2) X.env) :: starEach [.Name VN p3] X.env := by rfl) (h4 : starEach [.Name VN p3] X.env = (false, eval (.Name VN p3) X.env) :: starEach [] X.env := by rfl)
    (hpl : (backTo pos (starEach [.Tuple [.Name UN p2, .Name VN p3] kk tpos] X.env)).any (·.1) = false := by rfl) :
    SE X W (sIsi2 u v se) (.Call (.Name "isinstance" p) [e, .Tuple [.Name UN p2, .Name VN p3] kk tpos] [] pos) := by
  have ty1 : PE X (.Name UN p2) (tC (.ty u.str')) := pe_bltn hgU hmU hU rfl hn hd
  have ty2 : PE X (.Name VN p3) (tC (.ty v.str')) := pe_bltn hgV hmV hV rfl hn' hd'
  refine peImp (pe_callB call_isiT hg hm boot_isinstance (pa_cons he (pa_cons (pe_tup (pa_cons ty1 (pa_cons ty2 pa_nil h4) h3)) pa_nil h2) h1) (by decide) (by decide) h1 hpl) fun σ H Q ⟨m, env, vh, kx, kd, hr, er, h, ho, ox⟩ => ?_
  refine tE.go hr er ox h fun m1 vh1 H1 d w s1 hr1 er1 ox1 r1 k1 => ?_
  revert k1
  show (match tyD vh1 d with | some t => kd (.bl (isT2 t u v)) vh1 | none => False) → _
  cases et : tyD vh1 d with
  | none => exact False.elim
  | some t =>
    intro k1
    refine ⟨by show 2 ≤ sizeLine; decide, fun T hT => ?_⟩
    have sm : Same H1 (upd H1 T (.tup [.ty u.str', .ty v.str'])) := same_new hT
    have st := Step.same (m := m1) sm
    have hr2 := hr1.same sm
    exact ⟨w, T, [.ty u.str', .ty v.str'], .type t.str', [.type u.str', .type v.str'], isT2 t u v, rfl, upd_same, .cons (.ty _) (.cons (.ty _) .nil), tyD_rep hr2 (Rep.step hr1 st _ _ r1) et, isT2_kit t u v, ho m1 vh1 _ (.bl (isT2 t u v)) _ (s1.trans st) hr2 rep_bl k1⟩
end
/-! ### o[i] op= e, o a list's cell -/
theorem get_list {X : Cx} : PGet X (rIxL X.K) := by
  intro pins s σ H x y v u Q I rx ry h
  obtain ⟨p, xs, i, z, rfl, rfl, hq, he, q⟩ := h
  cases rx
  obtain ⟨t, rfl⟩ := ry
  obtain ⟨its, r, pl, hz⟩ := I.list hq
  obtain ⟨j, h1, h2, h3, h4, h5⟩ := atI_get he
  obtain ⟨w, ew, rw'⟩ := r.get h2
  have hl := r.length
  have hn := line63
  have fin : EP X pins σ Q w s := ⟨z, H, I, rw', q⟩
  by_cases h0 : 0 ≤ i
  · have hj : i.toNat = j := by
      rw [seqIndex_of h0 h5] at h1
      exact Option.some.inj h1
    exact wpAny_getItem_list pl.isList h0 (by omega) (by rw [hj]; simpa using ew) fin
  · have hj : (i + (its.toArray.size : Int)).toNat = j := by
      rw [seqIndex_neg (by omega) h4] at h1
      rw [List.size_toArray, ← hl]
      exact Option.some.inj h1
    exact wpAny_getItem_list_neg pl.isList (by omega) (by rw [List.size_toArray] <;> omega) (by omega) (by rw [hj]; simpa using ew) fin
def oGetL (od id : D) (vh : VH) (kd : KD) : Prop := match od, id with
  | .ref p, .int i => ∃ ds d, vh[p]? = some (.lst ds) ∧ atI ds i = some d ∧ kd d vh
  | _, _ => False
theorem oGetL_inv {vh : VH} {od id : D} {kd : KD} (h : oGetL od id vh kd) : ∃ p i ds d, od = .ref p ∧ id = .int i ∧ vh[p]? = some (.lst ds) ∧ atI ds i = some d ∧ kd d vh := by
  cases od with
  | ref p =>
    cases id with
    | int i => obtain ⟨ds, d, h1, h2, h3⟩ := h; exact ⟨p, i, ds, d, rfl, rfl, h1, h2, h3⟩
    | _ => exact h.elim
  | _ => exact h.elim
def sAugS (so si : SemE) (op : SO2) (se : SemE) : SemS := fun env vh k => so env vh (fun e h => k.ex e env h) fun od vh1 => si env vh1 (fun e h => k.ex e env h) fun id vh2 => oGetL od id vh2 fun x vh3 => se env vh3 (fun e h => k.ex e env h) fun y vh4 => op x y vh4 fun z vh5 => oPut z od id vh5 (k.nx env)
theorem ss_augS {X : Cx} {W : WX} {o i e : Expr} {so si se : SemE} {sop : SO2} {ti : TIp} {op : Operator} {pos tpos : Pos} (ho : SE X W so o) (hi : SE X W si i) (he : SE X W se e) (hop : PIp X op ti) (hs : SnIp X.K sop ti)
    (ha : ∀ ov iv new, augStore i ov iv new = (do holding [new, ov, iv] (setItem ov iv new); release [new, ov, iv] []; pure .next) := by intros; rfl) : SS X W (sAugS so si sop se) (.AugAssign (.Subscript o i tpos) op e pos) := by
  refine psImp (ps_augS ho hi get_list he hop set_list ha) fun Dn σ H ⟨m, env, vh, k, hr, er, h, o⟩ => ?_
  refine tE.goS hr er o h fun m1 vh1 H1 od ov s1 hr1 er1 o1 r1 k1 => ?_
  refine tE.goS hr1 er1 o1 k1 fun m2 vh2 H2 id iv s2 hr2 er2 o2 r2 k2 => ?_
  obtain ⟨p, i, ds, d, rfl, rfl, ec, ed, k3⟩ := oGetL_inv k2
  have r1' := Rep.step hr1 s2 _ _ r1
  have r1s := r1'
  simp only [Rep] at r1s r2
  obtain ⟨a, ev, ea⟩ := r1s
  subst ev
  obtain ⟨xs, eH, rs⟩ := hr2.ats p _ a ec ea
  obtain ⟨v, ev2, rv⟩ := rs.atI ed
  refine ⟨a, xs, i, v, rfl, r2, .of eH, ev2, ?_⟩
  refine tE.goS hr2 er2 o2 k3 fun m3 vh3 H3 y w s3 hr3 er3 o3 r3 k4 => ?_
  refine hs m3 H3 vh3 d y v w _ _ hr3 (Rep.step hr2 s3 _ _ rv) r3 k4 fun m4 vh4 H4 z zv s4 hr4 r4 k5 => ?_
  obtain ⟨p', i', ds', j, e1, e2, ec', ej, kk⟩ := sPutL_inv (Qn := fun h => k.nx env h) k5
  cases e1
  cases e2
  have ea4 := (s3.trans s4).2.1 p a ea
  obtain ⟨xs', eH', rs'⟩ := hr4.ats p _ a ec' ea4
  refine ⟨a, xs', i, j, rfl, r2, eH', by rw [← rs'.len]; exact ej, ?_⟩
  have st := set_step (H := H4) (o := .lst (xs'.set j zv)) ea4
  exact o3.nx m4 _ _ env σ (s4.trans st) (hr4.set (c := .lst (ds'.set j z)) ea4 ⟨_, upd_same, Reps.step hr4 st _ _ (rs'.set j r4)⟩) ((er3.step hr3 s4).step hr4 st) kk
/-! ### at plain data -/
section
variable {L : List Str} {C c : Str} {vh : VH} {kd : KD} {i : Int} {b : Bool} {x : Str} {xs ys ds : List D} {ns : List Str} {u v : Ty} {ki : Src → VH → Prop} {p : Nat}
theorem oIsC_n : oIsC L C .non vh kd = kd (.bl false) vh := rfl
theorem oIsC_b : oIsC L C (.bl b) vh kd = kd (.bl false) vh := rfl
theorem oIsC_i : oIsC L C (.int i) vh kd = kd (.bl false) vh := rfl
theorem oIsC_s : oIsC L C (.str x) vh kd = kd (.bl false) vh := rfl
theorem oIsC_t : oIsC L C (.tup xs) vh kd = kd (.bl false) vh := rfl
theorem oIsC_l : oIsC L C (.lst xs) vh kd = kd (.bl false) vh := rfl
theorem oIsC_o : oIsC L C (.obj c ns ds) vh kd = (c ∈ L ∧ kd (.bl (c == C)) vh) := rfl
theorem oIsi2_n : oIsi2 u v .non vh kd = kd (.bl (isT2 .non u v)) vh := rfl
theorem oIsi2_b : oIsi2 u v (.bl b) vh kd = kd (.bl (isT2 .bl u v)) vh := rfl
theorem oIsi2_i : oIsi2 u v (.int i) vh kd = kd (.bl (isT2 .int u v)) vh := rfl
theorem oIsi2_s : oIsi2 u v (.str x) vh kd = kd (.bl (isT2 .str u v)) vh := rfl
theorem oIsi2_t : oIsi2 u v (.tup xs) vh kd = kd (.bl (isT2 .tup u v)) vh := rfl
theorem oIsi2_l : oIsi2 u v (.lst xs) vh kd = kd (.bl (isT2 .lst u v)) vh := rfl
theorem oEnum_t : oEnum [.tup xs] vh ki = ki ⟨enumL 0 xs, always⟩ vh := rfl
theorem oEnum_l : oEnum [.lst xs] vh ki = ki ⟨enumL 0 xs, always⟩ vh := rfl
theorem oZip_t : oZip [.tup xs, .tup ys] vh ki = ki ⟨zipL xs ys, always⟩ vh := rfl
theorem oZip_l : oZip [.lst xs, .lst ys] vh ki = ki ⟨zipL xs ys, fun _ => True ∧ True⟩ vh := rfl
theorem enum_ref (h : vh[p]? = some (.lst ds)) (k : ki ⟨enumL 0 ds, stays p ds⟩ vh) : oEnum [.ref p] vh ki := by
  show (match lview vh (.ref p) with | some xs => ki ⟨enumL 0 xs, stays p xs⟩ vh | none => False)
  have e : lview vh (.ref p) = some ds := by
    show (match vh[p]? with | some (.lst ds) => some ds | _ => none) = _
    rw [h]
  rw [e]
  exact k
theorem isi2_ref (h : vh[p]? = some (.lst ds)) (k : kd (.bl (isT2 .lst u v)) vh) : oIsi2 u v (.ref p) vh kd := by
  show (match (match vh[p]? with | some (.lst _) => some Ty.lst | _ => none) with | some t => kd (.bl (isT2 t u v)) vh | none => False)
  rw [h]
  exact k
theorem aug_ref {d : D} (h : vh[p]? = some (.lst ds)) (e : atI ds i = some d) (k : kd d vh) : oGetL (.ref p) (.int i) vh kd := ⟨ds, d, h, e, k⟩
end
end VI

end
section
/-! VI22: list(x); sum of a list or a tuple. -/
namespace VI
open PySem PySem.Spec L2
open PyProof.Rows hiding St
theorem sum_tup_raw {prog : Program} {w : World} {A : Around} {E : Value → Shared → Prop} {s : Shared} {l : Addr} {its : List Value} {ns : List Int} {Q : Value → Shared → Prop} (hh : A.handled = none) (hl : s.heap.IsTuple l its.toArray) (hi : IntsAre its ns)
    (h : ∀ h' tk t', (∀ b o, s.heap.get? b = some o → h'.get? b = some o) → Q (.int ns.sum t') { s with heap := h', toks := tk }) : wpAny (model prog w) A (call (.builtin "sum") [.ref l]) Q E s := by
  obtain ⟨xs, e⟩ := hi.allInts.items
  have hn : numsOf (intItems xs).toList = ns := by rw [← e]; exact hi.numsOf
  rw [nums_intItems] at hn
  rw [e] at hl
  have hlt : l < s.heap.objs.size := by obtain ⟨_, z, _⟩ := hl; exact Heap.lt_size z
  refine call_sum_walkG (wpAny_pyIter_tuple hl ?_)
  refine ⟨_, _, _, _, _, _, numAt xs, rfl, Walks.tuple (A := A.in1) hh s.heap.objs.size l (Nat.ne_of_lt hlt) (intItems xs), ⟨⟨_, Heap.get?_push_size _ rfl, rfl, rfl⟩, hl.at fun o e => Heap.get?_push_of_some _ e⟩, fun b hb => ?_, (fun _ _ => intItems_at), fun h' tk t' hk => ?_⟩
  · have e' : b = s.heap.objs.size ∨ b = l := by simpa using hb
    show b < (s.heap.push _).objs.size
    rw [Heap.size_push]
    rcases e' with z | z
    · rw [z]; exact Nat.lt_succ_self _
    · rw [z]; exact Nat.lt_succ_of_lt hlt
  · have := h h' tk t' fun b o q => hk b o (by simp; exact Nat.ne_of_lt (Heap.lt_size q)) (Heap.get?_push_of_some _ q)
    rw [← hn, show (List.map (·.1) xs.toList).sum = preSum (numAt xs) (intItems xs).size from by
      rw [preSum_eq, List.take_of_length_le (by simp [intItems])]] at this
    exact this
def rSumA (K : PySem.W.Frag) : List V → Hp → VK → Prop := fun vs H Q => ∃ (a : Addr) (ns : List Int), vs = [V.ref a] ∧ (SqL K H a (ns.map V.int) ∨ SqT K H a (ns.map V.int)) ∧ Q (.int ns.sum) H
section
variable {X : Cx} {W : WX} {e : Expr} {sl : SemA} {p pos : Pos}
theorem cr_sumA (hc : X.calm = true) : CallR X (.builtin "sum") (rSumA X.K) := by
  intro pins s σ H vs us Q I r h
  obtain ⟨a, ns, rfl, hs, q⟩ := h
  rw [Vals.ref1 r]
  rcases hs with hs | hs
  · obtain ⟨its, rv, hl, _⟩ := I.list hs
    exact sum_raw (I.ok.hd hc) hl.isList rv.ints fun h' tk t' hk => ⟨.int _, H, I.kept hk, ⟨_, rfl⟩, q⟩
  · obtain ⟨its, rv, hl, _⟩ := I.tuple hs
    exact sum_tup_raw (I.ok.hd hc) (show s.heap.IsTuple a its.toArray from hl) rv.ints fun h' tk t' hk => ⟨.int _, H, I.kept hk, ⟨_, rfl⟩, q⟩
def oSumS : SOL := fun ds vh kd => match ds with
  | [d] => ∃ ns : List Int, sview vh d = some (ns.map D.int) ∧ kd (.int ns.sum) vh
  | _ => False
theorem sn_sumS : SnL X.K oSumS (rSumA X.K) := by
  intro m H vh ds vs kd Q hr r h ho
  cases ds with
  | nil => exact h.elim
  | cons d ds =>
    cases ds with
    | cons _ _ => exact h.elim
    | nil =>
      obtain ⟨v, rfl, r1⟩ := reps1 r
      obtain ⟨ns, e, k⟩ := h
      obtain ⟨a, xs, rfl, q, rs⟩ := sview_rep hr r1 e
      have ex := Reps.ints.mp rs
      subst ex
      exact ⟨a, ns, rfl, q, ho m vh H (.int ns.sum) _ (Step.refl _ _) hr rfl k⟩
theorem se_sumS (hc : X.calm = true) (hg : Gl X "sum") (hm : X.mg "sum" = none) (ha : SA X W sl [e]) (he : starEach [e] X.env = (false, eval e X.env) :: starEach [] X.env := by rfl) : SE X W (sCallB oSumS sl) (.Call (.Name "sum" p) [e] [] pos) := se_callB (cr_sumA hc) sn_sumS hg hm boot_sum ha (by decide) (by decide) he
def oList (cell : Bool) : SOL := fun ds vh kd => match ds with
  | [d] => match sview vh d with
    | some es => newL cell es vh kd
    | none => False
  | _ => False
theorem sn_list (cell : Bool) : SnL X.K (oList cell) (fun xs H Q => ∃ p ys, xs = [.ref p] ∧ (SqL X.K H p ys ∨ SqT X.K H p ys) ∧ ∀ l, H l = none → Q (.ref l) (upd H l (.lst ys))) := by
  intro m H vh ds vs kd Q hr r h ho
  cases ds with
  | nil => exact h.elim
  | cons d ds =>
    cases ds with
    | cons _ _ => exact h.elim
    | nil =>
      obtain ⟨v, rfl, r1⟩ := reps1 r
      revert h
      show (match sview vh d with | some es => newL cell es vh kd | none => False) → _
      cases e : sview vh d with
      | none => exact False.elim
      | some es =>
        intro h
        obtain ⟨a, xs, rfl, q, rs⟩ := sview_rep hr r1 e
        exact ⟨a, xs, rfl, q, fun l hl => out_lst (cell := cell) hr rs h ho hl⟩
theorem se_list (cell : Bool) (hg : Gl X "list") (hm : X.mg "list" = none) (ha : SA X W sl [e]) (he : starEach [e] X.env = (false, eval e X.env) :: starEach [] X.env := by rfl) : SE X W (sCallB (oList cell) sl) (.Call (.Name "list" p) [e] [] pos) := se_callTy call_list_of (sn_list cell) hg hm (by decide +kernel) ha (by decide) (by decide) he
end
theorem oList_l {cell : Bool} {xs : List D} {vh : VH} {kd : KD} : oList cell [.lst xs] vh kd = newL cell xs vh kd := rfl
theorem oList_t {cell : Bool} {xs : List D} {vh : VH} {kd : KD} : oList cell [.tup xs] vh kd = newL cell xs vh kd := rfl
theorem list_ref {cell : Bool} {xs : List D} {vh : VH} {kd : KD} {p : Nat} (h : vh[p]? = some (.lst xs)) (k : newL cell xs vh kd) : oList cell [.ref p] vh kd := by
  show (match (match vh[p]? with | some (.lst ds) => some ds | _ => none) with | some es => newL cell es vh kd | none => False)
  rw [h]
  exact k
theorem oTuple_l {xs : List D} {vh : VH} {kd : KD} : oTuple [.lst xs] vh kd = kd (.tup xs) vh := rfl
theorem oTuple_t {xs : List D} {vh : VH} {kd : KD} : oTuple [.tup xs] vh kd = kd (.tup xs) vh := rfl
theorem tuple_ref {xs : List D} {vh : VH} {kd : KD} {p : Nat} (h : vh[p]? = some (.lst xs)) (k : kd (.tup xs) vh) : oTuple [.ref p] vh kd := by
  show (match (match vh[p]? with | some (.lst ds) => some ds | _ => none) with | some es => kd (.tup es) vh | none => False)
  rw [h]
  exact k
theorem oSumS_l {xs : List D} {vh : VH} {kd : KD} : oSumS [.lst xs] vh kd = ∃ ns : List Int, some xs = some (ns.map D.int) ∧ kd (.int ns.sum) vh := rfl
theorem oSumS_t {xs : List D} {vh : VH} {kd : KD} : oSumS [.tup xs] vh kd = ∃ ns : List Int, some xs = some (ns.map D.int) ∧ kd (.int ns.sum) vh := rfl
theorem sum_ref {ns : List Int} {vh : VH} {kd : KD} {p : Nat} (h : vh[p]? = some (.lst (ns.map D.int))) (k : kd (.int ns.sum) vh) : oSumS [.ref p] vh kd := by
  refine ⟨ns, ?_, k⟩
  show (match vh[p]? with | some (.lst ds) => some ds | _ => none) = _
  rw [h]
end VI

end
section
/-! VI23: tuple * int. -/
namespace VI
open PySem PySem.Spec L2
open PyProof.Rows hiding St
open AutoSeq1 (wpAny_loadPart')
theorem tuple_mul1 (l : Addr) (items : Array Value) (n : Nat) (dd : Option Addr) (sl : Array (Option Value)) (u : Tok) :
    Meets (Builtin.«tuple.__mul__» ⟨[.ref l, .int 1 u], []⟩) (fun _ R s => s.heap.get? l = some { cls := .type "tuple", dict := dd, data := .seq items n, slots := sl } ∧ R (.ok (.ret (Value.ref l))) s) :=
  .of_wp fun prog w A R s h => by
    obtain ⟨hp, g, d, tk, os⟩ := s
    obtain ⟨hl, h⟩ := h
    have f1 := AutoSeq1.idx_int
    have c0 : (decide ((1 : Int) < -(2 ^ 63)) || decide ((1 : Int) ≥ 2 ^ 63)) = false := by decide
    have c1 : (items.isEmpty || (1 : Int) == 1) = true := by rw [show ((1 : Int) == 1) = true from rfl, Bool.or_true]
    wp_walk using wpAny_loadPart' hl
    repeat (first
      | (refine wpAny_ite_false (decide_eq_false (by rw [c0]; exact Bool.false_ne_true)) ?_; wp_walk using wpAny_loadPart' hl)
      | (refine wpAny_ite_true (decide_eq_true c1) ?_; wp_walk using wpAny_loadPart' hl))
    exact ⟨_, rfl, h⟩
def rRepT1 (K : PySem.W.Frag) : R2 := fun x y H Q => ∃ l xs, x = .ref l ∧ y = .int 1 ∧ SqT K H l xs ∧ Q (.ref l) H
theorem op_repT1 {X : Cx} : OpR X (binaryOp .Mult) (rRepT1 X.K) := by
  intro pins s σ H x y v u Q I rx ry h
  obtain ⟨l, xs, rfl, rfl, hT, q⟩ := h
  cases rx
  obtain ⟨t, rfl⟩ := ry
  obtain ⟨its, r, ⟨⟨cls, dd, data, sl⟩, ho, hc, n, hd⟩, hs⟩ := I.tuple hT
  simp only at hc hd
  subst hc hd
  refine wpAny_binaryOp_repeat_ref (T := "tuple") (U := "int") (by decide) ⟨_, ho, rfl⟩ (fun s' => typeIs_int s' 1 t) noFill_tuple_mul F.fills_int_mul F.slot_int_rmul repeat_tuple F.slot_int_index.lookup
    (call_meets F.slot_int_rmul (typeIs_int s 1 t) F.entry_int_rmul (F.args_int_rmul_2 _ _) (int_rmul_tuple 1 t l its.toArray n dd sl)
      ⟨ho, rfl, ⟨_, ho, rfl⟩, call_meets F.slot_tuple_mul ⟨_, ho, rfl⟩ F.entry_tuple_mul (F.args_tuple_mul_2 _ _) (tuple_mul1 l its.toArray n dd sl t) ⟨ho, ⟨.ref l, H, I, rfl, q⟩⟩⟩)
def oMulT : SO2 := fun a b vh kd => match a, b with
  | .tup xs, .int k => (1 ≤ k ∧ k ≤ 1000 ∧ 1 ≤ xs.length ∧ xs.length ≤ 1000) ∧ kd (.tup (repD xs k.toNat)) vh
  | _, _ => False
section
variable {X : Cx} {W : WX} {a b : Expr} {sa sb : SemE} {pos : Pos}
theorem sn_mulT : Sn2 X.K oMulT (fun x y H Q => rRepT1 X.K x y H Q ∨ rRepT X.K x y H Q) := by
  intro m H vh d1 d2 v1 v2 kd Q hr r1 r2 h ho
  cases d1 with
  | tup xs =>
    cases d2 with
    | int k =>
      obtain ⟨⟨h1, h2, h3, h4⟩, h⟩ := h
      simp only [Rep] at r1
      obtain ⟨l, us, rfl, q, rs⟩ := r1
      by_cases e : k = 1
      · subst e
        refine .inl ⟨l, us, rfl, r2, q, ho m vh H _ _ (Step.refl _ _) hr ?_ h⟩
        rw [show repD xs (Int.toNat 1) = xs ++ [] from rfl, List.append_nil]
        simp only [Rep]
        exact ⟨l, us, rfl, q, rs⟩
      · refine .inr ⟨l, k, us, rfl, r2, q, fun z => ?_, by omega, h2, by rw [← rs.len]; exact h4, fun p hp => out_tup hr (rs.rep k.toNat) h ho hp⟩
        have := rs.len
        rw [z] at this
        simp at this
        subst this
        simp at h3
    | _ => exact h.elim
  | _ => cases d2 <;> exact h.elim
theorem se_mulT (ha : SE X W sa a) (hb : SE X W sb b) : SE X W (sBin oMulT sa sb) (.BinOp a .Mult b pos) := se_bin (op_repT1.or op_repT) sn_mulT ha hb
end
theorem oMulT_t {xs : List D} {k : Int} {vh : VH} {kd : KD} : oMulT (.tup xs) (.int k) vh kd = ((1 ≤ k ∧ k ≤ 1000 ∧ 1 ≤ xs.length ∧ xs.length ≤ 1000) ∧ kd (.tup (repD xs k.toNat)) vh) := rfl
theorem oMul_l {cell : Bool} {xs : List D} {k : Int} {vh : VH} {kd : KD} : oMul cell (.lst xs) (.int k) vh kd = ((-(2 ^ 63) ≤ k ∧ k < 2 ^ 63 ∧ xs.length * k.toNat ≤ 16777216) ∧ newL cell (repD xs k.toNat) vh kd) := rfl
end VI

end
section
/-! VI24: a value's truth; x in xs of numbers; sorted numbers; three comparisons in a row. -/
namespace VI
open PySem PySem.Spec L2
open PyProof.Rows hiding St
theorem Reps.isEmpty {K : PySem.W.Frag} {m : Map} {H : Hp} {ds : List D} {xs : List V} (r : Reps K m H ds xs) : ds.isEmpty = xs.isEmpty := by
  have := r.len
  cases ds <;> cases xs <;> simp at this ⊢
def oTru (d : D) (vh : VH) (kb : Bool → VH → Prop) : Prop := match d with
  | .non => kb false vh
  | .bl b => kb b vh
  | .int i => kb (i != 0) vh
  | .str x => x.length ≤ 16777216 ∧ kb ((x.length : Int) != 0) vh
  | d => match sview vh d with
    | some ds => kb (!ds.isEmpty) vh
    | none => False
def sTru (s : SemE) : SemT := fun env vh kx kb => s env vh kx fun d vh' => oTru d vh' kb
section
variable {X : Cx} {W : WX} {e : Expr} {se : SemE}
theorem st_tru (he : SE X W se e) (hp : ∀ whole, isTrue e X.env whole = (do let v ← whole; standAt e.pos; holding [v] (truthy v)) := by intro _; rfl) : ST X W (sTru se) e := by
  refine ptImp (pt_truth he hp) fun σ H Q ⟨m, env, vh, kx, kb, hr, er, h, ho, ox⟩ => ?_
  refine tE.go hr er ox h fun m1 vh1 H1 d v s1 hr1 er1 ox1 r1 k1 => ?_
  have seq : ∀ ds, sview vh1 d = some ds → kb (!ds.isEmpty) vh1 → ∃ k, TruV X.K v H1 k ∧ Q k H1 := fun ds e k2 => by
    obtain ⟨a, xs, rfl, q, rs⟩ := sview_rep hr1 r1 e
    refine ⟨!ds.isEmpty, ?_, ho m1 vh1 H1 _ s1 hr1 k2⟩
    rw [rs.isEmpty]
    rcases q with q | q
    · exact .inl ⟨xs, q, rfl⟩
    · exact .inr (.inl ⟨xs, q, rfl⟩)
  cases d with
  | non => have r1 : v = .non := r1; subst r1; exact ⟨false, rfl, ho m1 vh1 H1 _ s1 hr1 k1⟩
  | bl b => have r1 : v = .bl b := r1; subst r1; exact ⟨b, rfl, ho m1 vh1 H1 _ s1 hr1 k1⟩
  | int b => have r1 : v = .int b := r1; subst r1; exact ⟨_, rfl, ho m1 vh1 H1 _ s1 hr1 k1⟩
  | str b => have r1 : v = .str b := r1; subst r1; exact ⟨_, ⟨by rw [sizeLine_eq]; exact k1.1, rfl⟩, ho m1 vh1 H1 _ s1 hr1 k1.2⟩
  | tup ds => exact seq ds rfl k1
  | lst ds => exact seq ds rfl k1
  | ref p =>
    revert k1
    show (match sview vh1 (.ref p) with | some ds => kb (!ds.isEmpty) vh1 | none => False) → _
    cases e : sview vh1 (.ref p) with
    | none => exact False.elim
    | some ds => exact fun k1 => seq ds e k1
  | _ => exact k1.elim
end
theorem tru_ref {p : Nat} {ds : List D} {vh : VH} {kb : Bool → VH → Prop} (h : vh[p]? = some (.lst ds)) (k : kb (!ds.isEmpty) vh) : oTru (.ref p) vh kb := by
  show (match (match vh[p]? with | some (.lst ds) => some ds | _ => none) with | some ds => kb (!ds.isEmpty) vh | none => False)
  rw [h]
  exact k
theorem oTru_b {b : Bool} {vh : VH} {kb : Bool → VH → Prop} : oTru (.bl b) vh kb = kb b vh := rfl
theorem oTru_n {vh : VH} {kb : Bool → VH → Prop} : oTru .non vh kb = kb false vh := rfl
theorem oTru_i {i : Int} {vh : VH} {kb : Bool → VH → Prop} : oTru (.int i) vh kb = kb (i != 0) vh := rfl
theorem oTru_t {ds : List D} {vh : VH} {kb : Bool → VH → Prop} : oTru (.tup ds) vh kb = kb (!ds.isEmpty) vh := rfl
theorem oTru_l {ds : List D} {vh : VH} {kb : Bool → VH → Prop} : oTru (.lst ds) vh kb = kb (!ds.isEmpty) vh := rfl
/-! ### x in xs, of numbers -/
theorem inV_ints {i : Int} : ∀ {ns : List Int}, inV (.int i) (ns.map V.int) = decide (i ∈ ns)
  | [] => by simp [inV]
  | n :: ns => by
    have ih := inV_ints (i := i) (ns := ns)
    simp only [inV, List.map_cons, List.any_cons] at ih ⊢
    rw [ih]
    simp only [eqV]
    rw [Bool.eq_iff_iff]
    simp only [Bool.or_eq_true, beq_iff_eq, decide_eq_true_iff, List.mem_cons]
    constructor
    · rintro (h | h)
      · exact .inl h.symm
      · exact .inr h
    · rintro (h | h)
      · exact .inl h.symm
      · exact .inr h
theorem flat_ints : ∀ {ns : List Int}, (ns.map V.int).all flatV = true
  | [] => rfl
  | n :: ns => by rw [List.map_cons, List.all_cons, flat_ints]; rfl
def oInB (f : Bool → Bool) : SO2 := fun a b vh kd => match a with
  | .int i => ∃ ns : List Int, sview vh b = some (ns.map D.int) ∧ kd (.bl (f (decide (i ∈ ns)))) vh
  | _ => False
def oIn : SO2 := oInB id
def oNotIn : SO2 := oInB not
section
variable {X : Cx}
theorem sn_in : Sn2 X.K oIn (rIn X.K false) := by
  intro m H vh d1 d2 v1 v2 kd Q hr r1 r2 h ho
  cases d1 with
  | int i =>
    obtain ⟨ns, e, k⟩ := h
    have r1 : v1 = .int i := r1
    subst r1
    obtain ⟨a, xs, rfl, q, rs⟩ := sview_rep hr r2 e
    have ex := Reps.ints.mp rs
    subst ex
    exact ⟨a, _, rfl, q, rfl, flat_ints, ho m vh H (.bl (decide (i ∈ ns))) _ (Step.refl _ _) hr (by show _ = _; rw [inV_ints]; rfl) k⟩
  | _ => exact h.elim
theorem sn_notin : Sn2 X.K oNotIn (rIn X.K true) := by
  intro m H vh d1 d2 v1 v2 kd Q hr r1 r2 h ho
  cases d1 with
  | int i =>
    obtain ⟨ns, e, k⟩ := h
    have r1 : v1 = .int i := r1
    subst r1
    obtain ⟨a, xs, rfl, q, rs⟩ := sview_rep hr r2 e
    have ex := Reps.ints.mp rs
    subst ex
    exact ⟨a, _, rfl, q, rfl, flat_ints, ho m vh H (.bl (!decide (i ∈ ns))) _ (Step.refl _ _) hr (by show _ = _; rw [inV_ints]; rfl) k⟩
  | _ => exact h.elim
theorem cs_in (hu : X.A.units + 64 < cLine) : CmpS X .In oIn := ⟨_, op_in_seq, sn_in⟩
theorem cs_notin (hu : X.A.units + 64 < cLine) : CmpS X .NotIn oNotIn := ⟨_, op_notIn_seq, sn_notin⟩
end
theorem oIn_t {i : Int} {xs : List D} {vh : VH} {kd : KD} : oIn (.int i) (.tup xs) vh kd = ∃ ns : List Int, some xs = some (ns.map D.int) ∧ kd (.bl (decide (i ∈ ns))) vh := rfl
theorem oIn_l {i : Int} {xs : List D} {vh : VH} {kd : KD} : oIn (.int i) (.lst xs) vh kd = ∃ ns : List Int, some xs = some (ns.map D.int) ∧ kd (.bl (decide (i ∈ ns))) vh := rfl
theorem oNotIn_t {i : Int} {xs : List D} {vh : VH} {kd : KD} : oNotIn (.int i) (.tup xs) vh kd = ∃ ns : List Int, some xs = some (ns.map D.int) ∧ kd (.bl (!decide (i ∈ ns))) vh := rfl
theorem oNotIn_l {i : Int} {xs : List D} {vh : VH} {kd : KD} : oNotIn (.int i) (.lst xs) vh kd = ∃ ns : List Int, some xs = some (ns.map D.int) ∧ kd (.bl (!decide (i ∈ ns))) vh := rfl
/-! ### sorted(xs), fewer than 64 numbers -/
def oSorted (cell : Bool) : SOL := fun ds vh kd => match ds with
  | [d] => ∃ ns : List Int, lview vh d = some (ns.map D.int) ∧ ns.length < 64 ∧ ∀ ns' : List Int, ns'.Perm ns → ns'.Pairwise (· ≤ ·) → newL cell (ns'.map D.int) vh kd
  | _ => False
section
variable {X : Cx} {W : WX} {e : Expr} {sl : SemA} {p pos : Pos}
theorem sn_sorted (cell : Bool) : SnL X.K (oSorted cell) (rSorted X.K) := by
  intro m H vh ds vs kd Q hr r h ho
  cases ds with
  | nil => exact h.elim
  | cons d ds =>
    cases ds with
    | cons _ _ => exact h.elim
    | nil =>
      obtain ⟨v, rfl, r1⟩ := reps1 r
      obtain ⟨ns, e, hl, k⟩ := h
      obtain ⟨a, xs, rfl, q, rs⟩ := lview_rep hr r1 e
      have ex := Reps.ints.mp rs
      subst ex
      exact ⟨a, ns, rfl, .of q, hl, fun ns' l hp hs hl => out_lst (cell := cell) hr (Reps.ints.mpr rfl) (k ns' hp hs) ho hl⟩
theorem se_sorted (cell : Bool) (hg : Gl X "sorted") (hm : X.mg "sorted" = none) (ha : SA X W sl [e]) (he : starEach [e] X.env = (false, eval e X.env) :: starEach [] X.env := by rfl) : SE X W (sCallB (oSorted cell) sl) (.Call (.Name "sorted" p) [e] [] pos) := se_callB cr_sorted (sn_sorted cell) hg hm boot_sorted ha (by decide) (by decide) he
end
/-! ### a op1 b op2 c op3 d -/
def tChain3 (r r' r'' : R2) (ta tb tc td : TE) : TE := fun σ H Q => ta σ H fun x H1 => tb σ H1 fun y H2 => r x y H2 fun z H3 => ∃ k, z = .bl k ∧
  (if k = true then tc σ H3 fun w' H4 => r' y w' H4 fun z2 H5 => ∃ k2, z2 = .bl k2 ∧ (if k2 = true then td σ H5 fun u H6 => r'' w' u H6 Q else Q (.bl false) H5) else Q (.bl false) H3)
def sChain3 (so so' so'' : SO2) (sa sb sc sd : SemE) : SemE := fun env vh kx kd => sa env vh kx fun d1 vh1 => sb env vh1 kx fun d2 vh2 => so d1 d2 vh2 fun z vh3 => match z with
  | .bl true => sc env vh3 kx fun d3 vh4 => so' d2 d3 vh4 fun z2 vh5 => match z2 with
    | .bl true => sd env vh5 kx fun d4 vh6 => so'' d3 d4 vh6 kd
    | .bl false => kd (.bl false) vh5
    | _ => False
  | .bl false => kd (.bl false) vh3
  | _ => False
section
variable {X : Cx} {W : WX} {a b c d : Expr} {ta tb tc td : TE} {sa sb sc sd : SemE} {pos : Pos}
theorem pt_chain3 {op op' op'' : CmpOp} {r r' r'' : R2} (ho : OpR X (compareOp op) r) (ho' : OpR X (compareOp op') r') (ho'' : OpR X (compareOp op'') r'') (ha : PE X a ta) (hb : PE X b tb) (hc : PE X c tc) (hd : PE X d td)
    (hm : lastMarks [op, op', op''] [b, c, d] = false := by with_unfolding_all rfl) : PT X (.Compare a [op, op', op''] [b, c, d] pos) (tTest (tChain3 r r' r'' ta tb tc td)) := by
  refine ⟨fun pins s σ H Q I h => ?_⟩
  refine isTrue_chain (thn (ha.run pins s σ H _ I h) fun v s1 ⟨x, H1, I1, r1, q1⟩ => test_link (thn (hb.run pins s1 σ H1 _ I1 q1) fun u s2 ⟨y, H2, I2, r2, q2⟩ =>
    thn (ho pins s2 σ H2 x y v u _ I2 r1 r2 q2) fun e s3 ⟨z, H3, I3, r3, k, e', q3⟩ => ?_)) hm
  subst e'
  cases r3
  refine wpAny_truthy_bool ?_
  cases k with
  | false =>
    obtain ⟨k', e', q'⟩ := q3
    cases e'
    exact ite_ff ⟨H3, I3, q'⟩
  | true =>
    refine ite_tt (test_link (thn (hc.run pins s3 σ H3 _ I3 q3) fun w' s4 ⟨z', H4, I4, r4, q4⟩ => thn (ho' pins s4 σ H4 y z' u w' _ I4 r2 r4 q4) fun d' s5 ⟨z2, H5, I5, r5, k2, e2, q5⟩ => ?_))
    subst e2
    cases r5
    refine wpAny_truthy_bool ?_
    cases k2 with
    | false =>
      obtain ⟨k', e', q'⟩ := q5
      cases e'
      exact ite_ff ⟨H5, I5, q'⟩
    | true =>
      refine ite_tt (test_last (thn (hd.run pins s5 σ H5 _ I5 q5) fun w'' s6 ⟨z'', H6, I6, r6, q6⟩ => thn (ho'' pins s6 σ H6 z' z'' w' w'' _ I6 r4 r6 q6) fun d'' s7 ⟨z3, H7, I7, r7, k3, e3, q7⟩ => ?_))
      subst e3
      cases r7
      exact wpAny_truthy_bool ⟨H7, I7, q7⟩
theorem tChain3_of {so so' so'' : SO2} {r r' r'' : R2} (hs : Sn2 X.K so r) (hs' : Sn2 X.K so' r') (hs'' : Sn2 X.K so'' r'') {σ : L2.St} {H : Hp} {Q : VK} (h : tE X.K W (sChain3 so so' so'' sa sb sc sd) σ H Q) : tChain3 r r' r'' (tE X.K W sa) (tE X.K W sb) (tE X.K W sc) (tE X.K W sd) σ H Q := by
  obtain ⟨m, env, vh, kx, kd, hr, er, h, ho, ox⟩ := h
  refine tE.go hr er ox h fun m1 vh1 H1 d1 v1 s1 hr1 er1 ox1 r1 k1 => ?_
  refine tE.go hr1 er1 ox1 k1 fun m2 vh2 H2 d2 v2 s2 hr2 er2 ox2 r2 k2 => ?_
  refine hs m2 H2 vh2 d1 d2 v1 v2 _ _ hr2 (Rep.step hr1 s2 d1 v1 r1) r2 k2 fun m3 vh3 H3 z vz s3 hr3 rz kz => ?_
  cases z with
  | bl t =>
    cases t with
    | true =>
      refine ⟨true, rz, iteT (tE.go hr3 (er2.step hr2 s3) (ox2.step s3) kz fun m4 vh4 H4 d3 v3 s4 hr4 er4 ox4 r3 k4 => ?_)⟩
      refine hs' m4 H4 vh4 d2 d3 v2 v3 _ _ hr4 (Rep.step hr3 s4 _ _ (Rep.step hr2 s3 d2 v2 r2)) r3 k4 fun m5 vh5 H5 z2 vz2 s5 hr5 rz2 kz2 => ?_
      cases z2 with
      | bl t2 =>
        cases t2 with
        | true =>
          refine ⟨true, rz2, iteT (tE.go hr5 (er4.step hr4 s5) (ox4.step s5) kz2 fun m6 vh6 H6 d4 v4 s6 hr6 er6 ox6 r6 k6 => ?_)⟩
          exact hs'' m6 H6 vh6 d3 d4 v3 v4 kd Q hr6 (Rep.step hr5 s6 _ _ (Rep.step hr4 s5 d3 v3 r3)) r6 k6 (ho.step (s1.trans (s2.trans (s3.trans (s4.trans (s5.trans s6))))))
        | false => exact ⟨false, rz2, iteF (ho m5 vh5 H5 (.bl false) _ (s1.trans (s2.trans (s3.trans (s4.trans s5)))) hr5 rfl kz2)⟩
      | _ => exact kz2.elim
    | false => exact ⟨false, rz, iteF (ho m3 vh3 H3 (.bl false) _ (s1.trans (s2.trans s3)) hr3 rfl kz)⟩
  | _ => exact kz.elim
theorem st_chain3 {op op' op'' : CmpOp} {so so' so'' : SO2} (cs : CmpS X op so) (cs' : CmpS X op' so') (cs'' : CmpS X op'' so'') (ha : SE X W sa a) (hb : SE X W sb b) (hc : SE X W sc c) (hd : SE X W sd d) (hm : lastMarks [op, op', op''] [b, c, d] = false := by with_unfolding_all rfl) : ST X W (sTB (sChain3 so so' so'' sa sb sc sd)) (.Compare a [op, op', op''] [b, c, d] pos) := by
  obtain ⟨r, ho, hs⟩ := cs
  obtain ⟨r', ho', hs'⟩ := cs'
  obtain ⟨r'', ho'', hs''⟩ := cs''
  exact ptImp (pt_chain3 ho ho' ho'' ha hb hc hd hm) fun _ _ _ h => tChain3_of hs hs' hs'' (tB_of h)
end
end VI

end
section
/-! VI25: math.comb; xs.count(i); tuples that a module binds. -/
namespace VI
open PySem PySem.Spec L2
open PyProof.Rows hiding St
/-! ### math.comb -/
def rComb : List V → Hp → VK → Prop := fun xs H Q => ∃ a b : Int, xs = [.int a, .int b] ∧ 0 ≤ a ∧ 0 ≤ b ∧ a ≤ 18000 ∧ Q (.int (PySem.W.mcComb a b)) H
section
variable {X : Cx} {W : WX} {a e : Expr} {sl : SemA} {p pos : Pos}
theorem cr_comb : CallR X (.builtin "math.comb") rComb := by
  intro pins s σ H vs us Q I r h
  obtain ⟨i, j, rfl, h1, h2, h3, q⟩ := h
  obtain ⟨t, u, rfl⟩ := r.int2
  exact PySem.W.mc_comb h1 h2 (by omega) (.inr h3) fun _ => ⟨.int _, H, I.tok _, ⟨_, rfl⟩, q⟩
def oComb : SOL := fun ds vh kd => match ds with
  | [.int i, .int j] => (0 ≤ i ∧ 0 ≤ j ∧ i ≤ 18000) ∧ kd (.int (PySem.W.mcComb i j)) vh
  | _ => False
theorem sn_comb : SnL X.K oComb rComb := by
  intro m H vh ds vs kd Q hr r h ho
  cases ds with
  | nil => exact h.elim
  | cons d ds =>
    cases ds with
    | nil => cases d <;> exact h.elim
    | cons e ds =>
      cases ds with
      | cons _ _ => cases d <;> cases e <;> exact h.elim
      | nil =>
        cases d with
        | int i =>
          cases e with
          | int j =>
            have ev := Reps.ints (ns := [i, j]) |>.mp r
            obtain ⟨⟨h1, h2, h3⟩, k⟩ := h
            exact ⟨i, j, ev, h1, h2, h3, ho m vh H (.int _) _ (Step.refl _ _) hr rfl k⟩
          | _ => exact h.elim
        | _ => cases e <;> exact h.elim
theorem se_comb {x : Str} (hg : Gl X x) (hm : X.mg x = some (.builtin "math.comb")) (ha : SA X W sl [e, a]) (hdb : (x == ("__debug__" : Str)) = false := by decide) (he : starEach [e, a] X.env = (false, eval e X.env) :: starEach [a] X.env := by rfl) (hpl : (backTo pos (starEach [a] X.env)).any (·.1) = false := by rfl) : SE X W (sCallB oComb sl) (.Call (.Name x p) [e, a] [] pos) := se_callBf cr_comb sn_comb hg hm ha hdb he hpl
end
theorem oComb_i {i j : Int} {vh : VH} {kd : KD} : oComb [.int i, .int j] vh kd = ((0 ≤ i ∧ 0 ≤ j ∧ i ≤ 18000) ∧ kd (.int (PySem.W.mcComb i j)) vh) := rfl
/-! ### xs.count(i) -/
def sCountM (so se : SemE) : SemE := fun env vh kx kd => so env vh kx fun od vh1 => (∃ ns : List Int, lview vh1 od = some (ns.map D.int)) ∧ se env vh1 kx fun d vh2 => match d with
  | .int k => ∃ ns : List Int, lview vh2 od = some (ns.map D.int) ∧ kd (.int (ns.count k : Nat)) vh2
  | _ => False
section
variable {X : Cx} {W : WX} {o e : Expr} {so se : SemE} {apos pos : Pos}
theorem se_count (ho : SE X W so o) (he : SE X W se e) (hbase : attributeBase o "count" X.env (eval o X.env) = eval o X.env := by rfl)
    (hfew : ((backTo pos (starEach [e] X.env)).all (fun x => !x.1) && (backToKw pos (keywordEach [] X.env)).all (fun x => x.1.isSome)
      && decide ([e].length + ([] : List Keyword).length + (if ([] : List Keyword).isEmpty then 0 else 1) < 30)) = true := by rfl)
    (hline : (apos.endLine == pos.line) = true := by rfl) (hs : starEach [e] X.env = (false, eval e X.env) :: starEach [] X.env := by rfl) (hpl : (backTo pos (starEach [] X.env)).any (·.1) = false := by rfl) :
    SE X W (sCountM so se) (.Call (.Attribute o "count" apos) [e] [] pos) := by
  refine peImp (pe_bm PySem.F.plainAttrs_list PySem.F.slot_list_count PySem.F.type_list_count mt_lcount ho (pa_cons he pa_nil hs) hbase hfew hline hs hpl) fun σ H Q ⟨m, env, vh, kx, kd, hr, er, h, ho, ox⟩ => ?_
  refine tE.go hr er ox h fun m1 vh1 H1 od ov s1 hr1 er1 ox1 r1 k1 => ?_
  obtain ⟨⟨ns0, e0⟩, k1⟩ := k1
  obtain ⟨a0, xs0, rfl, q0, _⟩ := lview_rep hr1 r1 e0
  refine ⟨.inl ⟨rfl, xs0, .of q0⟩, tE.go hr1 er1 ox1 k1 fun m2 vh2 H2 d v s2 hr2 er2 ox2 r2 k2 => ?_⟩
  cases d with
  | int k =>
    obtain ⟨ns, e2, kk⟩ := k2
    have r2 : v = .int k := r2
    subst r2
    obtain ⟨a, xs, ea, q, rs⟩ := lview_rep hr2 (Rep.step hr1 s2 _ _ r1) e2
    have ex := Reps.ints.mp rs
    subst ex
    exact ⟨a, ns, k, ea, rfl, .of q, ho m2 vh2 H2 (.int _) _ (s1.trans s2) hr2 rfl kk⟩
  | _ => exact k2.elim
end
/-! ### tuples of numbers and texts that a module binds -/
def valB : D → Value → Bool
  | .int i, .int j _ => i == j
  | .str x, .str y _ => x == y
  | .bl x, .bool y => x == y
  | .non, .none => true
  | _, _ => false
def valsB : List D → List Value → Bool
  | [], [] => true
  | d :: ds, v :: vs => valB d v && valsB ds vs
  | _, _ => false
theorem valB_ok {K : PySem.W.Frag} {d : D} {u : Value} (h : valB d u = true) : ∃ v, RelV v u ∧ ∀ m H, Rep K m H d v := by
  unfold valB at h
  split at h
  · have := beq_iff_eq.mp h; subst this; exact ⟨.int _, ⟨_, rfl⟩, fun _ _ => rfl⟩
  · have := beq_iff_eq.mp h; subst this; exact ⟨.str _, ⟨_, rfl⟩, fun _ _ => rfl⟩
  · have := beq_iff_eq.mp h; subst this; exact ⟨.bl _, rfl, fun _ _ => rfl⟩
  · exact ⟨.non, rfl, fun _ _ => rfl⟩
  · cases h
theorem valsB_ok {K : PySem.W.Frag} : ∀ {ds : List D} {us : List Value}, valsB ds us = true → ∃ vs, Vals vs us ∧ ∀ m H, Reps K m H ds vs
  | [], [], _ => ⟨[], .nil, fun m H => by simp only [Reps]⟩
  | [], _ :: _, h => by cases h
  | _ :: _, [], h => by cases h
  | d :: ds, u :: us, h => by
    obtain ⟨h1, h2⟩ := He.ba h
    obtain ⟨v, r1, r2⟩ := valB_ok (K := K) h1
    obtain ⟨vs, q1, q2⟩ := valsB_ok (K := K) h2
    exact ⟨v :: vs, .cons r1 q1, fun m H => by
      simp only [Reps]
      exact ⟨v, vs, rfl, r2 m H, q2 m H⟩⟩
def tcB (K : PySem.W.Frag) (x : Str) (ds : List D) : Bool := match PySem.W.nsIn K mainGlobals x with
  | some (some (.ref a)) => match K.lookup a with
    | some o => decide (o.cls = .type "tuple") && (match o.data with
      | .seq its n => decide (its.size ≤ 16777216) && valsB ds its.toList
      | _ => false)
    | none => false
  | _ => false
abbrev TupC (K : PySem.W.Frag) (mg : Str → Option Value) (x : Str) (ds : List D) : Prop := ∃ a, mg x = some (.ref a) ∧ ∀ m H, Rep K m H (.tup ds) (.ref a)
theorem tcB_ok {K : PySem.W.Frag} {h : Heap} {mg : Str → Option Value} (X : K.In h) (G : h.Ns mainGlobals mg) {x : Str} {ds : List D} (c : tcB K x ds = true) : TupC K mg x ds := by
  unfold tcB at c
  split at c
  · rename_i a e
    split at c
    · rename_i o e2
      obtain ⟨c1, c2⟩ := He.ba c
      split at c2
      · rename_i its n e3
        obtain ⟨c3, c4⟩ := He.ba c2
        obtain ⟨vs, r1, r2⟩ := valsB_ok (K := K) c4
        refine ⟨a, PySem.W.mg_of X G e, fun m H => ?_⟩
        simp only [Rep]
        exact ⟨a, vs, rfl, .inr ⟨o, its, n, e2, of_decide_eq_true c1, e3, by rw [sizeLine_eq]; exact of_decide_eq_true c3, r1⟩, r2 m H⟩
      · cases c2
    · cases c
  · cases c
theorem se_globT {X : Cx} {W : WX} {x : Str} {ds : List D} {pos : Pos} (h : TupC X.K X.mg x ds) (hg : Gl X x) (hd : (x == ("__debug__" : Str)) = false := by decide) : SE X W (sCst (.tup ds)) (.Name x pos) := by
  obtain ⟨a, h1, h2⟩ := h
  exact se_glob (v := .ref a) (u := .ref a) hg h1 rfl (fun m H => h2 m H) hd
end VI

end
section
/-! VI26: the part of the heap that the head's facts look at, found in fewer steps. -/
namespace VI
open PySem PySem.Spec L2
open PyProof.Rows hiding St
/-- what an object names, but for its class -/
def refsW (o : Obj) : List Addr := match o.data with
  | .seq its _ => its.toList.flatMap He.refV
  | .dict es _ => es.toList.flatMap fun e => He.refV e.val
  | .func fd => He.refV fd.code ++ He.refV fd.defaults ++ He.refV fd.kwdefaults
  | .cls cd => cd.ns :: cd.mro.flatMap He.refV
  | _ => []
/-- one layer: the new addresses, what they name -/
def layW (g : Addr → Option Obj) (k : Nat → List Addr → List Addr) : List Addr → Nat → List Addr → List Addr
  | [], m, acc => k m acc
  | a :: r, m, acc => match Nat.testBit m a with
    | true => layW g k r m acc
    | false => a :: HandSHeadRun.frNat (m ||| (1 <<< a)) fun m => layW g k r m (match g a with
      | some o => refsW o ++ acc
      | none => acc)
def asW (g : Addr → Option Obj) : Nat → Nat → List Addr → List Addr
  | 0, _, _ => []
  | n + 1, m, as => layW g (fun m as => asW g n m as) as m []
def obsWG (n : Nat) (fa : List He.Fa) (fn : List He.DefD) (ex : PySem.W.Frag → Bool) (g : Addr → Option Obj) : He.AlD := obsV fa fn ex (He.frG g (asW g n 0 [mainGlobals]))
def hookW (n : Nat) (fa : List He.Fa) (fn : List He.DefD) (ex : PySem.W.Frag → Bool) : PySem.W.Hook where
  α := He.AlD
  obs := fun s => obsWG n fa fn ex s.heap.get?
  val := fun _ => He.valD fn
  says := fun _ h => ∃ K : PySem.W.Frag, K.In h ∧ SaysV fa fn ex K
  of := fun _ _ e => ⟨_, He.frG_in, e⟩
  keeps := fun _ _ _ ⟨K, hK, c⟩ k => ⟨K, PySem.W.Frag.In.keeps hK k, c⟩
theorem obsWG_eq {n : Nat} {fa : List He.Fa} {fn : List He.DefD} {ex : PySem.W.Frag → Bool} {g : Addr → Option Obj} {s : Shared} (h : ∀ a, g a = s.heap.get? a) : obsWG n fa fn ex g = (hookW n fa fn ex).obs s := by
  have e : g = s.heap.get? := funext h
  rw [e] <;> rfl
end VI

end
section
/-! VI27: a statement that the law never comes to: its sem promises nothing. -/
namespace VI
open PySem PySem.Spec L2
open PyProof.Rows hiding St
def sNever : SemS := fun _ _ _ => False
theorem ss_never {X : Cx} {W : WX} {st : Stmt} : SS X W sNever st := ⟨fun _ _ _ _ _ _ ⟨_, _, _, _, _, _, hs, _⟩ => hs.elim⟩
theorem ss_neverB {X : Cx} {W : WX} {b : List Stmt} : SSs X W sNever b := ⟨fun _ _ _ _ _ _ ⟨_, _, _, _, _, _, hs, _⟩ => hs.elim⟩
end VI

end
section
/-! VI28: defs that run where no repr is under way (A.guards = some []); exceptions handed to a def in a suite. -/
namespace VI
open PySem PySem.Spec L2
open PyProof.Rows hiding St
/-! ### the promises -/
structure PromG (P : Program) (w : World) (K : PySem.W.Frag) (mg : Str → Option Value) (base : Heap) (lv : Nat) (fa : Addr) (fd : FuncData) (ps : List Str) (sp : Sp) : Prop where
  len : ∀ vs H Q E, sp vs H Q E → vs.length = ps.length
  run : ∀ (A : Around) (out : List PySem.Env) (s : Shared) (H : Hp) (ar : Args) (zs : List Value) (vs : List V) (Q : VK) (E : XK), Room lv A → A.guards = some [] → Env0 P w K mg base A out s H →
    BindsTo s fd ar (ps.zip zs) → Vals vs zs → sp vs H Q E → codeAny (model P w) A (.call (.ref fa) ar) (CR (L2N.CX P w) out P w H s Q E) s
/-- .. while the exception p is handled -/
structure PromX (P : Program) (w : World) (K : PySem.W.Frag) (mg : Str → Option Value) (base : Heap) (lv : Nat) (fa : Addr) (fd : FuncData) (ps : List Str) (sp : Addr × Obj → Sp) : Prop where
  len : ∀ p vs H Q E, sp p vs H Q E → vs.length = ps.length
  run : ∀ (p : Addr × Obj) (A : Around) (out : List PySem.Env) (s : Shared) (H : Hp) (ar : Args) (zs : List Value) (vs : List V) (Q : VK) (E : XK), L2H.RoomH lv A → L2H.Hot1 A p → A.guards = some [] → L2H.PinOk out H s p → Env0 P w K mg base A out s H →
    BindsTo s fd ar (ps.zip zs) → Vals vs zs → sp p vs H Q E → codeAny (model P w) A (.call (.ref fa) ar) (CR (L2N.CX P w) out P w H s Q E) s
section
variable {P : Program} {w : World} {K : PySem.W.Frag} {mg : Str → Option Value} {base : Heap} {nm qual : Str} {pa : Arguments} {bd : List Stmt} {sc : Scope} {fa : Addr} {fd : FuncData} {N ps : List Str} {lv : Nat}
theorem PromG.of {sp : Sp} (F : FunD K nm qual pa bd sc [] [] fa fd) (S : FnScope N ps sc) (len : ∀ vs H Q E, sp vs H Q E → vs.length = ps.length)
    (hbd : ∀ (cdv : Value) (A : Around) (out : List PySem.Env) (s : Shared) (H : Hp) (vs : List V) (Q : VK) (E : XK), Room lv (A.deeper (envOfC qual sc s.heap.objs.size fa cdv)) → A.guards = some [] → sp vs H Q E →
      ∃ t, PSs (cxOf (L2N.CX P w) P w K mg base N qual sc fa cdv A out s H E) bd t ∧ t { nx := fun _ H' => Q .non H', rt := Q } (L2.start N vs) H) : PromG P w K mg base (lv + 1) fa fd ps sp := by
  obtain ⟨oc, od, dV, kV, doc, pm, an, cdv, ct, osl, rfl, lk, hcd, _, _⟩ := F.ex
  refine ⟨len, fun A out s H ar zs vs Q E hR hG e0 hB rV hS => ?_⟩
  have hlen := len _ _ _ _ hS
  have kin : K.In s.heap := e0.mod.kin.keeps fun b o q => (e0.bs b o q).1
  have nol : s.heap.NoLimit := e0.mod.nolimit.keeps fun b o q => (e0.bs b o q).1
  refine codeAny_call_function hR.depth (kin _ _ lk) rfl S.co S.gen rfl (PySem.W.codeRec_of kin hcd) (hB _ _ _ _ ?_)
  refine wpAny_newFunctionEnv_cells S.kind (fun y hy => ?_) fun ev hev s1 hin => ?_
  · obtain ⟨n, v⟩ := y
    exact (S.par n (List.of_mem_zip hy).1).elim .inl fun z => .inr ⟨z, PySem.W.cellsFrom_some _ _ _ (.inl z)⟩
  subst hev
  refine ⟨nol.keeps hin.toInCall.keep, codeAny_func ?_⟩
  obtain ⟨t, ht, hw⟩ := hbd cdv A out s H vs Q E (hR.deeper _) hG hS
  have J0 : Inv (cxOf (L2N.CX P w) P w K mg base N qual sc fa cdv A out s H E) [] (L2.start N vs) H s1 := inv_start S hR.hd e0 hlen rV hin
  refine wpAny_mono (ht.run [] s1 (L2.start N vs) H _ J0 hw) (fun fl s' hs => ?_) fun _ _ z => z
  cases fl with
  | ret u => exact hs.elim fun v ⟨σ', H', J, rv, q⟩ => ⟨v, H', J.os, J.bare, J.base, J.hok, rv, q⟩
  | next => exact hs.elim fun σ' ⟨H', J, q⟩ => ⟨V.non, H', J.os, J.bare, J.base, J.hok, rfl, q⟩
  | brk => exact hs.elim fun _ ⟨_, _, z⟩ => z.elim
  | cont => exact hs.elim fun _ ⟨_, _, z⟩ => z.elim
theorem PromX.of {sp : Addr × Obj → Sp} (F : FunD K nm qual pa bd sc [] [] fa fd) (S : FnScope N ps sc) (len : ∀ p vs H Q E, sp p vs H Q E → vs.length = ps.length)
    (hbd : ∀ (cdv : Value) (p : Addr × Obj) (A : Around) (out : List PySem.Env) (s : Shared) (H : Hp) (vs : List V) (Q : VK) (E : XK), L2H.Hot1 A p → L2H.RoomH lv (A.deeper (envOfC qual sc s.heap.objs.size fa cdv)) → A.guards = some [] → sp p vs H Q E →
      ∃ t, PSs (L2H.cxH (L2N.CX P w) P w K mg base N qual sc fa cdv A out s H E p) bd t ∧ t { nx := fun _ H' => Q .non H', rt := Q } (L2.start N vs) H) : PromX P w K mg base (lv + 1) fa fd ps sp := by
  obtain ⟨oc, od, dV, kV, doc, pm, an, cdv, ct, osl, rfl, lk, hcd, _, _⟩ := F.ex
  refine ⟨len, fun p A out s H ar zs vs Q E hR hot hG hpin e0 hB rV hS => ?_⟩
  have hlen := len _ _ _ _ _ hS
  have kin : K.In s.heap := e0.mod.kin.keeps fun b o q => (e0.bs b o q).1
  have nol : s.heap.NoLimit := e0.mod.nolimit.keeps fun b o q => (e0.bs b o q).1
  refine codeAny_call_function hR.depth (kin _ _ lk) rfl S.co S.gen rfl (PySem.W.codeRec_of kin hcd) (hB _ _ _ _ ?_)
  refine wpAny_newFunctionEnv_cells S.kind (fun y hy => ?_) fun ev hev s1 hin => ?_
  · obtain ⟨n, v⟩ := y
    exact (S.par n (List.of_mem_zip hy).1).elim .inl fun z => .inr ⟨z, PySem.W.cellsFrom_some _ _ _ (.inl z)⟩
  subst hev
  refine ⟨nol.keeps hin.toInCall.keep, codeAny_func ?_⟩
  obtain ⟨t, ht, hw⟩ := hbd cdv p A out s H vs Q E hot (hR.deeper _) hG hS
  have J0 : Inv (L2H.cxH (L2N.CX P w) P w K mg base N qual sc fa cdv A out s H E p) [] (L2.start N vs) H s1 := L2H.inv_startH S hpin e0 hlen rV hin
  refine wpAny_mono (ht.run [] s1 (L2.start N vs) H _ J0 hw) (fun fl s' hs => ?_) fun _ _ z => z
  cases fl with
  | ret u => exact hs.elim fun v ⟨σ', H', J, rv, q⟩ => ⟨v, H', J.os, J.bare, J.base, J.hok, rv, q⟩
  | next => exact hs.elim fun σ' ⟨H', J, q⟩ => ⟨V.non, H', J.os, J.bare, J.base, J.hok, rfl, q⟩
  | brk => exact hs.elim fun _ ⟨_, _, z⟩ => z.elim
  | cont => exact hs.elim fun _ ⟨_, _, z⟩ => z.elim
end
/-! ### what a def asks of the exceptions it is handed -/
def ExnOk (K : PySem.W.Frag) (p : Addr × Obj) (ds : List D) : Prop := ∀ a dd c ns fs, D.exn a dd c ns fs ∈ ds → a = p.1 ∧ L2N.Zn (.ref (He.ga K c)) (some dd) p.2
def isExn : D → Bool
  | .exn .. => true
  | _ => false
def noExn (ds : List D) : Prop := ∀ d ∈ ds, isExn d = false
theorem noExn.ok {K : PySem.W.Frag} {p : Addr × Obj} {ds : List D} (h : noExn ds) : ExnOk K p ds := fun a dd c ns fs hm => nomatch h _ hm
def spX (K : PySem.W.Frag) (C : Calls) (f n : Nat) (p : Addr × Obj) : Sp := fun vs H Q E => ∃ m vh ds kx kd, Hr K m H vh ∧ Reps K m H ds vs ∧ ds.length = n ∧ C f ds vh kx kd ∧ Out K m H kd Q ∧ OutXE K m H E kx ∧ ExnOk K p ds
structure FnAtG (P : Program) (w : World) (K : PySem.W.Frag) (mg : Str → Option Value) (base : Heap) (C : Calls) (lv : Nat) (fn : Fn) : Prop where
  ex : ∃ fd, FunD K fn.name fn.qual (defArgs fn.st) (defBody fn.st) (defScope fn.st) [] [] (He.fAd K fn.at_) fd ∧ Binds K fd fn.ps [] ∧ PromG P w K mg base lv (He.fAd K fn.at_) fd fn.ps (spV K C fn.id fn.ps.length)
structure FnAtX (P : Program) (w : World) (K : PySem.W.Frag) (mg : Str → Option Value) (base : Heap) (C : Calls) (lv : Nat) (fn : Fn) : Prop where
  ex : ∃ fd, FunD K fn.name fn.qual (defArgs fn.st) (defBody fn.st) (defScope fn.st) [] [] (He.fAd K fn.at_) fd ∧ Binds K fd fn.ps [] ∧ PromX P w K mg base lv (He.fAd K fn.at_) fd fn.ps (spX K C fn.id fn.ps.length)
/-- what stands around; hots: defs called while an exception is handled; xs: those that are called only there -/
structure CxG (X : Cx) (T : Nat → Option Fn) (hots xs : List Nat) (k : Nat) : Prop where
  room : Room (3 * k + 2) X.A
  calm : X.calm = true
  gd : X.A.guards = some []
  fns : ∀ f fn, T f = some fn → f ∉ xs → FnAtG X.prog X.w X.K X.mg X.base (callN T k) (3 * k) fn
  hfn : ∀ f fn, T f = some fn → f ∈ hots → FnAtX X.prog X.w X.K X.mg X.base (callN T k) (3 * k) fn
  ids : ∀ f fn, T f = some fn → fn.id = f
structure CxX (X : Cx) (T : Nat → Option Fn) (hots : List Nat) (k : Nat) (p : Addr × Obj) : Prop where
  room : L2H.RoomH (3 * k + 2) X.A
  h1 : L2H.Hot1 X.A p
  pin : p ∈ X.pn
  gd : X.A.guards = some []
  hfn : ∀ f fn, T f = some fn → f ∈ hots → FnAtX X.prog X.w X.K X.mg X.base (callN T k) (3 * k) fn
  ids : ∀ f fn, T f = some fn → fn.id = f
section
variable {X : Cx} {T : Nat → Option Fn} {hots xs : List Nat} {k : Nat} {p : Addr × Obj}
theorem CxG.blk (c : CxG X T hots xs k) (s : Shared) (H : Hp) (scope : Scope) (cenv : PySem.Env) (fp : List Addr) : CxG (X.blk s H scope cenv fp) T hots xs k := ⟨c.room, c.calm, c.gd, c.fns, c.hfn, c.ids⟩
theorem CxG.tr (c : CxG X T hots xs k) (pn : List (Addr × Obj)) (xe : Value → Shared → Prop) : CxG (X.tr pn xe) T hots xs k := ⟨c.room, c.calm, c.gd, c.fns, c.hfn, c.ids⟩
theorem CxG.hu (c : CxG X T hots xs k) : X.A.units + 64 < cLine := by have := c.room.un; omega
theorem CxX.hu (c : CxX X T hots k p) : X.A.units + 64 < cLine := by have := c.room.un; omega
theorem CxX.hot (c : CxX X T hots k p) : L2H.HotC X := ⟨p, c.h1, c.pin⟩
theorem CxG.suite (c : CxG X T hots xs k) {a : Addr} {oe : Obj} {cls : Value} {d : Option Addr} (pn : List (Addr × Obj)) (hz : L2N.Zn cls d oe) (hf : ∃ vs, oe.data = .fields vs) : CxX (X.suite a ((a, oe) :: pn)) T hots k (a, oe) := by
  obtain ⟨vs, hv⟩ := hf
  exact ⟨L2H.roomH_mark c.room (some (.ref a)), ⟨rfl, vs, hv, hz.2.2 vs hv⟩, List.mem_cons_self, c.gd, c.hfn, c.ids⟩
end
end VI

end
section
/-! VI29: defs, calls, all levels, the law, where no repr is under way. -/
namespace VI
open PySem PySem.Spec L2
open PyProof.Rows hiding St
section
variable {P : Program} {w : World} {K : PySem.W.Frag} {mg : Str → Option Value} {base : Heap} {T : Nat → Option Fn} {hots xs : List Nat} {k : Nat} {fn : Fn} {fd : FuncData}
theorem FnAtG.made (hT : T fn.id = some fn)
    (F : FunD K fn.name fn.qual (defArgs fn.st) (defBody fn.st) (defScope fn.st) [] [] (He.fAd K fn.at_) fd) (S : FnScope fn.N fn.ps (defScope fn.st)) (bd : BindOk fn)
    (ids : ∀ f gn, T f = some gn → gn.id = f) (lower : ∀ f gn, T f = some gn → f ∉ xs → FnAtG P w K mg base (callN T k) (3 * k) gn) (lowerX : ∀ f gn, T f = some gn → f ∈ hots → FnAtX P w K mg base (callN T k) (3 * k) gn)
    (der : ∀ (cdv : Value) (A : Around) (out : List PySem.Env) (s : Shared) (H : Hp) (E : XK), CxG (cxF P w K mg base fn cdv A out s H E) T hots xs k → SSs (cxF P w K mg base fn cdv A out s H E) (wE E) (fn.sem (callN T k)) (defBody fn.st)) :
    FnAtG P w K mg base (callN T (k + 1)) (3 * (k + 1)) fn := by
  refine ⟨fd, F, F.bindsN bd, PromG.of (lv := 3 * k + 2) F S (fun vs H Q E h => ?_) fun cdv A out s H vs Q E hr hg h => ?_⟩
  · obtain ⟨m, vh, ds, kx, kd, hr, r, hl, _⟩ := h
    rw [← r.len]; exact hl
  · obtain ⟨m, vh, ds, kx, kd, hr', r, hl, hc, ho, ox⟩ := h
    obtain ⟨fn', e, hlen, run⟩ := hc
    rw [hT] at e
    cases e
    refine ⟨_, der cdv A out s H E ⟨hr, rfl, hg, lower, lowerX, ids⟩, m, _, vh, _, hr', er_start fn.N r, run, ⟨fun _ _ H' _ _ s' h' _ kk => ?_, ?_, ?_, ?_, ?_⟩⟩
    · exact finD_out fn.kind hr' ho _ _ H' .non .non s' h' rfl kk
    · exact finD_out fn.kind hr' ho
    · exact fun _ _ _ _ _ _ _ _ z => z.elim
    · exact fun _ _ _ _ _ _ _ _ z => z.elim
    · exact fun m' vh' H' env σ ex cls dd s' h' _ rx kk => finX_out fn.kind hr' ox m' vh' H' ex cls dd s' h' rx kk
/-- what a def called in a suite brings: its reading at the exceptions it is handed -/
def DerX (P : Program) (w : World) (K : PySem.W.Frag) (mg : Str → Option Value) (base : Heap) (T : Nat → Option Fn) (hots : List Nat) (k : Nat) (fn : Fn) : Prop :=
  ∀ (cdv : Value) (p : Addr × Obj) (A : Around) (out : List PySem.Env) (s : Shared) (H : Hp) (E : XK), CxX (cxH P w K mg base fn cdv A out s H E p) T hots k p → ∀ ds : List D, ExnOk K p ds → ds.length = fn.ps.length →
    ∃ sem', SSs (cxH P w K mg base fn cdv A out s H E p) (wE E) sem' (defBody fn.st) ∧ ∀ vh ks, fn.sem (callN T k) (ds.map some ++ List.replicate (fn.N.length - ds.length) none) vh ks → sem' (ds.map some ++ List.replicate (fn.N.length - ds.length) none) vh ks
theorem FnAtX.made (hT : T fn.id = some fn)
    (F : FunD K fn.name fn.qual (defArgs fn.st) (defBody fn.st) (defScope fn.st) [] [] (He.fAd K fn.at_) fd) (S : FnScope fn.N fn.ps (defScope fn.st)) (bd : BindOk fn)
    (ids : ∀ f gn, T f = some gn → gn.id = f) (lowerX : ∀ f gn, T f = some gn → f ∈ hots → FnAtX P w K mg base (callN T k) (3 * k) gn) (der : DerX P w K mg base T hots k fn) : FnAtX P w K mg base (callN T (k + 1)) (3 * (k + 1)) fn := by
  refine ⟨fd, F, F.bindsN bd, PromX.of (lv := 3 * k + 2) F S (fun p vs H Q E h => ?_) fun cdv p A out s H vs Q E hot hr hg h => ?_⟩
  · obtain ⟨m, vh, ds, kx, kd, hr, r, hl, _⟩ := h
    rw [← r.len]; exact hl
  · obtain ⟨m, vh, ds, kx, kd, hr', r, hl, hc, ho, ox, hx⟩ := h
    obtain ⟨fn', e, hlen, run⟩ := hc
    rw [hT] at e
    cases e
    obtain ⟨sem', hder, himp⟩ := der cdv p A out s H E ⟨hr, hot, List.mem_singleton.mpr rfl, hg, lowerX, ids⟩ ds hx hlen
    refine ⟨_, hder, m, _, vh, _, hr', er_start fn.N r, himp _ _ run, ⟨fun _ _ H' _ _ s' h' _ kk => ?_, ?_, ?_, ?_, ?_⟩⟩
    · exact finD_out fn.kind hr' ho _ _ H' .non .non s' h' rfl kk
    · exact finD_out fn.kind hr' ho
    · exact fun _ _ _ _ _ _ _ _ z => z.elim
    · exact fun _ _ _ _ _ _ _ _ z => z.elim
    · exact fun m' vh' H' env σ ex cls dd s' h' _ rx kk => finX_out fn.kind hr' ox m' vh' H' ex cls dd s' h' rx kk
theorem FnAtX.zero (F : FunD K fn.name fn.qual (defArgs fn.st) (defBody fn.st) (defScope fn.st) [] [] (He.fAd K fn.at_) fd) (bd : BindOk fn) : FnAtX P w K mg base (callN T 0) 0 fn :=
  ⟨fd, F, F.bindsN bd, ⟨fun p vs H Q E h => by obtain ⟨m, vh, ds, kx, kd, hr, r, hl, hc, _⟩ := h; exact hc.elim, fun p A out s H ar zs vs Q E _ _ _ _ _ _ _ h => by obtain ⟨m, vh, ds, kx, kd, hr, r, hl, hc, _⟩ := h; exact hc.elim⟩⟩
theorem FnAtG.zero (F : FunD K fn.name fn.qual (defArgs fn.st) (defBody fn.st) (defScope fn.st) [] [] (He.fAd K fn.at_) fd) (bd : BindOk fn) : FnAtG P w K mg base (callN T 0) 0 fn :=
  ⟨fd, F, F.bindsN bd, ⟨fun vs H Q E h => by obtain ⟨m, vh, ds, kx, kd, hr, r, hl, hc, _⟩ := h; exact hc.elim, fun A out s H ar zs vs Q E _ _ _ _ _ h => by obtain ⟨m, vh, ds, kx, kd, hr, r, hl, hc, _⟩ := h; exact hc.elim⟩⟩
/-- a def that is handed no exception -/
theorem DerX.plain (h : ∀ (cdv : Value) (p : Addr × Obj) (A : Around) (out : List PySem.Env) (s : Shared) (H : Hp) (E : XK), CxX (cxH P w K mg base fn cdv A out s H E p) T hots k p → SSs (cxH P w K mg base fn cdv A out s H E p) (wE E) (fn.sem (callN T k)) (defBody fn.st)) : DerX P w K mg base T hots k fn :=
  fun cdv p A out s H E c ds _ _ => ⟨_, h cdv p A out s H E c, fun _ _ z => z⟩
/-- a def whose first parameter is an exception -/
def sExn (sx : Calls → Addr → Addr → Str → SemS) : Calls → SemS := fun C env vh ks => match look env 0 with
  | some (.exn a dd c _ _) => sx C a dd c env vh ks
  | _ => False
theorem DerX.exn {sx : Calls → Addr → Addr → Str → SemS} (hs : fn.sem = sExn sx) (h : ∀ (cdv : Value) (p : Addr × Obj) (A : Around) (out : List PySem.Env) (s : Shared) (H : Hp) (E : XK), CxX (cxH P w K mg base fn cdv A out s H E p) T hots k p →
    ∀ (dd : Addr) (c : Str), L2N.Zn (.ref (He.ga K c)) (some dd) p.2 → SSs (cxH P w K mg base fn cdv A out s H E p) (wE E) (sx (callN T k) p.1 dd c) (defBody fn.st)) (hl : fn.ps.length = 1) : DerX P w K mg base T hots k fn := by
  intro cdv p A out s H E c ds hx hlen
  rw [hl] at hlen
  obtain ⟨d, rfl⟩ := List.length_eq_one_iff.mp hlen
  cases d with
  | exn a dd cc ns fs =>
    obtain ⟨rfl, hz⟩ := hx a dd cc ns fs List.mem_cons_self
    refine ⟨_, h cdv p A out s H E c dd cc hz, fun vh ks hr => ?_⟩
    rw [hs] at hr
    exact hr
  | _ => exact ⟨fun _ _ _ => False, ⟨fun _ _ _ _ _ _ ⟨_, _, _, _, _, _, z, _⟩ => z.elim⟩, fun vh ks hr => by rw [hs] at hr; exact hr⟩
end
/-! ### calls -/
section
variable {X : Cx} {W : WX} {T : Nat → Option Fn} {hots xs : List Nat} {k : Nat} {fn : Fn} {x y : Str} {p pos apos : Pos} {e o : Expr} {es : List Expr} {sl : SemA} {so se : SemE} {f : Nat} {ep : Addr × Obj}
theorem run_G {j : Nat} {fa : Addr} {fd : FuncData} {ps : List Str} {sp : Sp} {E : L2.St → XK} {pins : List (Addr × Obj)} {σ : L2.St} {H : Hp} {s : Shared} {Q : VK} {ar : Args} {zs : List Value} {vs : List V} (F : PromG X.prog X.w X.K X.mg X.base j fa fd ps sp) (hr : Room j X.A) (hg : X.A.guards = some [])
    (hb : BindsTo s fd ar (ps.zip zs)) (hx : PassesAt (L2N.CX X.prog X.w) X σ (E σ)) (I : Inv X pins σ H s) (r : Vals vs zs) (h : sp vs H Q (E σ)) : wpAny (model X.prog X.w) X.A (call (.ref fa) ar.pos ar.kw) (EP X pins σ Q) X.xe s := by
  refine wpAny_call (codeAny_mono (F.run X.A X.stack s H ar zs vs Q (E σ) hr hg I.env0 hb r h) fun res s' hq => ?_)
  cases res with
  | error e => exact hx pins H s e s' I hq
  | ok fl => cases fl <;> first | exact I.after hq | exact hq.elim
theorem run_X {j : Nat} {fa : Addr} {fd : FuncData} {ps : List Str} {sp : Addr × Obj → Sp} {E : L2.St → XK} {pins : List (Addr × Obj)} {σ : L2.St} {H : Hp} {s : Shared} {Q : VK} {ar : Args} {zs : List Value} {vs : List V} (F : PromX X.prog X.w X.K X.mg X.base j fa fd ps sp) (c : CxX X T hots k ep) (hj : j ≤ 3 * k + 2)
    (hb : BindsTo s fd ar (ps.zip zs)) (hx : PassesAt (L2N.CX X.prog X.w) X σ (E σ)) (I : Inv X pins σ H s) (r : Vals vs zs) (h : sp ep vs H Q (E σ)) : wpAny (model X.prog X.w) X.A (call (.ref fa) ar.pos ar.kw) (EP X pins σ Q) X.xe s := by
  have pin := I.pin ep (List.mem_append_left _ c.pin)
  have hp : L2H.PinOk X.stack H s ep := ⟨pin.1, pin.2.1, fun hm => (List.mem_cons.mp (I.stkSub ep.1 hm)).elim pin.2.2.1 pin.2.2.2.1, pin.2.2.2.2⟩
  refine wpAny_call (codeAny_mono (F.run ep X.A X.stack s H ar zs vs Q (E σ) (c.room.mono hj) c.h1 c.gd hp I.env0 hb r h) fun res s' hq => ?_)
  cases res with
  | error e => exact hx pins H s e s' I hq
  | ok fl => cases fl <;> first | exact I.after hq | exact hq.elim
theorem binds0 {K : PySem.W.Frag} {fd : FuncData} {ps : List Str} {s : Shared} {us : List Value} (hb : Binds K fd ps []) (kin : K.In s.heap) (hl : us.length = ps.length) : BindsTo s fd ⟨us, []⟩ (ps.zip us) := by
  have b := hb s us kin (by rw [List.append_nil]; exact hl)
  rw [List.append_nil] at b
  exact b
theorem sp_len {K : PySem.W.Frag} {C : Calls} {f n : Nat} {vs : List V} {H : Hp} {Q : VK} {E : XK} (h : spV K C f n vs H Q E) : vs.length = n := by
  obtain ⟨m, vh, ds, kx, kd, hr, r, hl, _⟩ := h
  rw [← r.len]; exact hl
theorem CxG.at (c : CxG X T hots xs k) (hf : T f = some fn) (hx : f ∉ xs) : fn.id = f ∧ FnAtG X.prog X.w X.K X.mg X.base (callN T k) (3 * k) fn := ⟨c.ids f fn hf, c.fns f fn hf hx⟩
theorem se_callG (c : CxG X T hots xs k) (tk : L2N.Takes X W) (hf : T f = some fn) (hx : f ∉ xs) (ha0 : fn.at_ = (x, none)) (hg : Gl X x) (hm : X.mg x = some (.ref (He.ga X.K x))) (ha : SA X W sl (e :: es)) (hdb : (x == ("__debug__" : Str)) = false := by decide)
    (he : starEach (e :: es) X.env = (false, eval e X.env) :: starEach es X.env := by rfl) (hpl : (backTo pos (starEach es X.env)).any (·.1) = false := by rfl) : SE X W (sCall (callN T k) f sl) (.Call (.Name x p) (e :: es) [] pos) := by
  obtain ⟨hi, ⟨fd, F, hb, ok⟩⟩ := c.at hf hx
  rw [show He.fAd X.K fn.at_ = He.ga X.K x by rw [ha0]; rfl] at F ok
  refine ⟨fun pins s σ H Q I ⟨m, env, vh, kx, kd, hr, er, h, ho, ox⟩ => ?_⟩
  refine wpAny_Call_Name_kw (ld_glob I hg hm ?_ hdb)
  have h0 : tA X.K W sl σ H (fun vs H1 => spV X.K (callN T k) fn.id fn.ps.length vs H1 Q (WE W σ)) := tA.go hr er ox h fun m1 vh1 H1 ds vs s1 hr1 er1 ox1 r1 k1 => spV_at (m0 := m) (H0 := H) hr1 r1 hf hi k1 (ho.step s1) ox1
  refine PySem.W.callWith_K (h₀ := X.base) I.ok.mod.kin F.kp (thn (ha.run pos pins s σ H _ I h0) fun us s1 ⟨vs, H1, I1, r, q⟩ => ⟨I1.kIn, ?_⟩) he hpl
  exact run_G (E := WE W) (ar := ⟨us, []⟩) ok (c.room.mono (by omega)) c.gd (binds0 hb I1.kIn (by rw [← r.length]; exact sp_len q)) (L2N.passAt tk σ) I1 r q
theorem se_call0G (c : CxG X T hots xs k) (tk : L2N.Takes X W) (hf : T f = some fn) (hx : f ∉ xs) (ha0 : fn.at_ = (x, none)) (hg : Gl X x) (hm : X.mg x = some (.ref (He.ga X.K x))) (hdb : (x == ("__debug__" : Str)) = false := by decide) : SE X W (sCall (callN T k) f sNil) (.Call (.Name x p) [] [] pos) := by
  obtain ⟨hi, ⟨fd, F, hb, ok⟩⟩ := c.at hf hx
  rw [show He.fAd X.K fn.at_ = He.ga X.K x by rw [ha0]; rfl] at F ok
  refine ⟨fun pins s σ H Q I ⟨m, env, vh, kx, kd, hr, er, h, ho, ox⟩ => ?_⟩
  refine wpAny_Call_Name_kw (ld_glob I hg hm ?_ hdb)
  have q := spV_at (m0 := m) (H0 := H) hr Reps.nil hf hi h ho ox
  exact PySem.W.callWith_K0 I.kIn F.kp (run_G (E := WE W) (ar := ⟨[], []⟩) ok (c.room.mono (by omega)) c.gd (binds0 hb I.kIn (sp_len q)) (L2N.passAt tk σ) I .nil q)
theorem se_callKG {kws : List Keyword} {ks : List Str} {n : Nat} {g : {α : Type} → List α → List α → List α} {tk' : SemA} (c : CxG X T hots xs k) (tk : L2N.Takes X W) (hf : T f = some fn) (hx : f ∉ xs) (ha0 : fn.at_ = (x, none)) (kw : KwOk fn n ks @g) (hg : Gl X x) (hm : X.mg x = some (.ref (He.ga X.K x))) (ha : SA X W sl (e :: es)) (hkw : SK X W tk' kws)
    (hall : (backToKw pos (keywordEach kws X.env)).all (·.1.isSome) = true := by rfl) (hks : (backToKw pos (keywordEach kws X.env)).filterMap (·.1) = ks := by rfl)
    (hdb : (x == ("__debug__" : Str)) = false := by decide) (he : starEach (e :: es) X.env = (false, eval e X.env) :: starEach es X.env := by rfl)
    (hpl : ((backTo pos (starEach (e :: es) X.env)).any (·.1) || (backToKw pos (keywordEach kws X.env)).any (·.1.isNone)) = false := by rfl) :
    SE X W (sCallK (callN T k) f n ks.length g sl tk') (.Call (.Name x p) (e :: es) kws pos) := by
  obtain ⟨hi, ⟨fd, F, hb, ok⟩⟩ := c.at hf hx
  rw [show He.fAd X.K fn.at_ = He.ga X.K x by rw [ha0]; rfl] at F ok
  refine ⟨fun pins s σ H Q I ⟨m, env, vh, kx, kd, hr, er, h, ho, ox⟩ => ?_⟩
  refine wpAny_Call_Name_kw (ld_glob I hg hm ?_ hdb)
  have h0 : tA X.K W sl σ H (fun vs H1 => tA X.K W tk' σ H1 fun zs H2 => vs.length = n ∧ zs.length = ks.length ∧ spV X.K (callN T k) fn.id fn.ps.length (g vs zs) H2 Q (WE W σ)) :=
    tA.go hr er ox h fun m1 vh1 H1 ds vs s1 hr1 er1 ox1 r1 k1 => tA.go hr1 er1 ox1 k1 fun m2 vh2 H2 es zs s2 hr2 er2 ox2 r2 k2 =>
      ⟨by rw [← r1.len]; exact k2.1, by rw [← r2.len]; exact k2.2.1, spV_at (m0 := m) (H0 := H) hr2 (kw.reps (Reps.step hr1 s2 _ _ r1) r2) hf hi k2.2.2 (ho.step (s1.trans s2)) ox2⟩
  refine PySem.W.callWith_KW (h₀ := X.base) I.ok.mod.kin F.kp hall (thn (ha.run pos pins s σ H _ I h0) fun us s1 ⟨vs, H1, I1, r, q⟩ => ?_) hpl he
  refine thn (hkw.run pos pins s1 σ H1 _ I1 q) fun ws s2 ⟨zs, H2, I2, rz, l1, l2, q2⟩ => ⟨I2.kIn, ?_⟩
  rw [hks]
  exact run_G (E := WE W) (ar := ⟨us, ks.zip ws⟩) ok (c.room.mono (by omega)) c.gd (binds_kw F @kw s2 (r.length.symm.trans l1) (rz.length.symm.trans l2)) (L2N.passAt tk σ) I2 (kw.rel r rz) q2
theorem se_callK0G {kws : List Keyword} {ks : List Str} {g : {α : Type} → List α → List α → List α} {tk' : SemA} (c : CxG X T hots xs k) (tk : L2N.Takes X W) (hf : T f = some fn) (hx : f ∉ xs) (ha0 : fn.at_ = (x, none)) (kw : KwOk fn 0 ks @g) (hg : Gl X x) (hm : X.mg x = some (.ref (He.ga X.K x))) (hkw : SK X W tk' kws)
    (hall : (backToKw pos (keywordEach kws X.env)).all (·.1.isSome) = true := by rfl) (hks : (backToKw pos (keywordEach kws X.env)).filterMap (·.1) = ks := by rfl)
    (hdb : (x == ("__debug__" : Str)) = false := by decide)
    (hpl : ((backTo pos (starEach [] X.env)).any (·.1) || (backToKw pos (keywordEach kws X.env)).any (·.1.isNone)) = false := by rfl) :
    SE X W (sCallK (callN T k) f 0 ks.length g sNil tk') (.Call (.Name x p) [] kws pos) := by
  obtain ⟨hi, ⟨fd, F, hb, ok⟩⟩ := c.at hf hx
  rw [show He.fAd X.K fn.at_ = He.ga X.K x by rw [ha0]; rfl] at F ok
  refine ⟨fun pins s σ H Q I ⟨m, env, vh, kx, kd, hr, er, h, ho, ox⟩ => ?_⟩
  refine wpAny_Call_Name_kw (ld_glob I hg hm ?_ hdb)
  have h0 : tA X.K W tk' σ H fun zs H2 => zs.length = ks.length ∧ spV X.K (callN T k) fn.id fn.ps.length (g [] zs) H2 Q (WE W σ) :=
    tA.go hr er ox h fun m2 vh2 H2 es zs s2 hr2 er2 ox2 r2 k2 =>
      ⟨by rw [← r2.len]; exact k2.2.1, spV_at (m0 := m) (H0 := H) hr2 (kw.reps Reps.nil r2) hf hi k2.2.2 (ho.step s2) ox2⟩
  refine PySem.W.callWith_KW0 (h₀ := X.base) I.ok.mod.kin F.kp hall (thn (hkw.run pos pins s σ H _ I h0) fun ws s2 ⟨zs, H2, I2, rz, l2, q2⟩ => ⟨I2.kIn, ?_⟩) hpl
  rw [hks]
  exact run_G (E := WE W) (ar := ⟨[], ks.zip ws⟩) ok (c.room.mono (by omega)) c.gd (binds_kw F @kw s2 rfl (rz.length.symm.trans l2)) (L2N.passAt tk σ) I2 (kw.rel .nil rz) q2
/-- f(e, ..) in a suite: no argument is an exception -/
def sCallN (C : Calls) (f : Nat) (t : SemA) : SemE := fun env vh kx kd => t env vh kx fun ds vh' => noExn ds ∧ C f ds vh' kx kd
theorem se_callN (c : CxX X T hots k ep) (tk : L2N.Takes X W) (hf : T f = some fn) (hh : f ∈ hots) (ha0 : fn.at_ = (x, none)) (hg : Gl X x) (hm : X.mg x = some (.ref (He.ga X.K x))) (ha : SA X W sl (e :: es)) (hdb : (x == ("__debug__" : Str)) = false := by decide)
    (he : starEach (e :: es) X.env = (false, eval e X.env) :: starEach es X.env := by rfl) (hpl : (backTo pos (starEach es X.env)).any (·.1) = false := by rfl) : SE X W (sCallN (callN T k) f sl) (.Call (.Name x p) (e :: es) [] pos) := by
  obtain ⟨fd, F, hb, ok⟩ := c.hfn f fn hf hh
  have hi := c.ids f fn hf
  rw [show He.fAd X.K fn.at_ = He.ga X.K x by rw [ha0]; rfl] at F ok
  refine ⟨fun pins s σ H Q I ⟨m, env, vh, kx, kd, hr, er, h, ho, ox⟩ => ?_⟩
  refine wpAny_Call_Name_kw (ld_glob I hg hm ?_ hdb)
  have h0 : tA X.K W sl σ H (fun vs H1 => spX X.K (callN T k) fn.id fn.ps.length ep vs H1 Q (WE W σ)) := tA.go hr er ox h fun m1 vh1 H1 ds vs s1 hr1 er1 ox1 r1 k1 => by
    obtain ⟨m2, vh2, ds2, kx2, kd2, z1, z2, z3, z4, z5, z6⟩ := spV_at (W := W) (σ := σ) (m0 := m) (H0 := H) hr1 r1 hf hi k1.2 (ho.step s1) ox1
    refine ⟨m1, vh1, ds, kx, kd, hr1, r1, by rw [r1.len, ← z2.len, z3], by rw [hi]; exact k1.2, ho.step s1, ox1, k1.1.ok⟩
  refine PySem.W.callWith_K (h₀ := X.base) I.ok.mod.kin F.kp (thn (ha.run pos pins s σ H _ I h0) fun us s1 ⟨vs, H1, I1, r, q⟩ => ⟨I1.kIn, ?_⟩) he hpl
  exact run_X (E := WE W) (ar := ⟨us, []⟩) ok c (by omega) (binds0 hb I1.kIn (by rw [← r.length]; exact ok.len _ _ _ _ _ q)) (L2N.passAt tk σ) I1 r q
/-- f(e) in a suite, e the exception that is handled -/
def sCallE (a dd : Addr) (c : Str) (C : Calls) (f i : Nat) : SemE := fun env vh kx kd => match look env i with
  | some (.exn a' dd' c' ns ds) => (a' = a ∧ dd' = dd ∧ c' = c) ∧ C f [.exn a' dd' c' ns ds] vh kx kd
  | _ => False
theorem se_callE {a dd : Addr} {c y : Str} {i : Nat} (cx : CxX X T hots k ep) (tk : L2N.Takes X W) (hf : T f = some fn) (hh : f ∈ hots) (ha0 : fn.at_ = (x, none)) (hg : Gl X x) (hm : X.mg x = some (.ref (He.ga X.K x))) (ea : a = ep.1) (hz : L2N.Zn (.ref (He.ga X.K c)) (some dd) ep.2) (ha : SE X W (sVar i) (.Name y apos)) (hdb : (x == ("__debug__" : Str)) = false := by decide)
    (he : starEach [.Name y apos] X.env = (false, eval (.Name y apos) X.env) :: starEach [] X.env := by rfl) (hpl : (backTo pos (starEach [] X.env)).any (·.1) = false := by rfl) : SE X W (sCallE a dd c (callN T k) f i) (.Call (.Name x p) [.Name y apos] [] pos) := by
  obtain ⟨fd, F, hb, ok⟩ := cx.hfn f fn hf hh
  have hi := cx.ids f fn hf
  rw [show He.fAd X.K fn.at_ = He.ga X.K x by rw [ha0]; rfl] at F ok
  subst ea
  refine ⟨fun pins s σ H Q I ⟨m, env, vh, kx, kd, hr, er, h, ho, ox⟩ => ?_⟩
  refine wpAny_Call_Name_kw (ld_glob I hg hm ?_ hdb)
  have h0 : tA X.K W (sCons (sVar i) sNil) σ H (fun vs H1 => spX X.K (callN T k) fn.id fn.ps.length ep vs H1 Q (WE W σ)) := by
    revert h
    show (match look env i with | some (.exn a' dd' c' ns ds) => (a' = ep.1 ∧ dd' = dd ∧ c' = c) ∧ callN T k f [.exn a' dd' c' ns ds] vh kx kd | _ => False) → _
    cases e : look env i with
    | none => exact False.elim
    | some d0 =>
      cases d0 with
      | exn a' dd' c' ns ds =>
        rintro ⟨⟨rfl, rfl, rfl⟩, hc⟩
        refine tA.go (kl := fun ds' vh' => ds' = [.exn ep.1 dd' c' ns ds] ∧ vh' = vh) hr er ox ?_ fun m1 vh1 H1 es vs s1 hr1 er1 ox1 r1 k1 => ?_
        · show (match look env i with | some d => _ | none => False)
          rw [e]
          exact ⟨rfl, rfl⟩
        · obtain ⟨rfl, rfl⟩ := k1
          obtain ⟨m2, vh2, ds2, kx2, kd2, z1, z2, z3, z4, z5, z6⟩ := spV_at (W := W) (σ := σ) (m0 := m) (H0 := H) hr1 r1 hf hi hc (ho.step s1) ox1
          refine ⟨m1, vh1, _, kx, kd, hr1, r1, by rw [r1.len, ← z2.len, z3], by rw [hi]; exact hc, ho.step s1, ox1, fun a'' dd'' c'' ns' fs' hm' => ?_⟩
          cases List.mem_singleton.mp hm'
          exact ⟨rfl, hz⟩
      | _ => exact False.elim
  refine PySem.W.callWith_K (h₀ := X.base) I.ok.mod.kin F.kp (thn ((sa_cons ha sa_nil).run pos pins s σ H _ I h0) fun us s1 ⟨vs, H1, I1, r, q⟩ => ⟨I1.kIn, ?_⟩) he hpl
  exact run_X (E := WE W) (ar := ⟨us, []⟩) ok cx (by omega) (binds0 hb I1.kIn (by rw [← r.length]; exact ok.len _ _ _ _ _ q)) (L2N.passAt tk σ) I1 r q
end
end VI

end
section
/-! VI30: all levels, the law; isinstance and fields of the exception that is handled; repr; pop. -/
namespace VI
open PySem PySem.Spec L2
open PyProof.Rows hiding St
structure FnMkG (P : Program) (w : World) (K : PySem.W.Frag) (mg : Str → Option Value) (base : Heap) (T : Nat → Option Fn) (hots xs : List Nat) (f : Nat) (fn : Fn) : Prop where
  id : fn.id = f
  fd : ∃ fd, FunD K fn.name fn.qual (defArgs fn.st) (defBody fn.st) (defScope fn.st) [] [] (He.fAd K fn.at_) fd
  sc : FnScope fn.N fn.ps (defScope fn.st)
  bd : BindOk fn
  der : f ∉ xs → ∀ (k : Nat) (cdv : Value) (A : Around) (out : List PySem.Env) (s : Shared) (H : Hp) (E : XK), CxG (cxF P w K mg base fn cdv A out s H E) T hots xs k → SSs (cxF P w K mg base fn cdv A out s H E) (wE E) (fn.sem (callN T k)) (defBody fn.st)
  derX : f ∈ hots → ∀ k : Nat, DerX P w K mg base T hots k fn
section
variable {P : Program} {w : World} {K : PySem.W.Frag} {mg : Str → Option Value} {base : Heap} {T : Nat → Option Fn} {hots xs : List Nat}
theorem all_levelsG (M : ∀ f fn, T f = some fn → FnMkG P w K mg base T hots xs f fn) : ∀ k, (∀ f fn, T f = some fn → f ∉ xs → FnAtG P w K mg base (callN T k) (3 * k) fn) ∧ ∀ f fn, T f = some fn → f ∈ hots → FnAtX P w K mg base (callN T k) (3 * k) fn
  | 0 => ⟨fun f fn e _ => (M f fn e).fd.elim fun _ F => FnAtG.zero F (M f fn e).bd, fun f fn e _ => (M f fn e).fd.elim fun _ F => FnAtX.zero F (M f fn e).bd⟩
  | k + 1 => by
    obtain ⟨h1, h2⟩ := all_levelsG M k
    have ids : ∀ f gn, T f = some gn → gn.id = f := fun f gn e => (M f gn e).id
    refine ⟨fun f fn e hx => ?_, fun f fn e hf => ?_⟩
    · obtain ⟨fd, F⟩ := (M f fn e).fd
      exact FnAtG.made (by rw [(M f fn e).id]; exact e) F (M f fn e).sc (M f fn e).bd ids h1 h2 fun cdv A out s H E c => (M f fn e).der hx k cdv A out s H E c
    · obtain ⟨fd, F⟩ := (M f fn e).fd
      exact FnAtX.made (by rw [(M f fn e).id]; exact e) F (M f fn e).sc (M f fn e).bd ids h2 ((M f fn e).derX hf k)
end
/-! ### the law -/
section
variable {P : Program} {w : World} {K : PySem.W.Frag} {mg mb : Str → Option Value} {lv : Nat} {fa a : Addr} {fd : FuncData} {x : Str} {sp : Sp} {sh : Shared} {vs : List Value} {ns : List Int}
abbrev LawEnds (sh : Shared) : Result → Shared → Prop := fun r s' => r = .ok (.ret (.bool true)) ∧ OldK sh.heap s'.heap ∧ s'.os = sh.os ∧ AllBare s'.gens
theorem law_at (kin : K.In sh.heap) (hns : sh.heap.Ns mainGlobals mg) (hb : sh.heap.Ns builtinsNs mb) (hbb : ∀ z : Str, z ≠ "__name__" → mb z = bootBuiltins z) (nol : sh.heap.NoLimit) (hgen : sh.gens = #[])
    (hobj : sh.heap.get? a = some { cls := .type "list", data := .seq vs.toArray }) (hR : Room lv callerA)
    (F : ∀ base : Heap, K.In base → base.Ns mainGlobals mg → PromG P w K mg base lv fa fd [x] sp) (hB : ∀ (s : Shared) (u : Value), BindsTo s fd ⟨[u], []⟩ [(x, u)])
    {H : Hp} (hw : sp [.ref a] H (fun v _ => v = .bl true) fun _ _ _ => False) (hC : ∀ e s', L2N.CX P w [] H sh (fun _ _ _ => False) e s' → False)
    (only : Only H) (hok : HOk P w H sh.heap) (hA : ∀ b, H b ≠ none → b = a) (hK : H a ≠ none → K.lookup a = none) :
    codeAny (model P w) callerA (.call (.ref fa) ⟨[.ref a], []⟩) (LawEnds sh) sh := by
  have hid : ∀ {b : Addr} {o : Obj}, sh.heap.get? b = some o → H b = none → (hidT sh.heap H).get? b = some o := fun e n => hidT_get e n
  have dict_no : ∀ {b : Addr} {o : Obj} {es : Array DictEntry} {ep : Nat}, sh.heap.get? b = some o → o.data = .dict es ep → H b = none := fun {b o es ep} e d => by
    by_cases q : H b = none
    · exact q
    · have e' := hA b q
      subst e'
      rw [hobj] at e
      cases e
      exact nomatch (show Data.seq vs.toArray _ = Data.dict es ep from d)
  have nsH : ∀ {b : Addr} {m : Str → Option Value}, sh.heap.Ns b m → (hidT sh.heap H).Ns b m := fun {b m} h => by
    obtain ⟨o, es, ep, e, d, r⟩ := h
    exact ⟨o, es, ep, hid e (dict_no e d), d, r⟩
  have kinH : K.In (hidT sh.heap H) := fun b o e => hid (kin b o e) (by
    by_cases q : H b = none
    · exact q
    · have e' := hA b q
      subst e'
      rw [hK q] at e
      cases e)
  have hmod : Mod K mg (hidT sh.heap H) := ⟨kinH, nsH hns, ⟨mb, nsH hb, hbb⟩, by obtain ⟨mc, h1, h2⟩ := nol; exact ⟨mc, nsH h1, h2⟩⟩
  have env : Env0 P w K mg (hidT sh.heap H) callerA [] sh H := ⟨rfl, hmod, fun b o e => of_hidT e, Nat.le_of_eq (hidT_size _ _), trivial, (fun b z => nomatch (show b ∈ ([] : List Addr) from z)), hok, .of_eq hgen⟩
  refine codeAny_mono ((F _ kinH (nsH hns)).run callerA [] sh H ⟨[.ref a], []⟩ [.ref a] [.ref a] _ _ hR rfl env (hB sh (.ref a)) (.cons rfl .nil) hw) fun res s' q => ?_
  cases res with
  | error e => exact (hC e s' q).elim
  | ok fl =>
    cases fl with
    | ret u =>
      obtain ⟨v, H', os, bare, un, hok', rv, q⟩ := q
      cases (show v = .bl true from q)
      cases (show u = Value.bool true from rv)
      refine ⟨rfl, OldK.of_keep fun b o e => ?_, os, bare⟩
      cases qb : H b with
      | none => exact un.keep b o e qb (fun z => nomatch (show b ∈ ([] : List Addr) from z)) (by simp)
      | some u =>
        rcases only b with z | ⟨ob, xs, z⟩
        · rw [qb] at z
          cases z
        · have z2 := un.frzs b ob _ z
          obtain ⟨e1, _⟩ := hok b _ z
          obtain ⟨e2, _⟩ := hok' b _ z2
          rw [e] at e1
          cases e1
          exact e2
    | next => exact q.elim
    | brk => exact q.elim
    | cont => exact q.elim
theorem law_callG (kin : K.In sh.heap) (hns : sh.heap.Ns mainGlobals mg) (hb : sh.heap.Ns builtinsNs mb) (hbb : ∀ z : Str, z ≠ "__name__" → mb z = bootBuiltins z) (nol : sh.heap.NoLimit) (hgen : sh.gens = #[])
    (hobj : sh.heap.get? a = some { cls := .type "list", data := .seq vs.toArray }) (hi : IntsAre vs ns) (hl : ns.length ≤ sizeLine) (hR : Room lv callerA)
    (F : ∀ base : Heap, K.In base → base.Ns mainGlobals mg → PromG P w K mg base lv fa fd [x] sp) (hB : ∀ (s : Shared) (u : Value), BindsTo s fd ⟨[u], []⟩ [(x, u)])
    (hw : ∀ H : Hp, Only H → SqL K H a (ns.map V.int) → sp [.ref a] H (fun v _ => v = .bl true) fun _ _ _ => False) (hC : ∀ H e s', L2N.CX P w [] H sh (fun _ _ _ => False) e s' → False) :
    codeAny (model P w) callerA (.call (.ref fa) ⟨[.ref a], []⟩) (LawEnds sh) sh := by
  have rv := vals_ints hi
  cases hk : K.lookup a with
  | some o =>
    have e := kin a o hk
    rw [hobj] at e
    cases e
    have only0 : Only fun _ => none := fun _ => .inl rfl
    refine law_at kin hns hb hbb nol hgen hobj hR F hB (H := fun _ => none) (hw _ only0 (.inr ⟨_, vs.toArray, _, hk, rfl, rfl, rfl, by rw [List.size_toArray, hi.length]; exact hl, by simpa using rv⟩)) (hC _) only0 (fun b u z => nomatch (show (none : Option HO) = some u from z)) (fun b z => absurd rfl z) fun z => absurd rfl z
  | none =>
    let H0 : Hp := fun b => if b = a then some (.frz { cls := .type "list", data := .seq vs.toArray } (.lst (ns.map V.int))) else none
    have at_a : H0 a = some (.frz { cls := .type "list", data := .seq vs.toArray } (.lst (ns.map V.int))) := if_pos rfl
    have off : ∀ b, b ≠ a → H0 b = none := fun b hb => if_neg hb
    have only0 : Only H0 := fun b => by
      by_cases q : b = a
      · rw [q]
        exact .inr ⟨_, _, at_a⟩
      · exact .inl (off b q)
    refine law_at kin hns hb hbb nol hgen hobj hR F hB (H := H0) (hw _ only0 (.inl (.inr ⟨_, at_a⟩))) (hC _) only0 (fun b u z => ?_) (fun b z => Classical.byContradiction fun q => z (off b q)) fun _ => hk
    by_cases q : b = a
    · subst q
      rw [at_a] at z
      cases z
      exact ⟨hobj, by rw [List.length_map]; exact hl, vs, _, rv, hobj⟩
    · rw [off b q] at z
      cases z
end
theorem law_walkG {l : PySem.W.OpenLaw} {n k f : Nat} {q : Program} {loose : List Str} {XP : (Str → Option Value) → Heap → Prop} {YP : World → Heap → Prop} {d : DefRec} {T : Nat → Option Fn} {hots xs : List Nat} {fn : Fn} {x : Str}
    (hn : l.most = some n) (hn2 : n ≤ sizeLine) (hdf : d.params.defaults = []) (hr : Room (3 * k) callerA) (hT : T f = some fn) (hfx : f ∉ xs) (hps : fn.ps = [x]) (hat : fn.at_ = (d.name, none))
    (F : ∀ (w : World) (mg : Str → Option Value) (h : Heap), YP w h → h.Ns mainGlobals mg → ∃ K : PySem.W.Frag, K.In h ∧ mg d.name = some (.ref (He.ga K d.name)) ∧ ∀ base : Heap, K.In base → base.Ns mainGlobals mg → ∀ f fn, T f = some fn → FnMkG l.prog w K mg base T hots xs f fn)
    (spec : ∀ ns : List Int, ns.length ≤ n → callN T k f [.scr ns] [] noX fun d _ => d = .bl true) :
    PySem.W.WalkO q loose XP YP l.row.toRowW d [] (fun f vs => PySem.call f vs) := by
  refine Att.attach_call hn hdf fun w s₀ s₁ mg mb fa o pm cd doc a vs ns G Y ho hd hcd hmg hobj hints hlen hg => ?_
  obtain ⟨K, KX, hmg2, hF⟩ := F w mg _ Y G.T.g
  rw [hmg] at hmg2
  cases hmg2
  have M0 := hF _ KX G.T.g f fn hT
  obtain ⟨fd, FD⟩ := M0.fd
  have hfa : He.fAd K fn.at_ = He.ga K d.name := by rw [hat]; rfl
  have lvl : ∀ base : Heap, K.In base → base.Ns mainGlobals mg → PromG l.prog w K mg base (3 * k) (He.ga K d.name) fd [x] (spV K (callN T k) f 1) := fun base kb nb => by
    obtain ⟨fd2, FD2, hb2, ok⟩ := ((all_levelsG (hF base kb nb) k).1 f fn hT hfx).ex
    have e : fd2 = fd := by
      obtain ⟨_, _, _, _, _, _, _, _, _, _, _, l1, _⟩ := FD.ex
      obtain ⟨_, _, _, _, _, _, _, _, _, _, _, l2, _⟩ := FD2.ex
      rw [l1] at l2
      injection l2 with l2
      injection l2 with _ _ l3 _
      injection l3 with l3
      exact l3.symm
    subst e
    rw [hfa, hps] at ok
    have hi := M0.id
    rw [hi] at ok
    exact ok
  refine law_callG (sp := spV K (callN T k) f 1) (x := x) (fd := fd) KX G.T.g G.T.b G.T.builtins G.T.nolimit hg hobj hints (Nat.le_trans hlen hn2) hr lvl (fun s u => ?_) (fun H hO hS => ?_) fun H e s' => ?_
  · have b := FD.bindsA (ps := fn.ps) M0.bd s [u] (by rw [hps]; rfl)
    rw [hps] at b
    exact b
  · refine ⟨m0, [], [.scr ns], noX, _, hr0, Reps.one (script_rep hO hS), rfl, spec ns hlen, fun m' vh' H' d v s h' r k => ?_, fun m' vh' H' ex cls dd s h' r k => k.elim⟩
    subst k
    exact r
  · rintro ⟨_, _, _, _, _, _, _, _, _, _, _, _, z⟩
    exact z
end VI

end
section
/-! VI31: repr; xs.pop(i); isinstance and fields of the exception that is handled. -/
namespace VI
open PySem PySem.Spec L2
open PyProof.Rows hiding St
/-! ### repr(x) -/
def rReprD (K : PySem.W.Frag) : List V → Hp → VK → Prop := fun xs H Q => ∃ v d, xs = [v] ∧ Dp K H v d ∧ d.showable = true ∧ d.hasDict = false ∧ d.depth ≤ 60 ∧ d.shown.length ≤ sizeLine ∧ Q (.str d.shown) H
section
variable {X : Cx}
theorem call_reprD (hu : X.A.units + 64 < cLine) (hg : X.A.guards = some []) : CallR X (.builtin "repr") (rReprD X.K) := by
  intro pins s σ H xs us Q I rv h
  obtain ⟨v, d, rfl, hd, hs, hn, hk, hz, q⟩ := h
  obtain ⟨u, rfl, ru⟩ := rv.one
  obtain ⟨as, rd⟩ := Dp.reads I d v u hd ru
  have fin : ∀ tk, EP X pins σ Q (.str d.shown tk) { s with toks := tk + 1 } := fun tk => ⟨.str d.shown, H, I.tok _, ⟨_, rfl⟩, q⟩
  cases u with
  | ref a =>
    refine repr_of_reads' rd hs (PyData.noDict_hsm hn) hg (by omega) (fun _ _ z => z) (fun h' tk t2 k => ?_) hz
    exact ⟨.str d.shown, H, I.kept k, ⟨_, rfl⟩, q⟩
  | none =>
    cases rd
    exact PySem.P.repr_of_none (fin s.toks)
  | bool b =>
    cases rd
    exact PySem.P.repr_of_bool (fin s.toks)
  | int i t =>
    cases rd
    exact PySem.P.repr_of_int (of_decide_eq_true hs) (fin s.toks)
  | str y t =>
    cases rd
    exact PySem.P.repr_of_str (fin s.toks) hz
  | _ => cases rd
end
def oRepr : SOL := fun ds vh kd => match ds with
  | [d] => ∃ P, pyd vh d = some P ∧ (P.showable = true ∧ P.hasDict = false ∧ P.depth ≤ 60 ∧ P.shown.length ≤ sizeLine) ∧ kd (.str P.shown) vh
  | _ => False
theorem oRepr_one {d : D} {vh : VH} {kd : KD} : oRepr [d] vh kd = ∃ P, pyd vh d = some P ∧ (P.showable = true ∧ P.hasDict = false ∧ P.depth ≤ 60 ∧ P.shown.length ≤ sizeLine) ∧ kd (.str P.shown) vh := rfl
section
variable {X : Cx} {W : WX} {T : Nat → Option Fn} {hots : List Nat} {k : Nat} {ep : Addr × Obj} {x y : Str} {p p2 pos apos cpos : Pos} {e o : Expr} {es : List Expr} {sl : SemA} {so se : SemE}
theorem sn_repr : SnL X.K oRepr (rReprD X.K) := by
  intro m H vh ds vs kd Q hr rs h ho
  match ds, h with
  | [d], h =>
    obtain ⟨P, e1, ⟨h1, h2, h3, h4⟩, hk⟩ := h
    simp only [Reps] at rs
    obtain ⟨v, vs', rfl, r1, rfl⟩ := rs
    exact ⟨v, P, rfl, pyd_dp hr e1 r1, h1, h2, h3, h4, ho m vh H (.str P.shown) _ (Step.refl _ _) hr rfl hk⟩
theorem se_repr (hu : X.A.units + 64 < cLine) (hg0 : X.A.guards = some []) (hg : Gl X "repr") (hm : X.mg "repr" = none) (ha : SA X W sl [e]) (he : starEach [e] X.env = (false, eval e X.env) :: starEach [] X.env := by rfl) : SE X W (sCallB oRepr sl) (.Call (.Name "repr" p) [e] [] pos) :=
  se_callB (call_reprD hu hg0) sn_repr hg hm (by decide +kernel) ha (by decide) (by decide) he
/-! ### xs.pop(i) -/
def sPopA (so se : SemE) : SemE := fun env vh kx kd => so env vh kx fun od vh1 => match od with
  | .ref p => (∃ ds0, vh1[p]? = some (.lst ds0)) ∧ se env vh1 kx fun d vh2 => match d with
    | .int i => ∃ ds j y, vh2[p]? = some (.lst ds) ∧ (-(2 ^ 63) ≤ i ∧ i < 2 ^ 63) ∧ L2.ixN ds.length i = some j ∧ ds[j]? = some y ∧ kd y (vh2.set p (.lst (ds.eraseIdx j)))
    | _ => False
  | _ => False
theorem Reps.erase {K : PySem.W.Frag} {m : Map} {H : Hp} : ∀ {ds : List D} {xs : List V} (i : Nat), Reps K m H ds xs → Reps K m H (ds.eraseIdx i) (xs.eraseIdx i)
  | [], xs, i, r => by simp only [Reps] at r; subst r; simpa using Reps.nil
  | d :: ds, xs, 0, r => by
    simp only [Reps] at r
    obtain ⟨w, vs, rfl, r1, r2⟩ := r
    exact r2
  | d :: ds, xs, i + 1, r => by
    simp only [Reps] at r
    obtain ⟨w, vs, rfl, r1, r2⟩ := r
    exact Reps.cons r1 (Reps.erase i r2)
theorem se_popA (ho : SE X W so o) (he : SE X W se e) (hbase : attributeBase o "pop" X.env (eval o X.env) = eval o X.env := by rfl)
    (hfew : ((backTo pos (starEach [e] X.env)).all (fun x => !x.1) && (backToKw pos (keywordEach [] X.env)).all (fun x => x.1.isSome)
      && decide ([e].length + ([] : List Keyword).length + (if ([] : List Keyword).isEmpty then 0 else 1) < 30)) = true := by rfl)
    (hline : (apos.endLine == pos.line) = true := by rfl) (hs : starEach [e] X.env = (false, eval e X.env) :: starEach [] X.env := by rfl) (hpl : (backTo pos (starEach [] X.env)).any (·.1) = false := by rfl) :
    SE X W (sPopA so se) (.Call (.Attribute o "pop" apos) [e] [] pos) := by
  refine peImp (pe_bm PySem.F.plainAttrs_list PySem.F.slot_list_pop PySem.F.type_list_pop mt_popAt ho (pa_cons he pa_nil hs) hbase hfew hline hs hpl) fun σ H Q ⟨m, env, vh, kx, kd, hr, er, h, ho, ox⟩ => ?_
  refine tE.go hr er ox h fun m1 vh1 H1 od ov s1 hr1 er1 ox1 r1 k1 => ?_
  cases od with
  | ref p =>
    obtain ⟨⟨ds0, e0⟩, k1⟩ := k1
    have r1' := r1
    simp only [Rep] at r1
    obtain ⟨a, rfl, ea⟩ := r1
    obtain ⟨xs0, eH0, _⟩ := hr1.ats p _ a e0 ea
    refine ⟨.inl ⟨rfl, xs0, .of eH0⟩, tE.go hr1 er1 ox1 k1 fun m2 vh2 H2 d v s2 hr2 er2 ox2 r2 k2 => ?_⟩
    cases d with
    | int i =>
      have r2 : v = .int i := r2
      subst r2
      obtain ⟨ds, j, y, ec, hb, hj, hy, kk⟩ := k2
      have ea2 := s2.2.1 p a ea
      obtain ⟨xs, eH, rs⟩ := hr2.ats p _ a ec ea2
      obtain ⟨vy, hvy, ry⟩ := rs.get hy
      have hl := rs.len
      rw [hl] at hj
      refine ⟨a, xs, i, j, vy, rfl, rfl, eH, hb.1, hb.2, (L2.ixN_seq hj).1, hvy, ?_⟩
      have st := set_step (H := H2) (o := .lst (xs.eraseIdx j)) ea2
      exact ho m2 _ _ y vy ((s1.trans s2).trans st) (hr2.set (c := .lst (ds.eraseIdx j)) ea2 ⟨_, upd_same, Reps.step hr2 st _ _ (rs.erase j)⟩) (Rep.step hr2 st _ _ ry) kk
    | _ => exact k2.elim
  | _ => exact k1.elim
end
/-! ### isinstance(e, C), e.f: e the exception that is handled -/
section
open PySem.W PySem.Calls
theorem exc_class {prog : Program} {w : World} {A : Around} {E : Value → Shared → Prop} {s : Shared} {K : Frag} {x C : Addr} {ox od : Obj} {Q : Option Value → Shared → Prop} {gt : Option Value}
    (X : K.In s.heap) (I : PySem.W.InstAt s.heap x ox C (some od)) (hga : findIn K (.ref C) "__getattribute__" = some (some (.builtin "BaseException.__getattribute__"))) (hgt : findIn K (.ref C) "__getattr__" = some gt)
    (hsub : subIn K (.ref C) (.type "BaseException") = some true) (hf : findObj K C (some od) "__class__" = some (.bind (.builtin "getset_descriptor.__get__") (.builtin "object.__class__"))) (hm : mroIn K C (.type "object") = some true)
    (h : Q (some (.ref C)) { s with toks := s.toks + 1 }) : wpAny (model prog w) A (getAttr? (.ref x) "__class__") Q E s := by
  obtain ⟨hp, g, d, t, os⟩ := s
  have L0 := I.type (M := model prog w)
  have L1 := looks_findIn (M := model prog w) X hga
  have L2 := looks_findIn (M := model prog w) X hgt
  have L3 := looks_find (M := model prog w) X I hf
  have sub : Looks (model prog w) hp (isInstance (.ref x) (.type "BaseException")) true := L0.andThen (looks_subIn X hsub)
  have no : (onTheHeap (Value.ref C) && Value.builtin "BaseException.__getattribute__" == Value.builtin "object.__getattribute__") = false := by
    rw [show (Value.builtin "BaseException.__getattribute__" == Value.builtin "object.__getattribute__") = false by decide +kernel]
    rfl
  unfold getAttr? getAttrBy? getAttrBy
  refine wpAny_bind (wpAny_mkText (wpAny_bind (wpAny_attempt (wpAny_holding (wpAny_bind (L0.at (wpAny_bind (L1.at ?_))))))))
  show wpAny _ _ (if (onTheHeap (Value.ref C) && Value.builtin "BaseException.__getattribute__" == Value.builtin "object.__getattribute__") = true then _ else _) _ _ _
  rw [no, if_neg Bool.false_ne_true]
  unfold getAttrByItsOwn hookBefore
  refine wpAny_bind ?_
  rw [if_pos (show onTheHeap (Value.ref C) = true from rfl)]
  refine L2.at (wpAny_bind (wpAny_attempt (wpAny_holding ?_)))
  show wpAny _ _ (boundAndCalled _ _ _) _ _ _
  unfold boundAndCalled
  rw [PySem.F.excAttr_ValueError.ga.bind (.ref x)]
  refine wpAny_bind (wpAny_pure ?_)
  show wpAny _ _ (call (.builtin "BaseException.__getattribute__") [.ref x, .str "__class__" t]) _ _ _
  refine wpAny_call (codeAny_call_builtin PySem.F.excAttr_ValueError.ga.plain PySem.F.entry_bexc_ga ?_)
  refine @check_slot (model prog w) _ _ ⟨hp, g, d, t + 1, os⟩ "BaseException.__getattribute__" "BaseException" "__getattribute__" (.ref x) [.str "__class__" t] [] _ (by decide +kernel) (by decide +kernel) sub (PySem.F.args_bexc_ga (.ref x) (.str "__class__" t)) ?_
  unfold Builtin.«object.__getattribute__»
  refine wpAny_bind (wpAny_of_eq (a := ((Value.ref x : Value), [Value.str "__class__" t])) (by first | rfl | (simp only [slotArgs]; rfl)) ?_)
  refine wpAny_bind (wpAny_pure (wpAny_bind (L0.at (wpAny_bind (L3.at ?_)))))
  show wpAny _ _ (Builtin.ObjectAttr.bindTo (.builtin "getset_descriptor.__get__") (.builtin "object.__class__") (.ref x) (.ref C)) _ _ _
  unfold Builtin.ObjectAttr.bindTo
  show wpAny _ _ (holding [Value.builtin "object.__class__"] (call (.builtin "getset_descriptor.__get__") [.builtin "object.__class__", .ref x, .ref C]) >>= ret) _ _ _
  refine wpAny_bind (wpAny_holding (wpAny_call (class_get X I hm ?_)))
  refine wpAny_pure ?_
  show wpAny _ _ (handedOut (.ref C)) _ _ _
  exact handed_on rfl (wpAny_pure h)
theorem kitx_exc {K : Frag} {x D : Addr} {ox od : Obj} {gt : Option Value} (hga : findIn K (.ref D) "__getattribute__" = some (some (.builtin "BaseException.__getattribute__"))) (hgt : findIn K (.ref D) "__getattr__" = some gt) (hsub : subIn K (.ref D) (.type "BaseException") = some true)
    (hdct : hasDictIn K D = true) (ha : findIn K (.ref D) "__class__" = some (some (.builtin "object.__class__"))) (hn : specialIn K (.builtin "object.__class__") "__get__" = some (some (.builtin "getset_descriptor.__get__"))) (htk : takesIn K (.builtin "object.__class__") = some true) (hm : mroIn K D (.type "object") = some true) :
    KitX K (.ref x) (.ref D) (fun h => PySem.W.InstAt h x ox D (some od)) := by
  obtain ⟨cd, hc, _⟩ := any_some hdct
  have hf : findObj K D (some od) "__class__" = some (.bind (.builtin "getset_descriptor.__get__") (.builtin "object.__class__")) := findObj_data (by rw [hc]; rfl) ha hn htk
  have known : ∃ o, K.lookup D = some o ∧ ∃ c, o.data = .cls c := by
    unfold clsIn at hc
    split at hc
    · rename_i c' d' cd' sl' ho
      exact ⟨_, ho, cd', rfl⟩
    · cases hc
  obtain ⟨o, ho, c, hcl⟩ := known
  refine ⟨fun M h X I => I.type, fun M h X I => ?_, fun h tp dd its n sl X htp => ?_, fun X I k => exc_class X I hga hgt hsub hf hm k⟩
  · intro A' Q' E' s' k q
    unfold isType loadHead
    refine wpAny_bind (wpAny_loadPart (k _ _ (X _ _ ho)) (wpAny_pure ?_))
    obtain ⟨o1, o2, o3, o4⟩ := o
    cases hcl
    exact q
  · refine Bool.eq_false_iff.mpr fun q => ?_
    cases Value.ref.inj (beq_iff_eq.mp q)
    have z := (X _ _ ho).symm.trans htp
    obtain ⟨o1, o2, o3, o4⟩ := o
    cases hcl
    cases z
end
structure XcK (K : PySem.W.Frag) (c : Str) : Prop where
  ga : PySem.W.findIn K (.ref (He.ga K c)) "__getattribute__" = some (some (.builtin "BaseException.__getattribute__"))
  gt : PySem.W.findIn K (.ref (He.ga K c)) "__getattr__" = some none
  sb : PySem.W.subIn K (.ref (He.ga K c)) (.type "BaseException") = some true
  hd : PySem.W.hasDictIn K (He.ga K c) = true
  ha : PySem.W.findIn K (.ref (He.ga K c)) "__class__" = some (some (.builtin "object.__class__"))
  hn : PySem.W.specialIn K (.builtin "object.__class__") "__get__" = some (some (.builtin "getset_descriptor.__get__"))
  ht : PySem.W.takesIn K (.builtin "object.__class__") = some true
  hm : PySem.W.mroIn K (He.ga K c) (.type "object") = some true
def xckB (K : PySem.W.Frag) (c : Str) : Bool := decide (PySem.W.findIn K (.ref (He.ga K c)) "__getattribute__" = some (some (.builtin "BaseException.__getattribute__"))) && (decide (PySem.W.findIn K (.ref (He.ga K c)) "__getattr__" = some none) && (decide (PySem.W.subIn K (.ref (He.ga K c)) (.type "BaseException") = some true) &&
  (PySem.W.hasDictIn K (He.ga K c) && (He.eqO (PySem.W.findIn K (.ref (He.ga K c)) "__class__") (some (some (.builtin "object.__class__"))) &&
  (He.eqO (PySem.W.specialIn K (.builtin "object.__class__") "__get__") (some (some (.builtin "getset_descriptor.__get__"))) && (decide (PySem.W.takesIn K (.builtin "object.__class__") = some true) && decide (PySem.W.mroIn K (He.ga K c) (.type "object") = some true)))))))
theorem xckB_ok {K : PySem.W.Frag} {c : Str} (h : xckB K c = true) : XcK K c := by
  obtain ⟨h0, h⟩ := He.ba h
  obtain ⟨h1, h⟩ := He.ba h
  obtain ⟨h9, h⟩ := He.ba h
  obtain ⟨h2, h⟩ := He.ba h
  obtain ⟨h3, h⟩ := He.ba h
  obtain ⟨h4, h⟩ := He.ba h
  obtain ⟨h5, h6⟩ := He.ba h
  exact ⟨of_decide_eq_true h0, of_decide_eq_true h1, of_decide_eq_true h9, h2, He.eqO_ok h3, He.eqO_ok h4, of_decide_eq_true h5, of_decide_eq_true h6⟩
/-- u: the class's value; sub: is it that class -/
def IsX (K : PySem.W.Frag) (L : List Str) (u : Value) (sub : Str → Bool) : Prop := ∀ c ∈ L, XcK K c ∧ PySem.W.kitOne K (.ref (He.ga K c)) u = some (sub c)
def isxB (K : PySem.W.Frag) (L : List Str) (u : Value) (sub : Str → Bool) : Bool := L.all fun c => xckB K c && decide (PySem.W.kitOne K (.ref (He.ga K c)) u = some (sub c))
theorem isxB_ok {K : PySem.W.Frag} {L : List Str} {u : Value} {sub : Str → Bool} (h : isxB K L u sub = true) : IsX K L u sub := fun c hc => by
  obtain ⟨h1, h2⟩ := He.ba (List.all_eq_true.mp h c hc)
  exact ⟨xckB_ok h1, of_decide_eq_true h2⟩
section
variable {X : Cx} {W : WX} {T : Nat → Option Fn} {hots : List Nat} {k : Nat} {ep : Addr × Obj} {x y : Str} {p p2 pos apos cpos : Pos} {e o : Expr} {es : List Expr} {sl : SemA} {so se : SemE}
def rIsX (K : PySem.W.Frag) (ep : Addr × Obj) : List V → Hp → VK → Prop := fun xs H Q => ∃ (cv : V) (u : Value) (c : Str) (dd : Addr) (fs : List (Str × V)) (b : Bool), xs = [.ref ep.1, cv] ∧ ClsV cv u ∧ L2N.Zn (.ref (He.ga K c)) (some dd) ep.2 ∧ H dd = some (.xd fs) ∧ XcK K c ∧ PySem.W.kitOne K (.ref (He.ga K c)) u = some b ∧ Q (.bl b) H
theorem call_isX (cx : CxX X T hots k ep) : CallR X (.builtin "isinstance") (rIsX X.K ep) := by
  intro pins s σ H xs us Q I r h
  obtain ⟨cv, u, c, dd, fs, b, rfl, kc, hz, hdd, xc, hk, q⟩ := h
  obtain ⟨u1, u2, rfl, r1, r2⟩ := vals2 r
  have e2 := kc.eq r2
  subst e2
  cases (show u1 = Value.ref ep.1 from r1)
  obtain ⟨ha, _⟩ := I.pin ep (List.mem_append_left _ cx.pin)
  obtain ⟨hh, vs, hv, _⟩ := cx.h1
  obtain ⟨mA, hns, hr⟩ := (show ObjOk X.prog X.w H s.heap dd (.xd fs) from I.hok dd _ hdd)
  obtain ⟨od, hod, hl⟩ := lookIn_ns hns
  have J : PySem.W.InstAt s.heap ep.1 ep.2 (He.ga X.K c) (some od) := ⟨ha, hz.1, by unfold PySem.W.notCls; rw [hv] <;> rfl, by rw [hz.2.1]; exact hod⟩
  exact PySem.W.kia_one (kitx_exc xc.ga xc.gt xc.sb xc.hd xc.ha xc.hn xc.ht xc.hm) I.kIn J hk (fun z => nomatch z) fun tk => ⟨.bl b, H, I.tok tk, rfl, q⟩
/-- isinstance(e, C) -/
def sIsX (a dd : Addr) (c : Str) (L : List Str) (sub : Str → Bool) (i : Nat) : SemE := fun env vh _ kd => match look env i with
  | some (.exn a' dd' c' _ _) => (a' = a ∧ dd' = dd ∧ c' = c ∧ c' ∈ L) ∧ kd (.bl (sub c')) vh
  | _ => False
theorem isX_wish {a dd : Addr} {c : Str} {L : List Str} {sub : Str → Bool} {i : Nat} {u : Value} {cv : V} (ea : a = ep.1) (hz : L2N.Zn (.ref (He.ga X.K c)) (some dd) ep.2) (hx : IsX X.K L u sub) (kc : ClsV cv u) (σ : L2.St) (H : Hp) (Q : VK) :
    tE X.K W (sIsX a dd c L sub i) σ H Q → tE X.K W (sVar i) σ H fun v H1 => rIsX X.K ep [v, cv] H1 Q := by
  subst ea
  rintro ⟨m, env, vh, kx, kd, hr, er, h, ho, ox⟩
  revert h
  show (match look env i with | some (.exn a' dd' c' _ _) => (a' = ep.1 ∧ dd' = dd ∧ c' = c ∧ c' ∈ L) ∧ kd (.bl (sub c')) vh | _ => False) → _
  cases e : look env i with
  | none => exact False.elim
  | some d0 =>
    cases d0 with
    | exn a' dd' c' ns ds =>
      rintro ⟨⟨rfl, rfl, rfl, hc⟩, hk⟩
      refine tE.go (kd := fun d' vh' => d' = .exn ep.1 dd' c' ns ds ∧ vh' = vh) hr er ox ?_ fun m1 vh1 H1 d v s1 hr1 er1 ox1 r1 k1 => ?_
      · show (match look env i with | some d => _ | none => False)
        rw [e]
        exact ⟨rfl, rfl⟩
      · obtain ⟨rfl, rfl⟩ := k1
        simp only [Rep] at r1
        obtain ⟨rfl, fs, hdd, _⟩ := r1
        obtain ⟨xc, hk1⟩ := hx c' hc
        exact ⟨cv, u, c', dd', fs, sub c', rfl, kc, hz, hdd, xc, hk1, ho m1 vh1 H1 (.bl (sub c')) _ s1 hr1 rep_bl hk⟩
    | _ => exact False.elim
theorem se_isX {a dd : Addr} {c C y : Str} {L : List Str} {sub : Str → Bool} {i : Nat} (cx : CxX X T hots k ep) (ea : a = ep.1) (hz : L2N.Zn (.ref (He.ga X.K c)) (some dd) ep.2) (hx : IsX X.K L (.ref (He.ga X.K C)) sub) (hg : Gl X "isinstance") (hm : X.mg "isinstance" = none) (hgT : Gl X C) (hmT : X.mg C = some (.ref (He.ga X.K C)))
    (he : SE X W (sVar i) (.Name y apos)) (hd : (C == ("__debug__" : Str)) = false := by decide)
    (h1 : starEach [.Name y apos, .Name C p2] X.env = (false, eval (.Name y apos) X.env) :: starEach [.Name C p2] X.env := by rfl) (h2 : starEach [.Name C p2] X.env = (false, eval (.Name C p2) X.env) :: starEach [] X.env := by rfl) (hpl : (backTo pos (starEach [.Name C p2] X.env)).any (·.1) = false := by rfl) :
    SE X W (sIsX a dd c L sub i) (.Call (.Name "isinstance" p) [.Name y apos, .Name C p2] [] pos) := by
  have hty : PE X (.Name C p2) (tC (.ref (He.ga X.K C))) := pe_glob hgT hmT rfl hd
  exact peImp (pe_callB (call_isX cx) hg hm boot_isinstance (pa_cons he (pa_cons hty pa_nil h2) h1) (by decide) (by decide) h1 hpl) fun σ H Q h => isX_wish ea hz hx (.own _) σ H Q h
theorem se_isXb {a dd : Addr} {c TN y : Str} {ty : String} {L : List Str} {sub : Str → Bool} {i : Nat} (cx : CxX X T hots k ep) (ea : a = ep.1) (hz : L2N.Zn (.ref (He.ga X.K c)) (some dd) ep.2) (hx : IsX X.K L (.type ty) sub) (hg : Gl X "isinstance") (hm : X.mg "isinstance" = none) (hgT : Gl X TN) (hmT : X.mg TN = none) (hT : bootBuiltins TN = some (.type ty))
    (he : SE X W (sVar i) (.Name y apos)) (hn : TN ≠ "__name__" := by decide) (hd : (TN == ("__debug__" : Str)) = false := by decide)
    (h1 : starEach [.Name y apos, .Name TN p2] X.env = (false, eval (.Name y apos) X.env) :: starEach [.Name TN p2] X.env := by rfl) (h2 : starEach [.Name TN p2] X.env = (false, eval (.Name TN p2) X.env) :: starEach [] X.env := by rfl) (hpl : (backTo pos (starEach [.Name TN p2] X.env)).any (·.1) = false := by rfl) :
    SE X W (sIsX a dd c L sub i) (.Call (.Name "isinstance" p) [.Name y apos, .Name TN p2] [] pos) := by
  have hty : PE X (.Name TN p2) (tC (.ty ty)) := pe_bltn hgT hmT hT rfl hn hd
  exact peImp (pe_callB (call_isX cx) hg hm boot_isinstance (pa_cons he (pa_cons hty pa_nil h2) h1) (by decide) (by decide) h1 hpl) fun σ H Q h => isX_wish ea hz hx (.ty _) σ H Q h
/-- e.f -/
theorem se_xfG {a dd : Addr} {c c0 f y : Str} {fs L : List Str} {j i : Nat} (cx : CxX X T hots k ep) (ea : a = ep.1) (TX : ExC X.prog X.w X.K X.mg X.base c0 fs) (hf : f ∈ fs) (hL : L[j]? = some f) (hnL : f ∉ L.take j) (hz : L2N.Zn (.ref (He.ga X.K c)) (some dd) ep.2)
    (he : SE X W (sVar i) (.Name y p)) (hb : attributeBase (.Name y p) f X.env (eval (.Name y p) X.env) = eval (.Name y p) X.env := by rfl) :
    SE X W (sXf a dd c c0 L j i) (.Attribute (.Name y p) f pos) := by
  subst ea
  refine ⟨fun pins s σ H Q I ⟨m, env, vh, kx, kd, hr, er, h, ho, ox⟩ => ?_⟩
  revert h
  show (match look env i with | some (.exn a' dd' _ ns ds) => (a' = ep.1 ∧ dd' = dd ∧ c = c0 ∧ ns.take (j + 1) = L) ∧ ∃ d, ds[j]? = some d ∧ kd d vh | _ => False) → _
  cases e : look env i with
  | none => exact False.elim
  | some d0 =>
    cases d0 with
    | exn a' dd' c' ns ds =>
      rintro ⟨⟨rfl, rfl, rfl, eL⟩, d, ed, kk⟩
      have hv : tE X.K W (sVar i) σ H fun v H1 => v = .ref ep.1 ∧ ∃ fs' v', H1 dd' = some (.xd fs') ∧ fs'.lookup f = some v' ∧ Q v' H1 := by
        refine tE.go (kd := fun d' vh' => d' = .exn ep.1 dd' c' ns ds ∧ vh' = vh) hr er ox ?_ fun m1 vh1 H1 d2 v s1 hr1 er1 ox1 r1 k1 => ?_
        · show (match look env i with | some d => _ | none => False)
          rw [e]
          exact ⟨rfl, rfl⟩
        · obtain ⟨rfl, rfl⟩ := k1
          simp only [Rep] at r1
          obtain ⟨rfl, fs', hdd, _, en, rs⟩ := r1
          obtain ⟨v', ev', rv'⟩ := rs.get ed
          refine ⟨rfl, fs', v', hdd, lookup_ix (j := j) ?_ ?_ ev', ho m1 vh1 H1 d v' s1 hr1 rv' kk⟩
          · rw [en]
            have : ns.take j = L.take j := by rw [← eL, List.take_take, Nat.min_eq_left (Nat.le_succ j)]
            rw [this]
            exact hnL
          · rw [en]
            have : (ns.take (j + 1))[j]? = some f := by rw [eL]; exact hL
            rw [List.getElem?_take_of_lt (Nat.lt_succ_self j)] at this
            exact this
      refine attr_of hb (thn (he.run pins s σ H _ I hv) fun u s1 hh => ?_)
      obtain ⟨v, H1, I1, rx, rfl, fs', v', hdd, hl', q⟩ := hh
      cases (show u = Value.ref ep.1 from rx)
      obtain ⟨ha, _⟩ := I1.pin ep (List.mem_append_left _ cx.pin)
      obtain ⟨_, vs, hv, _⟩ := cx.h1
      obtain ⟨mA, hns, hro⟩ := (show ObjOk X.prog X.w H1 s1.heap dd' (.xd fs') from I1.hok dd' _ hdd)
      obtain ⟨od, hod, hl⟩ := lookIn_ns hns
      obtain ⟨u', hu', ru'⟩ := RelO.some_of (v := v') (o := mA f) (by rw [← hl']; exact hro f)
      have J : PySem.W.InstAt s1.heap ep.1 ep.2 (He.ga X.K c) (some od) := ⟨ha, hz.1, by unfold PySem.W.notCls; rw [hv] <;> rfl, by rw [hz.2.1]; exact hod⟩
      exact HandSPX.exc_get I1.kIn J TX.xf.ga TX.xf.gg TX.xf.exC (PySem.W.findObj_own TX.xf.hdC (TX.fld f hf) rfl (by rw [hl, hu'])) (handed_of ru') ⟨v', H1, I1.tok _, ru', q⟩
    | _ => exact False.elim
end
end VI

end
section
/-! VI32: a call that may stand in a suite too; new instances, methods where no repr is under way. -/
namespace VI
open PySem PySem.Spec L2
open PyProof.Rows hiding St
section
variable {X : Cx} {W : WX} {T : Nat → Option Fn} {hots xs : List Nat} {k : Nat} {fn : Fn} {x c mt : Str} {p pos apos : Pos} {e o : Expr} {es : List Expr} {sl : SemA} {so se : SemE} {f : Nat}
theorem se_callGN (cx : CxG X T hots xs k) (tk : L2N.Takes X W) (hf : T f = some fn) (hx : f ∉ xs) (ha0 : fn.at_ = (x, none)) (hg : Gl X x) (hm : X.mg x = some (.ref (He.ga X.K x))) (ha : SA X W sl (e :: es)) (hdb : (x == ("__debug__" : Str)) = false := by decide)
    (he : starEach (e :: es) X.env = (false, eval e X.env) :: starEach es X.env := by rfl) (hpl : (backTo pos (starEach es X.env)).any (·.1) = false := by rfl) : SE X W (sCallN (callN T k) f sl) (.Call (.Name x p) (e :: es) [] pos) := by
  obtain ⟨hi, ⟨fd, F, hb, ok⟩⟩ := cx.at hf hx
  rw [show He.fAd X.K fn.at_ = He.ga X.K x by rw [ha0]; rfl] at F ok
  refine ⟨fun pins s σ H Q I ⟨m, env, vh, kx, kd, hr, er, h, ho, ox⟩ => ?_⟩
  refine wpAny_Call_Name_kw (ld_glob I hg hm ?_ hdb)
  have h0 : tA X.K W sl σ H (fun vs H1 => spV X.K (callN T k) fn.id fn.ps.length vs H1 Q (WE W σ)) := tA.go hr er ox h fun m1 vh1 H1 ds vs s1 hr1 er1 ox1 r1 k1 => spV_at (m0 := m) (H0 := H) hr1 r1 hf hi k1.2 (ho.step s1) ox1
  refine PySem.W.callWith_K (h₀ := X.base) I.ok.mod.kin F.kp (thn (ha.run pos pins s σ H _ I h0) fun us s1 ⟨vs, H1, I1, r, q⟩ => ⟨I1.kIn, ?_⟩) he hpl
  exact run_G (E := WE W) (ar := ⟨us, []⟩) ok (cx.room.mono (by omega)) cx.gd (binds0 hb I1.kIn (by rw [← r.length]; exact sp_len q)) (L2N.passAt tk σ) I1 r q
theorem make_guards {A : Around} {C : Addr} {us : List Value} {kw : List (Str × Value)} : (A.under (.builtin "type.__call__" ⟨.ref C :: us, kw⟩)).guards = A.guards := by
  first
    | rfl
    | (cases h : A.guards <;> simp [Around.under, Code.guards, Code.isGuard, guardIds, pushGuards, h])
theorem run_makeG {j : Nat} {fa C : Addr} {fd : FuncData} {ps : List Str} {sp : Sp} {E : L2.St → XK} {pins : List (Addr × Obj)} {σ : L2.St} {H : Hp} {s : Shared} {Q : VK} {us : List Value} {vs : List V} (M : Mk X.K C fa) (F : PromG X.prog X.w X.K X.mg X.base j fa fd ps sp) (hr : Room (j + 1) X.A) (hg : X.A.guards = some []) (hb : Binds X.K fd ps [])
    (hx : PassesAt (L2N.CX X.prog X.w) X σ (E σ)) (I : Inv X pins σ H s) (r : Vals vs us)
    (h : ∀ x dx, H x = none → H dx = none → dx ≠ x → sp (.ref x :: vs) (upd (upd H dx (.own x)) x (.ins C dx [])) (fun v H2 => v = .non ∧ Q (.ref x) H2) (E σ)) :
    wpAny (model X.prog X.w) X.A (call (.ref C) us) (EP X pins σ Q) X.xe s := by
  have hq := h (s.heap.objs.size + 1) s.heap.objs.size (I.hok.fresh (Nat.le_succ _)) (I.hok.fresh (Nat.le_refl _)) (Nat.ne_of_lt (Nat.lt_succ_self _))
  have I2 := Inv.made (C := C) I
  have r2 : Vals (V.ref (s.heap.objs.size + 1) :: vs) (Value.ref (s.heap.objs.size + 1) :: us) := .cons rfl r
  have hl : (Value.ref (s.heap.objs.size + 1) :: us).length = ps.length := by
    have e := r2.length
    rw [F.len _ _ _ _ hq] at e
    exact e.symm
  refine wpAny_call (make_map (f := fa) I.kIn M.makes M.init (beq_iff_eq.mp M.fn) (codeAny_mono (F.run _ X.stack _ _ ⟨Value.ref (s.heap.objs.size + 1) :: us, []⟩ (Value.ref (s.heap.objs.size + 1) :: us) _ _ (E σ) (hr.make C us []) (make_guards.trans hg)
    (I2.env0.make C us []) (binds0 hb I2.kIn hl) r2 hq) fun res s' hq' => ?_))
  cases res with
  | error e => exact hx pins _ _ e s' I2 hq'
  | ok fl =>
    cases fl with
    | ret u =>
      obtain ⟨v, H', I3, rv, ev, q3⟩ := I2.after hq'
      subst ev
      exact ⟨rv, ⟨V.ref (s.heap.objs.size + 1), H', I3, rfl, q3⟩⟩
    | next => exact hq'.elim
    | brk => exact hq'.elim
    | cont => exact hq'.elim
theorem new_ofG {frz : Bool} (hf : T f = some fn) (hi : fn.id = f) {m : Map} {H : Hp} {vh : VH} {ds : List D} {vs : List V} {kx : KX} {kd : KD} {Q : VK} {σ : L2.St} (hr : Hr X.K m H vh) (r : Reps X.K m H ds vs)
    (hc : callN T k f (.ref vh.length :: ds) (vh ++ [.ins c [] []]) (newEx vh kx) (newEnd frz vh kd)) (ho : Out X.K m H kd Q) (ox : OutX X.K m H W σ kx) (x dx : Addr) (hx : H x = none) (hdx : H dx = none) (hne : dx ≠ x) :
    spV X.K (callN T k) fn.id fn.ps.length (.ref x :: vs) (upd (upd H dx (.own x)) x (.ins (He.ga X.K c) dx [])) (fun v H2 => v = .non ∧ Q (.ref x) H2) (WE W σ) := by
  have s1 := Step.same (m := m) (same_new (o := .own x) hdx)
  have hr1 := hr.same (same_new (o := .own x) hdx)
  have hx1 : upd H dx (.own x) x = none := by rw [upd_ne (Ne.symm hne)]; exact hx
  have s2 := push_step (o := .ins (He.ga X.K c) dx []) hr1 hx1
  have hr2 := hr1.push (c := .ins c [] []) (o := .ins (He.ga X.K c) dx []) hx1 ⟨dx, [], upd_same, rfl, Reps.nil⟩
  have st := s1.trans s2
  have rs : Reps X.K (m.push vh.length x) (upd (upd H dx (.own x)) x (.ins (He.ga X.K c) dx [])) (.ref vh.length :: ds) (.ref x :: vs) :=
    Reps.cons (by simp only [Rep]; exact ⟨x, rfl, if_pos rfl⟩) (Reps.step hr st _ _ r)
  refine spV_at (m0 := m) (H0 := H) hr2 rs hf hi hc (fun m' vh' H' d v s' h' rv kk => ?_) (fun m' vh' H' ex cls dd s' h' rx kk => ?_)
  · have st' := st.trans s'
    cases frz with
    | false =>
      obtain ⟨rfl, kk⟩ := kk
      have e : v = .non := rv
      refine ⟨e, ho m' vh' H' (.ref vh.length) (.ref x) st' h' ?_ kk⟩
      simp only [Rep]
      exact ⟨x, rfl, s'.2.1 _ _ (if_pos rfl)⟩
    | true =>
      obtain ⟨rfl, g, d', e, fz, kk⟩ := kk
      have ev : v = .non := rv
      subst e
      obtain ⟨h1, s3⟩ := hr.trim st' h'
      refine ⟨ev, ho m vh H' d' (.ref x) s3 h1 (Frz.rep hr st' h' fz ?_) kk⟩
      simp only [Rep]
      exact ⟨x, rfl, s'.2.1 _ _ (if_pos rfl)⟩
  · obtain ⟨g, es, e, fz, kk⟩ := kk
    subst e
    have st' := st.trans s'
    obtain ⟨h1, s3⟩ := hr.trim st' h'
    obtain ⟨e1, a, fs, e2, e3, e4, rs⟩ := rx
    exact ox m vh H' ⟨ex.c, ex.ns, es⟩ cls dd s3 h1 ⟨e1, a, fs, e2, e3, e4, Frzs.rep hr st' h' fz rs⟩ kk
theorem se_newG (frz : Bool) (cx : CxG X T hots xs k) (tk : L2N.Takes X W) (hf : T f = some fn) (hfx : f ∉ xs) (ha0 : fn.at_ = (c, some ("__init__" : Str))) (M : Mk X.K (He.ga X.K c) (He.ma X.K (He.ga X.K c) "__init__")) (hg : Gl X c) (hm : X.mg c = some (.ref (He.ga X.K c))) (ha : SA X W sl (e :: es)) (hdb : (c == ("__debug__" : Str)) = false := by decide)
    (he : starEach (e :: es) X.env = (false, eval e X.env) :: starEach es X.env := by rfl) (hpl : (backTo pos (starEach es X.env)).any (·.1) = false := by rfl) : SE X W (sNew (callN T k) frz c f sl) (.Call (.Name c p) (e :: es) [] pos) := by
  obtain ⟨hi, ⟨fd, F, hb, ok⟩⟩ := cx.at hf hfx
  rw [show He.fAd X.K fn.at_ = He.ma X.K (He.ga X.K c) "__init__" by rw [ha0]; rfl] at F ok
  refine ⟨fun pins s σ H Q I ⟨m, env, vh, kx, kd, hr, er, h, ho, ox⟩ => ?_⟩
  refine wpAny_Call_Name_kw (ld_glob I hg hm ?_ hdb)
  have h0 : tA X.K W sl σ H (fun vs H1 => ∀ x dx, H1 x = none → H1 dx = none → dx ≠ x → spV X.K (callN T k) fn.id fn.ps.length (.ref x :: vs) (upd (upd H1 dx (.own x)) x (.ins (He.ga X.K c) dx [])) (fun v H2 => v = .non ∧ Q (.ref x) H2) (WE W σ)) :=
    tA.go hr er ox h fun m1 vh1 H1 ds vs s1 hr1 er1 ox1 r1 k1 => new_ofG hf hi hr1 r1 k1 (ho.step s1) ox1
  refine PySem.W.callWith_K (h₀ := X.base) I.ok.mod.kin M.kp (thn (ha.run pos pins s σ H _ I h0) fun us s1 ⟨vs, H1, I1, r, q⟩ => ⟨I1.kIn, ?_⟩) he hpl
  exact run_makeG (E := WE W) M ok (cx.room.mono (by omega)) cx.gd hb (L2N.passAt tk σ) I1 r q
end
end VI

end
section
/-! VI33: max, min of a list or a tuple of numbers. -/
namespace VI
open PySem PySem.Spec L2
open PyProof.Rows hiding St
section
variable {prog : Program} {w : World} {A : Around} {E : Value → Shared → Prop} {s : Shared} {l : Addr} {its : List Value} {ns : List Int} {Q : Value → Shared → Prop}
theorem max_tup_raw (hh : A.handled = none) (hl : s.heap.IsTuple l its.toArray) (hi : IntsAre its ns) (hne : 0 < ns.length)
    (h : ∀ h' tk M t', (∀ b o, s.heap.get? b = some o → h'.get? b = some o) → M ∈ ns → (∀ a, a ∈ ns → a ≤ M) → Q (.int M t') { s with heap := h', toks := tk }) : wpAny (model prog w) A (call (.builtin "max") [.ref l]) Q E s := by
  obtain ⟨xs, e⟩ := hi.allInts.items
  have hn : numsOf (intItems xs).toList = ns := by rw [← e]; exact hi.numsOf
  rw [nums_intItems] at hn
  subst hn
  rw [e] at hl
  have hsz : 0 < xs.size := by simpa using hne
  have hlt : l < s.heap.objs.size := by obtain ⟨_, z, _⟩ := hl; exact Heap.lt_size z
  refine call_max_walk (wpAny_pyIter_tuple hl ?_)
  refine ⟨_, _, _, _, _, _, _, rfl, Walks.tuple (A := A.in1) hh s.heap.objs.size l (Nat.ne_of_lt hlt) (intItems xs), ⟨⟨_, Heap.get?_push_size _ rfl, rfl, rfl⟩, hl.at fun o e => Heap.get?_push_of_some _ e⟩, fun b hb => ?_, by simpa [intItems] using hsz, CmpOf.ints_gt (numAt xs) (fun _ _ => intItems_at), fun v h' tk hP hk => ?_⟩
  · have e' : b = s.heap.objs.size ∨ b = l := by simpa using hb
    show b < (s.heap.push _).objs.size
    rw [Heap.size_push]
    rcases e' with z | z
    · rw [z]; exact Nat.lt_succ_self _
    · rw [z]; exact Nat.lt_succ_of_lt hlt
  · have hv : (intItems xs)[argBest (fun i j => decide (numAt xs i > numAt xs j)) (xs.size - 1)]? = some v := by simpa [intItems] using hP
    obtain ⟨t, rfl⟩ := intItems_at hv
    obtain ⟨h1, h2⟩ := argBest_gt (numAt xs) (xs.size - 1)
    refine h h' tk _ t (fun b o q => hk b o (by simp; exact Nat.ne_of_lt (Heap.lt_size q)) (Heap.get?_push_of_some _ q)) ?_ fun a ha => ?_
    · rw [numAt_eq]; exact PySem.getD_mem (by rw [List.length_map, Array.length_toList]; omega)
    · obtain ⟨j, hj, rfl⟩ := mem_getD ha
      rw [List.length_map, Array.length_toList] at hj
      rw [← numAt_eq]; exact h2 j (by omega)
theorem min_tup_raw (hh : A.handled = none) (hl : s.heap.IsTuple l its.toArray) (hi : IntsAre its ns) (hne : 0 < ns.length)
    (h : ∀ h' tk M t', (∀ b o, s.heap.get? b = some o → h'.get? b = some o) → M ∈ ns → (∀ a, a ∈ ns → M ≤ a) → Q (.int M t') { s with heap := h', toks := tk }) : wpAny (model prog w) A (call (.builtin "min") [.ref l]) Q E s := by
  obtain ⟨xs, e⟩ := hi.allInts.items
  have hn : numsOf (intItems xs).toList = ns := by rw [← e]; exact hi.numsOf
  rw [nums_intItems] at hn
  subst hn
  rw [e] at hl
  have hsz : 0 < xs.size := by simpa using hne
  have hlt : l < s.heap.objs.size := by obtain ⟨_, z, _⟩ := hl; exact Heap.lt_size z
  refine call_min_walk (wpAny_pyIter_tuple hl ?_)
  refine ⟨_, _, _, _, _, _, _, rfl, Walks.tuple (A := A.in1) hh s.heap.objs.size l (Nat.ne_of_lt hlt) (intItems xs), ⟨⟨_, Heap.get?_push_size _ rfl, rfl, rfl⟩, hl.at fun o e => Heap.get?_push_of_some _ e⟩, fun b hb => ?_, by simpa [intItems] using hsz, CmpOf.ints_lt (numAt xs) (fun _ _ => intItems_at), fun v h' tk hP hk => ?_⟩
  · have e' : b = s.heap.objs.size ∨ b = l := by simpa using hb
    show b < (s.heap.push _).objs.size
    rw [Heap.size_push]
    rcases e' with z | z
    · rw [z]; exact Nat.lt_succ_self _
    · rw [z]; exact Nat.lt_succ_of_lt hlt
  · have hv : (intItems xs)[argBest (fun i j => decide (numAt xs i < numAt xs j)) (xs.size - 1)]? = some v := by simpa [intItems] using hP
    obtain ⟨t, rfl⟩ := intItems_at hv
    obtain ⟨h1, h2⟩ := argBest_lt (numAt xs) (xs.size - 1)
    refine h h' tk _ t (fun b o q => hk b o (by simp; exact Nat.ne_of_lt (Heap.lt_size q)) (Heap.get?_push_of_some _ q)) ?_ fun a ha => ?_
    · rw [numAt_eq]; exact PySem.getD_mem (by rw [List.length_map, Array.length_toList]; omega)
    · obtain ⟨j, hj, rfl⟩ := mem_getD ha
      rw [List.length_map, Array.length_toList] at hj
      rw [← numAt_eq]; exact h2 j (by omega)
end
def rMaxA (K : PySem.W.Frag) : List V → Hp → VK → Prop := fun vs H Q => ∃ (a : Addr) (ns : List Int), vs = [V.ref a] ∧ (SqL K H a (ns.map V.int) ∨ SqT K H a (ns.map V.int)) ∧ 0 < ns.length ∧ ∀ m, m ∈ ns → (∀ y, y ∈ ns → y ≤ m) → Q (.int m) H
def rMinA (K : PySem.W.Frag) : List V → Hp → VK → Prop := fun vs H Q => ∃ (a : Addr) (ns : List Int), vs = [V.ref a] ∧ (SqL K H a (ns.map V.int) ∨ SqT K H a (ns.map V.int)) ∧ 0 < ns.length ∧ ∀ m, m ∈ ns → (∀ y, y ∈ ns → m ≤ y) → Q (.int m) H
section
variable {X : Cx} {W : WX} {e : Expr} {sl : SemA} {p pos : Pos}
theorem cr_maxA (hc : X.calm = true) : CallR X (.builtin "max") (rMaxA X.K) := by
  intro pins s σ H vs us Q I r h
  obtain ⟨a, ns, rfl, hs, hne, q⟩ := h
  rw [Vals.ref1 r]
  rcases hs with hs | hs
  · obtain ⟨its, rv, hl, _⟩ := I.list hs
    exact max_raw (I.ok.hd hc) hl.isList rv.ints hne fun h' tk m t' hk h1 h2 => ⟨.int _, H, I.kept hk, ⟨_, rfl⟩, q m h1 h2⟩
  · obtain ⟨its, rv, hl, _⟩ := I.tuple hs
    exact max_tup_raw (I.ok.hd hc) (show s.heap.IsTuple a its.toArray from hl) rv.ints hne fun h' tk m t' hk h1 h2 => ⟨.int _, H, I.kept hk, ⟨_, rfl⟩, q m h1 h2⟩
theorem cr_minA (hc : X.calm = true) : CallR X (.builtin "min") (rMinA X.K) := by
  intro pins s σ H vs us Q I r h
  obtain ⟨a, ns, rfl, hs, hne, q⟩ := h
  rw [Vals.ref1 r]
  rcases hs with hs | hs
  · obtain ⟨its, rv, hl, _⟩ := I.list hs
    exact min_raw (I.ok.hd hc) hl.isList rv.ints hne fun h' tk m t' hk h1 h2 => ⟨.int _, H, I.kept hk, ⟨_, rfl⟩, q m h1 h2⟩
  · obtain ⟨its, rv, hl, _⟩ := I.tuple hs
    exact min_tup_raw (I.ok.hd hc) (show s.heap.IsTuple a its.toArray from hl) rv.ints hne fun h' tk m t' hk h1 h2 => ⟨.int _, H, I.kept hk, ⟨_, rfl⟩, q m h1 h2⟩
def oMaxS : SOL := fun ds vh kd => match ds with
  | [d] => ∃ ns : List Int, sview vh d = some (ns.map D.int) ∧ 0 < ns.length ∧ ∀ m, m ∈ ns → (∀ y, y ∈ ns → y ≤ m) → kd (.int m) vh
  | _ => False
def oMinS : SOL := fun ds vh kd => match ds with
  | [d] => ∃ ns : List Int, sview vh d = some (ns.map D.int) ∧ 0 < ns.length ∧ ∀ m, m ∈ ns → (∀ y, y ∈ ns → m ≤ y) → kd (.int m) vh
  | _ => False
theorem oMaxS_one {d : D} {vh : VH} {kd : KD} : oMaxS [d] vh kd = ∃ ns : List Int, sview vh d = some (ns.map D.int) ∧ 0 < ns.length ∧ ∀ m, m ∈ ns → (∀ y, y ∈ ns → y ≤ m) → kd (.int m) vh := rfl
theorem oMinS_one {d : D} {vh : VH} {kd : KD} : oMinS [d] vh kd = ∃ ns : List Int, sview vh d = some (ns.map D.int) ∧ 0 < ns.length ∧ ∀ m, m ∈ ns → (∀ y, y ∈ ns → m ≤ y) → kd (.int m) vh := rfl
theorem sn_maxS : SnL X.K oMaxS (rMaxA X.K) := by
  intro m H vh ds vs kd Q hr r h ho
  cases ds with
  | nil => exact h.elim
  | cons d ds =>
    cases ds with
    | cons _ _ => exact h.elim
    | nil =>
      obtain ⟨v, rfl, r1⟩ := reps1 r
      obtain ⟨ns, e, hl, k⟩ := h
      obtain ⟨a, xs, rfl, q, rs⟩ := sview_rep hr r1 e
      have ex := Reps.ints.mp rs
      subst ex
      exact ⟨a, ns, rfl, q, hl, fun z h1 h2 => ho m vh H (.int z) _ (Step.refl _ _) hr rfl (k z h1 h2)⟩
theorem sn_minS : SnL X.K oMinS (rMinA X.K) := by
  intro m H vh ds vs kd Q hr r h ho
  cases ds with
  | nil => exact h.elim
  | cons d ds =>
    cases ds with
    | cons _ _ => exact h.elim
    | nil =>
      obtain ⟨v, rfl, r1⟩ := reps1 r
      obtain ⟨ns, e, hl, k⟩ := h
      obtain ⟨a, xs, rfl, q, rs⟩ := sview_rep hr r1 e
      have ex := Reps.ints.mp rs
      subst ex
      exact ⟨a, ns, rfl, q, hl, fun z h1 h2 => ho m vh H (.int z) _ (Step.refl _ _) hr rfl (k z h1 h2)⟩
theorem se_maxS (hc : X.calm = true) (hg : Gl X "max") (hm : X.mg "max" = none) (ha : SA X W sl [e]) (he : starEach [e] X.env = (false, eval e X.env) :: starEach [] X.env := by rfl) : SE X W (sCallB oMaxS sl) (.Call (.Name "max" p) [e] [] pos) := se_callB (cr_maxA hc) sn_maxS hg hm (by decide +kernel) ha (by decide) (by decide) he
theorem se_minS (hc : X.calm = true) (hg : Gl X "min") (hm : X.mg "min" = none) (ha : SA X W sl [e]) (he : starEach [e] X.env = (false, eval e X.env) :: starEach [] X.env := by rfl) : SE X W (sCallB oMinS sl) (.Call (.Name "min" p) [e] [] pos) := se_callB (cr_minA hc) sn_minS hg hm (by decide +kernel) ha (by decide) (by decide) he
end
end VI

end
section
/-! VI34: for x in reversed(list or tuple). -/
namespace VI
open PySem PySem.Spec L2
open PyProof.Rows hiding St
section
variable {K : PySem.W.Frag} {m : Map} {H : Hp}
theorem src_revL {still : VH → Prop} {a : Addr} {ds : List D} (h : ∀ m' vh' H', Step m H m' H' → Hr K m' H' vh' → still vh' → ∃ xs, SqL K H' a xs ∧ Reps K m' H' ds xs) : SrcRep K m H ⟨ds.reverse, still⟩ (Itv K a ds.length) := by
  intro m' vh' H' s hr' st
  obtain ⟨xs, hq, r⟩ := h m' vh' H' s hr' st
  refine ⟨fun i d e => ?_, fun i hi => ?_⟩
  · have hi : i < ds.length := by
      have := (List.getElem?_eq_some_iff.mp e).1
      rw [List.length_reverse] at this
      exact this
    rw [List.getElem?_reverse hi] at e
    obtain ⟨v, e2, rv⟩ := r.get e
    refine ⟨⟨hi, xs, v, hq, e2⟩, fun x H2 ⟨eH, hy⟩ => ?_⟩
    subst eH
    have := hy xs hq
    rw [e2] at this; cases this
    exact ⟨fun _ _ z => z, rv⟩
  · show ds.length ≤ i
    rw [List.length_reverse] at hi
    omega
theorem src_revT {still : VH → Prop} {a : Addr} {ds : List D} (h : ∀ m' vh' H', Step m H m' H' → Hr K m' H' vh' → still vh' → ∃ xs, SqT K H' a xs ∧ Reps K m' H' ds xs) : SrcRep K m H ⟨ds.reverse, still⟩ (RT.ItvT K a ds.length) := by
  intro m' vh' H' s hr' st
  obtain ⟨xs, hq, r⟩ := h m' vh' H' s hr' st
  refine ⟨fun i d e => ?_, fun i hi => ?_⟩
  · have hi : i < ds.length := by
      have := (List.getElem?_eq_some_iff.mp e).1
      rw [List.length_reverse] at this
      exact this
    rw [List.getElem?_reverse hi] at e
    obtain ⟨v, e2, rv⟩ := r.get e
    refine ⟨⟨hi, xs, v, hq, e2⟩, fun x H2 ⟨eH, hy⟩ => ?_⟩
    subst eH
    have := hy xs hq
    rw [e2] at this; cases this
    exact ⟨fun _ _ z => z, rv⟩
  · show ds.length ≤ i
    rw [List.length_reverse] at hi
    omega
section
variable {vh : VH}
theorem lview_srcR {d : D} {v : V} {ds : List D} (hr : Hr K m H vh) (r : Rep K m H d v) (e : lview vh d = some ds) : ∃ a xs, v = .ref a ∧ SqL K H a xs ∧ Reps K m H ds xs ∧ ∀ m' vh' H', Step m H m' H' → Hr K m' H' vh' → lstill d ds vh' → ∃ xs, SqL K H' a xs ∧ Reps K m' H' ds xs := by
  cases d with
  | lst ds' =>
    cases e
    simp only [Rep] at r
    obtain ⟨a, xs, rfl, e2, im, rs⟩ := r
    exact ⟨a, xs, rfl, .of e2, rs, fun m' vh' H' s _ _ => ⟨xs, .of (Imm.step s e2 im).1, Reps.step hr s _ _ rs⟩⟩
  | ref p =>
    have r1 := r
    simp only [Rep] at r1
    obtain ⟨a, rfl, e2⟩ := r1
    revert e
    show (match vh[p]? with | some (.lst ds) => some ds | _ => none) = some ds → _
    cases q : vh[p]? with
    | none => exact fun z => by cases z
    | some c =>
      cases c with
      | ins _ _ _ => exact fun z => by cases z
      | rng _ _ => exact fun z => by cases z
      | lst ds' =>
        intro z
        cases z
        obtain ⟨xs, e3, rs⟩ := hr.ats p _ a q e2
        refine ⟨a, xs, rfl, .of e3, rs, fun m' vh' H' s hr' st => ?_⟩
        obtain ⟨xs', e4, rs'⟩ := hr'.ats p _ a st (s.2.1 p a e2)
        exact ⟨xs', .of e4, rs'⟩
  | _ => cases e
theorem tup_srcR {ds : List D} {v : V} (hr : Hr K m H vh) (r : Rep K m H (.tup ds) v) : ∃ a xs, v = .ref a ∧ SqT K H a xs ∧ Reps K m H ds xs ∧ ∀ m' vh' H', Step m H m' H' → Hr K m' H' vh' → ∃ xs, SqT K H' a xs ∧ Reps K m' H' ds xs := by
  simp only [Rep] at r
  obtain ⟨a, xs, rfl, e2, rs⟩ := r
  exact ⟨a, xs, rfl, e2, rs, fun m' vh' H' s _ => ⟨xs, SqT.step hr s e2, Reps.step hr s _ _ rs⟩⟩
end
end
def sRev (s : SemE) : SemI := fun env vh kx ki => s env vh kx fun d vh' => match d with
  | .tup xs => ki ⟨xs.reverse, always⟩ vh'
  | d => match lview vh' d with
    | some xs => ki ⟨xs.reverse, lstill d xs⟩ vh'
    | none => False
section
variable {X : Cx} {W : WX} {tg e : Expr} {se : SemE} {p pos : Pos}
theorem si_rev (hg : Gl X "reversed") (hm : X.mg "reversed" = none) (he : SE X W se e) (hs : starEach [e] X.env = (false, eval e X.env) :: starEach [] X.env := by rfl) : SI X W (sRev se) tg (.Call (.Name "reversed" p) [e] [] pos) := by
  refine piImp (RT.pi_revA hg hm he hs) fun σ H R ⟨m, env, vh, kx, ki, hr, er, hs, o, ox⟩ => ?_
  refine tE.go hr er ox hs fun m1 vh1 H1 d v s1 hr1 er1 ox1 r1 k1 => ?_
  have other : ∀ xs, lview vh1 d = some xs → ki ⟨xs.reverse, lstill d xs⟩ vh1 → ∃ a ys, v = .ref a ∧ ((SqL X.K H1 a ys ∧ R (Itv X.K a ys.length) H1) ∨ (SqT X.K H1 a ys ∧ R (RT.ItvT X.K a ys.length) H1)) := fun xs e2 kk => by
    obtain ⟨b, ys, rfl, q, rz, src⟩ := lview_srcR hr1 r1 e2
    refine ⟨b, ys, rfl, .inl ⟨q, ?_⟩⟩
    have el : ys.length = xs.length := by rw [← rz.len]
    rw [el]
    exact o m1 vh1 H1 _ _ s1 hr1 (src_revL src) kk
  cases d with
  | tup xs =>
    obtain ⟨b, ys, rfl, q, rz, src⟩ := tup_srcR hr1 r1
    refine ⟨b, ys, rfl, .inr ⟨q, ?_⟩⟩
    have el : ys.length = xs.length := by rw [← rz.len]
    rw [el]
    exact o m1 vh1 H1 _ _ s1 hr1 (src_revT fun m' vh' H' s hr' _ => src m' vh' H' s hr') k1
  | lst xs => exact other xs rfl k1
  | ref q =>
    revert k1
    show (match lview vh1 (.ref q) with | some xs => ki ⟨xs.reverse, lstill (.ref q) xs⟩ vh1 | none => False) → _
    cases e2 : lview vh1 (.ref q) with
    | none => exact False.elim
    | some xs => exact fun k1 => other xs e2 k1
  | _ => exact k1.elim
end
theorem sRev_t {s : SemE} {env : Env} {vh : VH} {kx : KX} {ki : Src → VH → Prop} : sRev s env vh kx ki = s env vh kx fun d vh' => match d with
  | .tup xs => ki ⟨xs.reverse, always⟩ vh'
  | d => match lview vh' d with
    | some xs => ki ⟨xs.reverse, lstill d xs⟩ vh'
    | none => False := rfl
end VI

end
section
/-! VI35: for x, y in zip(tuple, list). -/
namespace VI
open PySem PySem.Spec L2
open PyProof.Rows hiding St
/-- a tuple's and a list's items side by side, n pairs -/
def ItM (K : PySem.W.Frag) (a b : Addr) (n : Nat) : It where
  go i H := i < n ∧ ∃ (xs ys : List V) (x y : V), (SqT K H a xs ∧ SqL K H b ys) ∧ xs[i]? = some x ∧ ys[i]? = some y
  yld i H v H' := ∃ (p : Addr) (x y : V), (v = .ref p ∧ H p = none ∧ H' = upd H p (.tup [x, y])) ∧ (∀ xs, SqT K H a xs → xs[i]? = some x) ∧ (∀ ys, SqL K H b ys → ys[i]? = some y)
  stop i H := n ≤ i ∧ ∃ xs ys : List V, (SqT K H a xs ∧ SqL K H b ys) ∧ n = min xs.length ys.length
section
variable {P : Program} {w : World} {K : PySem.W.Frag} {elts : List Expr} {kk n : Nat} {tpos : Pos} {a b z ti tt i1 i2 : Addr}
def ZmAt (a b z ti tt i1 i2 : Addr) (n i : Nat) (h : Heap) : Prop := i ≤ n ∧ (IsZip h z ti tt .none ∧ IsTupOf2 h ti (.ref i1) (.ref i2) ∧ ∃ x y, IsTupOf2 h tt x y) ∧ h.IsTupleIter i1 a i ∧ h.IsListIter i2 b i
theorem five {p : Addr → Prop} (hz : p z) (h1 : p ti) (h2 : p tt) (h3 : p i1) (h4 : p i2) : ∀ c ∈ [z, ti, tt, i1, i2], p c := fun c hc => by
  simp only [List.mem_cons, List.not_mem_nil, or_false] at hc
  rcases hc with e | e | e | e | e <;> rw [e] <;> assumption
theorem turn_zm (S : ZipSep2 z ti tt i1 i2 [i1, a] [i2, b]) (na : a ≠ i1) (nb : b ≠ i2) : Turn P w K (.Tuple elts kk tpos) (ItM K a b n) [z, ti, tt, i1, i2] z (ZmAt a b z ti tt i1 i2 n) := by
  have zi1 := S.zi1
  have zi2 := S.zi2
  refine { mem := List.mem_cons_self, obj := fun i h st => ?_, keep := fun i h h' st k => ?_, item := ?_, done := ?_, self := fun A i s Q E st q => wpAny_pyIter_zip st.2.1.1 q }
  · obtain ⟨_, ⟨hz, h1, x, y, h2⟩, ⟨o3, e3, _, d3⟩, ⟨o4, e4, _, d4⟩⟩ := st
    exact five ⟨_, hz, fun v q => (nomatch q)⟩ ⟨_, h1, fun v q => (nomatch q)⟩ ⟨_, h2, fun v q => (nomatch q)⟩ ⟨o3, e3, fun v q => by rw [d3] at q; exact (nomatch q)⟩ ⟨o4, e4, fun v q => by rw [d4] at q; exact (nomatch q)⟩
  · obtain ⟨le, ⟨hz, h1, x, y, h2⟩, h3, h4⟩ := st
    have mem : ∀ c, c = z ∨ c = ti ∨ c = tt ∨ c = i1 ∨ c = i2 → c ∈ [z, ti, tt, i1, i2] := fun c hc => by simpa using hc
    exact ⟨le, ⟨k z (mem z (by simp)) _ hz, k ti (mem ti (by simp)) _ h1, x, y, k tt (mem tt (by simp)) _ h2⟩, h3.at fun o q => k i1 (mem i1 (by simp)) o q, h4.at fun o q => k i2 (mem i2 (by simp)) o q⟩
  · intro X eP ew eK calm i pins s σ H E I hf st ⟨lt, xs, ys, x, y, ⟨qx, qy⟩, ex, ey⟩
    subst eP ew eK
    obtain ⟨_, ⟨hz, h1, x0, y0, h2⟩, h3, h4⟩ := st
    obtain ⟨us, rv, pt, _⟩ := I.tuple qx
    obtain ⟨ws, rv2, pl, _⟩ := I.list qy
    obtain ⟨u, eu, ru⟩ := rv.get ex
    obtain ⟨t, et, rt⟩ := rv2.get ey
    have hn : X.A.in1.handled = none := I.ok.hd calm
    have zlt : z < s.heap.objs.size := Heap.lt_size hz
    have lu : i < us.toArray.size := by have := (List.getElem?_eq_some_iff.mp eu).1; simpa using this
    have lw : i < ws.toArray.size := by have := (List.getElem?_eq_some_iff.mp et).1; simpa using this
    refine wpAny_pyNext_zipD2_item S (Draws.tuple hn i1 a na us.toArray) (Draws.list hn i2 b nb ws.toArray) hz h1 h2 ⟨h3, pt⟩ ⟨h4, pl.isList⟩ lu lw fun v1 v2 g tk e1 e2 z1 t1 n3 n4 new sz kp => ?_
    have ev1 : v1 = u := by
      have e1 : us[i]? = some v1 := by simpa using e1
      rw [eu] at e1
      exact (Option.some.inj e1).symm
    have ev2 : v2 = t := by
      have e2 : ws[i]? = some v2 := by simpa using e2
      rw [et] at e2
      exact (Option.some.inj e2).symm
    subst ev1 ev2
    refine ⟨_, rfl, wpAny_letOwnedTupleGo_zip (s := { s with heap := g, toks := tk }) z1 fun g2 z2 sb => ?_⟩
    have sb : Heap.SameBut z g g2 := sb
    have new2 : g2.get? s.heap.objs.size = some { cls := .type "tuple", data := .seq #[v1, v2] } := (sb.2 _ (Nat.ne_of_gt zlt)).trans new
    have stays : ∀ c o, c ∉ [z, ti, tt, i1, i2] → s.heap.get? c = some o → g2.get? c = some o := fun c o hc q => by
      simp only [List.mem_cons, List.not_mem_nil, or_false, not_or] at hc
      exact (sb.2 c hc.1).trans (kp c o hc.1 hc.2.2.1 hc.2.2.2.1 hc.2.2.2.2 q)
    have J : Inv X pins σ (upd H s.heap.objs.size (.tup [x, y])) { s with heap := g2, toks := tk } := I.turnedNew stays hf (Nat.le_refl _) ⟨show 2 ≤ sizeLine by decide, [v1, v2], .cons ru (.cons rt .nil), _, new2, rfl, _, rfl⟩
    refine ⟨.ref s.heap.objs.size, _, J, rfl, ⟨_, x, y, ⟨rfl, I.hok.fresh (Nat.le_refl _), rfl⟩, fun l q => by rw [I.tuple_inj q qx]; exact ex, fun l q => by rw [I.list_inj q qy]; exact ey⟩, ⟨lt, ⟨z2, ?_, v1, v2, (sb.2 _ S.TOz).trans t1⟩, n3.1.at fun o q => (sb.2 _ (Ne.symm zi1)).trans q, n4.1.at fun o q => (sb.2 _ (Ne.symm zi2)).trans q⟩, fun c hc => ?_⟩
    · exact (sb.2 _ S.TIz).trans (kp _ _ S.TIz S.TITO S.TIi1 S.TIi2 h1)
    · have clt : c < s.heap.objs.size := by
        obtain ⟨o3, e3, _⟩ := h3
        obtain ⟨o4, e4, _⟩ := h4
        exact five (p := fun c => c < s.heap.objs.size) zlt (Heap.lt_size h1) (Heap.lt_size h2) (Heap.lt_size e3) (Heap.lt_size e4) c hc
      rw [upd_ne (Nat.ne_of_lt clt)]
      exact (hf c hc).1
  · intro X eP ew eK calm i pins s σ H E I hf st ⟨ge, xs, ys, ⟨qx, qy⟩, en⟩
    subst eP ew eK
    obtain ⟨le, ⟨hz, h1, x0, y0, h2⟩, h3, h4⟩ := st
    obtain ⟨us, rv, pt, _⟩ := I.tuple qx
    obtain ⟨ws, rv2, pl, _⟩ := I.list qy
    have a1 := rv.length
    have a2 := rv2.length
    have hn : X.A.in1.handled = none := I.ok.hd calm
    have su : us.toArray.size = us.length := by simp
    have sw : ws.toArray.size = ws.length := by simp
    refine wpAny_pyNext_zipD2_end S (Draws.tuple hn i1 a na us.toArray) (Draws.list hn i2 b nb ws.toArray) hz h1 h2 ⟨h3, pt⟩ ⟨h4, pl.isList⟩ (by omega) (by omega) (by omega) fun g tk kp => ⟨rfl, I.turnedL (fun c o hc q => ?_) hf⟩
    simp only [List.mem_cons, List.not_mem_nil, or_false, not_or] at hc
    exact kp c o hc.1 hc.2.2.1 hc.2.2.2.1 hc.2.2.2.2 q
end
/-- zip of a tuple and a list or a tuple -/
def iZm (K : PySem.W.Frag) (ta : TA) : TI := fun σ H R => ta σ H fun vs H1 => ∃ a b xs ys, vs = [.ref a, .ref b] ∧ SqT K H1 a xs ∧ ((SqL K H1 b ys ∧ R (ItM K a b (min xs.length ys.length)) H1) ∨ (SqT K H1 b ys ∧ R (RZ.ItzT K a b) H1))
theorem pi_zm {X : Cx} {e e2 : Expr} {ta : TA} {p pos tpos : Pos} {elts : List Expr} {kk : Nat} (hg : Gl X "zip") (hm : X.mg "zip" = none) (ha : PA X [e, e2] ta) (hs : starEach [e, e2] X.env = (false, eval e X.env) :: starEach [e2] X.env := by rfl) (hpl : (backTo pos (starEach [e2] X.env)).any (·.1) = false := by rfl) : PI X (.Tuple elts kk tpos) (.Call (.Name "zip" p) [e, e2] [] pos) (iZm X.K ta) := by
  refine ⟨fun pins s σ H R I h => ?_⟩
  refine Call_ (ld_blt I hg hm PyProof.Rows.boot_zip (PyProof.Rows.callWith_type1 (thn (ha.run pos pins s σ H _ I h) fun us s1 ⟨vs, H1, I1, r1, a, b, xs, ys, ev, qx, q⟩ => ?_) hs hpl))
  subst ev
  obtain ⟨u1, us1, rfl, k1, r2⟩ : ∃ u us', us = u :: us' ∧ RelV (.ref a) u ∧ Vals [.ref b] us' := by cases r1 with | cons r rr => exact ⟨_, _, rfl, r, rr⟩
  obtain ⟨u2, rfl, k2⟩ := r2.one
  obtain rfl : u1 = Value.ref a := k1
  obtain rfl : u2 = Value.ref b := k2
  obtain ⟨its, rv, pt, _⟩ := I1.tuple qx
  obtain ⟨oa, ea, _⟩ := id pt
  have la : a < s1.heap.objs.size := Heap.lt_size ea
  have fresh : ∀ c ∈ [s1.heap.objs.size + 4, s1.heap.objs.size + 2, s1.heap.objs.size + 3, s1.heap.objs.size, s1.heap.objs.size + 1], FpOk X pins H1 c := by
    have up : ∀ j : Nat, FpOk X pins H1 (s1.heap.objs.size + j) := fun j => I1.fpOk (Nat.le_add_right _ _) (I1.hok.fresh (Nat.le_add_right _ _))
    exact five (up 4) (up 2) (up 3) (up 0) (up 1)
  have old : ∀ {c}, c < s1.heap.objs.size → ∀ d ∈ [c], d < s1.heap.objs.size := fun {c} h d hd => by cases List.mem_singleton.mp hd; exact h
  rcases q with ⟨qy, q⟩ | ⟨qy, q⟩
  · obtain ⟨jts, rv2, pl, _⟩ := I1.list qy
    have lb : b < s1.heap.objs.size := pl.lt
    refine zip_begins2 (begins_tuple a its.toArray) (begins_list b jts.toArray) pt pl.isList fun g g4 g2 g3 g0 g1 sz kp => wpAny_pyIter_zip g4 ?_
    exact ⟨_, _, _, _, H1, rfl, I1.kept (t' := s1.toks) kp, turn_zm (n := min xs.length ys.length) (zip_sep2 (old la) (old lb)) (Nat.ne_of_lt la) (Nat.ne_of_lt (Nat.lt_succ_of_lt lb)), ⟨Nat.zero_le _, ⟨g4, g2, _, _, g3⟩, ⟨_, g0, rfl, rfl⟩, ⟨_, g1, rfl, rfl⟩⟩, fresh, q⟩
  · obtain ⟨jts, rv2, pl, _⟩ := I1.tuple qy
    obtain ⟨ob, eb, _⟩ := id pl
    have lb : b < s1.heap.objs.size := Heap.lt_size eb
    refine zip_begins2 (begins_tuple a its.toArray) (begins_tuple b jts.toArray) pt pl fun g g4 g2 g3 g0 g1 sz kp => wpAny_pyIter_zip g4 ?_
    exact ⟨_, _, _, _, H1, rfl, I1.kept (t' := s1.toks) kp, RZ.turn_zipT (PySem.W.ktu_apart s1.heap.objs.size a b la lb), ⟨g4, g2, ⟨_, _, g3⟩, ⟨_, g0, rfl, rfl⟩, ⟨_, g1, rfl, rfl⟩⟩, fresh, q⟩
section
variable {K : PySem.W.Frag} {m : Map} {H : Hp}
theorem src_zm {still : VH → Prop} {a b : Addr} {ds es : List D} (h : ∀ m' vh' H', Step m H m' H' → Hr K m' H' vh' → still vh' → ∃ xs ys, SqT K H' a xs ∧ SqL K H' b ys ∧ Reps K m' H' ds xs ∧ Reps K m' H' es ys) : SrcRep K m H ⟨zipL ds es, still⟩ (ItM K a b (min ds.length es.length)) := by
  intro m' vh' H' s hr' st
  obtain ⟨xs, ys, qx, qy, r, r2⟩ := h m' vh' H' s hr' st
  refine ⟨fun i d e => ?_, fun i hi => ?_⟩
  · have hi := (List.getElem?_eq_some_iff.mp e).1
    rw [zipL_len] at hi
    obtain ⟨x, y, e1, e2, rfl⟩ := zipL_get _ _ _ e
    obtain ⟨v, f1, rv⟩ := r.get e1
    obtain ⟨w, f2, rw'⟩ := r2.get e2
    refine ⟨⟨hi, xs, ys, v, w, ⟨qx, qy⟩, f1, f2⟩, fun z H2 ⟨T, p, q, ⟨ez, hT, eH⟩, hp, hq⟩ => ?_⟩
    subst ez eH
    obtain rfl : v = p := Option.some.inj (f1.symm.trans (hp xs qx))
    obtain rfl : w = q := Option.some.inj (f2.symm.trans (hq ys qy))
    exact rep_pair hr' hT rv rw'
  · rw [zipL_len] at hi
    exact ⟨hi, xs, ys, ⟨qx, qy⟩, by rw [r.len, r2.len]⟩
end
def oZipM : List D → VH → (Src → VH → Prop) → Prop := fun ds vh ki => match ds with
  | [.tup xs, .tup ys] => ki ⟨zipL xs ys, always⟩ vh
  | [.tup xs, e] => match lview vh e with
    | some ys => ki ⟨zipL xs ys, lstill e ys⟩ vh
    | none => False
  | _ => False
theorem oZipM_t {xs ys : List D} {vh : VH} {ki : Src → VH → Prop} : oZipM [.tup xs, .tup ys] vh ki = ki ⟨zipL xs ys, always⟩ vh := rfl
theorem oZipM_l {xs ys : List D} {vh : VH} {ki : Src → VH → Prop} : oZipM [.tup xs, .lst ys] vh ki = ki ⟨zipL xs ys, always⟩ vh := rfl
section
variable {X : Cx} {W : WX} {a b : Expr} {sl : SemA} {p pos tpos : Pos} {elts : List Expr} {kk : Nat}
theorem si_zipM (hg : Gl X "zip") (hm : X.mg "zip" = none) (ha : SA X W sl [a, b]) (hs : starEach [a, b] X.env = (false, eval a X.env) :: starEach [b] X.env := by rfl) (hpl : (backTo pos (starEach [b] X.env)).any (·.1) = false := by rfl) : SI X W (sItA oZipM sl) (.Tuple elts kk tpos) (.Call (.Name "zip" p) [a, b] [] pos) := by
  refine piImp (pi_zm hg hm ha hs hpl) fun σ H R ⟨m, env, vh, kx, ki, hr, er, hs, o, ox⟩ => ?_
  refine tA.go hr er ox hs fun m1 vh1 H1 ds vs s1 hr1 er1 ox1 r1 k1 => ?_
  have mixed : ∀ xs e, ds = [.tup xs, e] → (match lview vh1 e with | some ys => ki ⟨zipL xs ys, lstill e ys⟩ vh1 | none => False) → ∃ a b xs ys, vs = [.ref a, .ref b] ∧ SqT X.K H1 a xs ∧ ((SqL X.K H1 b ys ∧ R (ItM X.K a b (min xs.length ys.length)) H1) ∨ (SqT X.K H1 b ys ∧ R (RZ.ItzT X.K a b) H1)) := fun xs e e1 => by
    subst e1
    cases e3 : lview vh1 e with
    | none => exact False.elim
    | some ys =>
      intro kk
      simp only [Reps] at r1
      obtain ⟨v, _, rfl, rv, w, _, rfl, rw', rfl⟩ := r1
      have rv : Rep X.K m1 H1 (.tup xs) v := by simp only [Rep]; exact rv
      obtain ⟨c1, as, rfl, q1, z1, src1⟩ := tup_srcR hr1 rv
      obtain ⟨c2, bs, rfl, q2, z2, src2⟩ := lview_srcR hr1 rw' e3
      refine ⟨c1, c2, as, bs, rfl, q1, .inl ⟨q2, ?_⟩⟩
      rw [← z1.len, ← z2.len]
      refine o m1 vh1 H1 _ _ s1 hr1 (src_zm fun m' vh' H' s hr' st => ?_) kk
      obtain ⟨l1, p1, p2⟩ := src1 m' vh' H' s hr'
      obtain ⟨l2, p3, p4⟩ := src2 m' vh' H' s hr' st
      exact ⟨l1, l2, p1, p3, p2, p4⟩
  cases ds with
  | nil => exact k1.elim
  | cons d r =>
    cases r with
    | nil => cases d <;> exact k1.elim
    | cons e r =>
      cases r with
      | cons f r => cases d <;> cases e <;> exact k1.elim
      | nil =>
        cases d with
        | tup xs =>
          cases e with
          | tup ys =>
            simp only [Reps] at r1
            obtain ⟨v, _, rfl, rv, w, _, rfl, rw', rfl⟩ := r1
            have rv : Rep X.K m1 H1 (.tup xs) v := by simp only [Rep]; exact rv
            have rw' : Rep X.K m1 H1 (.tup ys) w := by simp only [Rep]; exact rw'
            obtain ⟨c1, as, rfl, q1, src1⟩ := tup_src hr1 rv
            obtain ⟨c2, bs, rfl, q2, src2⟩ := tup_src hr1 rw'
            refine ⟨c1, c2, as, bs, rfl, q1, .inr ⟨q2, o m1 vh1 H1 _ _ s1 hr1 (src_zipT fun m' vh' H' s hr' st => ?_) k1⟩⟩
            obtain ⟨l1, p1, p2⟩ := src1 m' vh' H' s hr'
            obtain ⟨l2, p3, p4⟩ := src2 m' vh' H' s hr'
            exact ⟨l1, l2, p1, p3, p2, p4⟩
          | lst ys => exact mixed _ _ rfl k1
          | ref q => exact mixed _ _ rfl k1
          | _ => exact (mixed _ _ rfl k1)
        | _ => cases e <;> exact k1.elim
end
end VI

end
section
/-! VI36: bool(x), x a number or a truth value. -/
namespace VI
open PySem PySem.Spec L2
open PyProof.Rows hiding St
def oBool : SOL := fun ds vh kd => match ds with
  | [.int i] => kd (.bl (i != 0)) vh
  | [.bl b] => kd (.bl b) vh
  | _ => False
theorem oBool_i {i : Int} {vh : VH} {kd : KD} : oBool [.int i] vh kd = kd (.bl (i != 0)) vh := rfl
theorem oBool_b {b : Bool} {vh : VH} {kd : KD} : oBool [.bl b] vh kd = kd (.bl b) vh := rfl
section
variable {X : Cx} {W : WX} {e : Expr} {sl : SemA} {p pos : Pos}
theorem sn_bool : SnL X.K oBool (fun xs H Q => (∃ i, xs = [.int i] ∧ Q (.bl (i != 0)) H) ∨ ∃ k, xs = [.bl k] ∧ Q (.bl k) H) := by
  intro m H vh ds vs kd Q hr r h ho
  match ds, h with
  | [.int i], h =>
    obtain ⟨v, rfl, r1⟩ := reps1 r
    have r1 : v = .int i := r1
    subst r1
    exact .inl ⟨i, rfl, ho m vh H (.bl (i != 0)) _ (Step.refl _ _) hr rfl h⟩
  | [.bl b], h =>
    obtain ⟨v, rfl, r1⟩ := reps1 r
    have r1 : v = .bl b := r1
    subst r1
    exact .inr ⟨b, rfl, ho m vh H (.bl b) _ (Step.refl _ _) hr rfl h⟩
theorem se_bool (hg : Gl X "bool") (hm : X.mg "bool" = none) (ha : SA X W sl [e]) (he : starEach [e] X.env = (false, eval e X.env) :: starEach [] X.env := by rfl) : SE X W (sCallB oBool sl) (.Call (.Name "bool" p) [e] [] pos) := se_callTy call_bool1 sn_bool hg hm (by decide +kernel) ha (by decide) (by decide) he
end
end VI

end
section
/-! VI37: i >> j, i << j, i & j; sorted(xs) of tuples of numbers, any number of them. -/
namespace VI
open PySem PySem.Spec L2
open PyProof.Rows hiding St
/-! ### shifts, & -/
def oShr : SO2 := oI (fun _ j => 0 ≤ j) fun i j => .int (i / 2 ^ j.toNat)
def oShl : SO2 := oI (fun i j => CShl i j) fun i j => .int (i * 2 ^ j.toNat)
def oBand : SO2 := oI (fun _ _ => True) fun i j => .int (Builtin.bitAnd i j)
section
variable {X : Cx} {W : WX} {a b : Expr} {sa sb : SemE} {pos : Pos}
theorem op_band : OpR X (binaryOp .BitAnd) (rI (fun _ _ => True) fun i j => .int (Builtin.bitAnd i j)) := by
  intro pins s σ H x y v u Q I rx ry h
  obtain ⟨i, j, h1, h2, _, q⟩ := h
  exact op_and pins s σ H x y v u Q I rx ry ⟨i, j, h1, h2, q⟩
theorem se_shr (ha : SE X W sa a) (hb : SE X W sb b) : SE X W (sBin oShr sa sb) (.BinOp a .RShift b pos) := se_bin op_shr (sn_I fun _ _ _ _ => rep_int) ha hb
theorem se_shl (ha : SE X W sa a) (hb : SE X W sb b) : SE X W (sBin oShl sa sb) (.BinOp a .LShift b pos) := se_bin op_shlW (sn_I fun _ _ _ _ => rep_int) ha hb
theorem se_band (ha : SE X W sa a) (hb : SE X W sb b) : SE X W (sBin oBand sa sb) (.BinOp a .BitAnd b pos) := se_bin op_band (sn_I fun _ _ _ _ => rep_int) ha hb
end
theorem oShr_i {i j : Int} {vh : VH} {kd : KD} : oShr (.int i) (.int j) vh kd = (0 ≤ j ∧ kd (.int (i / 2 ^ j.toNat)) vh) := rfl
theorem oShl_i {i j : Int} {vh : VH} {kd : KD} : oShl (.int i) (.int j) vh kd = (CShl i j ∧ kd (.int (i * 2 ^ j.toNat)) vh) := rfl
theorem oBand_i {i j : Int} {vh : VH} {kd : KD} : oBand (.int i) (.int j) vh kd = (True ∧ kd (.int (Builtin.bitAnd i j)) vh) := rfl
theorem band_one {i : Int} (h : 0 ≤ i) : Builtin.bitAnd i 1 = i % 2 := Bits.bitAnd_mask 1 h
/-! ### lists of numbers, as a dictionary has them -/
def ltL : List Int → List Int → Bool
  | [], [] => false
  | [], _ :: _ => true
  | _ :: _, [] => false
  | x :: xs, y :: ys => if x = y then ltL xs ys else decide (x < y)
theorem ltL_eq {x : Int} {xs ys : List Int} : ltL (x :: xs) (x :: ys) = ltL xs ys := if_pos rfl
theorem ltL_ne {x y : Int} {xs ys : List Int} (h : ¬ x = y) : ltL (x :: xs) (y :: ys) = decide (x < y) := if_neg h
theorem ltL_asym : ∀ {xs ys : List Int}, ltL xs ys = true → ltL ys xs = false
  | [], [], h => by cases h
  | [], _ :: _, _ => rfl
  | _ :: _, [], h => by cases h
  | x :: xs, y :: ys, h => by
    by_cases e : x = y
    · subst e
      rw [ltL_eq] at h ⊢
      exact ltL_asym h
    · rw [ltL_ne e, decide_eq_true_iff] at h
      rw [ltL_ne (Ne.symm e)]
      exact decide_eq_false (by omega)
theorem ltL_tr : ∀ {xs ys zs : List Int}, ltL ys xs = false → ltL zs ys = false → ltL zs xs = false
  | [], [], _, _, h => h
  | [], y :: ys, z :: zs, _, _ => rfl
  | [], y :: ys, [], _, h => by cases h
  | x :: xs, [], _, h, _ => by cases h
  | x :: xs, y :: ys, [], _, h => by cases h
  | x :: xs, y :: ys, z :: zs, h1, h2 => by
    by_cases e : y = x
    · subst e
      rw [ltL_eq] at h1
      by_cases f : z = y
      · subst f
        rw [ltL_eq] at h2 ⊢
        exact ltL_tr h1 h2
      · rw [ltL_ne f] at h2 ⊢
        exact h2
    · rw [ltL_ne e, decide_eq_false_iff_not] at h1
      by_cases f : z = y
      · subst f
        rw [ltL_ne e]
        exact decide_eq_false h1
      · rw [ltL_ne f, decide_eq_false_iff_not] at h2
        rw [ltL_ne (by omega)]
        exact decide_eq_false (by omega)
theorem ltL_tot : ∀ {xs ys : List Int}, ltL xs ys = false → ltL ys xs = false → xs = ys
  | [], [], _, _ => rfl
  | [], _ :: _, h, _ => by cases h
  | _ :: _, [], _, h => by cases h
  | x :: xs, y :: ys, h1, h2 => by
    by_cases e : x = y
    · subst e
      rw [ltL_eq] at h1 h2
      rw [ltL_tot h1 h2]
    · rw [ltL_ne e, decide_eq_false_iff_not] at h1
      rw [ltL_ne (Ne.symm e), decide_eq_false_iff_not] at h2
      omega
theorem swo_ltL {α : Type} (f : α → List Int) : SrtO.Swo fun x y => ltL (f x) (f y) := ⟨fun _ _ h => ltL_asym h, fun _ _ _ h1 h2 => ltL_tr h1 h2⟩
def LexS (ks : List (List Int)) : Prop := ks.Pairwise fun x y => ltL y x = false
/-- there is one list in order of the same lists -/
theorem lex_one : ∀ {l m : List (List Int)}, LexS l → LexS m → l.Perm m → l = m
  | [], m, _, _, h => (List.Perm.eq_nil h.symm).symm
  | x :: l, [], _, _, h => absurd h.length_eq (by simp)
  | x :: l, y :: m, hl, hm, h => by
    have hl := List.pairwise_cons.mp hl
    have hm := List.pairwise_cons.mp hm
    have e : x = y := by
      rcases List.mem_cons.mp (h.mem_iff.mp (List.mem_cons_self (a := x) (l := l))) with e | hx
      · exact e
      · rcases List.mem_cons.mp (h.mem_iff.mpr (List.mem_cons_self (a := y) (l := m))) with e | hy
        · exact e.symm
        · exact ltL_tot (hm.1 x hx) (hl.1 y hy)
    subst e
    rw [lex_one hl.2 hm.2 h.cons_inv]
/-! ### the sort -/
section
variable {prog : Program} {w : World} {A : Around} {E : Value → Shared → Prop} {s : Shared}
def ltF (fin : Bool) : List Int → List Int → Bool
  | x :: xs, y :: ys => if x = y then ltF fin xs ys else decide (x < y)
  | _, _ => fin
theorem ltF_ltL : ∀ {xs ys : List Int}, ltF (decide (xs.length < ys.length)) xs ys = ltL xs ys
  | [], [] => rfl
  | [], y :: ys => decide_eq_true (by simp)
  | x :: xs, [] => decide_eq_false (by simp)
  | x :: xs, y :: ys => by
    have e : decide ((x :: xs).length < (y :: ys).length) = decide (xs.length < ys.length) := decide_eq_decide.mpr (by simp)
    rw [e]
    show (if x = y then ltF _ xs ys else decide (x < y)) = if x = y then ltL xs ys else decide (x < y)
    rw [ltF_ltL]
theorem lexF_ints {b fin : Bool} {Q : Bool → Shared → Prop} {xs ys : List Value} {ns ms : List Int} (i : Nat) (hx : IntsAre xs ns) (hy : IntsAre ys ms) (h : Q (ltF fin ns ms) s) : PySem.W.KatLex prog w A b fin Q (xs.zip ys) i s := by
  induction hx generalizing ys ms i with
  | nil => exact PySem.W.kat_nil h
  | @cons p t xs ns hx ih =>
    cases hy with
    | nil => exact PySem.W.kat_nil h
    | @cons q u ys ms hy =>
      show PySem.W.KatLex prog w A b fin Q ((Value.int p t, Value.int q u) :: xs.zip ys) i s
      have h : Q (if p = q then ltF fin ns ms else decide (p < q)) s := h
      refine PySem.W.kat_cons (wpAny_eqBool_int ?_)
      by_cases e : p = q
      · subst e
        rw [if_pos rfl] at h
        rw [beq_self_eq_true]
        exact PySem.W.kat_yes (ih (i + 1) hy h)
      · rw [if_neg e] at h
        rw [show (p == q) = false from beq_eq_false_iff_ne.mpr e]
        exact PySem.W.kat_no (TS.oneLt_ints _ h)
theorem ints_len {us : List Value} {ns : List Int} (h : IntsAre us ns) : us.length = ns.length := by
  induction h with
  | nil => rfl
  | cons n t _ ih => rw [List.length_cons, List.length_cons, ih]
theorem tups_cmp {vs : List Value} {k : Value → List Int} (hp : ∀ v ∈ vs, TS.TupInts s.heap v (k v)) : SrtO.Cmp prog w A s (tuples' true) (fun p => p.1 ∈ vs) (SrtO.lt2 fun v u => ltL (k v) (k u)) := by
  intro p q hm hm'
  have h1 := hp _ hm
  have h2 := hp _ hm'
  show wpAny (model prog w) A (keyLt' (tuples' true) p.1 q.1) (fun r s' => s' = s ∧ r = ltL (k p.1) (k q.1)) (fun _ _ => False) s
  generalize k p.1 = x at h1 ⊢
  generalize k q.1 = y at h2 ⊢
  obtain ⟨a, xs, e, ⟨o, ho, hc, n, hd⟩, hi⟩ := h1
  obtain ⟨a', xs', e', ⟨o', ho', hc', n', hd'⟩, hi'⟩ := h2
  rw [e, e']
  refine PySem.W.kat_lt ho hd ho' hd' (lexF_ints 0 hi hi' ⟨rfl, ?_⟩)
  have l1 := ints_len hi
  have l2 := ints_len hi'
  rw [Array.length_toList] at l1 l2
  rw [l1, l2]
  exact ltF_ltL
theorem tups_firsts {h : Heap} {k : Value → List Int} : ∀ vs : List Value, (∀ v ∈ vs, TS.TupInts h v (k v) ∧ k v ≠ []) → ∃ fs, PySem.W.KatTups h vs fs ∧ fs.length = vs.length ∧ ∀ f, f ∈ fs → ∃ n t, f = Value.int n t
  | [], _ => ⟨[], PySem.W.KatTups.nil, rfl, fun f hf => nomatch hf⟩
  | v :: vs, x => by
    obtain ⟨fs, kt, hl, hi⟩ := tups_firsts vs fun u hu => x u (List.mem_cons_of_mem _ hu)
    obtain ⟨⟨a, xs, rfl, ⟨o, ho, hc, n, hd⟩, i⟩, hn⟩ := x v List.mem_cons_self
    generalize k (.ref a) = ns at i hn
    obtain ⟨L⟩ := xs
    cases i with
    | nil => exact absurd rfl hn
    | @cons m t ws ms r =>
      refine ⟨.int m t :: fs, PySem.W.KatTups.cons ho hc hd rfl kt, by rw [List.length_cons, List.length_cons, hl], fun f hf => ?_⟩
      rcases List.mem_cons.mp hf with rfl | hf
      · exact ⟨m, t, rfl⟩
      · exact hi f hf
theorem tups_sortable {a : Addr} {vs : List Value} {k : Value → List Int} (h0 : 0 < vs.length) (hp : ∀ v ∈ vs, TS.TupInts s.heap v (k v) ∧ k v ≠ []) (ha : ∀ o, s.heap.get? a = some o → o.cls ≠ .type "tuple") : SrtO.SortableO prog w A s a vs fun v u => ltL (k v) (k u) := by
  intro h' keep
  have hp' : ∀ v ∈ vs, TS.TupInts h' v (k v) := fun v hm => (hp v hm).1.keeps fun b o e c => keep b o (fun z => by subst z; exact ha o e c) e
  obtain ⟨fs, h1, h2, h3⟩ := tups_firsts vs fun v hm => ⟨hp' v hm, (hp v hm).2⟩
  refine ⟨tuples' true, fun Q E hq => ?_, tups_cmp hp'⟩
  exact PySem.W.kat_kind (T := .type "int") h1 (by rw [h2]; exact h0) (fun f hf => by
    obtain ⟨i, tk, rfl⟩ := h3 f hf
    exact .now) rfl (by rw [show (Value.type "int" != Value.type "tuple") = true from by decide +kernel]; exact hq)
end
def rSortT (K : PySem.W.Frag) : List V → Hp → VK → Prop := fun vs H Q => ∃ (a : Addr) (ps : List (V × List Int)), vs = [V.ref a] ∧ SqL K H a (ps.map (·.1)) ∧ (∀ p ∈ ps, ∃ t, p.1 = V.ref t ∧ p.2 ≠ [] ∧ SqT K H t (p.2.map V.int)) ∧
  ∀ (qs : List (V × List Int)) (l : Addr), qs.Perm ps → LexS (qs.map (·.2)) → H l = none → Q (.ref l) (upd H l (.lst (qs.map (·.1))))
theorem perm_lift {α β : Type} (f : α → β) : ∀ {l : List α} {m : List β}, m.Perm (l.map f) → ∃ l' : List α, l'.Perm l ∧ l'.map f = m := by
  intro l m h
  generalize hm : l.map f = n at h
  induction h generalizing l with
  | nil => exact ⟨[], by rw [List.map_eq_nil_iff.mp hm], rfl⟩
  | @cons x a b _ ih =>
    cases l with
    | nil => cases hm
    | cons y l =>
      obtain ⟨e1, e2⟩ := List.cons.inj hm
      obtain ⟨l', p, e⟩ := ih e2
      exact ⟨y :: l', p.cons y, by rw [List.map_cons, e, e1]⟩
  | swap x y a =>
    cases l with
    | nil => cases hm
    | cons z l =>
      cases l with
      | nil => cases hm
      | cons z' l =>
        obtain ⟨e1, e2⟩ := List.cons.inj hm
        obtain ⟨e3, e4⟩ := List.cons.inj e2
        exact ⟨z' :: z :: l, List.Perm.swap z z' l, by rw [List.map_cons, List.map_cons, e1, e3, e4]⟩
  | trans _ _ ih1 ih2 =>
    obtain ⟨l1, p1, e1⟩ := ih2 hm
    obtain ⟨l2, p2, e2⟩ := ih1 e1
    exact ⟨l2, p2.trans p1, e2⟩
section
variable {X : Cx}
theorem cr_sortT : CallR X (.builtin "sorted") (rSortT X.K) := by
  intro pins s σ H vs us Q I r h
  obtain ⟨a, ps, rfl, hs, hx, q⟩ := h
  obtain ⟨its, rv, hl, hz⟩ := I.list hs
  obtain ⟨u, rfl, ru⟩ := vals1 r
  obtain rfl : u = Value.ref a := ru
  have rb := refs_back rv fun x mx => by
    obtain ⟨p, hp, rfl⟩ := List.mem_map.mp mx
    exact ⟨_, (hx p hp).choose_spec.1⟩
  obtain ⟨e1, e2⟩ := rb
  have key : ∀ p ∈ ps, ∀ t, p.1 = V.ref t → TS.TupInts s.heap (.ref t) p.2 := fun p hp t e => by
    obtain ⟨t', e', _, ht⟩ := hx p hp
    rw [e] at e'
    cases e'
    obtain ⟨us, ru, tu, _⟩ := I.tuple ht
    exact ⟨t, _, rfl, tu, ru.ints⟩
  have all : ∀ v ∈ its, TS.TupInts s.heap v (TS.intsOf s.heap v) ∧ TS.intsOf s.heap v ≠ [] := fun v hv => by
    obtain ⟨t, rfl⟩ := e2 v hv
    have hm : V.ref t ∈ ps.map (·.1) := by rw [e1]; exact List.mem_map.mpr ⟨_, hv, rfl⟩
    obtain ⟨p, hp, ep⟩ := List.mem_map.mp hm
    have kt := key p hp t ep
    rw [kt.ints]
    exact ⟨kt, (hx p hp).choose_spec.2.1⟩
  have epair : ps = its.map fun u => (backV u, TS.intsOf s.heap u) := by
    have : ps.map (fun p => (p.1, match p.1 with | .ref t => TS.intsOf s.heap (.ref t) | _ => [])) = ps := by
      conv => rhs; rw [← List.map_id ps]
      refine List.map_congr_left fun p hp => ?_
      obtain ⟨t, e, _⟩ := hx p hp
      have kt := (key p hp t e).ints
      obtain ⟨p1, p2⟩ := p
      cases e
      show (V.ref t, TS.intsOf s.heap (.ref t)) = (V.ref t, p2)
      rw [kt]
    have e3 : ps.map (fun p => (p.1, match p.1 with | .ref t => TS.intsOf s.heap (.ref t) | _ => [])) = (ps.map (·.1)).map fun v => (v, match v with | .ref t => TS.intsOf s.heap (.ref t) | _ => []) := by
      rw [List.map_map]
      rfl
    rw [e1, List.map_map] at e3
    rw [← this, e3]
    refine List.map_congr_left fun u hu => ?_
    obtain ⟨t, rfl⟩ := e2 u hu
    rfl
  refine SrtO.sorted_ord (swo_ltL (TS.intsOf s.heap)) hl.isList (by rw [← rv.length]; exact hz) (fun h2 h₁ a1 ha kk => ?_) fun out h1 h2 => ?_
  · refine tups_sortable (s := { s with heap := h₁ }) (by omega) (fun v hm => ⟨(all v hm).1.keeps fun b o e _ => (kk b o e).2, (all v hm).2⟩) fun o e => ?_
    have e' : some o = some (seqObj "list" its.toArray 0) := e.symm.trans ha
    cases e'
    intro c
    have c := Value.type.inj c
    exact absurd c (by decide)
  · have isr : ∀ z ∈ out, ∃ b, z = Value.ref b := fun z hz2 => e2 z (h2.perm.mem_iff.mp hz2)
    obtain ⟨n, hn⟩ := PyProof.Rows.sortedAll_at s.heap its out.toArray
    have hp : (out.map fun u => (backV u, TS.intsOf s.heap u)).Perm ps := by
      rw [epair]
      exact h2.perm.map _
    have eo : (out.map fun u => (backV u, TS.intsOf s.heap u)).map (·.1) = out.map backV := by
      rw [List.map_map]
      rfl
    have q := q _ (s.heap.objs.size + 1) hp (by
      rw [List.map_map]
      exact List.pairwise_map.mpr h1) (I.hok.fresh (Nat.le_succ _))
    rw [eo] at q
    refine ⟨.ref (s.heap.objs.size + 1), upd H (s.heap.objs.size + 1) (.lst (out.map backV)), I.laid (t' := s.toks) (fun b o e => PyProof.Rows.sortedAll_old e) (Nat.le_succ _) ⟨?_, out, n, vals_back isr, hn⟩, rfl, q⟩
    rw [List.length_map, h2.perm.length_eq, ← rv.length]
    exact hz
end
def tupI (ns : List Int) : D := .tup (ns.map D.int)
def oSortT (cell : Bool) : SOL := fun ds vh kd => match ds with
  | [d] => ∃ ks : List (List Int), lview vh d = some (ks.map tupI) ∧ (∀ ns ∈ ks, ns ≠ []) ∧ ∀ ks', ks'.Perm ks → LexS ks' → newL cell (ks'.map tupI) vh kd
  | _ => False
def oSortM (cell : Bool) : SOL := fun ds vh kd => oSorted cell ds vh kd ∨ oSortT cell ds vh kd
section
variable {X : Cx} {W : WX} {e : Expr} {sl : SemA} {p pos : Pos}
theorem reps_tups {m : Map} {H : Hp} : ∀ {ks : List (List Int)} {xs : List V}, Reps X.K m H (ks.map tupI) xs → ∃ ps : List (V × List Int), ps.map (·.1) = xs ∧ ps.map (·.2) = ks ∧ ∀ p ∈ ps, Rep X.K m H (tupI p.2) p.1
  | [], xs, r => by
    simp only [List.map_nil, Reps] at r
    exact ⟨[], r.symm, rfl, fun _ z => nomatch z⟩
  | k :: ks, xs, r => by
    simp only [List.map_cons, Reps] at r
    obtain ⟨v, vs, rfl, r1, r2⟩ := r
    obtain ⟨ps, h1, h2, h3⟩ := reps_tups r2
    refine ⟨(v, k) :: ps, by rw [List.map_cons, h1], by rw [List.map_cons, h2], fun p hp => ?_⟩
    rcases List.mem_cons.mp hp with rfl | hp
    · exact r1
    · exact h3 p hp
theorem reps_back {m : Map} {H : Hp} : ∀ {ps : List (V × List Int)}, (∀ p ∈ ps, Rep X.K m H (tupI p.2) p.1) → Reps X.K m H ((ps.map (·.2)).map tupI) (ps.map (·.1))
  | [], _ => Reps.nil
  | p :: ps, h => Reps.cons (h p List.mem_cons_self) (reps_back fun q hq => h q (List.mem_cons_of_mem _ hq))
theorem sn_sortT (cell : Bool) : SnL X.K (oSortT cell) (rSortT X.K) := by
  intro m H vh ds vs kd Q hr r h ho
  cases ds with
  | nil => exact h.elim
  | cons d ds =>
    cases ds with
    | cons _ _ => exact h.elim
    | nil =>
      obtain ⟨v, rfl, r1⟩ := reps1 r
      obtain ⟨ks, e, hne, k⟩ := h
      obtain ⟨a, xs, rfl, q, rs⟩ := lview_rep hr r1 e
      obtain ⟨ps, rfl, rfl, h3⟩ := reps_tups (X := X) rs
      refine ⟨a, ps, rfl, .of q, fun p hp => ?_, fun qs l hp hs hl => ?_⟩
      · have r := h3 p hp
        unfold tupI at r
        simp only [Rep] at r
        obtain ⟨t, us, e, st, ru⟩ := r
        have eu := Reps.ints.mp ru
        subst eu
        exact ⟨t, e, hne _ (List.mem_map_of_mem hp), st⟩
      · exact out_lst (cell := cell) hr (reps_back (X := X) fun p hq => h3 p (hp.mem_iff.mp hq)) (k _ (hp.map _) hs) ho hl
theorem cr_sortM : CallR X (.builtin "sorted") (fun vs H Q => rSorted X.K vs H Q ∨ rSortT X.K vs H Q) := fun pins s σ H xs us Q I r h => h.elim (fun h => cr_sorted pins s σ H xs us Q I r h) fun h => cr_sortT pins s σ H xs us Q I r h
theorem sn_sortM (cell : Bool) : SnL X.K (oSortM cell) (fun vs H Q => rSorted X.K vs H Q ∨ rSortT X.K vs H Q) := fun m H vh ds vs kd Q hr r h ho => h.elim (fun h => .inl (sn_sorted cell m H vh ds vs kd Q hr r h ho)) fun h => .inr (sn_sortT cell m H vh ds vs kd Q hr r h ho)
theorem se_sortM (cell : Bool) (hg : Gl X "sorted") (hm : X.mg "sorted" = none) (ha : SA X W sl [e]) (he : starEach [e] X.env = (false, eval e X.env) :: starEach [] X.env := by rfl) : SE X W (sCallB (oSortM cell) sl) (.Call (.Name "sorted" p) [e] [] pos) := se_callB cr_sortM (sn_sortM cell) hg hm boot_sorted ha (by decide) (by decide) he
end
end VI

end
section
/-! VI38: t < u of tuples of numbers. -/
namespace VI
open PySem PySem.Spec L2
open PyProof.Rows hiding St
def oLtT : SO2 := fun a b vh kd => ∃ ns ms : List Int, a = tupI ns ∧ b = tupI ms ∧ kd (.bl (ltL ns ms)) vh
def oLtM : SO2 := fun a b vh kd => oLt a b vh kd ∨ oLtT a b vh kd
theorem lexLt_ltL : ∀ {xs ys : List Int}, HT.lexLt xs ys = ltL xs ys
  | [], [] => rfl
  | [], _ :: _ => rfl
  | _ :: _, [] => rfl
  | x :: xs, y :: ys => by
    rw [HT.lexLt_cons, lexLt_ltL]
    rfl
section
variable {X : Cx} {W : WX} {a b : Expr} {sa sb : SemE} {pos : Pos}
theorem rep_tupI {m : Map} {H : Hp} {ns : List Int} {v : V} (r : Rep X.K m H (tupI ns) v) : ∃ t, v = .ref t ∧ SqT X.K H t (ns.map V.int) := by
  unfold tupI at r
  simp only [Rep] at r
  obtain ⟨t, us, e, st, ru⟩ := r
  have eu := Reps.ints.mp ru
  subst eu
  exact ⟨t, e, st⟩
theorem sn_ltT : Sn2 X.K oLtT (rLtT X.K) := by
  rintro m H vh d1 d2 v1 v2 kd Q hr r1 r2 ⟨ns, ms, rfl, rfl, k⟩ ho
  obtain ⟨a, ea, sa⟩ := rep_tupI r1
  obtain ⟨b, eb, sb⟩ := rep_tupI r2
  refine ⟨a, b, ns, ms, ea, eb, sa, sb, ?_⟩
  rw [lexLt_ltL]
  exact ho m vh H (.bl (ltL ns ms)) _ (Step.refl _ _) hr rep_bl k
theorem cs_ltM (hu : X.A.units + 64 < cLine) : CmpS X .Lt oLtM := ⟨_, op_lt.or (op_ltT (by omega)), fun m H vh d1 d2 v1 v2 kd Q hr r1 r2 h ho => h.elim (fun h => .inl (sn_I0 (fun _ _ _ _ => rep_bl) m H vh d1 d2 v1 v2 kd Q hr r1 r2 h ho)) fun h => .inr (sn_ltT m H vh d1 d2 v1 v2 kd Q hr r1 r2 h ho)⟩
end
end VI

end
section
/-! VI39: range(n) as a value (a cell of its own); sorted(xs, reverse=True) of numbers. -/
namespace VI
open PySem PySem.Spec L2
open PyProof.Rows hiding St
def oMkR : SOL := fun ds vh kd => match ds with
  | [.int j] => kd (.ref vh.length) (vh ++ [.rng 0 j])
  | _ => False
def oSortDn (cell : Bool) : List D → List D → VH → KD → Prop := fun ds zs vh kd => match ds, zs with
  | [d], [.bl true] => ∃ ns : List Int, lview vh d = some (ns.map D.int) ∧ ∀ ms : List Int, ms.Perm ns → ms.Pairwise (· ≥ ·) → newL cell (ms.map D.int) vh kd
  | _, _ => False
def sSortDn (cell : Bool) (t tk : SemA) : SemE := fun env vh kx kd => t env vh kx fun ds vh' => tk env vh' kx fun zs vh'' => oSortDn cell ds zs vh'' kd
section
variable {X : Cx} {W : WX} {e : Expr} {sl sk : SemA} {p pos : Pos}
theorem cr_range1 : CallR X (.type "range") (fun vs H Q => ∃ j, vs = [V.int j] ∧ ∀ p, H p = none → Q (.ref p) (upd H p (.rng 0 j))) := by
  intro pins s σ H vs us Q I r h
  obtain ⟨j, rfl, q⟩ := h
  obtain ⟨u1, rfl, rj⟩ := vals1 r
  obtain ⟨t, rfl⟩ := rj
  refine call_range_1 ⟨.ref s.heap.objs.size, upd H s.heap.objs.size (.rng 0 j), I.laid (t' := s.toks + 1 + 1) (fun b o e => Heap.get?_push_of_some _ e) (Nat.le_refl _) ?_, rfl, q _ (I.hok.fresh (Nat.le_refl _))⟩
  exact ⟨s.toks, t, s.toks + 1, Heap.get?_push_size _ rfl⟩
theorem sn_mkR : SnL X.K oMkR (fun vs H Q => ∃ j, vs = [V.int j] ∧ ∀ p, H p = none → Q (.ref p) (upd H p (.rng 0 j))) := by
  intro m H vh ds vs kd Q hr r h ho
  cases ds with
  | nil => exact h.elim
  | cons d ds =>
    cases ds with
    | cons _ _ => cases d <;> exact h.elim
    | nil =>
      obtain ⟨v, rfl, r1⟩ := reps1 r
      cases d with
      | int j =>
        have r1 : v = .int j := r1
        subst r1
        refine ⟨j, rfl, fun p hp => ?_⟩
        have st := push_step (o := .rng 0 j) hr hp
        refine ho (m.push vh.length p) _ _ (.ref vh.length) _ st (hr.push (c := .rng 0 j) hp upd_same) ?_ h
        simp only [Rep]
        exact ⟨p, rfl, if_pos rfl⟩
      | _ => exact h.elim
theorem se_mkR (hg : Gl X "range") (hm : X.mg "range" = none) (ha : SA X W sl [e]) (he : starEach [e] X.env = (false, eval e X.env) :: starEach [] X.env := by rfl) : SE X W (sCallB oMkR sl) (.Call (.Name "range" p) [e] [] pos) := se_callTy cr_range1 sn_mkR hg hm boot_range ha (by decide) (by decide) he
theorem se_sortDn (cell : Bool) {kpos : Pos} {ke : Expr} (hg : Gl X "sorted") (hm : X.mg "sorted" = none) (ha : SA X W sl [e]) (hk : SK X W sk [⟨some "reverse", ke, kpos⟩])
    (he : starEach [e] X.env = (false, eval e X.env) :: starEach [] X.env := by rfl) : SE X W (sSortDn cell sl sk) (.Call (.Name "sorted" p) [e] [⟨some "reverse", ke, kpos⟩] pos) := by
  refine peImp (pe_callBK (ks := [Str.ofString "reverse"]) (cr_sortedRev (b := true)) hg hm boot_sorted ha hk (he := by rw [he]; rfl) (hpl := by rw [he]; rfl)) fun σ H Q ⟨m, env, vh, kx, kd, hr, er, h, ho, ox⟩ => ?_
  refine tA.go hr er ox h fun m1 vh1 H1 ds vs s1 hr1 er1 ox1 r1 k1 => ?_
  refine tA.go hr1 er1 ox1 k1 fun m2 vh2 H2 zs ws s2 hr2 er2 ox2 r2 k2 => ?_
  have rd := Reps.step hr1 s2 _ _ r1
  cases ds with
  | nil => exact k2.elim
  | cons d ds =>
    cases ds with
    | cons _ _ => exact k2.elim
    | nil =>
      cases zs with
      | nil => exact k2.elim
      | cons z zs =>
        cases zs with
        | cons _ _ => cases z <;> first | exact k2.elim | (rename_i b; cases b <;> exact k2.elim)
        | nil =>
          cases z with
          | bl b =>
            cases b with
            | false => exact k2.elim
            | true =>
              obtain ⟨v, rfl, rv⟩ := reps1 rd
              obtain ⟨w, rfl, rw'⟩ := reps1 r2
              have rw' : w = .bl true := rw'
              subst rw'
              obtain ⟨ns, e, k⟩ := k2
              obtain ⟨a, xs, rfl, q, rs⟩ := lview_rep hr2 rv e
              have eu := Reps.ints.mp rs
              subst eu
              refine ⟨a, ns, rfl, rfl, .of q, fun ms p hp ho2 hn => ?_⟩
              exact out_lst (cell := cell) hr2 (Reps.ints.mpr rfl) (k ms hp ho2) (ho.step (s1.trans s2)) hn
          | _ => exact k2.elim
end
end VI

end
section
/-! VI40: str(i) of a number. -/
namespace VI
open PySem PySem.Spec L2
open PyProof.Rows hiding St
def oStrC : SOL := fun ds vh kd => match ds with
  | [.int i] => i.natAbs.log2 < 1920 ∧ kd (.str (toString i)) vh
  | _ => False
section
variable {X : Cx} {W : WX} {e : Expr} {sl : SemA} {p pos : Pos}
theorem sn_strC : SnL X.K oStrC (fun xs H Q => ∃ i, xs = [.int i] ∧ i.natAbs.log2 < 1920 ∧ Q (.str (toString i)) H) := by
  intro m H vh ds vs kd Q hr r h ho
  cases ds with
  | nil => exact h.elim
  | cons d ds =>
    cases ds with
    | cons _ _ => cases d <;> exact h.elim
    | nil =>
      obtain ⟨v, rfl, r1⟩ := reps1 r
      cases d with
      | int j =>
        have r1 : v = .int j := r1
        subst r1
        exact ⟨j, rfl, h.1, ho m vh H (.str (toString j)) _ (Step.refl _ _) hr rfl h.2⟩
      | _ => exact h.elim
theorem se_strC (hg : Gl X "str") (hm : X.mg "str" = none) (ha : SA X W sl [e]) (he : starEach [e] X.env = (false, eval e X.env) :: starEach [] X.env := by rfl) : SE X W (sCallB oStrC sl) (.Call (.Name "str" p) [e] [] pos) := se_callTy call_str_int sn_strC hg hm (by decide +kernel) ha (by decide) (by decide) he
end
end VI

end
section
/-! VI41: min of a list of tuples of numbers. -/
namespace VI
open PySem PySem.Spec L2
open PyProof.Rows hiding St
theorem best_le {f : Nat → List Int} : ∀ k, argBest (fun i j => ltL (f i) (f j)) k ≤ k ∧ ∀ i, i ≤ k → ltL (f i) (f (argBest (fun i j => ltL (f i) (f j)) k)) = false
  | 0 => ⟨Nat.le_refl _, fun i hi => by
    have e : i = 0 := by omega
    subst e
    show ltL (f 0) (f 0) = false
    cases q : ltL (f 0) (f 0) with
    | false => rfl
    | true => rw [ltL_asym q] at q; exact q.symm⟩
  | k + 1 => by
    obtain ⟨h1, h2⟩ := best_le (f := f) k
    by_cases c : ltL (f (k + 1)) (f (argBest (fun i j => ltL (f i) (f j)) k)) = true
    · have ea : argBest (fun i j => ltL (f i) (f j)) (k + 1) = k + 1 := if_pos c
      rw [ea]
      refine ⟨Nat.le_refl _, fun i hi => ?_⟩
      by_cases d : i = k + 1
      · subst d
        cases q : ltL (f (k + 1)) (f (k + 1)) with
        | false => rfl
        | true => rw [ltL_asym q] at q; exact q.symm
      · exact ltL_tr (ltL_asym c) (h2 i (by omega))
    · have ea : argBest (fun i j => ltL (f i) (f j)) (k + 1) = argBest (fun i j => ltL (f i) (f j)) k := if_neg c
      rw [ea]
      refine ⟨by omega, fun i hi => ?_⟩
      by_cases d : i = k + 1
      · subst d
        exact Bool.eq_false_iff.mpr c
      · exact h2 i (by omega)
def rMinT (K : PySem.W.Frag) : List V → Hp → VK → Prop := fun vs H Q => ∃ (a : Addr) (ps : List (V × List Int)), vs = [V.ref a] ∧ SqL K H a (ps.map (·.1)) ∧ 0 < ps.length ∧ (∀ p ∈ ps, ∃ t, p.1 = V.ref t ∧ SqT K H t (p.2.map V.int)) ∧
  ∀ p ∈ ps, (∀ q ∈ ps, ltL q.2 p.2 = false) → Q p.1 H
def oMinT : SOL := fun ds vh kd => match ds with
  | [d] => ∃ ks : List (List Int), lview vh d = some (ks.map tupI) ∧ 0 < ks.length ∧ ∀ k ∈ ks, (∀ q ∈ ks, ltL q k = false) → kd (tupI k) vh
  | _ => False
section
variable {X : Cx} {W : WX} {e : Expr} {sl : SemA} {p pos : Pos}
theorem cr_minT (hc : X.calm = true) (hu : X.A.units + 64 < cLine) : CallR X (.builtin "min") (rMinT X.K) := by
  intro pins s σ H vs us Q I r h
  obtain ⟨a, ps, rfl, hs, h0, hx, q⟩ := h
  obtain rfl := Vals.ref1 r
  obtain ⟨its, rv, hl, hz⟩ := I.list hs
  have hlen : its.length = ps.length := by rw [← rv.length, List.length_map]
  have key : ∀ (i : Nat) (v : Value), its.toArray[i]? = some v → ∃ p ∈ ps, ps[i]? = some p ∧ ∃ t items, v = .ref t ∧ p.1 = V.ref t ∧ IsTup s.heap t items ∧ IntsAre items.toList p.2 := fun i v hv => by
    rw [List.getElem?_toArray] at hv
    have il : i < ps.length := by have := (List.getElem?_eq_some_iff.mp hv).1; omega
    have hp := List.getElem?_eq_getElem il
    generalize ps[i] = p at hp
    obtain ⟨u, hu1, hu2⟩ := rv.get (i := i) (x := p.1) (by rw [List.getElem?_map, hp]; rfl)
    rw [hv] at hu1
    cases hu1
    obtain ⟨t, et, st⟩ := hx p (List.mem_of_getElem? hp)
    rw [et] at hu2
    have hu2 : v = Value.ref t := hu2
    obtain ⟨itp, r1, p1, _⟩ := I.tuple st
    exact ⟨p, List.mem_of_getElem? hp, hp, t, itp.toArray, hu2, et, p1, intsAre_of r1⟩
  let f : Nat → List Int := fun i => (ps.map (·.2)).getD i []
  have fp : ∀ i p, ps[i]? = some p → f i = p.2 := fun i p hp => by
    show (ps.map (·.2)).getD i [] = p.2
    rw [List.getD_eq_getElem?_getD, List.getElem?_map, hp]
    rfl
  refine call_min_walkH (PySem.W.iter_listW (A := X.A.in1) (I.ok.hd hc) hl.isList fun s₂ e W st hfp hw hk => ?_)
  refine ⟨_, _, _, _, _, _, _, s.heap, fun i j => ltL (f i) (f j), rfl, W, st, hfp, by rw [List.size_toArray]; omega, hw, hk, ?_, fun v s' hP m => ?_⟩
  · intro i j vi vj s' Q' E' hk' hi hj hq
    obtain ⟨pi, _, gi, ti, ii, rfl, _, ⟨oi, hoi, resti⟩, ini⟩ := key i vi hi
    obtain ⟨pj, _, gj, tj, ij, rfl, _, ⟨oj, hoj, restj⟩, inj⟩ := key j vj hj
    have hq : Q' (Value.bool (ltL (f i) (f j))) s' := hq
    rw [fp i pi gi, fp j pj gj] at hq
    refine HT.lt_tupInts (items := ii) (items2 := ij) ⟨oi, hk' _ _ hoi, resti⟩ ⟨oj, hk' _ _ hoj, restj⟩ ini inj (by show X.A.units + 1 < cLine; omega) ?_
    rw [lexLt_ltL]
    exact hq
  · obtain ⟨h', tk, rfl, hk'⟩ := PySem.W.moved_old e rfl m
    obtain ⟨b1, b2⟩ := best_le (f := f) (its.toArray.size - 1)
    obtain ⟨p, pm, gp, t, items, rfl, et, _, _⟩ := key _ v hP
    refine ⟨.ref t, H, I.kept (t' := tk) hk', rfl, ?_⟩
    rw [← et]
    refine q p pm fun q' hq' => ?_
    obtain ⟨j, hj⟩ := List.mem_iff_getElem?.mp hq'
    have jl := (List.getElem?_eq_some_iff.mp hj).1
    have := b2 j (by rw [List.size_toArray]; omega)
    rw [fp _ _ gp, fp _ _ hj] at this
    exact this
theorem sn_minT : SnL X.K oMinT (rMinT X.K) := by
  intro m H vh ds vs kd Q hr r h ho
  cases ds with
  | nil => exact h.elim
  | cons d ds =>
    cases ds with
    | cons _ _ => exact h.elim
    | nil =>
      obtain ⟨v, rfl, r1⟩ := reps1 r
      obtain ⟨ks, e, h0, k⟩ := h
      obtain ⟨a, xs, rfl, q, rs⟩ := lview_rep hr r1 e
      obtain ⟨ps, rfl, rfl, h3⟩ := reps_tups (X := X) rs
      refine ⟨a, ps, rfl, .of q, by rw [List.length_map] at h0; exact h0, fun p hp => rep_tupI (h3 p hp), fun p hp hm => ?_⟩
      refine ho m vh H (tupI p.2) _ (Step.refl _ _) hr (h3 p hp) (k p.2 (List.mem_map_of_mem hp) fun q hq => ?_)
      obtain ⟨q', hq', rfl⟩ := List.mem_map.mp hq
      exact hm q' hq'
theorem se_minT (hc : X.calm = true) (hu : X.A.units + 64 < cLine) (hg : Gl X "min") (hm : X.mg "min" = none) (ha : SA X W sl [e]) (he : starEach [e] X.env = (false, eval e X.env) :: starEach [] X.env := by rfl) : SE X W (sCallB oMinT sl) (.Call (.Name "min" p) [e] [] pos) := se_callB (cr_minT hc hu) sn_minT hg hm (by decide +kernel) ha (by decide) (by decide) he
end
end VI

end
section
/-! VI42: t[::-1] of a tuple. -/
namespace HT
open PySem PyProof.Rows
section
variable {prog : Program} {w : World} {A : Around} {E : Value → Shared → Prop} {s : Shared}
theorem adjust_rev (n : Nat) : Builtin.Slice.sliceAdjust none none (-1) (n : Int) = ((n : Int) - 1, -1) := by
  unfold Builtin.Slice.sliceAdjust
  have h1 : ((-1 : Int) < 0) := by omega
  simp only [h1, if_true]
theorem places_rev (n : Nat) : Builtin.Slice.slicePlaces ((n : Int) - 1) (-1) (-1) = n := by
  unfold Builtin.Slice.slicePlaces
  have h1 : ¬ ((-1 : Int) > 0) := by omega
  simp only [h1, if_false]
  by_cases c : n = 0
  · subst c
    decide
  · rw [if_pos (show ((n : Int) - 1 > -1) by omega)]
    have : (((n : Int) - 1 - -1 - 1) / (- -1) + 1) = n := by
      rw [show (- -1 : Int) = 1 by decide, Int.ediv_one]
      omega
    rw [this, Int.toNat_natCast]
theorem sliceApplied_rev {sl : Addr} {vl vu vs : Value} {n : Nat} {Q : Int × Int × Nat → Shared → Prop} (hs : s.heap.IsSliceOf sl vl vu vs) (pl : IsPart vl none) (pu : IsPart vu none) (ps : IsPart vs (some (-1)))
    (h : Q ((n : Int) - 1, -1, n) s) : wpAny (model prog w) A (Builtin.Slice.sliceApplied (.ref sl) (pure (n : Int))) Q E s := by
  obtain ⟨os, hos, hcs, hds⟩ := id hs
  unfold Builtin.Slice.sliceApplied Builtin.Slice.sliceFields
  refine wpAny_bind (wpAny_bind (wpAny_field hos hds (x := vl) rfl (wpAny_bind (wpAny_field hos hds (x := vu) rfl (wpAny_bind (wpAny_field hos hds (x := vs) rfl (wpAny_pure ?_)))))))
  refine wpAny_bind (slicePart_ ps ?_)
  show wpAny _ _ (if ((-1 : Int) == 0) = true then _ else _) _ _ s
  rw [if_neg (by decide)]
  refine wpAny_bind (slicePart_ pl (wpAny_bind (slicePart_ pu (wpAny_bind (wpAny_pure ?_)))))
  show wpAny _ _ (match Builtin.Slice.sliceAdjust none none (-1) (n : Int) with | (lo, hi) => pure (lo, (-1 : Int), Builtin.Slice.slicePlaces lo hi (-1))) _ _ s
  rw [adjust_rev n]
  show wpAny _ _ (pure ((n : Int) - 1, (-1 : Int), Builtin.Slice.slicePlaces ((n : Int) - 1) (-1) (-1))) _ _ s
  rw [places_rev]
  exact wpAny_pure h
theorem filt_some {α β : Type} {f : α → Option β} {g : α → β} : ∀ {l : List α}, (∀ m ∈ l, f m = some (g m)) → l.filterMap f = l.map g
  | [], _ => rfl
  | a :: l, h => by
    rw [List.filterMap_cons_some (h a List.mem_cons_self), filt_some fun m hm => h m (List.mem_cons_of_mem _ hm), List.map_cons]
theorem pick_rev (xs : Array Value) : ((List.range xs.size).filterMap fun (m : Nat) => xs[(((xs.size : Int) - 1) + (m : Int) * (-1)).toNat]?).toArray = xs.toList.reverse.toArray := by
  congr 1
  have e : (List.range xs.size).filterMap (fun (m : Nat) => xs[(((xs.size : Int) - 1) + (m : Int) * (-1)).toNat]?) = (List.range xs.size).map fun m => xs.toList.reverse.getD m default := by
    refine filt_some fun m hm => ?_
    have hm := List.mem_range.mp hm
    have e1 : (((xs.size : Int) - 1) + (m : Int) * (-1)).toNat = xs.size - 1 - m := by omega
    rw [e1]
    have l : xs.toList.reverse[m]? = xs[xs.size - 1 - m]? := by
      rw [List.getElem?_reverse (by simpa using hm)]
      simp
    rw [← l, List.getD_eq_getElem?_getD]
    have : m < xs.toList.reverse.length := by simpa using hm
    rw [List.getElem?_eq_getElem this]
    rfl
  rw [e]
  apply List.ext_getElem?
  intro i
  rw [List.getElem?_map]
  by_cases c : i < xs.size
  · have : i < xs.toList.reverse.length := by simpa using c
    rw [List.getElem?_range c, List.getElem?_eq_getElem this]
    show some (xs.toList.reverse.getD i default) = _
    rw [List.getD_eq_getElem?_getD, List.getElem?_eq_getElem this]
    rfl
  · rw [List.getElem?_eq_none (by simpa using c), List.getElem?_eq_none (by simpa using c)]
    rfl
theorem getItem_tuple_rev {t sl : Addr} {items : Array Value} {vl vu vs : Value} {Q : Value → Shared → Prop} (ht : IsTup s.heap t items) (hs : s.heap.IsSliceOf sl vl vu vs) (pl : IsPart vl none) (pu : IsPart vu none) (ps : IsPart vs (some (-1)))
    (h : Q (.ref s.heap.objs.size) { s with heap := s.heap.push { cls := .type "tuple", data := .seq items.toList.reverse.toArray } })
    (hsz : items.size ≤ sizeLine) : wpAny (model prog w) A (getItem (.ref t) (.ref sl)) Q E s := by
  have htake : sizeOk (.seq items.toList.reverse.toArray) := by
    show items.toList.reverse.toArray.size ≤ sizeLine
    rw [List.size_toArray, List.length_reverse, Array.length_toList]
    exact hsz
  obtain ⟨os, hos, hcs, hds⟩ := id hs
  have hTs : s.TypeIs (.ref sl) "slice" := ⟨os, hos, hcs⟩
  unfold getItem
  try with_reducible refine wpAny_holding ?_
  first | refine wpAny_bind (wpAny_pure ?_) | skip
  refine wpAny_bind (wpAny_sequenceKey ht.typeIs (by decide) ?_)
  refine wpAny_bind (wpAny_callSpecial?_slot (name := Str.ofString "__getitem__") ht.typeIs PyProof.Rows.slot_tuple_getitem
    (wpAny_call_entry PyProof.Rows.slot_tuple_getitem ht.typeIs entry_tuple_getitem ?_ (args_tuple_getitem _ _)))
  show wpAny _ _ (Builtin.Tuple.tupleItemsOf (.ref t) >>= _) _ _ s
  refine wpAny_bind (tupleItemsOf_ ht ?_)
  refine wpAny_bind (wpAny_typeOf hTs ?_)
  rw [if_pos (by decide)]
  refine wpAny_bind (sliceApplied_rev hs pl pu ps ?_)
  have hno : ¬ ((((items.size : Int) - 1) == 0 && (-1 : Int) == 1 && items.size == items.size) = true) := by
    intro q
    rw [Bool.and_eq_true, Bool.and_eq_true] at q
    exact absurd q.1.2 (by decide)
  show wpAny _ _ (if (((items.size : Int) - 1) == 0 && (-1 : Int) == 1 && items.size == items.size) = true then _ else _) _ _ s
  rw [if_neg hno, pick_rev]
  first
    | exact wpAny_bind (m := Builtin.Tuple.tupleExact _) (wpAny_newObj_type (wpAny_pure ⟨_, rfl, wpAny_pure h⟩) htake)
    | exact wpAny_bind (m := Builtin.Tuple.tupleExact _) (wpAny_newObj_type (wpAny_bind (wpAny_pure (wpAny_pure ⟨_, rfl, wpAny_pure h⟩))) htake)
    | exact wpAny_bind (wpAny_bind (m := Builtin.Tuple.tupleExact _) (wpAny_newObj_type (wpAny_pure (wpAny_pure ⟨_, rfl, wpAny_pure h⟩)) htake))
    | exact wpAny_bind (wpAny_bind (m := Builtin.Tuple.tupleExact _) (wpAny_newObj_type (wpAny_pure ⟨_, rfl, wpAny_pure h⟩) htake))
end
end HT
namespace L2
open PySem PySem.Spec PyProof.Rows
section
variable {X : Cx} {e : Expr} {te : TE} {st : Expr} {ts : TO} {pos p2 : Pos}
def tRevT (K : PySem.W.Frag) (te : TE) (ts : TO) : TE := fun σ H Q => te σ H fun x H1 => ts σ H1 fun o H2 => o = some (-1) ∧ ∃ a xs, x = .ref a ∧ SqT K H2 a xs ∧ ∀ p, H2 p = none → Q (.ref p) (upd H2 p (.tup xs.reverse))
theorem Vals.rev : ∀ {xs : List V} {us : List Value}, Vals xs us → Vals xs.reverse us.reverse := by
  intro xs us r
  induction r with
  | nil => exact .nil
  | cons h r ih =>
    rw [List.reverse_cons, List.reverse_cons]
    exact ih.append (.cons h .nil)
theorem pe_revT (he : PE X e te) (hs : PO X (some st) ts) : PE X (.Subscript e (.Slice none none (some st) p2) pos) (tRevT X.K te ts) := by
  refine ⟨fun pins s σ H Q I h => ?_⟩
  refine Subscript_ (thn (he.run pins s σ H _ I h) fun v s1 ⟨x, H1, I1, r1, q1⟩ => ?_)
  refine wpAny_Slice ?_
  rw [evalPart_none]
  refine wpAny_pure ?_
  refine wpAny_pure ?_
  refine thn (hs.run pins s1 σ H1 _ I1 q1) fun vs s3 ⟨o, H3, I3, ps, eo, a, xs, ex, hx, q3⟩ => ?_
  subst eo
  subst ex
  cases r1
  have I4 : Inv X pins σ H3 { s3 with heap := s3.heap.push { cls := .type "slice", data := .fields #[.none, .none, vs] } } := I3.kept (t' := s3.toks) fun b ob q => Heap.get?_push_of_some _ q
  obtain ⟨its, r, ht, hz⟩ := I4.tuple hx
  show wpAny (model X.prog X.w) X.A (subscriptTail e (.Slice none none (some st) p2) (.ref a) (.ref s3.heap.objs.size)) (EP X pins σ Q) X.xe { s3 with heap := s3.heap.push { cls := .type "slice", data := .fields #[.none, .none, vs] } }
  refine tail_any (ops := [.ref a, .ref s3.heap.objs.size]) ht.typeIs PyProof.Rows.slot_tuple_getitem.lookup ?_ (by with_unfolding_all rfl)
  have hlen : its.toArray.size = xs.length := by rw [List.size_toArray]; exact r.length.symm
  refine HT.getItem_tuple_rev ht (Heap.IsSliceOf.new ..) .none .none ps ?_ (by rw [hlen]; exact hz)
  refine ⟨.ref _, _, I4.laid (t' := s3.toks) (o := .tup xs.reverse) (fun b ob q => Heap.get?_push_of_some _ q) (Nat.le_refl _) ?_, rfl, q3 _ (I4.hok.fresh (Nat.le_refl _))⟩
  exact ⟨by rw [List.length_reverse]; exact hz, _, r.rev, IsTup.new _ _⟩
end
end L2
namespace VI
open PySem PySem.Spec L2
open PyProof.Rows hiding St
def oRevT : D → VH → KD → Prop := fun d vh kd => match d with
  | .tup ds => kd (.tup ds.reverse) vh
  | _ => False
def sRevT (s : SemE) (st : SemO) : SemE := fun env vh kx kd => s env vh kx fun d vh1 => st env vh1 kx fun o vh2 => o = some (-1) ∧ oRevT d vh2 kd
section
variable {X : Cx} {W : WX} {a : Expr} {sa : SemE} {st : Expr} {ss : SemO} {pos p2 : Pos}
theorem se_revT (ha : SE X W sa a) (hs : SO X W ss (some st)) : SE X W (sRevT sa ss) (.Subscript a (.Slice none none (some st) p2) pos) := by
  refine peImp (pe_revT ha hs) fun σ H Q ⟨m, env, vh, kx, kd, hr, er, h, ho, ox⟩ => ?_
  refine tE.go hr er ox h fun m1 vh1 H1 d v s1 hr1 er1 ox1 r1 k1 => ?_
  refine ⟨m1, env, vh1, kx, _, hr1, er1, k1, fun m2 vh2 H2 o s2 hr2 k2 => ?_, ox1⟩
  obtain ⟨eo, k2⟩ := k2
  have r2 := Rep.step hr1 s2 _ _ r1
  cases d with
  | tup ds =>
    simp only [Rep] at r2
    obtain ⟨t, us, e, sq, ru⟩ := r2
    exact ⟨eo, t, us, e, sq, fun p hp => out_tup hr2 ru.rev k2 (ho.step (s1.trans s2)) hp⟩
  | _ => exact k2.elim
end
theorem oRevT_t {xs : List D} {vh : VH} {kd : KD} : oRevT (.tup xs) vh kd = kd (.tup xs.reverse) vh := rfl
end VI

end
section
/-! VI43: i.bit_length(). -/
namespace VI
open PySem PySem.Spec L2
open PyProof.Rows hiding St
def bitsN (i : Int) : Nat := if i = 0 then 0 else i.natAbs.log2 + 1
theorem bitsN_kit (i : Int) : Builtin.Int.intBits i = bitsN i := by
  unfold Builtin.Int.intBits bitsN
  by_cases h : i = 0
  · rw [if_pos h, if_pos (by rw [h]; rfl)]
  · rw [if_neg h, if_neg (by simpa using h)]
def sBits (s : SemE) : SemE := fun env vh kx kd => s env vh kx fun d vh' => match d with
  | .int i => kd (.int (bitsN i : Nat)) vh'
  | _ => False
section
variable {X : Cx} {W : WX} {a : Expr} {sa : SemE} {pos apos : Pos}
theorem se_bits (ha : SE X W sa a) (hb : attributeBase a "bit_length" X.env (eval a X.env) = eval a X.env := by rfl) (hl : (apos.endLine == pos.line) = true := by rfl) : SE X W (sBits sa) (.Call (.Attribute a "bit_length" apos) [] [] pos) := by
  refine peImp (pe_bits ha hb hl) fun σ H Q ⟨m, env, vh, kx, kd, hr, er, h, ho, ox⟩ => ?_
  refine tE.go hr er ox h fun m1 vh1 H1 d v s1 hr1 er1 ox1 r1 k1 => ?_
  cases d with
  | int i =>
    have r1 : v = .int i := r1
    subst r1
    refine ⟨i, rfl, ?_⟩
    rw [bitsN_kit]
    exact ho m1 vh1 H1 (.int _) _ s1 hr1 rfl k1
  | _ => exact k1.elim
end
end VI

end
section
/-! VI44: isinstance(e, (C1, .., C5)) of the handled exception, own classes. -/
namespace VI
open PySem PySem.Spec L2
open PyProof.Rows hiding St
section
variable {X : Cx} {W : WX} {T : Nat → Option Fn} {hots : List Nat} {k : Nat} {ep : Addr × Obj} {x y : Str} {p p2 p3 p4 p5 p6 pos apos tpos : Pos}
def rIsXT (K : PySem.W.Frag) (ep : Addr × Obj) : List V → Hp → VK → Prop := fun xs H Q => ∃ (tp : Addr) (cs : List V) (us : List Value) (c : Str) (dd : Addr) (fs : List (Str × V)) (b : Bool), xs = [.ref ep.1, .ref tp] ∧ H tp = some (.tup cs) ∧ Paired ClsV cs us ∧ L2N.Zn (.ref (He.ga K c)) (some dd) ep.2 ∧ H dd = some (.xd fs) ∧ XcK K c ∧ PySem.W.kitAny K (.ref (He.ga K c)) us = some b ∧ Q (.bl b) H
theorem call_isXT (cx : CxX X T hots k ep) : CallR X (.builtin "isinstance") (rIsXT X.K ep) := by
  intro pins s σ H xs us Q I r h
  obtain ⟨tp, cs, ws, c, dd, fs, b, rfl, hT, kc, hz, hdd, xc, hk, q⟩ := h
  obtain ⟨u1, u2, rfl, r1, r2⟩ := vals2 r
  cases (show u2 = Value.ref tp from r2)
  cases (show u1 = Value.ref ep.1 from r1)
  obtain ⟨ha, _⟩ := I.pin ep (List.mem_append_left _ cx.pin)
  obtain ⟨hh, vs, hv, _⟩ := cx.h1
  obtain ⟨mA, hns, hr⟩ := (show ObjOk X.prog X.w H s.heap dd (.xd fs) from I.hok dd _ hdd)
  obtain ⟨od, hod, hl⟩ := lookIn_ns hns
  have J : PySem.W.InstAt s.heap ep.1 ep.2 (He.ga X.K c) (some od) := ⟨ha, hz.1, by unfold PySem.W.notCls; rw [hv] <;> rfl, by rw [hz.2.1]; exact hod⟩
  obtain ⟨_, its, rv, o, h1, h2, n, h3⟩ := (show ObjOk X.prog X.w H s.heap tp (.tup cs) from I.hok tp _ hT)
  have e3 := ClsV.all kc rv
  subst e3
  obtain ⟨oc, od', dt, sl⟩ := o
  simp only at h2 h3
  subst h2 h3
  exact PySem.W.kia_tup (kitx_exc xc.ga xc.gt xc.sb xc.hd xc.ha xc.hn xc.ht xc.hm) I.kIn J h1 hk (fun z => nomatch z) fun tk => ⟨.bl b, H, I.tok tk, rfl, q⟩
def sIsXs (a dd : Addr) (c : Str) (L : List Str) (subs : List (Str → Bool)) (i : Nat) : SemE := fun env vh _ kd => match look env i with
  | some (.exn a' dd' c' _ _) => (a' = a ∧ dd' = dd ∧ c' = c ∧ c' ∈ L) ∧ kd (.bl (subs.any fun f => f c')) vh
  | _ => False
theorem kitAny_all {K : PySem.W.Frag} {t : Value} {c : Str} : ∀ {us : List Value} {subs : List (Str → Bool)}, Paired (fun u f => PySem.W.kitOne K t u = some (f c)) us subs → PySem.W.kitAny K t us = some (subs.any fun f => f c)
  | _, _, .nil => rfl
  | _, _, .cons h r => by
    refine kitAny_cons h (fun e => ?_) fun e => ?_
    · rw [List.any_cons, e, Bool.false_or]
      exact kitAny_all r
    · rw [List.any_cons, e, Bool.true_or]
theorem se_isX5 {a dd : Addr} {c C1 C2 C3 C4 C5 y : Str} {L : List Str} {s1 s2 s3 s4 s5 : Str → Bool} {i kk : Nat} (cx : CxX X T hots k ep) (ea : a = ep.1) (hz : L2N.Zn (.ref (He.ga X.K c)) (some dd) ep.2)
    (x1 : IsX X.K L (.ref (He.ga X.K C1)) s1) (x2 : IsX X.K L (.ref (He.ga X.K C2)) s2) (x3 : IsX X.K L (.ref (He.ga X.K C3)) s3) (x4 : IsX X.K L (.ref (He.ga X.K C4)) s4) (x5 : IsX X.K L (.ref (He.ga X.K C5)) s5)
    (hg : Gl X "isinstance") (hm : X.mg "isinstance" = none) (g1 : Gl X C1) (m1 : X.mg C1 = some (.ref (He.ga X.K C1))) (g2 : Gl X C2) (m2 : X.mg C2 = some (.ref (He.ga X.K C2))) (g3 : Gl X C3) (m3 : X.mg C3 = some (.ref (He.ga X.K C3))) (g4 : Gl X C4) (m4 : X.mg C4 = some (.ref (He.ga X.K C4))) (g5 : Gl X C5) (m5 : X.mg C5 = some (.ref (He.ga X.K C5)))
    (he : SE X W (sVar i) (.Name y apos)) (d1 : (C1 == ("__debug__" : Str)) = false := by decide) (d2 : (C2 == ("__debug__" : Str)) = false := by decide) (d3 : (C3 == ("__debug__" : Str)) = false := by decide) (d4 : (C4 == ("__debug__" : Str)) = false := by decide) (d5 : (C5 == ("__debug__" : Str)) = false := by decide)
    (h1 : starEach [.Name y apos, .Tuple [.Name C1 p2, .Name C2 p3, .Name C3 p4, .Name C4 p5, .Name C5 p6] kk tpos] X.env = (false, eval (.Name y apos) X.env) :: starEach [.Tuple [.Name C1 p2, .Name C2 p3, .Name C3 p4, .Name C4 p5, .Name C5 p6] kk tpos] X.env := by rfl)
    (h2 : starEach [.Tuple [.Name C1 p2, .Name C2 p3, .Name C3 p4, .Name C4 p5, .Name C5 p6] kk tpos] X.env = (false, eval (.Tuple [.Name C1 p2, .Name C2 p3, .Name C3 p4, .Name C4 p5, .Name C5 p6] kk tpos) X.env) :: starEach [] X.env := by rfl)
    (t1 : starEach [.Name C1 p2, .Name C2 p3, .Name C3 p4, .Name C4 p5, .Name C5 p6] X.env = (false, eval (.Name C1 p2) X.env) :: starEach [.Name C2 p3, .Name C3 p4, .Name C4 p5, .Name C5 p6] X.env := by rfl)
    (t2 : starEach [.Name C2 p3, .Name C3 p4, .Name C4 p5, .Name C5 p6] X.env = (false, eval (.Name C2 p3) X.env) :: starEach [.Name C3 p4, .Name C4 p5, .Name C5 p6] X.env := by rfl)
    (t3 : starEach [.Name C3 p4, .Name C4 p5, .Name C5 p6] X.env = (false, eval (.Name C3 p4) X.env) :: starEach [.Name C4 p5, .Name C5 p6] X.env := by rfl)
    (t4 : starEach [.Name C4 p5, .Name C5 p6] X.env = (false, eval (.Name C4 p5) X.env) :: starEach [.Name C5 p6] X.env := by rfl)
    (t5 : starEach [.Name C5 p6] X.env = (false, eval (.Name C5 p6) X.env) :: starEach [] X.env := by rfl)
    (hpl : (backTo pos (starEach [.Tuple [.Name C1 p2, .Name C2 p3, .Name C3 p4, .Name C4 p5, .Name C5 p6] kk tpos] X.env)).any (·.1) = false := by rfl) :
    SE X W (sIsXs a dd c L [s1, s2, s3, s4, s5] i) (.Call (.Name "isinstance" p) [.Name y apos, .Tuple [.Name C1 p2, .Name C2 p3, .Name C3 p4, .Name C4 p5, .Name C5 p6] kk tpos] [] pos) := by
  have y1 : PE X (.Name C1 p2) (tC (.ref (He.ga X.K C1))) := pe_glob g1 m1 rfl d1
  have y2 : PE X (.Name C2 p3) (tC (.ref (He.ga X.K C2))) := pe_glob g2 m2 rfl d2
  have y3 : PE X (.Name C3 p4) (tC (.ref (He.ga X.K C3))) := pe_glob g3 m3 rfl d3
  have y4 : PE X (.Name C4 p5) (tC (.ref (He.ga X.K C4))) := pe_glob g4 m4 rfl d4
  have y5 : PE X (.Name C5 p6) (tC (.ref (He.ga X.K C5))) := pe_glob g5 m5 rfl d5
  subst ea
  refine peImp (pe_callB (call_isXT cx) hg hm boot_isinstance (pa_cons he (pa_cons (pe_tup (pa_cons y1 (pa_cons y2 (pa_cons y3 (pa_cons y4 (pa_cons y5 pa_nil t5) t4) t3) t2) t1)) pa_nil h2) h1) (by decide) (by decide) h1 hpl) fun σ H Q ⟨m, env, vh, kx, kd, hr, er, h, ho, ox⟩ => ?_
  revert h
  show (match look env i with | some (.exn a' dd' c' _ _) => (a' = ep.1 ∧ dd' = dd ∧ c' = c ∧ c' ∈ L) ∧ kd (.bl ([s1, s2, s3, s4, s5].any fun f => f c')) vh | _ => False) → _
  cases e : look env i with
  | none => exact False.elim
  | some d0 =>
    cases d0 with
    | exn a' dd' c' ns ds =>
      rintro ⟨⟨rfl, rfl, rfl, hc⟩, hk⟩
      refine tE.go (kd := fun d' vh' => d' = .exn ep.1 dd' c' ns ds ∧ vh' = vh) hr er ox ?_ fun mm vh1 H1 d v st1 hr1 er1 ox1 r1 k1 => ?_
      · show (match look env i with | some d => _ | none => False)
        rw [e]
        exact ⟨rfl, rfl⟩
      · obtain ⟨rfl, rfl⟩ := k1
        have r1' := r1
        simp only [Rep] at r1'
        obtain ⟨rfl, fs, hdd, _⟩ := r1'
        obtain ⟨xc, k1⟩ := x1 c' hc
        obtain ⟨_, k2⟩ := x2 c' hc
        obtain ⟨_, k3⟩ := x3 c' hc
        obtain ⟨_, k4⟩ := x4 c' hc
        obtain ⟨_, k5⟩ := x5 c' hc
        refine ⟨by show 5 ≤ sizeLine; decide, fun T hT => ?_⟩
        have sm : Same H1 (upd H1 T (.tup [.ref (He.ga X.K C1), .ref (He.ga X.K C2), .ref (He.ga X.K C3), .ref (He.ga X.K C4), .ref (He.ga X.K C5)])) := same_new hT
        have st := Step.same (m := mm) sm
        have hr2 := hr1.same sm
        have r2 := Rep.step hr1 st _ _ r1
        simp only [Rep] at r2
        obtain ⟨_, fs2, hdd2, _⟩ := r2
        refine ⟨T, _, [.ref (He.ga X.K C1), .ref (He.ga X.K C2), .ref (He.ga X.K C3), .ref (He.ga X.K C4), .ref (He.ga X.K C5)], c', dd', fs2, _, rfl, upd_same, .cons (.own _) (.cons (.own _) (.cons (.own _) (.cons (.own _) (.cons (.own _) .nil)))), hz, hdd2, xc, kitAny_all (subs := [s1, s2, s3, s4, s5]) (.cons k1 (.cons k2 (.cons k3 (.cons k4 (.cons k5 .nil))))), ?_⟩
        exact ho mm vh1 _ (.bl ([s1, s2, s3, s4, s5].any fun f => f c')) _ (st1.trans st) hr2 rep_bl hk
    | _ => exact False.elim
end
end VI

end
section
/-! VI45: str(s) of a text. -/
namespace VI
open PySem PySem.Spec L2
open PyProof.Rows hiding St
def oStrS : SOL := fun ds vh kd => match ds with
  | [.str a] => kd (.str a) vh
  | _ => False
section
variable {X : Cx} {W : WX} {e : Expr} {sl : SemA} {p pos : Pos}
theorem sn_strS : SnL X.K oStrS (fun xs H Q => ∃ a, xs = [.str a] ∧ Q (.str a) H) := by
  intro m H vh ds vs kd Q hr r h ho
  cases ds with
  | nil => exact h.elim
  | cons d ds =>
    cases ds with
    | cons _ _ => cases d <;> exact h.elim
    | nil =>
      obtain ⟨v, rfl, r1⟩ := reps1 r
      cases d with
      | str j =>
        have r1 : v = .str j := r1
        subst r1
        exact ⟨j, rfl, ho m vh H (.str j) _ (Step.refl _ _) hr rfl h⟩
      | _ => exact h.elim
theorem se_strS (hg : Gl X "str") (hm : X.mg "str" = none) (ha : SA X W sl [e]) (he : starEach [e] X.env = (false, eval e X.env) :: starEach [] X.env := by rfl) : SE X W (sCallB oStrS sl) (.Call (.Name "str" p) [e] [] pos) := se_callTy SkE.call_str_str sn_strS hg hm (by decide +kernel) ha (by decide) (by decide) he
end
end VI

end
section
/-! VI46: xs.index(i) of a list of numbers. -/
namespace VI
open PySem PySem.Spec L2
open PyProof.Rows hiding St
def sIdxM (so se : SemE) : SemE := fun env vh kx kd => so env vh kx fun od vh1 => (∃ ns : List Int, lview vh1 od = some (ns.map D.int)) ∧ se env vh1 kx fun d vh2 => match d with
  | .int k => ∃ (ns : List Int) (j : Nat), lview vh2 od = some (ns.map D.int) ∧ ns[j]? = some k ∧ (∀ m, m < j → ns[m]? ≠ some k) ∧ kd (.int (j : Nat)) vh2
  | _ => False
section
variable {X : Cx} {W : WX} {o e : Expr} {so se : SemE} {apos pos : Pos}
theorem se_index (ho : SE X W so o) (he : SE X W se e) (hbase : attributeBase o "index" X.env (eval o X.env) = eval o X.env := by rfl)
    (hfew : ((backTo pos (starEach [e] X.env)).all (fun x => !x.1) && (backToKw pos (keywordEach [] X.env)).all (fun x => x.1.isSome)
      && decide ([e].length + ([] : List Keyword).length + (if ([] : List Keyword).isEmpty then 0 else 1) < 30)) = true := by rfl)
    (hline : (apos.endLine == pos.line) = true := by rfl) (hs : starEach [e] X.env = (false, eval e X.env) :: starEach [] X.env := by rfl) (hpl : (backTo pos (starEach [] X.env)).any (·.1) = false := by rfl) :
    SE X W (sIdxM so se) (.Call (.Attribute o "index" apos) [e] [] pos) := by
  refine peImp (pe_bm PySem.F.plainAttrs_list PySem.F.slot_list_index PySem.F.type_list_index mt_index ho (pa_cons he pa_nil hs) hbase hfew hline hs hpl) fun σ H Q ⟨m, env, vh, kx, kd, hr, er, h, ho, ox⟩ => ?_
  refine tE.go hr er ox h fun m1 vh1 H1 od ov s1 hr1 er1 ox1 r1 k1 => ?_
  obtain ⟨⟨ns0, e0⟩, k1⟩ := k1
  obtain ⟨a0, xs0, rfl, q0, _⟩ := lview_rep hr1 r1 e0
  refine ⟨.inl ⟨rfl, xs0, .of q0⟩, tE.go hr1 er1 ox1 k1 fun m2 vh2 H2 d v s2 hr2 er2 ox2 r2 k2 => ?_⟩
  cases d with
  | int k =>
    obtain ⟨ns, j, e2, ej, hn, kk⟩ := k2
    have r2 : v = .int k := r2
    subst r2
    obtain ⟨a, xs, ea, q, rs⟩ := lview_rep hr2 (Rep.step hr1 s2 _ _ r1) e2
    have ex := Reps.ints.mp rs
    subst ex
    refine ⟨a, ns.map V.int, .int k, j, .int k, ea, rfl, .of q, rfl, ?_, ?_, ?_, ?_, ho m2 vh2 H2 (.int _) _ (s1.trans s2) hr2 rfl kk⟩
    · rw [List.all_map, List.all_eq_true]
      intro x _
      rfl
    · rw [List.getElem?_map, ej]
      rfl
    · show decide (k = k) = true
      exact decide_eq_true rfl
    · intro i z' hi hz
      rw [List.getElem?_map] at hz
      cases e : ns[i]? with
      | none => rw [e] at hz; cases hz
      | some y =>
        rw [e] at hz
        cases hz
        show decide (y = k) = false
        exact decide_eq_false fun c => hn i hi (by rw [e, c])
  | _ => exact k2.elim
end
end VI

end
section
/-! VI47: new instances by keywords where no repr is under way. -/
namespace VI
open PySem PySem.Spec L2
open PyProof.Rows hiding St
section
variable {X : Cx} {W : WX} {T : Nat → Option Fn} {hots xs : List Nat} {k : Nat} {fn : Fn} {x c mt : Str} {p pos apos : Pos} {o : Expr} {kws : List Keyword} {ks : List Str} {g : {α : Type} → List α → List α → List α} {slk : SemA} {so : SemE} {f : Nat}
theorem run_makeKG {j : Nat} {fa C : Addr} {fd : FuncData} {ps : List Str} {sp : Sp} {E : L2.St → XK} {pins : List (Addr × Obj)} {σ : L2.St} {H : Hp} {s : Shared} {Q : VK} {ws : List Value} {zs : List V} {gU : List Value → List Value → List Value} {gV : List V → List V → List V} (M : Mk X.K C fa) (F : PromG X.prog X.w X.K X.mg X.base j fa fd ps sp) (hr : Room (j + 1) X.A) (hg : X.A.guards = some [])
    (hb : ∀ s a, BindsTo s fd ⟨[Value.ref a], ks.zip ws⟩ (ps.zip (gU [Value.ref a] ws))) (hx : PassesAt (L2N.CX X.prog X.w) X σ (E σ)) (I : Inv X pins σ H s) (r : ∀ a, Vals (gV [.ref a] zs) (gU [Value.ref a] ws))
    (h : ∀ x dx, H x = none → H dx = none → dx ≠ x → sp (gV [.ref x] zs) (upd (upd H dx (.own x)) x (.ins C dx [])) (fun v H2 => v = .non ∧ Q (.ref x) H2) (E σ)) :
    wpAny (model X.prog X.w) X.A (call (.ref C) [] (ks.zip ws)) (EP X pins σ Q) X.xe s := by
  have hq := h (s.heap.objs.size + 1) s.heap.objs.size (I.hok.fresh (Nat.le_succ _)) (I.hok.fresh (Nat.le_refl _)) (Nat.ne_of_lt (Nat.lt_succ_self _))
  have I2 := Inv.made (C := C) I
  have hgd : (X.A.under (.builtin "type.__call__" ⟨.ref C :: [], ks.zip ws⟩)).guards = X.A.guards := make_guards
  refine wpAny_call (make_map (f := fa) I.kIn M.makes M.init (beq_iff_eq.mp M.fn) (codeAny_mono (F.run _ X.stack _ _ ⟨[Value.ref (s.heap.objs.size + 1)], ks.zip ws⟩ (gU [Value.ref (s.heap.objs.size + 1)] ws) _ _ (E σ) (hr.make C [] (ks.zip ws)) (hgd.trans hg)
    (I2.env0.make C [] (ks.zip ws)) (hb _ _) (r _) hq) fun r s' hq' => ?_))
  cases r with
  | error e => exact hx pins _ _ e s' I2 hq'
  | ok fl =>
    cases fl with
    | ret u =>
      obtain ⟨v, H', I3, rv, ev, q3⟩ := I2.after hq'
      subst ev
      exact ⟨rv, ⟨V.ref (s.heap.objs.size + 1), H', I3, rfl, q3⟩⟩
    | next => exact hq'.elim
    | brk => exact hq'.elim
    | cont => exact hq'.elim
theorem new_ofKG {frz : Bool} {zs : List V} (kw : KwOk fn 1 ks @g) (hf : T f = some fn) (hi : fn.id = f) {m : Map} {H : Hp} {vh : VH} {ds : List D} {kx : KX} {kd : KD} {Q : VK} {σ : L2.St} (hr : Hr X.K m H vh) (r : Reps X.K m H ds zs)
    (hc : callN T k f (g [.ref vh.length] ds) (vh ++ [.ins c [] []]) (newEx vh kx) (newEnd frz vh kd)) (ho : Out X.K m H kd Q) (ox : OutX X.K m H W σ kx) (x dx : Addr) (hx : H x = none) (hdx : H dx = none) (hne : dx ≠ x) :
    spV X.K (callN T k) fn.id fn.ps.length (g [.ref x] zs) (upd (upd H dx (.own x)) x (.ins (He.ga X.K c) dx [])) (fun v H2 => v = .non ∧ Q (.ref x) H2) (WE W σ) := by
  have s1 := Step.same (m := m) (same_new (o := .own x) hdx)
  have hr1 := hr.same (same_new (o := .own x) hdx)
  have hx1 : upd H dx (.own x) x = none := by rw [upd_ne (Ne.symm hne)]; exact hx
  have s2 := push_step (o := .ins (He.ga X.K c) dx []) hr1 hx1
  have hr2 := hr1.push (c := .ins c [] []) (o := .ins (He.ga X.K c) dx []) hx1 ⟨dx, [], upd_same, rfl, Reps.nil⟩
  have st := s1.trans s2
  have rself : Reps X.K (m.push vh.length x) (upd (upd H dx (.own x)) x (.ins (He.ga X.K c) dx [])) [.ref vh.length] [.ref x] := Reps.one (by simp only [Rep]; exact ⟨x, rfl, if_pos rfl⟩)
  refine spV_at (m0 := m) (H0 := H) hr2 (kw.reps rself (Reps.step hr st _ _ r)) hf hi hc (fun m' vh' H' d v s' h' rv kk => ?_) (fun m' vh' H' ex cls dd s' h' rx kk => ?_)
  · have st' := st.trans s'
    cases frz with
    | false =>
      obtain ⟨rfl, kk⟩ := kk
      have e : v = .non := rv
      refine ⟨e, ho m' vh' H' (.ref vh.length) (.ref x) st' h' ?_ kk⟩
      simp only [Rep]
      exact ⟨x, rfl, s'.2.1 _ _ (if_pos rfl)⟩
    | true =>
      obtain ⟨rfl, g', d', e, fz, kk⟩ := kk
      have ev : v = .non := rv
      subst e
      obtain ⟨h1, s3⟩ := hr.trim st' h'
      refine ⟨ev, ho m vh H' d' (.ref x) s3 h1 (Frz.rep hr st' h' fz ?_) kk⟩
      simp only [Rep]
      exact ⟨x, rfl, s'.2.1 _ _ (if_pos rfl)⟩
  · obtain ⟨g', es, e, fz, kk⟩ := kk
    subst e
    have st' := st.trans s'
    obtain ⟨h1, s3⟩ := hr.trim st' h'
    obtain ⟨e1, a, fs, e2, e3, e4, rs⟩ := rx
    exact ox m vh H' ⟨ex.c, ex.ns, es⟩ cls dd s3 h1 ⟨e1, a, fs, e2, e3, e4, Frzs.rep hr st' h' fz rs⟩ kk
theorem se_newK0G (frz : Bool) (cx : CxG X T hots xs k) (tk : L2N.Takes X W) (hf : T f = some fn) (hfx : f ∉ xs) (ha0 : fn.at_ = (c, some ("__init__" : Str))) (kw : KwOk fn 1 ks @g) (M : Mk X.K (He.ga X.K c) (He.ma X.K (He.ga X.K c) "__init__")) (hg : Gl X c) (hm : X.mg c = some (.ref (He.ga X.K c))) (hkw : SK X W slk kws)
    (hall : (backToKw pos (keywordEach kws X.env)).all (·.1.isSome) = true := by rfl) (hks : (backToKw pos (keywordEach kws X.env)).filterMap (·.1) = ks := by rfl) (hdb : (c == ("__debug__" : Str)) = false := by decide)
    (hpl : ((backTo pos (starEach [] X.env)).any (·.1) || (backToKw pos (keywordEach kws X.env)).any (·.1.isNone)) = false := by rfl) : SE X W (sNewK (callN T k) frz c f ks.length g slk) (.Call (.Name c p) [] kws pos) := by
  obtain ⟨hi, ⟨fd, F, hb, ok⟩⟩ := cx.at hf hfx
  rw [show He.fAd X.K fn.at_ = He.ma X.K (He.ga X.K c) "__init__" by rw [ha0]; rfl] at F ok
  refine ⟨fun pins s σ H Q I ⟨m, env, vh, kx, kd, hr, er, h, ho, ox⟩ => ?_⟩
  refine wpAny_Call_Name_kw (ld_glob I hg hm ?_ hdb)
  have h0 : tA X.K W slk σ H (fun zs H1 => zs.length = ks.length ∧ ∀ x dx, H1 x = none → H1 dx = none → dx ≠ x → spV X.K (callN T k) fn.id fn.ps.length (g [.ref x] zs) (upd (upd H1 dx (.own x)) x (.ins (He.ga X.K c) dx [])) (fun v H2 => v = .non ∧ Q (.ref x) H2) (WE W σ)) :=
    tA.go hr er ox h fun m1 vh1 H1 ds vs s1 hr1 er1 ox1 r1 k1 => ⟨by rw [← r1.len]; exact k1.1, new_ofKG @kw hf hi hr1 r1 k1.2 (ho.step s1) ox1⟩
  refine PySem.W.callWith_KW0 (h₀ := X.base) I.ok.mod.kin M.kp hall (thn (hkw.run pos pins s σ H _ I h0) fun ws s2 ⟨zs, H2, I2, rz, l2, q2⟩ => ⟨I2.kIn, ?_⟩) hpl
  rw [hks]
  exact run_makeKG (E := WE W) (gU := g) (gV := g) M ok (cx.room.mono (by omega)) cx.gd (fun s a => binds_kw F @kw s rfl (rz.length.symm.trans l2)) (L2N.passAt tk σ) I2 (fun a => kw.rel (vs := [V.ref a]) (us := [Value.ref a]) (.cons rfl .nil) rz) q2
end
end VI

end
section
/-! VI48: methods where no repr is under way. -/
namespace VI
open PySem PySem.Spec L2
open PyProof.Rows hiding St
section
variable {X : Cx} {W : WX} {T : Nat → Option Fn} {hots xs : List Nat} {k : Nat} {fn : Fn} {x c mt : Str} {p pos apos : Pos} {e o : Expr} {es : List Expr} {kws : List Keyword} {ks : List Str} {g : {α : Type} → List α → List α → List α} {sl slk : SemA} {so : SemE} {f n : Nat}
theorem tMeth_ofG (hf : T f = some fn) (hi : fn.id = f) {σ : L2.St} {H : Hp} {Q : VK} (h : tE X.K W (sMeth (callN T k) c mt f so sl) σ H Q) :
    tE X.K W so σ H fun x H1 => ∃ a dx fs, x = .ref a ∧ H1 a = some (.ins (He.ga X.K c) dx fs) ∧ fs.lookup mt = none ∧ tA X.K W sl σ H1 fun vs H2 => spV X.K (callN T k) fn.id fn.ps.length (x :: vs) H2 Q (WE W σ) := by
  obtain ⟨m, env, vh, kx, kd, hr, er, h, ho, ox⟩ := h
  refine tE.go hr er ox h fun m1 vh1 H1 d v s1 hr1 er1 ox1 r1 k1 => ?_
  cases e : oview vh1 d with
  | none => rw [e] at k1; exact k1.elim
  | some q =>
    obtain ⟨c', ns, ds⟩ := q
    rw [e] at k1
    obtain ⟨rfl, en0, kk⟩ := k1
    obtain ⟨a, dx, fs, ev, ea, en, rs⟩ := oview_rep hr1 r1 e
    refine ⟨a, dx, fs, ev, ea, lookup_none (by rw [en]; exact en0), ?_⟩
    exact tA.go hr1 er1 ox1 kk fun m2 vh2 H2 es vs s2 hr2 er2 ox2 r2 k2 => spV_at (m0 := m) (H0 := H) hr2 (Reps.cons (Rep.step hr1 s2 _ _ r1) r2) hf hi k2 (ho.step (s1.trans s2)) ox2
theorem se_methG {pl : Sem Bool} (cx : CxG X T hots xs k) (tk : L2N.Takes X W) (hf : T f = some fn) (hfx : f ∉ xs) (ha0 : fn.at_ = (c, some mt)) (cl : Cls X.K (He.ga X.K c)) (hm : Meth X.K (He.ga X.K c) mt (He.ma X.K (He.ga X.K c) mt)) (ho : SE X W so o) (ha : SA X W sl (e :: es))
    (hst : starEach (e :: es) X.env = (false, eval e X.env) :: starEach es X.env := by rfl) (hpl : (backTo pos (starEach es X.env)).any (·.1) = false := by rfl)
    (ht : eval (.Call (.Attribute o mt apos) (e :: es) [] pos) X.env = (do
      let ov ← eval o X.env
      standAt apos.atName
      let (f, first) ← holding [ov] (getMethod ov mt pl)
      callWith pos f first (backTo pos (starEach (e :: es) X.env)) (backToKw pos (keywordEach [] X.env))) := by rfl) :
    SE X W (sMeth (callN T k) c mt f so sl) (.Call (.Attribute o mt apos) (e :: es) [] pos) := by
  obtain ⟨hi, ⟨fd, F, hb, ok⟩⟩ := cx.at hf hfx
  rw [show He.fAd X.K fn.at_ = He.ma X.K (He.ga X.K c) mt by rw [ha0]; rfl] at F ok
  refine ⟨fun pins s σ H Q I h => ?_⟩
  have h0 := tMeth_ofG hf hi h
  refine PySem.W.methodCall_KW (pl := pl) (thn (ho.run pins s σ H _ I h0) fun u s1 ⟨x, H1, I1, rx, a, dx, fs, ex, ea, l, q⟩ => ?_) ht
  subst ex
  obtain rfl : u = Value.ref a := rx
  refine getmeth_ok I1 ea cl hm l ?_
  refine PySem.W.callWith_K (first := [.ref a]) (h₀ := X.base) I.ok.mod.kin hm.kp (thn (ha.run pos pins s1 σ H1 _ I1 q) fun us s2 ⟨vs, H2, I2, r, q2⟩ => ⟨I2.kIn, ?_⟩) hst hpl
  have r2 : Vals (V.ref a :: vs) (Value.ref a :: us) := .cons rfl r
  exact run_G (E := WE W) (ar := ⟨.ref a :: us, []⟩) ok (cx.room.mono (by omega)) cx.gd (binds0 hb I2.kIn (by rw [← r2.length]; exact sp_len q2)) (L2N.passAt tk σ) I2 r2 q2
theorem se_meth0G {pl : Sem Bool} (cx : CxG X T hots xs k) (tk : L2N.Takes X W) (hf : T f = some fn) (hfx : f ∉ xs) (ha0 : fn.at_ = (c, some mt)) (cl : Cls X.K (He.ga X.K c)) (hm : Meth X.K (He.ga X.K c) mt (He.ma X.K (He.ga X.K c) mt)) (ho : SE X W so o)
    (ht : eval (.Call (.Attribute o mt apos) [] [] pos) X.env = (do
      let ov ← eval o X.env
      standAt apos.atName
      let (f, first) ← holding [ov] (getMethod ov mt pl)
      callWith pos f first (backTo pos (starEach [] X.env)) (backToKw pos (keywordEach [] X.env))) := by rfl) :
    SE X W (sMeth (callN T k) c mt f so sNil) (.Call (.Attribute o mt apos) [] [] pos) := by
  obtain ⟨hi, ⟨fd, F, hb, ok⟩⟩ := cx.at hf hfx
  rw [show He.fAd X.K fn.at_ = He.ma X.K (He.ga X.K c) mt by rw [ha0]; rfl] at F ok
  refine ⟨fun pins s σ H Q I h => ?_⟩
  have h0 := tMeth_ofG hf hi h
  refine PySem.W.methodCall_KW (pl := pl) (thn (ho.run pins s σ H _ I h0) fun u s1 ⟨x, H1, I1, rx, a, dx, fs, ex, ea, l, q⟩ => ?_) ht
  subst ex
  obtain rfl : u = Value.ref a := rx
  refine getmeth_ok I1 ea cl hm l ?_
  refine PySem.W.callWith_K0 (first := [.ref a]) I1.kIn hm.kp ?_
  have q3 : spV X.K (callN T k) fn.id fn.ps.length [.ref a] H1 Q (WE W σ) := by
    obtain ⟨m, env, vh, kx, kd, hr, er, h, ho, ox⟩ := q
    exact ho m vh H1 [] [] (Step.refl _ _) hr Reps.nil h
  have r2 : Vals [V.ref a] [Value.ref a] := .cons rfl .nil
  exact run_G (E := WE W) (ar := ⟨[.ref a], []⟩) ok (cx.room.mono (by omega)) cx.gd (binds0 hb I1.kIn (by rw [← r2.length]; exact sp_len q3)) (L2N.passAt tk σ) I1 r2 q3
theorem tMethK_ofG (kw : KwOk fn n ks @g) (hf : T f = some fn) (hi : fn.id = f) {σ : L2.St} {H : Hp} {Q : VK} (h : tE X.K W (sMethK (callN T k) c mt f n ks.length g so sl slk) σ H Q) :
    tE X.K W so σ H fun x H1 => ∃ a dx fs, x = .ref a ∧ H1 a = some (.ins (He.ga X.K c) dx fs) ∧ fs.lookup mt = none ∧ tA X.K W sl σ H1 fun vs H2 => tA X.K W slk σ H2 fun zs H3 => vs.length + 1 = n ∧ zs.length = ks.length ∧ spV X.K (callN T k) fn.id fn.ps.length (g (x :: vs) zs) H3 Q (WE W σ) := by
  obtain ⟨m, env, vh, kx, kd, hr, er, h, ho, ox⟩ := h
  refine tE.go hr er ox h fun m1 vh1 H1 d v s1 hr1 er1 ox1 r1 k1 => ?_
  cases e : oview vh1 d with
  | none => rw [e] at k1; exact k1.elim
  | some q =>
    obtain ⟨c', ns, ds⟩ := q
    rw [e] at k1
    obtain ⟨rfl, en0, kk⟩ := k1
    obtain ⟨a, dx, fs, ev, ea, en, rs⟩ := oview_rep hr1 r1 e
    refine ⟨a, dx, fs, ev, ea, lookup_none (by rw [en]; exact en0), ?_⟩
    refine tA.go hr1 er1 ox1 kk fun m2 vh2 H2 es vs s2 hr2 er2 ox2 r2 k2 => tA.go hr2 er2 ox2 k2 fun m3 vh3 H3 fs zs s3 hr3 er3 ox3 r3 k3 => ?_
    refine ⟨by rw [← r2.len]; exact k3.1, by rw [← r3.len]; exact k3.2.1, ?_⟩
    have rd : Rep X.K m3 H3 d v := Rep.step hr2 s3 _ _ (Rep.step hr1 s2 _ _ r1)
    exact spV_at (m0 := m) (H0 := H) hr3 (kw.reps (Reps.cons rd (Reps.step hr2 s3 _ _ r2)) r3) hf hi k3.2.2 (ho.step (s1.trans (s2.trans s3))) ox3
theorem se_methK0G {pl : Sem Bool} (cx : CxG X T hots xs k) (tk : L2N.Takes X W) (hf : T f = some fn) (hfx : f ∉ xs) (ha0 : fn.at_ = (c, some mt)) (kw : KwOk fn n ks @g) (cl : Cls X.K (He.ga X.K c)) (hm : Meth X.K (He.ga X.K c) mt (He.ma X.K (He.ga X.K c) mt)) (ho : SE X W so o) (hkw : SK X W slk kws)
    (hall : (backToKw pos (keywordEach kws X.env)).all (·.1.isSome) = true := by rfl) (hks : (backToKw pos (keywordEach kws X.env)).filterMap (·.1) = ks := by rfl)
    (hpl : ((backTo pos (starEach [] X.env)).any (·.1) || (backToKw pos (keywordEach kws X.env)).any (·.1.isNone)) = false := by rfl)
    (ht : eval (.Call (.Attribute o mt apos) [] kws pos) X.env = (do
      let ov ← eval o X.env
      standAt apos.atName
      let (f, first) ← holding [ov] (getMethod ov mt pl)
      callWith pos f first (backTo pos (starEach [] X.env)) (backToKw pos (keywordEach kws X.env))) := by rfl) :
    SE X W (sMethK (callN T k) c mt f n ks.length g so sNil slk) (.Call (.Attribute o mt apos) [] kws pos) := by
  obtain ⟨hi, ⟨fd, F, hb, ok⟩⟩ := cx.at hf hfx
  rw [show He.fAd X.K fn.at_ = He.ma X.K (He.ga X.K c) mt by rw [ha0]; rfl] at F ok
  refine ⟨fun pins s σ H Q I h => ?_⟩
  have h0 := tMethK_ofG @kw hf hi h
  refine PySem.W.methodCall_KW (pl := pl) (thn (ho.run pins s σ H _ I h0) fun u s1 ⟨x, H1, I1, rx, a, dx, fs, ex, ea, l, q⟩ => ?_) ht
  subst ex
  obtain rfl : u = Value.ref a := rx
  refine getmeth_ok I1 ea cl hm l ?_
  have q' : tA X.K W slk σ H1 fun zs H3 => 1 = n ∧ zs.length = ks.length ∧ spV X.K (callN T k) fn.id fn.ps.length (g [.ref a] zs) H3 Q (WE W σ) := by
    obtain ⟨m, env, vh, kx, kl, hr, er, hs, o, ox⟩ := q
    exact o m vh H1 [] [] (Step.refl _ _) hr Reps.nil hs
  refine PySem.W.callWith_KW0 (first := [.ref a]) (h₀ := X.base) I.ok.mod.kin hm.kp hall (thn (hkw.run pos pins s1 σ H1 _ I1 q') fun ws s2 ⟨zs, H2, I2, rz, l1, l2, q2⟩ => ⟨I2.kIn, ?_⟩) hpl
  rw [hks]
  exact run_G (E := WE W) (ar := ⟨[.ref a], ks.zip ws⟩) ok (cx.room.mono (by omega)) cx.gd (binds_kw F @kw s2 l1 (rz.length.symm.trans l2)) (L2N.passAt tk σ) I2 (kw.rel (vs := [V.ref a]) (us := [Value.ref a]) (.cons rfl .nil) rz) q2
end
end VI

end
section
/-! VI49: ==, != of an instance whose class bears its own __eq__. -/
namespace VI
open PySem PySem.Spec L2
open PyProof.Rows hiding St
def othD (c : Str) (vh : VH) : D → Bool
  | .non => true
  | .int _ => true
  | .bl _ => true
  | .str _ => true
  | .tup _ => true
  | .lst _ => true
  | .obj c' _ _ => c' == c
  | _ => false
def sEqO (C : Calls) (c : Str) (f : Nat) (so se : SemE) : SemE := fun env vh kx kd => so env vh kx fun d vh1 => se env vh1 kx fun e vh2 => match oview vh2 d with
  | some (c', _, _) => (c' = c ∧ othD c vh2 e = true) ∧ C f [d, e] vh2 kx kd
  | none => False
def sNeO (C : Calls) (c : Str) (f : Nat) (so se : SemE) : SemE := fun env vh kx kd => so env vh kx fun d vh1 => se env vh1 kx fun e vh2 => match oview vh2 d with
  | some (c', _, _) => (c' = c ∧ othD c vh2 e = true) ∧ C f [d, e] vh2 kx fun r vh3 => match r with
    | .bl b => kd (.bl (!b)) vh3
    | _ => False
  | none => False
theorem sub_of {K : PySem.W.Frag} {C : Addr} {T : String} {L : List Value} (e : fastBuiltinMro T = some L) (n : L.contains (.ref C) = false) : PySem.W.notFirst K C (.type T) = true := by
  unfold PySem.W.notFirst
  rw [show PySem.W.subIn K (.type T) (.ref C) = some false by
    show (fastBuiltinMro T).map (·.contains (.ref C)) = some false
    rw [e]
    exact congrArg some n]
  simp
theorem nf_non {K : PySem.W.Frag} {C : Addr} : PySem.W.notFirst K C (.type "NoneType") = true := sub_of (L := [.type "NoneType", .type "object"]) (by decide +kernel) (by first | rfl | simp)
theorem nf_int {K : PySem.W.Frag} {C : Addr} : PySem.W.notFirst K C (.type "int") = true := sub_of (L := [.type "int", .type "object"]) (by decide +kernel) (by first | rfl | simp)
theorem nf_bl {K : PySem.W.Frag} {C : Addr} : PySem.W.notFirst K C (.type "bool") = true := sub_of (L := [.type "bool", .type "int", .type "object"]) (by decide +kernel) (by first | rfl | simp)
theorem nf_str {K : PySem.W.Frag} {C : Addr} : PySem.W.notFirst K C (.type "str") = true := sub_of (L := [.type "str", .type "object"]) (by decide +kernel) (by first | rfl | simp)
theorem nf_tup {K : PySem.W.Frag} {C : Addr} : PySem.W.notFirst K C (.type "tuple") = true := sub_of (L := [.type "tuple", .type "object"]) (by decide +kernel) (by first | rfl | simp)
theorem nf_lst {K : PySem.W.Frag} {C : Addr} : PySem.W.notFirst K C (.type "list") = true := sub_of (L := [.type "list", .type "object"]) (by decide +kernel) (by first | rfl | simp)
theorem nf_own {K : PySem.W.Frag} {C : Addr} : PySem.W.notFirst K C (.ref C) = true := by
  unfold PySem.W.notFirst
  simp
section
variable {X : Cx} {W : WX} {T : Nat → Option Fn} {hots xs : List Nat} {k : Nat} {fn : Fn} {c : Str} {pos : Pos} {a b : Expr} {sa sb : SemE} {f : Nat}
/-- what type the other one is of -/
theorem oth_of {m : Map} {H : Hp} {vh : VH} {e : D} {y : V} {u : Value} {pins : List (Addr × Obj)} {σ : L2.St} {s : Shared} (I : Inv X pins σ H s) (hr : Hr X.K m H vh) (r : Rep X.K m H e y) (ry : RelV y u) (h : othD c vh e = true) :
    ∃ tb, PySem.W.Looks (model X.prog X.w) s.heap (typeOf u) tb ∧ PySem.W.notFirst X.K (He.ga X.K c) tb = true := by
  cases e with
  | non =>
    have r : y = .non := r
    subst r
    cases ry
    exact ⟨_, PySem.W.Looks.of_pure rfl, nf_non⟩
  | int i =>
    have r : y = .int i := r
    subst r
    obtain ⟨t, rfl⟩ := ry
    exact ⟨_, PySem.W.Looks.of_pure rfl, nf_int⟩
  | bl i =>
    have r : y = .bl i := r
    subst r
    cases ry
    exact ⟨_, PySem.W.Looks.of_pure rfl, nf_bl⟩
  | str i =>
    have r : y = .str i := r
    subst r
    obtain ⟨t, rfl⟩ := ry
    exact ⟨_, PySem.W.Looks.of_pure rfl, nf_str⟩
  | tup ds =>
    simp only [Rep] at r
    obtain ⟨p, ys, rfl, q, _⟩ := r
    cases ry
    obtain ⟨its, _, ⟨o, ho, hc, _⟩, _⟩ := I.tuple q
    exact ⟨.type "tuple", hc ▸ (PySem.W.Looks.ld ho).andThen .now, nf_tup⟩
  | lst ds =>
    simp only [Rep] at r
    obtain ⟨p, ys, rfl, q, _⟩ := r
    cases ry
    obtain ⟨its, _, ⟨o, n, ho, hc, _⟩, _⟩ := I.list (SqL.of q)
    exact ⟨.type "list", hc ▸ (PySem.W.Looks.ld ho).andThen .now, nf_lst⟩
  | obj c' ns ds =>
    have h : (c' == c) = true := h
    have h := beq_iff_eq.mp h
    subst h
    obtain ⟨p, dx, fs, rfl, hp, _⟩ := oview_rep (d := .obj c' ns ds) (c := c') (ns := ns) (ds := ds) hr r rfl
    cases ry
    obtain ⟨mA, O, _⟩ := ins_get I.hok hp
    obtain ⟨od, J, _⟩ := O.look
    exact ⟨_, J.type, nf_own⟩
  | _ => cases h
theorem back_of {pins : List (Addr × Obj)} {σ : L2.St} {Q : VK} {v : Value} {s : Shared} (h : EP X pins σ Q v s) : PySem.W.CmpBack (EP X pins σ Q) v s := by
  cases v with
  | notImplemented =>
    obtain ⟨w, H, _, r, _⟩ := h
    cases w <;> first | (obtain ⟨t, e⟩ := r; exact nomatch e) | exact nomatch r
  | _ => exact h
theorem tEqO_of (hf : T f = some fn) (hi : fn.id = f) {σ : L2.St} {H : Hp} {Q : VK} (h : tE X.K W (sEqO (callN T k) c f sa sb) σ H Q) :
    tE X.K W sa σ H fun x H1 => tE X.K W sb σ H1 fun y H2 => ∃ p dx fs, x = .ref p ∧ H2 p = some (.ins (He.ga X.K c) dx fs) ∧ (∃ m vh e, Hr X.K m H2 vh ∧ Rep X.K m H2 e y ∧ othD c vh e = true) ∧ spV X.K (callN T k) fn.id fn.ps.length [x, y] H2 Q (WE W σ) := by
  obtain ⟨m, env, vh, kx, kd, hr, er, h, ho, ox⟩ := h
  refine tE.go hr er ox h fun m1 vh1 H1 d v s1 hr1 er1 ox1 r1 k1 => tE.go hr1 er1 ox1 k1 fun m2 vh2 H2 e y s2 hr2 er2 ox2 r2 k2 => ?_
  cases eo : oview vh2 d with
  | none => rw [eo] at k2; exact k2.elim
  | some q =>
    obtain ⟨c', ns, ds⟩ := q
    rw [eo] at k2
    obtain ⟨⟨rfl, hoth⟩, kk⟩ := k2
    have rd := Rep.step hr1 s2 _ _ r1
    obtain ⟨p, dx, fs, ev, ea, en, rs⟩ := oview_rep hr2 rd eo
    exact ⟨p, dx, fs, ev, ea, ⟨m2, vh2, e, hr2, r2, hoth⟩, spV_at (m0 := m) (H0 := H) hr2 (Reps.cons rd (Reps.one r2)) hf hi kk (ho.step (s1.trans s2)) ox2⟩
theorem tNeO_of (hf : T f = some fn) (hi : fn.id = f) {σ : L2.St} {H : Hp} {Q : VK} (h : tE X.K W (sNeO (callN T k) c f sa sb) σ H Q) :
    tE X.K W sa σ H fun x H1 => tE X.K W sb σ H1 fun y H2 => ∃ p dx fs, x = .ref p ∧ H2 p = some (.ins (He.ga X.K c) dx fs) ∧ (∃ m vh e, Hr X.K m H2 vh ∧ Rep X.K m H2 e y ∧ othD c vh e = true) ∧ spV X.K (callN T k) fn.id fn.ps.length [x, y] H2 (fun v H3 => ∃ t, v = .bl t ∧ Q (.bl (!t)) H3) (WE W σ) := by
  obtain ⟨m, env, vh, kx, kd, hr, er, h, ho, ox⟩ := h
  refine tE.go hr er ox h fun m1 vh1 H1 d v s1 hr1 er1 ox1 r1 k1 => tE.go hr1 er1 ox1 k1 fun m2 vh2 H2 e y s2 hr2 er2 ox2 r2 k2 => ?_
  cases eo : oview vh2 d with
  | none => rw [eo] at k2; exact k2.elim
  | some q =>
    obtain ⟨c', ns, ds⟩ := q
    rw [eo] at k2
    obtain ⟨⟨rfl, hoth⟩, kk⟩ := k2
    have rd := Rep.step hr1 s2 _ _ r1
    obtain ⟨p, dx, fs, ev, ea, en, rs⟩ := oview_rep hr2 rd eo
    refine ⟨p, dx, fs, ev, ea, ⟨m2, vh2, e, hr2, r2, hoth⟩, spV_at (m0 := m) (H0 := H) hr2 (Reps.cons rd (Reps.one r2)) hf hi kk (fun m3 vh3 H3 d3 v3 s3 hr3 r3 k3 => ?_) ox2⟩
    cases d3 with
    | bl t =>
      have r3 : v3 = .bl t := r3
      subst r3
      exact ⟨t, rfl, ho m3 vh3 H3 (.bl (!t)) (.bl (!t)) ((s1.trans s2).trans s3) hr3 rfl k3⟩
    | _ => exact k3.elim
theorem pc_eqOG (cx : CxG X T hots xs k) (tk : L2N.Takes X W) (hf : T f = some fn) (hfx : f ∉ xs) (ha0 : fn.at_ = (c, some ("__eq__" : Str))) (hm : Meth X.K (He.ga X.K c) "__eq__" (He.ma X.K (He.ga X.K c) "__eq__")) (ha : SE X W sa a) (hb : SE X W sb b) :
    PC X .Eq a b (tE X.K W (sEqO (callN T k) c f sa sb)) := by
  obtain ⟨hi, ⟨fd, F, hb', ok⟩⟩ := cx.at hf hfx
  rw [show He.fAd X.K fn.at_ = He.ma X.K (He.ga X.K c) "__eq__" by rw [ha0]; rfl] at F ok
  refine ⟨fun pins s σ H Q I h => ?_⟩
  have h0 := tEqO_of hf hi h
  refine thn (ha.run pins s σ H _ I h0) fun v s1 ⟨x, H1, I1, rx, q1⟩ => thn (hb.run pins s1 σ H1 _ I1 q1) fun u s2 ⟨y, H2, I2, ry, p, dx, fs, ex, ea, ⟨m, vh, e, hr, rr, hoth⟩, q⟩ => ?_
  subst ex
  obtain rfl : v = Value.ref p := rx
  obtain ⟨mA, O, _⟩ := ins_get I2.hok ea
  obtain ⟨od, J, _⟩ := O.look
  obtain ⟨mF, hF⟩ := I2.fr
  obtain ⟨tb, lk, nf⟩ := oth_of (c := c) I2 hr rr ry hoth
  have r2 : Vals [V.ref p, y] [Value.ref p, u] := .cons rfl (.cons ry .nil)
  refine PySem.W.cmp_K (op := .Eq) cx.room.units0 hF I.ok.mod.kin J lk nf hm.at_ hm.fn ?_
  exact wpAny_mono (run_G (E := WE W) (ar := ⟨[.ref p, u], []⟩) ok (cx.room.mono (by omega)) cx.gd (binds0 hb' I2.kIn (by rw [← r2.length]; exact sp_len q)) (L2N.passAt tk σ) I2 r2 q) (fun v s' z => back_of z) fun _ _ z => z
theorem pc_eqO (cx : CxF X T hots k) (tk : L2N.Takes X W) (hf : T f = some fn) (ha0 : fn.at_ = (c, some ("__eq__" : Str))) (hm : Meth X.K (He.ga X.K c) "__eq__" (He.ma X.K (He.ga X.K c) "__eq__")) (ha : SE X W sa a) (hb : SE X W sb b) :
    PC X .Eq a b (tE X.K W (sEqO (callN T k) c f sa sb)) := by
  obtain ⟨hi, ⟨fd, F, hb', ok⟩⟩ := cx.at hf
  rw [show He.fAd X.K fn.at_ = He.ma X.K (He.ga X.K c) "__eq__" by rw [ha0]; rfl] at F ok
  refine ⟨fun pins s σ H Q I h => ?_⟩
  have h0 := tEqO_of hf hi h
  refine thn (ha.run pins s σ H _ I h0) fun v s1 ⟨x, H1, I1, rx, q1⟩ => thn (hb.run pins s1 σ H1 _ I1 q1) fun u s2 ⟨y, H2, I2, ry, p, dx, fs, ex, ea, ⟨m, vh, e, hr, rr, hoth⟩, q⟩ => ?_
  subst ex
  obtain rfl : v = Value.ref p := rx
  obtain ⟨mA, O, _⟩ := ins_get I2.hok ea
  obtain ⟨od, J, _⟩ := O.look
  obtain ⟨mF, hF⟩ := I2.fr
  obtain ⟨tb, lk, nf⟩ := oth_of (c := c) I2 hr rr ry hoth
  have r2 : Vals [V.ref p, y] [Value.ref p, u] := .cons rfl (.cons ry .nil)
  refine PySem.W.cmp_K (op := .Eq) cx.room.units0 hF I.ok.mod.kin J lk nf hm.at_ hm.fn ?_
  exact wpAny_mono (run_fnS (E := WE W) (us := [.ref p, u]) (vs := [.ref p, y]) ok (cx.room.mono (by omega)) hb' (L2N.passAt tk σ) I2 r2 q) (fun v s' z => back_of z) fun _ _ z => z
end
/-! ### != -/
section
variable {prog : Program} {w : World} {A : Around} {E : Value → Shared → Prop} {s : Shared} {K : PySem.W.Frag} {x C L f : Addr} {h₀ : Heap} {m : Str → Option Value} {ox : Obj} {od : Option Obj} {b tb : Value}
theorem ifBound_objNe {M : Model} {args : List Value} {Q : Option Value → Shared → Prop} (X : K.In s.heap) (I : PySem.W.InstAt s.heap x ox C od) (hs : PySem.W.findIn K (.ref C) "__ne__" = some (some (.builtin "object.__ne__")))
    (h : wpAny M A (call (.builtin "object.__ne__") (.ref x :: args)) (fun v => Q (some v)) E s) : wpAny M A (callSpecialIfBound? (.ref x) "__ne__" args) Q E s := by
  simp only [callSpecialIfBound?, bindSpecialIfBound?]
  refine wpAny_holding (wpAny_bind (wpAny_bind (wpAny_bind (I.type.here ((PySem.W.looks_findIn X hs).here ?_)))))
  refine wpAny_bind (wpAny_askSetting (wpAny_ite ?_))
  have fin : wpAny M A (call (.builtin "object.__ne__") ([.ref x] ++ args) >>= fun v => pure (some v)) Q E s := wpAny_bind (wpAny_mono h (fun v s' h' => wpAny_pure h') fun _ _ h' => h')
  split
  · exact wpAny_bind (wpAny_of_eq (F.cmp_object.ne.bind _) (wpAny_pure (by exact fin)))
  · exact wpAny_tryCatch (wpAny_bind (wpAny_of_eq (F.cmp_object.ne.bind _) (wpAny_pure (by exact fin))))
theorem objNe_K (hu : A.units < cLine) (X : K.In s.heap) (I : PySem.W.InstAt s.heap x ox C od) (hs : PySem.W.findIn K (.ref C) "__eq__" = some (some (.ref f))) (hf : PySem.W.isFn K (.ref f) = true) {Q : Fin → Shared → Prop}
    (hcall : wpAny (model prog w) A (call (.ref f) [.ref x, b]) (fun v s' => ∃ t, v = .bool t ∧ Q (.done (.ret (.bool (!t)))) s') E s) :
    wpAny (model prog w) A (Builtin.«object.__ne__» ⟨[.ref x, b], []⟩) Q E s := by
  unfold Builtin.«object.__ne__»
  repeat (first
    | with_reducible refine wpAny_cRoomFor hu ?_
    | (refine wpAny_bind (m := callSpecialIfBound? (.ref x) (Str.ofString "__eq__") [b])
        (PySem.W.ifBound_K X I hs hf (wpAny_mono hcall (fun r s' hr => by
          obtain ⟨t, rfl, hq⟩ := hr
          repeat (first | exact hq | exact wpAny_pure hq | exact wpAny_truthy_bool hq | (refine wpAny_bind (m := truthy (.bool _)) (wpAny_truthy_bool ?_)) | wp_step)) fun _ _ e => e)))
    | wp_step)
theorem ne_K {Q : Value → Shared → Prop} (hu : A.units + 1 < cLine) (Fm : Fr h₀ L s.heap m) (X₀ : K.In h₀) (I : PySem.W.InstAt s.heap x ox C od) (hb : PySem.W.Looks (model prog w) s.heap (typeOf b) tb) (hn : PySem.W.notFirst K C tb = true)
    (hne : PySem.W.findIn K (.ref C) "__ne__" = some (some (.builtin "object.__ne__"))) (hobj : PySem.W.mroIn K C (.type "object") = some true)
    (hs : PySem.W.findIn K (.ref C) "__eq__" = some (some (.ref f))) (hf : PySem.W.isFn K (.ref f) = true)
    (h : wpAny (model prog w) A.in1 (call (.ref f) [.ref x, b]) (fun v s' => ∃ t, v = .bool t ∧ Q (.bool (!t)) s') E s) : wpAny (model prog w) A (richCompare .NotEq (.ref x) b) Q E s := by
  have X := X₀.keeps Fm.keep
  have one : wpAny (model prog w) A (tryCompare (.ref x) (cmpInfo .NotEq).2.1 b) (fun r s' => ∃ v, r = some v ∧ Q v s') E s := by
    unfold tryCompare
    refine wpAny_bind (ifBound_objNe X I hne (wpAny_call (codeAny_call_builtin F.cmp_object.ne.plain F.cmpEntry_ne
      (PySem.W.check_slot F.cmpKind_ne F.cmpSplit_ne (I.type.andThen (PySem.W.looks_mroIn X hobj)) (F.cmpArgs_ne _ _) (objNe_K (A := A.in1) hu X I hs hf (wpAny_mono h (fun v s' hv => ?_) fun _ _ e => e))))))
    obtain ⟨t, rfl, hq⟩ := hv
    exact ⟨t, rfl, wpAny_pure ⟨_, rfl, hq⟩⟩
  unfold richCompare
  simp only [oneThing_ref]
  refine wpAny_holding (wpAny_bind (wpAny_cRoomFor (Nat.lt_of_succ_lt hu) ?_))
  refine wpAny_bind (I.type.here (wpAny_bind (hb.here ?_)))
  split
  · rename_i q
    have e : PySem.W.subIn K tb (.ref C) = some false := by
      rcases Bool.or_eq_true_iff.mp hn with e | e
      · rw [beq_iff_eq.mp e] at q; simp at q
      · exact beq_iff_eq.mp e
    refine wpAny_bind ((PySem.W.looks_subIn X e).here ?_)
    simp only [Bool.false_eq_true, if_false]
    refine wpAny_bind (wpAny_mono one (fun r s' z => ?_) fun _ _ e => e)
    obtain ⟨v, rfl, hq⟩ := z
    exact wpAny_pure hq
  · refine wpAny_bind (wpAny_pure ?_)
    simp only [Bool.false_eq_true, if_false]
    refine wpAny_bind (wpAny_mono one (fun r s' z => ?_) fun _ _ e => e)
    obtain ⟨v, rfl, hq⟩ := z
    exact wpAny_pure hq
end
section
variable {X : Cx} {W : WX} {T : Nat → Option Fn} {hots xs : List Nat} {k : Nat} {fn : Fn} {c : Str} {pos : Pos} {a b : Expr} {sa sb : SemE} {f : Nat}
/-- what the own != wants of the class -/
def neB (K : PySem.W.Frag) (c : Str) : Bool := PySem.W.findIn K (.ref (He.ga K c)) "__ne__" == some (some (.builtin "object.__ne__")) && PySem.W.mroIn K (He.ga K c) (.type "object") == some true
structure NeOk (K : PySem.W.Frag) (c : Str) : Prop where
  ne : PySem.W.findIn K (.ref (He.ga K c)) "__ne__" = some (some (.builtin "object.__ne__"))
  ob : PySem.W.mroIn K (He.ga K c) (.type "object") = some true
theorem neB_ok {K : PySem.W.Frag} {c : Str} (h : neB K c = true) : NeOk K c := by
  unfold neB at h
  rw [Bool.and_eq_true, beq_iff_eq, beq_iff_eq] at h
  exact ⟨h.1, h.2⟩
theorem bool_of {pins : List (Addr × Obj)} {σ : L2.St} {Q : VK} {v : Value} {s : Shared} (h : EP X pins σ (fun v H3 => ∃ t, v = .bl t ∧ Q (.bl (!t)) H3) v s) : ∃ t, v = .bool t ∧ EP X pins σ Q (.bool (!t)) s := by
  obtain ⟨w, H, I, r, t, rfl, q⟩ := h
  cases r
  exact ⟨t, rfl, .bl (!t), H, I, rfl, q⟩
theorem pc_neOG (cx : CxG X T hots xs k) (tk : L2N.Takes X W) (hf : T f = some fn) (hfx : f ∉ xs) (ha0 : fn.at_ = (c, some ("__eq__" : Str))) (hm : Meth X.K (He.ga X.K c) "__eq__" (He.ma X.K (He.ga X.K c) "__eq__")) (hn : NeOk X.K c) (ha : SE X W sa a) (hb : SE X W sb b) :
    PC X .NotEq a b (tE X.K W (sNeO (callN T k) c f sa sb)) := by
  obtain ⟨hi, ⟨fd, F, hb', ok⟩⟩ := cx.at hf hfx
  rw [show He.fAd X.K fn.at_ = He.ma X.K (He.ga X.K c) "__eq__" by rw [ha0]; rfl] at F ok
  refine ⟨fun pins s σ H Q I h => ?_⟩
  have h0 := tNeO_of hf hi h
  refine thn (ha.run pins s σ H _ I h0) fun v s1 ⟨x, H1, I1, rx, q1⟩ => thn (hb.run pins s1 σ H1 _ I1 q1) fun u s2 ⟨y, H2, I2, ry, p, dx, fs, ex, ea, ⟨m, vh, e, hr, rr, hoth⟩, q⟩ => ?_
  subst ex
  obtain rfl : v = Value.ref p := rx
  obtain ⟨mA, O, _⟩ := ins_get I2.hok ea
  obtain ⟨od, J, _⟩ := O.look
  obtain ⟨mF, hF⟩ := I2.fr
  obtain ⟨tb, lk, nf⟩ := oth_of (c := c) I2 hr rr ry hoth
  have r2 : Vals [V.ref p, y] [Value.ref p, u] := .cons rfl (.cons ry .nil)
  have rm : Room (3 * k + 1) X.A.in1 := (cx.room.mono (by omega) : Room (3 * k + 1 + 1) X.A).in1
  refine ne_K rm.units0 hF I.ok.mod.kin J lk nf hn.ne hn.ob hm.at_ hm.fn ?_
  have e0 : Env0 X.prog X.w X.K X.mg X.base X.A.in1 X.stack s2 H2 := by
    have e := I2.env0
    exact ⟨e.frames, e.mod, e.bs, e.bsz, e.funs, e.frf, e.hok, e.bare⟩
  have gd : X.A.in1.guards = some [] := cx.gd
  have run : wpAny (model X.prog X.w) X.A.in1 (call (.ref (He.ma X.K (He.ga X.K c) "__eq__")) [.ref p, u]) (EP X pins σ (fun v H3 => ∃ t, v = .bl t ∧ Q (.bl (!t)) H3)) X.xe s2 := by
    refine wpAny_call (codeAny_mono (ok.run X.A.in1 X.stack s2 H2 ⟨[.ref p, u], []⟩ _ _ _ (WE W σ) (rm.mono (by omega)) gd e0 (binds0 hb' I2.kIn (by rw [← r2.length]; exact sp_len q)) r2 q) fun res s' hq => ?_)
    cases res with
    | error e => exact L2N.passAt tk σ pins H2 s2 e s' I2 hq
    | ok fl => cases fl <;> first | exact I2.after hq | exact hq.elim
  exact wpAny_mono run (fun v s' z => bool_of z) fun _ _ z => z
theorem pc_neO (cx : CxF X T hots k) (tk : L2N.Takes X W) (hf : T f = some fn) (ha0 : fn.at_ = (c, some ("__eq__" : Str))) (hm : Meth X.K (He.ga X.K c) "__eq__" (He.ma X.K (He.ga X.K c) "__eq__")) (hn : NeOk X.K c) (ha : SE X W sa a) (hb : SE X W sb b) :
    PC X .NotEq a b (tE X.K W (sNeO (callN T k) c f sa sb)) := by
  obtain ⟨hi, ⟨fd, F, hb', ok⟩⟩ := cx.at hf
  rw [show He.fAd X.K fn.at_ = He.ma X.K (He.ga X.K c) "__eq__" by rw [ha0]; rfl] at F ok
  refine ⟨fun pins s σ H Q I h => ?_⟩
  have h0 := tNeO_of hf hi h
  refine thn (ha.run pins s σ H _ I h0) fun v s1 ⟨x, H1, I1, rx, q1⟩ => thn (hb.run pins s1 σ H1 _ I1 q1) fun u s2 ⟨y, H2, I2, ry, p, dx, fs, ex, ea, ⟨m, vh, e, hr, rr, hoth⟩, q⟩ => ?_
  subst ex
  obtain rfl : v = Value.ref p := rx
  obtain ⟨mA, O, _⟩ := ins_get I2.hok ea
  obtain ⟨od, J, _⟩ := O.look
  obtain ⟨mF, hF⟩ := I2.fr
  obtain ⟨tb, lk, nf⟩ := oth_of (c := c) I2 hr rr ry hoth
  have r2 : Vals [V.ref p, y] [Value.ref p, u] := .cons rfl (.cons ry .nil)
  have rm : Room (3 * k + 1) X.A.in1 := (cx.room.mono (by omega) : Room (3 * k + 1 + 1) X.A).in1
  refine ne_K rm.units0 hF I.ok.mod.kin J lk nf hn.ne hn.ob hm.at_ hm.fn ?_
  have e0 : Env0 X.prog X.w X.K X.mg X.base X.A.in1 X.stack s2 H2 := by
    have e := I2.env0
    exact ⟨e.frames, e.mod, e.bs, e.bsz, e.funs, e.frf, e.hok, e.bare⟩
  have run : wpAny (model X.prog X.w) X.A.in1 (call (.ref (He.ma X.K (He.ga X.K c) "__eq__")) [.ref p, u]) (EP X pins σ (fun v H3 => ∃ t, v = .bl t ∧ Q (.bl (!t)) H3)) X.xe s2 := by
    refine wpAny_call (codeAny_mono (ok.run X.A.in1 X.stack s2 H2 ⟨[.ref p, u], []⟩ _ _ _ (WE W σ) (rm.mono (by omega)) e0 (binds0 hb' I2.kIn (by rw [← r2.length]; exact sp_len q)) r2 q) fun res s' hq => ?_)
    cases res with
    | error e => exact L2N.passAt tk σ pins H2 s2 e s' I2 hq
    | ok fl => cases fl <;> first | exact I2.after hq | exact hq.elim
  exact wpAny_mono run (fun v s' z => bool_of z) fun _ _ z => z
/-- a comparison by an own __eq__, as a value, as a test -/
theorem se_pc {op : CmpOp} {s : SemE} (h : PC X op a b (tE X.K W s)) (h1 : behindInMarks op b = false := by first | exact nobehind _ (by decide) (by decide) | rfl) : SE X W s (.Compare a [op] [b] pos) := pe_cmp h h1
theorem st_pc {op : CmpOp} {s : SemE} (h : PC X op a b (tE X.K W s)) (h1 : behindInMarks op b = false := by first | exact nobehind _ (by decide) (by decide) | rfl) : ST X W (sTB s) (.Compare a [op] [b] pos) :=
  ptImp (pt_cmp h h1) fun _ _ _ z => tB_of z
end
end VI

end
section
/-! the defs of k04: their sems, their derivations (printed by gen.py) -/
namespace LK
open PySem PySem.Spec L2 VI
open PyProof.Rows hiding St
def top (i : Nat) : Stmt := PySem.Challenge.pw_seatsbothways_k04_rule_marks_and_errors.main.body.getD i (.Pass ⟨0, 0, 0, 0⟩)
def mth (i j : Nat) : Stmt := match top i with | .ClassDef (body := b) .. => b.getD j (.Pass ⟨0, 0, 0, 0⟩) | _ => .Pass ⟨0, 0, 0, 0⟩
def exL : List Str := ["InvalidNumber", "InvalidRule"]
def clL : List Str := ["Rule"]
def exSub (c d : Str) : Bool := d == c || c == ("SeatError" : Str)
abbrev i_is_integer : Nat := 0
abbrev i_is_from_to : Nat := 1
abbrev i_reduced : Nat := 2
abbrev i_RuleU_initU : Nat := 3
abbrev i_RuleU_eqU : Nat := 4
abbrev i_Rule_mark : Nat := 5
abbrev i_Rule_mark_of : Nat := 6
abbrev i__law_pool : Nat := 7
abbrev i__law_draw : Nat := 8
abbrev i__law_same : Nat := 9
abbrev i__law_lowest : Nat := 10
abbrev i__law_made : Nat := 11
abbrev i__law_marked : Nat := 12
abbrev i__law_wrong : Nat := 13
abbrev i__law_second : Nat := 14
abbrev i__law_equals : Nat := 15
abbrev i_law : Nat := 16
abbrev st_is_integer : Stmt := top 7
def sem_is_integer (C : Calls) : SemS :=
 (sRet (sAndV (sIsi .int (sVar 0)) (sNotV (sIsi .bl (sVar 0)))))
def fn_is_integer : Fn := ⟨i_is_integer, ("is_integer", none), "is_integer", "is_integer", st_is_integer, ["value"], ["value"], .pure, sem_is_integer⟩
abbrev st_is_from_to : Stmt := top 8
def sem_is_from_to (C : Calls) : SemS :=
 (sRet (sAndV (sCall C i_is_integer (sCons (sVar 0) sNil)) (sChain oLe oLe (sVar 1) (sVar 0) (sVar 2))))
def fn_is_from_to : Fn := ⟨i_is_from_to, ("is_from_to", none), "is_from_to", "is_from_to", st_is_from_to, ["value", "least", "most"], ["value", "least", "most"], .pure, sem_is_from_to⟩
abbrev st_reduced : Stmt := top 10
def sem_reduced (C : Calls) : SemS :=
 (sSeq (sSet 2 (sCallB oGcd (sCons (sVar 0) (sCons (sVar 1) sNil))))
 (sRet (sTup (sCons (sBin oFdiv (sVar 0) (sVar 2)) (sCons (sBin oFdiv (sVar 1) (sVar 2)) sNil)))))
def fn_reduced : Fn := ⟨i_reduced, ("reduced", none), "reduced", "reduced", st_reduced, ["top", "bottom"], ["top", "bottom", "common"], .pure, sem_reduced⟩
abbrev st_RuleU_initU : Stmt := mth 14 0
def sem_RuleU_initU (C : Calls) : SemS :=
 (sSeq (sIf (sNotT (sTB (sCall C i_is_from_to (sCons (sVar 2) (sCons (sCst (.int 1)) (sCons (sCst (.int 20)) sNil))))))
 (sRaise "InvalidRule" ["part"] (sCons (sCst (.str "bottom")) sNil))
 sSkip)
 (sSeq (sIf (sNotT (sTB (sCall C i_is_from_to (sCons (sVar 1) (sCons (sCst (.int 0)) (sCons (sVar 2) sNil))))))
 (sRaise "InvalidRule" ["part"] (sCons (sCst (.str "top")) sNil))
 sSkip)
 (sPutNew "Rule" [] "part" (sVar 0) (sCall C i_reduced (sCons (sVar 1) (sCons (sVar 2) sNil))))))
def fn_RuleU_initU : Fn := ⟨i_RuleU_initU, ("Rule", some "__init__"), "__init__", "Rule.__init__", st_RuleU_initU, ["self", "top", "bottom"], ["self", "top", "bottom"], .keep, sem_RuleU_initU⟩
abbrev st_RuleU_eqU : Stmt := mth 14 1
def sem_RuleU_eqU (C : Calls) : SemS :=
 (sRet (sAndV (sIsC clL "Rule" (sVar 1)) (sBin oEq (sFld "Rule" ["part"] 0 (sVar 0)) (sFld "Rule" ["part"] 0 (sVar 1)))))
def fn_RuleU_eqU : Fn := ⟨i_RuleU_eqU, ("Rule", some "__eq__"), "__eq__", "Rule.__eq__", st_RuleU_eqU, ["self", "other"], ["self", "other"], .pure, sem_RuleU_eqU⟩
abbrev st_Rule_mark : Stmt := mth 14 2
def sem_Rule_mark (C : Calls) : SemS :=
 (sSeq (sIf (sNotT (sTB (sCall C i_is_from_to (sCons (sVar 1) (sCons (sCst (.int 1)) (sCons (sCst (.int 1000)) sNil))))))
 (sRaise "InvalidNumber" ["value"] (sCons (sVar 1) sNil))
 sSkip)
 (sRet (sMeth C "Rule" "mark_of" i_Rule_mark_of (sVar 0) (sCons (sVar 1) sNil))))
def fn_Rule_mark : Fn := ⟨i_Rule_mark, ("Rule", some "mark"), "mark", "Rule.mark", st_Rule_mark, ["self", "k"], ["self", "k"], .pure, sem_Rule_mark⟩
abbrev st_Rule_mark_of : Stmt := mth 14 3
def sem_Rule_mark_of (C : Calls) : SemS :=
 (sSeq (sAsg (sFld "Rule" ["part"] 0 (sVar 0)) (gT 2 (gsCons (gN 2) (gsCons (gN 3) gsNil))))
 (sRet (sCall C i_reduced (sCons (sBin (oAdd false) (sBin (oMul false) (sBin oSub (sVar 1) (sCst (.int 1))) (sVar 3)) (sVar 2)) (sCons (sVar 3) sNil)))))
def fn_Rule_mark_of : Fn := ⟨i_Rule_mark_of, ("Rule", some "mark_of"), "mark_of", "Rule.mark_of", st_Rule_mark_of, ["self", "k"], ["self", "k", "top", "bottom"], .pure, sem_Rule_mark_of⟩
abbrev st__law_pool : Stmt := top 16
def sem__law_pool (C : Calls) : SemS :=
 (sSeq (sSet 1 (sLc false [3] (sIt (sSl false (sVar 0) sNoP (sPart (sCst (.int 63))))) (gN 3) sYes (sCallB oInt (sCons (sVar 3) sNil))))
 (sSeq (sSet 2 (sBin (oAdd false) (sCst (.int 1442695040888963407)) (sCallB oLen (sCons (sVar 1) sNil))))
 (sSeq (sFor (sIt (sVar 1)) (gN 3)
 (sSet 2 (sBin oMod (sBin (oAdd false) (sBin (oAdd false) (sBin (oMul false) (sVar 2) (sVar 2)) (sVar 3)) (sCst (.int 5))) (sCst (.int 2305843009213693951)))))
 (sRet (sLst true (sCons (sVar 1) (sCons (sCst (.int 0)) (sCons (sCst (.int 0)) (sCons (sVar 2) sNil)))))))))
def fn__law_pool : Fn := ⟨i__law_pool, ("_law_pool", none), "_law_pool", "_law_pool", st__law_pool, ["script"], ["script", "cells", "state", "cell"], .fresh, sem__law_pool⟩
abbrev st__law_draw : Stmt := top 17
def sem__law_draw (C : Calls) : SemS :=
 (sSeq (sIf (sTB (sBin oLt (sBin oIx (sVar 0) (sCst (.int 2))) (sVar 1)))
 (sSeq (sSet 2 (sCst (.int 0)))
 (sSeq (sIf (sTB (sBin oLt (sBin oIx (sVar 0) (sCst (.int 1))) (sCallB oLen (sCons (sBin oIx (sVar 0) (sCst (.int 0))) sNil))))
 (sSet 2 (sCallB oAbs (sCons (sBin oIx (sBin oIx (sVar 0) (sCst (.int 0))) (sBin oIx (sVar 0) (sCst (.int 1)))) sNil)))
 sSkip)
 (sSeq (sPutL (sBin (oAdd false) (sBin oIx (sVar 0) (sCst (.int 1))) (sCst (.int 1))) (sVar 0) (sCst (.int 1)))
 (sSeq (sPutL (sCst (.int 0)) (sVar 0) (sCst (.int 2)))
 (sSeq (sIf (sTB (sBin oGe (sVar 2) (sBin oPow (sCst (.int 10)) (sCst (.int 18)))))
 (sPutL (sVar 2) (sVar 0) (sCst (.int 2)))
 sSkip)
 (sPutL (sBin oMod (sBin (oAdd false) (sBin (oAdd false) (sBin (oMul false) (sBin oIx (sVar 0) (sCst (.int 3))) (sBin oIx (sVar 0) (sCst (.int 3)))) (sVar 2)) (sBin oIx (sVar 0) (sCst (.int 1)))) (sCst (.int 2305843009213693951))) (sVar 0) (sCst (.int 3))))))))
 sSkip)
 (sSeq (sIf (sTB (sBin oGe (sBin oIx (sVar 0) (sCst (.int 2))) (sVar 1)))
 (sSeq (sSet 3 (sBin oMod (sCallB oInt (sCons (sBin oIx (sVar 0) (sCst (.int 2))) sNil)) (sVar 1)))
 (sSeq (sPutL (sBin oFdiv (sBin oIx (sVar 0) (sCst (.int 2))) (sVar 1)) (sVar 0) (sCst (.int 2)))
 (sRet (sVar 3))))
 sSkip)
 (sRet (sBin oMod (sCallB oInt (sCons (sBin oFdiv (sBin oIx (sVar 0) (sCst (.int 3))) (sCst (.int 1048576))) sNil)) (sVar 1)))))
def fn__law_draw : Fn := ⟨i__law_draw, ("_law_draw", none), "_law_draw", "_law_draw", st__law_draw, ["pool", "limit"], ["pool", "limit", "cell", "told"], .keep, sem__law_draw⟩
abbrev st__law_same : Stmt := top 18
def sem__law_same (C : Calls) : SemS :=
 (sSeq (sIf (sOrT (sTB (sIsi .tup (sVar 1))) (sTB (sIsi .lst (sVar 1))))
 (sSeq (sIf (sOrT (sTB (sBin oNe (sIsi .tup (sVar 0)) (sIsi .tup (sVar 1)))) (sTB (sBin oNe (sIsi .lst (sVar 0)) (sIsi .lst (sVar 1)))))
 (sRet (sCst (.bl false)))
 sSkip)
 (sSeq (sIf (sTB (sBin oNe (sCallB oLen (sCons (sVar 0) sNil)) (sCallB oLen (sCons (sVar 1) sNil))))
 (sRet (sCst (.bl false)))
 sSkip)
 (sSeq (sFor (sItA oRng1 (sCons (sCallB oLen (sCons (sVar 1) sNil)) sNil)) (gN 2)
 (sIf (sNotT (sTB (sCall C i__law_same (sCons (sBin oIx (sVar 0) (sVar 2)) (sCons (sBin oIx (sVar 1) (sVar 2)) sNil)))))
 (sRet (sCst (.bl false)))
 sSkip))
 (sRet (sCst (.bl true))))))
 sSkip)
 (sSeq (sIf (sTB (sBin oIs (sVar 1) (sCst .non)))
 (sRet (sBin oIs (sVar 0) (sCst .non)))
 sSkip)
 (sSeq (sIf (sTB (sBin oIs (sVar 1) (sCst (.bl true))))
 (sRet (sBin oIs (sVar 0) (sCst (.bl true))))
 sSkip)
 (sSeq (sIf (sTB (sBin oIs (sVar 1) (sCst (.bl false))))
 (sRet (sBin oIs (sVar 0) (sCst (.bl false))))
 sSkip)
 (sSeq (sIf (sTB (sIsi .int (sVar 1)))
 (sRet (sAndV (sIsi .int (sVar 0)) (sAndV (sNotV (sIsi .bl (sVar 0))) (sBin oEq (sVar 0) (sVar 1)))))
 sSkip)
 (sRet (sAndV (sIsi .str (sVar 0)) (sBin oEq (sVar 0) (sVar 1)))))))))
def fn__law_same : Fn := ⟨i__law_same, ("_law_same", none), "_law_same", "_law_same", st__law_same, ["told", "due"], ["told", "due", "spot"], .pure, sem__law_same⟩
abbrev st__law_lowest : Stmt := top 19
def sem__law_lowest (C : Calls) : SemS :=
 (sSeq (sSet 2 (sVar 0))
 (sSeq (sSet 3 (sVar 1))
 (sSeq (sFor (sItA oRng1 (sCons (sCst (.int 200)) sNil)) (gN 4)
 (sIf (sTB (sBin oGt (sVar 3) (sCst (.int 0))))
 (sSeq (sSet 5 (sBin oMod (sCallB oInt (sCons (sVar 2) sNil)) (sVar 3)))
 (sSeq (sSet 2 (sVar 3))
 (sSet 3 (sVar 5))))
 sSkip))
 (sRet (sTup (sCons (sBin oFdiv (sVar 0) (sVar 2)) (sCons (sBin oFdiv (sVar 1) (sVar 2)) sNil)))))))
def fn__law_lowest : Fn := ⟨i__law_lowest, ("_law_lowest", none), "_law_lowest", "_law_lowest", st__law_lowest, ["over", "under"], ["over", "under", "great", "small", "step", "rest"], .pure, sem__law_lowest⟩
abbrev st__law_made : Stmt := top 20
def sem__law_made (C : Calls) : SemS :=
 (sSeq (sTry exL (sSet 3 (sNewK C true "Rule" i_RuleU_initU 2 (fun us ws => perm [0, 1, 2] (us ++ ws)) (sCons (sVar 0) (sCons (sVar 1) sNil)))) [⟨"InvalidRule", exSub "InvalidRule", (some 2), fun a dd c => (sRet (sTup (sCons (sCst (.str "rule")) (sCons (sXf a dd c "InvalidRule" ["part"] 0 2) sNil))))⟩])
 (sRet (sTup (sCons (sCst (.str "told")) (sCons (sFld "Rule" ["part"] 0 (sVar 3)) sNil)))))
def fn__law_made : Fn := ⟨i__law_made, ("_law_made", none), "_law_made", "_law_made", st__law_made, ["over", "under"], ["over", "under", "e", "held"], .pure, sem__law_made⟩
abbrev st__law_marked : Stmt := top 21
def sem__law_marked (C : Calls) : SemS :=
 (sTry exL (sRet (sTup (sCons (sCst (.str "told")) (sCons (sMeth C "Rule" "mark" i_Rule_mark (sVar 0) (sCons (sVar 1) sNil)) sNil)))) [⟨"InvalidNumber", exSub "InvalidNumber", (some 2), fun a dd c => (sRet (sTup (sCons (sCst (.str "number")) (sCons (sXf a dd c "InvalidNumber" ["value"] 0 2) sNil))))⟩])
def fn__law_marked : Fn := ⟨i__law_marked, ("_law_marked", none), "_law_marked", "_law_marked", st__law_marked, ["held", "step"], ["held", "step", "e"], .pure, sem__law_marked⟩
abbrev st__law_wrong : Stmt := top 22
def sem__law_wrong (C : Calls) : SemS :=
 (sSeq (sSet 2 (sLst false (sCons (sUn oNeg (sCst (.int 1))) (sCons (sBin (oAdd false) (sVar 1) (sCst (.int 1))) (sCons (sBin (oAdd false) (sVar 1) (sCst (.int 2))) (sCons (sBin oPow (sCst (.int 10)) (sCst (.int 30))) (sCons (sUn oNeg (sBin oPow (sCst (.int 10)) (sCst (.int 30)))) (sCons (sCst .non) (sCons (sCst (.bl true)) (sCons (sCst (.bl false)) (sCons (sCst (.str "1")) (sCons (sTup (sCons (sCst (.int 1)) sNil)) (sCons (sLst false (sCons (sCst (.int 1)) sNil)) (sCons (sTup (sCons (sCst (.int 1)) (sCons (sCst (.int 2)) sNil))) sNil))))))))))))))
 (sRet (sBin oIx (sVar 2) (sCall C i__law_draw (sCons (sVar 0) (sCons (sCallB oLen (sCons (sVar 2) sNil)) sNil))))))
def fn__law_wrong : Fn := ⟨i__law_wrong, ("_law_wrong", none), "_law_wrong", "_law_wrong", st__law_wrong, ["pool", "limit"], ["pool", "limit", "wrong"], .keep, sem__law_wrong⟩
abbrev st__law_second : Stmt := top 23
def sem__law_second (C : Calls) : SemS :=
 (sSeq (sSet 3 (sCall C i__law_draw (sCons (sVar 0) (sCons (sCst (.int 3)) sNil))))
 (sSeq (sSet 4 (sCall C i__law_lowest (sCons (sVar 1) (sCons (sVar 2) sNil))))
 (sSeq (sIf (sTB (sBin oEq (sVar 3) (sCst (.int 0))))
 (sSeq (sSet 5 (sBin (oAdd false) (sCst (.int 1)) (sCall C i__law_draw (sCons (sVar 0) (sCons (sBin oFdiv (sCst (.int 20)) (sBin oIx (sVar 4) (sCst (.int 1)))) sNil)))))
 (sRet (sTup (sCons (sBin (oMul false) (sBin oIx (sVar 4) (sCst (.int 0))) (sVar 5)) (sCons (sBin (oMul false) (sBin oIx (sVar 4) (sCst (.int 1))) (sVar 5)) sNil)))))
 sSkip)
 (sSeq (sIf (sAndT (sTB (sBin oEq (sVar 3) (sCst (.int 1)))) (sTB (sBin oGt (sVar 2) (sCst (.int 1)))))
 (sRet (sTup (sCons (sCallB oMin2 (sCons (sVar 1) (sCons (sBin oSub (sVar 2) (sCst (.int 1))) sNil))) (sCons (sBin oSub (sVar 2) (sCst (.int 1))) sNil))))
 sSkip)
 (sSeq (sSet 2 (sBin (oAdd false) (sCst (.int 1)) (sCall C i__law_draw (sCons (sVar 0) (sCons (sCst (.int 20)) sNil)))))
 (sRet (sTup (sCons (sCall C i__law_draw (sCons (sVar 0) (sCons (sBin (oAdd false) (sVar 2) (sCst (.int 1))) sNil))) (sCons (sVar 2) sNil)))))))))
def fn__law_second : Fn := ⟨i__law_second, ("_law_second", none), "_law_second", "_law_second", st__law_second, ["pool", "over", "under"], ["pool", "over", "under", "kind", "low", "times"], .keep, sem__law_second⟩
abbrev st__law_equals : Stmt := top 24
def sem__law_equals (C : Calls) : SemS :=
 (sSeq (sIf (sOrT (sNotT (sTB (sCall C i__law_same (sCons (sEqO C "Rule" i_RuleU_eqU (sVar 0) (sVar 1)) (sCons (sVar 2) sNil))))) (sNotT (sTB (sCall C i__law_same (sCons (sEqO C "Rule" i_RuleU_eqU (sVar 1) (sVar 0)) (sCons (sVar 2) sNil))))))
 (sRet (sCst (.bl false)))
 sSkip)
 (sRet (sAndV (sCall C i__law_same (sCons (sNeO C "Rule" i_RuleU_eqU (sVar 0) (sVar 1)) (sCons (sNotV (sVar 2)) sNil))) (sCall C i__law_same (sCons (sEqO C "Rule" i_RuleU_eqU (sVar 0) (sVar 0)) (sCons (sCst (.bl true)) sNil))))))
def fn__law_equals : Fn := ⟨i__law_equals, ("_law_equals", none), "_law_equals", "_law_equals", st__law_equals, ["held", "again", "due"], ["held", "again", "due"], .pure, sem__law_equals⟩
abbrev st_law : Stmt := top 25
def sem_law (C : Calls) : SemS :=
 (sSeq (sSet 1 (sCall C i__law_pool (sCons (sVar 0) sNil)))
 (sSeq (sSet 2 (sBin (oAdd false) (sCst (.int 1)) (sCall C i__law_draw (sCons (sVar 1) (sCons (sCst (.int 20)) sNil)))))
 (sSeq (sSet 3 (sCall C i__law_draw (sCons (sVar 1) (sCons (sBin (oAdd false) (sVar 2) (sCst (.int 1))) sNil))))
 (sSeq (sIf (sTB (sBin oEq (sCall C i__law_draw (sCons (sVar 1) (sCons (sCst (.int 4)) sNil))) (sCst (.int 0))))
 (sSet 3 (sBin (oMul false) (sVar 2) (sCall C i__law_draw (sCons (sVar 1) (sCons (sCst (.int 2)) sNil)))))
 sSkip)
 (sSeq (sIf (sNotT (sTB (sCall C i__law_same (sCons (sCall C i__law_made (sCons (sVar 3) (sCons (sVar 2) sNil))) (sCons (sTup (sCons (sCst (.str "told")) (sCons (sCall C i__law_lowest (sCons (sVar 3) (sCons (sVar 2) sNil))) sNil))) sNil)))))
 (sRet (sCst (.bl false)))
 sSkip)
 (sSeq (sSet 4 (sNew C true "Rule" i_RuleU_initU (sCons (sVar 3) (sCons (sVar 2) sNil))))
 (sSeq (sFor (sIt (sLst false (sCons (sCst (.int 1)) (sCons (sCst (.int 2)) (sCons (sCst (.int 999)) (sCons (sCst (.int 1000)) (sCons (sBin (oAdd false) (sCst (.int 1)) (sCall C i__law_draw (sCons (sVar 1) (sCons (sCst (.int 1000)) sNil)))) (sCons (sBin (oAdd false) (sCst (.int 1)) (sCall C i__law_draw (sCons (sVar 1) (sCons (sCst (.int 30)) sNil)))) sNil)))))))) (gN 5)
 (sSeq (sSet 11 (sCall C i__law_lowest (sCons (sBin (oAdd false) (sBin (oMul false) (sVar 2) (sBin oSub (sVar 5) (sCst (.int 1)))) (sVar 3)) (sCons (sVar 2) sNil))))
 (sIf (sNotT (sTB (sCall C i__law_same (sCons (sCall C i__law_marked (sCons (sVar 4) (sCons (sVar 5) sNil))) (sCons (sTup (sCons (sCst (.str "told")) (sCons (sVar 11) sNil))) sNil)))))
 (sRet (sCst (.bl false)))
 sSkip)))
 (sSeq (sIf (sNotT (sTB (sCall C i__law_same (sCons (sMethK C "Rule" "mark" i_Rule_mark 1 1 (fun us ws => perm [0, 1] (us ++ ws)) (sVar 4) sNil (sCons (sCst (.int 7)) sNil)) (sCons (sCall C i__law_lowest (sCons (sBin (oAdd false) (sBin (oMul false) (sVar 2) (sCst (.int 6))) (sVar 3)) (sCons (sVar 2) sNil))) sNil)))))
 (sRet (sCst (.bl false)))
 sSkip)
 (sSeq (sSet 6 (sCall C i__law_wrong (sCons (sVar 1) (sCons (sCst (.int 1000)) sNil))))
 (sSeq (sIf (sOrT (sNotT (sTB (sCall C i__law_same (sCons (sCall C i__law_marked (sCons (sVar 4) (sCons (sVar 6) sNil))) (sCons (sTup (sCons (sCst (.str "number")) (sCons (sVar 6) sNil))) sNil))))) (sNotT (sTB (sCall C i__law_same (sCons (sCall C i__law_marked (sCons (sVar 4) (sCons (sCst (.int 0)) sNil))) (sCons (sTup (sCons (sCst (.str "number")) (sCons (sCst (.int 0)) sNil))) sNil))))))
 (sRet (sCst (.bl false)))
 sSkip)
 (sSeq (sSet 7 (sCall C i__law_second (sCons (sVar 1) (sCons (sVar 3) (sCons (sVar 2) sNil)))))
 (sSeq (sSet 8 (sNew C true "Rule" i_RuleU_initU (sCons (sBin oIx (sVar 7) (sCst (.int 0))) (sCons (sBin oIx (sVar 7) (sCst (.int 1))) sNil))))
 (sSeq (sIf (sNotT (sTB (sCall C i__law_equals (sCons (sVar 4) (sCons (sVar 8) (sCons (sBin oEq (sBin (oMul false) (sVar 3) (sBin oIx (sVar 7) (sCst (.int 1)))) (sBin (oMul false) (sBin oIx (sVar 7) (sCst (.int 0))) (sVar 2))) sNil))))))
 (sRet (sCst (.bl false)))
 sSkip)
 (sSeq (sFor (sIt (sLst false (sCons (sCst .non) (sCons (sFld "Rule" ["part"] 0 (sVar 4)) (sCons (sTup (sCons (sVar 3) (sCons (sVar 2) sNil))) (sCons (sVar 3) (sCons (sCst (.int 0)) (sCons (sCst (.str "")) (sCons (sLst false (sCons (sVar 3) (sCons (sVar 2) sNil))) (sCons (sCst (.bl true)) sNil)))))))))) (gN 9)
 (sIf (sOrT (sNotT (sTB (sCall C i__law_same (sCons (sEqO C "Rule" i_RuleU_eqU (sVar 4) (sVar 9)) (sCons (sCst (.bl false)) sNil))))) (sNotT (sTB (sCall C i__law_same (sCons (sNeO C "Rule" i_RuleU_eqU (sVar 4) (sVar 9)) (sCons (sCst (.bl true)) sNil))))))
 (sRet (sCst (.bl false)))
 sSkip))
 (sSeq (sSet 10 (sCall C i__law_wrong (sCons (sVar 1) (sCons (sCst (.int 20)) sNil))))
 (sSeq (sIf (sNotT (sTB (sCall C i__law_same (sCons (sCall C i__law_made (sCons (sVar 3) (sCons (sVar 10) sNil))) (sCons (sTup (sCons (sCst (.str "rule")) (sCons (sCst (.str "bottom")) sNil))) sNil)))))
 (sRet (sCst (.bl false)))
 sSkip)
 (sSeq (sIf (sNotT (sTB (sCall C i__law_same (sCons (sCall C i__law_made (sCons (sVar 3) (sCons (sCst (.int 0)) sNil))) (sCons (sTup (sCons (sCst (.str "rule")) (sCons (sCst (.str "bottom")) sNil))) sNil)))))
 (sRet (sCst (.bl false)))
 sSkip)
 (sSeq (sIf (sNotT (sTB (sCall C i__law_same (sCons (sCall C i__law_made (sCons (sCall C i__law_wrong (sCons (sVar 1) (sCons (sVar 2) sNil))) (sCons (sVar 10) sNil))) (sCons (sTup (sCons (sCst (.str "rule")) (sCons (sCst (.str "bottom")) sNil))) sNil)))))
 (sRet (sCst (.bl false)))
 sSkip)
 (sSeq (sIf (sNotT (sTB (sCall C i__law_same (sCons (sCall C i__law_made (sCons (sCall C i__law_wrong (sCons (sVar 1) (sCons (sVar 2) sNil))) (sCons (sVar 2) sNil))) (sCons (sTup (sCons (sCst (.str "rule")) (sCons (sCst (.str "top")) sNil))) sNil)))))
 (sRet (sCst (.bl false)))
 sSkip)
 (sRet (sCall C i__law_same (sCons (sFld "Rule" ["part"] 0 (sVar 4)) (sCons (sCall C i__law_lowest (sCons (sVar 3) (sCons (sVar 2) sNil))) sNil)))))))))))))))))))))))
def fn_law : Fn := ⟨i_law, ("law", none), "law", "law", st_law, ["script"], ["script", "pool", "under", "over", "held", "step", "bad", "pair", "again", "thing", "wrong", "due"], .pure, sem_law⟩
def table : List Fn := [fn_is_integer, fn_is_from_to, fn_reduced, fn_RuleU_initU, fn_RuleU_eqU, fn_Rule_mark, fn_Rule_mark_of, fn__law_pool, fn__law_draw, fn__law_same, fn__law_lowest, fn__law_made, fn__law_marked, fn__law_wrong, fn__law_second, fn__law_equals, fn_law]
abbrev T : Nat → Option Fn := tab table
def hots : List Nat := []
structure Nm (P : Program) (w : World) (K : PySem.W.Frag) (mg : Str → Option Value) (base : Heap) : Prop where
  c_MOST_BOTTOM : ∃ t, mg "MOST_BOTTOM" = some (.int 20 t)
  c_MOST_MARK : ∃ t, mg "MOST_MARK" = some (.int 1000 t)
  cl_Rule : Cls K (He.ga K "Rule")
  g_InvalidNumber : mg "InvalidNumber" = some (.ref (He.ga K "InvalidNumber"))
  g_InvalidRule : mg "InvalidRule" = some (.ref (He.ga K "InvalidRule"))
  g_Rule : mg "Rule" = some (.ref (He.ga K "Rule"))
  g__law_draw : mg "_law_draw" = some (.ref (He.ga K "_law_draw"))
  g__law_equals : mg "_law_equals" = some (.ref (He.ga K "_law_equals"))
  g__law_lowest : mg "_law_lowest" = some (.ref (He.ga K "_law_lowest"))
  g__law_made : mg "_law_made" = some (.ref (He.ga K "_law_made"))
  g__law_marked : mg "_law_marked" = some (.ref (He.ga K "_law_marked"))
  g__law_pool : mg "_law_pool" = some (.ref (He.ga K "_law_pool"))
  g__law_same : mg "_law_same" = some (.ref (He.ga K "_law_same"))
  g__law_second : mg "_law_second" = some (.ref (He.ga K "_law_second"))
  g__law_wrong : mg "_law_wrong" = some (.ref (He.ga K "_law_wrong"))
  g_is_from_to : mg "is_from_to" = some (.ref (He.ga K "is_from_to"))
  g_is_integer : mg "is_integer" = some (.ref (He.ga K "is_integer"))
  g_reduced : mg "reduced" = some (.ref (He.ga K "reduced"))
  ic_Rule : IsC K clL "Rule"
  mk_Rule : Mk K (He.ga K "Rule") (He.ma K (He.ga K "Rule") "__init__")
  mt_Rule___eq__ : Meth K (He.ga K "Rule") "__eq__" (He.ma K (He.ga K "Rule") "__eq__")
  mt_Rule_mark : Meth K (He.ga K "Rule") "mark" (He.ma K (He.ga K "Rule") "mark")
  mt_Rule_mark_of : Meth K (He.ga K "Rule") "mark_of" (He.ma K (He.ga K "Rule") "mark_of")
  n_abs : mg "abs" = none
  n_bool : mg "bool" = none
  n_gcd : mg "gcd" = some (.builtin "math.gcd")
  n_int : mg "int" = none
  n_isinstance : mg "isinstance" = none
  n_len : mg "len" = none
  n_list : mg "list" = none
  n_min : mg "min" = none
  n_range : mg "range" = none
  n_str : mg "str" = none
  n_tuple : mg "tuple" = none
  na_Rule_part : NoAttr K (He.ga K "Rule") "part"
  ne_Rule : NeOk K "Rule"
  xc_InvalidNumber : ExC P w K mg base "InvalidNumber" ["value"]
  xc_InvalidRule : ExC P w K mg base "InvalidRule" ["part"]
  xm_InvalidNumber : ∀ c ∈ exL, PySem.W.exmOne K (.ref (He.ga K c)) (.ref (He.ga K "InvalidNumber")) = some (exSub "InvalidNumber" c)
  xm_InvalidRule : ∀ c ∈ exL, PySem.W.exmOne K (.ref (He.ga K c)) (.ref (He.ga K "InvalidRule")) = some (exSub "InvalidRule" c)
theorem kw_RuleU_initU_0 : KwOk fn_RuleU_initU 1 ["top", "bottom"] (fun us ws => perm [0, 1, 2] (us ++ ws)) :=
  kwPerm fun _ _ _ _ _ _ us ws h1 h2 => match us, ws, h1, h2 with | [a0], [b0, b1], _, _ => rfl
theorem kw_Rule_mark_0 : KwOk fn_Rule_mark 1 ["k"] (fun us ws => perm [0, 1] (us ++ ws)) :=
  kwPerm fun _ _ _ _ _ _ us ws h1 h2 => match us, ws, h1, h2 with | [a0], [b0], _, _ => rfl
theorem sc_is_integer : FnScope fn_is_integer.N fn_is_integer.ps (defScope fn_is_integer.st) := ⟨rfl, rfl, rfl, by decide +kernel, rfl, by decide +kernel, by decide +kernel⟩
theorem bd_is_integer : BindOk fn_is_integer := fun _ _ _ _ _ _ us hl => match us, hl with | [_], _ => rfl
theorem sc_is_from_to : FnScope fn_is_from_to.N fn_is_from_to.ps (defScope fn_is_from_to.st) := ⟨rfl, rfl, rfl, by decide +kernel, rfl, by decide +kernel, by decide +kernel⟩
theorem bd_is_from_to : BindOk fn_is_from_to := fun _ _ _ _ _ _ us hl => match us, hl with | [_, _, _], _ => rfl
theorem sc_reduced : FnScope fn_reduced.N fn_reduced.ps (defScope fn_reduced.st) := ⟨rfl, rfl, rfl, by decide +kernel, rfl, by decide +kernel, by decide +kernel⟩
theorem bd_reduced : BindOk fn_reduced := fun _ _ _ _ _ _ us hl => match us, hl with | [_, _], _ => rfl
theorem sc_RuleU_initU : FnScope fn_RuleU_initU.N fn_RuleU_initU.ps (defScope fn_RuleU_initU.st) := ⟨rfl, rfl, rfl, by decide +kernel, rfl, by decide +kernel, by decide +kernel⟩
theorem bd_RuleU_initU : BindOk fn_RuleU_initU := fun _ _ _ _ _ _ us hl => match us, hl with | [_, _, _], _ => rfl
theorem sc_RuleU_eqU : FnScope fn_RuleU_eqU.N fn_RuleU_eqU.ps (defScope fn_RuleU_eqU.st) := ⟨rfl, rfl, rfl, by decide +kernel, rfl, by decide +kernel, by decide +kernel⟩
theorem bd_RuleU_eqU : BindOk fn_RuleU_eqU := fun _ _ _ _ _ _ us hl => match us, hl with | [_, _], _ => rfl
theorem sc_Rule_mark : FnScope fn_Rule_mark.N fn_Rule_mark.ps (defScope fn_Rule_mark.st) := ⟨rfl, rfl, rfl, by decide +kernel, rfl, by decide +kernel, by decide +kernel⟩
theorem bd_Rule_mark : BindOk fn_Rule_mark := fun _ _ _ _ _ _ us hl => match us, hl with | [_, _], _ => rfl
theorem sc_Rule_mark_of : FnScope fn_Rule_mark_of.N fn_Rule_mark_of.ps (defScope fn_Rule_mark_of.st) := ⟨rfl, rfl, rfl, by decide +kernel, rfl, by decide +kernel, by decide +kernel⟩
theorem bd_Rule_mark_of : BindOk fn_Rule_mark_of := fun _ _ _ _ _ _ us hl => match us, hl with | [_, _], _ => rfl
theorem sc__law_pool : FnScope fn__law_pool.N fn__law_pool.ps (defScope fn__law_pool.st) := ⟨rfl, rfl, rfl, by decide +kernel, rfl, by decide +kernel, by decide +kernel⟩
theorem bd__law_pool : BindOk fn__law_pool := fun _ _ _ _ _ _ us hl => match us, hl with | [_], _ => rfl
theorem sc__law_draw : FnScope fn__law_draw.N fn__law_draw.ps (defScope fn__law_draw.st) := ⟨rfl, rfl, rfl, by decide +kernel, rfl, by decide +kernel, by decide +kernel⟩
theorem bd__law_draw : BindOk fn__law_draw := fun _ _ _ _ _ _ us hl => match us, hl with | [_, _], _ => rfl
theorem sc__law_same : FnScope fn__law_same.N fn__law_same.ps (defScope fn__law_same.st) := ⟨rfl, rfl, rfl, by decide +kernel, rfl, by decide +kernel, by decide +kernel⟩
theorem bd__law_same : BindOk fn__law_same := fun _ _ _ _ _ _ us hl => match us, hl with | [_, _], _ => rfl
theorem sc__law_lowest : FnScope fn__law_lowest.N fn__law_lowest.ps (defScope fn__law_lowest.st) := ⟨rfl, rfl, rfl, by decide +kernel, rfl, by decide +kernel, by decide +kernel⟩
theorem bd__law_lowest : BindOk fn__law_lowest := fun _ _ _ _ _ _ us hl => match us, hl with | [_, _], _ => rfl
theorem sc__law_made : FnScope fn__law_made.N fn__law_made.ps (defScope fn__law_made.st) := ⟨rfl, rfl, rfl, by decide +kernel, rfl, by decide +kernel, by decide +kernel⟩
theorem bd__law_made : BindOk fn__law_made := fun _ _ _ _ _ _ us hl => match us, hl with | [_, _], _ => rfl
theorem sc__law_marked : FnScope fn__law_marked.N fn__law_marked.ps (defScope fn__law_marked.st) := ⟨rfl, rfl, rfl, by decide +kernel, rfl, by decide +kernel, by decide +kernel⟩
theorem bd__law_marked : BindOk fn__law_marked := fun _ _ _ _ _ _ us hl => match us, hl with | [_, _], _ => rfl
theorem sc__law_wrong : FnScope fn__law_wrong.N fn__law_wrong.ps (defScope fn__law_wrong.st) := ⟨rfl, rfl, rfl, by decide +kernel, rfl, by decide +kernel, by decide +kernel⟩
theorem bd__law_wrong : BindOk fn__law_wrong := fun _ _ _ _ _ _ us hl => match us, hl with | [_, _], _ => rfl
theorem sc__law_second : FnScope fn__law_second.N fn__law_second.ps (defScope fn__law_second.st) := ⟨rfl, rfl, rfl, by decide +kernel, rfl, by decide +kernel, by decide +kernel⟩
theorem bd__law_second : BindOk fn__law_second := fun _ _ _ _ _ _ us hl => match us, hl with | [_, _, _], _ => rfl
theorem sc__law_equals : FnScope fn__law_equals.N fn__law_equals.ps (defScope fn__law_equals.st) := ⟨rfl, rfl, rfl, by decide +kernel, rfl, by decide +kernel, by decide +kernel⟩
theorem bd__law_equals : BindOk fn__law_equals := fun _ _ _ _ _ _ us hl => match us, hl with | [_, _, _], _ => rfl
theorem sc_law : FnScope fn_law.N fn_law.ps (defScope fn_law.st) := ⟨rfl, rfl, rfl, by decide +kernel, rfl, by decide +kernel, by decide +kernel⟩
theorem bd_law : BindOk fn_law := fun _ _ _ _ _ _ us hl => match us, hl with | [_], _ => rfl
section
variable {P : Program} {w : World} {K : PySem.W.Frag} {mg : Str → Option Value} {base : Heap} {cdv : Value} {A : Around} {outer : List PySem.Env} {s : Shared} {H : Hp} {E : XK} {k : Nat}
theorem der_is_integer (N : Nm P w K mg base) (cx : CxF (cxF P w K mg base fn_is_integer cdv A outer s H E) T hots k) : SSs (cxF P w K mg base fn_is_integer cdv A outer s H E) (wE E) (sem_is_integer (callN T k)) (defBody st_is_integer) := by
  have tk : L2N.Takes (cxF P w K mg base fn_is_integer cdv A outer s H E) (wE E) := L2N.takes_of rfl rfl rfl rfl
  have hp : PassesOwn (model P w) (cxF P w K mg base fn_is_integer cdv A outer s H E).A (cxF P w K mg base fn_is_integer cdv A outer s H E).env (cxF P w K mg base fn_is_integer cdv A outer s H E).xe := passes_of rfl
  have hN : (cxF P w K mg base fn_is_integer cdv A outer s H E).N.Nodup := sc_is_integer.nd
  have hu := cx.hu
  have hroom : Room 2 (cxF P w K mg base fn_is_integer cdv A outer s H E).A := cx.room.mono (by omega)
  have n_bool := N.n_bool
  have n_int := N.n_int
  have n_isinstance := N.n_isinstance
  exact (ss_one (ss_ret (se_and (se_isi .int rfl n_isinstance rfl n_int boot_int (se_var 0)) (se_one (se_not (se_isi .bl rfl n_isinstance rfl n_bool boot_bool (se_var 0)))))))
theorem der_is_from_to (N : Nm P w K mg base) (cx : CxF (cxF P w K mg base fn_is_from_to cdv A outer s H E) T hots k) : SSs (cxF P w K mg base fn_is_from_to cdv A outer s H E) (wE E) (sem_is_from_to (callN T k)) (defBody st_is_from_to) := by
  have tk : L2N.Takes (cxF P w K mg base fn_is_from_to cdv A outer s H E) (wE E) := L2N.takes_of rfl rfl rfl rfl
  have hp : PassesOwn (model P w) (cxF P w K mg base fn_is_from_to cdv A outer s H E).A (cxF P w K mg base fn_is_from_to cdv A outer s H E).env (cxF P w K mg base fn_is_from_to cdv A outer s H E).xe := passes_of rfl
  have hN : (cxF P w K mg base fn_is_from_to cdv A outer s H E).N.Nodup := sc_is_from_to.nd
  have hu := cx.hu
  have hroom : Room 2 (cxF P w K mg base fn_is_from_to cdv A outer s H E).A := cx.room.mono (by omega)
  have g_is_integer := N.g_is_integer
  exact (ss_one (ss_ret (se_and (se_call cx tk rfl rfl rfl g_is_integer (sa_cons (se_var 0) sa_nil)) (se_one (se_chain cs_le cs_le (se_var 1) (se_var 0) (se_var 2))))))
theorem der_reduced (N : Nm P w K mg base) (cx : CxF (cxF P w K mg base fn_reduced cdv A outer s H E) T hots k) : SSs (cxF P w K mg base fn_reduced cdv A outer s H E) (wE E) (sem_reduced (callN T k)) (defBody st_reduced) := by
  have tk : L2N.Takes (cxF P w K mg base fn_reduced cdv A outer s H E) (wE E) := L2N.takes_of rfl rfl rfl rfl
  have hp : PassesOwn (model P w) (cxF P w K mg base fn_reduced cdv A outer s H E).A (cxF P w K mg base fn_reduced cdv A outer s H E).env (cxF P w K mg base fn_reduced cdv A outer s H E).xe := passes_of rfl
  have hN : (cxF P w K mg base fn_reduced cdv A outer s H E).N.Nodup := sc_reduced.nd
  have hu := cx.hu
  have hroom : Room 2 (cxF P w K mg base fn_reduced cdv A outer s H E).A := cx.room.mono (by omega)
  have n_gcd := N.n_gcd
  exact (ss_cons (ss_set hN rfl (by first | exact Or.inl rfl | exact Or.inr (Or.inl rfl) | exact Or.inr rfl) (se_gcd rfl n_gcd (sa_cons (se_var 0) (sa_cons (se_var 1) sa_nil))))
 (ss_one (ss_ret (se_tup (sa_cons (se_fdiv (se_var 0) (se_var 2)) (sa_cons (se_fdiv (se_var 1) (se_var 2)) sa_nil))))))
theorem der_RuleU_initU (N : Nm P w K mg base) (cx : CxF (cxF P w K mg base fn_RuleU_initU cdv A outer s H E) T hots k) : SSs (cxF P w K mg base fn_RuleU_initU cdv A outer s H E) (wE E) (sem_RuleU_initU (callN T k)) (defBody st_RuleU_initU) := by
  have tk : L2N.Takes (cxF P w K mg base fn_RuleU_initU cdv A outer s H E) (wE E) := L2N.takes_of rfl rfl rfl rfl
  have hp : PassesOwn (model P w) (cxF P w K mg base fn_RuleU_initU cdv A outer s H E).A (cxF P w K mg base fn_RuleU_initU cdv A outer s H E).env (cxF P w K mg base fn_RuleU_initU cdv A outer s H E).xe := passes_of rfl
  have hN : (cxF P w K mg base fn_RuleU_initU cdv A outer s H E).N.Nodup := sc_RuleU_initU.nd
  have hu := cx.hu
  have hroom : Room 2 (cxF P w K mg base fn_RuleU_initU cdv A outer s H E).A := cx.room.mono (by omega)
  obtain ⟨t_c_MOST_BOTTOM, c_MOST_BOTTOM⟩ := N.c_MOST_BOTTOM
  have cl_Rule := N.cl_Rule
  have g_InvalidRule := N.g_InvalidRule
  have g_is_from_to := N.g_is_from_to
  have g_reduced := N.g_reduced
  have na_Rule_part := N.na_Rule_part
  have xc_InvalidRule := N.xc_InvalidRule
  exact (ss_cons (ss_if (st_not (st_val (se_call cx tk rfl rfl rfl g_is_from_to (sa_cons (se_var 2) (sa_cons se_int (sa_cons (se_glob (d := .int 20) (v := .int 20) rfl c_MOST_BOTTOM ⟨_, rfl⟩ (fun _ _ => rfl)) sa_nil))))))
 (ss_one (ss_raise rfl tk hroom (by decide) xc_InvalidRule rfl g_InvalidRule (sa_cons se_str sa_nil)))
 ss_nil)
 (ss_cons (ss_if (st_not (st_val (se_call cx tk rfl rfl rfl g_is_from_to (sa_cons (se_var 1) (sa_cons se_int (sa_cons (se_var 2) sa_nil))))))
 (ss_one (ss_raise rfl tk hroom (by decide) xc_InvalidRule rfl g_InvalidRule (sa_cons se_str sa_nil)))
 ss_nil)
 (ss_one (ss_putNew (L := []) cl_Rule na_Rule_part (by decide) (by decide) (se_var 0) (se_call cx tk rfl rfl rfl g_reduced (sa_cons (se_var 1) (sa_cons (se_var 2) sa_nil)))))))
theorem der_RuleU_eqU (N : Nm P w K mg base) (cx : CxF (cxF P w K mg base fn_RuleU_eqU cdv A outer s H E) T hots k) : SSs (cxF P w K mg base fn_RuleU_eqU cdv A outer s H E) (wE E) (sem_RuleU_eqU (callN T k)) (defBody st_RuleU_eqU) := by
  have tk : L2N.Takes (cxF P w K mg base fn_RuleU_eqU cdv A outer s H E) (wE E) := L2N.takes_of rfl rfl rfl rfl
  have hp : PassesOwn (model P w) (cxF P w K mg base fn_RuleU_eqU cdv A outer s H E).A (cxF P w K mg base fn_RuleU_eqU cdv A outer s H E).env (cxF P w K mg base fn_RuleU_eqU cdv A outer s H E).xe := passes_of rfl
  have hN : (cxF P w K mg base fn_RuleU_eqU cdv A outer s H E).N.Nodup := sc_RuleU_eqU.nd
  have hu := cx.hu
  have hroom : Room 2 (cxF P w K mg base fn_RuleU_eqU cdv A outer s H E).A := cx.room.mono (by omega)
  have cl_Rule := N.cl_Rule
  have g_Rule := N.g_Rule
  have ic_Rule := N.ic_Rule
  have n_isinstance := N.n_isinstance
  have na_Rule_part := N.na_Rule_part
  exact (ss_one (ss_ret (se_and (se_isC ic_Rule rfl n_isinstance rfl g_Rule (se_var 1)) (se_one (se_cmpS (cs_eq hu) (se_fld (L := ["part"]) (j := 0) cl_Rule na_Rule_part rfl (by decide) (se_var 0)) (se_fld (L := ["part"]) (j := 0) cl_Rule na_Rule_part rfl (by decide) (se_var 1)))))))
theorem der_Rule_mark (N : Nm P w K mg base) (cx : CxF (cxF P w K mg base fn_Rule_mark cdv A outer s H E) T hots k) : SSs (cxF P w K mg base fn_Rule_mark cdv A outer s H E) (wE E) (sem_Rule_mark (callN T k)) (defBody st_Rule_mark) := by
  have tk : L2N.Takes (cxF P w K mg base fn_Rule_mark cdv A outer s H E) (wE E) := L2N.takes_of rfl rfl rfl rfl
  have hp : PassesOwn (model P w) (cxF P w K mg base fn_Rule_mark cdv A outer s H E).A (cxF P w K mg base fn_Rule_mark cdv A outer s H E).env (cxF P w K mg base fn_Rule_mark cdv A outer s H E).xe := passes_of rfl
  have hN : (cxF P w K mg base fn_Rule_mark cdv A outer s H E).N.Nodup := sc_Rule_mark.nd
  have hu := cx.hu
  have hroom : Room 2 (cxF P w K mg base fn_Rule_mark cdv A outer s H E).A := cx.room.mono (by omega)
  obtain ⟨t_c_MOST_MARK, c_MOST_MARK⟩ := N.c_MOST_MARK
  have cl_Rule := N.cl_Rule
  have g_InvalidNumber := N.g_InvalidNumber
  have g_is_from_to := N.g_is_from_to
  have mt_Rule_mark_of := N.mt_Rule_mark_of
  have xc_InvalidNumber := N.xc_InvalidNumber
  exact (ss_cons (ss_if (st_not (st_val (se_call cx tk rfl rfl rfl g_is_from_to (sa_cons (se_var 1) (sa_cons se_int (sa_cons (se_glob (d := .int 1000) (v := .int 1000) rfl c_MOST_MARK ⟨_, rfl⟩ (fun _ _ => rfl)) sa_nil))))))
 (ss_one (ss_raise rfl tk hroom (by decide) xc_InvalidNumber rfl g_InvalidNumber (sa_cons (se_var 1) sa_nil)))
 ss_nil)
 (ss_one (ss_ret (se_meth cx tk rfl rfl cl_Rule mt_Rule_mark_of (se_var 0) (sa_cons (se_var 1) sa_nil)))))
theorem der_Rule_mark_of (N : Nm P w K mg base) (cx : CxF (cxF P w K mg base fn_Rule_mark_of cdv A outer s H E) T hots k) : SSs (cxF P w K mg base fn_Rule_mark_of cdv A outer s H E) (wE E) (sem_Rule_mark_of (callN T k)) (defBody st_Rule_mark_of) := by
  have tk : L2N.Takes (cxF P w K mg base fn_Rule_mark_of cdv A outer s H E) (wE E) := L2N.takes_of rfl rfl rfl rfl
  have hp : PassesOwn (model P w) (cxF P w K mg base fn_Rule_mark_of cdv A outer s H E).A (cxF P w K mg base fn_Rule_mark_of cdv A outer s H E).env (cxF P w K mg base fn_Rule_mark_of cdv A outer s H E).xe := passes_of rfl
  have hN : (cxF P w K mg base fn_Rule_mark_of cdv A outer s H E).N.Nodup := sc_Rule_mark_of.nd
  have hu := cx.hu
  have hroom : Room 2 (cxF P w K mg base fn_Rule_mark_of cdv A outer s H E).A := cx.room.mono (by omega)
  have cl_Rule := N.cl_Rule
  have g_reduced := N.g_reduced
  have na_Rule_part := N.na_Rule_part
  exact (ss_cons (ss_asg (ws := [2, 3]) (se_fld (L := ["part"]) (j := 0) cl_Rule na_Rule_part rfl (by decide) (se_var 0)) (sg_tup rfl (sgs_cons (sg_name hN rfl (by first | exact Or.inl rfl | exact Or.inr (Or.inl rfl) | exact Or.inr rfl)) (sgs_cons (sg_name hN rfl (by first | exact Or.inl rfl | exact Or.inr (Or.inl rfl) | exact Or.inr rfl)) sgs_nil))))
 (ss_one (ss_ret (se_call cx tk rfl rfl rfl g_reduced (sa_cons (se_add false (se_mul false (se_sub (se_var 1) se_int) (se_var 3)) (se_var 2)) (sa_cons (se_var 3) sa_nil))))))
theorem der__law_pool (N : Nm P w K mg base) (cx : CxF (cxF P w K mg base fn__law_pool cdv A outer s H E) T hots k) : SSs (cxF P w K mg base fn__law_pool cdv A outer s H E) (wE E) (sem__law_pool (callN T k)) (defBody st__law_pool) := by
  have tk : L2N.Takes (cxF P w K mg base fn__law_pool cdv A outer s H E) (wE E) := L2N.takes_of rfl rfl rfl rfl
  have hp : PassesOwn (model P w) (cxF P w K mg base fn__law_pool cdv A outer s H E).A (cxF P w K mg base fn__law_pool cdv A outer s H E).env (cxF P w K mg base fn__law_pool cdv A outer s H E).xe := passes_of rfl
  have hN : (cxF P w K mg base fn__law_pool cdv A outer s H E).N.Nodup := sc__law_pool.nd
  have hu := cx.hu
  have hroom : Room 2 (cxF P w K mg base fn__law_pool cdv A outer s H E).A := cx.room.mono (by omega)
  have n_int := N.n_int
  have n_len := N.n_len
  exact (ss_cons (ss_setLc false (own := [("cell", 3)]) rfl hN rfl rfl rfl (si_seq (se_slice false (se_var 0) so_none (so_some se_int))) (blkOk_by (by first | (change blkC fn__law_pool.N (defScope fn__law_pool.st) _ _ = true; decide +kernel) | rfl)) (fun _ _ _ _ _ => (sg_name hN rfl (by first | exact Or.inl rfl | exact Or.inr (Or.inl rfl) | exact Or.inr rfl))) (fun _ _ _ _ _ => st_nil) (fun _ _ _ _ _ => (se_intC rfl n_int (sa_cons (se_var 3) sa_nil))))
 (ss_cons (ss_set hN rfl (by first | exact Or.inl rfl | exact Or.inr (Or.inl rfl) | exact Or.inr rfl) (se_add false se_int (se_len rfl n_len (sa_cons (se_var 1) sa_nil))))
 (ss_cons (ss_for (ws := [3]) hp rfl (si_seq (se_var 1)) (sg_name hN rfl (by first | exact Or.inl rfl | exact Or.inr (Or.inl rfl) | exact Or.inr rfl))
 (ss_one (ss_set hN rfl (by first | exact Or.inl rfl | exact Or.inr (Or.inl rfl) | exact Or.inr rfl) (se_mod (se_add false (se_add false (se_mul false (se_var 2) (se_var 2)) (se_var 3)) se_int) se_int))))
 (ss_one (ss_ret (se_lst true (sa_cons (se_var 1) (sa_cons se_int (sa_cons se_int (sa_cons (se_var 2) sa_nil))))))))))
theorem der__law_draw (N : Nm P w K mg base) (cx : CxF (cxF P w K mg base fn__law_draw cdv A outer s H E) T hots k) : SSs (cxF P w K mg base fn__law_draw cdv A outer s H E) (wE E) (sem__law_draw (callN T k)) (defBody st__law_draw) := by
  have tk : L2N.Takes (cxF P w K mg base fn__law_draw cdv A outer s H E) (wE E) := L2N.takes_of rfl rfl rfl rfl
  have hp : PassesOwn (model P w) (cxF P w K mg base fn__law_draw cdv A outer s H E).A (cxF P w K mg base fn__law_draw cdv A outer s H E).env (cxF P w K mg base fn__law_draw cdv A outer s H E).xe := passes_of rfl
  have hN : (cxF P w K mg base fn__law_draw cdv A outer s H E).N.Nodup := sc__law_draw.nd
  have hu := cx.hu
  have hroom : Room 2 (cxF P w K mg base fn__law_draw cdv A outer s H E).A := cx.room.mono (by omega)
  have n_abs := N.n_abs
  have n_int := N.n_int
  have n_len := N.n_len
  exact (ss_cons (ss_if (st_cmpS cs_lt (se_idx (se_var 0) se_int) (se_var 1))
 (ss_cons (ss_set hN rfl (by first | exact Or.inl rfl | exact Or.inr (Or.inl rfl) | exact Or.inr rfl) se_int)
 (ss_cons (ss_if (st_cmpS cs_lt (se_idx (se_var 0) se_int) (se_len rfl n_len (sa_cons (se_idx (se_var 0) se_int) sa_nil)))
 (ss_one (ss_set hN rfl (by first | exact Or.inl rfl | exact Or.inr (Or.inl rfl) | exact Or.inr rfl) (se_abs rfl n_abs (sa_cons (se_idx (se_idx (se_var 0) se_int) (se_idx (se_var 0) se_int)) sa_nil))))
 ss_nil)
 (ss_cons (ss_putL (se_add false (se_idx (se_var 0) se_int) se_int) (se_var 0) se_int)
 (ss_cons (ss_putL se_int (se_var 0) se_int)
 (ss_cons (ss_if (st_cmpS cs_ge (se_var 2) (se_pow se_int se_int))
 (ss_one (ss_putL (se_var 2) (se_var 0) se_int))
 ss_nil)
 (ss_one (ss_putL (se_mod (se_add false (se_add false (se_mul false (se_idx (se_var 0) se_int) (se_idx (se_var 0) se_int)) (se_var 2)) (se_idx (se_var 0) se_int)) se_int) (se_var 0) se_int)))))))
 ss_nil)
 (ss_cons (ss_if (st_cmpS cs_ge (se_idx (se_var 0) se_int) (se_var 1))
 (ss_cons (ss_set hN rfl (by first | exact Or.inl rfl | exact Or.inr (Or.inl rfl) | exact Or.inr rfl) (se_mod (se_intC rfl n_int (sa_cons (se_idx (se_var 0) se_int) sa_nil)) (se_var 1)))
 (ss_cons (ss_putL (se_fdiv (se_idx (se_var 0) se_int) (se_var 1)) (se_var 0) se_int)
 (ss_one (ss_ret (se_var 3)))))
 ss_nil)
 (ss_one (ss_ret (se_mod (se_intC rfl n_int (sa_cons (se_fdiv (se_idx (se_var 0) se_int) se_int) sa_nil)) (se_var 1))))))
theorem der__law_same (N : Nm P w K mg base) (cx : CxF (cxF P w K mg base fn__law_same cdv A outer s H E) T hots k) : SSs (cxF P w K mg base fn__law_same cdv A outer s H E) (wE E) (sem__law_same (callN T k)) (defBody st__law_same) := by
  have tk : L2N.Takes (cxF P w K mg base fn__law_same cdv A outer s H E) (wE E) := L2N.takes_of rfl rfl rfl rfl
  have hp : PassesOwn (model P w) (cxF P w K mg base fn__law_same cdv A outer s H E).A (cxF P w K mg base fn__law_same cdv A outer s H E).env (cxF P w K mg base fn__law_same cdv A outer s H E).xe := passes_of rfl
  have hN : (cxF P w K mg base fn__law_same cdv A outer s H E).N.Nodup := sc__law_same.nd
  have hu := cx.hu
  have hroom : Room 2 (cxF P w K mg base fn__law_same cdv A outer s H E).A := cx.room.mono (by omega)
  have g__law_same := N.g__law_same
  have n_bool := N.n_bool
  have n_int := N.n_int
  have n_isinstance := N.n_isinstance
  have n_len := N.n_len
  have n_list := N.n_list
  have n_range := N.n_range
  have n_str := N.n_str
  have n_tuple := N.n_tuple
  exact (ss_cons (ss_if (SW.st (sw_or (st_val (se_isi .tup rfl n_isinstance rfl n_tuple boot_tuple (se_var 1))) (sw_or1 (st_val (se_isi .lst rfl n_isinstance rfl n_list boot_list (se_var 1))))))
 (ss_cons (ss_if (SW.st (sw_or (st_cmpS (cs_ne hu) (se_isi .tup rfl n_isinstance rfl n_tuple boot_tuple (se_var 0)) (se_isi .tup rfl n_isinstance rfl n_tuple boot_tuple (se_var 1))) (sw_or1 (st_cmpS (cs_ne hu) (se_isi .lst rfl n_isinstance rfl n_list boot_list (se_var 0)) (se_isi .lst rfl n_isinstance rfl n_list boot_list (se_var 1))))))
 (ss_one (ss_ret se_bl))
 ss_nil)
 (ss_cons (ss_if (st_cmpS (cs_ne hu) (se_len rfl n_len (sa_cons (se_var 0) sa_nil)) (se_len rfl n_len (sa_cons (se_var 1) sa_nil)))
 (ss_one (ss_ret se_bl))
 ss_nil)
 (ss_cons (ss_for (ws := [2]) hp rfl (si_range1 rfl n_range (sa_cons (se_len rfl n_len (sa_cons (se_var 1) sa_nil)) sa_nil)) (sg_name hN rfl (by first | exact Or.inl rfl | exact Or.inr (Or.inl rfl) | exact Or.inr rfl))
 (ss_one (ss_if (st_not (st_val (se_call cx tk rfl rfl rfl g__law_same (sa_cons (se_idx (se_var 0) (se_var 2)) (sa_cons (se_idx (se_var 1) (se_var 2)) sa_nil)))))
 (ss_one (ss_ret se_bl))
 ss_nil)))
 (ss_one (ss_ret se_bl)))))
 ss_nil)
 (ss_cons (ss_if (st_cmpS cs_is (se_var 1) se_non)
 (ss_one (ss_ret (se_cmpS cs_is (se_var 0) se_non)))
 ss_nil)
 (ss_cons (ss_if (st_cmpS cs_is (se_var 1) se_bl)
 (ss_one (ss_ret (se_cmpS cs_is (se_var 0) se_bl)))
 ss_nil)
 (ss_cons (ss_if (st_cmpS cs_is (se_var 1) se_bl)
 (ss_one (ss_ret (se_cmpS cs_is (se_var 0) se_bl)))
 ss_nil)
 (ss_cons (ss_if (st_val (se_isi .int rfl n_isinstance rfl n_int boot_int (se_var 1)))
 (ss_one (ss_ret (se_and (se_isi .int rfl n_isinstance rfl n_int boot_int (se_var 0)) (se_and (se_not (se_isi .bl rfl n_isinstance rfl n_bool boot_bool (se_var 0))) (se_one (se_cmpS (cs_eq hu) (se_var 0) (se_var 1)))))))
 ss_nil)
 (ss_one (ss_ret (se_and (se_isi .str rfl n_isinstance rfl n_str boot_str (se_var 0)) (se_one (se_cmpS (cs_eq hu) (se_var 0) (se_var 1)))))))))))
theorem der__law_lowest (N : Nm P w K mg base) (cx : CxF (cxF P w K mg base fn__law_lowest cdv A outer s H E) T hots k) : SSs (cxF P w K mg base fn__law_lowest cdv A outer s H E) (wE E) (sem__law_lowest (callN T k)) (defBody st__law_lowest) := by
  have tk : L2N.Takes (cxF P w K mg base fn__law_lowest cdv A outer s H E) (wE E) := L2N.takes_of rfl rfl rfl rfl
  have hp : PassesOwn (model P w) (cxF P w K mg base fn__law_lowest cdv A outer s H E).A (cxF P w K mg base fn__law_lowest cdv A outer s H E).env (cxF P w K mg base fn__law_lowest cdv A outer s H E).xe := passes_of rfl
  have hN : (cxF P w K mg base fn__law_lowest cdv A outer s H E).N.Nodup := sc__law_lowest.nd
  have hu := cx.hu
  have hroom : Room 2 (cxF P w K mg base fn__law_lowest cdv A outer s H E).A := cx.room.mono (by omega)
  have n_int := N.n_int
  have n_range := N.n_range
  exact (ss_cons (ss_set hN rfl (by first | exact Or.inl rfl | exact Or.inr (Or.inl rfl) | exact Or.inr rfl) (se_var 0))
 (ss_cons (ss_set hN rfl (by first | exact Or.inl rfl | exact Or.inr (Or.inl rfl) | exact Or.inr rfl) (se_var 1))
 (ss_cons (ss_for (ws := [4]) hp rfl (si_range1 rfl n_range (sa_cons se_int sa_nil)) (sg_name hN rfl (by first | exact Or.inl rfl | exact Or.inr (Or.inl rfl) | exact Or.inr rfl))
 (ss_one (ss_if (st_cmpS cs_gt (se_var 3) se_int)
 (ss_cons (ss_set hN rfl (by first | exact Or.inl rfl | exact Or.inr (Or.inl rfl) | exact Or.inr rfl) (se_mod (se_intC rfl n_int (sa_cons (se_var 2) sa_nil)) (se_var 3)))
 (ss_cons (ss_set hN rfl (by first | exact Or.inl rfl | exact Or.inr (Or.inl rfl) | exact Or.inr rfl) (se_var 3))
 (ss_one (ss_set hN rfl (by first | exact Or.inl rfl | exact Or.inr (Or.inl rfl) | exact Or.inr rfl) (se_var 5)))))
 ss_nil)))
 (ss_one (ss_ret (se_tup (sa_cons (se_fdiv (se_var 0) (se_var 2)) (sa_cons (se_fdiv (se_var 1) (se_var 2)) sa_nil))))))))
theorem der__law_made (N : Nm P w K mg base) (cx : CxF (cxF P w K mg base fn__law_made cdv A outer s H E) T hots k) : SSs (cxF P w K mg base fn__law_made cdv A outer s H E) (wE E) (sem__law_made (callN T k)) (defBody st__law_made) := by
  have tk : L2N.Takes (cxF P w K mg base fn__law_made cdv A outer s H E) (wE E) := L2N.takes_of rfl rfl rfl rfl
  have hp : PassesOwn (model P w) (cxF P w K mg base fn__law_made cdv A outer s H E).A (cxF P w K mg base fn__law_made cdv A outer s H E).env (cxF P w K mg base fn__law_made cdv A outer s H E).xe := passes_of rfl
  have hN : (cxF P w K mg base fn__law_made cdv A outer s H E).N.Nodup := sc__law_made.nd
  have hu := cx.hu
  have hroom : Room 2 (cxF P w K mg base fn__law_made cdv A outer s H E).A := cx.room.mono (by omega)
  have cl_Rule := N.cl_Rule
  have g_InvalidRule := N.g_InvalidRule
  have g_Rule := N.g_Rule
  have mk_Rule := N.mk_Rule
  have na_Rule_part := N.na_Rule_part
  have xc_InvalidRule := N.xc_InvalidRule
  have xm_InvalidRule := N.xm_InvalidRule
  exact (ss_cons (ss_try rfl rfl hN tk (fun W1 pn1 xe1 tk1 hp1 => (ss_one (ss_set hN rfl (by first | exact Or.inl rfl | exact Or.inr (Or.inl rfl) | exact Or.inr rfl) (se_newK0 true (cx.tr _ _) tk1 rfl rfl kw_RuleU_initU_0 mk_Rule rfl g_Rule (sk_cons (se_var 0) (sk_cons (se_var 1) sk_nil)))))) (.cons ⟨rfl, by decide, .inl g_InvalidRule⟩ ⟨rfl, rfl⟩ xm_InvalidRule (fun a oe c dd pn hz hf => by exact (ss_one (ss_ret (se_tup (sa_cons se_str (sa_cons (se_xf (L := ["part"]) (j := 0) (i := 2) xc_InvalidRule (by decide) rfl (by decide) hz hf rfl) sa_nil)))))) .nil))
 (ss_one (ss_ret (se_tup (sa_cons se_str (sa_cons (se_fld (L := ["part"]) (j := 0) cl_Rule na_Rule_part rfl (by decide) (se_var 3)) sa_nil))))))
theorem der__law_marked (N : Nm P w K mg base) (cx : CxF (cxF P w K mg base fn__law_marked cdv A outer s H E) T hots k) : SSs (cxF P w K mg base fn__law_marked cdv A outer s H E) (wE E) (sem__law_marked (callN T k)) (defBody st__law_marked) := by
  have tk : L2N.Takes (cxF P w K mg base fn__law_marked cdv A outer s H E) (wE E) := L2N.takes_of rfl rfl rfl rfl
  have hp : PassesOwn (model P w) (cxF P w K mg base fn__law_marked cdv A outer s H E).A (cxF P w K mg base fn__law_marked cdv A outer s H E).env (cxF P w K mg base fn__law_marked cdv A outer s H E).xe := passes_of rfl
  have hN : (cxF P w K mg base fn__law_marked cdv A outer s H E).N.Nodup := sc__law_marked.nd
  have hu := cx.hu
  have hroom : Room 2 (cxF P w K mg base fn__law_marked cdv A outer s H E).A := cx.room.mono (by omega)
  have cl_Rule := N.cl_Rule
  have g_InvalidNumber := N.g_InvalidNumber
  have mt_Rule_mark := N.mt_Rule_mark
  have xc_InvalidNumber := N.xc_InvalidNumber
  have xm_InvalidNumber := N.xm_InvalidNumber
  exact (ss_one (ss_try rfl rfl hN tk (fun W1 pn1 xe1 tk1 hp1 => (ss_one (ss_ret (se_tup (sa_cons se_str (sa_cons (se_meth (cx.tr _ _) tk1 rfl rfl cl_Rule mt_Rule_mark (se_var 0) (sa_cons (se_var 1) sa_nil)) sa_nil)))))) (.cons ⟨rfl, by decide, .inl g_InvalidNumber⟩ ⟨rfl, rfl⟩ xm_InvalidNumber (fun a oe c dd pn hz hf => by exact (ss_one (ss_ret (se_tup (sa_cons se_str (sa_cons (se_xf (L := ["value"]) (j := 0) (i := 2) xc_InvalidNumber (by decide) rfl (by decide) hz hf rfl) sa_nil)))))) .nil)))
theorem der__law_wrong (N : Nm P w K mg base) (cx : CxF (cxF P w K mg base fn__law_wrong cdv A outer s H E) T hots k) : SSs (cxF P w K mg base fn__law_wrong cdv A outer s H E) (wE E) (sem__law_wrong (callN T k)) (defBody st__law_wrong) := by
  have tk : L2N.Takes (cxF P w K mg base fn__law_wrong cdv A outer s H E) (wE E) := L2N.takes_of rfl rfl rfl rfl
  have hp : PassesOwn (model P w) (cxF P w K mg base fn__law_wrong cdv A outer s H E).A (cxF P w K mg base fn__law_wrong cdv A outer s H E).env (cxF P w K mg base fn__law_wrong cdv A outer s H E).xe := passes_of rfl
  have hN : (cxF P w K mg base fn__law_wrong cdv A outer s H E).N.Nodup := sc__law_wrong.nd
  have hu := cx.hu
  have hroom : Room 2 (cxF P w K mg base fn__law_wrong cdv A outer s H E).A := cx.room.mono (by omega)
  have g__law_draw := N.g__law_draw
  have n_len := N.n_len
  exact (ss_cons (ss_set hN rfl (by first | exact Or.inl rfl | exact Or.inr (Or.inl rfl) | exact Or.inr rfl) (se_lst false (sa_cons (se_neg se_int) (sa_cons (se_add false (se_var 1) se_int) (sa_cons (se_add false (se_var 1) se_int) (sa_cons (se_pow se_int se_int) (sa_cons (se_neg (se_pow se_int se_int)) (sa_cons se_non (sa_cons se_bl (sa_cons se_bl (sa_cons se_str (sa_cons (se_tup (sa_cons se_int sa_nil)) (sa_cons (se_lst false (sa_cons se_int sa_nil)) (sa_cons (se_tup (sa_cons se_int (sa_cons se_int sa_nil))) sa_nil))))))))))))))
 (ss_one (ss_ret (se_idx (se_var 2) (se_call cx tk rfl rfl rfl g__law_draw (sa_cons (se_var 0) (sa_cons (se_len rfl n_len (sa_cons (se_var 2) sa_nil)) sa_nil)))))))
theorem der__law_second (N : Nm P w K mg base) (cx : CxF (cxF P w K mg base fn__law_second cdv A outer s H E) T hots k) : SSs (cxF P w K mg base fn__law_second cdv A outer s H E) (wE E) (sem__law_second (callN T k)) (defBody st__law_second) := by
  have tk : L2N.Takes (cxF P w K mg base fn__law_second cdv A outer s H E) (wE E) := L2N.takes_of rfl rfl rfl rfl
  have hp : PassesOwn (model P w) (cxF P w K mg base fn__law_second cdv A outer s H E).A (cxF P w K mg base fn__law_second cdv A outer s H E).env (cxF P w K mg base fn__law_second cdv A outer s H E).xe := passes_of rfl
  have hN : (cxF P w K mg base fn__law_second cdv A outer s H E).N.Nodup := sc__law_second.nd
  have hu := cx.hu
  have hroom : Room 2 (cxF P w K mg base fn__law_second cdv A outer s H E).A := cx.room.mono (by omega)
  have g__law_draw := N.g__law_draw
  have g__law_lowest := N.g__law_lowest
  have n_min := N.n_min
  exact (ss_cons (ss_set hN rfl (by first | exact Or.inl rfl | exact Or.inr (Or.inl rfl) | exact Or.inr rfl) (se_call cx tk rfl rfl rfl g__law_draw (sa_cons (se_var 0) (sa_cons se_int sa_nil))))
 (ss_cons (ss_set hN rfl (by first | exact Or.inl rfl | exact Or.inr (Or.inl rfl) | exact Or.inr rfl) (se_call cx tk rfl rfl rfl g__law_lowest (sa_cons (se_var 1) (sa_cons (se_var 2) sa_nil))))
 (ss_cons (ss_if (st_cmpS (cs_eq hu) (se_var 3) se_int)
 (ss_cons (ss_set hN rfl (by first | exact Or.inl rfl | exact Or.inr (Or.inl rfl) | exact Or.inr rfl) (se_add false se_int (se_call cx tk rfl rfl rfl g__law_draw (sa_cons (se_var 0) (sa_cons (se_fdiv se_int (se_idx (se_var 4) se_int)) sa_nil)))))
 (ss_one (ss_ret (se_tup (sa_cons (se_mul false (se_idx (se_var 4) se_int) (se_var 5)) (sa_cons (se_mul false (se_idx (se_var 4) se_int) (se_var 5)) sa_nil))))))
 ss_nil)
 (ss_cons (ss_if (SW.st (sw_and (st_cmpS (cs_eq hu) (se_var 3) se_int) (sw_and1 (st_cmpS cs_gt (se_var 2) se_int))))
 (ss_one (ss_ret (se_tup (sa_cons (se_min2 rfl rfl n_min (sa_cons (se_var 1) (sa_cons (se_sub (se_var 2) se_int) sa_nil))) (sa_cons (se_sub (se_var 2) se_int) sa_nil)))))
 ss_nil)
 (ss_cons (ss_set hN rfl (by first | exact Or.inl rfl | exact Or.inr (Or.inl rfl) | exact Or.inr rfl) (se_add false se_int (se_call cx tk rfl rfl rfl g__law_draw (sa_cons (se_var 0) (sa_cons se_int sa_nil)))))
 (ss_one (ss_ret (se_tup (sa_cons (se_call cx tk rfl rfl rfl g__law_draw (sa_cons (se_var 0) (sa_cons (se_add false (se_var 2) se_int) sa_nil))) (sa_cons (se_var 2) sa_nil))))))))))
theorem der__law_equals (N : Nm P w K mg base) (cx : CxF (cxF P w K mg base fn__law_equals cdv A outer s H E) T hots k) : SSs (cxF P w K mg base fn__law_equals cdv A outer s H E) (wE E) (sem__law_equals (callN T k)) (defBody st__law_equals) := by
  have tk : L2N.Takes (cxF P w K mg base fn__law_equals cdv A outer s H E) (wE E) := L2N.takes_of rfl rfl rfl rfl
  have hp : PassesOwn (model P w) (cxF P w K mg base fn__law_equals cdv A outer s H E).A (cxF P w K mg base fn__law_equals cdv A outer s H E).env (cxF P w K mg base fn__law_equals cdv A outer s H E).xe := passes_of rfl
  have hN : (cxF P w K mg base fn__law_equals cdv A outer s H E).N.Nodup := sc__law_equals.nd
  have hu := cx.hu
  have hroom : Room 2 (cxF P w K mg base fn__law_equals cdv A outer s H E).A := cx.room.mono (by omega)
  have g__law_same := N.g__law_same
  have mt_Rule___eq__ := N.mt_Rule___eq__
  have ne_Rule := N.ne_Rule
  exact (ss_cons (ss_if (SW.st (sw_or (st_not (st_val (se_call cx tk rfl rfl rfl g__law_same (sa_cons (se_pc (pc_eqO cx tk rfl rfl mt_Rule___eq__ (se_var 0) (se_var 1))) (sa_cons (se_var 2) sa_nil))))) (sw_or1 (st_not (st_val (se_call cx tk rfl rfl rfl g__law_same (sa_cons (se_pc (pc_eqO cx tk rfl rfl mt_Rule___eq__ (se_var 1) (se_var 0))) (sa_cons (se_var 2) sa_nil))))))))
 (ss_one (ss_ret se_bl))
 ss_nil)
 (ss_one (ss_ret (se_and (se_call cx tk rfl rfl rfl g__law_same (sa_cons (se_pc (pc_neO cx tk rfl rfl mt_Rule___eq__ ne_Rule (se_var 0) (se_var 1))) (sa_cons (se_not (se_var 2)) sa_nil))) (se_one (se_call cx tk rfl rfl rfl g__law_same (sa_cons (se_pc (pc_eqO cx tk rfl rfl mt_Rule___eq__ (se_var 0) (se_var 0))) (sa_cons se_bl sa_nil))))))))
theorem der_law (N : Nm P w K mg base) (cx : CxF (cxF P w K mg base fn_law cdv A outer s H E) T hots k) : SSs (cxF P w K mg base fn_law cdv A outer s H E) (wE E) (sem_law (callN T k)) (defBody st_law) := by
  have tk : L2N.Takes (cxF P w K mg base fn_law cdv A outer s H E) (wE E) := L2N.takes_of rfl rfl rfl rfl
  have hp : PassesOwn (model P w) (cxF P w K mg base fn_law cdv A outer s H E).A (cxF P w K mg base fn_law cdv A outer s H E).env (cxF P w K mg base fn_law cdv A outer s H E).xe := passes_of rfl
  have hN : (cxF P w K mg base fn_law cdv A outer s H E).N.Nodup := sc_law.nd
  have hu := cx.hu
  have hroom : Room 2 (cxF P w K mg base fn_law cdv A outer s H E).A := cx.room.mono (by omega)
  have cl_Rule := N.cl_Rule
  have g_Rule := N.g_Rule
  have g__law_draw := N.g__law_draw
  have g__law_equals := N.g__law_equals
  have g__law_lowest := N.g__law_lowest
  have g__law_made := N.g__law_made
  have g__law_marked := N.g__law_marked
  have g__law_pool := N.g__law_pool
  have g__law_same := N.g__law_same
  have g__law_second := N.g__law_second
  have g__law_wrong := N.g__law_wrong
  have mk_Rule := N.mk_Rule
  have mt_Rule___eq__ := N.mt_Rule___eq__
  have mt_Rule_mark := N.mt_Rule_mark
  have na_Rule_part := N.na_Rule_part
  have ne_Rule := N.ne_Rule
  exact (ss_cons (ss_set hN rfl (by first | exact Or.inl rfl | exact Or.inr (Or.inl rfl) | exact Or.inr rfl) (se_call cx tk rfl rfl rfl g__law_pool (sa_cons (se_var 0) sa_nil)))
 (ss_cons (ss_set hN rfl (by first | exact Or.inl rfl | exact Or.inr (Or.inl rfl) | exact Or.inr rfl) (se_add false se_int (se_call cx tk rfl rfl rfl g__law_draw (sa_cons (se_var 1) (sa_cons se_int sa_nil)))))
 (ss_cons (ss_set hN rfl (by first | exact Or.inl rfl | exact Or.inr (Or.inl rfl) | exact Or.inr rfl) (se_call cx tk rfl rfl rfl g__law_draw (sa_cons (se_var 1) (sa_cons (se_add false (se_var 2) se_int) sa_nil))))
 (ss_cons (ss_if (st_cmpS (cs_eq hu) (se_call cx tk rfl rfl rfl g__law_draw (sa_cons (se_var 1) (sa_cons se_int sa_nil))) se_int)
 (ss_one (ss_set hN rfl (by first | exact Or.inl rfl | exact Or.inr (Or.inl rfl) | exact Or.inr rfl) (se_mul false (se_var 2) (se_call cx tk rfl rfl rfl g__law_draw (sa_cons (se_var 1) (sa_cons se_int sa_nil))))))
 ss_nil)
 (ss_cons (ss_if (st_not (st_val (se_call cx tk rfl rfl rfl g__law_same (sa_cons (se_call cx tk rfl rfl rfl g__law_made (sa_cons (se_var 3) (sa_cons (se_var 2) sa_nil))) (sa_cons (se_tup (sa_cons se_str (sa_cons (se_call cx tk rfl rfl rfl g__law_lowest (sa_cons (se_var 3) (sa_cons (se_var 2) sa_nil))) sa_nil))) sa_nil)))))
 (ss_one (ss_ret se_bl))
 ss_nil)
 (ss_cons (ss_set hN rfl (by first | exact Or.inl rfl | exact Or.inr (Or.inl rfl) | exact Or.inr rfl) (se_new true cx tk rfl rfl mk_Rule rfl g_Rule (sa_cons (se_var 3) (sa_cons (se_var 2) sa_nil))))
 (ss_cons (ss_for (ws := [5]) hp rfl (si_seq (se_lst false (sa_cons se_int (sa_cons se_int (sa_cons se_int (sa_cons se_int (sa_cons (se_add false se_int (se_call cx tk rfl rfl rfl g__law_draw (sa_cons (se_var 1) (sa_cons se_int sa_nil)))) (sa_cons (se_add false se_int (se_call cx tk rfl rfl rfl g__law_draw (sa_cons (se_var 1) (sa_cons se_int sa_nil)))) sa_nil)))))))) (sg_name hN rfl (by first | exact Or.inl rfl | exact Or.inr (Or.inl rfl) | exact Or.inr rfl))
 (ss_cons (ss_set hN rfl (by first | exact Or.inl rfl | exact Or.inr (Or.inl rfl) | exact Or.inr rfl) (se_call cx tk rfl rfl rfl g__law_lowest (sa_cons (se_add false (se_mul false (se_var 2) (se_sub (se_var 5) se_int)) (se_var 3)) (sa_cons (se_var 2) sa_nil))))
 (ss_one (ss_if (st_not (st_val (se_call cx tk rfl rfl rfl g__law_same (sa_cons (se_call cx tk rfl rfl rfl g__law_marked (sa_cons (se_var 4) (sa_cons (se_var 5) sa_nil))) (sa_cons (se_tup (sa_cons se_str (sa_cons (se_var 11) sa_nil))) sa_nil)))))
 (ss_one (ss_ret se_bl))
 ss_nil))))
 (ss_cons (ss_if (st_not (st_val (se_call cx tk rfl rfl rfl g__law_same (sa_cons (se_methK0 cx tk rfl rfl kw_Rule_mark_0 cl_Rule mt_Rule_mark (se_var 4) (sk_cons se_int sk_nil)) (sa_cons (se_call cx tk rfl rfl rfl g__law_lowest (sa_cons (se_add false (se_mul false (se_var 2) se_int) (se_var 3)) (sa_cons (se_var 2) sa_nil))) sa_nil)))))
 (ss_one (ss_ret se_bl))
 ss_nil)
 (ss_cons (ss_set hN rfl (by first | exact Or.inl rfl | exact Or.inr (Or.inl rfl) | exact Or.inr rfl) (se_call cx tk rfl rfl rfl g__law_wrong (sa_cons (se_var 1) (sa_cons se_int sa_nil))))
 (ss_cons (ss_if (SW.st (sw_or (st_not (st_val (se_call cx tk rfl rfl rfl g__law_same (sa_cons (se_call cx tk rfl rfl rfl g__law_marked (sa_cons (se_var 4) (sa_cons (se_var 6) sa_nil))) (sa_cons (se_tup (sa_cons se_str (sa_cons (se_var 6) sa_nil))) sa_nil))))) (sw_or1 (st_not (st_val (se_call cx tk rfl rfl rfl g__law_same (sa_cons (se_call cx tk rfl rfl rfl g__law_marked (sa_cons (se_var 4) (sa_cons se_int sa_nil))) (sa_cons (se_tup (sa_cons se_str (sa_cons se_int sa_nil))) sa_nil))))))))
 (ss_one (ss_ret se_bl))
 ss_nil)
 (ss_cons (ss_set hN rfl (by first | exact Or.inl rfl | exact Or.inr (Or.inl rfl) | exact Or.inr rfl) (se_call cx tk rfl rfl rfl g__law_second (sa_cons (se_var 1) (sa_cons (se_var 3) (sa_cons (se_var 2) sa_nil)))))
 (ss_cons (ss_set hN rfl (by first | exact Or.inl rfl | exact Or.inr (Or.inl rfl) | exact Or.inr rfl) (se_new true cx tk rfl rfl mk_Rule rfl g_Rule (sa_cons (se_idx (se_var 7) se_int) (sa_cons (se_idx (se_var 7) se_int) sa_nil))))
 (ss_cons (ss_if (st_not (st_val (se_call cx tk rfl rfl rfl g__law_equals (sa_cons (se_var 4) (sa_cons (se_var 8) (sa_cons (se_cmpS (cs_eq hu) (se_mul false (se_var 3) (se_idx (se_var 7) se_int)) (se_mul false (se_idx (se_var 7) se_int) (se_var 2))) sa_nil))))))
 (ss_one (ss_ret se_bl))
 ss_nil)
 (ss_cons (ss_for (ws := [9]) hp rfl (si_seq (se_lst false (sa_cons se_non (sa_cons (se_fld (L := ["part"]) (j := 0) cl_Rule na_Rule_part rfl (by decide) (se_var 4)) (sa_cons (se_tup (sa_cons (se_var 3) (sa_cons (se_var 2) sa_nil))) (sa_cons (se_var 3) (sa_cons se_int (sa_cons se_str (sa_cons (se_lst false (sa_cons (se_var 3) (sa_cons (se_var 2) sa_nil))) (sa_cons se_bl sa_nil)))))))))) (sg_name hN rfl (by first | exact Or.inl rfl | exact Or.inr (Or.inl rfl) | exact Or.inr rfl))
 (ss_one (ss_if (SW.st (sw_or (st_not (st_val (se_call cx tk rfl rfl rfl g__law_same (sa_cons (se_pc (pc_eqO cx tk rfl rfl mt_Rule___eq__ (se_var 4) (se_var 9))) (sa_cons se_bl sa_nil))))) (sw_or1 (st_not (st_val (se_call cx tk rfl rfl rfl g__law_same (sa_cons (se_pc (pc_neO cx tk rfl rfl mt_Rule___eq__ ne_Rule (se_var 4) (se_var 9))) (sa_cons se_bl sa_nil))))))))
 (ss_one (ss_ret se_bl))
 ss_nil)))
 (ss_cons (ss_set hN rfl (by first | exact Or.inl rfl | exact Or.inr (Or.inl rfl) | exact Or.inr rfl) (se_call cx tk rfl rfl rfl g__law_wrong (sa_cons (se_var 1) (sa_cons se_int sa_nil))))
 (ss_cons (ss_if (st_not (st_val (se_call cx tk rfl rfl rfl g__law_same (sa_cons (se_call cx tk rfl rfl rfl g__law_made (sa_cons (se_var 3) (sa_cons (se_var 10) sa_nil))) (sa_cons (se_tup (sa_cons se_str (sa_cons se_str sa_nil))) sa_nil)))))
 (ss_one (ss_ret se_bl))
 ss_nil)
 (ss_cons (ss_if (st_not (st_val (se_call cx tk rfl rfl rfl g__law_same (sa_cons (se_call cx tk rfl rfl rfl g__law_made (sa_cons (se_var 3) (sa_cons se_int sa_nil))) (sa_cons (se_tup (sa_cons se_str (sa_cons se_str sa_nil))) sa_nil)))))
 (ss_one (ss_ret se_bl))
 ss_nil)
 (ss_cons (ss_if (st_not (st_val (se_call cx tk rfl rfl rfl g__law_same (sa_cons (se_call cx tk rfl rfl rfl g__law_made (sa_cons (se_call cx tk rfl rfl rfl g__law_wrong (sa_cons (se_var 1) (sa_cons (se_var 2) sa_nil))) (sa_cons (se_var 10) sa_nil))) (sa_cons (se_tup (sa_cons se_str (sa_cons se_str sa_nil))) sa_nil)))))
 (ss_one (ss_ret se_bl))
 ss_nil)
 (ss_cons (ss_if (st_not (st_val (se_call cx tk rfl rfl rfl g__law_same (sa_cons (se_call cx tk rfl rfl rfl g__law_made (sa_cons (se_call cx tk rfl rfl rfl g__law_wrong (sa_cons (se_var 1) (sa_cons (se_var 2) sa_nil))) (sa_cons (se_var 2) sa_nil))) (sa_cons (se_tup (sa_cons se_str (sa_cons se_str sa_nil))) sa_nil)))))
 (ss_one (ss_ret se_bl))
 ss_nil)
 (ss_one (ss_ret (se_call cx tk rfl rfl rfl g__law_same (sa_cons (se_fld (L := ["part"]) (j := 0) cl_Rule na_Rule_part rfl (by decide) (se_var 4)) (sa_cons (se_call cx tk rfl rfl rfl g__law_lowest (sa_cons (se_var 3) (sa_cons (se_var 2) sa_nil))) sa_nil))))))))))))))))))))))))
end
end LK

end
section
namespace LK
open PySem VI
open L2 (atI ixN CDivW)
variable {k : Nat} {vh : VH} {kx : KX} {kd : KD}
theorem low_int {n : Nat} {i : Int} : low n (.int i) := by simp only [low]
theorem low_bl {n : Nat} {i : Bool} : low n (.bl i) := by simp only [low]
theorem low_non {n : Nat} : low n .non := by simp only [low]
theorem low_two {n : Nat} {i j : Int} : low n (.tup [.int i, .int j]) := by simp only [low, lows, and_self]
theorem lows_one {n : Nat} {d : D} (h : low n d) : lows n [d] := by simp only [lows]; exact ⟨h, trivial⟩
theorem sp_is_integer {d : D} (hd : pl d = true) (h : kd (.bl (isInt d)) vh) : callN T (k + 1) i_is_integer [d] vh kx kd := by
  refine enter (fn := fn_is_integer) rfl rfl rfl rfl ?_
  dsimp only [fn_is_integer, sem_is_integer, sEqO, sNeO, sIdxM, sIsXs, sBits, sRevT, oRevT_t, oShr_i, oShl_i, oBand_i, oBool_i, oBool_b, sRev, oZipM_t, oZipM_l, sPopA, sExn, sIsX, sCallN, sCallE, oRepr_one, sVar, sCst, sBin, sUn, sTB, sNotT, sAndT, sOrT, sAndV, sOrV, sNotV, sIfE, sNil, sCons, sTup, sLst, sCallB, sSeq, sSkip, sDrop, sRet, sRetN, sBrk, sCnt, sIf, sSet, gN, gsNil, gsCons, gT, sAsg, sFor, sWhile, sIt, sItA, sLc, sYes, sCall, sCallK, sMethK, sNewK, oview, sFld, sMeth, sNew, sPutNew, sPutOld, sPutL, sAug, sChain, sNoP, sPart, sSl, isT, sIsi, sApp, sRaise, sTry, exTry, ksAs, envAs, sXf, oMaxS_one, oMinS_one, look, wipeE, List.set, List.map, List.replicate, id, perm, List.filterMap, List.length_cons, List.length_nil, List.nil_append, List.cons_append, Nat.sub_self, Nat.reduceAdd, Nat.reduceSub, newL_f, newL_t, oAdd_i, oAdd_s, oAdd_t, oAdd_l, oMul_i, oSub_i, oFdiv_i, oMod_i, oPow_i, oLt_i, oLe_i, oGt_i, oGe_i, oNeg_i, oAddI_i, oEq_ii, oEq_ss, oEq_bb, oEq_nn, oEq_ni, oEq_in, oEq_ns, oEq_sn, oEq_is, oEq_si, oNe_ii, oNe_ss, oNe_bb, oIs_n, oIs_b, oIsNot_n, oIsNot_b, isNon_n, isNon_i, isNon_b, isNon_s, isNon_t, isNon_l, isNon_r, isBl_n, isBl_i, isBl_b, isBl_s, isBl_t, isBl_l, isBl_r, oIx_t, oIx_l, oIx_s, oLen_t, oLen_l, oLen_c, oLen_s, oAbs_i, oInt_i, oInt_b, oMax2_i, oMin2_i, oGcd_i, oIter_t, oIter_l, oIter_c, oRng1_i, oRng2_i, oRng2G_i, oSl_t, oSl_l, oSl_c, sIsC, sIsi2, isT2, sAugS, enumL, oIsC_n, oIsC_b, oIsC_i, oIsC_s, oIsC_t, oIsC_l, oIsC_o, oIsi2_n, oIsi2_b, oIsi2_i, oIsi2_s, oIsi2_t, oIsi2_l, oComb_i, sCountM, sTru, sChain3, oTru_b, oTru_n, oTru_i, oTru_t, oTru_l, oIn_t, oIn_l, oNotIn_t, oNotIn_l, oMulT_t, oMul_l, oList_l, oList_t, oTuple_l, oTuple_t, oSumS_l, oSumS_t, oEnum_t, oEnum_l, oZip_t, oZip_l, oIsi_n, oIsi_b, oIsi_i, oIsi_s, oIsi_t, oIsi_l]
  cases d <;> first | exact absurd hd Bool.false_ne_true | exact fin_pure low_bl h
def isNum : D → Bool
  | .int i => decide (0 ≤ i)
  | _ => false
/-! fractions: two natural numbers -/
@[reducible] def fr (a b : Nat) : D := .tup [.int a, .int b]
theorem isNum_nat {a : Nat} : isNum (.int a) = true := decide_eq_true (Int.natCast_nonneg a)
theorem at0 {x y : D} : atI [x, y] 0 = some x := rfl
theorem at1 {x y : D} : atI [x, y] 1 = some y := rfl
theorem dec_lt1 {b : Nat} (h : 1 ≤ b) : decide ((b : Int) < 1) = false := decide_eq_false (by omega)
@[reducible] def frL (a b : Nat) : D := fr (a / Nat.gcd a b) (b / Nat.gcd a b)
theorem gcd_pos {a b : Nat} (hb : 1 ≤ b) : 1 ≤ Nat.gcd a b := Nat.gcd_pos_of_pos_right a hb
theorem gcd_le {a b : Nat} (hb : 1 ≤ b) : Nat.gcd a b ≤ b := Nat.le_of_dvd hb (Nat.gcd_dvd_right a b)
theorem div_gcd {a b : Nat} (hb : 1 ≤ b) (bb : (b : Int) < 2 ^ 1000) {i : Int} : CDivW i (Nat.gcd a b : Nat) := by
  have h1 := gcd_pos (a := a) hb
  have h2 := gcd_le (a := a) hb
  exact div_ok (by omega) (by omega)
theorem sp_reduced {a b : Nat} (hb : 1 ≤ b) (bb : (b : Int) < 2 ^ 1000) (h : kd (frL a b) vh) : callN T (k + 1) i_reduced [.int a, .int b] vh kx kd := by
  refine enter (fn := fn_reduced) rfl rfl rfl rfl ?_
  dsimp only [fn_reduced, sem_reduced, sEqO, sNeO, sIdxM, sIsXs, sBits, sRevT, oRevT_t, oShr_i, oShl_i, oBand_i, oBool_i, oBool_b, sRev, oZipM_t, oZipM_l, sPopA, sExn, sIsX, sCallN, sCallE, oRepr_one, sVar, sCst, sBin, sUn, sTB, sNotT, sAndT, sOrT, sAndV, sOrV, sNotV, sIfE, sNil, sCons, sTup, sLst, sCallB, sSeq, sSkip, sDrop, sRet, sRetN, sBrk, sCnt, sIf, sSet, gN, gsNil, gsCons, gT, sAsg, sFor, sWhile, sIt, sItA, sLc, sYes, sCall, sCallK, sMethK, sNewK, oview, sFld, sMeth, sNew, sPutNew, sPutOld, sPutL, sAug, sChain, sNoP, sPart, sSl, isT, sIsi, sApp, sRaise, sTry, exTry, ksAs, envAs, sXf, oMaxS_one, oMinS_one, look, wipeE, List.set, List.map, List.replicate, id, perm, List.filterMap, List.length_cons, List.length_nil, List.nil_append, List.cons_append, Nat.sub_self, Nat.reduceAdd, Nat.reduceSub, newL_f, newL_t, oAdd_i, oAdd_s, oAdd_t, oAdd_l, oMul_i, oSub_i, oFdiv_i, oMod_i, oPow_i, oLt_i, oLe_i, oGt_i, oGe_i, oNeg_i, oAddI_i, oEq_ii, oEq_ss, oEq_bb, oEq_nn, oEq_ni, oEq_in, oEq_ns, oEq_sn, oEq_is, oEq_si, oNe_ii, oNe_ss, oNe_bb, oIs_n, oIs_b, oIsNot_n, oIsNot_b, isNon_n, isNon_i, isNon_b, isNon_s, isNon_t, isNon_l, isNon_r, isBl_n, isBl_i, isBl_b, isBl_s, isBl_t, isBl_l, isBl_r, oIx_t, oIx_l, oIx_s, oLen_t, oLen_l, oLen_c, oLen_s, oAbs_i, oInt_i, oInt_b, oMax2_i, oMin2_i, oGcd_i, oIter_t, oIter_l, oIter_c, oRng1_i, oRng2_i, oRng2G_i, oSl_t, oSl_l, oSl_c, sIsC, sIsi2, isT2, sAugS, enumL, oIsC_n, oIsC_b, oIsC_i, oIsC_s, oIsC_t, oIsC_l, oIsC_o, oIsi2_n, oIsi2_b, oIsi2_i, oIsi2_s, oIsi2_t, oIsi2_l, oComb_i, sCountM, sTru, sChain3, oTru_b, oTru_n, oTru_i, oTru_t, oTru_l, oIn_t, oIn_l, oNotIn_t, oNotIn_l, oMulT_t, oMul_l, oList_l, oList_t, oTuple_l, oTuple_t, oSumS_l, oSumS_t, oEnum_t, oEnum_l, oZip_t, oZip_l, oIsi_n, oIsi_b, oIsi_i, oIsi_s, oIsi_t, oIsi_l]
  rw [Int.natAbs_natCast, Int.natAbs_natCast]
  refine ⟨div_gcd hb bb, div_gcd hb bb, by decide, ?_⟩
  exact fin_pure low_two h
def sgn (l r : Nat) : Int := if r < l then 1 else if l < r then -1 else 0
theorem mul_nat {a b : Nat} (h1 : (a : Int) < 2 ^ 1000) (h2 : (b : Int) < 2 ^ 1000) : MulOk a b := mul_ok (by omega) h1 (by omega) h2

/-! the answers by arithmetic -/
theorem nat_dlt {x y : Nat} : decide ((x : Int) < y) = decide (x < y) := by
  rw [Bool.eq_iff_iff, decide_eq_true_iff, decide_eq_true_iff]
  exact Int.ofNat_lt
theorem nat_eq0 {c : Nat} : ((c : Int) == 0) = decide (c = 0) := by
  rw [Bool.eq_iff_iff, beq_iff_eq, decide_eq_true_iff]
  omega
/-! the law's own helpers -/
theorem sp_lowest {a b : Nat} (hb : 1 ≤ b) (bb : b < (fibs 200).1) (b2 : (b : Int) < 2 ^ 1000) (h : kd (frL a b) vh) : callN T (k + 1) i__law_lowest [.int a, .int b] vh kx kd := by
  refine enter (fn := fn__law_lowest) rfl rfl rfl rfl ?_
  dsimp only [fn__law_lowest, sem__law_lowest, sEqO, sNeO, sIdxM, sIsXs, sBits, sRevT, oRevT_t, oShr_i, oShl_i, oBand_i, oBool_i, oBool_b, sRev, oZipM_t, oZipM_l, sPopA, sExn, sIsX, sCallN, sCallE, oRepr_one, sVar, sCst, sBin, sUn, sTB, sNotT, sAndT, sOrT, sAndV, sOrV, sNotV, sIfE, sNil, sCons, sTup, sLst, sCallB, sSeq, sSkip, sDrop, sRet, sRetN, sBrk, sCnt, sIf, sSet, gN, gsNil, gsCons, gT, sAsg, sFor, sWhile, sIt, sItA, sLc, sYes, sCall, sCallK, sMethK, sNewK, oview, sFld, sMeth, sNew, sPutNew, sPutOld, sPutL, sAug, sChain, sNoP, sPart, sSl, isT, sIsi, sApp, sRaise, sTry, exTry, ksAs, envAs, sXf, oMaxS_one, oMinS_one, look, wipeE, List.set, List.map, List.replicate, id, perm, List.filterMap, List.length_cons, List.length_nil, List.nil_append, List.cons_append, Nat.sub_self, Nat.reduceAdd, Nat.reduceSub, newL_f, newL_t, oAdd_i, oAdd_s, oAdd_t, oAdd_l, oMul_i, oSub_i, oFdiv_i, oMod_i, oPow_i, oLt_i, oLe_i, oGt_i, oGe_i, oNeg_i, oAddI_i, oEq_ii, oEq_ss, oEq_bb, oEq_nn, oEq_ni, oEq_in, oEq_ns, oEq_sn, oEq_is, oEq_si, oNe_ii, oNe_ss, oNe_bb, oIs_n, oIs_b, oIsNot_n, oIsNot_b, isNon_n, isNon_i, isNon_b, isNon_s, isNon_t, isNon_l, isNon_r, isBl_n, isBl_i, isBl_b, isBl_s, isBl_t, isBl_l, isBl_r, oIx_t, oIx_l, oIx_s, oLen_t, oLen_l, oLen_c, oLen_s, oAbs_i, oInt_i, oInt_b, oMax2_i, oMin2_i, oGcd_i, oIter_t, oIter_l, oIter_c, oRng1_i, oRng2_i, oRng2G_i, oSl_t, oSl_l, oSl_c, sIsC, sIsi2, isT2, sAugS, enumL, oIsC_n, oIsC_b, oIsC_i, oIsC_s, oIsC_t, oIsC_l, oIsC_o, oIsi2_n, oIsi2_b, oIsi2_i, oIsi2_s, oIsi2_t, oIsi2_l, oComb_i, sCountM, sTru, sChain3, oTru_b, oTru_n, oTru_i, oTru_t, oTru_l, oIn_t, oIn_l, oNotIn_t, oNotIn_l, oMulT_t, oMul_l, oList_l, oList_t, oTuple_l, oTuple_t, oSumS_l, oSumS_t, oEnum_t, oEnum_l, oZip_t, oZip_l, oIsi_n, oIsi_b, oIsi_i, oIsi_s, oIsi_t, oIsi_l]
  refine ⟨by decide, by decide, ?_⟩
  refine forL_inv (fun i env vh' => vh' = vh ∧ ∃ x y, env = [some (.int a), some (.int b), some (.int ((turns i (a, b)).1 : Nat)), some (.int ((turns i (a, b)).2 : Nat)), x, y]) (fun _ _ _ _ => trivial) ?_ ?_ ⟨rfl, none, none, rfl⟩
  · rintro i d env vh' nx hd ⟨rfl, x, y, rfl⟩ hI
    have e := turns_succ i (a, b)
    have e2 := turn_at (turns i (a, b)).1 (turns i (a, b)).2
    dsimp only [sEqO, sNeO, sIdxM, sIsXs, sBits, sRevT, oRevT_t, oShr_i, oShl_i, oBand_i, oBool_i, oBool_b, sRev, oZipM_t, oZipM_l, sPopA, sExn, sIsX, sCallN, sCallE, oRepr_one, sVar, sCst, sBin, sUn, sTB, sNotT, sAndT, sOrT, sAndV, sOrV, sNotV, sIfE, sNil, sCons, sTup, sLst, sCallB, sSeq, sSkip, sDrop, sRet, sRetN, sBrk, sCnt, sIf, sSet, gN, gsNil, gsCons, gT, sAsg, sFor, sWhile, sIt, sItA, sLc, sYes, sCall, sCallK, sMethK, sNewK, oview, sFld, sMeth, sNew, sPutNew, sPutOld, sPutL, sAug, sChain, sNoP, sPart, sSl, isT, sIsi, sApp, sRaise, sTry, exTry, ksAs, envAs, sXf, oMaxS_one, oMinS_one, look, wipeE, List.set, List.map, List.replicate, id, perm, List.filterMap, List.length_cons, List.length_nil, List.nil_append, List.cons_append, Nat.sub_self, Nat.reduceAdd, Nat.reduceSub, newL_f, newL_t, oAdd_i, oAdd_s, oAdd_t, oAdd_l, oMul_i, oSub_i, oFdiv_i, oMod_i, oPow_i, oLt_i, oLe_i, oGt_i, oGe_i, oNeg_i, oAddI_i, oEq_ii, oEq_ss, oEq_bb, oEq_nn, oEq_ni, oEq_in, oEq_ns, oEq_sn, oEq_is, oEq_si, oNe_ii, oNe_ss, oNe_bb, oIs_n, oIs_b, oIsNot_n, oIsNot_b, isNon_n, isNon_i, isNon_b, isNon_s, isNon_t, isNon_l, isNon_r, isBl_n, isBl_i, isBl_b, isBl_s, isBl_t, isBl_l, isBl_r, oIx_t, oIx_l, oIx_s, oLen_t, oLen_l, oLen_c, oLen_s, oAbs_i, oInt_i, oInt_b, oMax2_i, oMin2_i, oGcd_i, oIter_t, oIter_l, oIter_c, oRng1_i, oRng2_i, oRng2G_i, oSl_t, oSl_l, oSl_c, sIsC, sIsi2, isT2, sAugS, enumL, oIsC_n, oIsC_b, oIsC_i, oIsC_s, oIsC_t, oIsC_l, oIsC_o, oIsi2_n, oIsi2_b, oIsi2_i, oIsi2_s, oIsi2_t, oIsi2_l, oComb_i, sCountM, sTru, sChain3, oTru_b, oTru_n, oTru_i, oTru_t, oTru_l, oIn_t, oIn_l, oNotIn_t, oNotIn_l, oMulT_t, oMul_l, oList_l, oList_t, oTuple_l, oTuple_t, oSumS_l, oSumS_t, oEnum_t, oEnum_l, oZip_t, oZip_l, oIsi_n, oIsi_b, oIsi_i, oIsi_s, oIsi_t, oIsi_l]
    by_cases hs : (turns i (a, b)).2 = 0
    · rw [decide_eq_false (by omega)]
      try dsimp only
      refine hI _ _ ⟨rfl, some d, y, ?_⟩
      rw [e, show turn (turns i (a, b)) = turns i (a, b) from by rw [show turns i (a, b) = ((turns i (a, b)).1, (turns i (a, b)).2) from rfl, e2, if_pos hs]]
    · rw [decide_eq_true (by omega)]
      try dsimp only
      refine ⟨by omega, hI _ _ ⟨rfl, some d, some (.int (((turns i (a, b)).1 : Int) % ((turns i (a, b)).2 : Int))), ?_⟩⟩
      rw [e, show turn (turns i (a, b)) = ((turns i (a, b)).2, (turns i (a, b)).1 % (turns i (a, b)).2) from by rw [show turns i (a, b) = ((turns i (a, b)).1, (turns i (a, b)).2) from rfl, e2, if_neg hs]]
      rfl
  · rintro env vh' ⟨rfl, x, y, rfl⟩
    rw [rngL_len, show (Int.toNat 200) = 200 from rfl, turns_end bb]
    dsimp only [sEqO, sNeO, sIdxM, sIsXs, sBits, sRevT, oRevT_t, oShr_i, oShl_i, oBand_i, oBool_i, oBool_b, sRev, oZipM_t, oZipM_l, sPopA, sExn, sIsX, sCallN, sCallE, oRepr_one, sVar, sCst, sBin, sUn, sTB, sNotT, sAndT, sOrT, sAndV, sOrV, sNotV, sIfE, sNil, sCons, sTup, sLst, sCallB, sSeq, sSkip, sDrop, sRet, sRetN, sBrk, sCnt, sIf, sSet, gN, gsNil, gsCons, gT, sAsg, sFor, sWhile, sIt, sItA, sLc, sYes, sCall, sCallK, sMethK, sNewK, oview, sFld, sMeth, sNew, sPutNew, sPutOld, sPutL, sAug, sChain, sNoP, sPart, sSl, isT, sIsi, sApp, sRaise, sTry, exTry, ksAs, envAs, sXf, oMaxS_one, oMinS_one, look, wipeE, List.set, List.map, List.replicate, id, perm, List.filterMap, List.length_cons, List.length_nil, List.nil_append, List.cons_append, Nat.sub_self, Nat.reduceAdd, Nat.reduceSub, newL_f, newL_t, oAdd_i, oAdd_s, oAdd_t, oAdd_l, oMul_i, oSub_i, oFdiv_i, oMod_i, oPow_i, oLt_i, oLe_i, oGt_i, oGe_i, oNeg_i, oAddI_i, oEq_ii, oEq_ss, oEq_bb, oEq_nn, oEq_ni, oEq_in, oEq_ns, oEq_sn, oEq_is, oEq_si, oNe_ii, oNe_ss, oNe_bb, oIs_n, oIs_b, oIsNot_n, oIsNot_b, isNon_n, isNon_i, isNon_b, isNon_s, isNon_t, isNon_l, isNon_r, isBl_n, isBl_i, isBl_b, isBl_s, isBl_t, isBl_l, isBl_r, oIx_t, oIx_l, oIx_s, oLen_t, oLen_l, oLen_c, oLen_s, oAbs_i, oInt_i, oInt_b, oMax2_i, oMin2_i, oGcd_i, oIter_t, oIter_l, oIter_c, oRng1_i, oRng2_i, oRng2G_i, oSl_t, oSl_l, oSl_c, sIsC, sIsi2, isT2, sAugS, enumL, oIsC_n, oIsC_b, oIsC_i, oIsC_s, oIsC_t, oIsC_l, oIsC_o, oIsi2_n, oIsi2_b, oIsi2_i, oIsi2_s, oIsi2_t, oIsi2_l, oComb_i, sCountM, sTru, sChain3, oTru_b, oTru_n, oTru_i, oTru_t, oTru_l, oIn_t, oIn_l, oNotIn_t, oNotIn_l, oMulT_t, oMul_l, oList_l, oList_t, oTuple_l, oTuple_t, oSumS_l, oSumS_t, oEnum_t, oEnum_l, oZip_t, oZip_l, oIsi_n, oIsi_b, oIsi_i, oIsi_s, oIsi_t, oIsi_l]
    exact ⟨div_gcd hb b2, div_gcd hb b2, by decide, fin_pure low_two h⟩

/-! the pool of draws -/
abbrev MM : Int := 2305843009213693951
/-- what a pool's cell holds -/
def PoolOk (c : Cell) : Prop := ∃ (ns : List Int) (i : Nat) (b s : Int), c = .lst [.lst (ns.map D.int), .int i, .int b, .int s] ∧ 0 ≤ b ∧ 0 ≤ s ∧ s < MM
theorem at4_0 {a b c d : D} : atI [a, b, c, d] 0 = some a := rfl
theorem at4_1 {a b c d : D} : atI [a, b, c, d] 1 = some b := rfl
theorem at4_2 {a b c d : D} : atI [a, b, c, d] 2 = some c := rfl
theorem at4_3 {a b c d : D} : atI [a, b, c, d] 3 = some d := rfl
theorem at_nat {xs : List D} {i : Nat} {d : D} (h : xs[i]? = some d) : atI xs (i : Int) = some d := by
  have hl := (List.getElem?_eq_some_iff.mp h).1
  unfold L2.atI L2.ixN
  rw [if_pos (Int.natCast_nonneg i), if_pos (by omega), Int.toNat_natCast]
  exact h
theorem ints_get {ns : List Int} {i : Nat} (h : i < ns.length) : (ns.map D.int)[i]? = some (.int ns[i]) := by
  rw [List.getElem?_map, List.getElem?_eq_getElem h]
  rfl
theorem pow18 : ((10 : Int) ^ (18 : Int).toNat) = 1000000000000000000 := by decide
theorem cpow18 : L2.CPow 10 18 := ⟨by decide, by decide, by decide⟩
theorem mul_state {s : Int} (h0 : 0 ≤ s) (h1 : s < MM) : VI.MulOk s s := mul_ok h0 (by unfold MM at h1; omega) h0 (by unfold MM at h1; omega)
theorem mod_M {x : Int} : 0 ≤ x % MM ∧ x % MM < MM := ⟨Int.emod_nonneg _ (by decide), Int.emod_lt_of_pos _ (by decide)⟩
theorem sp_pool {ns : List Int} (hn : ns.length ≤ 63) (h : ∀ c, PoolOk c → kd (.ref vh.length) (vh ++ [c])) : callN T (k + 1) i__law_pool [.scr ns] vh kx kd := by
  refine enter (fn := fn__law_pool) rfl rfl rfl rfl ?_
  dsimp only [fn__law_pool, sem__law_pool, sEqO, sNeO, sIdxM, sIsXs, sBits, sRevT, oRevT_t, oShr_i, oShl_i, oBand_i, oBool_i, oBool_b, sRev, oZipM_t, oZipM_l, sPopA, sExn, sIsX, sCallN, sCallE, oRepr_one, sVar, sCst, sBin, sUn, sTB, sNotT, sAndT, sOrT, sAndV, sOrV, sNotV, sIfE, sNil, sCons, sTup, sLst, sCallB, sSeq, sSkip, sDrop, sRet, sRetN, sBrk, sCnt, sIf, sSet, gN, gsNil, gsCons, gT, sAsg, sFor, sWhile, sIt, sItA, sLc, sYes, sCall, sCallK, sMethK, sNewK, oview, sFld, sMeth, sNew, sPutNew, sPutOld, sPutL, sAug, sChain, sNoP, sPart, sSl, isT, sIsi, sApp, sRaise, sTry, exTry, ksAs, envAs, sXf, oMaxS_one, oMinS_one, look, wipeE, List.set, List.map, List.replicate, id, perm, List.filterMap, List.length_cons, List.length_nil, List.nil_append, List.cons_append, Nat.sub_self, Nat.reduceAdd, Nat.reduceSub, newL_f, newL_t, oAdd_i, oAdd_s, oAdd_t, oAdd_l, oMul_i, oSub_i, oFdiv_i, oMod_i, oPow_i, oLt_i, oLe_i, oGt_i, oGe_i, oNeg_i, oAddI_i, oEq_ii, oEq_ss, oEq_bb, oEq_nn, oEq_ni, oEq_in, oEq_ns, oEq_sn, oEq_is, oEq_si, oNe_ii, oNe_ss, oNe_bb, oIs_n, oIs_b, oIsNot_n, oIsNot_b, isNon_n, isNon_i, isNon_b, isNon_s, isNon_t, isNon_l, isNon_r, isBl_n, isBl_i, isBl_b, isBl_s, isBl_t, isBl_l, isBl_r, oIx_t, oIx_l, oIx_s, oLen_t, oLen_l, oLen_c, oLen_s, oAbs_i, oInt_i, oInt_b, oMax2_i, oMin2_i, oGcd_i, oIter_t, oIter_l, oIter_c, oRng1_i, oRng2_i, oRng2G_i, oSl_t, oSl_l, oSl_c, sIsC, sIsi2, isT2, sAugS, enumL, oIsC_n, oIsC_b, oIsC_i, oIsC_s, oIsC_t, oIsC_l, oIsC_o, oIsi2_n, oIsi2_b, oIsi2_i, oIsi2_s, oIsi2_t, oIsi2_l, oComb_i, sCountM, sTru, sChain3, oTru_b, oTru_n, oTru_i, oTru_t, oTru_l, oIn_t, oIn_l, oNotIn_t, oNotIn_l, oMulT_t, oMul_l, oList_l, oList_t, oTuple_l, oTuple_t, oSumS_l, oSumS_t, oEnum_t, oEnum_l, oZip_t, oZip_l, oIsi_n, oIsi_b, oIsi_i, oIsi_s, oIsi_t, oIsi_l]
  have hc : (cutD ns none (some 63)).length ≤ 63 := by
    unfold cutD
    rw [List.length_take, List.length_drop]
    omega
  refine ⟨by rw [List.length_map]; omega, ?_⟩
  refine lcL_map (fun d => d) trivial (fun d hd kd' kf hk => ?_) ?_
  · obtain ⟨z, _, rfl⟩ := List.mem_map.mp hd
    exact hk
  · rw [List.map_id']
    refine forL_inv (fun _ env vh' => vh' = vh ∧ ∃ s x, env = [some (.scr ns), some (.lst ((cutD ns none (some 63)).map D.int)), some (.int s), x] ∧ 0 ≤ s ∧ s < MM) (fun _ _ _ _ => trivial) ?_ ?_ ⟨rfl, _, _, rfl, ?_, ?_⟩
    · rintro i d env vh' nx hd ⟨rfl, s, x, rfl, h0, h1⟩ hI
      obtain ⟨z, hz, rfl⟩ := List.mem_map.mp (List.mem_of_getElem? hd)
      dsimp only [sEqO, sNeO, sIdxM, sIsXs, sBits, sRevT, oRevT_t, oShr_i, oShl_i, oBand_i, oBool_i, oBool_b, sRev, oZipM_t, oZipM_l, sPopA, sExn, sIsX, sCallN, sCallE, oRepr_one, sVar, sCst, sBin, sUn, sTB, sNotT, sAndT, sOrT, sAndV, sOrV, sNotV, sIfE, sNil, sCons, sTup, sLst, sCallB, sSeq, sSkip, sDrop, sRet, sRetN, sBrk, sCnt, sIf, sSet, gN, gsNil, gsCons, gT, sAsg, sFor, sWhile, sIt, sItA, sLc, sYes, sCall, sCallK, sMethK, sNewK, oview, sFld, sMeth, sNew, sPutNew, sPutOld, sPutL, sAug, sChain, sNoP, sPart, sSl, isT, sIsi, sApp, sRaise, sTry, exTry, ksAs, envAs, sXf, oMaxS_one, oMinS_one, look, wipeE, List.set, List.map, List.replicate, id, perm, List.filterMap, List.length_cons, List.length_nil, List.nil_append, List.cons_append, Nat.sub_self, Nat.reduceAdd, Nat.reduceSub, newL_f, newL_t, oAdd_i, oAdd_s, oAdd_t, oAdd_l, oMul_i, oSub_i, oFdiv_i, oMod_i, oPow_i, oLt_i, oLe_i, oGt_i, oGe_i, oNeg_i, oAddI_i, oEq_ii, oEq_ss, oEq_bb, oEq_nn, oEq_ni, oEq_in, oEq_ns, oEq_sn, oEq_is, oEq_si, oNe_ii, oNe_ss, oNe_bb, oIs_n, oIs_b, oIsNot_n, oIsNot_b, isNon_n, isNon_i, isNon_b, isNon_s, isNon_t, isNon_l, isNon_r, isBl_n, isBl_i, isBl_b, isBl_s, isBl_t, isBl_l, isBl_r, oIx_t, oIx_l, oIx_s, oLen_t, oLen_l, oLen_c, oLen_s, oAbs_i, oInt_i, oInt_b, oMax2_i, oMin2_i, oGcd_i, oIter_t, oIter_l, oIter_c, oRng1_i, oRng2_i, oRng2G_i, oSl_t, oSl_l, oSl_c, sIsC, sIsi2, isT2, sAugS, enumL, oIsC_n, oIsC_b, oIsC_i, oIsC_s, oIsC_t, oIsC_l, oIsC_o, oIsi2_n, oIsi2_b, oIsi2_i, oIsi2_s, oIsi2_t, oIsi2_l, oComb_i, sCountM, sTru, sChain3, oTru_b, oTru_n, oTru_i, oTru_t, oTru_l, oIn_t, oIn_l, oNotIn_t, oNotIn_l, oMulT_t, oMul_l, oList_l, oList_t, oTuple_l, oTuple_t, oSumS_l, oSumS_t, oEnum_t, oEnum_l, oZip_t, oZip_l, oIsi_n, oIsi_b, oIsi_i, oIsi_s, oIsi_t, oIsi_l]
      refine ⟨mul_state h0 h1, by decide, hI _ _ ⟨rfl, _, _, rfl, mod_M.1, mod_M.2⟩⟩
    · rintro env vh' ⟨rfl, s, x, rfl, h0, h1⟩
      dsimp only [sEqO, sNeO, sIdxM, sIsXs, sBits, sRevT, oRevT_t, oShr_i, oShl_i, oBand_i, oBool_i, oBool_b, sRev, oZipM_t, oZipM_l, sPopA, sExn, sIsX, sCallN, sCallE, oRepr_one, sVar, sCst, sBin, sUn, sTB, sNotT, sAndT, sOrT, sAndV, sOrV, sNotV, sIfE, sNil, sCons, sTup, sLst, sCallB, sSeq, sSkip, sDrop, sRet, sRetN, sBrk, sCnt, sIf, sSet, gN, gsNil, gsCons, gT, sAsg, sFor, sWhile, sIt, sItA, sLc, sYes, sCall, sCallK, sMethK, sNewK, oview, sFld, sMeth, sNew, sPutNew, sPutOld, sPutL, sAug, sChain, sNoP, sPart, sSl, isT, sIsi, sApp, sRaise, sTry, exTry, ksAs, envAs, sXf, oMaxS_one, oMinS_one, look, wipeE, List.set, List.map, List.replicate, id, perm, List.filterMap, List.length_cons, List.length_nil, List.nil_append, List.cons_append, Nat.sub_self, Nat.reduceAdd, Nat.reduceSub, newL_f, newL_t, oAdd_i, oAdd_s, oAdd_t, oAdd_l, oMul_i, oSub_i, oFdiv_i, oMod_i, oPow_i, oLt_i, oLe_i, oGt_i, oGe_i, oNeg_i, oAddI_i, oEq_ii, oEq_ss, oEq_bb, oEq_nn, oEq_ni, oEq_in, oEq_ns, oEq_sn, oEq_is, oEq_si, oNe_ii, oNe_ss, oNe_bb, oIs_n, oIs_b, oIsNot_n, oIsNot_b, isNon_n, isNon_i, isNon_b, isNon_s, isNon_t, isNon_l, isNon_r, isBl_n, isBl_i, isBl_b, isBl_s, isBl_t, isBl_l, isBl_r, oIx_t, oIx_l, oIx_s, oLen_t, oLen_l, oLen_c, oLen_s, oAbs_i, oInt_i, oInt_b, oMax2_i, oMin2_i, oGcd_i, oIter_t, oIter_l, oIter_c, oRng1_i, oRng2_i, oRng2G_i, oSl_t, oSl_l, oSl_c, sIsC, sIsi2, isT2, sAugS, enumL, oIsC_n, oIsC_b, oIsC_i, oIsC_s, oIsC_t, oIsC_l, oIsC_o, oIsi2_n, oIsi2_b, oIsi2_i, oIsi2_s, oIsi2_t, oIsi2_l, oComb_i, sCountM, sTru, sChain3, oTru_b, oTru_n, oTru_i, oTru_t, oTru_l, oIn_t, oIn_l, oNotIn_t, oNotIn_l, oMulT_t, oMul_l, oList_l, oList_t, oTuple_l, oTuple_t, oSumS_l, oSumS_t, oEnum_t, oEnum_l, oZip_t, oZip_l, oIsi_n, oIsi_b, oIsi_i, oIsi_s, oIsi_t, oIsi_l]
      refine ⟨by decide, [.lst [.lst ((cutD ns none (some 63)).map D.int), .int 0, .int 0, .int s]], vh'.length, _, rfl, rfl, Nat.le_refl _, ?_, ?_, h _ ⟨cutD ns none (some 63), 0, 0, s, rfl, by decide, h0, h1⟩⟩
      · rw [List.getElem?_append_right (Nat.le_refl _), Nat.sub_self]
        rfl
      · simp only [lows, low, and_true, true_and]
        have : ∀ l : List Int, lows vh'.length (l.map D.int) := by
          intro l
          induction l with
          | nil => simp only [List.map_nil, lows]
          | cons a r ih => simp only [List.map_cons, lows, low, true_and]; exact ih
        exact this _
    · rw [List.length_map]; omega
    · rw [List.length_map]; unfold MM; omega
theorem sp_draw {p : Nat} {limit : Int} {c : Cell} (hp : vh[p]? = some c) (hc : PoolOk c) (h1 : 1 ≤ limit) (h2 : limit < 2 ^ 1000) (h : ∀ (r : Nat) c', (r : Int) < limit → PoolOk c' → kd (.int r) (vh.set p c')) : callN T (k + 1) i__law_draw [.ref p, .int limit] vh kx kd := by
  refine enter (fn := fn__law_draw) rfl rfl rfl rfl ?_
  dsimp only [fn__law_draw, sem__law_draw]
  refine seq_inv (fun env' vh' => ∃ (ns : List Int) (i : Nat) (b s : Int) (x y : Option D), env' = [some (.ref p), some (.int limit), x, y] ∧ vh' = vh.set p (.lst [.lst (ns.map D.int), .int i, .int b, .int s]) ∧ 0 ≤ b ∧ 0 ≤ s ∧ s < MM) ?_ ?_
  · intro nx hI
    obtain ⟨ns, i, b, s, rfl, hb, hs, hsM⟩ := hc
    dsimp only [sEqO, sNeO, sIdxM, sIsXs, sBits, sRevT, oRevT_t, oShr_i, oShl_i, oBand_i, oBool_i, oBool_b, sRev, oZipM_t, oZipM_l, sPopA, sExn, sIsX, sCallN, sCallE, oRepr_one, sVar, sCst, sBin, sUn, sTB, sNotT, sAndT, sOrT, sAndV, sOrV, sNotV, sIfE, sNil, sCons, sTup, sLst, sCallB, sSeq, sSkip, sDrop, sRet, sRetN, sBrk, sCnt, sIf, sSet, gN, gsNil, gsCons, gT, sAsg, sFor, sWhile, sIt, sItA, sLc, sYes, sCall, sCallK, sMethK, sNewK, oview, sFld, sMeth, sNew, sPutNew, sPutOld, sPutL, sAug, sChain, sNoP, sPart, sSl, isT, sIsi, sApp, sRaise, sTry, exTry, ksAs, envAs, sXf, oMaxS_one, oMinS_one, look, wipeE, List.set, List.map, List.replicate, id, perm, List.filterMap, List.length_cons, List.length_nil, List.nil_append, List.cons_append, Nat.sub_self, Nat.reduceAdd, Nat.reduceSub, newL_f, newL_t, oAdd_i, oAdd_s, oAdd_t, oAdd_l, oMul_i, oSub_i, oFdiv_i, oMod_i, oPow_i, oLt_i, oLe_i, oGt_i, oGe_i, oNeg_i, oAddI_i, oEq_ii, oEq_ss, oEq_bb, oEq_nn, oEq_ni, oEq_in, oEq_ns, oEq_sn, oEq_is, oEq_si, oNe_ii, oNe_ss, oNe_bb, oIs_n, oIs_b, oIsNot_n, oIsNot_b, isNon_n, isNon_i, isNon_b, isNon_s, isNon_t, isNon_l, isNon_r, isBl_n, isBl_i, isBl_b, isBl_s, isBl_t, isBl_l, isBl_r, oIx_t, oIx_l, oIx_s, oLen_t, oLen_l, oLen_c, oLen_s, oAbs_i, oInt_i, oInt_b, oMax2_i, oMin2_i, oGcd_i, oIter_t, oIter_l, oIter_c, oRng1_i, oRng2_i, oRng2G_i, oSl_t, oSl_l, oSl_c, sIsC, sIsi2, isT2, sAugS, enumL, oIsC_n, oIsC_b, oIsC_i, oIsC_s, oIsC_t, oIsC_l, oIsC_o, oIsi2_n, oIsi2_b, oIsi2_i, oIsi2_s, oIsi2_t, oIsi2_l, oComb_i, sCountM, sTru, sChain3, oTru_b, oTru_n, oTru_i, oTru_t, oTru_l, oIn_t, oIn_l, oNotIn_t, oNotIn_l, oMulT_t, oMul_l, oList_l, oList_t, oTuple_l, oTuple_t, oSumS_l, oSumS_t, oEnum_t, oEnum_l, oZip_t, oZip_l, oIsi_n, oIsi_b, oIsi_i, oIsi_s, oIsi_t, oIsi_l]
    refine ix_ref hp at4_2 ?_
    try dsimp only [oRevT_t, oShr_i, oShl_i, oBand_i, oBool_i, oBool_b, oZipM_t, oZipM_l, oRepr_one, isT, oMaxS_one, oMinS_one, look, List.length_cons, List.length_nil, List.nil_append, List.cons_append, Nat.sub_self, newL_f, newL_t, oAdd_i, oAdd_s, oAdd_t, oAdd_l, oMul_i, oSub_i, oFdiv_i, oMod_i, oPow_i, oLt_i, oLe_i, oGt_i, oGe_i, oNeg_i, oAddI_i, oEq_ii, oEq_ss, oEq_bb, oEq_nn, oEq_ni, oEq_in, oEq_ns, oEq_sn, oEq_is, oEq_si, oNe_ii, oNe_ss, oNe_bb, oIs_n, oIs_b, oIsNot_n, oIsNot_b, isNon_n, isNon_i, isNon_b, isNon_s, isNon_t, isNon_l, isNon_r, isBl_n, isBl_i, isBl_b, isBl_s, isBl_t, isBl_l, isBl_r, oIx_t, oIx_l, oIx_s, oLen_t, oLen_l, oLen_c, oLen_s, oAbs_i, oInt_i, oInt_b, oMax2_i, oMin2_i, oGcd_i, oIter_t, oIter_l, oIter_c, oRng1_i, oRng2_i, oRng2G_i, oSl_t, oSl_l, oSl_c, oIsC_n, oIsC_b, oIsC_i, oIsC_s, oIsC_t, oIsC_l, oIsC_o, oIsi2_n, oIsi2_b, oIsi2_i, oIsi2_s, oIsi2_t, oIsi2_l, oComb_i, oTru_b, oTru_n, oTru_i, oTru_t, oTru_l, oIn_t, oIn_l, oNotIn_t, oNotIn_l, oMulT_t, oMul_l, oList_l, oList_t, oTuple_l, oTuple_t, oSumS_l, oSumS_t, oEnum_t, oEnum_l, oZip_t, oZip_l, oIsi_n, oIsi_b, oIsi_i, oIsi_s, oIsi_t, oIsi_l, List.set, List.length_cons, List.length_nil, Nat.reduceAdd]
    by_cases hl : b < limit
    · rw [decide_eq_true hl]
      try dsimp only
      refine ix_ref hp at4_1 ?_
      refine ix_ref hp at4_0 ?_
      try dsimp only [oRevT_t, oShr_i, oShl_i, oBand_i, oBool_i, oBool_b, oZipM_t, oZipM_l, oRepr_one, isT, oMaxS_one, oMinS_one, look, List.length_cons, List.length_nil, List.nil_append, List.cons_append, Nat.sub_self, newL_f, newL_t, oAdd_i, oAdd_s, oAdd_t, oAdd_l, oMul_i, oSub_i, oFdiv_i, oMod_i, oPow_i, oLt_i, oLe_i, oGt_i, oGe_i, oNeg_i, oAddI_i, oEq_ii, oEq_ss, oEq_bb, oEq_nn, oEq_ni, oEq_in, oEq_ns, oEq_sn, oEq_is, oEq_si, oNe_ii, oNe_ss, oNe_bb, oIs_n, oIs_b, oIsNot_n, oIsNot_b, isNon_n, isNon_i, isNon_b, isNon_s, isNon_t, isNon_l, isNon_r, isBl_n, isBl_i, isBl_b, isBl_s, isBl_t, isBl_l, isBl_r, oIx_t, oIx_l, oIx_s, oLen_t, oLen_l, oLen_c, oLen_s, oAbs_i, oInt_i, oInt_b, oMax2_i, oMin2_i, oGcd_i, oIter_t, oIter_l, oIter_c, oRng1_i, oRng2_i, oRng2G_i, oSl_t, oSl_l, oSl_c, oIsC_n, oIsC_b, oIsC_i, oIsC_s, oIsC_t, oIsC_l, oIsC_o, oIsi2_n, oIsi2_b, oIsi2_i, oIsi2_s, oIsi2_t, oIsi2_l, oComb_i, oTru_b, oTru_n, oTru_i, oTru_t, oTru_l, oIn_t, oIn_l, oNotIn_t, oNotIn_l, oMulT_t, oMul_l, oList_l, oList_t, oTuple_l, oTuple_t, oSumS_l, oSumS_t, oEnum_t, oEnum_l, oZip_t, oZip_l, oIsi_n, oIsi_b, oIsi_i, oIsi_s, oIsi_t, oIsi_l, List.set, List.length_cons, List.length_nil, Nat.reduceAdd]
      rw [List.length_map]
      by_cases hi : i < ns.length
      · rw [decide_eq_true (by omega)]
        try dsimp only
        refine ix_ref hp at4_0 ?_
        refine ix_ref hp at4_1 ?_
        try dsimp only [oRevT_t, oShr_i, oShl_i, oBand_i, oBool_i, oBool_b, oZipM_t, oZipM_l, oRepr_one, isT, oMaxS_one, oMinS_one, look, List.length_cons, List.length_nil, List.nil_append, List.cons_append, Nat.sub_self, newL_f, newL_t, oAdd_i, oAdd_s, oAdd_t, oAdd_l, oMul_i, oSub_i, oFdiv_i, oMod_i, oPow_i, oLt_i, oLe_i, oGt_i, oGe_i, oNeg_i, oAddI_i, oEq_ii, oEq_ss, oEq_bb, oEq_nn, oEq_ni, oEq_in, oEq_ns, oEq_sn, oEq_is, oEq_si, oNe_ii, oNe_ss, oNe_bb, oIs_n, oIs_b, oIsNot_n, oIsNot_b, isNon_n, isNon_i, isNon_b, isNon_s, isNon_t, isNon_l, isNon_r, isBl_n, isBl_i, isBl_b, isBl_s, isBl_t, isBl_l, isBl_r, oIx_t, oIx_l, oIx_s, oLen_t, oLen_l, oLen_c, oLen_s, oAbs_i, oInt_i, oInt_b, oMax2_i, oMin2_i, oGcd_i, oIter_t, oIter_l, oIter_c, oRng1_i, oRng2_i, oRng2G_i, oSl_t, oSl_l, oSl_c, oIsC_n, oIsC_b, oIsC_i, oIsC_s, oIsC_t, oIsC_l, oIsC_o, oIsi2_n, oIsi2_b, oIsi2_i, oIsi2_s, oIsi2_t, oIsi2_l, oComb_i, oTru_b, oTru_n, oTru_i, oTru_t, oTru_l, oIn_t, oIn_l, oNotIn_t, oNotIn_l, oMulT_t, oMul_l, oList_l, oList_t, oTuple_l, oTuple_t, oSumS_l, oSumS_t, oEnum_t, oEnum_l, oZip_t, oZip_l, oIsi_n, oIsi_b, oIsi_i, oIsi_s, oIsi_t, oIsi_l, List.set, List.length_cons, List.length_nil, Nat.reduceAdd]
        refine ⟨_, at_nat (ints_get hi), ?_⟩
        try dsimp only [oRevT_t, oShr_i, oShl_i, oBand_i, oBool_i, oBool_b, oZipM_t, oZipM_l, oRepr_one, isT, oMaxS_one, oMinS_one, look, List.length_cons, List.length_nil, List.nil_append, List.cons_append, Nat.sub_self, newL_f, newL_t, oAdd_i, oAdd_s, oAdd_t, oAdd_l, oMul_i, oSub_i, oFdiv_i, oMod_i, oPow_i, oLt_i, oLe_i, oGt_i, oGe_i, oNeg_i, oAddI_i, oEq_ii, oEq_ss, oEq_bb, oEq_nn, oEq_ni, oEq_in, oEq_ns, oEq_sn, oEq_is, oEq_si, oNe_ii, oNe_ss, oNe_bb, oIs_n, oIs_b, oIsNot_n, oIsNot_b, isNon_n, isNon_i, isNon_b, isNon_s, isNon_t, isNon_l, isNon_r, isBl_n, isBl_i, isBl_b, isBl_s, isBl_t, isBl_l, isBl_r, oIx_t, oIx_l, oIx_s, oLen_t, oLen_l, oLen_c, oLen_s, oAbs_i, oInt_i, oInt_b, oMax2_i, oMin2_i, oGcd_i, oIter_t, oIter_l, oIter_c, oRng1_i, oRng2_i, oRng2G_i, oSl_t, oSl_l, oSl_c, oIsC_n, oIsC_b, oIsC_i, oIsC_s, oIsC_t, oIsC_l, oIsC_o, oIsi2_n, oIsi2_b, oIsi2_i, oIsi2_s, oIsi2_t, oIsi2_l, oComb_i, oTru_b, oTru_n, oTru_i, oTru_t, oTru_l, oIn_t, oIn_l, oNotIn_t, oNotIn_l, oMulT_t, oMul_l, oList_l, oList_t, oTuple_l, oTuple_t, oSumS_l, oSumS_t, oEnum_t, oEnum_l, oZip_t, oZip_l, oIsi_n, oIsi_b, oIsi_i, oIsi_s, oIsi_t, oIsi_l, List.set, List.length_cons, List.length_nil, Nat.reduceAdd]
        refine ix_ref hp at4_1 ?_
        try dsimp only [oRevT_t, oShr_i, oShl_i, oBand_i, oBool_i, oBool_b, oZipM_t, oZipM_l, oRepr_one, isT, oMaxS_one, oMinS_one, look, List.length_cons, List.length_nil, List.nil_append, List.cons_append, Nat.sub_self, newL_f, newL_t, oAdd_i, oAdd_s, oAdd_t, oAdd_l, oMul_i, oSub_i, oFdiv_i, oMod_i, oPow_i, oLt_i, oLe_i, oGt_i, oGe_i, oNeg_i, oAddI_i, oEq_ii, oEq_ss, oEq_bb, oEq_nn, oEq_ni, oEq_in, oEq_ns, oEq_sn, oEq_is, oEq_si, oNe_ii, oNe_ss, oNe_bb, oIs_n, oIs_b, oIsNot_n, oIsNot_b, isNon_n, isNon_i, isNon_b, isNon_s, isNon_t, isNon_l, isNon_r, isBl_n, isBl_i, isBl_b, isBl_s, isBl_t, isBl_l, isBl_r, oIx_t, oIx_l, oIx_s, oLen_t, oLen_l, oLen_c, oLen_s, oAbs_i, oInt_i, oInt_b, oMax2_i, oMin2_i, oGcd_i, oIter_t, oIter_l, oIter_c, oRng1_i, oRng2_i, oRng2G_i, oSl_t, oSl_l, oSl_c, oIsC_n, oIsC_b, oIsC_i, oIsC_s, oIsC_t, oIsC_l, oIsC_o, oIsi2_n, oIsi2_b, oIsi2_i, oIsi2_s, oIsi2_t, oIsi2_l, oComb_i, oTru_b, oTru_n, oTru_i, oTru_t, oTru_l, oIn_t, oIn_l, oNotIn_t, oNotIn_l, oMulT_t, oMul_l, oList_l, oList_t, oTuple_l, oTuple_t, oSumS_l, oSumS_t, oEnum_t, oEnum_l, oZip_t, oZip_l, oIsi_n, oIsi_b, oIsi_i, oIsi_s, oIsi_t, oIsi_l, List.set, List.length_cons, List.length_nil, Nat.reduceAdd]
        refine put_ref hp rfl ?_
        refine put_ref (get_set_self hp) rfl ?_
        rw [List.set_set]
        refine ⟨cpow18, ?_⟩
        rw [pow18]
        try dsimp only [oRevT_t, oShr_i, oShl_i, oBand_i, oBool_i, oBool_b, oZipM_t, oZipM_l, oRepr_one, isT, oMaxS_one, oMinS_one, look, List.length_cons, List.length_nil, List.nil_append, List.cons_append, Nat.sub_self, newL_f, newL_t, oAdd_i, oAdd_s, oAdd_t, oAdd_l, oMul_i, oSub_i, oFdiv_i, oMod_i, oPow_i, oLt_i, oLe_i, oGt_i, oGe_i, oNeg_i, oAddI_i, oEq_ii, oEq_ss, oEq_bb, oEq_nn, oEq_ni, oEq_in, oEq_ns, oEq_sn, oEq_is, oEq_si, oNe_ii, oNe_ss, oNe_bb, oIs_n, oIs_b, oIsNot_n, oIsNot_b, isNon_n, isNon_i, isNon_b, isNon_s, isNon_t, isNon_l, isNon_r, isBl_n, isBl_i, isBl_b, isBl_s, isBl_t, isBl_l, isBl_r, oIx_t, oIx_l, oIx_s, oLen_t, oLen_l, oLen_c, oLen_s, oAbs_i, oInt_i, oInt_b, oMax2_i, oMin2_i, oGcd_i, oIter_t, oIter_l, oIter_c, oRng1_i, oRng2_i, oRng2G_i, oSl_t, oSl_l, oSl_c, oIsC_n, oIsC_b, oIsC_i, oIsC_s, oIsC_t, oIsC_l, oIsC_o, oIsi2_n, oIsi2_b, oIsi2_i, oIsi2_s, oIsi2_t, oIsi2_l, oComb_i, oTru_b, oTru_n, oTru_i, oTru_t, oTru_l, oIn_t, oIn_l, oNotIn_t, oNotIn_l, oMulT_t, oMul_l, oList_l, oList_t, oTuple_l, oTuple_t, oSumS_l, oSumS_t, oEnum_t, oEnum_l, oZip_t, oZip_l, oIsi_n, oIsi_b, oIsi_i, oIsi_s, oIsi_t, oIsi_l, List.set, List.length_cons, List.length_nil, Nat.reduceAdd]
        by_cases hx : (1000000000000000000 : Int) ≤ (ns[i].natAbs : Int)
        · rw [decide_eq_true hx]
          try dsimp only
          refine put_ref (get_set_self hp) rfl ?_
          rw [List.set_set]
          refine ix_ref (get_set_self hp) at4_3 ?_
          refine ix_ref (get_set_self hp) at4_3 ?_
          try dsimp only [oRevT_t, oShr_i, oShl_i, oBand_i, oBool_i, oBool_b, oZipM_t, oZipM_l, oRepr_one, isT, oMaxS_one, oMinS_one, look, List.length_cons, List.length_nil, List.nil_append, List.cons_append, Nat.sub_self, newL_f, newL_t, oAdd_i, oAdd_s, oAdd_t, oAdd_l, oMul_i, oSub_i, oFdiv_i, oMod_i, oPow_i, oLt_i, oLe_i, oGt_i, oGe_i, oNeg_i, oAddI_i, oEq_ii, oEq_ss, oEq_bb, oEq_nn, oEq_ni, oEq_in, oEq_ns, oEq_sn, oEq_is, oEq_si, oNe_ii, oNe_ss, oNe_bb, oIs_n, oIs_b, oIsNot_n, oIsNot_b, isNon_n, isNon_i, isNon_b, isNon_s, isNon_t, isNon_l, isNon_r, isBl_n, isBl_i, isBl_b, isBl_s, isBl_t, isBl_l, isBl_r, oIx_t, oIx_l, oIx_s, oLen_t, oLen_l, oLen_c, oLen_s, oAbs_i, oInt_i, oInt_b, oMax2_i, oMin2_i, oGcd_i, oIter_t, oIter_l, oIter_c, oRng1_i, oRng2_i, oRng2G_i, oSl_t, oSl_l, oSl_c, oIsC_n, oIsC_b, oIsC_i, oIsC_s, oIsC_t, oIsC_l, oIsC_o, oIsi2_n, oIsi2_b, oIsi2_i, oIsi2_s, oIsi2_t, oIsi2_l, oComb_i, oTru_b, oTru_n, oTru_i, oTru_t, oTru_l, oIn_t, oIn_l, oNotIn_t, oNotIn_l, oMulT_t, oMul_l, oList_l, oList_t, oTuple_l, oTuple_t, oSumS_l, oSumS_t, oEnum_t, oEnum_l, oZip_t, oZip_l, oIsi_n, oIsi_b, oIsi_i, oIsi_s, oIsi_t, oIsi_l, List.set, List.length_cons, List.length_nil, Nat.reduceAdd]
          refine ⟨mul_state hs hsM, ?_⟩
          refine ix_ref (get_set_self hp) at4_1 ?_
          try dsimp only [oRevT_t, oShr_i, oShl_i, oBand_i, oBool_i, oBool_b, oZipM_t, oZipM_l, oRepr_one, isT, oMaxS_one, oMinS_one, look, List.length_cons, List.length_nil, List.nil_append, List.cons_append, Nat.sub_self, newL_f, newL_t, oAdd_i, oAdd_s, oAdd_t, oAdd_l, oMul_i, oSub_i, oFdiv_i, oMod_i, oPow_i, oLt_i, oLe_i, oGt_i, oGe_i, oNeg_i, oAddI_i, oEq_ii, oEq_ss, oEq_bb, oEq_nn, oEq_ni, oEq_in, oEq_ns, oEq_sn, oEq_is, oEq_si, oNe_ii, oNe_ss, oNe_bb, oIs_n, oIs_b, oIsNot_n, oIsNot_b, isNon_n, isNon_i, isNon_b, isNon_s, isNon_t, isNon_l, isNon_r, isBl_n, isBl_i, isBl_b, isBl_s, isBl_t, isBl_l, isBl_r, oIx_t, oIx_l, oIx_s, oLen_t, oLen_l, oLen_c, oLen_s, oAbs_i, oInt_i, oInt_b, oMax2_i, oMin2_i, oGcd_i, oIter_t, oIter_l, oIter_c, oRng1_i, oRng2_i, oRng2G_i, oSl_t, oSl_l, oSl_c, oIsC_n, oIsC_b, oIsC_i, oIsC_s, oIsC_t, oIsC_l, oIsC_o, oIsi2_n, oIsi2_b, oIsi2_i, oIsi2_s, oIsi2_t, oIsi2_l, oComb_i, oTru_b, oTru_n, oTru_i, oTru_t, oTru_l, oIn_t, oIn_l, oNotIn_t, oNotIn_l, oMulT_t, oMul_l, oList_l, oList_t, oTuple_l, oTuple_t, oSumS_l, oSumS_t, oEnum_t, oEnum_l, oZip_t, oZip_l, oIsi_n, oIsi_b, oIsi_i, oIsi_s, oIsi_t, oIsi_l, List.set, List.length_cons, List.length_nil, Nat.reduceAdd]
          refine ⟨by decide, ?_⟩
          refine put_ref (get_set_self hp) rfl ?_
          rw [List.set_set]
          exact hI _ _ ⟨ns, i + 1, _, _, _, _, rfl, rfl, by omega, mod_M.1, mod_M.2⟩
        · rw [decide_eq_false hx]
          try dsimp only
          refine ix_ref (get_set_self hp) at4_3 ?_
          refine ix_ref (get_set_self hp) at4_3 ?_
          try dsimp only [oRevT_t, oShr_i, oShl_i, oBand_i, oBool_i, oBool_b, oZipM_t, oZipM_l, oRepr_one, isT, oMaxS_one, oMinS_one, look, List.length_cons, List.length_nil, List.nil_append, List.cons_append, Nat.sub_self, newL_f, newL_t, oAdd_i, oAdd_s, oAdd_t, oAdd_l, oMul_i, oSub_i, oFdiv_i, oMod_i, oPow_i, oLt_i, oLe_i, oGt_i, oGe_i, oNeg_i, oAddI_i, oEq_ii, oEq_ss, oEq_bb, oEq_nn, oEq_ni, oEq_in, oEq_ns, oEq_sn, oEq_is, oEq_si, oNe_ii, oNe_ss, oNe_bb, oIs_n, oIs_b, oIsNot_n, oIsNot_b, isNon_n, isNon_i, isNon_b, isNon_s, isNon_t, isNon_l, isNon_r, isBl_n, isBl_i, isBl_b, isBl_s, isBl_t, isBl_l, isBl_r, oIx_t, oIx_l, oIx_s, oLen_t, oLen_l, oLen_c, oLen_s, oAbs_i, oInt_i, oInt_b, oMax2_i, oMin2_i, oGcd_i, oIter_t, oIter_l, oIter_c, oRng1_i, oRng2_i, oRng2G_i, oSl_t, oSl_l, oSl_c, oIsC_n, oIsC_b, oIsC_i, oIsC_s, oIsC_t, oIsC_l, oIsC_o, oIsi2_n, oIsi2_b, oIsi2_i, oIsi2_s, oIsi2_t, oIsi2_l, oComb_i, oTru_b, oTru_n, oTru_i, oTru_t, oTru_l, oIn_t, oIn_l, oNotIn_t, oNotIn_l, oMulT_t, oMul_l, oList_l, oList_t, oTuple_l, oTuple_t, oSumS_l, oSumS_t, oEnum_t, oEnum_l, oZip_t, oZip_l, oIsi_n, oIsi_b, oIsi_i, oIsi_s, oIsi_t, oIsi_l, List.set, List.length_cons, List.length_nil, Nat.reduceAdd]
          refine ⟨mul_state hs hsM, ?_⟩
          refine ix_ref (get_set_self hp) at4_1 ?_
          try dsimp only [oRevT_t, oShr_i, oShl_i, oBand_i, oBool_i, oBool_b, oZipM_t, oZipM_l, oRepr_one, isT, oMaxS_one, oMinS_one, look, List.length_cons, List.length_nil, List.nil_append, List.cons_append, Nat.sub_self, newL_f, newL_t, oAdd_i, oAdd_s, oAdd_t, oAdd_l, oMul_i, oSub_i, oFdiv_i, oMod_i, oPow_i, oLt_i, oLe_i, oGt_i, oGe_i, oNeg_i, oAddI_i, oEq_ii, oEq_ss, oEq_bb, oEq_nn, oEq_ni, oEq_in, oEq_ns, oEq_sn, oEq_is, oEq_si, oNe_ii, oNe_ss, oNe_bb, oIs_n, oIs_b, oIsNot_n, oIsNot_b, isNon_n, isNon_i, isNon_b, isNon_s, isNon_t, isNon_l, isNon_r, isBl_n, isBl_i, isBl_b, isBl_s, isBl_t, isBl_l, isBl_r, oIx_t, oIx_l, oIx_s, oLen_t, oLen_l, oLen_c, oLen_s, oAbs_i, oInt_i, oInt_b, oMax2_i, oMin2_i, oGcd_i, oIter_t, oIter_l, oIter_c, oRng1_i, oRng2_i, oRng2G_i, oSl_t, oSl_l, oSl_c, oIsC_n, oIsC_b, oIsC_i, oIsC_s, oIsC_t, oIsC_l, oIsC_o, oIsi2_n, oIsi2_b, oIsi2_i, oIsi2_s, oIsi2_t, oIsi2_l, oComb_i, oTru_b, oTru_n, oTru_i, oTru_t, oTru_l, oIn_t, oIn_l, oNotIn_t, oNotIn_l, oMulT_t, oMul_l, oList_l, oList_t, oTuple_l, oTuple_t, oSumS_l, oSumS_t, oEnum_t, oEnum_l, oZip_t, oZip_l, oIsi_n, oIsi_b, oIsi_i, oIsi_s, oIsi_t, oIsi_l, List.set, List.length_cons, List.length_nil, Nat.reduceAdd]
          refine ⟨by decide, ?_⟩
          refine put_ref (get_set_self hp) rfl ?_
          rw [List.set_set]
          exact hI _ _ ⟨ns, i + 1, _, _, _, _, rfl, rfl, by decide, mod_M.1, mod_M.2⟩
      · rw [decide_eq_false (by omega)]
        try dsimp only
        refine ix_ref hp at4_1 ?_
        try dsimp only [oRevT_t, oShr_i, oShl_i, oBand_i, oBool_i, oBool_b, oZipM_t, oZipM_l, oRepr_one, isT, oMaxS_one, oMinS_one, look, List.length_cons, List.length_nil, List.nil_append, List.cons_append, Nat.sub_self, newL_f, newL_t, oAdd_i, oAdd_s, oAdd_t, oAdd_l, oMul_i, oSub_i, oFdiv_i, oMod_i, oPow_i, oLt_i, oLe_i, oGt_i, oGe_i, oNeg_i, oAddI_i, oEq_ii, oEq_ss, oEq_bb, oEq_nn, oEq_ni, oEq_in, oEq_ns, oEq_sn, oEq_is, oEq_si, oNe_ii, oNe_ss, oNe_bb, oIs_n, oIs_b, oIsNot_n, oIsNot_b, isNon_n, isNon_i, isNon_b, isNon_s, isNon_t, isNon_l, isNon_r, isBl_n, isBl_i, isBl_b, isBl_s, isBl_t, isBl_l, isBl_r, oIx_t, oIx_l, oIx_s, oLen_t, oLen_l, oLen_c, oLen_s, oAbs_i, oInt_i, oInt_b, oMax2_i, oMin2_i, oGcd_i, oIter_t, oIter_l, oIter_c, oRng1_i, oRng2_i, oRng2G_i, oSl_t, oSl_l, oSl_c, oIsC_n, oIsC_b, oIsC_i, oIsC_s, oIsC_t, oIsC_l, oIsC_o, oIsi2_n, oIsi2_b, oIsi2_i, oIsi2_s, oIsi2_t, oIsi2_l, oComb_i, oTru_b, oTru_n, oTru_i, oTru_t, oTru_l, oIn_t, oIn_l, oNotIn_t, oNotIn_l, oMulT_t, oMul_l, oList_l, oList_t, oTuple_l, oTuple_t, oSumS_l, oSumS_t, oEnum_t, oEnum_l, oZip_t, oZip_l, oIsi_n, oIsi_b, oIsi_i, oIsi_s, oIsi_t, oIsi_l, List.set, List.length_cons, List.length_nil, Nat.reduceAdd]
        refine put_ref hp rfl ?_
        refine put_ref (get_set_self hp) rfl ?_
        rw [List.set_set]
        refine ⟨cpow18, ?_⟩
        rw [pow18]
        try dsimp only [oRevT_t, oShr_i, oShl_i, oBand_i, oBool_i, oBool_b, oZipM_t, oZipM_l, oRepr_one, isT, oMaxS_one, oMinS_one, look, List.length_cons, List.length_nil, List.nil_append, List.cons_append, Nat.sub_self, newL_f, newL_t, oAdd_i, oAdd_s, oAdd_t, oAdd_l, oMul_i, oSub_i, oFdiv_i, oMod_i, oPow_i, oLt_i, oLe_i, oGt_i, oGe_i, oNeg_i, oAddI_i, oEq_ii, oEq_ss, oEq_bb, oEq_nn, oEq_ni, oEq_in, oEq_ns, oEq_sn, oEq_is, oEq_si, oNe_ii, oNe_ss, oNe_bb, oIs_n, oIs_b, oIsNot_n, oIsNot_b, isNon_n, isNon_i, isNon_b, isNon_s, isNon_t, isNon_l, isNon_r, isBl_n, isBl_i, isBl_b, isBl_s, isBl_t, isBl_l, isBl_r, oIx_t, oIx_l, oIx_s, oLen_t, oLen_l, oLen_c, oLen_s, oAbs_i, oInt_i, oInt_b, oMax2_i, oMin2_i, oGcd_i, oIter_t, oIter_l, oIter_c, oRng1_i, oRng2_i, oRng2G_i, oSl_t, oSl_l, oSl_c, oIsC_n, oIsC_b, oIsC_i, oIsC_s, oIsC_t, oIsC_l, oIsC_o, oIsi2_n, oIsi2_b, oIsi2_i, oIsi2_s, oIsi2_t, oIsi2_l, oComb_i, oTru_b, oTru_n, oTru_i, oTru_t, oTru_l, oIn_t, oIn_l, oNotIn_t, oNotIn_l, oMulT_t, oMul_l, oList_l, oList_t, oTuple_l, oTuple_t, oSumS_l, oSumS_t, oEnum_t, oEnum_l, oZip_t, oZip_l, oIsi_n, oIsi_b, oIsi_i, oIsi_s, oIsi_t, oIsi_l, List.set, List.length_cons, List.length_nil, Nat.reduceAdd]
        refine ix_ref (get_set_self hp) at4_3 ?_
        refine ix_ref (get_set_self hp) at4_3 ?_
        try dsimp only [oRevT_t, oShr_i, oShl_i, oBand_i, oBool_i, oBool_b, oZipM_t, oZipM_l, oRepr_one, isT, oMaxS_one, oMinS_one, look, List.length_cons, List.length_nil, List.nil_append, List.cons_append, Nat.sub_self, newL_f, newL_t, oAdd_i, oAdd_s, oAdd_t, oAdd_l, oMul_i, oSub_i, oFdiv_i, oMod_i, oPow_i, oLt_i, oLe_i, oGt_i, oGe_i, oNeg_i, oAddI_i, oEq_ii, oEq_ss, oEq_bb, oEq_nn, oEq_ni, oEq_in, oEq_ns, oEq_sn, oEq_is, oEq_si, oNe_ii, oNe_ss, oNe_bb, oIs_n, oIs_b, oIsNot_n, oIsNot_b, isNon_n, isNon_i, isNon_b, isNon_s, isNon_t, isNon_l, isNon_r, isBl_n, isBl_i, isBl_b, isBl_s, isBl_t, isBl_l, isBl_r, oIx_t, oIx_l, oIx_s, oLen_t, oLen_l, oLen_c, oLen_s, oAbs_i, oInt_i, oInt_b, oMax2_i, oMin2_i, oGcd_i, oIter_t, oIter_l, oIter_c, oRng1_i, oRng2_i, oRng2G_i, oSl_t, oSl_l, oSl_c, oIsC_n, oIsC_b, oIsC_i, oIsC_s, oIsC_t, oIsC_l, oIsC_o, oIsi2_n, oIsi2_b, oIsi2_i, oIsi2_s, oIsi2_t, oIsi2_l, oComb_i, oTru_b, oTru_n, oTru_i, oTru_t, oTru_l, oIn_t, oIn_l, oNotIn_t, oNotIn_l, oMulT_t, oMul_l, oList_l, oList_t, oTuple_l, oTuple_t, oSumS_l, oSumS_t, oEnum_t, oEnum_l, oZip_t, oZip_l, oIsi_n, oIsi_b, oIsi_i, oIsi_s, oIsi_t, oIsi_l, List.set, List.length_cons, List.length_nil, Nat.reduceAdd]
        refine ⟨mul_state hs hsM, ?_⟩
        refine ix_ref (get_set_self hp) at4_1 ?_
        try dsimp only [oRevT_t, oShr_i, oShl_i, oBand_i, oBool_i, oBool_b, oZipM_t, oZipM_l, oRepr_one, isT, oMaxS_one, oMinS_one, look, List.length_cons, List.length_nil, List.nil_append, List.cons_append, Nat.sub_self, newL_f, newL_t, oAdd_i, oAdd_s, oAdd_t, oAdd_l, oMul_i, oSub_i, oFdiv_i, oMod_i, oPow_i, oLt_i, oLe_i, oGt_i, oGe_i, oNeg_i, oAddI_i, oEq_ii, oEq_ss, oEq_bb, oEq_nn, oEq_ni, oEq_in, oEq_ns, oEq_sn, oEq_is, oEq_si, oNe_ii, oNe_ss, oNe_bb, oIs_n, oIs_b, oIsNot_n, oIsNot_b, isNon_n, isNon_i, isNon_b, isNon_s, isNon_t, isNon_l, isNon_r, isBl_n, isBl_i, isBl_b, isBl_s, isBl_t, isBl_l, isBl_r, oIx_t, oIx_l, oIx_s, oLen_t, oLen_l, oLen_c, oLen_s, oAbs_i, oInt_i, oInt_b, oMax2_i, oMin2_i, oGcd_i, oIter_t, oIter_l, oIter_c, oRng1_i, oRng2_i, oRng2G_i, oSl_t, oSl_l, oSl_c, oIsC_n, oIsC_b, oIsC_i, oIsC_s, oIsC_t, oIsC_l, oIsC_o, oIsi2_n, oIsi2_b, oIsi2_i, oIsi2_s, oIsi2_t, oIsi2_l, oComb_i, oTru_b, oTru_n, oTru_i, oTru_t, oTru_l, oIn_t, oIn_l, oNotIn_t, oNotIn_l, oMulT_t, oMul_l, oList_l, oList_t, oTuple_l, oTuple_t, oSumS_l, oSumS_t, oEnum_t, oEnum_l, oZip_t, oZip_l, oIsi_n, oIsi_b, oIsi_i, oIsi_s, oIsi_t, oIsi_l, List.set, List.length_cons, List.length_nil, Nat.reduceAdd]
        refine ⟨by decide, ?_⟩
        refine put_ref (get_set_self hp) rfl ?_
        rw [List.set_set]
        exact hI _ _ ⟨ns, i + 1, _, _, _, _, rfl, rfl, by decide, mod_M.1, mod_M.2⟩
    · rw [decide_eq_false hl]
      try dsimp only
      exact hI _ _ ⟨ns, i, b, s, _, _, rfl, (set_same hp).symm, hb, hs, hsM⟩
  · rintro env' vh' ⟨ns, i, b, s, x, y, rfl, rfl, hb, hs, hsM⟩
    have nn : ∀ z : Int, 0 ≤ z % limit ∧ z % limit < limit := fun z => ⟨Int.emod_nonneg _ (by omega), Int.emod_lt_of_pos _ (by omega)⟩
    have nt : ∀ z : Int, ((z % limit).toNat : Int) = z % limit := fun z => Int.toNat_of_nonneg (nn z).1
    dsimp only [sEqO, sNeO, sIdxM, sIsXs, sBits, sRevT, oRevT_t, oShr_i, oShl_i, oBand_i, oBool_i, oBool_b, sRev, oZipM_t, oZipM_l, sPopA, sExn, sIsX, sCallN, sCallE, oRepr_one, sVar, sCst, sBin, sUn, sTB, sNotT, sAndT, sOrT, sAndV, sOrV, sNotV, sIfE, sNil, sCons, sTup, sLst, sCallB, sSeq, sSkip, sDrop, sRet, sRetN, sBrk, sCnt, sIf, sSet, gN, gsNil, gsCons, gT, sAsg, sFor, sWhile, sIt, sItA, sLc, sYes, sCall, sCallK, sMethK, sNewK, oview, sFld, sMeth, sNew, sPutNew, sPutOld, sPutL, sAug, sChain, sNoP, sPart, sSl, isT, sIsi, sApp, sRaise, sTry, exTry, ksAs, envAs, sXf, oMaxS_one, oMinS_one, look, wipeE, List.set, List.map, List.replicate, id, perm, List.filterMap, List.length_cons, List.length_nil, List.nil_append, List.cons_append, Nat.sub_self, Nat.reduceAdd, Nat.reduceSub, newL_f, newL_t, oAdd_i, oAdd_s, oAdd_t, oAdd_l, oMul_i, oSub_i, oFdiv_i, oMod_i, oPow_i, oLt_i, oLe_i, oGt_i, oGe_i, oNeg_i, oAddI_i, oEq_ii, oEq_ss, oEq_bb, oEq_nn, oEq_ni, oEq_in, oEq_ns, oEq_sn, oEq_is, oEq_si, oNe_ii, oNe_ss, oNe_bb, oIs_n, oIs_b, oIsNot_n, oIsNot_b, isNon_n, isNon_i, isNon_b, isNon_s, isNon_t, isNon_l, isNon_r, isBl_n, isBl_i, isBl_b, isBl_s, isBl_t, isBl_l, isBl_r, oIx_t, oIx_l, oIx_s, oLen_t, oLen_l, oLen_c, oLen_s, oAbs_i, oInt_i, oInt_b, oMax2_i, oMin2_i, oGcd_i, oIter_t, oIter_l, oIter_c, oRng1_i, oRng2_i, oRng2G_i, oSl_t, oSl_l, oSl_c, sIsC, sIsi2, isT2, sAugS, enumL, oIsC_n, oIsC_b, oIsC_i, oIsC_s, oIsC_t, oIsC_l, oIsC_o, oIsi2_n, oIsi2_b, oIsi2_i, oIsi2_s, oIsi2_t, oIsi2_l, oComb_i, sCountM, sTru, sChain3, oTru_b, oTru_n, oTru_i, oTru_t, oTru_l, oIn_t, oIn_l, oNotIn_t, oNotIn_l, oMulT_t, oMul_l, oList_l, oList_t, oTuple_l, oTuple_t, oSumS_l, oSumS_t, oEnum_t, oEnum_l, oZip_t, oZip_l, oIsi_n, oIsi_b, oIsi_i, oIsi_s, oIsi_t, oIsi_l]
    refine ix_ref (get_set_self hp) at4_2 ?_
    try dsimp only [oRevT_t, oShr_i, oShl_i, oBand_i, oBool_i, oBool_b, oZipM_t, oZipM_l, oRepr_one, isT, oMaxS_one, oMinS_one, look, List.length_cons, List.length_nil, List.nil_append, List.cons_append, Nat.sub_self, newL_f, newL_t, oAdd_i, oAdd_s, oAdd_t, oAdd_l, oMul_i, oSub_i, oFdiv_i, oMod_i, oPow_i, oLt_i, oLe_i, oGt_i, oGe_i, oNeg_i, oAddI_i, oEq_ii, oEq_ss, oEq_bb, oEq_nn, oEq_ni, oEq_in, oEq_ns, oEq_sn, oEq_is, oEq_si, oNe_ii, oNe_ss, oNe_bb, oIs_n, oIs_b, oIsNot_n, oIsNot_b, isNon_n, isNon_i, isNon_b, isNon_s, isNon_t, isNon_l, isNon_r, isBl_n, isBl_i, isBl_b, isBl_s, isBl_t, isBl_l, isBl_r, oIx_t, oIx_l, oIx_s, oLen_t, oLen_l, oLen_c, oLen_s, oAbs_i, oInt_i, oInt_b, oMax2_i, oMin2_i, oGcd_i, oIter_t, oIter_l, oIter_c, oRng1_i, oRng2_i, oRng2G_i, oSl_t, oSl_l, oSl_c, oIsC_n, oIsC_b, oIsC_i, oIsC_s, oIsC_t, oIsC_l, oIsC_o, oIsi2_n, oIsi2_b, oIsi2_i, oIsi2_s, oIsi2_t, oIsi2_l, oComb_i, oTru_b, oTru_n, oTru_i, oTru_t, oTru_l, oIn_t, oIn_l, oNotIn_t, oNotIn_l, oMulT_t, oMul_l, oList_l, oList_t, oTuple_l, oTuple_t, oSumS_l, oSumS_t, oEnum_t, oEnum_l, oZip_t, oZip_l, oIsi_n, oIsi_b, oIsi_i, oIsi_s, oIsi_t, oIsi_l, List.set, List.length_cons, List.length_nil, Nat.reduceAdd]
    by_cases hl : limit ≤ b
    · rw [decide_eq_true hl]
      try dsimp only
      refine ix_ref (get_set_self hp) at4_2 ?_
      try dsimp only [oRevT_t, oShr_i, oShl_i, oBand_i, oBool_i, oBool_b, oZipM_t, oZipM_l, oRepr_one, isT, oMaxS_one, oMinS_one, look, List.length_cons, List.length_nil, List.nil_append, List.cons_append, Nat.sub_self, newL_f, newL_t, oAdd_i, oAdd_s, oAdd_t, oAdd_l, oMul_i, oSub_i, oFdiv_i, oMod_i, oPow_i, oLt_i, oLe_i, oGt_i, oGe_i, oNeg_i, oAddI_i, oEq_ii, oEq_ss, oEq_bb, oEq_nn, oEq_ni, oEq_in, oEq_ns, oEq_sn, oEq_is, oEq_si, oNe_ii, oNe_ss, oNe_bb, oIs_n, oIs_b, oIsNot_n, oIsNot_b, isNon_n, isNon_i, isNon_b, isNon_s, isNon_t, isNon_l, isNon_r, isBl_n, isBl_i, isBl_b, isBl_s, isBl_t, isBl_l, isBl_r, oIx_t, oIx_l, oIx_s, oLen_t, oLen_l, oLen_c, oLen_s, oAbs_i, oInt_i, oInt_b, oMax2_i, oMin2_i, oGcd_i, oIter_t, oIter_l, oIter_c, oRng1_i, oRng2_i, oRng2G_i, oSl_t, oSl_l, oSl_c, oIsC_n, oIsC_b, oIsC_i, oIsC_s, oIsC_t, oIsC_l, oIsC_o, oIsi2_n, oIsi2_b, oIsi2_i, oIsi2_s, oIsi2_t, oIsi2_l, oComb_i, oTru_b, oTru_n, oTru_i, oTru_t, oTru_l, oIn_t, oIn_l, oNotIn_t, oNotIn_l, oMulT_t, oMul_l, oList_l, oList_t, oTuple_l, oTuple_t, oSumS_l, oSumS_t, oEnum_t, oEnum_l, oZip_t, oZip_l, oIsi_n, oIsi_b, oIsi_i, oIsi_s, oIsi_t, oIsi_l, List.set, List.length_cons, List.length_nil, Nat.reduceAdd]
      refine ⟨by omega, ?_⟩
      refine ix_ref (get_set_self hp) at4_2 ?_
      try dsimp only [oRevT_t, oShr_i, oShl_i, oBand_i, oBool_i, oBool_b, oZipM_t, oZipM_l, oRepr_one, isT, oMaxS_one, oMinS_one, look, List.length_cons, List.length_nil, List.nil_append, List.cons_append, Nat.sub_self, newL_f, newL_t, oAdd_i, oAdd_s, oAdd_t, oAdd_l, oMul_i, oSub_i, oFdiv_i, oMod_i, oPow_i, oLt_i, oLe_i, oGt_i, oGe_i, oNeg_i, oAddI_i, oEq_ii, oEq_ss, oEq_bb, oEq_nn, oEq_ni, oEq_in, oEq_ns, oEq_sn, oEq_is, oEq_si, oNe_ii, oNe_ss, oNe_bb, oIs_n, oIs_b, oIsNot_n, oIsNot_b, isNon_n, isNon_i, isNon_b, isNon_s, isNon_t, isNon_l, isNon_r, isBl_n, isBl_i, isBl_b, isBl_s, isBl_t, isBl_l, isBl_r, oIx_t, oIx_l, oIx_s, oLen_t, oLen_l, oLen_c, oLen_s, oAbs_i, oInt_i, oInt_b, oMax2_i, oMin2_i, oGcd_i, oIter_t, oIter_l, oIter_c, oRng1_i, oRng2_i, oRng2G_i, oSl_t, oSl_l, oSl_c, oIsC_n, oIsC_b, oIsC_i, oIsC_s, oIsC_t, oIsC_l, oIsC_o, oIsi2_n, oIsi2_b, oIsi2_i, oIsi2_s, oIsi2_t, oIsi2_l, oComb_i, oTru_b, oTru_n, oTru_i, oTru_t, oTru_l, oIn_t, oIn_l, oNotIn_t, oNotIn_l, oMulT_t, oMul_l, oList_l, oList_t, oTuple_l, oTuple_t, oSumS_l, oSumS_t, oEnum_t, oEnum_l, oZip_t, oZip_l, oIsi_n, oIsi_b, oIsi_i, oIsi_s, oIsi_t, oIsi_l, List.set, List.length_cons, List.length_nil, Nat.reduceAdd]
      refine ⟨div_ok (by omega) h2, ?_⟩
      refine put_ref (get_set_self hp) rfl ?_
      rw [List.set_set]
      have z := h (b % limit).toNat (.lst [.lst (ns.map D.int), .int i, .int (b / limit), .int s]) (by rw [nt]; exact (nn b).2) ⟨ns, i, _, _, rfl, Int.ediv_nonneg hb (by omega), hs, hsM⟩
      rw [nt] at z
      exact z
    · rw [decide_eq_false hl]
      try dsimp only
      refine ix_ref (get_set_self hp) at4_3 ?_
      try dsimp only [oRevT_t, oShr_i, oShl_i, oBand_i, oBool_i, oBool_b, oZipM_t, oZipM_l, oRepr_one, isT, oMaxS_one, oMinS_one, look, List.length_cons, List.length_nil, List.nil_append, List.cons_append, Nat.sub_self, newL_f, newL_t, oAdd_i, oAdd_s, oAdd_t, oAdd_l, oMul_i, oSub_i, oFdiv_i, oMod_i, oPow_i, oLt_i, oLe_i, oGt_i, oGe_i, oNeg_i, oAddI_i, oEq_ii, oEq_ss, oEq_bb, oEq_nn, oEq_ni, oEq_in, oEq_ns, oEq_sn, oEq_is, oEq_si, oNe_ii, oNe_ss, oNe_bb, oIs_n, oIs_b, oIsNot_n, oIsNot_b, isNon_n, isNon_i, isNon_b, isNon_s, isNon_t, isNon_l, isNon_r, isBl_n, isBl_i, isBl_b, isBl_s, isBl_t, isBl_l, isBl_r, oIx_t, oIx_l, oIx_s, oLen_t, oLen_l, oLen_c, oLen_s, oAbs_i, oInt_i, oInt_b, oMax2_i, oMin2_i, oGcd_i, oIter_t, oIter_l, oIter_c, oRng1_i, oRng2_i, oRng2G_i, oSl_t, oSl_l, oSl_c, oIsC_n, oIsC_b, oIsC_i, oIsC_s, oIsC_t, oIsC_l, oIsC_o, oIsi2_n, oIsi2_b, oIsi2_i, oIsi2_s, oIsi2_t, oIsi2_l, oComb_i, oTru_b, oTru_n, oTru_i, oTru_t, oTru_l, oIn_t, oIn_l, oNotIn_t, oNotIn_l, oMulT_t, oMul_l, oList_l, oList_t, oTuple_l, oTuple_t, oSumS_l, oSumS_t, oEnum_t, oEnum_l, oZip_t, oZip_l, oIsi_n, oIsi_b, oIsi_i, oIsi_s, oIsi_t, oIsi_l, List.set, List.length_cons, List.length_nil, Nat.reduceAdd]
      refine ⟨div_ok (by decide) (by omega), by omega, ?_⟩
      have z := h (s / 1048576 % limit).toNat (.lst [.lst (ns.map D.int), .int i, .int b, .int s]) (by rw [nt]; exact (nn _).2) ⟨ns, i, _, _, rfl, hb, hs, hsM⟩
      rw [nt] at z
      exact z

/-! _law_same of a datum and itself -/
def SD : Nat → D → Prop
  | 0, d => match d with
    | .non => True | .bl _ => True | .int _ => True | .str _ => True | _ => False
  | n + 1, d => match d with
    | .non => True | .bl _ => True | .int _ => True | .str _ => True
    | .tup ds => ds.length < 16777217 ∧ ∀ x ∈ ds, SD n x
    | .lst ds => ds.length < 16777217 ∧ ∀ x ∈ ds, SD n x
    | _ => False
theorem SD.scal : ∀ {n : Nat} {d : D}, SD 0 d → SD n d
  | 0, _, h => h
  | n + 1, .non, _ => trivial
  | n + 1, .bl _, _ => trivial
  | n + 1, .int _, _ => trivial
  | n + 1, .str _, _ => trivial
theorem same_loop {n : Nat} {ds : List D} {d : D} (hd : d = .tup ds ∨ d = .lst ds) (hs : ∀ x ∈ ds, SD n x) (ih : ∀ {x : D} {kd : KD} {kx : KX}, SD n x → kd (.bl true) vh → callN T (k + n + 1) i__law_same [x, x] vh kx kd) {kd : KD} {K0 : KS} (hK : K0.rt = finD .pure vh kd) (h : kd (.bl true) vh) {x : Option D} :
    forL (gN 2) (sIf (sNotT (sTB (sCall (callN T (k + n + 1)) i__law_same (sCons (sBin oIx (sVar 0) (sVar 2)) (sCons (sBin oIx (sVar 1) (sVar 2)) sNil))))) (sRet (sCst (.bl false))) sSkip) always (rngL 0 ds.length) [some d, some d, x] vh { K0 with nx := fun env' vh' => sRet (sCst (.bl true)) env' vh' K0 } := by
  refine forL_inv (fun _ env vh' => vh' = vh ∧ ∃ x, env = [some d, some d, x]) (fun _ _ _ _ => trivial) ?_ ?_ ⟨rfl, x, rfl⟩
  · rintro i e env vh' nx he ⟨rfl, x, rfl⟩ hI
    obtain ⟨hi, rfl⟩ := rng_get he
    have hi2 : ds[i]? = some ds[i] := List.getElem?_eq_getElem hi
    have ha : atI ds ((0 : Int) + i) = some ds[i] := by rw [Int.zero_add]; exact at_nat hi2
    have hx : oIx d (.int ((0 : Int) + i)) vh' = fun kd => ∃ z, atI ds ((0 : Int) + i) = some z ∧ kd z vh' := by
      rcases hd with rfl | rfl <;> rfl
    dsimp only [sEqO, sNeO, sIdxM, sIsXs, sBits, sRevT, oRevT_t, oShr_i, oShl_i, oBand_i, oBool_i, oBool_b, sRev, oZipM_t, oZipM_l, sPopA, sExn, sIsX, sCallN, sCallE, oRepr_one, sVar, sCst, sBin, sUn, sTB, sNotT, sAndT, sOrT, sAndV, sOrV, sNotV, sIfE, sNil, sCons, sTup, sLst, sCallB, sSeq, sSkip, sDrop, sRet, sRetN, sBrk, sCnt, sIf, sSet, gN, gsNil, gsCons, gT, sAsg, sFor, sWhile, sIt, sItA, sLc, sYes, sCall, sCallK, sMethK, sNewK, oview, sFld, sMeth, sNew, sPutNew, sPutOld, sPutL, sAug, sChain, sNoP, sPart, sSl, isT, sIsi, sApp, sRaise, sTry, exTry, ksAs, envAs, sXf, oMaxS_one, oMinS_one, look, wipeE, List.set, List.map, List.replicate, id, perm, List.filterMap, List.length_cons, List.length_nil, List.nil_append, List.cons_append, Nat.sub_self, Nat.reduceAdd, Nat.reduceSub, newL_f, newL_t, oAdd_i, oAdd_s, oAdd_t, oAdd_l, oMul_i, oSub_i, oFdiv_i, oMod_i, oPow_i, oLt_i, oLe_i, oGt_i, oGe_i, oNeg_i, oAddI_i, oEq_ii, oEq_ss, oEq_bb, oEq_nn, oEq_ni, oEq_in, oEq_ns, oEq_sn, oEq_is, oEq_si, oNe_ii, oNe_ss, oNe_bb, oIs_n, oIs_b, oIsNot_n, oIsNot_b, isNon_n, isNon_i, isNon_b, isNon_s, isNon_t, isNon_l, isNon_r, isBl_n, isBl_i, isBl_b, isBl_s, isBl_t, isBl_l, isBl_r, oIx_t, oIx_l, oIx_s, oLen_t, oLen_l, oLen_c, oLen_s, oAbs_i, oInt_i, oInt_b, oMax2_i, oMin2_i, oGcd_i, oIter_t, oIter_l, oIter_c, oRng1_i, oRng2_i, oRng2G_i, oSl_t, oSl_l, oSl_c, sIsC, sIsi2, isT2, sAugS, enumL, oIsC_n, oIsC_b, oIsC_i, oIsC_s, oIsC_t, oIsC_l, oIsC_o, oIsi2_n, oIsi2_b, oIsi2_i, oIsi2_s, oIsi2_t, oIsi2_l, oComb_i, sCountM, sTru, sChain3, oTru_b, oTru_n, oTru_i, oTru_t, oTru_l, oIn_t, oIn_l, oNotIn_t, oNotIn_l, oMulT_t, oMul_l, oList_l, oList_t, oTuple_l, oTuple_t, oSumS_l, oSumS_t, oEnum_t, oEnum_l, oZip_t, oZip_l, oIsi_n, oIsi_b, oIsi_i, oIsi_s, oIsi_t, oIsi_l]
    rw [hx]
    refine ⟨_, ha, ?_⟩
    try dsimp only
    rw [hx]
    refine ⟨_, ha, ?_⟩
    refine ih (hs _ (List.getElem_mem hi)) ?_
    exact hI _ _ ⟨rfl, _, rfl⟩
  · rintro env vh' ⟨rfl, x, rfl⟩
    show K0.rt (.bl true) vh'
    rw [hK]
    exact fin_pure low_bl h
theorem sp_same : ∀ (n : Nat) {d : D} {kd : KD} {kx : KX}, SD n d → kd (.bl true) vh → callN T (k + n + 1) i__law_same [d, d] vh kx kd := by
  intro n
  induction n with
  | zero =>
    intro d kd kx hd h
    refine enter (fn := fn__law_same) rfl rfl rfl rfl ?_
    dsimp only [fn__law_same, sem__law_same, sEqO, sNeO, sIdxM, sIsXs, sBits, sRevT, oRevT_t, oShr_i, oShl_i, oBand_i, oBool_i, oBool_b, sRev, oZipM_t, oZipM_l, sPopA, sExn, sIsX, sCallN, sCallE, oRepr_one, sVar, sCst, sBin, sUn, sTB, sNotT, sAndT, sOrT, sAndV, sOrV, sNotV, sIfE, sNil, sCons, sTup, sLst, sCallB, sSeq, sSkip, sDrop, sRet, sRetN, sBrk, sCnt, sIf, sSet, gN, gsNil, gsCons, gT, sAsg, sFor, sWhile, sIt, sItA, sLc, sYes, sCall, sCallK, sMethK, sNewK, oview, sFld, sMeth, sNew, sPutNew, sPutOld, sPutL, sAug, sChain, sNoP, sPart, sSl, isT, sIsi, sApp, sRaise, sTry, exTry, ksAs, envAs, sXf, oMaxS_one, oMinS_one, look, wipeE, List.set, List.map, List.replicate, id, perm, List.filterMap, List.length_cons, List.length_nil, List.nil_append, List.cons_append, Nat.sub_self, Nat.reduceAdd, Nat.reduceSub, newL_f, newL_t, oAdd_i, oAdd_s, oAdd_t, oAdd_l, oMul_i, oSub_i, oFdiv_i, oMod_i, oPow_i, oLt_i, oLe_i, oGt_i, oGe_i, oNeg_i, oAddI_i, oEq_ii, oEq_ss, oEq_bb, oEq_nn, oEq_ni, oEq_in, oEq_ns, oEq_sn, oEq_is, oEq_si, oNe_ii, oNe_ss, oNe_bb, oIs_n, oIs_b, oIsNot_n, oIsNot_b, isNon_n, isNon_i, isNon_b, isNon_s, isNon_t, isNon_l, isNon_r, isBl_n, isBl_i, isBl_b, isBl_s, isBl_t, isBl_l, isBl_r, oIx_t, oIx_l, oIx_s, oLen_t, oLen_l, oLen_c, oLen_s, oAbs_i, oInt_i, oInt_b, oMax2_i, oMin2_i, oGcd_i, oIter_t, oIter_l, oIter_c, oRng1_i, oRng2_i, oRng2G_i, oSl_t, oSl_l, oSl_c, sIsC, sIsi2, isT2, sAugS, enumL, oIsC_n, oIsC_b, oIsC_i, oIsC_s, oIsC_t, oIsC_l, oIsC_o, oIsi2_n, oIsi2_b, oIsi2_i, oIsi2_s, oIsi2_t, oIsi2_l, oComb_i, sCountM, sTru, sChain3, oTru_b, oTru_n, oTru_i, oTru_t, oTru_l, oIn_t, oIn_l, oNotIn_t, oNotIn_l, oMulT_t, oMul_l, oList_l, oList_t, oTuple_l, oTuple_t, oSumS_l, oSumS_t, oEnum_t, oEnum_l, oZip_t, oZip_l, oIsi_n, oIsi_b, oIsi_i, oIsi_s, oIsi_t, oIsi_l]
    cases d with
    | non => exact fin_pure low_bl h
    | bl b => cases b <;> exact fin_pure low_bl h
    | int i =>
      try dsimp only [oRevT_t, oShr_i, oShl_i, oBand_i, oBool_i, oBool_b, oZipM_t, oZipM_l, oRepr_one, isT, oMaxS_one, oMinS_one, look, List.length_cons, List.length_nil, List.nil_append, List.cons_append, Nat.sub_self, newL_f, newL_t, oAdd_i, oAdd_s, oAdd_t, oAdd_l, oMul_i, oSub_i, oFdiv_i, oMod_i, oPow_i, oLt_i, oLe_i, oGt_i, oGe_i, oNeg_i, oAddI_i, oEq_ii, oEq_ss, oEq_bb, oEq_nn, oEq_ni, oEq_in, oEq_ns, oEq_sn, oEq_is, oEq_si, oNe_ii, oNe_ss, oNe_bb, oIs_n, oIs_b, oIsNot_n, oIsNot_b, isNon_n, isNon_i, isNon_b, isNon_s, isNon_t, isNon_l, isNon_r, isBl_n, isBl_i, isBl_b, isBl_s, isBl_t, isBl_l, isBl_r, oIx_t, oIx_l, oIx_s, oLen_t, oLen_l, oLen_c, oLen_s, oAbs_i, oInt_i, oInt_b, oMax2_i, oMin2_i, oGcd_i, oIter_t, oIter_l, oIter_c, oRng1_i, oRng2_i, oRng2G_i, oSl_t, oSl_l, oSl_c, oIsC_n, oIsC_b, oIsC_i, oIsC_s, oIsC_t, oIsC_l, oIsC_o, oIsi2_n, oIsi2_b, oIsi2_i, oIsi2_s, oIsi2_t, oIsi2_l, oComb_i, oTru_b, oTru_n, oTru_i, oTru_t, oTru_l, oIn_t, oIn_l, oNotIn_t, oNotIn_l, oMulT_t, oMul_l, oList_l, oList_t, oTuple_l, oTuple_t, oSumS_l, oSumS_t, oEnum_t, oEnum_l, oZip_t, oZip_l, oIsi_n, oIsi_b, oIsi_i, oIsi_s, oIsi_t, oIsi_l, List.set, List.length_cons, List.length_nil, Nat.reduceAdd]
      rw [beq_self_eq_true]
      exact fin_pure low_bl h
    | str x =>
      try dsimp only [oRevT_t, oShr_i, oShl_i, oBand_i, oBool_i, oBool_b, oZipM_t, oZipM_l, oRepr_one, isT, oMaxS_one, oMinS_one, look, List.length_cons, List.length_nil, List.nil_append, List.cons_append, Nat.sub_self, newL_f, newL_t, oAdd_i, oAdd_s, oAdd_t, oAdd_l, oMul_i, oSub_i, oFdiv_i, oMod_i, oPow_i, oLt_i, oLe_i, oGt_i, oGe_i, oNeg_i, oAddI_i, oEq_ii, oEq_ss, oEq_bb, oEq_nn, oEq_ni, oEq_in, oEq_ns, oEq_sn, oEq_is, oEq_si, oNe_ii, oNe_ss, oNe_bb, oIs_n, oIs_b, oIsNot_n, oIsNot_b, isNon_n, isNon_i, isNon_b, isNon_s, isNon_t, isNon_l, isNon_r, isBl_n, isBl_i, isBl_b, isBl_s, isBl_t, isBl_l, isBl_r, oIx_t, oIx_l, oIx_s, oLen_t, oLen_l, oLen_c, oLen_s, oAbs_i, oInt_i, oInt_b, oMax2_i, oMin2_i, oGcd_i, oIter_t, oIter_l, oIter_c, oRng1_i, oRng2_i, oRng2G_i, oSl_t, oSl_l, oSl_c, oIsC_n, oIsC_b, oIsC_i, oIsC_s, oIsC_t, oIsC_l, oIsC_o, oIsi2_n, oIsi2_b, oIsi2_i, oIsi2_s, oIsi2_t, oIsi2_l, oComb_i, oTru_b, oTru_n, oTru_i, oTru_t, oTru_l, oIn_t, oIn_l, oNotIn_t, oNotIn_l, oMulT_t, oMul_l, oList_l, oList_t, oTuple_l, oTuple_t, oSumS_l, oSumS_t, oEnum_t, oEnum_l, oZip_t, oZip_l, oIsi_n, oIsi_b, oIsi_i, oIsi_s, oIsi_t, oIsi_l, List.set, List.length_cons, List.length_nil, Nat.reduceAdd]
      rw [beq_self_eq_true]
      exact fin_pure low_bl h
    | _ => exact hd.elim
  | succ n ih =>
    intro d kd kx hd h
    refine enter (fn := fn__law_same) rfl rfl rfl rfl ?_
    dsimp only [fn__law_same, sem__law_same]
    cases d with
    | non => exact fin_pure low_bl h
    | bl b => cases b <;> exact fin_pure low_bl h
    | int i =>
      dsimp only [sEqO, sNeO, sIdxM, sIsXs, sBits, sRevT, oRevT_t, oShr_i, oShl_i, oBand_i, oBool_i, oBool_b, sRev, oZipM_t, oZipM_l, sPopA, sExn, sIsX, sCallN, sCallE, oRepr_one, sVar, sCst, sBin, sUn, sTB, sNotT, sAndT, sOrT, sAndV, sOrV, sNotV, sIfE, sNil, sCons, sTup, sLst, sCallB, sSeq, sSkip, sDrop, sRet, sRetN, sBrk, sCnt, sIf, sSet, gN, gsNil, gsCons, gT, sAsg, sFor, sWhile, sIt, sItA, sLc, sYes, sCall, sCallK, sMethK, sNewK, oview, sFld, sMeth, sNew, sPutNew, sPutOld, sPutL, sAug, sChain, sNoP, sPart, sSl, isT, sIsi, sApp, sRaise, sTry, exTry, ksAs, envAs, sXf, oMaxS_one, oMinS_one, look, wipeE, List.set, List.map, List.replicate, id, perm, List.filterMap, List.length_cons, List.length_nil, List.nil_append, List.cons_append, Nat.sub_self, Nat.reduceAdd, Nat.reduceSub, newL_f, newL_t, oAdd_i, oAdd_s, oAdd_t, oAdd_l, oMul_i, oSub_i, oFdiv_i, oMod_i, oPow_i, oLt_i, oLe_i, oGt_i, oGe_i, oNeg_i, oAddI_i, oEq_ii, oEq_ss, oEq_bb, oEq_nn, oEq_ni, oEq_in, oEq_ns, oEq_sn, oEq_is, oEq_si, oNe_ii, oNe_ss, oNe_bb, oIs_n, oIs_b, oIsNot_n, oIsNot_b, isNon_n, isNon_i, isNon_b, isNon_s, isNon_t, isNon_l, isNon_r, isBl_n, isBl_i, isBl_b, isBl_s, isBl_t, isBl_l, isBl_r, oIx_t, oIx_l, oIx_s, oLen_t, oLen_l, oLen_c, oLen_s, oAbs_i, oInt_i, oInt_b, oMax2_i, oMin2_i, oGcd_i, oIter_t, oIter_l, oIter_c, oRng1_i, oRng2_i, oRng2G_i, oSl_t, oSl_l, oSl_c, sIsC, sIsi2, isT2, sAugS, enumL, oIsC_n, oIsC_b, oIsC_i, oIsC_s, oIsC_t, oIsC_l, oIsC_o, oIsi2_n, oIsi2_b, oIsi2_i, oIsi2_s, oIsi2_t, oIsi2_l, oComb_i, sCountM, sTru, sChain3, oTru_b, oTru_n, oTru_i, oTru_t, oTru_l, oIn_t, oIn_l, oNotIn_t, oNotIn_l, oMulT_t, oMul_l, oList_l, oList_t, oTuple_l, oTuple_t, oSumS_l, oSumS_t, oEnum_t, oEnum_l, oZip_t, oZip_l, oIsi_n, oIsi_b, oIsi_i, oIsi_s, oIsi_t, oIsi_l]
      rw [beq_self_eq_true]
      exact fin_pure low_bl h
    | str x =>
      dsimp only [sEqO, sNeO, sIdxM, sIsXs, sBits, sRevT, oRevT_t, oShr_i, oShl_i, oBand_i, oBool_i, oBool_b, sRev, oZipM_t, oZipM_l, sPopA, sExn, sIsX, sCallN, sCallE, oRepr_one, sVar, sCst, sBin, sUn, sTB, sNotT, sAndT, sOrT, sAndV, sOrV, sNotV, sIfE, sNil, sCons, sTup, sLst, sCallB, sSeq, sSkip, sDrop, sRet, sRetN, sBrk, sCnt, sIf, sSet, gN, gsNil, gsCons, gT, sAsg, sFor, sWhile, sIt, sItA, sLc, sYes, sCall, sCallK, sMethK, sNewK, oview, sFld, sMeth, sNew, sPutNew, sPutOld, sPutL, sAug, sChain, sNoP, sPart, sSl, isT, sIsi, sApp, sRaise, sTry, exTry, ksAs, envAs, sXf, oMaxS_one, oMinS_one, look, wipeE, List.set, List.map, List.replicate, id, perm, List.filterMap, List.length_cons, List.length_nil, List.nil_append, List.cons_append, Nat.sub_self, Nat.reduceAdd, Nat.reduceSub, newL_f, newL_t, oAdd_i, oAdd_s, oAdd_t, oAdd_l, oMul_i, oSub_i, oFdiv_i, oMod_i, oPow_i, oLt_i, oLe_i, oGt_i, oGe_i, oNeg_i, oAddI_i, oEq_ii, oEq_ss, oEq_bb, oEq_nn, oEq_ni, oEq_in, oEq_ns, oEq_sn, oEq_is, oEq_si, oNe_ii, oNe_ss, oNe_bb, oIs_n, oIs_b, oIsNot_n, oIsNot_b, isNon_n, isNon_i, isNon_b, isNon_s, isNon_t, isNon_l, isNon_r, isBl_n, isBl_i, isBl_b, isBl_s, isBl_t, isBl_l, isBl_r, oIx_t, oIx_l, oIx_s, oLen_t, oLen_l, oLen_c, oLen_s, oAbs_i, oInt_i, oInt_b, oMax2_i, oMin2_i, oGcd_i, oIter_t, oIter_l, oIter_c, oRng1_i, oRng2_i, oRng2G_i, oSl_t, oSl_l, oSl_c, sIsC, sIsi2, isT2, sAugS, enumL, oIsC_n, oIsC_b, oIsC_i, oIsC_s, oIsC_t, oIsC_l, oIsC_o, oIsi2_n, oIsi2_b, oIsi2_i, oIsi2_s, oIsi2_t, oIsi2_l, oComb_i, sCountM, sTru, sChain3, oTru_b, oTru_n, oTru_i, oTru_t, oTru_l, oIn_t, oIn_l, oNotIn_t, oNotIn_l, oMulT_t, oMul_l, oList_l, oList_t, oTuple_l, oTuple_t, oSumS_l, oSumS_t, oEnum_t, oEnum_l, oZip_t, oZip_l, oIsi_n, oIsi_b, oIsi_i, oIsi_s, oIsi_t, oIsi_l]
      rw [beq_self_eq_true]
      exact fin_pure low_bl h
    | tup ds =>
      obtain ⟨hl, hs⟩ := hd
      dsimp only [sEqO, sNeO, sIdxM, sIsXs, sBits, sRevT, oRevT_t, oShr_i, oShl_i, oBand_i, oBool_i, oBool_b, sRev, oZipM_t, oZipM_l, sPopA, sExn, sIsX, sCallN, sCallE, oRepr_one, sVar, sCst, sBin, sUn, sTB, sNotT, sAndT, sOrT, sAndV, sOrV, sNotV, sIfE, sNil, sCons, sTup, sLst, sCallB, sSeq, sSkip, sDrop, sRet, sRetN, sBrk, sCnt, sIf, sSet, gN, gsNil, gsCons, gT, sAsg, sFor, sWhile, sIt, sItA, sLc, sYes, sCall, sCallK, sMethK, sNewK, oview, sFld, sMeth, sNew, sPutNew, sPutOld, sPutL, sAug, sChain, sNoP, sPart, sSl, isT, sIsi, sApp, sRaise, sTry, exTry, ksAs, envAs, sXf, oMaxS_one, oMinS_one, look, wipeE, List.set, List.map, List.replicate, id, perm, List.filterMap, List.length_cons, List.length_nil, List.nil_append, List.cons_append, Nat.sub_self, Nat.reduceAdd, Nat.reduceSub, newL_f, newL_t, oAdd_i, oAdd_s, oAdd_t, oAdd_l, oMul_i, oSub_i, oFdiv_i, oMod_i, oPow_i, oLt_i, oLe_i, oGt_i, oGe_i, oNeg_i, oAddI_i, oEq_ii, oEq_ss, oEq_bb, oEq_nn, oEq_ni, oEq_in, oEq_ns, oEq_sn, oEq_is, oEq_si, oNe_ii, oNe_ss, oNe_bb, oIs_n, oIs_b, oIsNot_n, oIsNot_b, isNon_n, isNon_i, isNon_b, isNon_s, isNon_t, isNon_l, isNon_r, isBl_n, isBl_i, isBl_b, isBl_s, isBl_t, isBl_l, isBl_r, oIx_t, oIx_l, oIx_s, oLen_t, oLen_l, oLen_c, oLen_s, oAbs_i, oInt_i, oInt_b, oMax2_i, oMin2_i, oGcd_i, oIter_t, oIter_l, oIter_c, oRng1_i, oRng2_i, oRng2G_i, oSl_t, oSl_l, oSl_c, sIsC, sIsi2, isT2, sAugS, enumL, oIsC_n, oIsC_b, oIsC_i, oIsC_s, oIsC_t, oIsC_l, oIsC_o, oIsi2_n, oIsi2_b, oIsi2_i, oIsi2_s, oIsi2_t, oIsi2_l, oComb_i, sCountM, sTru, sChain3, oTru_b, oTru_n, oTru_i, oTru_t, oTru_l, oIn_t, oIn_l, oNotIn_t, oNotIn_l, oMulT_t, oMul_l, oList_l, oList_t, oTuple_l, oTuple_t, oSumS_l, oSumS_t, oEnum_t, oEnum_l, oZip_t, oZip_l, oIsi_n, oIsi_b, oIsi_i, oIsi_s, oIsi_t, oIsi_l]
      simp only [beq_self_eq_true, Bool.not_true, Int.toNat_natCast]
      refine ⟨by omega, by omega, ?_⟩
      exact same_loop (K0 := ⟨fun _ _ => False, finD .pure vh kd, _, _, _⟩) (.inl rfl) hs ih rfl h
    | lst ds =>
      obtain ⟨hl, hs⟩ := hd
      dsimp only [sEqO, sNeO, sIdxM, sIsXs, sBits, sRevT, oRevT_t, oShr_i, oShl_i, oBand_i, oBool_i, oBool_b, sRev, oZipM_t, oZipM_l, sPopA, sExn, sIsX, sCallN, sCallE, oRepr_one, sVar, sCst, sBin, sUn, sTB, sNotT, sAndT, sOrT, sAndV, sOrV, sNotV, sIfE, sNil, sCons, sTup, sLst, sCallB, sSeq, sSkip, sDrop, sRet, sRetN, sBrk, sCnt, sIf, sSet, gN, gsNil, gsCons, gT, sAsg, sFor, sWhile, sIt, sItA, sLc, sYes, sCall, sCallK, sMethK, sNewK, oview, sFld, sMeth, sNew, sPutNew, sPutOld, sPutL, sAug, sChain, sNoP, sPart, sSl, isT, sIsi, sApp, sRaise, sTry, exTry, ksAs, envAs, sXf, oMaxS_one, oMinS_one, look, wipeE, List.set, List.map, List.replicate, id, perm, List.filterMap, List.length_cons, List.length_nil, List.nil_append, List.cons_append, Nat.sub_self, Nat.reduceAdd, Nat.reduceSub, newL_f, newL_t, oAdd_i, oAdd_s, oAdd_t, oAdd_l, oMul_i, oSub_i, oFdiv_i, oMod_i, oPow_i, oLt_i, oLe_i, oGt_i, oGe_i, oNeg_i, oAddI_i, oEq_ii, oEq_ss, oEq_bb, oEq_nn, oEq_ni, oEq_in, oEq_ns, oEq_sn, oEq_is, oEq_si, oNe_ii, oNe_ss, oNe_bb, oIs_n, oIs_b, oIsNot_n, oIsNot_b, isNon_n, isNon_i, isNon_b, isNon_s, isNon_t, isNon_l, isNon_r, isBl_n, isBl_i, isBl_b, isBl_s, isBl_t, isBl_l, isBl_r, oIx_t, oIx_l, oIx_s, oLen_t, oLen_l, oLen_c, oLen_s, oAbs_i, oInt_i, oInt_b, oMax2_i, oMin2_i, oGcd_i, oIter_t, oIter_l, oIter_c, oRng1_i, oRng2_i, oRng2G_i, oSl_t, oSl_l, oSl_c, sIsC, sIsi2, isT2, sAugS, enumL, oIsC_n, oIsC_b, oIsC_i, oIsC_s, oIsC_t, oIsC_l, oIsC_o, oIsi2_n, oIsi2_b, oIsi2_i, oIsi2_s, oIsi2_t, oIsi2_l, oComb_i, sCountM, sTru, sChain3, oTru_b, oTru_n, oTru_i, oTru_t, oTru_l, oIn_t, oIn_l, oNotIn_t, oNotIn_l, oMulT_t, oMul_l, oList_l, oList_t, oTuple_l, oTuple_t, oSumS_l, oSumS_t, oEnum_t, oEnum_l, oZip_t, oZip_l, oIsi_n, oIsi_b, oIsi_i, oIsi_s, oIsi_t, oIsi_l]
      simp only [beq_self_eq_true, Bool.not_true, Int.toNat_natCast]
      refine ⟨by omega, by omega, ?_⟩
      exact same_loop (K0 := ⟨fun _ _ => False, finD .pure vh kd, _, _, _⟩) (.inr rfl) hs ih rfl h
    | _ => exact hd.elim

/-! plain lemmas and the first cell -/
theorem fibs_big : 10 ^ 36 < (fibs 200).1 := by decide +kernel
theorem low_fr {n : Nat} {a b : Nat} : low n (fr a b) := low_two
theorem sp_draw1 {limit : Int} {c : Cell} (hc : PoolOk c) (h1 : 1 ≤ limit) (h2 : limit < 2 ^ 1000) (h : ∀ (r : Nat) c', (r : Int) < limit → PoolOk c' → kd (.int r) [c']) : callN T (k + 1) i__law_draw [.ref 0, .int limit] [c] kx kd := sp_draw (vh := [c]) rfl hc h1 h2 h
theorem gcd_div {a b : Nat} (hb : 1 ≤ b) : 1 ≤ b / Nat.gcd a b ∧ Nat.gcd (a / Nat.gcd a b) (b / Nat.gcd a b) = 1 := by
  have hg := gcd_pos (a := a) hb
  refine ⟨?_, Nat.gcd_div_gcd_div_gcd_of_pos_right hb⟩
  exact (Nat.one_le_div_iff hg).mpr (gcd_le hb)
theorem nat_eq {a b : Nat} : ((a : Int) == (b : Int)) = decide (a = b) := by
  rw [Bool.eq_iff_iff, beq_iff_eq, decide_eq_true_iff]
  omega
theorem frL_scale {g a b : Nat} (hg : 0 < g) : frL (g * a) (g * b) = frL a b := by
  unfold frL
  rw [Nat.gcd_mul_left, Nat.mul_div_mul_left _ _ hg, Nat.mul_div_mul_left _ _ hg]
theorem b200 {a b : Nat} (h1 : a < 2 ^ 200) (h2 : b < 2 ^ 200) : a * b < 2 ^ 400 := by
  have := Nat.mul_lt_mul'' h1 h2
  have e : (2 : Nat) ^ 200 * 2 ^ 200 = 2 ^ 400 := by rw [← Nat.pow_add]
  omega
theorem m200 {a b : Nat} (h1 : a < 2 ^ 200) (h2 : b < 2 ^ 200) : VI.MulOk a b := mul_nat (by omega) (by omega)
theorem SD_fr {a b : Nat} : SD 1 (fr a b) := by
  refine ⟨by show 2 < 16777217; omega, fun x hx => ?_⟩
  rcases List.mem_cons.mp hx with rfl | hx
  · trivial
  · rcases List.mem_cons.mp hx with rfl | hx
    · trivial
    · cases hx
theorem sp_same_fr {a b : Nat} (h : kd (.bl true) vh) : callN T (k + 2) i__law_same [fr a b, fr a b] vh kx kd := sp_same 1 SD_fr h
theorem sp_same_int {a : Int} (h : kd (.bl true) vh) : callN T (k + 1) i__law_same [.int a, .int a] vh kx kd := sp_same 0 trivial h
theorem sp_same_bl {a : Bool} (h : kd (.bl true) vh) : callN T (k + 1) i__law_same [.bl a, .bl a] vh kx kd := sp_same 0 trivial h

/-! law k04: rules, marks, equal rules -/
def isFT (l m : Int) : D → Bool
  | .int i => decide (l ≤ i) && decide (i ≤ m)
  | _ => false
theorem sp_ft {d : D} {l m : Int} (hd : pl d = true) (h : kd (.bl (isFT l m d)) vh) : callN T (k + 2) i_is_from_to [d, .int l, .int m] vh kx kd := by
  refine enter (fn := fn_is_from_to) rfl rfl rfl rfl ?_
  dsimp only [fn_is_from_to, sem_is_from_to, sEqO, sNeO, sIdxM, sIsXs, sBits, sRevT, oRevT_t, oShr_i, oShl_i, oBand_i, oBool_i, oBool_b, sRev, oZipM_t, oZipM_l, sPopA, sExn, sIsX, sCallN, sCallE, oRepr_one, sVar, sCst, sBin, sUn, sTB, sNotT, sAndT, sOrT, sAndV, sOrV, sNotV, sIfE, sNil, sCons, sTup, sLst, sCallB, sSeq, sSkip, sDrop, sRet, sRetN, sBrk, sCnt, sIf, sSet, gN, gsNil, gsCons, gT, sAsg, sFor, sWhile, sIt, sItA, sLc, sYes, sCall, sCallK, sMethK, sNewK, oview, sFld, sMeth, sNew, sPutNew, sPutOld, sPutL, sAug, sChain, sNoP, sPart, sSl, isT, sIsi, sApp, sRaise, sTry, exTry, ksAs, envAs, sXf, oMaxS_one, oMinS_one, look, wipeE, List.set, List.map, List.replicate, id, perm, List.filterMap, List.length_cons, List.length_nil, List.nil_append, List.cons_append, Nat.sub_self, Nat.reduceAdd, Nat.reduceSub, newL_f, newL_t, oAdd_i, oAdd_s, oAdd_t, oAdd_l, oMul_i, oSub_i, oFdiv_i, oMod_i, oPow_i, oLt_i, oLe_i, oGt_i, oGe_i, oNeg_i, oAddI_i, oEq_ii, oEq_ss, oEq_bb, oEq_nn, oEq_ni, oEq_in, oEq_ns, oEq_sn, oEq_is, oEq_si, oNe_ii, oNe_ss, oNe_bb, oIs_n, oIs_b, oIsNot_n, oIsNot_b, isNon_n, isNon_i, isNon_b, isNon_s, isNon_t, isNon_l, isNon_r, isBl_n, isBl_i, isBl_b, isBl_s, isBl_t, isBl_l, isBl_r, oIx_t, oIx_l, oIx_s, oLen_t, oLen_l, oLen_c, oLen_s, oAbs_i, oInt_i, oInt_b, oMax2_i, oMin2_i, oGcd_i, oIter_t, oIter_l, oIter_c, oRng1_i, oRng2_i, oRng2G_i, oSl_t, oSl_l, oSl_c, sIsC, sIsi2, isT2, sAugS, enumL, oIsC_n, oIsC_b, oIsC_i, oIsC_s, oIsC_t, oIsC_l, oIsC_o, oIsi2_n, oIsi2_b, oIsi2_i, oIsi2_s, oIsi2_t, oIsi2_l, oComb_i, sCountM, sTru, sChain3, oTru_b, oTru_n, oTru_i, oTru_t, oTru_l, oIn_t, oIn_l, oNotIn_t, oNotIn_l, oMulT_t, oMul_l, oList_l, oList_t, oTuple_l, oTuple_t, oSumS_l, oSumS_t, oEnum_t, oEnum_l, oZip_t, oZip_l, oIsi_n, oIsi_b, oIsi_i, oIsi_s, oIsi_t, oIsi_l]
  refine sp_is_integer hd ?_
  cases d with
  | int i =>
    dsimp only [isInt, sEqO, sNeO, sIdxM, sIsXs, sBits, sRevT, oRevT_t, oShr_i, oShl_i, oBand_i, oBool_i, oBool_b, sRev, oZipM_t, oZipM_l, sPopA, sExn, sIsX, sCallN, sCallE, oRepr_one, sVar, sCst, sBin, sUn, sTB, sNotT, sAndT, sOrT, sAndV, sOrV, sNotV, sIfE, sNil, sCons, sTup, sLst, sCallB, sSeq, sSkip, sDrop, sRet, sRetN, sBrk, sCnt, sIf, sSet, gN, gsNil, gsCons, gT, sAsg, sFor, sWhile, sIt, sItA, sLc, sYes, sCall, sCallK, sMethK, sNewK, oview, sFld, sMeth, sNew, sPutNew, sPutOld, sPutL, sAug, sChain, sNoP, sPart, sSl, isT, sIsi, sApp, sRaise, sTry, exTry, ksAs, envAs, sXf, oMaxS_one, oMinS_one, look, wipeE, List.set, List.map, List.replicate, id, perm, List.filterMap, List.length_cons, List.length_nil, List.nil_append, List.cons_append, Nat.sub_self, Nat.reduceAdd, Nat.reduceSub, newL_f, newL_t, oAdd_i, oAdd_s, oAdd_t, oAdd_l, oMul_i, oSub_i, oFdiv_i, oMod_i, oPow_i, oLt_i, oLe_i, oGt_i, oGe_i, oNeg_i, oAddI_i, oEq_ii, oEq_ss, oEq_bb, oEq_nn, oEq_ni, oEq_in, oEq_ns, oEq_sn, oEq_is, oEq_si, oNe_ii, oNe_ss, oNe_bb, oIs_n, oIs_b, oIsNot_n, oIsNot_b, isNon_n, isNon_i, isNon_b, isNon_s, isNon_t, isNon_l, isNon_r, isBl_n, isBl_i, isBl_b, isBl_s, isBl_t, isBl_l, isBl_r, oIx_t, oIx_l, oIx_s, oLen_t, oLen_l, oLen_c, oLen_s, oAbs_i, oInt_i, oInt_b, oMax2_i, oMin2_i, oGcd_i, oIter_t, oIter_l, oIter_c, oRng1_i, oRng2_i, oRng2G_i, oSl_t, oSl_l, oSl_c, sIsC, sIsi2, isT2, sAugS, enumL, oIsC_n, oIsC_b, oIsC_i, oIsC_s, oIsC_t, oIsC_l, oIsC_o, oIsi2_n, oIsi2_b, oIsi2_i, oIsi2_s, oIsi2_t, oIsi2_l, oComb_i, sCountM, sTru, sChain3, oTru_b, oTru_n, oTru_i, oTru_t, oTru_l, oIn_t, oIn_l, oNotIn_t, oNotIn_l, oMulT_t, oMul_l, oList_l, oList_t, oTuple_l, oTuple_t, oSumS_l, oSumS_t, oEnum_t, oEnum_l, oZip_t, oZip_l, oIsi_n, oIsi_b, oIsi_i, oIsi_s, oIsi_t, oIsi_l]
    cases e : decide (l ≤ i) with
    | true =>
      have h : kd (.bl (decide (l ≤ i) && decide (i ≤ m))) vh := h
      rw [e, Bool.true_and] at h
      exact fin_pure low_bl h
    | false =>
      have h : kd (.bl (decide (l ≤ i) && decide (i ≤ m))) vh := h
      rw [e, Bool.false_and] at h
      exact fin_pure low_bl h
  | scr _ => exact absurd hd Bool.false_ne_true
  | ref _ => exact absurd hd Bool.false_ne_true
  | obj _ _ _ => exact absurd hd Bool.false_ne_true
  | exn _ _ _ _ _ => exact absurd hd Bool.false_ne_true
  | _ => exact fin_pure low_bl h
theorem ft_yes {l m : Int} {n : Nat} (h1 : l ≤ n) (h2 : (n : Int) ≤ m) : isFT l m (.int (n : Int)) = true := by
  show (decide (l ≤ (n : Int)) && decide ((n : Int) ≤ m)) = true
  rw [decide_eq_true h1, decide_eq_true h2]
  rfl
theorem one_0 {vh : VH} {c : Cell} : (vh ++ [c])[vh.length]? = some c := by
  rw [List.getElem?_append_right (Nat.le_refl _), Nat.sub_self]
  rfl
theorem one_s {vh : VH} {c d : Cell} : (vh ++ [c]).set vh.length d = vh ++ [d] := by
  rw [List.set_append_right _ _ (Nat.le_refl _), Nat.sub_self]
  rfl
@[reducible] def ruleD (a b : Nat) : D := .obj "Rule" ["part"] [frL a b]
theorem sp_rule {a b : Nat} (hb : 1 ≤ b) (hb2 : b ≤ 20) (ha : a ≤ b) {kd0 : KD} {kx0 : KX} (h : kd0 .non (vh ++ [.ins "Rule" ["part"] [frL a b]])) : callN T (k + 4) i_RuleU_initU [.ref vh.length, .int a, .int b] (vh ++ [.ins "Rule" [] []]) kx0 kd0 := by
  refine enter (fn := fn_RuleU_initU) rfl rfl rfl rfl ?_
  dsimp only [fn_RuleU_initU, sem_RuleU_initU, sEqO, sNeO, sIdxM, sIsXs, sBits, sRevT, oRevT_t, oShr_i, oShl_i, oBand_i, oBool_i, oBool_b, sRev, oZipM_t, oZipM_l, sPopA, sExn, sIsX, sCallN, sCallE, oRepr_one, sVar, sCst, sBin, sUn, sTB, sNotT, sAndT, sOrT, sAndV, sOrV, sNotV, sIfE, sNil, sCons, sTup, sLst, sCallB, sSeq, sSkip, sDrop, sRet, sRetN, sBrk, sCnt, sIf, sSet, gN, gsNil, gsCons, gT, sAsg, sFor, sWhile, sIt, sItA, sLc, sYes, sCall, sCallK, sMethK, sNewK, oview, sFld, sMeth, sNew, sPutNew, sPutOld, sPutL, sAug, sChain, sNoP, sPart, sSl, isT, sIsi, sApp, sRaise, sTry, exTry, ksAs, envAs, sXf, oMaxS_one, oMinS_one, look, wipeE, List.set, List.map, List.replicate, id, perm, List.filterMap, List.length_cons, List.length_nil, List.nil_append, List.cons_append, Nat.sub_self, Nat.reduceAdd, Nat.reduceSub, newL_f, newL_t, oAdd_i, oAdd_s, oAdd_t, oAdd_l, oMul_i, oSub_i, oFdiv_i, oMod_i, oPow_i, oLt_i, oLe_i, oGt_i, oGe_i, oNeg_i, oAddI_i, oEq_ii, oEq_ss, oEq_bb, oEq_nn, oEq_ni, oEq_in, oEq_ns, oEq_sn, oEq_is, oEq_si, oNe_ii, oNe_ss, oNe_bb, oIs_n, oIs_b, oIsNot_n, oIsNot_b, isNon_n, isNon_i, isNon_b, isNon_s, isNon_t, isNon_l, isNon_r, isBl_n, isBl_i, isBl_b, isBl_s, isBl_t, isBl_l, isBl_r, oIx_t, oIx_l, oIx_s, oLen_t, oLen_l, oLen_c, oLen_s, oAbs_i, oInt_i, oInt_b, oMax2_i, oMin2_i, oGcd_i, oIter_t, oIter_l, oIter_c, oRng1_i, oRng2_i, oRng2G_i, oSl_t, oSl_l, oSl_c, sIsC, sIsi2, isT2, sAugS, enumL, oIsC_n, oIsC_b, oIsC_i, oIsC_s, oIsC_t, oIsC_l, oIsC_o, oIsi2_n, oIsi2_b, oIsi2_i, oIsi2_s, oIsi2_t, oIsi2_l, oComb_i, sCountM, sTru, sChain3, oTru_b, oTru_n, oTru_i, oTru_t, oTru_l, oIn_t, oIn_l, oNotIn_t, oNotIn_l, oMulT_t, oMul_l, oList_l, oList_t, oTuple_l, oTuple_t, oSumS_l, oSumS_t, oEnum_t, oEnum_l, oZip_t, oZip_l, oIsi_n, oIsi_b, oIsi_i, oIsi_s, oIsi_t, oIsi_l]
  refine sp_ft (k := k + 1) rfl ?_
  rw [ft_yes (by omega) (by omega)]
  try dsimp only [Bool.not_true]
  refine sp_ft (k := k + 1) rfl ?_
  rw [ft_yes (by omega) (by omega)]
  try dsimp only [Bool.not_true]
  refine sp_reduced (k := k + 2) hb (by omega) ?_
  try dsimp only
  refine ⟨[], one_0, ?_⟩
  rw [one_s]
  exact h
theorem sp_rule_bottom {x y : D} (hy : pl y = true) (e : isFT 1 20 y = false) {kd0 : KD} {kx0 : KX} (h : kx0 ⟨"InvalidRule", ["part"], [.str "bottom"]⟩ (vh ++ [.ins "Rule" [] []])) : callN T (k + 4) i_RuleU_initU [.ref vh.length, x, y] (vh ++ [.ins "Rule" [] []]) kx0 kd0 := by
  refine enter (fn := fn_RuleU_initU) rfl rfl rfl rfl ?_
  dsimp only [fn_RuleU_initU, sem_RuleU_initU, sEqO, sNeO, sIdxM, sIsXs, sBits, sRevT, oRevT_t, oShr_i, oShl_i, oBand_i, oBool_i, oBool_b, sRev, oZipM_t, oZipM_l, sPopA, sExn, sIsX, sCallN, sCallE, oRepr_one, sVar, sCst, sBin, sUn, sTB, sNotT, sAndT, sOrT, sAndV, sOrV, sNotV, sIfE, sNil, sCons, sTup, sLst, sCallB, sSeq, sSkip, sDrop, sRet, sRetN, sBrk, sCnt, sIf, sSet, gN, gsNil, gsCons, gT, sAsg, sFor, sWhile, sIt, sItA, sLc, sYes, sCall, sCallK, sMethK, sNewK, oview, sFld, sMeth, sNew, sPutNew, sPutOld, sPutL, sAug, sChain, sNoP, sPart, sSl, isT, sIsi, sApp, sRaise, sTry, exTry, ksAs, envAs, sXf, oMaxS_one, oMinS_one, look, wipeE, List.set, List.map, List.replicate, id, perm, List.filterMap, List.length_cons, List.length_nil, List.nil_append, List.cons_append, Nat.sub_self, Nat.reduceAdd, Nat.reduceSub, newL_f, newL_t, oAdd_i, oAdd_s, oAdd_t, oAdd_l, oMul_i, oSub_i, oFdiv_i, oMod_i, oPow_i, oLt_i, oLe_i, oGt_i, oGe_i, oNeg_i, oAddI_i, oEq_ii, oEq_ss, oEq_bb, oEq_nn, oEq_ni, oEq_in, oEq_ns, oEq_sn, oEq_is, oEq_si, oNe_ii, oNe_ss, oNe_bb, oIs_n, oIs_b, oIsNot_n, oIsNot_b, isNon_n, isNon_i, isNon_b, isNon_s, isNon_t, isNon_l, isNon_r, isBl_n, isBl_i, isBl_b, isBl_s, isBl_t, isBl_l, isBl_r, oIx_t, oIx_l, oIx_s, oLen_t, oLen_l, oLen_c, oLen_s, oAbs_i, oInt_i, oInt_b, oMax2_i, oMin2_i, oGcd_i, oIter_t, oIter_l, oIter_c, oRng1_i, oRng2_i, oRng2G_i, oSl_t, oSl_l, oSl_c, sIsC, sIsi2, isT2, sAugS, enumL, oIsC_n, oIsC_b, oIsC_i, oIsC_s, oIsC_t, oIsC_l, oIsC_o, oIsi2_n, oIsi2_b, oIsi2_i, oIsi2_s, oIsi2_t, oIsi2_l, oComb_i, sCountM, sTru, sChain3, oTru_b, oTru_n, oTru_i, oTru_t, oTru_l, oIn_t, oIn_l, oNotIn_t, oNotIn_l, oMulT_t, oMul_l, oList_l, oList_t, oTuple_l, oTuple_t, oSumS_l, oSumS_t, oEnum_t, oEnum_l, oZip_t, oZip_l, oIsi_n, oIsi_b, oIsi_i, oIsi_s, oIsi_t, oIsi_l]
  refine sp_ft (k := k + 1) hy ?_
  rw [e]
  exact ⟨rfl, h⟩
theorem sp_rule_top {x : D} {b : Nat} (hb : 1 ≤ b) (hb2 : b ≤ 20) (hx : pl x = true) (e : isFT 0 (b : Int) x = false) {kd0 : KD} {kx0 : KX} (h : kx0 ⟨"InvalidRule", ["part"], [.str "top"]⟩ (vh ++ [.ins "Rule" [] []])) : callN T (k + 4) i_RuleU_initU [.ref vh.length, x, .int b] (vh ++ [.ins "Rule" [] []]) kx0 kd0 := by
  refine enter (fn := fn_RuleU_initU) rfl rfl rfl rfl ?_
  dsimp only [fn_RuleU_initU, sem_RuleU_initU, sEqO, sNeO, sIdxM, sIsXs, sBits, sRevT, oRevT_t, oShr_i, oShl_i, oBand_i, oBool_i, oBool_b, sRev, oZipM_t, oZipM_l, sPopA, sExn, sIsX, sCallN, sCallE, oRepr_one, sVar, sCst, sBin, sUn, sTB, sNotT, sAndT, sOrT, sAndV, sOrV, sNotV, sIfE, sNil, sCons, sTup, sLst, sCallB, sSeq, sSkip, sDrop, sRet, sRetN, sBrk, sCnt, sIf, sSet, gN, gsNil, gsCons, gT, sAsg, sFor, sWhile, sIt, sItA, sLc, sYes, sCall, sCallK, sMethK, sNewK, oview, sFld, sMeth, sNew, sPutNew, sPutOld, sPutL, sAug, sChain, sNoP, sPart, sSl, isT, sIsi, sApp, sRaise, sTry, exTry, ksAs, envAs, sXf, oMaxS_one, oMinS_one, look, wipeE, List.set, List.map, List.replicate, id, perm, List.filterMap, List.length_cons, List.length_nil, List.nil_append, List.cons_append, Nat.sub_self, Nat.reduceAdd, Nat.reduceSub, newL_f, newL_t, oAdd_i, oAdd_s, oAdd_t, oAdd_l, oMul_i, oSub_i, oFdiv_i, oMod_i, oPow_i, oLt_i, oLe_i, oGt_i, oGe_i, oNeg_i, oAddI_i, oEq_ii, oEq_ss, oEq_bb, oEq_nn, oEq_ni, oEq_in, oEq_ns, oEq_sn, oEq_is, oEq_si, oNe_ii, oNe_ss, oNe_bb, oIs_n, oIs_b, oIsNot_n, oIsNot_b, isNon_n, isNon_i, isNon_b, isNon_s, isNon_t, isNon_l, isNon_r, isBl_n, isBl_i, isBl_b, isBl_s, isBl_t, isBl_l, isBl_r, oIx_t, oIx_l, oIx_s, oLen_t, oLen_l, oLen_c, oLen_s, oAbs_i, oInt_i, oInt_b, oMax2_i, oMin2_i, oGcd_i, oIter_t, oIter_l, oIter_c, oRng1_i, oRng2_i, oRng2G_i, oSl_t, oSl_l, oSl_c, sIsC, sIsi2, isT2, sAugS, enumL, oIsC_n, oIsC_b, oIsC_i, oIsC_s, oIsC_t, oIsC_l, oIsC_o, oIsi2_n, oIsi2_b, oIsi2_i, oIsi2_s, oIsi2_t, oIsi2_l, oComb_i, sCountM, sTru, sChain3, oTru_b, oTru_n, oTru_i, oTru_t, oTru_l, oIn_t, oIn_l, oNotIn_t, oNotIn_l, oMulT_t, oMul_l, oList_l, oList_t, oTuple_l, oTuple_t, oSumS_l, oSumS_t, oEnum_t, oEnum_l, oZip_t, oZip_l, oIsi_n, oIsi_b, oIsi_i, oIsi_s, oIsi_t, oIsi_l]
  refine sp_ft (k := k + 1) rfl ?_
  rw [ft_yes (by omega) (by omega)]
  try dsimp only [Bool.not_true]
  refine sp_ft (k := k + 1) hx ?_
  rw [e]
  exact ⟨rfl, h⟩
theorem sp_mark_of {a b n : Nat} (hb : 1 ≤ b) (hb2 : b ≤ 20) (ha : a ≤ b) (hn : 1 ≤ n) (hn2 : (n : Int) < 2 ^ 900) (h : kd (frL (b / Nat.gcd a b * (n - 1) + a / Nat.gcd a b) (b / Nat.gcd a b)) vh) : callN T (k + 2) i_Rule_mark_of [ruleD a b, .int n] vh kx kd := by
  obtain ⟨y1, xy⟩ := gcd_div (a := a) hb
  have lx : a / Nat.gcd a b ≤ a := Nat.div_le_self _ _
  have ly : b / Nat.gcd a b ≤ b := Nat.div_le_self _ _
  refine enter (fn := fn_Rule_mark_of) rfl rfl rfl rfl ?_
  dsimp only [fn_Rule_mark_of, sem_Rule_mark_of, sEqO, sNeO, sIdxM, sIsXs, sBits, sRevT, oRevT_t, oShr_i, oShl_i, oBand_i, oBool_i, oBool_b, sRev, oZipM_t, oZipM_l, sPopA, sExn, sIsX, sCallN, sCallE, oRepr_one, sVar, sCst, sBin, sUn, sTB, sNotT, sAndT, sOrT, sAndV, sOrV, sNotV, sIfE, sNil, sCons, sTup, sLst, sCallB, sSeq, sSkip, sDrop, sRet, sRetN, sBrk, sCnt, sIf, sSet, gN, gsNil, gsCons, gT, sAsg, sFor, sWhile, sIt, sItA, sLc, sYes, sCall, sCallK, sMethK, sNewK, oview, sFld, sMeth, sNew, sPutNew, sPutOld, sPutL, sAug, sChain, sNoP, sPart, sSl, isT, sIsi, sApp, sRaise, sTry, exTry, ksAs, envAs, sXf, oMaxS_one, oMinS_one, look, wipeE, List.set, List.map, List.replicate, id, perm, List.filterMap, List.length_cons, List.length_nil, List.nil_append, List.cons_append, Nat.sub_self, Nat.reduceAdd, Nat.reduceSub, newL_f, newL_t, oAdd_i, oAdd_s, oAdd_t, oAdd_l, oMul_i, oSub_i, oFdiv_i, oMod_i, oPow_i, oLt_i, oLe_i, oGt_i, oGe_i, oNeg_i, oAddI_i, oEq_ii, oEq_ss, oEq_bb, oEq_nn, oEq_ni, oEq_in, oEq_ns, oEq_sn, oEq_is, oEq_si, oNe_ii, oNe_ss, oNe_bb, oIs_n, oIs_b, oIsNot_n, oIsNot_b, isNon_n, isNon_i, isNon_b, isNon_s, isNon_t, isNon_l, isNon_r, isBl_n, isBl_i, isBl_b, isBl_s, isBl_t, isBl_l, isBl_r, oIx_t, oIx_l, oIx_s, oLen_t, oLen_l, oLen_c, oLen_s, oAbs_i, oInt_i, oInt_b, oMax2_i, oMin2_i, oGcd_i, oIter_t, oIter_l, oIter_c, oRng1_i, oRng2_i, oRng2G_i, oSl_t, oSl_l, oSl_c, sIsC, sIsi2, isT2, sAugS, enumL, oIsC_n, oIsC_b, oIsC_i, oIsC_s, oIsC_t, oIsC_l, oIsC_o, oIsi2_n, oIsi2_b, oIsi2_i, oIsi2_s, oIsi2_t, oIsi2_l, oComb_i, sCountM, sTru, sChain3, oTru_b, oTru_n, oTru_i, oTru_t, oTru_l, oIn_t, oIn_l, oNotIn_t, oNotIn_l, oMulT_t, oMul_l, oList_l, oList_t, oTuple_l, oTuple_t, oSumS_l, oSumS_t, oEnum_t, oEnum_l, oZip_t, oZip_l, oIsi_n, oIsi_b, oIsi_i, oIsi_s, oIsi_t, oIsi_l]
  refine ⟨rfl, rfl, _, rfl, ?_⟩
  try dsimp only
  refine ⟨rfl, rfl, ?_⟩
  try dsimp only [oRevT_t, oShr_i, oShl_i, oBand_i, oBool_i, oBool_b, oZipM_t, oZipM_l, oRepr_one, isT, oMaxS_one, oMinS_one, look, List.length_cons, List.length_nil, List.nil_append, List.cons_append, Nat.sub_self, newL_f, newL_t, oAdd_i, oAdd_s, oAdd_t, oAdd_l, oMul_i, oSub_i, oFdiv_i, oMod_i, oPow_i, oLt_i, oLe_i, oGt_i, oGe_i, oNeg_i, oAddI_i, oEq_ii, oEq_ss, oEq_bb, oEq_nn, oEq_ni, oEq_in, oEq_ns, oEq_sn, oEq_is, oEq_si, oNe_ii, oNe_ss, oNe_bb, oIs_n, oIs_b, oIsNot_n, oIsNot_b, isNon_n, isNon_i, isNon_b, isNon_s, isNon_t, isNon_l, isNon_r, isBl_n, isBl_i, isBl_b, isBl_s, isBl_t, isBl_l, isBl_r, oIx_t, oIx_l, oIx_s, oLen_t, oLen_l, oLen_c, oLen_s, oAbs_i, oInt_i, oInt_b, oMax2_i, oMin2_i, oGcd_i, oIter_t, oIter_l, oIter_c, oRng1_i, oRng2_i, oRng2G_i, oSl_t, oSl_l, oSl_c, oIsC_n, oIsC_b, oIsC_i, oIsC_s, oIsC_t, oIsC_l, oIsC_o, oIsi2_n, oIsi2_b, oIsi2_i, oIsi2_s, oIsi2_t, oIsi2_l, oComb_i, oTru_b, oTru_n, oTru_i, oTru_t, oTru_l, oIn_t, oIn_l, oNotIn_t, oNotIn_l, oMulT_t, oMul_l, oList_l, oList_t, oTuple_l, oTuple_t, oSumS_l, oSumS_t, oEnum_t, oEnum_l, oZip_t, oZip_l, oIsi_n, oIsi_b, oIsi_i, oIsi_s, oIsi_t, oIsi_l, List.set, List.length_cons, List.length_nil, Nat.reduceAdd]
  have e : ((n : Int) - 1) * ((b / Nat.gcd a b : Nat) : Int) + ((a / Nat.gcd a b : Nat) : Int) = ((b / Nat.gcd a b * (n - 1) + a / Nat.gcd a b : Nat) : Int) := by
    rw [Int.natCast_add, Int.natCast_mul, Int.natCast_sub hn, Int.mul_comm]
    rfl
  refine ⟨mul_ok (by omega) (by omega) (by omega) (by omega), ?_⟩
  rw [e]
  refine sp_reduced (k := k) y1 (by omega) ?_
  exact fin_pure low_two h
theorem mark_red {a b n : Nat} (hb : 1 ≤ b) : frL (b / Nat.gcd a b * (n - 1) + a / Nat.gcd a b) (b / Nat.gcd a b) = frL (b * (n - 1) + a) b := by
  have g1 := gcd_pos (a := a) hb
  have eu : Nat.gcd a b * (a / Nat.gcd a b) = a := Nat.mul_div_cancel' (Nat.gcd_dvd_left a b)
  have ev : Nat.gcd a b * (b / Nat.gcd a b) = b := Nat.mul_div_cancel' (Nat.gcd_dvd_right a b)
  generalize Nat.gcd a b = g at *
  generalize a / g = U at *
  generalize b / g = V at *
  rw [← eu, ← ev, Nat.mul_assoc, ← Nat.mul_add]
  exact (frL_scale g1).symm
theorem sp_mark {a b n : Nat} (hb : 1 ≤ b) (hb2 : b ≤ 20) (ha : a ≤ b) (hn : 1 ≤ n) (hn2 : n ≤ 1000) (h : kd (frL (b * (n - 1) + a) b) vh) : callN T (k + 3) i_Rule_mark [ruleD a b, .int n] vh kx kd := by
  refine enter (fn := fn_Rule_mark) rfl rfl rfl rfl ?_
  dsimp only [fn_Rule_mark, sem_Rule_mark, sEqO, sNeO, sIdxM, sIsXs, sBits, sRevT, oRevT_t, oShr_i, oShl_i, oBand_i, oBool_i, oBool_b, sRev, oZipM_t, oZipM_l, sPopA, sExn, sIsX, sCallN, sCallE, oRepr_one, sVar, sCst, sBin, sUn, sTB, sNotT, sAndT, sOrT, sAndV, sOrV, sNotV, sIfE, sNil, sCons, sTup, sLst, sCallB, sSeq, sSkip, sDrop, sRet, sRetN, sBrk, sCnt, sIf, sSet, gN, gsNil, gsCons, gT, sAsg, sFor, sWhile, sIt, sItA, sLc, sYes, sCall, sCallK, sMethK, sNewK, oview, sFld, sMeth, sNew, sPutNew, sPutOld, sPutL, sAug, sChain, sNoP, sPart, sSl, isT, sIsi, sApp, sRaise, sTry, exTry, ksAs, envAs, sXf, oMaxS_one, oMinS_one, look, wipeE, List.set, List.map, List.replicate, id, perm, List.filterMap, List.length_cons, List.length_nil, List.nil_append, List.cons_append, Nat.sub_self, Nat.reduceAdd, Nat.reduceSub, newL_f, newL_t, oAdd_i, oAdd_s, oAdd_t, oAdd_l, oMul_i, oSub_i, oFdiv_i, oMod_i, oPow_i, oLt_i, oLe_i, oGt_i, oGe_i, oNeg_i, oAddI_i, oEq_ii, oEq_ss, oEq_bb, oEq_nn, oEq_ni, oEq_in, oEq_ns, oEq_sn, oEq_is, oEq_si, oNe_ii, oNe_ss, oNe_bb, oIs_n, oIs_b, oIsNot_n, oIsNot_b, isNon_n, isNon_i, isNon_b, isNon_s, isNon_t, isNon_l, isNon_r, isBl_n, isBl_i, isBl_b, isBl_s, isBl_t, isBl_l, isBl_r, oIx_t, oIx_l, oIx_s, oLen_t, oLen_l, oLen_c, oLen_s, oAbs_i, oInt_i, oInt_b, oMax2_i, oMin2_i, oGcd_i, oIter_t, oIter_l, oIter_c, oRng1_i, oRng2_i, oRng2G_i, oSl_t, oSl_l, oSl_c, sIsC, sIsi2, isT2, sAugS, enumL, oIsC_n, oIsC_b, oIsC_i, oIsC_s, oIsC_t, oIsC_l, oIsC_o, oIsi2_n, oIsi2_b, oIsi2_i, oIsi2_s, oIsi2_t, oIsi2_l, oComb_i, sCountM, sTru, sChain3, oTru_b, oTru_n, oTru_i, oTru_t, oTru_l, oIn_t, oIn_l, oNotIn_t, oNotIn_l, oMulT_t, oMul_l, oList_l, oList_t, oTuple_l, oTuple_t, oSumS_l, oSumS_t, oEnum_t, oEnum_l, oZip_t, oZip_l, oIsi_n, oIsi_b, oIsi_i, oIsi_s, oIsi_t, oIsi_l]
  refine sp_ft (k := k) rfl ?_
  rw [ft_yes (by omega) (by omega)]
  try dsimp only [Bool.not_true]
  refine ⟨rfl, (by decide), ?_⟩
  refine sp_mark_of (k := k) hb hb2 ha hn (by omega) ?_
  rw [mark_red hb]
  exact fin_pure low_two h
theorem sp_mark_no {a b : Nat} {x : D} (hx : pl x = true) (hl : ∀ n, low n x) (e : isFT 1 1000 x = false) (h : kx ⟨"InvalidNumber", ["value"], [x]⟩ vh) : callN T (k + 3) i_Rule_mark [ruleD a b, x] vh kx kd := by
  refine enter (fn := fn_Rule_mark) rfl rfl rfl rfl ?_
  dsimp only [fn_Rule_mark, sem_Rule_mark, sEqO, sNeO, sIdxM, sIsXs, sBits, sRevT, oRevT_t, oShr_i, oShl_i, oBand_i, oBool_i, oBool_b, sRev, oZipM_t, oZipM_l, sPopA, sExn, sIsX, sCallN, sCallE, oRepr_one, sVar, sCst, sBin, sUn, sTB, sNotT, sAndT, sOrT, sAndV, sOrV, sNotV, sIfE, sNil, sCons, sTup, sLst, sCallB, sSeq, sSkip, sDrop, sRet, sRetN, sBrk, sCnt, sIf, sSet, gN, gsNil, gsCons, gT, sAsg, sFor, sWhile, sIt, sItA, sLc, sYes, sCall, sCallK, sMethK, sNewK, oview, sFld, sMeth, sNew, sPutNew, sPutOld, sPutL, sAug, sChain, sNoP, sPart, sSl, isT, sIsi, sApp, sRaise, sTry, exTry, ksAs, envAs, sXf, oMaxS_one, oMinS_one, look, wipeE, List.set, List.map, List.replicate, id, perm, List.filterMap, List.length_cons, List.length_nil, List.nil_append, List.cons_append, Nat.sub_self, Nat.reduceAdd, Nat.reduceSub, newL_f, newL_t, oAdd_i, oAdd_s, oAdd_t, oAdd_l, oMul_i, oSub_i, oFdiv_i, oMod_i, oPow_i, oLt_i, oLe_i, oGt_i, oGe_i, oNeg_i, oAddI_i, oEq_ii, oEq_ss, oEq_bb, oEq_nn, oEq_ni, oEq_in, oEq_ns, oEq_sn, oEq_is, oEq_si, oNe_ii, oNe_ss, oNe_bb, oIs_n, oIs_b, oIsNot_n, oIsNot_b, isNon_n, isNon_i, isNon_b, isNon_s, isNon_t, isNon_l, isNon_r, isBl_n, isBl_i, isBl_b, isBl_s, isBl_t, isBl_l, isBl_r, oIx_t, oIx_l, oIx_s, oLen_t, oLen_l, oLen_c, oLen_s, oAbs_i, oInt_i, oInt_b, oMax2_i, oMin2_i, oGcd_i, oIter_t, oIter_l, oIter_c, oRng1_i, oRng2_i, oRng2G_i, oSl_t, oSl_l, oSl_c, sIsC, sIsi2, isT2, sAugS, enumL, oIsC_n, oIsC_b, oIsC_i, oIsC_s, oIsC_t, oIsC_l, oIsC_o, oIsi2_n, oIsi2_b, oIsi2_i, oIsi2_s, oIsi2_t, oIsi2_l, oComb_i, sCountM, sTru, sChain3, oTru_b, oTru_n, oTru_i, oTru_t, oTru_l, oIn_t, oIn_l, oNotIn_t, oNotIn_l, oMulT_t, oMul_l, oList_l, oList_t, oTuple_l, oTuple_t, oSumS_l, oSumS_t, oEnum_t, oEnum_l, oZip_t, oZip_l, oIsi_n, oIsi_b, oIsi_i, oIsi_s, oIsi_t, oIsi_l]
  refine sp_ft (k := k) hx ?_
  rw [e]
  exact ⟨rfl, finX_pure (by show lows _ [x]; simp only [lows, and_true]; exact hl _) h⟩
theorem two_sh {a b : Nat} : SeqAt.shaped (.tuple [.int (a : Int), .int (b : Int)]) = true := rfl
theorem eqN_two {f : Bool → Bool} {a b c d : Nat} {kd : KD} (h : kd (.bl (f (decide (a = c ∧ b = d)))) vh) : oEqN f (fr a b) (fr c d) vh kd := by
  refine ⟨.tuple [.int a, .int b], .tuple [.int c, .int d], rfl, rfl, ⟨two_sh, two_sh⟩, ?_⟩
  have e : PyData.eqv (.tuple [.int (a : Int), .int (b : Int)]) (.tuple [.int (c : Int), .int (d : Int)]) = decide (a = c ∧ b = d) := by
    rw [PyData.eqv, PyData.eqvAll, PyData.eqvAll, PyData.eqvAll, PyData.eqv, PyData.eqv, Bool.eq_iff_iff]
    simp
    omega
  rw [e]
  exact h
theorem red_eq {a b c d : Nat} (hb : 1 ≤ b) (hd : 1 ≤ d) : (a / Nat.gcd a b = c / Nat.gcd c d ∧ b / Nat.gcd a b = d / Nat.gcd c d) ↔ a * d = c * b := by
  have g1 := gcd_pos (a := a) hb
  have g2 := gcd_pos (a := c) hd
  obtain ⟨y1, xy⟩ := gcd_div (a := a) hb
  obtain ⟨z1, xz⟩ := gcd_div (a := c) hd
  have eu : Nat.gcd a b * (a / Nat.gcd a b) = a := Nat.mul_div_cancel' (Nat.gcd_dvd_left a b)
  have ev : Nat.gcd a b * (b / Nat.gcd a b) = b := Nat.mul_div_cancel' (Nat.gcd_dvd_right a b)
  have ew : Nat.gcd c d * (c / Nat.gcd c d) = c := Nat.mul_div_cancel' (Nat.gcd_dvd_left c d)
  have ex : Nat.gcd c d * (d / Nat.gcd c d) = d := Nat.mul_div_cancel' (Nat.gcd_dvd_right c d)
  generalize Nat.gcd a b = g at *
  generalize Nat.gcd c d = e at *
  generalize a / g = U at *
  generalize b / g = V at *
  generalize c / e = S at *
  generalize d / e = R at *
  subst eu ev ew ex
  constructor
  · rintro ⟨rfl, rfl⟩
    rw [Nat.mul_mul_mul_comm g, Nat.mul_mul_mul_comm e, Nat.mul_comm g e]
  · intro h
    have h2 : U * R = S * V := by
      refine Nat.eq_of_mul_eq_mul_left (Nat.mul_pos g1 g2) ?_
      calc g * e * (U * R) = g * U * (e * R) := by rw [Nat.mul_mul_mul_comm]
        _ = e * S * (g * V) := h
        _ = g * e * (S * V) := by rw [Nat.mul_mul_mul_comm, Nat.mul_comm e g]
    have c1 : Nat.Coprime U V := xy
    have c2 : Nat.Coprime S R := xz
    have d1 : V ∣ R := by
      refine c1.symm.dvd_of_dvd_mul_left (k := V) (m := U) (n := R) ?_
      exact ⟨S, by rw [h2, Nat.mul_comm]⟩
    have d2 : R ∣ V := by
      refine c2.symm.dvd_of_dvd_mul_left (k := R) (m := S) (n := V) ?_
      exact ⟨U, by rw [← h2, Nat.mul_comm]⟩
    have er := Nat.dvd_antisymm d1 d2
    subst er
    exact ⟨Nat.eq_of_mul_eq_mul_right (by omega) h2, rfl⟩
theorem sp_eq_rule {a b c d : Nat} (hb : 1 ≤ b) (hd : 1 ≤ d) (h : kd (.bl (decide (a * d = c * b))) vh) : callN T (k + 1) i_RuleU_eqU [ruleD a b, ruleD c d] vh kx kd := by
  refine enter (fn := fn_RuleU_eqU) rfl rfl rfl rfl ?_
  dsimp only [fn_RuleU_eqU, sem_RuleU_eqU, sEqO, sNeO, sIdxM, sIsXs, sBits, sRevT, oRevT_t, oShr_i, oShl_i, oBand_i, oBool_i, oBool_b, sRev, oZipM_t, oZipM_l, sPopA, sExn, sIsX, sCallN, sCallE, oRepr_one, sVar, sCst, sBin, sUn, sTB, sNotT, sAndT, sOrT, sAndV, sOrV, sNotV, sIfE, sNil, sCons, sTup, sLst, sCallB, sSeq, sSkip, sDrop, sRet, sRetN, sBrk, sCnt, sIf, sSet, gN, gsNil, gsCons, gT, sAsg, sFor, sWhile, sIt, sItA, sLc, sYes, sCall, sCallK, sMethK, sNewK, oview, sFld, sMeth, sNew, sPutNew, sPutOld, sPutL, sAug, sChain, sNoP, sPart, sSl, isT, sIsi, sApp, sRaise, sTry, exTry, ksAs, envAs, sXf, oMaxS_one, oMinS_one, look, wipeE, List.set, List.map, List.replicate, id, perm, List.filterMap, List.length_cons, List.length_nil, List.nil_append, List.cons_append, Nat.sub_self, Nat.reduceAdd, Nat.reduceSub, newL_f, newL_t, oAdd_i, oAdd_s, oAdd_t, oAdd_l, oMul_i, oSub_i, oFdiv_i, oMod_i, oPow_i, oLt_i, oLe_i, oGt_i, oGe_i, oNeg_i, oAddI_i, oEq_ii, oEq_ss, oEq_bb, oEq_nn, oEq_ni, oEq_in, oEq_ns, oEq_sn, oEq_is, oEq_si, oNe_ii, oNe_ss, oNe_bb, oIs_n, oIs_b, oIsNot_n, oIsNot_b, isNon_n, isNon_i, isNon_b, isNon_s, isNon_t, isNon_l, isNon_r, isBl_n, isBl_i, isBl_b, isBl_s, isBl_t, isBl_l, isBl_r, oIx_t, oIx_l, oIx_s, oLen_t, oLen_l, oLen_c, oLen_s, oAbs_i, oInt_i, oInt_b, oMax2_i, oMin2_i, oGcd_i, oIter_t, oIter_l, oIter_c, oRng1_i, oRng2_i, oRng2G_i, oSl_t, oSl_l, oSl_c, sIsC, sIsi2, isT2, sAugS, enumL, oIsC_n, oIsC_b, oIsC_i, oIsC_s, oIsC_t, oIsC_l, oIsC_o, oIsi2_n, oIsi2_b, oIsi2_i, oIsi2_s, oIsi2_t, oIsi2_l, oComb_i, sCountM, sTru, sChain3, oTru_b, oTru_n, oTru_i, oTru_t, oTru_l, oIn_t, oIn_l, oNotIn_t, oNotIn_l, oMulT_t, oMul_l, oList_l, oList_t, oTuple_l, oTuple_t, oSumS_l, oSumS_t, oEnum_t, oEnum_l, oZip_t, oZip_l, oIsi_n, oIsi_b, oIsi_i, oIsi_s, oIsi_t, oIsi_l]
  refine ⟨by decide, ?_⟩
  try dsimp only
  first | rw [beq_self_eq_true] | skip
  try dsimp only
  refine ⟨rfl, rfl, _, rfl, ?_⟩
  refine ⟨rfl, rfl, _, rfl, ?_⟩
  refine eqN_two (f := id) ?_
  have e : decide (a / Nat.gcd a b = c / Nat.gcd c d ∧ b / Nat.gcd a b = d / Nat.gcd c d) = decide (a * d = c * b) := by
    rw [decide_eq_decide]
    exact red_eq hb hd
  rw [e]
  exact fin_pure low_bl h
def NoRule (d : D) : Prop := ∀ (vh : VH) (kd : KD), kd (.bl false) vh → oIsC clL "Rule" d vh kd
theorem sp_eq_no {a b : Nat} {x : D} (hx : NoRule x) (h : kd (.bl false) vh) : callN T (k + 1) i_RuleU_eqU [ruleD a b, x] vh kx kd := by
  refine enter (fn := fn_RuleU_eqU) rfl rfl rfl rfl ?_
  dsimp only [fn_RuleU_eqU, sem_RuleU_eqU, sEqO, sNeO, sIdxM, sIsXs, sBits, sRevT, oRevT_t, oShr_i, oShl_i, oBand_i, oBool_i, oBool_b, sRev, oZipM_t, oZipM_l, sPopA, sExn, sIsX, sCallN, sCallE, oRepr_one, sVar, sCst, sBin, sUn, sTB, sNotT, sAndT, sOrT, sAndV, sOrV, sNotV, sIfE, sNil, sCons, sTup, sLst, sCallB, sSeq, sSkip, sDrop, sRet, sRetN, sBrk, sCnt, sIf, sSet, gN, gsNil, gsCons, gT, sAsg, sFor, sWhile, sIt, sItA, sLc, sYes, sCall, sCallK, sMethK, sNewK, oview, sFld, sMeth, sNew, sPutNew, sPutOld, sPutL, sAug, sChain, sNoP, sPart, sSl, isT, sIsi, sApp, sRaise, sTry, exTry, ksAs, envAs, sXf, oMaxS_one, oMinS_one, look, wipeE, List.set, List.map, List.replicate, id, perm, List.filterMap, List.length_cons, List.length_nil, List.nil_append, List.cons_append, Nat.sub_self, Nat.reduceAdd, Nat.reduceSub, newL_f, newL_t, oAdd_i, oAdd_s, oAdd_t, oAdd_l, oMul_i, oSub_i, oFdiv_i, oMod_i, oPow_i, oLt_i, oLe_i, oGt_i, oGe_i, oNeg_i, oAddI_i, oEq_ii, oEq_ss, oEq_bb, oEq_nn, oEq_ni, oEq_in, oEq_ns, oEq_sn, oEq_is, oEq_si, oNe_ii, oNe_ss, oNe_bb, oIs_n, oIs_b, oIsNot_n, oIsNot_b, isNon_n, isNon_i, isNon_b, isNon_s, isNon_t, isNon_l, isNon_r, isBl_n, isBl_i, isBl_b, isBl_s, isBl_t, isBl_l, isBl_r, oIx_t, oIx_l, oIx_s, oLen_t, oLen_l, oLen_c, oLen_s, oAbs_i, oInt_i, oInt_b, oMax2_i, oMin2_i, oGcd_i, oIter_t, oIter_l, oIter_c, oRng1_i, oRng2_i, oRng2G_i, oSl_t, oSl_l, oSl_c, sIsC, sIsi2, isT2, sAugS, enumL, oIsC_n, oIsC_b, oIsC_i, oIsC_s, oIsC_t, oIsC_l, oIsC_o, oIsi2_n, oIsi2_b, oIsi2_i, oIsi2_s, oIsi2_t, oIsi2_l, oComb_i, sCountM, sTru, sChain3, oTru_b, oTru_n, oTru_i, oTru_t, oTru_l, oIn_t, oIn_l, oNotIn_t, oNotIn_l, oMulT_t, oMul_l, oList_l, oList_t, oTuple_l, oTuple_t, oSumS_l, oSumS_t, oEnum_t, oEnum_l, oZip_t, oZip_l, oIsi_n, oIsi_b, oIsi_i, oIsi_s, oIsi_t, oIsi_l]
  refine hx _ _ ?_
  exact fin_pure low_bl h
theorem sp_made_told {a b : Nat} (hb : 1 ≤ b) (hb2 : b ≤ 20) (ha : a ≤ b) (h : kd (.tup [.str "told", frL a b]) vh) : callN T (k + 5) i__law_made [.int a, .int b] vh kx kd := by
  refine enter (fn := fn__law_made) rfl rfl rfl rfl ?_
  dsimp only [fn__law_made, sem__law_made, sEqO, sNeO, sIdxM, sIsXs, sBits, sRevT, oRevT_t, oShr_i, oShl_i, oBand_i, oBool_i, oBool_b, sRev, oZipM_t, oZipM_l, sPopA, sExn, sIsX, sCallN, sCallE, oRepr_one, sVar, sCst, sBin, sUn, sTB, sNotT, sAndT, sOrT, sAndV, sOrV, sNotV, sIfE, sNil, sCons, sTup, sLst, sCallB, sSeq, sSkip, sDrop, sRet, sRetN, sBrk, sCnt, sIf, sSet, gN, gsNil, gsCons, gT, sAsg, sFor, sWhile, sIt, sItA, sLc, sYes, sCall, sCallK, sMethK, sNewK, oview, sFld, sMeth, sNew, sPutNew, sPutOld, sPutL, sAug, sChain, sNoP, sPart, sSl, isT, sIsi, sApp, sRaise, sTry, exTry, ksAs, envAs, sXf, oMaxS_one, oMinS_one, look, wipeE, List.set, List.map, List.replicate, id, perm, List.filterMap, List.length_cons, List.length_nil, List.nil_append, List.cons_append, Nat.sub_self, Nat.reduceAdd, Nat.reduceSub, newL_f, newL_t, oAdd_i, oAdd_s, oAdd_t, oAdd_l, oMul_i, oSub_i, oFdiv_i, oMod_i, oPow_i, oLt_i, oLe_i, oGt_i, oGe_i, oNeg_i, oAddI_i, oEq_ii, oEq_ss, oEq_bb, oEq_nn, oEq_ni, oEq_in, oEq_ns, oEq_sn, oEq_is, oEq_si, oNe_ii, oNe_ss, oNe_bb, oIs_n, oIs_b, oIsNot_n, oIsNot_b, isNon_n, isNon_i, isNon_b, isNon_s, isNon_t, isNon_l, isNon_r, isBl_n, isBl_i, isBl_b, isBl_s, isBl_t, isBl_l, isBl_r, oIx_t, oIx_l, oIx_s, oLen_t, oLen_l, oLen_c, oLen_s, oAbs_i, oInt_i, oInt_b, oMax2_i, oMin2_i, oGcd_i, oIter_t, oIter_l, oIter_c, oRng1_i, oRng2_i, oRng2G_i, oSl_t, oSl_l, oSl_c, sIsC, sIsi2, isT2, sAugS, enumL, oIsC_n, oIsC_b, oIsC_i, oIsC_s, oIsC_t, oIsC_l, oIsC_o, oIsi2_n, oIsi2_b, oIsi2_i, oIsi2_s, oIsi2_t, oIsi2_l, oComb_i, sCountM, sTru, sChain3, oTru_b, oTru_n, oTru_i, oTru_t, oTru_l, oIn_t, oIn_l, oNotIn_t, oNotIn_l, oMulT_t, oMul_l, oList_l, oList_t, oTuple_l, oTuple_t, oSumS_l, oSumS_t, oEnum_t, oEnum_l, oZip_t, oZip_l, oIsi_n, oIsi_b, oIsi_i, oIsi_s, oIsi_t, oIsi_l]
  refine ⟨rfl, ?_⟩
  show callN T (k + 4) i_RuleU_initU [.ref vh.length, .int a, .int b] (vh ++ [.ins "Rule" [] []]) _ _
  refine sp_rule (k := k) hb hb2 ha ?_
  refine ⟨rfl, [.ins "Rule" ["part"] [frL a b]], ruleD a b, rfl, .ins (Nat.le_refl _) one_0 (.cons (.low low_two) .nil), ?_⟩
  refine ⟨rfl, rfl, _, rfl, by decide, ?_⟩
  exact fin_pure (by simp only [low, lows, and_self]) h
theorem sp_made_no {x y : D} {p : Str} (hr : ∀ {kd0 : KD} {kx0 : KX}, kx0 ⟨"InvalidRule", ["part"], [.str p]⟩ (vh ++ [.ins "Rule" [] []]) → callN T (k + 4) i_RuleU_initU [.ref vh.length, x, y] (vh ++ [.ins "Rule" [] []]) kx0 kd0) (h : kd (.tup [.str "rule", .str p]) vh) : callN T (k + 5) i__law_made [x, y] vh kx kd := by
  refine enter (fn := fn__law_made) rfl rfl rfl rfl ?_
  dsimp only [fn__law_made, sem__law_made, sEqO, sNeO, sIdxM, sIsXs, sBits, sRevT, oRevT_t, oShr_i, oShl_i, oBand_i, oBool_i, oBool_b, sRev, oZipM_t, oZipM_l, sPopA, sExn, sIsX, sCallN, sCallE, oRepr_one, sVar, sCst, sBin, sUn, sTB, sNotT, sAndT, sOrT, sAndV, sOrV, sNotV, sIfE, sNil, sCons, sTup, sLst, sCallB, sSeq, sSkip, sDrop, sRet, sRetN, sBrk, sCnt, sIf, sSet, gN, gsNil, gsCons, gT, sAsg, sFor, sWhile, sIt, sItA, sLc, sYes, sCall, sCallK, sMethK, sNewK, oview, sFld, sMeth, sNew, sPutNew, sPutOld, sPutL, sAug, sChain, sNoP, sPart, sSl, isT, sIsi, sApp, sRaise, sTry, exTry, ksAs, envAs, sXf, oMaxS_one, oMinS_one, look, wipeE, List.set, List.map, List.replicate, id, perm, List.filterMap, List.length_cons, List.length_nil, List.nil_append, List.cons_append, Nat.sub_self, Nat.reduceAdd, Nat.reduceSub, newL_f, newL_t, oAdd_i, oAdd_s, oAdd_t, oAdd_l, oMul_i, oSub_i, oFdiv_i, oMod_i, oPow_i, oLt_i, oLe_i, oGt_i, oGe_i, oNeg_i, oAddI_i, oEq_ii, oEq_ss, oEq_bb, oEq_nn, oEq_ni, oEq_in, oEq_ns, oEq_sn, oEq_is, oEq_si, oNe_ii, oNe_ss, oNe_bb, oIs_n, oIs_b, oIsNot_n, oIsNot_b, isNon_n, isNon_i, isNon_b, isNon_s, isNon_t, isNon_l, isNon_r, isBl_n, isBl_i, isBl_b, isBl_s, isBl_t, isBl_l, isBl_r, oIx_t, oIx_l, oIx_s, oLen_t, oLen_l, oLen_c, oLen_s, oAbs_i, oInt_i, oInt_b, oMax2_i, oMin2_i, oGcd_i, oIter_t, oIter_l, oIter_c, oRng1_i, oRng2_i, oRng2G_i, oSl_t, oSl_l, oSl_c, sIsC, sIsi2, isT2, sAugS, enumL, oIsC_n, oIsC_b, oIsC_i, oIsC_s, oIsC_t, oIsC_l, oIsC_o, oIsi2_n, oIsi2_b, oIsi2_i, oIsi2_s, oIsi2_t, oIsi2_l, oComb_i, sCountM, sTru, sChain3, oTru_b, oTru_n, oTru_i, oTru_t, oTru_l, oIn_t, oIn_l, oNotIn_t, oNotIn_l, oMulT_t, oMul_l, oList_l, oList_t, oTuple_l, oTuple_t, oSumS_l, oSumS_t, oEnum_t, oEnum_l, oZip_t, oZip_l, oIsi_n, oIsi_b, oIsi_i, oIsi_s, oIsi_t, oIsi_l]
  refine ⟨rfl, ?_⟩
  show callN T (k + 4) i_RuleU_initU [.ref vh.length, x, y] (vh ++ [.ins "Rule" [] []]) _ _
  refine hr ?_
  refine ⟨[_], [.str p], rfl, .cons (.low (by simp only [low])) .nil, ?_⟩
  refine ⟨show ("InvalidRule" : Str) ∈ exL by decide, ?_⟩
  dsimp only
  simp only [show exSub ("InvalidRule" : Str) ("InvalidRule" : Str) = true from by decide]
  intro a dd
  refine ⟨⟨trivial, trivial, trivial, rfl⟩, _, rfl, by decide, ?_⟩
  exact fin_pure (by simp only [low, lows, and_self]) h
theorem sp_marked_told {a b n : Nat} (hb : 1 ≤ b) (hb2 : b ≤ 20) (ha : a ≤ b) (hn : 1 ≤ n) (hn2 : n ≤ 1000) (h : kd (.tup [.str "told", frL (b * (n - 1) + a) b]) vh) : callN T (k + 4) i__law_marked [ruleD a b, .int n] vh kx kd := by
  refine enter (fn := fn__law_marked) rfl rfl rfl rfl ?_
  dsimp only [fn__law_marked, sem__law_marked, sEqO, sNeO, sIdxM, sIsXs, sBits, sRevT, oRevT_t, oShr_i, oShl_i, oBand_i, oBool_i, oBool_b, sRev, oZipM_t, oZipM_l, sPopA, sExn, sIsX, sCallN, sCallE, oRepr_one, sVar, sCst, sBin, sUn, sTB, sNotT, sAndT, sOrT, sAndV, sOrV, sNotV, sIfE, sNil, sCons, sTup, sLst, sCallB, sSeq, sSkip, sDrop, sRet, sRetN, sBrk, sCnt, sIf, sSet, gN, gsNil, gsCons, gT, sAsg, sFor, sWhile, sIt, sItA, sLc, sYes, sCall, sCallK, sMethK, sNewK, oview, sFld, sMeth, sNew, sPutNew, sPutOld, sPutL, sAug, sChain, sNoP, sPart, sSl, isT, sIsi, sApp, sRaise, sTry, exTry, ksAs, envAs, sXf, oMaxS_one, oMinS_one, look, wipeE, List.set, List.map, List.replicate, id, perm, List.filterMap, List.length_cons, List.length_nil, List.nil_append, List.cons_append, Nat.sub_self, Nat.reduceAdd, Nat.reduceSub, newL_f, newL_t, oAdd_i, oAdd_s, oAdd_t, oAdd_l, oMul_i, oSub_i, oFdiv_i, oMod_i, oPow_i, oLt_i, oLe_i, oGt_i, oGe_i, oNeg_i, oAddI_i, oEq_ii, oEq_ss, oEq_bb, oEq_nn, oEq_ni, oEq_in, oEq_ns, oEq_sn, oEq_is, oEq_si, oNe_ii, oNe_ss, oNe_bb, oIs_n, oIs_b, oIsNot_n, oIsNot_b, isNon_n, isNon_i, isNon_b, isNon_s, isNon_t, isNon_l, isNon_r, isBl_n, isBl_i, isBl_b, isBl_s, isBl_t, isBl_l, isBl_r, oIx_t, oIx_l, oIx_s, oLen_t, oLen_l, oLen_c, oLen_s, oAbs_i, oInt_i, oInt_b, oMax2_i, oMin2_i, oGcd_i, oIter_t, oIter_l, oIter_c, oRng1_i, oRng2_i, oRng2G_i, oSl_t, oSl_l, oSl_c, sIsC, sIsi2, isT2, sAugS, enumL, oIsC_n, oIsC_b, oIsC_i, oIsC_s, oIsC_t, oIsC_l, oIsC_o, oIsi2_n, oIsi2_b, oIsi2_i, oIsi2_s, oIsi2_t, oIsi2_l, oComb_i, sCountM, sTru, sChain3, oTru_b, oTru_n, oTru_i, oTru_t, oTru_l, oIn_t, oIn_l, oNotIn_t, oNotIn_l, oMulT_t, oMul_l, oList_l, oList_t, oTuple_l, oTuple_t, oSumS_l, oSumS_t, oEnum_t, oEnum_l, oZip_t, oZip_l, oIsi_n, oIsi_b, oIsi_i, oIsi_s, oIsi_t, oIsi_l]
  refine ⟨rfl, by decide, ?_⟩
  refine sp_mark (k := k) hb hb2 ha hn hn2 ?_
  refine ⟨by decide, ?_⟩
  exact fin_pure (by simp only [low, lows, and_self]) h
theorem sp_marked_no {a b : Nat} {x : D} (hx : pl x = true) (hl : ∀ n, low n x) (e : isFT 1 1000 x = false) (h : kd (.tup [.str "number", x]) vh) : callN T (k + 4) i__law_marked [ruleD a b, x] vh kx kd := by
  refine enter (fn := fn__law_marked) rfl rfl rfl rfl ?_
  dsimp only [fn__law_marked, sem__law_marked, sEqO, sNeO, sIdxM, sIsXs, sBits, sRevT, oRevT_t, oShr_i, oShl_i, oBand_i, oBool_i, oBool_b, sRev, oZipM_t, oZipM_l, sPopA, sExn, sIsX, sCallN, sCallE, oRepr_one, sVar, sCst, sBin, sUn, sTB, sNotT, sAndT, sOrT, sAndV, sOrV, sNotV, sIfE, sNil, sCons, sTup, sLst, sCallB, sSeq, sSkip, sDrop, sRet, sRetN, sBrk, sCnt, sIf, sSet, gN, gsNil, gsCons, gT, sAsg, sFor, sWhile, sIt, sItA, sLc, sYes, sCall, sCallK, sMethK, sNewK, oview, sFld, sMeth, sNew, sPutNew, sPutOld, sPutL, sAug, sChain, sNoP, sPart, sSl, isT, sIsi, sApp, sRaise, sTry, exTry, ksAs, envAs, sXf, oMaxS_one, oMinS_one, look, wipeE, List.set, List.map, List.replicate, id, perm, List.filterMap, List.length_cons, List.length_nil, List.nil_append, List.cons_append, Nat.sub_self, Nat.reduceAdd, Nat.reduceSub, newL_f, newL_t, oAdd_i, oAdd_s, oAdd_t, oAdd_l, oMul_i, oSub_i, oFdiv_i, oMod_i, oPow_i, oLt_i, oLe_i, oGt_i, oGe_i, oNeg_i, oAddI_i, oEq_ii, oEq_ss, oEq_bb, oEq_nn, oEq_ni, oEq_in, oEq_ns, oEq_sn, oEq_is, oEq_si, oNe_ii, oNe_ss, oNe_bb, oIs_n, oIs_b, oIsNot_n, oIsNot_b, isNon_n, isNon_i, isNon_b, isNon_s, isNon_t, isNon_l, isNon_r, isBl_n, isBl_i, isBl_b, isBl_s, isBl_t, isBl_l, isBl_r, oIx_t, oIx_l, oIx_s, oLen_t, oLen_l, oLen_c, oLen_s, oAbs_i, oInt_i, oInt_b, oMax2_i, oMin2_i, oGcd_i, oIter_t, oIter_l, oIter_c, oRng1_i, oRng2_i, oRng2G_i, oSl_t, oSl_l, oSl_c, sIsC, sIsi2, isT2, sAugS, enumL, oIsC_n, oIsC_b, oIsC_i, oIsC_s, oIsC_t, oIsC_l, oIsC_o, oIsi2_n, oIsi2_b, oIsi2_i, oIsi2_s, oIsi2_t, oIsi2_l, oComb_i, sCountM, sTru, sChain3, oTru_b, oTru_n, oTru_i, oTru_t, oTru_l, oIn_t, oIn_l, oNotIn_t, oNotIn_l, oMulT_t, oMul_l, oList_l, oList_t, oTuple_l, oTuple_t, oSumS_l, oSumS_t, oEnum_t, oEnum_l, oZip_t, oZip_l, oIsi_n, oIsi_b, oIsi_i, oIsi_s, oIsi_t, oIsi_l]
  refine ⟨rfl, by decide, ?_⟩
  refine sp_mark_no (k := k) hx hl e ?_
  refine ⟨show ("InvalidNumber" : Str) ∈ exL by decide, ?_⟩
  dsimp only
  simp only [show exSub ("InvalidNumber" : Str) ("InvalidNumber" : Str) = true from by decide]
  intro a dd
  refine ⟨⟨trivial, trivial, trivial, rfl⟩, _, rfl, by decide, ?_⟩
  exact fin_pure (by simp only [low, lows, and_true, true_and]; exact hl _) h

/-! law k04: drawn things, the law -/
structure WrX (L : Nat) (x : D) : Prop where
  p : pl x = true
  l : ∀ n, low n x
  s : SD 2 x
  f0 : isFT 0 (L : Int) x = false
  f1 : isFT 1 (L : Int) x = false
theorem wr_sc {L : Nat} {x : D} (hp : pl x = true) (hl : ∀ n, low n x) (hs : SD 0 x) (f : ∀ l m, isFT l m x = false) : WrX L x := ⟨hp, hl, hs.scal, f _ _, f _ _⟩
theorem wr_int {L : Nat} {i : Int} (h : i < 0 ∨ (L : Int) < i) : WrX L (.int i) := by
  have e : ∀ l : Int, 0 ≤ l → isFT l (L : Int) (.int i) = false := fun l hl => by
    show (decide (l ≤ i) && decide (i ≤ (L : Int))) = false
    rcases h with h | h
    · rw [decide_eq_false (show ¬ l ≤ i by omega), Bool.false_and]
    · rw [decide_eq_false (show ¬ i ≤ (L : Int) by omega), Bool.and_false]
  exact ⟨rfl, fun _ => by simp only [low], trivial, e 0 (by decide), e 1 (by decide)⟩
theorem pow30 : (10 : Int) ^ (30 : Int).toNat = 1000000000000000000000000000000 := by decide
theorem sp_wrong {L : Nat} {c : Cell} (hL : L ≤ 1000) (hc : PoolOk c) (h : ∀ x c', WrX L x → PoolOk c' → kd x [c']) : callN T (k + 2) i__law_wrong [.ref 0, .int (L : Int)] [c] kx kd := by
  refine enter (fn := fn__law_wrong) rfl rfl rfl rfl ?_
  dsimp only [fn__law_wrong, sem__law_wrong, sEqO, sNeO, sIdxM, sIsXs, sBits, sRevT, oRevT_t, oShr_i, oShl_i, oBand_i, oBool_i, oBool_b, sRev, oZipM_t, oZipM_l, sPopA, sExn, sIsX, sCallN, sCallE, oRepr_one, sVar, sCst, sBin, sUn, sTB, sNotT, sAndT, sOrT, sAndV, sOrV, sNotV, sIfE, sNil, sCons, sTup, sLst, sCallB, sSeq, sSkip, sDrop, sRet, sRetN, sBrk, sCnt, sIf, sSet, gN, gsNil, gsCons, gT, sAsg, sFor, sWhile, sIt, sItA, sLc, sYes, sCall, sCallK, sMethK, sNewK, oview, sFld, sMeth, sNew, sPutNew, sPutOld, sPutL, sAug, sChain, sNoP, sPart, sSl, isT, sIsi, sApp, sRaise, sTry, exTry, ksAs, envAs, sXf, oMaxS_one, oMinS_one, look, wipeE, List.set, List.map, List.replicate, id, perm, List.filterMap, List.length_cons, List.length_nil, List.nil_append, List.cons_append, Nat.sub_self, Nat.reduceAdd, Nat.reduceSub, newL_f, newL_t, oAdd_i, oAdd_s, oAdd_t, oAdd_l, oMul_i, oSub_i, oFdiv_i, oMod_i, oPow_i, oLt_i, oLe_i, oGt_i, oGe_i, oNeg_i, oAddI_i, oEq_ii, oEq_ss, oEq_bb, oEq_nn, oEq_ni, oEq_in, oEq_ns, oEq_sn, oEq_is, oEq_si, oNe_ii, oNe_ss, oNe_bb, oIs_n, oIs_b, oIsNot_n, oIsNot_b, isNon_n, isNon_i, isNon_b, isNon_s, isNon_t, isNon_l, isNon_r, isBl_n, isBl_i, isBl_b, isBl_s, isBl_t, isBl_l, isBl_r, oIx_t, oIx_l, oIx_s, oLen_t, oLen_l, oLen_c, oLen_s, oAbs_i, oInt_i, oInt_b, oMax2_i, oMin2_i, oGcd_i, oIter_t, oIter_l, oIter_c, oRng1_i, oRng2_i, oRng2G_i, oSl_t, oSl_l, oSl_c, sIsC, sIsi2, isT2, sAugS, enumL, oIsC_n, oIsC_b, oIsC_i, oIsC_s, oIsC_t, oIsC_l, oIsC_o, oIsi2_n, oIsi2_b, oIsi2_i, oIsi2_s, oIsi2_t, oIsi2_l, oComb_i, sCountM, sTru, sChain3, oTru_b, oTru_n, oTru_i, oTru_t, oTru_l, oIn_t, oIn_l, oNotIn_t, oNotIn_l, oMulT_t, oMul_l, oList_l, oList_t, oTuple_l, oTuple_t, oSumS_l, oSumS_t, oEnum_t, oEnum_l, oZip_t, oZip_l, oIsi_n, oIsi_b, oIsi_i, oIsi_s, oIsi_t, oIsi_l]
  refine ⟨⟨by decide, by decide, by decide⟩, ⟨by decide, by decide, by decide⟩, by decide, by decide, by decide, by decide, ?_⟩
  try dsimp only [oRevT_t, oShr_i, oShl_i, oBand_i, oBool_i, oBool_b, oZipM_t, oZipM_l, oRepr_one, isT, oMaxS_one, oMinS_one, look, List.length_cons, List.length_nil, List.nil_append, List.cons_append, Nat.sub_self, newL_f, newL_t, oAdd_i, oAdd_s, oAdd_t, oAdd_l, oMul_i, oSub_i, oFdiv_i, oMod_i, oPow_i, oLt_i, oLe_i, oGt_i, oGe_i, oNeg_i, oAddI_i, oEq_ii, oEq_ss, oEq_bb, oEq_nn, oEq_ni, oEq_in, oEq_ns, oEq_sn, oEq_is, oEq_si, oNe_ii, oNe_ss, oNe_bb, oIs_n, oIs_b, oIsNot_n, oIsNot_b, isNon_n, isNon_i, isNon_b, isNon_s, isNon_t, isNon_l, isNon_r, isBl_n, isBl_i, isBl_b, isBl_s, isBl_t, isBl_l, isBl_r, oIx_t, oIx_l, oIx_s, oLen_t, oLen_l, oLen_c, oLen_s, oAbs_i, oInt_i, oInt_b, oMax2_i, oMin2_i, oGcd_i, oIter_t, oIter_l, oIter_c, oRng1_i, oRng2_i, oRng2G_i, oSl_t, oSl_l, oSl_c, oIsC_n, oIsC_b, oIsC_i, oIsC_s, oIsC_t, oIsC_l, oIsC_o, oIsi2_n, oIsi2_b, oIsi2_i, oIsi2_s, oIsi2_t, oIsi2_l, oComb_i, oTru_b, oTru_n, oTru_i, oTru_t, oTru_l, oIn_t, oIn_l, oNotIn_t, oNotIn_l, oMulT_t, oMul_l, oList_l, oList_t, oTuple_l, oTuple_t, oSumS_l, oSumS_t, oEnum_t, oEnum_l, oZip_t, oZip_l, oIsi_n, oIsi_b, oIsi_i, oIsi_s, oIsi_t, oIsi_l, List.set, List.length_cons, List.length_nil, Nat.reduceAdd]
  refine sp_draw1 (k := k) hc (by decide) (by decide) fun r c' hr hc' => ?_
  rw [pow30]
  have s1 : SD 2 (.tup [.int 1]) := ⟨by decide, fun x hx => by
    cases List.mem_singleton.mp hx
    trivial⟩
  have s2 : SD 2 (.lst [.int 1]) := ⟨by decide, fun x hx => by
    cases List.mem_singleton.mp hx
    trivial⟩
  have s3 : SD 2 (.tup [.int 1, .int 2]) := ⟨by decide, fun x hx => by
    rcases List.mem_cons.mp hx with rfl | hx
    · trivial
    · cases List.mem_singleton.mp hx
      trivial⟩
  obtain ⟨x, ex, hx⟩ : ∃ x, atI [D.int (-1), D.int ((L : Int) + 1), D.int ((L : Int) + 2), D.int 1000000000000000000000000000000, D.int (-1000000000000000000000000000000), D.non, D.bl true, D.bl false, D.str "1", D.tup [D.int 1], D.lst [D.int 1], D.tup [D.int 1, D.int 2]] (r : Int) = some x ∧ WrX L x := by
    have : r = 0 ∨ r = 1 ∨ r = 2 ∨ r = 3 ∨ r = 4 ∨ r = 5 ∨ r = 6 ∨ r = 7 ∨ r = 8 ∨ r = 9 ∨ r = 10 ∨ r = 11 := by omega
    rcases this with rfl | rfl | rfl | rfl | rfl | rfl | rfl | rfl | rfl | rfl | rfl | rfl
    · exact ⟨_, rfl, wr_int (.inl (by decide))⟩
    · exact ⟨_, rfl, wr_int (.inr (by omega))⟩
    · exact ⟨_, rfl, wr_int (.inr (by omega))⟩
    · exact ⟨_, rfl, wr_int (.inr (by omega))⟩
    · exact ⟨_, rfl, wr_int (.inl (by decide))⟩
    · exact ⟨_, rfl, wr_sc rfl (fun _ => by simp only [low]) trivial fun _ _ => rfl⟩
    · exact ⟨_, rfl, wr_sc rfl (fun _ => by simp only [low]) trivial fun _ _ => rfl⟩
    · exact ⟨_, rfl, wr_sc rfl (fun _ => by simp only [low]) trivial fun _ _ => rfl⟩
    · exact ⟨_, rfl, wr_sc rfl (fun _ => by simp only [low]) trivial fun _ _ => rfl⟩
    · exact ⟨_, rfl, ⟨rfl, fun _ => by simp only [low, lows, and_self], s1, rfl, rfl⟩⟩
    · exact ⟨_, rfl, ⟨rfl, fun _ => by simp only [low, lows, and_self], s2, rfl, rfl⟩⟩
    · exact ⟨_, rfl, ⟨rfl, fun _ => by simp only [low, lows, and_self], s3, rfl, rfl⟩⟩
  exact ⟨_, ex, h x c' hx hc'⟩
theorem fibs20 : 1000000 < (fibs 200).1 := by decide +kernel
theorem sp_low {a b : Nat} (hb : 1 ≤ b) (hb2 : b ≤ 20) (h : kd (frL a b) vh) : callN T (k + 1) i__law_lowest [.int a, .int b] vh kx kd := sp_lowest hb (by have := fibs20; omega) (by omega) h
theorem sp_second {a b : Nat} {c : Cell} (hb : 1 ≤ b) (hb2 : b ≤ 20) (ha : a ≤ b) (hc : PoolOk c) (h : ∀ (x y : Nat) c', 1 ≤ y → y ≤ 20 → x ≤ y → PoolOk c' → kd (fr x y) [c']) : callN T (k + 2) i__law_second [.ref 0, .int a, .int b] [c] kx kd := by
  refine enter (fn := fn__law_second) rfl rfl rfl rfl ?_
  dsimp only [fn__law_second, sem__law_second, sEqO, sNeO, sIdxM, sIsXs, sBits, sRevT, oRevT_t, oShr_i, oShl_i, oBand_i, oBool_i, oBool_b, sRev, oZipM_t, oZipM_l, sPopA, sExn, sIsX, sCallN, sCallE, oRepr_one, sVar, sCst, sBin, sUn, sTB, sNotT, sAndT, sOrT, sAndV, sOrV, sNotV, sIfE, sNil, sCons, sTup, sLst, sCallB, sSeq, sSkip, sDrop, sRet, sRetN, sBrk, sCnt, sIf, sSet, gN, gsNil, gsCons, gT, sAsg, sFor, sWhile, sIt, sItA, sLc, sYes, sCall, sCallK, sMethK, sNewK, oview, sFld, sMeth, sNew, sPutNew, sPutOld, sPutL, sAug, sChain, sNoP, sPart, sSl, isT, sIsi, sApp, sRaise, sTry, exTry, ksAs, envAs, sXf, oMaxS_one, oMinS_one, look, wipeE, List.set, List.map, List.replicate, id, perm, List.filterMap, List.length_cons, List.length_nil, List.nil_append, List.cons_append, Nat.sub_self, Nat.reduceAdd, Nat.reduceSub, newL_f, newL_t, oAdd_i, oAdd_s, oAdd_t, oAdd_l, oMul_i, oSub_i, oFdiv_i, oMod_i, oPow_i, oLt_i, oLe_i, oGt_i, oGe_i, oNeg_i, oAddI_i, oEq_ii, oEq_ss, oEq_bb, oEq_nn, oEq_ni, oEq_in, oEq_ns, oEq_sn, oEq_is, oEq_si, oNe_ii, oNe_ss, oNe_bb, oIs_n, oIs_b, oIsNot_n, oIsNot_b, isNon_n, isNon_i, isNon_b, isNon_s, isNon_t, isNon_l, isNon_r, isBl_n, isBl_i, isBl_b, isBl_s, isBl_t, isBl_l, isBl_r, oIx_t, oIx_l, oIx_s, oLen_t, oLen_l, oLen_c, oLen_s, oAbs_i, oInt_i, oInt_b, oMax2_i, oMin2_i, oGcd_i, oIter_t, oIter_l, oIter_c, oRng1_i, oRng2_i, oRng2G_i, oSl_t, oSl_l, oSl_c, sIsC, sIsi2, isT2, sAugS, enumL, oIsC_n, oIsC_b, oIsC_i, oIsC_s, oIsC_t, oIsC_l, oIsC_o, oIsi2_n, oIsi2_b, oIsi2_i, oIsi2_s, oIsi2_t, oIsi2_l, oComb_i, sCountM, sTru, sChain3, oTru_b, oTru_n, oTru_i, oTru_t, oTru_l, oIn_t, oIn_l, oNotIn_t, oNotIn_l, oMulT_t, oMul_l, oList_l, oList_t, oTuple_l, oTuple_t, oSumS_l, oSumS_t, oEnum_t, oEnum_l, oZip_t, oZip_l, oIsi_n, oIsi_b, oIsi_i, oIsi_s, oIsi_t, oIsi_l]
  refine sp_draw1 (k := k) hc (by decide) (by decide) fun r c1 hr hc1 => ?_
  refine sp_low (k := k) hb hb2 ?_
  obtain ⟨y1, _⟩ := gcd_div (a := a) hb
  have g1 := gcd_pos (a := a) hb
  have lx : a / Nat.gcd a b ≤ b / Nat.gcd a b := Nat.div_le_div_right ha
  have ly : b / Nat.gcd a b ≤ b := Nat.div_le_self _ _
  try dsimp only [oRevT_t, oShr_i, oShl_i, oBand_i, oBool_i, oBool_b, oZipM_t, oZipM_l, oRepr_one, isT, oMaxS_one, oMinS_one, look, List.length_cons, List.length_nil, List.nil_append, List.cons_append, Nat.sub_self, newL_f, newL_t, oAdd_i, oAdd_s, oAdd_t, oAdd_l, oMul_i, oSub_i, oFdiv_i, oMod_i, oPow_i, oLt_i, oLe_i, oGt_i, oGe_i, oNeg_i, oAddI_i, oEq_ii, oEq_ss, oEq_bb, oEq_nn, oEq_ni, oEq_in, oEq_ns, oEq_sn, oEq_is, oEq_si, oNe_ii, oNe_ss, oNe_bb, oIs_n, oIs_b, oIsNot_n, oIsNot_b, isNon_n, isNon_i, isNon_b, isNon_s, isNon_t, isNon_l, isNon_r, isBl_n, isBl_i, isBl_b, isBl_s, isBl_t, isBl_l, isBl_r, oIx_t, oIx_l, oIx_s, oLen_t, oLen_l, oLen_c, oLen_s, oAbs_i, oInt_i, oInt_b, oMax2_i, oMin2_i, oGcd_i, oIter_t, oIter_l, oIter_c, oRng1_i, oRng2_i, oRng2G_i, oSl_t, oSl_l, oSl_c, oIsC_n, oIsC_b, oIsC_i, oIsC_s, oIsC_t, oIsC_l, oIsC_o, oIsi2_n, oIsi2_b, oIsi2_i, oIsi2_s, oIsi2_t, oIsi2_l, oComb_i, oTru_b, oTru_n, oTru_i, oTru_t, oTru_l, oIn_t, oIn_l, oNotIn_t, oNotIn_l, oMulT_t, oMul_l, oList_l, oList_t, oTuple_l, oTuple_t, oSumS_l, oSumS_t, oEnum_t, oEnum_l, oZip_t, oZip_l, oIsi_n, oIsi_b, oIsi_i, oIsi_s, oIsi_t, oIsi_l, List.set, List.length_cons, List.length_nil, Nat.reduceAdd]
  cases (r : Int) == 0 with
  | true =>
    try dsimp only
    generalize b / Nat.gcd a b = V at *
    generalize a / Nat.gcd a b = U at *
    refine ⟨_, at1, div_ok (by omega) (by omega), ?_⟩
    try dsimp only
    have dv : (20 : Int) / (V : Int) = ((20 / V : Nat) : Int) := rfl
    have q1 : 1 ≤ 20 / V := (Nat.one_le_div_iff (by omega)).mpr (by omega)
    have q2 : 20 / V ≤ 20 := Nat.div_le_self _ _
    have q3 : V * (20 / V) ≤ 20 := Nat.mul_div_le 20 V
    rw [dv]
    refine sp_draw1 (k := k) hc1 (by omega) (by omega) fun t c2 ht hc2 => ?_
    try dsimp only [oRevT_t, oShr_i, oShl_i, oBand_i, oBool_i, oBool_b, oZipM_t, oZipM_l, oRepr_one, isT, oMaxS_one, oMinS_one, look, List.length_cons, List.length_nil, List.nil_append, List.cons_append, Nat.sub_self, newL_f, newL_t, oAdd_i, oAdd_s, oAdd_t, oAdd_l, oMul_i, oSub_i, oFdiv_i, oMod_i, oPow_i, oLt_i, oLe_i, oGt_i, oGe_i, oNeg_i, oAddI_i, oEq_ii, oEq_ss, oEq_bb, oEq_nn, oEq_ni, oEq_in, oEq_ns, oEq_sn, oEq_is, oEq_si, oNe_ii, oNe_ss, oNe_bb, oIs_n, oIs_b, oIsNot_n, oIsNot_b, isNon_n, isNon_i, isNon_b, isNon_s, isNon_t, isNon_l, isNon_r, isBl_n, isBl_i, isBl_b, isBl_s, isBl_t, isBl_l, isBl_r, oIx_t, oIx_l, oIx_s, oLen_t, oLen_l, oLen_c, oLen_s, oAbs_i, oInt_i, oInt_b, oMax2_i, oMin2_i, oGcd_i, oIter_t, oIter_l, oIter_c, oRng1_i, oRng2_i, oRng2G_i, oSl_t, oSl_l, oSl_c, oIsC_n, oIsC_b, oIsC_i, oIsC_s, oIsC_t, oIsC_l, oIsC_o, oIsi2_n, oIsi2_b, oIsi2_i, oIsi2_s, oIsi2_t, oIsi2_l, oComb_i, oTru_b, oTru_n, oTru_i, oTru_t, oTru_l, oIn_t, oIn_l, oNotIn_t, oNotIn_l, oMulT_t, oMul_l, oList_l, oList_t, oTuple_l, oTuple_t, oSumS_l, oSumS_t, oEnum_t, oEnum_l, oZip_t, oZip_l, oIsi_n, oIsi_b, oIsi_i, oIsi_s, oIsi_t, oIsi_l, List.set, List.length_cons, List.length_nil, Nat.reduceAdd]
    rw [show (1 : Int) + (t : Int) = ((1 + t : Nat) : Int) by omega]
    have m1 : V * (1 + t) ≤ V * (20 / V) := Nat.mul_le_mul_left _ (by omega)
    have m2 : U * (1 + t) ≤ V * (1 + t) := Nat.mul_le_mul_right _ lx
    have m3 : 1 * 1 ≤ V * (1 + t) := Nat.mul_le_mul y1 (by omega)
    refine ⟨_, at0, mul_nat (by omega) (by omega), _, at1, mul_nat (by omega) (by omega), by decide, ?_⟩
    rw [← Int.natCast_mul, ← Int.natCast_mul]
    exact h _ _ c2 (by omega) (by omega) m2 hc2
  | false =>
    try dsimp only
    have rest : callN T (k + 1) i__law_draw [.ref 0, .int 20] [c1] (fun e h => finX .keep [c] kx e h) (fun d2 vh2 => oAdd false (.int 1) d2 vh2 fun d vh' => oAdd false d (.int 1) vh' fun d' vh'' => callN T (k + 1) i__law_draw [.ref 0, d'] vh'' (fun e h => finX .keep [c] kx e h) fun d1 vh3 => 2 ≤ 16777216 ∧ finD .keep [c] kd (.tup [d1, d]) vh3) := by
      refine sp_draw1 (k := k) hc1 (by decide) (by decide) fun t c2 ht hc2 => ?_
      try dsimp only [oRevT_t, oShr_i, oShl_i, oBand_i, oBool_i, oBool_b, oZipM_t, oZipM_l, oRepr_one, isT, oMaxS_one, oMinS_one, look, List.length_cons, List.length_nil, List.nil_append, List.cons_append, Nat.sub_self, newL_f, newL_t, oAdd_i, oAdd_s, oAdd_t, oAdd_l, oMul_i, oSub_i, oFdiv_i, oMod_i, oPow_i, oLt_i, oLe_i, oGt_i, oGe_i, oNeg_i, oAddI_i, oEq_ii, oEq_ss, oEq_bb, oEq_nn, oEq_ni, oEq_in, oEq_ns, oEq_sn, oEq_is, oEq_si, oNe_ii, oNe_ss, oNe_bb, oIs_n, oIs_b, oIsNot_n, oIsNot_b, isNon_n, isNon_i, isNon_b, isNon_s, isNon_t, isNon_l, isNon_r, isBl_n, isBl_i, isBl_b, isBl_s, isBl_t, isBl_l, isBl_r, oIx_t, oIx_l, oIx_s, oLen_t, oLen_l, oLen_c, oLen_s, oAbs_i, oInt_i, oInt_b, oMax2_i, oMin2_i, oGcd_i, oIter_t, oIter_l, oIter_c, oRng1_i, oRng2_i, oRng2G_i, oSl_t, oSl_l, oSl_c, oIsC_n, oIsC_b, oIsC_i, oIsC_s, oIsC_t, oIsC_l, oIsC_o, oIsi2_n, oIsi2_b, oIsi2_i, oIsi2_s, oIsi2_t, oIsi2_l, oComb_i, oTru_b, oTru_n, oTru_i, oTru_t, oTru_l, oIn_t, oIn_l, oNotIn_t, oNotIn_l, oMulT_t, oMul_l, oList_l, oList_t, oTuple_l, oTuple_t, oSumS_l, oSumS_t, oEnum_t, oEnum_l, oZip_t, oZip_l, oIsi_n, oIsi_b, oIsi_i, oIsi_s, oIsi_t, oIsi_l, List.set, List.length_cons, List.length_nil, Nat.reduceAdd]
      rw [show (1 : Int) + (t : Int) = ((1 + t : Nat) : Int) by omega]
      refine sp_draw1 (k := k) hc2 (by omega) (by omega) fun s c3 hs hc3 => ?_
      exact ⟨by decide, h s (1 + t) c3 (by omega) (by omega) (by omega) hc3⟩
    cases (r : Int) == 1 with
    | false =>
      try dsimp only
      exact rest
    | true =>
      try dsimp only
      by_cases b1 : 1 < b
      · rw [decide_eq_true (show (1 : Int) < (b : Int) by omega)]
        try dsimp only [oRevT_t, oShr_i, oShl_i, oBand_i, oBool_i, oBool_b, oZipM_t, oZipM_l, oRepr_one, isT, oMaxS_one, oMinS_one, look, List.length_cons, List.length_nil, List.nil_append, List.cons_append, Nat.sub_self, newL_f, newL_t, oAdd_i, oAdd_s, oAdd_t, oAdd_l, oMul_i, oSub_i, oFdiv_i, oMod_i, oPow_i, oLt_i, oLe_i, oGt_i, oGe_i, oNeg_i, oAddI_i, oEq_ii, oEq_ss, oEq_bb, oEq_nn, oEq_ni, oEq_in, oEq_ns, oEq_sn, oEq_is, oEq_si, oNe_ii, oNe_ss, oNe_bb, oIs_n, oIs_b, oIsNot_n, oIsNot_b, isNon_n, isNon_i, isNon_b, isNon_s, isNon_t, isNon_l, isNon_r, isBl_n, isBl_i, isBl_b, isBl_s, isBl_t, isBl_l, isBl_r, oIx_t, oIx_l, oIx_s, oLen_t, oLen_l, oLen_c, oLen_s, oAbs_i, oInt_i, oInt_b, oMax2_i, oMin2_i, oGcd_i, oIter_t, oIter_l, oIter_c, oRng1_i, oRng2_i, oRng2G_i, oSl_t, oSl_l, oSl_c, oIsC_n, oIsC_b, oIsC_i, oIsC_s, oIsC_t, oIsC_l, oIsC_o, oIsi2_n, oIsi2_b, oIsi2_i, oIsi2_s, oIsi2_t, oIsi2_l, oComb_i, oTru_b, oTru_n, oTru_i, oTru_t, oTru_l, oIn_t, oIn_l, oNotIn_t, oNotIn_l, oMulT_t, oMul_l, oList_l, oList_t, oTuple_l, oTuple_t, oSumS_l, oSumS_t, oEnum_t, oEnum_l, oZip_t, oZip_l, oIsi_n, oIsi_b, oIsi_i, oIsi_s, oIsi_t, oIsi_l, List.set, List.length_cons, List.length_nil, Nat.reduceAdd]
        refine ⟨by decide, ?_⟩
        have e2 : (b : Int) - 1 = ((b - 1 : Nat) : Int) := by omega
        rw [e2]
        have e1 : min (a : Int) ((b - 1 : Nat) : Int) = ((min a (b - 1) : Nat) : Int) := by omega
        first | rw [e1] | skip
        exact h _ _ c1 (by omega) (by omega) (by omega) hc1
      · rw [decide_eq_false (show ¬ (1 : Int) < (b : Int) by omega)]
        try dsimp only
        exact rest
theorem othR {a b : Nat} {vh : VH} : othD "Rule" vh (ruleD a b) = true := by
  show (("Rule" : Str) == ("Rule" : Str)) = true
  decide
theorem sp_equals {a b c d : Nat} (hb : 1 ≤ b) (hd : 1 ≤ d) (h : kd (.bl true) vh) : callN T (k + 2) i__law_equals [ruleD a b, ruleD c d, .bl (decide (a * d = c * b))] vh kx kd := by
  refine enter (fn := fn__law_equals) rfl rfl rfl rfl ?_
  dsimp only [fn__law_equals, sem__law_equals, sEqO, sNeO, sIdxM, sIsXs, sBits, sRevT, oRevT_t, oShr_i, oShl_i, oBand_i, oBool_i, oBool_b, sRev, oZipM_t, oZipM_l, sPopA, sExn, sIsX, sCallN, sCallE, oRepr_one, sVar, sCst, sBin, sUn, sTB, sNotT, sAndT, sOrT, sAndV, sOrV, sNotV, sIfE, sNil, sCons, sTup, sLst, sCallB, sSeq, sSkip, sDrop, sRet, sRetN, sBrk, sCnt, sIf, sSet, gN, gsNil, gsCons, gT, sAsg, sFor, sWhile, sIt, sItA, sLc, sYes, sCall, sCallK, sMethK, sNewK, oview, sFld, sMeth, sNew, sPutNew, sPutOld, sPutL, sAug, sChain, sNoP, sPart, sSl, isT, sIsi, sApp, sRaise, sTry, exTry, ksAs, envAs, sXf, oMaxS_one, oMinS_one, look, wipeE, List.set, List.map, List.replicate, id, perm, List.filterMap, List.length_cons, List.length_nil, List.nil_append, List.cons_append, Nat.sub_self, Nat.reduceAdd, Nat.reduceSub, newL_f, newL_t, oAdd_i, oAdd_s, oAdd_t, oAdd_l, oMul_i, oSub_i, oFdiv_i, oMod_i, oPow_i, oLt_i, oLe_i, oGt_i, oGe_i, oNeg_i, oAddI_i, oEq_ii, oEq_ss, oEq_bb, oEq_nn, oEq_ni, oEq_in, oEq_ns, oEq_sn, oEq_is, oEq_si, oNe_ii, oNe_ss, oNe_bb, oIs_n, oIs_b, oIsNot_n, oIsNot_b, isNon_n, isNon_i, isNon_b, isNon_s, isNon_t, isNon_l, isNon_r, isBl_n, isBl_i, isBl_b, isBl_s, isBl_t, isBl_l, isBl_r, oIx_t, oIx_l, oIx_s, oLen_t, oLen_l, oLen_c, oLen_s, oAbs_i, oInt_i, oInt_b, oMax2_i, oMin2_i, oGcd_i, oIter_t, oIter_l, oIter_c, oRng1_i, oRng2_i, oRng2G_i, oSl_t, oSl_l, oSl_c, sIsC, sIsi2, isT2, sAugS, enumL, oIsC_n, oIsC_b, oIsC_i, oIsC_s, oIsC_t, oIsC_l, oIsC_o, oIsi2_n, oIsi2_b, oIsi2_i, oIsi2_s, oIsi2_t, oIsi2_l, oComb_i, sCountM, sTru, sChain3, oTru_b, oTru_n, oTru_i, oTru_t, oTru_l, oIn_t, oIn_l, oNotIn_t, oNotIn_l, oMulT_t, oMul_l, oList_l, oList_t, oTuple_l, oTuple_t, oSumS_l, oSumS_t, oEnum_t, oEnum_l, oZip_t, oZip_l, oIsi_n, oIsi_b, oIsi_i, oIsi_s, oIsi_t, oIsi_l]
  refine ⟨⟨rfl, othR⟩, sp_eq_rule (k := k) hb hd ?_⟩
  refine sp_same_bl (k := k) ?_
  try dsimp only [Bool.not_true]
  refine ⟨⟨rfl, othR⟩, sp_eq_rule (k := k) hd hb ?_⟩
  rw [show decide (c * b = a * d) = decide (a * d = c * b) by rw [decide_eq_decide]; exact eq_comm]
  refine sp_same_bl (k := k) ?_
  try dsimp only [Bool.not_true]
  refine ⟨⟨rfl, othR⟩, sp_eq_rule (k := k) hb hd ?_⟩
  try dsimp only
  refine sp_same_bl (k := k) ?_
  try dsimp only
  refine ⟨⟨rfl, othR⟩, sp_eq_rule (k := k) hb hb ?_⟩
  rw [decide_eq_true rfl]
  refine sp_same_bl (k := k) ?_
  exact fin_pure low_bl h
def lev : Nat := 7
theorem noR_non : NoRule .non := fun _ _ z => z
theorem noR_bl {b : Bool} : NoRule (.bl b) := fun _ _ z => z
theorem noR_int {b : Int} : NoRule (.int b) := fun _ _ z => z
theorem noR_str {b : Str} : NoRule (.str b) := fun _ _ z => z
theorem noR_tup {b : List D} : NoRule (.tup b) := fun _ _ z => z
theorem noR_lst {b : List D} : NoRule (.lst b) := fun _ _ z => z
theorem SD_tfr {s : Str} {a b : Nat} : SD 2 (.tup [.str s, fr a b]) := ⟨by show 2 < 16777217; omega, fun x hx => by
  rcases List.mem_cons.mp hx with rfl | hx
  · trivial
  · cases List.mem_singleton.mp hx
    exact SD_fr⟩
theorem SD_tw {s : Str} {x : D} (h : SD 2 x) : SD 3 (.tup [.str s, x]) := ⟨by show 2 < 16777217; omega, fun y hy => by
  rcases List.mem_cons.mp hy with rfl | hy
  · trivial
  · cases List.mem_singleton.mp hy
    exact h⟩
theorem SD_ts {s t : Str} : SD 1 (.tup [.str s, .str t]) := ⟨by show 2 < 16777217; omega, fun y hy => by
  rcases List.mem_cons.mp hy with rfl | hy
  · trivial
  · cases List.mem_singleton.mp hy
    trivial⟩
def eL (ns : List Int) (x2 x3 x4 x5 x6 x7 x8 x9 x10 x11 : Option D) : VI.Env := [some (.scr ns), some (.ref 0), x2, x3, x4, x5, x6, x7, x8, x9, x10, x11]
theorem spec_law : ∀ ns : List Int, ns.length ≤ 63 → callN T lev i_law [.scr ns] [] noX fun d _ => d = .bl true := by
  intro ns hn
  have f20 := fibs20
  refine enter (fn := fn_law) (k := 6) rfl rfl rfl rfl ?_
  dsimp only [fn_law, sem_law]
  refine seq_inv (fun env vh => ∃ c, vh = [c] ∧ PoolOk c ∧ env = eL ns none none none none none none none none none none) ?_ ?_
  · intro nx hI
    dsimp only [sEqO, sNeO, sIdxM, sIsXs, sBits, sRevT, oRevT_t, oShr_i, oShl_i, oBand_i, oBool_i, oBool_b, sRev, oZipM_t, oZipM_l, sPopA, sExn, sIsX, sCallN, sCallE, oRepr_one, sVar, sCst, sBin, sUn, sTB, sNotT, sAndT, sOrT, sAndV, sOrV, sNotV, sIfE, sNil, sCons, sTup, sLst, sCallB, sSeq, sSkip, sDrop, sRet, sRetN, sBrk, sCnt, sIf, sSet, gN, gsNil, gsCons, gT, sAsg, sFor, sWhile, sIt, sItA, sLc, sYes, sCall, sCallK, sMethK, sNewK, oview, sFld, sMeth, sNew, sPutNew, sPutOld, sPutL, sAug, sChain, sNoP, sPart, sSl, isT, sIsi, sApp, sRaise, sTry, exTry, ksAs, envAs, sXf, oMaxS_one, oMinS_one, look, wipeE, List.set, List.map, List.replicate, id, perm, List.filterMap, List.length_cons, List.length_nil, List.nil_append, List.cons_append, Nat.sub_self, Nat.reduceAdd, Nat.reduceSub, newL_f, newL_t, oAdd_i, oAdd_s, oAdd_t, oAdd_l, oMul_i, oSub_i, oFdiv_i, oMod_i, oPow_i, oLt_i, oLe_i, oGt_i, oGe_i, oNeg_i, oAddI_i, oEq_ii, oEq_ss, oEq_bb, oEq_nn, oEq_ni, oEq_in, oEq_ns, oEq_sn, oEq_is, oEq_si, oNe_ii, oNe_ss, oNe_bb, oIs_n, oIs_b, oIsNot_n, oIsNot_b, isNon_n, isNon_i, isNon_b, isNon_s, isNon_t, isNon_l, isNon_r, isBl_n, isBl_i, isBl_b, isBl_s, isBl_t, isBl_l, isBl_r, oIx_t, oIx_l, oIx_s, oLen_t, oLen_l, oLen_c, oLen_s, oAbs_i, oInt_i, oInt_b, oMax2_i, oMin2_i, oGcd_i, oIter_t, oIter_l, oIter_c, oRng1_i, oRng2_i, oRng2G_i, oSl_t, oSl_l, oSl_c, sIsC, sIsi2, isT2, sAugS, enumL, oIsC_n, oIsC_b, oIsC_i, oIsC_s, oIsC_t, oIsC_l, oIsC_o, oIsi2_n, oIsi2_b, oIsi2_i, oIsi2_s, oIsi2_t, oIsi2_l, oComb_i, sCountM, sTru, sChain3, oTru_b, oTru_n, oTru_i, oTru_t, oTru_l, oIn_t, oIn_l, oNotIn_t, oNotIn_l, oMulT_t, oMul_l, oList_l, oList_t, oTuple_l, oTuple_t, oSumS_l, oSumS_t, oEnum_t, oEnum_l, oZip_t, oZip_l, oIsi_n, oIsi_b, oIsi_i, oIsi_s, oIsi_t, oIsi_l]
    exact sp_pool (k := 5) (vh := []) hn fun c hc => hI _ _ ⟨c, rfl, hc, rfl⟩
  rintro env vh ⟨c, rfl, hc, rfl⟩
  refine seq_inv (fun env vh => ∃ (c : Cell) (b : Nat), vh = [c] ∧ PoolOk c ∧ 1 ≤ b ∧ b ≤ 20 ∧ env = eL ns (some (.int (b : Int))) none none none none none none none none none) ?_ ?_
  · intro nx hI
    dsimp only [eL, sEqO, sNeO, sIdxM, sIsXs, sBits, sRevT, oRevT_t, oShr_i, oShl_i, oBand_i, oBool_i, oBool_b, sRev, oZipM_t, oZipM_l, sPopA, sExn, sIsX, sCallN, sCallE, oRepr_one, sVar, sCst, sBin, sUn, sTB, sNotT, sAndT, sOrT, sAndV, sOrV, sNotV, sIfE, sNil, sCons, sTup, sLst, sCallB, sSeq, sSkip, sDrop, sRet, sRetN, sBrk, sCnt, sIf, sSet, gN, gsNil, gsCons, gT, sAsg, sFor, sWhile, sIt, sItA, sLc, sYes, sCall, sCallK, sMethK, sNewK, oview, sFld, sMeth, sNew, sPutNew, sPutOld, sPutL, sAug, sChain, sNoP, sPart, sSl, isT, sIsi, sApp, sRaise, sTry, exTry, ksAs, envAs, sXf, oMaxS_one, oMinS_one, look, wipeE, List.set, List.map, List.replicate, id, perm, List.filterMap, List.length_cons, List.length_nil, List.nil_append, List.cons_append, Nat.sub_self, Nat.reduceAdd, Nat.reduceSub, newL_f, newL_t, oAdd_i, oAdd_s, oAdd_t, oAdd_l, oMul_i, oSub_i, oFdiv_i, oMod_i, oPow_i, oLt_i, oLe_i, oGt_i, oGe_i, oNeg_i, oAddI_i, oEq_ii, oEq_ss, oEq_bb, oEq_nn, oEq_ni, oEq_in, oEq_ns, oEq_sn, oEq_is, oEq_si, oNe_ii, oNe_ss, oNe_bb, oIs_n, oIs_b, oIsNot_n, oIsNot_b, isNon_n, isNon_i, isNon_b, isNon_s, isNon_t, isNon_l, isNon_r, isBl_n, isBl_i, isBl_b, isBl_s, isBl_t, isBl_l, isBl_r, oIx_t, oIx_l, oIx_s, oLen_t, oLen_l, oLen_c, oLen_s, oAbs_i, oInt_i, oInt_b, oMax2_i, oMin2_i, oGcd_i, oIter_t, oIter_l, oIter_c, oRng1_i, oRng2_i, oRng2G_i, oSl_t, oSl_l, oSl_c, sIsC, sIsi2, isT2, sAugS, enumL, oIsC_n, oIsC_b, oIsC_i, oIsC_s, oIsC_t, oIsC_l, oIsC_o, oIsi2_n, oIsi2_b, oIsi2_i, oIsi2_s, oIsi2_t, oIsi2_l, oComb_i, sCountM, sTru, sChain3, oTru_b, oTru_n, oTru_i, oTru_t, oTru_l, oIn_t, oIn_l, oNotIn_t, oNotIn_l, oMulT_t, oMul_l, oList_l, oList_t, oTuple_l, oTuple_t, oSumS_l, oSumS_t, oEnum_t, oEnum_l, oZip_t, oZip_l, oIsi_n, oIsi_b, oIsi_i, oIsi_s, oIsi_t, oIsi_l]
    refine sp_draw1 (k := 5) hc (by decide) (by decide) fun r c1 hr hc1 => ?_
    try dsimp only [oRevT_t, oShr_i, oShl_i, oBand_i, oBool_i, oBool_b, oZipM_t, oZipM_l, oRepr_one, isT, oMaxS_one, oMinS_one, look, List.length_cons, List.length_nil, List.nil_append, List.cons_append, Nat.sub_self, newL_f, newL_t, oAdd_i, oAdd_s, oAdd_t, oAdd_l, oMul_i, oSub_i, oFdiv_i, oMod_i, oPow_i, oLt_i, oLe_i, oGt_i, oGe_i, oNeg_i, oAddI_i, oEq_ii, oEq_ss, oEq_bb, oEq_nn, oEq_ni, oEq_in, oEq_ns, oEq_sn, oEq_is, oEq_si, oNe_ii, oNe_ss, oNe_bb, oIs_n, oIs_b, oIsNot_n, oIsNot_b, isNon_n, isNon_i, isNon_b, isNon_s, isNon_t, isNon_l, isNon_r, isBl_n, isBl_i, isBl_b, isBl_s, isBl_t, isBl_l, isBl_r, oIx_t, oIx_l, oIx_s, oLen_t, oLen_l, oLen_c, oLen_s, oAbs_i, oInt_i, oInt_b, oMax2_i, oMin2_i, oGcd_i, oIter_t, oIter_l, oIter_c, oRng1_i, oRng2_i, oRng2G_i, oSl_t, oSl_l, oSl_c, oIsC_n, oIsC_b, oIsC_i, oIsC_s, oIsC_t, oIsC_l, oIsC_o, oIsi2_n, oIsi2_b, oIsi2_i, oIsi2_s, oIsi2_t, oIsi2_l, oComb_i, oTru_b, oTru_n, oTru_i, oTru_t, oTru_l, oIn_t, oIn_l, oNotIn_t, oNotIn_l, oMulT_t, oMul_l, oList_l, oList_t, oTuple_l, oTuple_t, oSumS_l, oSumS_t, oEnum_t, oEnum_l, oZip_t, oZip_l, oIsi_n, oIsi_b, oIsi_i, oIsi_s, oIsi_t, oIsi_l, List.set, List.length_cons, List.length_nil, Nat.reduceAdd]
    exact hI _ _ ⟨c1, 1 + r, rfl, hc1, by omega, by omega, by rw [show (1 : Int) + (r : Int) = ((1 + r : Nat) : Int) by omega]; rfl⟩
  clear hc
  rintro env vh ⟨c, b, rfl, hc, hb, hb2, rfl⟩
  refine seq_inv (fun env vh => ∃ (c : Cell) (a : Nat), vh = [c] ∧ PoolOk c ∧ a ≤ b ∧ env = eL ns (some (.int (b : Int))) (some (.int (a : Int))) none none none none none none none none) ?_ ?_
  · intro nx hI
    dsimp only [eL, sEqO, sNeO, sIdxM, sIsXs, sBits, sRevT, oRevT_t, oShr_i, oShl_i, oBand_i, oBool_i, oBool_b, sRev, oZipM_t, oZipM_l, sPopA, sExn, sIsX, sCallN, sCallE, oRepr_one, sVar, sCst, sBin, sUn, sTB, sNotT, sAndT, sOrT, sAndV, sOrV, sNotV, sIfE, sNil, sCons, sTup, sLst, sCallB, sSeq, sSkip, sDrop, sRet, sRetN, sBrk, sCnt, sIf, sSet, gN, gsNil, gsCons, gT, sAsg, sFor, sWhile, sIt, sItA, sLc, sYes, sCall, sCallK, sMethK, sNewK, oview, sFld, sMeth, sNew, sPutNew, sPutOld, sPutL, sAug, sChain, sNoP, sPart, sSl, isT, sIsi, sApp, sRaise, sTry, exTry, ksAs, envAs, sXf, oMaxS_one, oMinS_one, look, wipeE, List.set, List.map, List.replicate, id, perm, List.filterMap, List.length_cons, List.length_nil, List.nil_append, List.cons_append, Nat.sub_self, Nat.reduceAdd, Nat.reduceSub, newL_f, newL_t, oAdd_i, oAdd_s, oAdd_t, oAdd_l, oMul_i, oSub_i, oFdiv_i, oMod_i, oPow_i, oLt_i, oLe_i, oGt_i, oGe_i, oNeg_i, oAddI_i, oEq_ii, oEq_ss, oEq_bb, oEq_nn, oEq_ni, oEq_in, oEq_ns, oEq_sn, oEq_is, oEq_si, oNe_ii, oNe_ss, oNe_bb, oIs_n, oIs_b, oIsNot_n, oIsNot_b, isNon_n, isNon_i, isNon_b, isNon_s, isNon_t, isNon_l, isNon_r, isBl_n, isBl_i, isBl_b, isBl_s, isBl_t, isBl_l, isBl_r, oIx_t, oIx_l, oIx_s, oLen_t, oLen_l, oLen_c, oLen_s, oAbs_i, oInt_i, oInt_b, oMax2_i, oMin2_i, oGcd_i, oIter_t, oIter_l, oIter_c, oRng1_i, oRng2_i, oRng2G_i, oSl_t, oSl_l, oSl_c, sIsC, sIsi2, isT2, sAugS, enumL, oIsC_n, oIsC_b, oIsC_i, oIsC_s, oIsC_t, oIsC_l, oIsC_o, oIsi2_n, oIsi2_b, oIsi2_i, oIsi2_s, oIsi2_t, oIsi2_l, oComb_i, sCountM, sTru, sChain3, oTru_b, oTru_n, oTru_i, oTru_t, oTru_l, oIn_t, oIn_l, oNotIn_t, oNotIn_l, oMulT_t, oMul_l, oList_l, oList_t, oTuple_l, oTuple_t, oSumS_l, oSumS_t, oEnum_t, oEnum_l, oZip_t, oZip_l, oIsi_n, oIsi_b, oIsi_i, oIsi_s, oIsi_t, oIsi_l]
    refine sp_draw1 (k := 5) hc (by omega) (by omega) fun r c1 hr hc1 => ?_
    exact hI _ _ ⟨c1, r, rfl, hc1, by omega, rfl⟩
  clear hc
  rintro env vh ⟨c, a, rfl, hc, ha, rfl⟩
  refine seq_inv (fun env vh => ∃ (c : Cell) (a : Nat), vh = [c] ∧ PoolOk c ∧ a ≤ b ∧ env = eL ns (some (.int (b : Int))) (some (.int (a : Int))) none none none none none none none none) ?_ ?_
  · intro nx hI
    dsimp only [eL, sEqO, sNeO, sIdxM, sIsXs, sBits, sRevT, oRevT_t, oShr_i, oShl_i, oBand_i, oBool_i, oBool_b, sRev, oZipM_t, oZipM_l, sPopA, sExn, sIsX, sCallN, sCallE, oRepr_one, sVar, sCst, sBin, sUn, sTB, sNotT, sAndT, sOrT, sAndV, sOrV, sNotV, sIfE, sNil, sCons, sTup, sLst, sCallB, sSeq, sSkip, sDrop, sRet, sRetN, sBrk, sCnt, sIf, sSet, gN, gsNil, gsCons, gT, sAsg, sFor, sWhile, sIt, sItA, sLc, sYes, sCall, sCallK, sMethK, sNewK, oview, sFld, sMeth, sNew, sPutNew, sPutOld, sPutL, sAug, sChain, sNoP, sPart, sSl, isT, sIsi, sApp, sRaise, sTry, exTry, ksAs, envAs, sXf, oMaxS_one, oMinS_one, look, wipeE, List.set, List.map, List.replicate, id, perm, List.filterMap, List.length_cons, List.length_nil, List.nil_append, List.cons_append, Nat.sub_self, Nat.reduceAdd, Nat.reduceSub, newL_f, newL_t, oAdd_i, oAdd_s, oAdd_t, oAdd_l, oMul_i, oSub_i, oFdiv_i, oMod_i, oPow_i, oLt_i, oLe_i, oGt_i, oGe_i, oNeg_i, oAddI_i, oEq_ii, oEq_ss, oEq_bb, oEq_nn, oEq_ni, oEq_in, oEq_ns, oEq_sn, oEq_is, oEq_si, oNe_ii, oNe_ss, oNe_bb, oIs_n, oIs_b, oIsNot_n, oIsNot_b, isNon_n, isNon_i, isNon_b, isNon_s, isNon_t, isNon_l, isNon_r, isBl_n, isBl_i, isBl_b, isBl_s, isBl_t, isBl_l, isBl_r, oIx_t, oIx_l, oIx_s, oLen_t, oLen_l, oLen_c, oLen_s, oAbs_i, oInt_i, oInt_b, oMax2_i, oMin2_i, oGcd_i, oIter_t, oIter_l, oIter_c, oRng1_i, oRng2_i, oRng2G_i, oSl_t, oSl_l, oSl_c, sIsC, sIsi2, isT2, sAugS, enumL, oIsC_n, oIsC_b, oIsC_i, oIsC_s, oIsC_t, oIsC_l, oIsC_o, oIsi2_n, oIsi2_b, oIsi2_i, oIsi2_s, oIsi2_t, oIsi2_l, oComb_i, sCountM, sTru, sChain3, oTru_b, oTru_n, oTru_i, oTru_t, oTru_l, oIn_t, oIn_l, oNotIn_t, oNotIn_l, oMulT_t, oMul_l, oList_l, oList_t, oTuple_l, oTuple_t, oSumS_l, oSumS_t, oEnum_t, oEnum_l, oZip_t, oZip_l, oIsi_n, oIsi_b, oIsi_i, oIsi_s, oIsi_t, oIsi_l]
    refine sp_draw1 (k := 5) hc (by decide) (by decide) fun r c1 hr hc1 => ?_
    try dsimp only [oRevT_t, oShr_i, oShl_i, oBand_i, oBool_i, oBool_b, oZipM_t, oZipM_l, oRepr_one, isT, oMaxS_one, oMinS_one, look, List.length_cons, List.length_nil, List.nil_append, List.cons_append, Nat.sub_self, newL_f, newL_t, oAdd_i, oAdd_s, oAdd_t, oAdd_l, oMul_i, oSub_i, oFdiv_i, oMod_i, oPow_i, oLt_i, oLe_i, oGt_i, oGe_i, oNeg_i, oAddI_i, oEq_ii, oEq_ss, oEq_bb, oEq_nn, oEq_ni, oEq_in, oEq_ns, oEq_sn, oEq_is, oEq_si, oNe_ii, oNe_ss, oNe_bb, oIs_n, oIs_b, oIsNot_n, oIsNot_b, isNon_n, isNon_i, isNon_b, isNon_s, isNon_t, isNon_l, isNon_r, isBl_n, isBl_i, isBl_b, isBl_s, isBl_t, isBl_l, isBl_r, oIx_t, oIx_l, oIx_s, oLen_t, oLen_l, oLen_c, oLen_s, oAbs_i, oInt_i, oInt_b, oMax2_i, oMin2_i, oGcd_i, oIter_t, oIter_l, oIter_c, oRng1_i, oRng2_i, oRng2G_i, oSl_t, oSl_l, oSl_c, oIsC_n, oIsC_b, oIsC_i, oIsC_s, oIsC_t, oIsC_l, oIsC_o, oIsi2_n, oIsi2_b, oIsi2_i, oIsi2_s, oIsi2_t, oIsi2_l, oComb_i, oTru_b, oTru_n, oTru_i, oTru_t, oTru_l, oIn_t, oIn_l, oNotIn_t, oNotIn_l, oMulT_t, oMul_l, oList_l, oList_t, oTuple_l, oTuple_t, oSumS_l, oSumS_t, oEnum_t, oEnum_l, oZip_t, oZip_l, oIsi_n, oIsi_b, oIsi_i, oIsi_s, oIsi_t, oIsi_l, List.set, List.length_cons, List.length_nil, Nat.reduceAdd]
    cases (r : Int) == 0 with
    | false => exact hI _ _ ⟨c1, a, rfl, hc1, ha, rfl⟩
    | true =>
      try dsimp only
      refine sp_draw1 (k := 5) hc1 (by decide) (by decide) fun t c2 ht hc2 => ?_
      have : t = 0 ∨ t = 1 := by omega
      rcases this with rfl | rfl
      · exact ⟨mul_ok (by omega) (by omega) (by omega) (by omega), hI _ _ ⟨c2, 0, rfl, hc2, by omega, by simp [eL]⟩⟩
      · exact ⟨mul_ok (by omega) (by omega) (by omega) (by omega), hI _ _ ⟨c2, b, rfl, hc2, by omega, by simp [eL]⟩⟩
  clear hc ha
  rintro env vh ⟨c, a, rfl, hc, ha, rfl⟩
  refine seq_inv (fun env vh => vh = [c] ∧ env = eL ns (some (.int (b : Int))) (some (.int (a : Int))) none none none none none none none none) ?_ ?_
  · intro nx hI
    dsimp only [eL, sEqO, sNeO, sIdxM, sIsXs, sBits, sRevT, oRevT_t, oShr_i, oShl_i, oBand_i, oBool_i, oBool_b, sRev, oZipM_t, oZipM_l, sPopA, sExn, sIsX, sCallN, sCallE, oRepr_one, sVar, sCst, sBin, sUn, sTB, sNotT, sAndT, sOrT, sAndV, sOrV, sNotV, sIfE, sNil, sCons, sTup, sLst, sCallB, sSeq, sSkip, sDrop, sRet, sRetN, sBrk, sCnt, sIf, sSet, gN, gsNil, gsCons, gT, sAsg, sFor, sWhile, sIt, sItA, sLc, sYes, sCall, sCallK, sMethK, sNewK, oview, sFld, sMeth, sNew, sPutNew, sPutOld, sPutL, sAug, sChain, sNoP, sPart, sSl, isT, sIsi, sApp, sRaise, sTry, exTry, ksAs, envAs, sXf, oMaxS_one, oMinS_one, look, wipeE, List.set, List.map, List.replicate, id, perm, List.filterMap, List.length_cons, List.length_nil, List.nil_append, List.cons_append, Nat.sub_self, Nat.reduceAdd, Nat.reduceSub, newL_f, newL_t, oAdd_i, oAdd_s, oAdd_t, oAdd_l, oMul_i, oSub_i, oFdiv_i, oMod_i, oPow_i, oLt_i, oLe_i, oGt_i, oGe_i, oNeg_i, oAddI_i, oEq_ii, oEq_ss, oEq_bb, oEq_nn, oEq_ni, oEq_in, oEq_ns, oEq_sn, oEq_is, oEq_si, oNe_ii, oNe_ss, oNe_bb, oIs_n, oIs_b, oIsNot_n, oIsNot_b, isNon_n, isNon_i, isNon_b, isNon_s, isNon_t, isNon_l, isNon_r, isBl_n, isBl_i, isBl_b, isBl_s, isBl_t, isBl_l, isBl_r, oIx_t, oIx_l, oIx_s, oLen_t, oLen_l, oLen_c, oLen_s, oAbs_i, oInt_i, oInt_b, oMax2_i, oMin2_i, oGcd_i, oIter_t, oIter_l, oIter_c, oRng1_i, oRng2_i, oRng2G_i, oSl_t, oSl_l, oSl_c, sIsC, sIsi2, isT2, sAugS, enumL, oIsC_n, oIsC_b, oIsC_i, oIsC_s, oIsC_t, oIsC_l, oIsC_o, oIsi2_n, oIsi2_b, oIsi2_i, oIsi2_s, oIsi2_t, oIsi2_l, oComb_i, sCountM, sTru, sChain3, oTru_b, oTru_n, oTru_i, oTru_t, oTru_l, oIn_t, oIn_l, oNotIn_t, oNotIn_l, oMulT_t, oMul_l, oList_l, oList_t, oTuple_l, oTuple_t, oSumS_l, oSumS_t, oEnum_t, oEnum_l, oZip_t, oZip_l, oIsi_n, oIsi_b, oIsi_i, oIsi_s, oIsi_t, oIsi_l]
    refine sp_made_told (k := 1) hb hb2 ha ?_
    refine sp_low (k := 5) hb hb2 ?_
    refine ⟨by decide, ?_⟩
    refine sp_same (k := 3) 2 SD_tfr ?_
    exact hI _ _ ⟨rfl, rfl⟩
  rintro env vh ⟨z, rfl⟩
  subst vh
  refine seq_inv (fun env vh => vh = [c] ∧ env = eL ns (some (.int (b : Int))) (some (.int (a : Int))) (some (ruleD a b)) none none none none none none none) ?_ ?_
  · intro nx hI
    dsimp only [eL, sEqO, sNeO, sIdxM, sIsXs, sBits, sRevT, oRevT_t, oShr_i, oShl_i, oBand_i, oBool_i, oBool_b, sRev, oZipM_t, oZipM_l, sPopA, sExn, sIsX, sCallN, sCallE, oRepr_one, sVar, sCst, sBin, sUn, sTB, sNotT, sAndT, sOrT, sAndV, sOrV, sNotV, sIfE, sNil, sCons, sTup, sLst, sCallB, sSeq, sSkip, sDrop, sRet, sRetN, sBrk, sCnt, sIf, sSet, gN, gsNil, gsCons, gT, sAsg, sFor, sWhile, sIt, sItA, sLc, sYes, sCall, sCallK, sMethK, sNewK, oview, sFld, sMeth, sNew, sPutNew, sPutOld, sPutL, sAug, sChain, sNoP, sPart, sSl, isT, sIsi, sApp, sRaise, sTry, exTry, ksAs, envAs, sXf, oMaxS_one, oMinS_one, look, wipeE, List.set, List.map, List.replicate, id, perm, List.filterMap, List.length_cons, List.length_nil, List.nil_append, List.cons_append, Nat.sub_self, Nat.reduceAdd, Nat.reduceSub, newL_f, newL_t, oAdd_i, oAdd_s, oAdd_t, oAdd_l, oMul_i, oSub_i, oFdiv_i, oMod_i, oPow_i, oLt_i, oLe_i, oGt_i, oGe_i, oNeg_i, oAddI_i, oEq_ii, oEq_ss, oEq_bb, oEq_nn, oEq_ni, oEq_in, oEq_ns, oEq_sn, oEq_is, oEq_si, oNe_ii, oNe_ss, oNe_bb, oIs_n, oIs_b, oIsNot_n, oIsNot_b, isNon_n, isNon_i, isNon_b, isNon_s, isNon_t, isNon_l, isNon_r, isBl_n, isBl_i, isBl_b, isBl_s, isBl_t, isBl_l, isBl_r, oIx_t, oIx_l, oIx_s, oLen_t, oLen_l, oLen_c, oLen_s, oAbs_i, oInt_i, oInt_b, oMax2_i, oMin2_i, oGcd_i, oIter_t, oIter_l, oIter_c, oRng1_i, oRng2_i, oRng2G_i, oSl_t, oSl_l, oSl_c, sIsC, sIsi2, isT2, sAugS, enumL, oIsC_n, oIsC_b, oIsC_i, oIsC_s, oIsC_t, oIsC_l, oIsC_o, oIsi2_n, oIsi2_b, oIsi2_i, oIsi2_s, oIsi2_t, oIsi2_l, oComb_i, sCountM, sTru, sChain3, oTru_b, oTru_n, oTru_i, oTru_t, oTru_l, oIn_t, oIn_l, oNotIn_t, oNotIn_l, oMulT_t, oMul_l, oList_l, oList_t, oTuple_l, oTuple_t, oSumS_l, oSumS_t, oEnum_t, oEnum_l, oZip_t, oZip_l, oIsi_n, oIsi_b, oIsi_i, oIsi_s, oIsi_t, oIsi_l]
    show callN T 6 i_RuleU_initU [.ref [c].length, .int a, .int b] ([c] ++ [.ins "Rule" [] []]) _ _
    refine sp_rule (k := 2) hb hb2 ha ?_
    refine ⟨rfl, [.ins "Rule" ["part"] [frL a b]], ruleD a b, rfl, .ins (Nat.le_refl _) one_0 (.cons (.low low_two) .nil), ?_⟩
    exact hI _ _ ⟨rfl, rfl⟩
  rintro env vh ⟨z, rfl⟩
  subst vh
  refine seq_inv (fun env vh => ∃ (c : Cell) (x5 x11 : Option D), vh = [c] ∧ PoolOk c ∧ env = eL ns (some (.int (b : Int))) (some (.int (a : Int))) (some (ruleD a b)) x5 none none none none none x11) ?_ ?_
  · intro nx hI
    dsimp only [eL, sFor, sIt, sLst, sCons, sNil, sCst, sCall, sBin, sVar, look, oRevT_t, oShr_i, oShl_i, oBand_i, oBool_i, oBool_b, oZipM_t, oZipM_l, oRepr_one, isT, oMaxS_one, oMinS_one, look, List.length_cons, List.length_nil, List.nil_append, List.cons_append, Nat.sub_self, newL_f, newL_t, oAdd_i, oAdd_s, oAdd_t, oAdd_l, oMul_i, oSub_i, oFdiv_i, oMod_i, oPow_i, oLt_i, oLe_i, oGt_i, oGe_i, oNeg_i, oAddI_i, oEq_ii, oEq_ss, oEq_bb, oEq_nn, oEq_ni, oEq_in, oEq_ns, oEq_sn, oEq_is, oEq_si, oNe_ii, oNe_ss, oNe_bb, oIs_n, oIs_b, oIsNot_n, oIsNot_b, isNon_n, isNon_i, isNon_b, isNon_s, isNon_t, isNon_l, isNon_r, isBl_n, isBl_i, isBl_b, isBl_s, isBl_t, isBl_l, isBl_r, oIx_t, oIx_l, oIx_s, oLen_t, oLen_l, oLen_c, oLen_s, oAbs_i, oInt_i, oInt_b, oMax2_i, oMin2_i, oGcd_i, oIter_t, oIter_l, oIter_c, oRng1_i, oRng2_i, oRng2G_i, oSl_t, oSl_l, oSl_c, oIsC_n, oIsC_b, oIsC_i, oIsC_s, oIsC_t, oIsC_l, oIsC_o, oIsi2_n, oIsi2_b, oIsi2_i, oIsi2_s, oIsi2_t, oIsi2_l, oComb_i, oTru_b, oTru_n, oTru_i, oTru_t, oTru_l, oIn_t, oIn_l, oNotIn_t, oNotIn_l, oMulT_t, oMul_l, oList_l, oList_t, oTuple_l, oTuple_t, oSumS_l, oSumS_t, oEnum_t, oEnum_l, oZip_t, oZip_l, oIsi_n, oIsi_b, oIsi_i, oIsi_s, oIsi_t, oIsi_l, List.set, List.length_cons, List.length_nil, Nat.reduceAdd]
    refine sp_draw1 (k := 5) hc (by decide) (by decide) fun r c1 hr hc1 => ?_
    try dsimp only [oRevT_t, oShr_i, oShl_i, oBand_i, oBool_i, oBool_b, oZipM_t, oZipM_l, oRepr_one, isT, oMaxS_one, oMinS_one, look, List.length_cons, List.length_nil, List.nil_append, List.cons_append, Nat.sub_self, newL_f, newL_t, oAdd_i, oAdd_s, oAdd_t, oAdd_l, oMul_i, oSub_i, oFdiv_i, oMod_i, oPow_i, oLt_i, oLe_i, oGt_i, oGe_i, oNeg_i, oAddI_i, oEq_ii, oEq_ss, oEq_bb, oEq_nn, oEq_ni, oEq_in, oEq_ns, oEq_sn, oEq_is, oEq_si, oNe_ii, oNe_ss, oNe_bb, oIs_n, oIs_b, oIsNot_n, oIsNot_b, isNon_n, isNon_i, isNon_b, isNon_s, isNon_t, isNon_l, isNon_r, isBl_n, isBl_i, isBl_b, isBl_s, isBl_t, isBl_l, isBl_r, oIx_t, oIx_l, oIx_s, oLen_t, oLen_l, oLen_c, oLen_s, oAbs_i, oInt_i, oInt_b, oMax2_i, oMin2_i, oGcd_i, oIter_t, oIter_l, oIter_c, oRng1_i, oRng2_i, oRng2G_i, oSl_t, oSl_l, oSl_c, oIsC_n, oIsC_b, oIsC_i, oIsC_s, oIsC_t, oIsC_l, oIsC_o, oIsi2_n, oIsi2_b, oIsi2_i, oIsi2_s, oIsi2_t, oIsi2_l, oComb_i, oTru_b, oTru_n, oTru_i, oTru_t, oTru_l, oIn_t, oIn_l, oNotIn_t, oNotIn_l, oMulT_t, oMul_l, oList_l, oList_t, oTuple_l, oTuple_t, oSumS_l, oSumS_t, oEnum_t, oEnum_l, oZip_t, oZip_l, oIsi_n, oIsi_b, oIsi_i, oIsi_s, oIsi_t, oIsi_l, List.set, List.length_cons, List.length_nil, Nat.reduceAdd]
    refine sp_draw1 (k := 5) hc1 (by decide) (by decide) fun t c2 ht hc2 => ?_
    try dsimp only [oRevT_t, oShr_i, oShl_i, oBand_i, oBool_i, oBool_b, oZipM_t, oZipM_l, oRepr_one, isT, oMaxS_one, oMinS_one, look, List.length_cons, List.length_nil, List.nil_append, List.cons_append, Nat.sub_self, newL_f, newL_t, oAdd_i, oAdd_s, oAdd_t, oAdd_l, oMul_i, oSub_i, oFdiv_i, oMod_i, oPow_i, oLt_i, oLe_i, oGt_i, oGe_i, oNeg_i, oAddI_i, oEq_ii, oEq_ss, oEq_bb, oEq_nn, oEq_ni, oEq_in, oEq_ns, oEq_sn, oEq_is, oEq_si, oNe_ii, oNe_ss, oNe_bb, oIs_n, oIs_b, oIsNot_n, oIsNot_b, isNon_n, isNon_i, isNon_b, isNon_s, isNon_t, isNon_l, isNon_r, isBl_n, isBl_i, isBl_b, isBl_s, isBl_t, isBl_l, isBl_r, oIx_t, oIx_l, oIx_s, oLen_t, oLen_l, oLen_c, oLen_s, oAbs_i, oInt_i, oInt_b, oMax2_i, oMin2_i, oGcd_i, oIter_t, oIter_l, oIter_c, oRng1_i, oRng2_i, oRng2G_i, oSl_t, oSl_l, oSl_c, oIsC_n, oIsC_b, oIsC_i, oIsC_s, oIsC_t, oIsC_l, oIsC_o, oIsi2_n, oIsi2_b, oIsi2_i, oIsi2_s, oIsi2_t, oIsi2_l, oComb_i, oTru_b, oTru_n, oTru_i, oTru_t, oTru_l, oIn_t, oIn_l, oNotIn_t, oNotIn_l, oMulT_t, oMul_l, oList_l, oList_t, oTuple_l, oTuple_t, oSumS_l, oSumS_t, oEnum_t, oEnum_l, oZip_t, oZip_l, oIsi_n, oIsi_b, oIsi_i, oIsi_s, oIsi_t, oIsi_l, List.set, List.length_cons, List.length_nil, Nat.reduceAdd]
    refine ⟨by decide, ?_⟩
    refine forL_inv (fun i env vh => vh = [c2] ∧ ∃ x5 x11, env = eL ns (some (.int (b : Int))) (some (.int (a : Int))) (some (ruleD a b)) x5 none none none none none x11) (fun _ _ _ _ => trivial) ?_ ?_ ⟨rfl, none, none, rfl⟩
    · rintro i e env vh nx2 he ⟨z, x5, x11, rfl⟩ hI2
      subst vh
      have hm := List.mem_of_getElem? he
      obtain ⟨n, rfl, n1, n2⟩ : ∃ n : Nat, e = .int (n : Int) ∧ 1 ≤ n ∧ n ≤ 1000 := by
        simp only [List.mem_cons, List.not_mem_nil, or_false] at hm
        rcases hm with rfl | rfl | rfl | rfl | rfl | rfl
        · exact ⟨1, rfl, by decide, by decide⟩
        · exact ⟨2, rfl, by decide, by decide⟩
        · exact ⟨999, rfl, by decide, by decide⟩
        · exact ⟨1000, rfl, by decide, by decide⟩
        · exact ⟨1 + r, by rw [show (1 : Int) + (r : Int) = ((1 + r : Nat) : Int) by omega], by omega, by omega⟩
        · exact ⟨1 + t, by rw [show (1 : Int) + (t : Int) = ((1 + t : Nat) : Int) by omega], by omega, by omega⟩
      dsimp only [eL, gN, List.set, sEqO, sNeO, sIdxM, sIsXs, sBits, sRevT, oRevT_t, oShr_i, oShl_i, oBand_i, oBool_i, oBool_b, sRev, oZipM_t, oZipM_l, sPopA, sExn, sIsX, sCallN, sCallE, oRepr_one, sVar, sCst, sBin, sUn, sTB, sNotT, sAndT, sOrT, sAndV, sOrV, sNotV, sIfE, sNil, sCons, sTup, sLst, sCallB, sSeq, sSkip, sDrop, sRet, sRetN, sBrk, sCnt, sIf, sSet, gN, gsNil, gsCons, gT, sAsg, sFor, sWhile, sIt, sItA, sLc, sYes, sCall, sCallK, sMethK, sNewK, oview, sFld, sMeth, sNew, sPutNew, sPutOld, sPutL, sAug, sChain, sNoP, sPart, sSl, isT, sIsi, sApp, sRaise, sTry, exTry, ksAs, envAs, sXf, oMaxS_one, oMinS_one, look, wipeE, List.set, List.map, List.replicate, id, perm, List.filterMap, List.length_cons, List.length_nil, List.nil_append, List.cons_append, Nat.sub_self, Nat.reduceAdd, Nat.reduceSub, newL_f, newL_t, oAdd_i, oAdd_s, oAdd_t, oAdd_l, oMul_i, oSub_i, oFdiv_i, oMod_i, oPow_i, oLt_i, oLe_i, oGt_i, oGe_i, oNeg_i, oAddI_i, oEq_ii, oEq_ss, oEq_bb, oEq_nn, oEq_ni, oEq_in, oEq_ns, oEq_sn, oEq_is, oEq_si, oNe_ii, oNe_ss, oNe_bb, oIs_n, oIs_b, oIsNot_n, oIsNot_b, isNon_n, isNon_i, isNon_b, isNon_s, isNon_t, isNon_l, isNon_r, isBl_n, isBl_i, isBl_b, isBl_s, isBl_t, isBl_l, isBl_r, oIx_t, oIx_l, oIx_s, oLen_t, oLen_l, oLen_c, oLen_s, oAbs_i, oInt_i, oInt_b, oMax2_i, oMin2_i, oGcd_i, oIter_t, oIter_l, oIter_c, oRng1_i, oRng2_i, oRng2G_i, oSl_t, oSl_l, oSl_c, sIsC, sIsi2, isT2, sAugS, enumL, oIsC_n, oIsC_b, oIsC_i, oIsC_s, oIsC_t, oIsC_l, oIsC_o, oIsi2_n, oIsi2_b, oIsi2_i, oIsi2_s, oIsi2_t, oIsi2_l, oComb_i, sCountM, sTru, sChain3, oTru_b, oTru_n, oTru_i, oTru_t, oTru_l, oIn_t, oIn_l, oNotIn_t, oNotIn_l, oMulT_t, oMul_l, oList_l, oList_t, oTuple_l, oTuple_t, oSumS_l, oSumS_t, oEnum_t, oEnum_l, oZip_t, oZip_l, oIsi_n, oIsi_b, oIsi_i, oIsi_s, oIsi_t, oIsi_l]
      have m1 : b * (n - 1) ≤ 20 * 1000 := Nat.mul_le_mul hb2 (by omega)
      have e1 : (b : Int) * ((n : Int) - 1) + (a : Int) = ((b * (n - 1) + a : Nat) : Int) := by
        rw [Int.natCast_add, Int.natCast_mul, Int.natCast_sub n1]
        rfl
      refine ⟨mul_ok (by omega) (by omega) (by omega) (by omega), ?_⟩
      rw [e1]
      refine sp_lowest (k := 5) hb (by omega) (by omega) ?_
      try dsimp only
      refine sp_marked_told (k := 2) hb hb2 ha n1 n2 ?_
      refine ⟨by decide, ?_⟩
      refine sp_same (k := 3) 2 SD_tfr ?_
      exact hI2 _ _ ⟨rfl, _, _, rfl⟩
    · rintro env vh ⟨z, x5, x11, rfl⟩
      exact hI _ _ ⟨c2, _, _, z, hc2, rfl⟩
  clear hc
  rintro env vh ⟨c, x5, x11, rfl, hc, rfl⟩
  refine seq_inv (fun env vh => vh = [c] ∧ env = eL ns (some (.int (b : Int))) (some (.int (a : Int))) (some (ruleD a b)) x5 none none none none none x11) ?_ ?_
  · intro nx hI
    dsimp only [eL, sEqO, sNeO, sIdxM, sIsXs, sBits, sRevT, oRevT_t, oShr_i, oShl_i, oBand_i, oBool_i, oBool_b, sRev, oZipM_t, oZipM_l, sPopA, sExn, sIsX, sCallN, sCallE, oRepr_one, sVar, sCst, sBin, sUn, sTB, sNotT, sAndT, sOrT, sAndV, sOrV, sNotV, sIfE, sNil, sCons, sTup, sLst, sCallB, sSeq, sSkip, sDrop, sRet, sRetN, sBrk, sCnt, sIf, sSet, gN, gsNil, gsCons, gT, sAsg, sFor, sWhile, sIt, sItA, sLc, sYes, sCall, sCallK, sMethK, sNewK, oview, sFld, sMeth, sNew, sPutNew, sPutOld, sPutL, sAug, sChain, sNoP, sPart, sSl, isT, sIsi, sApp, sRaise, sTry, exTry, ksAs, envAs, sXf, oMaxS_one, oMinS_one, look, wipeE, List.set, List.map, List.replicate, id, perm, List.filterMap, List.length_cons, List.length_nil, List.nil_append, List.cons_append, Nat.sub_self, Nat.reduceAdd, Nat.reduceSub, newL_f, newL_t, oAdd_i, oAdd_s, oAdd_t, oAdd_l, oMul_i, oSub_i, oFdiv_i, oMod_i, oPow_i, oLt_i, oLe_i, oGt_i, oGe_i, oNeg_i, oAddI_i, oEq_ii, oEq_ss, oEq_bb, oEq_nn, oEq_ni, oEq_in, oEq_ns, oEq_sn, oEq_is, oEq_si, oNe_ii, oNe_ss, oNe_bb, oIs_n, oIs_b, oIsNot_n, oIsNot_b, isNon_n, isNon_i, isNon_b, isNon_s, isNon_t, isNon_l, isNon_r, isBl_n, isBl_i, isBl_b, isBl_s, isBl_t, isBl_l, isBl_r, oIx_t, oIx_l, oIx_s, oLen_t, oLen_l, oLen_c, oLen_s, oAbs_i, oInt_i, oInt_b, oMax2_i, oMin2_i, oGcd_i, oIter_t, oIter_l, oIter_c, oRng1_i, oRng2_i, oRng2G_i, oSl_t, oSl_l, oSl_c, sIsC, sIsi2, isT2, sAugS, enumL, oIsC_n, oIsC_b, oIsC_i, oIsC_s, oIsC_t, oIsC_l, oIsC_o, oIsi2_n, oIsi2_b, oIsi2_i, oIsi2_s, oIsi2_t, oIsi2_l, oComb_i, sCountM, sTru, sChain3, oTru_b, oTru_n, oTru_i, oTru_t, oTru_l, oIn_t, oIn_l, oNotIn_t, oNotIn_l, oMulT_t, oMul_l, oList_l, oList_t, oTuple_l, oTuple_t, oSumS_l, oSumS_t, oEnum_t, oEnum_l, oZip_t, oZip_l, oIsi_n, oIsi_b, oIsi_i, oIsi_s, oIsi_t, oIsi_l]
    refine ⟨rfl, by decide, ?_⟩
    refine ⟨rfl, rfl, ?_⟩
    show callN T 6 i_Rule_mark [ruleD a b, .int ((7 : Nat) : Int)] [c] _ _
    refine sp_mark (k := 3) hb hb2 ha (by decide) (by decide) ?_
    try dsimp only [oRevT_t, oShr_i, oShl_i, oBand_i, oBool_i, oBool_b, oZipM_t, oZipM_l, oRepr_one, isT, oMaxS_one, oMinS_one, look, List.length_cons, List.length_nil, List.nil_append, List.cons_append, Nat.sub_self, newL_f, newL_t, oAdd_i, oAdd_s, oAdd_t, oAdd_l, oMul_i, oSub_i, oFdiv_i, oMod_i, oPow_i, oLt_i, oLe_i, oGt_i, oGe_i, oNeg_i, oAddI_i, oEq_ii, oEq_ss, oEq_bb, oEq_nn, oEq_ni, oEq_in, oEq_ns, oEq_sn, oEq_is, oEq_si, oNe_ii, oNe_ss, oNe_bb, oIs_n, oIs_b, oIsNot_n, oIsNot_b, isNon_n, isNon_i, isNon_b, isNon_s, isNon_t, isNon_l, isNon_r, isBl_n, isBl_i, isBl_b, isBl_s, isBl_t, isBl_l, isBl_r, oIx_t, oIx_l, oIx_s, oLen_t, oLen_l, oLen_c, oLen_s, oAbs_i, oInt_i, oInt_b, oMax2_i, oMin2_i, oGcd_i, oIter_t, oIter_l, oIter_c, oRng1_i, oRng2_i, oRng2G_i, oSl_t, oSl_l, oSl_c, oIsC_n, oIsC_b, oIsC_i, oIsC_s, oIsC_t, oIsC_l, oIsC_o, oIsi2_n, oIsi2_b, oIsi2_i, oIsi2_s, oIsi2_t, oIsi2_l, oComb_i, oTru_b, oTru_n, oTru_i, oTru_t, oTru_l, oIn_t, oIn_l, oNotIn_t, oNotIn_l, oMulT_t, oMul_l, oList_l, oList_t, oTuple_l, oTuple_t, oSumS_l, oSumS_t, oEnum_t, oEnum_l, oZip_t, oZip_l, oIsi_n, oIsi_b, oIsi_i, oIsi_s, oIsi_t, oIsi_l, List.set, List.length_cons, List.length_nil, Nat.reduceAdd]
    refine ⟨mul_ok (by omega) (by omega) (by omega) (by omega), ?_⟩
    have e1 : (b : Int) * 6 + (a : Int) = ((b * (7 - 1) + a : Nat) : Int) := by omega
    rw [e1]
    refine sp_lowest (k := 5) hb (by omega) (by omega) ?_
    refine sp_same_fr (k := 4) ?_
    exact hI _ _ ⟨rfl, rfl⟩
  rintro env vh ⟨z, rfl⟩
  subst vh
  refine seq_inv (fun env vh => ∃ (c : Cell) (x : D), vh = [c] ∧ PoolOk c ∧ WrX 1000 x ∧ env = eL ns (some (.int (b : Int))) (some (.int (a : Int))) (some (ruleD a b)) x5 (some x) none none none none x11) ?_ ?_
  · intro nx hI
    dsimp only [eL, sEqO, sNeO, sIdxM, sIsXs, sBits, sRevT, oRevT_t, oShr_i, oShl_i, oBand_i, oBool_i, oBool_b, sRev, oZipM_t, oZipM_l, sPopA, sExn, sIsX, sCallN, sCallE, oRepr_one, sVar, sCst, sBin, sUn, sTB, sNotT, sAndT, sOrT, sAndV, sOrV, sNotV, sIfE, sNil, sCons, sTup, sLst, sCallB, sSeq, sSkip, sDrop, sRet, sRetN, sBrk, sCnt, sIf, sSet, gN, gsNil, gsCons, gT, sAsg, sFor, sWhile, sIt, sItA, sLc, sYes, sCall, sCallK, sMethK, sNewK, oview, sFld, sMeth, sNew, sPutNew, sPutOld, sPutL, sAug, sChain, sNoP, sPart, sSl, isT, sIsi, sApp, sRaise, sTry, exTry, ksAs, envAs, sXf, oMaxS_one, oMinS_one, look, wipeE, List.set, List.map, List.replicate, id, perm, List.filterMap, List.length_cons, List.length_nil, List.nil_append, List.cons_append, Nat.sub_self, Nat.reduceAdd, Nat.reduceSub, newL_f, newL_t, oAdd_i, oAdd_s, oAdd_t, oAdd_l, oMul_i, oSub_i, oFdiv_i, oMod_i, oPow_i, oLt_i, oLe_i, oGt_i, oGe_i, oNeg_i, oAddI_i, oEq_ii, oEq_ss, oEq_bb, oEq_nn, oEq_ni, oEq_in, oEq_ns, oEq_sn, oEq_is, oEq_si, oNe_ii, oNe_ss, oNe_bb, oIs_n, oIs_b, oIsNot_n, oIsNot_b, isNon_n, isNon_i, isNon_b, isNon_s, isNon_t, isNon_l, isNon_r, isBl_n, isBl_i, isBl_b, isBl_s, isBl_t, isBl_l, isBl_r, oIx_t, oIx_l, oIx_s, oLen_t, oLen_l, oLen_c, oLen_s, oAbs_i, oInt_i, oInt_b, oMax2_i, oMin2_i, oGcd_i, oIter_t, oIter_l, oIter_c, oRng1_i, oRng2_i, oRng2G_i, oSl_t, oSl_l, oSl_c, sIsC, sIsi2, isT2, sAugS, enumL, oIsC_n, oIsC_b, oIsC_i, oIsC_s, oIsC_t, oIsC_l, oIsC_o, oIsi2_n, oIsi2_b, oIsi2_i, oIsi2_s, oIsi2_t, oIsi2_l, oComb_i, sCountM, sTru, sChain3, oTru_b, oTru_n, oTru_i, oTru_t, oTru_l, oIn_t, oIn_l, oNotIn_t, oNotIn_l, oMulT_t, oMul_l, oList_l, oList_t, oTuple_l, oTuple_t, oSumS_l, oSumS_t, oEnum_t, oEnum_l, oZip_t, oZip_l, oIsi_n, oIsi_b, oIsi_i, oIsi_s, oIsi_t, oIsi_l]
    refine sp_wrong (k := 4) (L := 1000) (by decide) hc fun x c1 hx hc1 => ?_
    exact hI _ _ ⟨c1, x, rfl, hc1, hx, rfl⟩
  clear hc
  rintro env vh ⟨c, x, rfl, hc, hx, rfl⟩
  refine seq_inv (fun env vh => vh = [c] ∧ env = eL ns (some (.int (b : Int))) (some (.int (a : Int))) (some (ruleD a b)) x5 (some x) none none none none x11) ?_ ?_
  · intro nx hI
    dsimp only [eL, sEqO, sNeO, sIdxM, sIsXs, sBits, sRevT, oRevT_t, oShr_i, oShl_i, oBand_i, oBool_i, oBool_b, sRev, oZipM_t, oZipM_l, sPopA, sExn, sIsX, sCallN, sCallE, oRepr_one, sVar, sCst, sBin, sUn, sTB, sNotT, sAndT, sOrT, sAndV, sOrV, sNotV, sIfE, sNil, sCons, sTup, sLst, sCallB, sSeq, sSkip, sDrop, sRet, sRetN, sBrk, sCnt, sIf, sSet, gN, gsNil, gsCons, gT, sAsg, sFor, sWhile, sIt, sItA, sLc, sYes, sCall, sCallK, sMethK, sNewK, oview, sFld, sMeth, sNew, sPutNew, sPutOld, sPutL, sAug, sChain, sNoP, sPart, sSl, isT, sIsi, sApp, sRaise, sTry, exTry, ksAs, envAs, sXf, oMaxS_one, oMinS_one, look, wipeE, List.set, List.map, List.replicate, id, perm, List.filterMap, List.length_cons, List.length_nil, List.nil_append, List.cons_append, Nat.sub_self, Nat.reduceAdd, Nat.reduceSub, newL_f, newL_t, oAdd_i, oAdd_s, oAdd_t, oAdd_l, oMul_i, oSub_i, oFdiv_i, oMod_i, oPow_i, oLt_i, oLe_i, oGt_i, oGe_i, oNeg_i, oAddI_i, oEq_ii, oEq_ss, oEq_bb, oEq_nn, oEq_ni, oEq_in, oEq_ns, oEq_sn, oEq_is, oEq_si, oNe_ii, oNe_ss, oNe_bb, oIs_n, oIs_b, oIsNot_n, oIsNot_b, isNon_n, isNon_i, isNon_b, isNon_s, isNon_t, isNon_l, isNon_r, isBl_n, isBl_i, isBl_b, isBl_s, isBl_t, isBl_l, isBl_r, oIx_t, oIx_l, oIx_s, oLen_t, oLen_l, oLen_c, oLen_s, oAbs_i, oInt_i, oInt_b, oMax2_i, oMin2_i, oGcd_i, oIter_t, oIter_l, oIter_c, oRng1_i, oRng2_i, oRng2G_i, oSl_t, oSl_l, oSl_c, sIsC, sIsi2, isT2, sAugS, enumL, oIsC_n, oIsC_b, oIsC_i, oIsC_s, oIsC_t, oIsC_l, oIsC_o, oIsi2_n, oIsi2_b, oIsi2_i, oIsi2_s, oIsi2_t, oIsi2_l, oComb_i, sCountM, sTru, sChain3, oTru_b, oTru_n, oTru_i, oTru_t, oTru_l, oIn_t, oIn_l, oNotIn_t, oNotIn_l, oMulT_t, oMul_l, oList_l, oList_t, oTuple_l, oTuple_t, oSumS_l, oSumS_t, oEnum_t, oEnum_l, oZip_t, oZip_l, oIsi_n, oIsi_b, oIsi_i, oIsi_s, oIsi_t, oIsi_l]
    refine sp_marked_no (k := 2) hx.p hx.l hx.f1 ?_
    refine ⟨by decide, ?_⟩
    refine sp_same (k := 2) 3 (SD_tw hx.s) ?_
    try dsimp only [Bool.not_true]
    refine sp_marked_no (k := 2) (x := .int 0) rfl (fun _ => by simp only [low]) (by decide) ?_
    refine ⟨by decide, ?_⟩
    refine sp_same (k := 2) 3 (SD_tw (x := .int 0) trivial) ?_
    exact hI _ _ ⟨rfl, rfl⟩
  rintro env vh ⟨z, rfl⟩
  subst vh
  refine seq_inv (fun env vh => ∃ (c : Cell) (u v : Nat), vh = [c] ∧ PoolOk c ∧ 1 ≤ v ∧ v ≤ 20 ∧ u ≤ v ∧ env = eL ns (some (.int (b : Int))) (some (.int (a : Int))) (some (ruleD a b)) x5 (some x) (some (fr u v)) none none none x11) ?_ ?_
  · intro nx hI
    dsimp only [eL, sEqO, sNeO, sIdxM, sIsXs, sBits, sRevT, oRevT_t, oShr_i, oShl_i, oBand_i, oBool_i, oBool_b, sRev, oZipM_t, oZipM_l, sPopA, sExn, sIsX, sCallN, sCallE, oRepr_one, sVar, sCst, sBin, sUn, sTB, sNotT, sAndT, sOrT, sAndV, sOrV, sNotV, sIfE, sNil, sCons, sTup, sLst, sCallB, sSeq, sSkip, sDrop, sRet, sRetN, sBrk, sCnt, sIf, sSet, gN, gsNil, gsCons, gT, sAsg, sFor, sWhile, sIt, sItA, sLc, sYes, sCall, sCallK, sMethK, sNewK, oview, sFld, sMeth, sNew, sPutNew, sPutOld, sPutL, sAug, sChain, sNoP, sPart, sSl, isT, sIsi, sApp, sRaise, sTry, exTry, ksAs, envAs, sXf, oMaxS_one, oMinS_one, look, wipeE, List.set, List.map, List.replicate, id, perm, List.filterMap, List.length_cons, List.length_nil, List.nil_append, List.cons_append, Nat.sub_self, Nat.reduceAdd, Nat.reduceSub, newL_f, newL_t, oAdd_i, oAdd_s, oAdd_t, oAdd_l, oMul_i, oSub_i, oFdiv_i, oMod_i, oPow_i, oLt_i, oLe_i, oGt_i, oGe_i, oNeg_i, oAddI_i, oEq_ii, oEq_ss, oEq_bb, oEq_nn, oEq_ni, oEq_in, oEq_ns, oEq_sn, oEq_is, oEq_si, oNe_ii, oNe_ss, oNe_bb, oIs_n, oIs_b, oIsNot_n, oIsNot_b, isNon_n, isNon_i, isNon_b, isNon_s, isNon_t, isNon_l, isNon_r, isBl_n, isBl_i, isBl_b, isBl_s, isBl_t, isBl_l, isBl_r, oIx_t, oIx_l, oIx_s, oLen_t, oLen_l, oLen_c, oLen_s, oAbs_i, oInt_i, oInt_b, oMax2_i, oMin2_i, oGcd_i, oIter_t, oIter_l, oIter_c, oRng1_i, oRng2_i, oRng2G_i, oSl_t, oSl_l, oSl_c, sIsC, sIsi2, isT2, sAugS, enumL, oIsC_n, oIsC_b, oIsC_i, oIsC_s, oIsC_t, oIsC_l, oIsC_o, oIsi2_n, oIsi2_b, oIsi2_i, oIsi2_s, oIsi2_t, oIsi2_l, oComb_i, sCountM, sTru, sChain3, oTru_b, oTru_n, oTru_i, oTru_t, oTru_l, oIn_t, oIn_l, oNotIn_t, oNotIn_l, oMulT_t, oMul_l, oList_l, oList_t, oTuple_l, oTuple_t, oSumS_l, oSumS_t, oEnum_t, oEnum_l, oZip_t, oZip_l, oIsi_n, oIsi_b, oIsi_i, oIsi_s, oIsi_t, oIsi_l]
    refine sp_second (k := 4) hb hb2 ha hc fun u v c1 h1 h2 h3 hc1 => ?_
    exact hI _ _ ⟨c1, u, v, rfl, hc1, h1, h2, h3, rfl⟩
  clear hc
  rintro env vh ⟨c, u, v, rfl, hc, hv1, hv2, huv, rfl⟩
  refine seq_inv (fun env vh => vh = [c] ∧ env = eL ns (some (.int (b : Int))) (some (.int (a : Int))) (some (ruleD a b)) x5 (some x) (some (fr u v)) (some (ruleD u v)) none none x11) ?_ ?_
  · intro nx hI
    dsimp only [eL, sEqO, sNeO, sIdxM, sIsXs, sBits, sRevT, oRevT_t, oShr_i, oShl_i, oBand_i, oBool_i, oBool_b, sRev, oZipM_t, oZipM_l, sPopA, sExn, sIsX, sCallN, sCallE, oRepr_one, sVar, sCst, sBin, sUn, sTB, sNotT, sAndT, sOrT, sAndV, sOrV, sNotV, sIfE, sNil, sCons, sTup, sLst, sCallB, sSeq, sSkip, sDrop, sRet, sRetN, sBrk, sCnt, sIf, sSet, gN, gsNil, gsCons, gT, sAsg, sFor, sWhile, sIt, sItA, sLc, sYes, sCall, sCallK, sMethK, sNewK, oview, sFld, sMeth, sNew, sPutNew, sPutOld, sPutL, sAug, sChain, sNoP, sPart, sSl, isT, sIsi, sApp, sRaise, sTry, exTry, ksAs, envAs, sXf, oMaxS_one, oMinS_one, look, wipeE, List.set, List.map, List.replicate, id, perm, List.filterMap, List.length_cons, List.length_nil, List.nil_append, List.cons_append, Nat.sub_self, Nat.reduceAdd, Nat.reduceSub, newL_f, newL_t, oAdd_i, oAdd_s, oAdd_t, oAdd_l, oMul_i, oSub_i, oFdiv_i, oMod_i, oPow_i, oLt_i, oLe_i, oGt_i, oGe_i, oNeg_i, oAddI_i, oEq_ii, oEq_ss, oEq_bb, oEq_nn, oEq_ni, oEq_in, oEq_ns, oEq_sn, oEq_is, oEq_si, oNe_ii, oNe_ss, oNe_bb, oIs_n, oIs_b, oIsNot_n, oIsNot_b, isNon_n, isNon_i, isNon_b, isNon_s, isNon_t, isNon_l, isNon_r, isBl_n, isBl_i, isBl_b, isBl_s, isBl_t, isBl_l, isBl_r, oIx_t, oIx_l, oIx_s, oLen_t, oLen_l, oLen_c, oLen_s, oAbs_i, oInt_i, oInt_b, oMax2_i, oMin2_i, oGcd_i, oIter_t, oIter_l, oIter_c, oRng1_i, oRng2_i, oRng2G_i, oSl_t, oSl_l, oSl_c, sIsC, sIsi2, isT2, sAugS, enumL, oIsC_n, oIsC_b, oIsC_i, oIsC_s, oIsC_t, oIsC_l, oIsC_o, oIsi2_n, oIsi2_b, oIsi2_i, oIsi2_s, oIsi2_t, oIsi2_l, oComb_i, sCountM, sTru, sChain3, oTru_b, oTru_n, oTru_i, oTru_t, oTru_l, oIn_t, oIn_l, oNotIn_t, oNotIn_l, oMulT_t, oMul_l, oList_l, oList_t, oTuple_l, oTuple_t, oSumS_l, oSumS_t, oEnum_t, oEnum_l, oZip_t, oZip_l, oIsi_n, oIsi_b, oIsi_i, oIsi_s, oIsi_t, oIsi_l]
    refine ⟨_, at0, _, at1, ?_⟩
    show callN T 6 i_RuleU_initU [.ref [c].length, .int u, .int v] ([c] ++ [.ins "Rule" [] []]) _ _
    refine sp_rule (k := 2) hv1 hv2 huv ?_
    refine ⟨rfl, [.ins "Rule" ["part"] [frL u v]], ruleD u v, rfl, .ins (Nat.le_refl _) one_0 (.cons (.low low_two) .nil), ?_⟩
    exact hI _ _ ⟨rfl, rfl⟩
  rintro env vh ⟨z, rfl⟩
  subst vh
  refine seq_inv (fun env vh => vh = [c] ∧ env = eL ns (some (.int (b : Int))) (some (.int (a : Int))) (some (ruleD a b)) x5 (some x) (some (fr u v)) (some (ruleD u v)) none none x11) ?_ ?_
  · intro nx hI
    dsimp only [eL, sEqO, sNeO, sIdxM, sIsXs, sBits, sRevT, oRevT_t, oShr_i, oShl_i, oBand_i, oBool_i, oBool_b, sRev, oZipM_t, oZipM_l, sPopA, sExn, sIsX, sCallN, sCallE, oRepr_one, sVar, sCst, sBin, sUn, sTB, sNotT, sAndT, sOrT, sAndV, sOrV, sNotV, sIfE, sNil, sCons, sTup, sLst, sCallB, sSeq, sSkip, sDrop, sRet, sRetN, sBrk, sCnt, sIf, sSet, gN, gsNil, gsCons, gT, sAsg, sFor, sWhile, sIt, sItA, sLc, sYes, sCall, sCallK, sMethK, sNewK, oview, sFld, sMeth, sNew, sPutNew, sPutOld, sPutL, sAug, sChain, sNoP, sPart, sSl, isT, sIsi, sApp, sRaise, sTry, exTry, ksAs, envAs, sXf, oMaxS_one, oMinS_one, look, wipeE, List.set, List.map, List.replicate, id, perm, List.filterMap, List.length_cons, List.length_nil, List.nil_append, List.cons_append, Nat.sub_self, Nat.reduceAdd, Nat.reduceSub, newL_f, newL_t, oAdd_i, oAdd_s, oAdd_t, oAdd_l, oMul_i, oSub_i, oFdiv_i, oMod_i, oPow_i, oLt_i, oLe_i, oGt_i, oGe_i, oNeg_i, oAddI_i, oEq_ii, oEq_ss, oEq_bb, oEq_nn, oEq_ni, oEq_in, oEq_ns, oEq_sn, oEq_is, oEq_si, oNe_ii, oNe_ss, oNe_bb, oIs_n, oIs_b, oIsNot_n, oIsNot_b, isNon_n, isNon_i, isNon_b, isNon_s, isNon_t, isNon_l, isNon_r, isBl_n, isBl_i, isBl_b, isBl_s, isBl_t, isBl_l, isBl_r, oIx_t, oIx_l, oIx_s, oLen_t, oLen_l, oLen_c, oLen_s, oAbs_i, oInt_i, oInt_b, oMax2_i, oMin2_i, oGcd_i, oIter_t, oIter_l, oIter_c, oRng1_i, oRng2_i, oRng2G_i, oSl_t, oSl_l, oSl_c, sIsC, sIsi2, isT2, sAugS, enumL, oIsC_n, oIsC_b, oIsC_i, oIsC_s, oIsC_t, oIsC_l, oIsC_o, oIsi2_n, oIsi2_b, oIsi2_i, oIsi2_s, oIsi2_t, oIsi2_l, oComb_i, sCountM, sTru, sChain3, oTru_b, oTru_n, oTru_i, oTru_t, oTru_l, oIn_t, oIn_l, oNotIn_t, oNotIn_l, oMulT_t, oMul_l, oList_l, oList_t, oTuple_l, oTuple_t, oSumS_l, oSumS_t, oEnum_t, oEnum_l, oZip_t, oZip_l, oIsi_n, oIsi_b, oIsi_i, oIsi_s, oIsi_t, oIsi_l]
    refine ⟨_, at1, mul_ok (by omega) (by omega) (by omega) (by omega), _, at0, mul_ok (by omega) (by omega) (by omega) (by omega), ?_⟩
    try dsimp only [oRevT_t, oShr_i, oShl_i, oBand_i, oBool_i, oBool_b, oZipM_t, oZipM_l, oRepr_one, isT, oMaxS_one, oMinS_one, look, List.length_cons, List.length_nil, List.nil_append, List.cons_append, Nat.sub_self, newL_f, newL_t, oAdd_i, oAdd_s, oAdd_t, oAdd_l, oMul_i, oSub_i, oFdiv_i, oMod_i, oPow_i, oLt_i, oLe_i, oGt_i, oGe_i, oNeg_i, oAddI_i, oEq_ii, oEq_ss, oEq_bb, oEq_nn, oEq_ni, oEq_in, oEq_ns, oEq_sn, oEq_is, oEq_si, oNe_ii, oNe_ss, oNe_bb, oIs_n, oIs_b, oIsNot_n, oIsNot_b, isNon_n, isNon_i, isNon_b, isNon_s, isNon_t, isNon_l, isNon_r, isBl_n, isBl_i, isBl_b, isBl_s, isBl_t, isBl_l, isBl_r, oIx_t, oIx_l, oIx_s, oLen_t, oLen_l, oLen_c, oLen_s, oAbs_i, oInt_i, oInt_b, oMax2_i, oMin2_i, oGcd_i, oIter_t, oIter_l, oIter_c, oRng1_i, oRng2_i, oRng2G_i, oSl_t, oSl_l, oSl_c, oIsC_n, oIsC_b, oIsC_i, oIsC_s, oIsC_t, oIsC_l, oIsC_o, oIsi2_n, oIsi2_b, oIsi2_i, oIsi2_s, oIsi2_t, oIsi2_l, oComb_i, oTru_b, oTru_n, oTru_i, oTru_t, oTru_l, oIn_t, oIn_l, oNotIn_t, oNotIn_l, oMulT_t, oMul_l, oList_l, oList_t, oTuple_l, oTuple_t, oSumS_l, oSumS_t, oEnum_t, oEnum_l, oZip_t, oZip_l, oIsi_n, oIsi_b, oIsi_i, oIsi_s, oIsi_t, oIsi_l, List.set, List.length_cons, List.length_nil, Nat.reduceAdd]
    rw [← Int.natCast_mul, ← Int.natCast_mul, nat_eq]
    refine sp_equals (k := 4) hb hv1 ?_
    exact hI _ _ ⟨rfl, rfl⟩
  rintro env vh ⟨z, rfl⟩
  subst vh
  refine seq_inv (fun env vh => vh = [c] ∧ ∃ x9, env = eL ns (some (.int (b : Int))) (some (.int (a : Int))) (some (ruleD a b)) x5 (some x) (some (fr u v)) (some (ruleD u v)) x9 none x11) ?_ ?_
  · intro nx hI
    dsimp only [eL, sFor, sIt, sLst, sTup, sFld, sCons, sNil, sCst, sCall, sBin, sVar, look, oRevT_t, oShr_i, oShl_i, oBand_i, oBool_i, oBool_b, oZipM_t, oZipM_l, oRepr_one, isT, oMaxS_one, oMinS_one, look, List.length_cons, List.length_nil, List.nil_append, List.cons_append, Nat.sub_self, newL_f, newL_t, oAdd_i, oAdd_s, oAdd_t, oAdd_l, oMul_i, oSub_i, oFdiv_i, oMod_i, oPow_i, oLt_i, oLe_i, oGt_i, oGe_i, oNeg_i, oAddI_i, oEq_ii, oEq_ss, oEq_bb, oEq_nn, oEq_ni, oEq_in, oEq_ns, oEq_sn, oEq_is, oEq_si, oNe_ii, oNe_ss, oNe_bb, oIs_n, oIs_b, oIsNot_n, oIsNot_b, isNon_n, isNon_i, isNon_b, isNon_s, isNon_t, isNon_l, isNon_r, isBl_n, isBl_i, isBl_b, isBl_s, isBl_t, isBl_l, isBl_r, oIx_t, oIx_l, oIx_s, oLen_t, oLen_l, oLen_c, oLen_s, oAbs_i, oInt_i, oInt_b, oMax2_i, oMin2_i, oGcd_i, oIter_t, oIter_l, oIter_c, oRng1_i, oRng2_i, oRng2G_i, oSl_t, oSl_l, oSl_c, oIsC_n, oIsC_b, oIsC_i, oIsC_s, oIsC_t, oIsC_l, oIsC_o, oIsi2_n, oIsi2_b, oIsi2_i, oIsi2_s, oIsi2_t, oIsi2_l, oComb_i, oTru_b, oTru_n, oTru_i, oTru_t, oTru_l, oIn_t, oIn_l, oNotIn_t, oNotIn_l, oMulT_t, oMul_l, oList_l, oList_t, oTuple_l, oTuple_t, oSumS_l, oSumS_t, oEnum_t, oEnum_l, oZip_t, oZip_l, oIsi_n, oIsi_b, oIsi_i, oIsi_s, oIsi_t, oIsi_l, List.set, List.length_cons, List.length_nil, Nat.reduceAdd]
    refine ⟨rfl, rfl, _, rfl, by decide, by decide, by decide, ?_⟩
    refine forL_inv (fun i env vh => vh = [c] ∧ ∃ x9, env = eL ns (some (.int (b : Int))) (some (.int (a : Int))) (some (ruleD a b)) x5 (some x) (some (fr u v)) (some (ruleD u v)) x9 none x11) (fun _ _ _ _ => trivial) ?_ ?_ ⟨rfl, none, rfl⟩
    · rintro i e env vh nx2 he ⟨z, x9, rfl⟩ hI2
      subst vh
      have hm := List.mem_of_getElem? he
      obtain ⟨nr, ot⟩ : NoRule e ∧ ∀ vh, othD "Rule" vh e = true := by
        simp only [List.mem_cons, List.not_mem_nil, or_false] at hm
        rcases hm with rfl | rfl | rfl | rfl | rfl | rfl | rfl | rfl
        · exact ⟨noR_non, fun _ => rfl⟩
        · exact ⟨noR_tup, fun _ => rfl⟩
        · exact ⟨noR_tup, fun _ => rfl⟩
        · exact ⟨noR_int, fun _ => rfl⟩
        · exact ⟨noR_int, fun _ => rfl⟩
        · exact ⟨noR_str, fun _ => rfl⟩
        · exact ⟨noR_lst, fun _ => rfl⟩
        · exact ⟨noR_bl, fun _ => rfl⟩
      dsimp only [eL, gN, List.set, sEqO, sNeO, sIdxM, sIsXs, sBits, sRevT, oRevT_t, oShr_i, oShl_i, oBand_i, oBool_i, oBool_b, sRev, oZipM_t, oZipM_l, sPopA, sExn, sIsX, sCallN, sCallE, oRepr_one, sVar, sCst, sBin, sUn, sTB, sNotT, sAndT, sOrT, sAndV, sOrV, sNotV, sIfE, sNil, sCons, sTup, sLst, sCallB, sSeq, sSkip, sDrop, sRet, sRetN, sBrk, sCnt, sIf, sSet, gN, gsNil, gsCons, gT, sAsg, sFor, sWhile, sIt, sItA, sLc, sYes, sCall, sCallK, sMethK, sNewK, oview, sFld, sMeth, sNew, sPutNew, sPutOld, sPutL, sAug, sChain, sNoP, sPart, sSl, isT, sIsi, sApp, sRaise, sTry, exTry, ksAs, envAs, sXf, oMaxS_one, oMinS_one, look, wipeE, List.set, List.map, List.replicate, id, perm, List.filterMap, List.length_cons, List.length_nil, List.nil_append, List.cons_append, Nat.sub_self, Nat.reduceAdd, Nat.reduceSub, newL_f, newL_t, oAdd_i, oAdd_s, oAdd_t, oAdd_l, oMul_i, oSub_i, oFdiv_i, oMod_i, oPow_i, oLt_i, oLe_i, oGt_i, oGe_i, oNeg_i, oAddI_i, oEq_ii, oEq_ss, oEq_bb, oEq_nn, oEq_ni, oEq_in, oEq_ns, oEq_sn, oEq_is, oEq_si, oNe_ii, oNe_ss, oNe_bb, oIs_n, oIs_b, oIsNot_n, oIsNot_b, isNon_n, isNon_i, isNon_b, isNon_s, isNon_t, isNon_l, isNon_r, isBl_n, isBl_i, isBl_b, isBl_s, isBl_t, isBl_l, isBl_r, oIx_t, oIx_l, oIx_s, oLen_t, oLen_l, oLen_c, oLen_s, oAbs_i, oInt_i, oInt_b, oMax2_i, oMin2_i, oGcd_i, oIter_t, oIter_l, oIter_c, oRng1_i, oRng2_i, oRng2G_i, oSl_t, oSl_l, oSl_c, sIsC, sIsi2, isT2, sAugS, enumL, oIsC_n, oIsC_b, oIsC_i, oIsC_s, oIsC_t, oIsC_l, oIsC_o, oIsi2_n, oIsi2_b, oIsi2_i, oIsi2_s, oIsi2_t, oIsi2_l, oComb_i, sCountM, sTru, sChain3, oTru_b, oTru_n, oTru_i, oTru_t, oTru_l, oIn_t, oIn_l, oNotIn_t, oNotIn_l, oMulT_t, oMul_l, oList_l, oList_t, oTuple_l, oTuple_t, oSumS_l, oSumS_t, oEnum_t, oEnum_l, oZip_t, oZip_l, oIsi_n, oIsi_b, oIsi_i, oIsi_s, oIsi_t, oIsi_l]
      refine ⟨⟨rfl, ot _⟩, sp_eq_no (k := 5) nr ?_⟩
      refine sp_same_bl (k := 5) ?_
      try dsimp only [Bool.not_true]
      refine ⟨⟨rfl, ot _⟩, sp_eq_no (k := 5) nr ?_⟩
      try dsimp only [Bool.not_false]
      refine sp_same_bl (k := 5) ?_
      exact hI2 _ _ ⟨rfl, _, rfl⟩
    · rintro env vh ⟨z, x9, rfl⟩
      exact hI _ _ ⟨z, _, rfl⟩
  rintro env vh ⟨z, x9, rfl⟩
  subst vh
  refine seq_inv (fun env vh => ∃ (c : Cell) (y : D), vh = [c] ∧ PoolOk c ∧ WrX 20 y ∧ env = eL ns (some (.int (b : Int))) (some (.int (a : Int))) (some (ruleD a b)) x5 (some x) (some (fr u v)) (some (ruleD u v)) x9 (some y) x11) ?_ ?_
  · intro nx hI
    dsimp only [eL, sEqO, sNeO, sIdxM, sIsXs, sBits, sRevT, oRevT_t, oShr_i, oShl_i, oBand_i, oBool_i, oBool_b, sRev, oZipM_t, oZipM_l, sPopA, sExn, sIsX, sCallN, sCallE, oRepr_one, sVar, sCst, sBin, sUn, sTB, sNotT, sAndT, sOrT, sAndV, sOrV, sNotV, sIfE, sNil, sCons, sTup, sLst, sCallB, sSeq, sSkip, sDrop, sRet, sRetN, sBrk, sCnt, sIf, sSet, gN, gsNil, gsCons, gT, sAsg, sFor, sWhile, sIt, sItA, sLc, sYes, sCall, sCallK, sMethK, sNewK, oview, sFld, sMeth, sNew, sPutNew, sPutOld, sPutL, sAug, sChain, sNoP, sPart, sSl, isT, sIsi, sApp, sRaise, sTry, exTry, ksAs, envAs, sXf, oMaxS_one, oMinS_one, look, wipeE, List.set, List.map, List.replicate, id, perm, List.filterMap, List.length_cons, List.length_nil, List.nil_append, List.cons_append, Nat.sub_self, Nat.reduceAdd, Nat.reduceSub, newL_f, newL_t, oAdd_i, oAdd_s, oAdd_t, oAdd_l, oMul_i, oSub_i, oFdiv_i, oMod_i, oPow_i, oLt_i, oLe_i, oGt_i, oGe_i, oNeg_i, oAddI_i, oEq_ii, oEq_ss, oEq_bb, oEq_nn, oEq_ni, oEq_in, oEq_ns, oEq_sn, oEq_is, oEq_si, oNe_ii, oNe_ss, oNe_bb, oIs_n, oIs_b, oIsNot_n, oIsNot_b, isNon_n, isNon_i, isNon_b, isNon_s, isNon_t, isNon_l, isNon_r, isBl_n, isBl_i, isBl_b, isBl_s, isBl_t, isBl_l, isBl_r, oIx_t, oIx_l, oIx_s, oLen_t, oLen_l, oLen_c, oLen_s, oAbs_i, oInt_i, oInt_b, oMax2_i, oMin2_i, oGcd_i, oIter_t, oIter_l, oIter_c, oRng1_i, oRng2_i, oRng2G_i, oSl_t, oSl_l, oSl_c, sIsC, sIsi2, isT2, sAugS, enumL, oIsC_n, oIsC_b, oIsC_i, oIsC_s, oIsC_t, oIsC_l, oIsC_o, oIsi2_n, oIsi2_b, oIsi2_i, oIsi2_s, oIsi2_t, oIsi2_l, oComb_i, sCountM, sTru, sChain3, oTru_b, oTru_n, oTru_i, oTru_t, oTru_l, oIn_t, oIn_l, oNotIn_t, oNotIn_l, oMulT_t, oMul_l, oList_l, oList_t, oTuple_l, oTuple_t, oSumS_l, oSumS_t, oEnum_t, oEnum_l, oZip_t, oZip_l, oIsi_n, oIsi_b, oIsi_i, oIsi_s, oIsi_t, oIsi_l]
    refine sp_wrong (k := 4) (L := 20) (by decide) hc fun y c1 hy hc1 => ?_
    exact hI _ _ ⟨c1, y, rfl, hc1, hy, rfl⟩
  clear hc
  rintro env vh ⟨c, y, rfl, hc, hy, rfl⟩
  have bot : ∀ {x : D} {vh : VH} {kd0 : KD} {kx0 : KX}, kx0 ⟨"InvalidRule", ["part"], [.str "bottom"]⟩ (vh ++ [.ins "Rule" [] []]) → callN T 5 i_RuleU_initU [.ref vh.length, x, y] (vh ++ [.ins "Rule" [] []]) kx0 kd0 := fun {x vh kd0 kx0} z => sp_rule_bottom (k := 1) hy.p hy.f1 z
  refine seq_inv (fun env vh => vh = [c] ∧ env = eL ns (some (.int (b : Int))) (some (.int (a : Int))) (some (ruleD a b)) x5 (some x) (some (fr u v)) (some (ruleD u v)) x9 (some y) x11) ?_ ?_
  · intro nx hI
    dsimp only [eL, sEqO, sNeO, sIdxM, sIsXs, sBits, sRevT, oRevT_t, oShr_i, oShl_i, oBand_i, oBool_i, oBool_b, sRev, oZipM_t, oZipM_l, sPopA, sExn, sIsX, sCallN, sCallE, oRepr_one, sVar, sCst, sBin, sUn, sTB, sNotT, sAndT, sOrT, sAndV, sOrV, sNotV, sIfE, sNil, sCons, sTup, sLst, sCallB, sSeq, sSkip, sDrop, sRet, sRetN, sBrk, sCnt, sIf, sSet, gN, gsNil, gsCons, gT, sAsg, sFor, sWhile, sIt, sItA, sLc, sYes, sCall, sCallK, sMethK, sNewK, oview, sFld, sMeth, sNew, sPutNew, sPutOld, sPutL, sAug, sChain, sNoP, sPart, sSl, isT, sIsi, sApp, sRaise, sTry, exTry, ksAs, envAs, sXf, oMaxS_one, oMinS_one, look, wipeE, List.set, List.map, List.replicate, id, perm, List.filterMap, List.length_cons, List.length_nil, List.nil_append, List.cons_append, Nat.sub_self, Nat.reduceAdd, Nat.reduceSub, newL_f, newL_t, oAdd_i, oAdd_s, oAdd_t, oAdd_l, oMul_i, oSub_i, oFdiv_i, oMod_i, oPow_i, oLt_i, oLe_i, oGt_i, oGe_i, oNeg_i, oAddI_i, oEq_ii, oEq_ss, oEq_bb, oEq_nn, oEq_ni, oEq_in, oEq_ns, oEq_sn, oEq_is, oEq_si, oNe_ii, oNe_ss, oNe_bb, oIs_n, oIs_b, oIsNot_n, oIsNot_b, isNon_n, isNon_i, isNon_b, isNon_s, isNon_t, isNon_l, isNon_r, isBl_n, isBl_i, isBl_b, isBl_s, isBl_t, isBl_l, isBl_r, oIx_t, oIx_l, oIx_s, oLen_t, oLen_l, oLen_c, oLen_s, oAbs_i, oInt_i, oInt_b, oMax2_i, oMin2_i, oGcd_i, oIter_t, oIter_l, oIter_c, oRng1_i, oRng2_i, oRng2G_i, oSl_t, oSl_l, oSl_c, sIsC, sIsi2, isT2, sAugS, enumL, oIsC_n, oIsC_b, oIsC_i, oIsC_s, oIsC_t, oIsC_l, oIsC_o, oIsi2_n, oIsi2_b, oIsi2_i, oIsi2_s, oIsi2_t, oIsi2_l, oComb_i, sCountM, sTru, sChain3, oTru_b, oTru_n, oTru_i, oTru_t, oTru_l, oIn_t, oIn_l, oNotIn_t, oNotIn_l, oMulT_t, oMul_l, oList_l, oList_t, oTuple_l, oTuple_t, oSumS_l, oSumS_t, oEnum_t, oEnum_l, oZip_t, oZip_l, oIsi_n, oIsi_b, oIsi_i, oIsi_s, oIsi_t, oIsi_l]
    refine sp_made_no (k := 1) (p := "bottom") bot ?_
    refine ⟨by decide, ?_⟩
    refine sp_same (k := 4) 1 SD_ts ?_
    exact hI _ _ ⟨rfl, rfl⟩
  rintro env vh ⟨z, rfl⟩
  subst vh
  refine seq_inv (fun env vh => vh = [c] ∧ env = eL ns (some (.int (b : Int))) (some (.int (a : Int))) (some (ruleD a b)) x5 (some x) (some (fr u v)) (some (ruleD u v)) x9 (some y) x11) ?_ ?_
  · intro nx hI
    dsimp only [eL, sEqO, sNeO, sIdxM, sIsXs, sBits, sRevT, oRevT_t, oShr_i, oShl_i, oBand_i, oBool_i, oBool_b, sRev, oZipM_t, oZipM_l, sPopA, sExn, sIsX, sCallN, sCallE, oRepr_one, sVar, sCst, sBin, sUn, sTB, sNotT, sAndT, sOrT, sAndV, sOrV, sNotV, sIfE, sNil, sCons, sTup, sLst, sCallB, sSeq, sSkip, sDrop, sRet, sRetN, sBrk, sCnt, sIf, sSet, gN, gsNil, gsCons, gT, sAsg, sFor, sWhile, sIt, sItA, sLc, sYes, sCall, sCallK, sMethK, sNewK, oview, sFld, sMeth, sNew, sPutNew, sPutOld, sPutL, sAug, sChain, sNoP, sPart, sSl, isT, sIsi, sApp, sRaise, sTry, exTry, ksAs, envAs, sXf, oMaxS_one, oMinS_one, look, wipeE, List.set, List.map, List.replicate, id, perm, List.filterMap, List.length_cons, List.length_nil, List.nil_append, List.cons_append, Nat.sub_self, Nat.reduceAdd, Nat.reduceSub, newL_f, newL_t, oAdd_i, oAdd_s, oAdd_t, oAdd_l, oMul_i, oSub_i, oFdiv_i, oMod_i, oPow_i, oLt_i, oLe_i, oGt_i, oGe_i, oNeg_i, oAddI_i, oEq_ii, oEq_ss, oEq_bb, oEq_nn, oEq_ni, oEq_in, oEq_ns, oEq_sn, oEq_is, oEq_si, oNe_ii, oNe_ss, oNe_bb, oIs_n, oIs_b, oIsNot_n, oIsNot_b, isNon_n, isNon_i, isNon_b, isNon_s, isNon_t, isNon_l, isNon_r, isBl_n, isBl_i, isBl_b, isBl_s, isBl_t, isBl_l, isBl_r, oIx_t, oIx_l, oIx_s, oLen_t, oLen_l, oLen_c, oLen_s, oAbs_i, oInt_i, oInt_b, oMax2_i, oMin2_i, oGcd_i, oIter_t, oIter_l, oIter_c, oRng1_i, oRng2_i, oRng2G_i, oSl_t, oSl_l, oSl_c, sIsC, sIsi2, isT2, sAugS, enumL, oIsC_n, oIsC_b, oIsC_i, oIsC_s, oIsC_t, oIsC_l, oIsC_o, oIsi2_n, oIsi2_b, oIsi2_i, oIsi2_s, oIsi2_t, oIsi2_l, oComb_i, sCountM, sTru, sChain3, oTru_b, oTru_n, oTru_i, oTru_t, oTru_l, oIn_t, oIn_l, oNotIn_t, oNotIn_l, oMulT_t, oMul_l, oList_l, oList_t, oTuple_l, oTuple_t, oSumS_l, oSumS_t, oEnum_t, oEnum_l, oZip_t, oZip_l, oIsi_n, oIsi_b, oIsi_i, oIsi_s, oIsi_t, oIsi_l]
    refine sp_made_no (k := 1) (p := "bottom") (fun {kd0 kx0} z => sp_rule_bottom (k := 1) (y := .int 0) rfl (by decide) z) ?_
    refine ⟨by decide, ?_⟩
    refine sp_same (k := 4) 1 SD_ts ?_
    exact hI _ _ ⟨rfl, rfl⟩
  rintro env vh ⟨z, rfl⟩
  subst vh
  refine seq_inv (fun env vh => ∃ c, vh = [c] ∧ PoolOk c ∧ env = eL ns (some (.int (b : Int))) (some (.int (a : Int))) (some (ruleD a b)) x5 (some x) (some (fr u v)) (some (ruleD u v)) x9 (some y) x11) ?_ ?_
  · intro nx hI
    dsimp only [eL, sEqO, sNeO, sIdxM, sIsXs, sBits, sRevT, oRevT_t, oShr_i, oShl_i, oBand_i, oBool_i, oBool_b, sRev, oZipM_t, oZipM_l, sPopA, sExn, sIsX, sCallN, sCallE, oRepr_one, sVar, sCst, sBin, sUn, sTB, sNotT, sAndT, sOrT, sAndV, sOrV, sNotV, sIfE, sNil, sCons, sTup, sLst, sCallB, sSeq, sSkip, sDrop, sRet, sRetN, sBrk, sCnt, sIf, sSet, gN, gsNil, gsCons, gT, sAsg, sFor, sWhile, sIt, sItA, sLc, sYes, sCall, sCallK, sMethK, sNewK, oview, sFld, sMeth, sNew, sPutNew, sPutOld, sPutL, sAug, sChain, sNoP, sPart, sSl, isT, sIsi, sApp, sRaise, sTry, exTry, ksAs, envAs, sXf, oMaxS_one, oMinS_one, look, wipeE, List.set, List.map, List.replicate, id, perm, List.filterMap, List.length_cons, List.length_nil, List.nil_append, List.cons_append, Nat.sub_self, Nat.reduceAdd, Nat.reduceSub, newL_f, newL_t, oAdd_i, oAdd_s, oAdd_t, oAdd_l, oMul_i, oSub_i, oFdiv_i, oMod_i, oPow_i, oLt_i, oLe_i, oGt_i, oGe_i, oNeg_i, oAddI_i, oEq_ii, oEq_ss, oEq_bb, oEq_nn, oEq_ni, oEq_in, oEq_ns, oEq_sn, oEq_is, oEq_si, oNe_ii, oNe_ss, oNe_bb, oIs_n, oIs_b, oIsNot_n, oIsNot_b, isNon_n, isNon_i, isNon_b, isNon_s, isNon_t, isNon_l, isNon_r, isBl_n, isBl_i, isBl_b, isBl_s, isBl_t, isBl_l, isBl_r, oIx_t, oIx_l, oIx_s, oLen_t, oLen_l, oLen_c, oLen_s, oAbs_i, oInt_i, oInt_b, oMax2_i, oMin2_i, oGcd_i, oIter_t, oIter_l, oIter_c, oRng1_i, oRng2_i, oRng2G_i, oSl_t, oSl_l, oSl_c, sIsC, sIsi2, isT2, sAugS, enumL, oIsC_n, oIsC_b, oIsC_i, oIsC_s, oIsC_t, oIsC_l, oIsC_o, oIsi2_n, oIsi2_b, oIsi2_i, oIsi2_s, oIsi2_t, oIsi2_l, oComb_i, sCountM, sTru, sChain3, oTru_b, oTru_n, oTru_i, oTru_t, oTru_l, oIn_t, oIn_l, oNotIn_t, oNotIn_l, oMulT_t, oMul_l, oList_l, oList_t, oTuple_l, oTuple_t, oSumS_l, oSumS_t, oEnum_t, oEnum_l, oZip_t, oZip_l, oIsi_n, oIsi_b, oIsi_i, oIsi_s, oIsi_t, oIsi_l]
    refine sp_wrong (k := 4) (L := b) (by omega) hc fun w c1 hw hc1 => ?_
    refine sp_made_no (k := 1) (p := "bottom") bot ?_
    refine ⟨by decide, ?_⟩
    refine sp_same (k := 4) 1 SD_ts ?_
    exact hI _ _ ⟨c1, rfl, hc1, rfl⟩
  clear hc
  rintro env vh ⟨c, rfl, hc, rfl⟩
  refine seq_inv (fun env vh => ∃ c, vh = [c] ∧ PoolOk c ∧ env = eL ns (some (.int (b : Int))) (some (.int (a : Int))) (some (ruleD a b)) x5 (some x) (some (fr u v)) (some (ruleD u v)) x9 (some y) x11) ?_ ?_
  · intro nx hI
    dsimp only [eL, sEqO, sNeO, sIdxM, sIsXs, sBits, sRevT, oRevT_t, oShr_i, oShl_i, oBand_i, oBool_i, oBool_b, sRev, oZipM_t, oZipM_l, sPopA, sExn, sIsX, sCallN, sCallE, oRepr_one, sVar, sCst, sBin, sUn, sTB, sNotT, sAndT, sOrT, sAndV, sOrV, sNotV, sIfE, sNil, sCons, sTup, sLst, sCallB, sSeq, sSkip, sDrop, sRet, sRetN, sBrk, sCnt, sIf, sSet, gN, gsNil, gsCons, gT, sAsg, sFor, sWhile, sIt, sItA, sLc, sYes, sCall, sCallK, sMethK, sNewK, oview, sFld, sMeth, sNew, sPutNew, sPutOld, sPutL, sAug, sChain, sNoP, sPart, sSl, isT, sIsi, sApp, sRaise, sTry, exTry, ksAs, envAs, sXf, oMaxS_one, oMinS_one, look, wipeE, List.set, List.map, List.replicate, id, perm, List.filterMap, List.length_cons, List.length_nil, List.nil_append, List.cons_append, Nat.sub_self, Nat.reduceAdd, Nat.reduceSub, newL_f, newL_t, oAdd_i, oAdd_s, oAdd_t, oAdd_l, oMul_i, oSub_i, oFdiv_i, oMod_i, oPow_i, oLt_i, oLe_i, oGt_i, oGe_i, oNeg_i, oAddI_i, oEq_ii, oEq_ss, oEq_bb, oEq_nn, oEq_ni, oEq_in, oEq_ns, oEq_sn, oEq_is, oEq_si, oNe_ii, oNe_ss, oNe_bb, oIs_n, oIs_b, oIsNot_n, oIsNot_b, isNon_n, isNon_i, isNon_b, isNon_s, isNon_t, isNon_l, isNon_r, isBl_n, isBl_i, isBl_b, isBl_s, isBl_t, isBl_l, isBl_r, oIx_t, oIx_l, oIx_s, oLen_t, oLen_l, oLen_c, oLen_s, oAbs_i, oInt_i, oInt_b, oMax2_i, oMin2_i, oGcd_i, oIter_t, oIter_l, oIter_c, oRng1_i, oRng2_i, oRng2G_i, oSl_t, oSl_l, oSl_c, sIsC, sIsi2, isT2, sAugS, enumL, oIsC_n, oIsC_b, oIsC_i, oIsC_s, oIsC_t, oIsC_l, oIsC_o, oIsi2_n, oIsi2_b, oIsi2_i, oIsi2_s, oIsi2_t, oIsi2_l, oComb_i, sCountM, sTru, sChain3, oTru_b, oTru_n, oTru_i, oTru_t, oTru_l, oIn_t, oIn_l, oNotIn_t, oNotIn_l, oMulT_t, oMul_l, oList_l, oList_t, oTuple_l, oTuple_t, oSumS_l, oSumS_t, oEnum_t, oEnum_l, oZip_t, oZip_l, oIsi_n, oIsi_b, oIsi_i, oIsi_s, oIsi_t, oIsi_l]
    refine sp_wrong (k := 4) (L := b) (by omega) hc fun w c1 hw hc1 => ?_
    refine sp_made_no (k := 1) (p := "top") (fun {kd0 kx0} z => sp_rule_top (k := 1) hb hb2 hw.p hw.f0 z) ?_
    refine ⟨by decide, ?_⟩
    refine sp_same (k := 4) 1 SD_ts ?_
    exact hI _ _ ⟨c1, rfl, hc1, rfl⟩
  clear hc
  rintro env vh ⟨c, rfl, hc, rfl⟩
  dsimp only [eL, sEqO, sNeO, sIdxM, sIsXs, sBits, sRevT, oRevT_t, oShr_i, oShl_i, oBand_i, oBool_i, oBool_b, sRev, oZipM_t, oZipM_l, sPopA, sExn, sIsX, sCallN, sCallE, oRepr_one, sVar, sCst, sBin, sUn, sTB, sNotT, sAndT, sOrT, sAndV, sOrV, sNotV, sIfE, sNil, sCons, sTup, sLst, sCallB, sSeq, sSkip, sDrop, sRet, sRetN, sBrk, sCnt, sIf, sSet, gN, gsNil, gsCons, gT, sAsg, sFor, sWhile, sIt, sItA, sLc, sYes, sCall, sCallK, sMethK, sNewK, oview, sFld, sMeth, sNew, sPutNew, sPutOld, sPutL, sAug, sChain, sNoP, sPart, sSl, isT, sIsi, sApp, sRaise, sTry, exTry, ksAs, envAs, sXf, oMaxS_one, oMinS_one, look, wipeE, List.set, List.map, List.replicate, id, perm, List.filterMap, List.length_cons, List.length_nil, List.nil_append, List.cons_append, Nat.sub_self, Nat.reduceAdd, Nat.reduceSub, newL_f, newL_t, oAdd_i, oAdd_s, oAdd_t, oAdd_l, oMul_i, oSub_i, oFdiv_i, oMod_i, oPow_i, oLt_i, oLe_i, oGt_i, oGe_i, oNeg_i, oAddI_i, oEq_ii, oEq_ss, oEq_bb, oEq_nn, oEq_ni, oEq_in, oEq_ns, oEq_sn, oEq_is, oEq_si, oNe_ii, oNe_ss, oNe_bb, oIs_n, oIs_b, oIsNot_n, oIsNot_b, isNon_n, isNon_i, isNon_b, isNon_s, isNon_t, isNon_l, isNon_r, isBl_n, isBl_i, isBl_b, isBl_s, isBl_t, isBl_l, isBl_r, oIx_t, oIx_l, oIx_s, oLen_t, oLen_l, oLen_c, oLen_s, oAbs_i, oInt_i, oInt_b, oMax2_i, oMin2_i, oGcd_i, oIter_t, oIter_l, oIter_c, oRng1_i, oRng2_i, oRng2G_i, oSl_t, oSl_l, oSl_c, sIsC, sIsi2, isT2, sAugS, enumL, oIsC_n, oIsC_b, oIsC_i, oIsC_s, oIsC_t, oIsC_l, oIsC_o, oIsi2_n, oIsi2_b, oIsi2_i, oIsi2_s, oIsi2_t, oIsi2_l, oComb_i, sCountM, sTru, sChain3, oTru_b, oTru_n, oTru_i, oTru_t, oTru_l, oIn_t, oIn_l, oNotIn_t, oNotIn_l, oMulT_t, oMul_l, oList_l, oList_t, oTuple_l, oTuple_t, oSumS_l, oSumS_t, oEnum_t, oEnum_l, oZip_t, oZip_l, oIsi_n, oIsi_b, oIsi_i, oIsi_s, oIsi_t, oIsi_l]
  refine ⟨rfl, rfl, _, rfl, ?_⟩
  refine sp_low (k := 5) hb hb2 ?_
  refine sp_same_fr (k := 4) ?_
  exact ⟨_, _, rfl, .low (by simp only [low]), rfl⟩

end LK

end
section
namespace LK
open PySem PySem.Spec L2 VI
open PyProof.Rows hiding St
def dx_InvalidNumber : He.DefD := ⟨("InvalidNumber", some "__init__"), "__init__", "InvalidNumber.__init__", defArgs (mth 4 0), defBody (mth 4 0), defScope (mth 4 0), [], []⟩
def dx_InvalidRule : He.DefD := ⟨("InvalidRule", some "__init__"), "__init__", "InvalidRule.__init__", defArgs (mth 5 0), defBody (mth 5 0), defScope (mth 5 0), [], []⟩
def fnD : List He.DefD := [fn_is_integer.d, fn_is_from_to.d, fn_reduced.d, fn_RuleU_initU.d, fn_RuleU_eqU.d, fn_Rule_mark.d, fn_Rule_mark_of.d, fn__law_pool.d, fn__law_draw.d, fn__law_same.d, fn__law_lowest.d, fn__law_made.d, fn__law_marked.d, fn__law_wrong.d, fn__law_second.d, fn__law_equals.d, fn_law.d, dx_InvalidNumber, dx_InvalidRule]
def fa : List He.Fa := [.int "MOST_BOTTOM" 20, .int "MOST_MARK" 1000, .cls "Rule", .glo "InvalidNumber", .glo "InvalidRule", .glo "Rule", .glo "_law_draw", .glo "_law_equals", .glo "_law_lowest", .glo "_law_made", .glo "_law_marked", .glo "_law_pool", .glo "_law_same", .glo "_law_second", .glo "_law_wrong", .glo "is_from_to", .glo "is_integer", .glo "reduced", .mkr "Rule", .meth "Rule" "__eq__", .meth "Rule" "mark", .meth "Rule" "mark_of", .free "abs", .free "bool", .free "int", .free "isinstance", .free "len", .free "list", .free "min", .free "range", .free "str", .free "tuple", .noat "Rule" "part", .glo "law"]
def exs (K : PySem.W.Frag) : List Bool := [isCB K clL "Rule", bltB K "gcd" "math.gcd", neB K "Rule", exB K ("InvalidNumber", ["value"]), exB K ("InvalidRule", ["part"]), exmB K exL exSub "InvalidNumber", exmB K exL exSub "InvalidRule"]
def exAll (K : PySem.W.Frag) : Bool := (exs K).all id
theorem exAt {K : PySem.W.Frag} (h : exAll K = true) (i : Nat) {b : Bool} (e : (exs K)[i]? = some b) : b = true := List.all_eq_true.mp h b (List.mem_of_getElem? e)
abbrev R : PySem.W.OpenRow := PySem.W.OpenLaw.row PySem.Challenge.rw_seatsbothways_k04_rule_marks_and_errors
abbrev hk : PySem.W.Hook := hookW 6 fa fnD exAll
def ob (s : PySem.W.SharedT) : He.AlD := obsWG 6 fa fnD exAll (HandSHeadRun.getT s)
theorem ob_eq (s : PySem.W.SharedT) : ob s = hk.obs s.abs := obsWG_eq (HandSHeadRun.getT_eq s)
def loose0 : List Str := ["_wall", "__name__", "SeatError", "InvalidNumber", "InvalidRule", "is_integer", "is_from_to", "reduced", "MOST_BOTTOM", "MOST_MARK", "Rule", "_law_pool", "_law_draw", "_law_same", "_law_lowest", "_law_made", "_law_marked", "_law_wrong", "_law_second", "_law_equals"]
def loose : List Str := loose0
theorem run (w : World) : HandSHeadRun.RunEqI R (PySem.W.view R.prog [0, 25]) hk ob 60000 loose w := by
  unfold HandSHeadRun.RunEqI
  kernel_rfl
section
variable {P : Program} {w : World} {K : PySem.W.Frag} {mg : Str → Option Value} {base h : Heap}
theorem nm_ok (X : K.In h) (G : h.Ns mainGlobals mg) (c : SaysV fa fnD exAll K) : Nm P w K mg base := by
  obtain ⟨cx, cs⟩ := c.both
  exact ⟨He.int_ok X G (cs.fact 0 rfl),
    He.int_ok X G (cs.fact 1 rfl),
    He.cls_ok (cs.fact 2 rfl),
    He.glo_ok X G (cs.fact 3 rfl),
    He.glo_ok X G (cs.fact 4 rfl),
    He.glo_ok X G (cs.fact 5 rfl),
    He.glo_ok X G (cs.fact 6 rfl),
    He.glo_ok X G (cs.fact 7 rfl),
    He.glo_ok X G (cs.fact 8 rfl),
    He.glo_ok X G (cs.fact 9 rfl),
    He.glo_ok X G (cs.fact 10 rfl),
    He.glo_ok X G (cs.fact 11 rfl),
    He.glo_ok X G (cs.fact 12 rfl),
    He.glo_ok X G (cs.fact 13 rfl),
    He.glo_ok X G (cs.fact 14 rfl),
    He.glo_ok X G (cs.fact 15 rfl),
    He.glo_ok X G (cs.fact 16 rfl),
    He.glo_ok X G (cs.fact 17 rfl),
    isCB_ok (exAt cx 0 rfl),
    He.mkr_ok (cs.fact 18 rfl),
    He.meth_ok (cs.fact 19 rfl),
    He.meth_ok (cs.fact 20 rfl),
    He.meth_ok (cs.fact 21 rfl),
    He.free_ok X G (cs.fact 22 rfl),
    He.free_ok X G (cs.fact 23 rfl),
    bltB_ok X G (exAt cx 1 rfl),
    He.free_ok X G (cs.fact 24 rfl),
    He.free_ok X G (cs.fact 25 rfl),
    He.free_ok X G (cs.fact 26 rfl),
    He.free_ok X G (cs.fact 27 rfl),
    He.free_ok X G (cs.fact 28 rfl),
    He.free_ok X G (cs.fact 29 rfl),
    He.free_ok X G (cs.fact 30 rfl),
    He.free_ok X G (cs.fact 31 rfl),
    He.noat_ok (cs.fact 32 rfl),
    neB_ok (exAt cx 2 rfl),
    ExC.by1 (exAt cx 3 rfl) fun T0 h0 => (cs.def_ 17 (d := dx_InvalidNumber) rfl).elim fun fd F => ⟨fd, ["self", "value"], F.bindsN (fun _ _ _ _ _ _ us hl => match us, hl with | [_, _], _ => rfl), init1 F T0 h0 ⟨rfl, rfl, rfl, by decide +kernel, rfl, by decide +kernel, by decide +kernel⟩ rfl rfl⟩,
    ExC.by1 (exAt cx 4 rfl) fun T0 h0 => (cs.def_ 18 (d := dx_InvalidRule) rfl).elim fun fd F => ⟨fd, ["self", "part"], F.bindsN (fun _ _ _ _ _ _ us hl => match us, hl with | [_, _], _ => rfl), init1 F T0 h0 ⟨rfl, rfl, rfl, by decide +kernel, rfl, by decide +kernel, by decide +kernel⟩ rfl rfl⟩,
    exmB_ok (exAt cx 5 rfl),
    exmB_ok (exAt cx 6 rfl)⟩
theorem mk_ok (N : Nm P w K mg base) (c : SaysV fa fnD exAll K) : ∀ f fn, T f = some fn → FnMk P w K mg base T hots f fn := fun f fn e => by
  obtain ⟨cx, cs⟩ := c.both
  have z := AllIx.at (p := FnMk P w K mg base T hots) (n := 0) (l := table) ⟨⟨rfl, cs.def_ 0 (d := fn_is_integer.d) rfl, sc_is_integer, bd_is_integer, fun _ _ _ _ _ _ _ cx => der_is_integer N cx, fun h => absurd h (by decide)⟩,
    ⟨rfl, cs.def_ 1 (d := fn_is_from_to.d) rfl, sc_is_from_to, bd_is_from_to, fun _ _ _ _ _ _ _ cx => der_is_from_to N cx, fun h => absurd h (by decide)⟩,
    ⟨rfl, cs.def_ 2 (d := fn_reduced.d) rfl, sc_reduced, bd_reduced, fun _ _ _ _ _ _ _ cx => der_reduced N cx, fun h => absurd h (by decide)⟩,
    ⟨rfl, cs.def_ 3 (d := fn_RuleU_initU.d) rfl, sc_RuleU_initU, bd_RuleU_initU, fun _ _ _ _ _ _ _ cx => der_RuleU_initU N cx, fun h => absurd h (by decide)⟩,
    ⟨rfl, cs.def_ 4 (d := fn_RuleU_eqU.d) rfl, sc_RuleU_eqU, bd_RuleU_eqU, fun _ _ _ _ _ _ _ cx => der_RuleU_eqU N cx, fun h => absurd h (by decide)⟩,
    ⟨rfl, cs.def_ 5 (d := fn_Rule_mark.d) rfl, sc_Rule_mark, bd_Rule_mark, fun _ _ _ _ _ _ _ cx => der_Rule_mark N cx, fun h => absurd h (by decide)⟩,
    ⟨rfl, cs.def_ 6 (d := fn_Rule_mark_of.d) rfl, sc_Rule_mark_of, bd_Rule_mark_of, fun _ _ _ _ _ _ _ cx => der_Rule_mark_of N cx, fun h => absurd h (by decide)⟩,
    ⟨rfl, cs.def_ 7 (d := fn__law_pool.d) rfl, sc__law_pool, bd__law_pool, fun _ _ _ _ _ _ _ cx => der__law_pool N cx, fun h => absurd h (by decide)⟩,
    ⟨rfl, cs.def_ 8 (d := fn__law_draw.d) rfl, sc__law_draw, bd__law_draw, fun _ _ _ _ _ _ _ cx => der__law_draw N cx, fun h => absurd h (by decide)⟩,
    ⟨rfl, cs.def_ 9 (d := fn__law_same.d) rfl, sc__law_same, bd__law_same, fun _ _ _ _ _ _ _ cx => der__law_same N cx, fun h => absurd h (by decide)⟩,
    ⟨rfl, cs.def_ 10 (d := fn__law_lowest.d) rfl, sc__law_lowest, bd__law_lowest, fun _ _ _ _ _ _ _ cx => der__law_lowest N cx, fun h => absurd h (by decide)⟩,
    ⟨rfl, cs.def_ 11 (d := fn__law_made.d) rfl, sc__law_made, bd__law_made, fun _ _ _ _ _ _ _ cx => der__law_made N cx, fun h => absurd h (by decide)⟩,
    ⟨rfl, cs.def_ 12 (d := fn__law_marked.d) rfl, sc__law_marked, bd__law_marked, fun _ _ _ _ _ _ _ cx => der__law_marked N cx, fun h => absurd h (by decide)⟩,
    ⟨rfl, cs.def_ 13 (d := fn__law_wrong.d) rfl, sc__law_wrong, bd__law_wrong, fun _ _ _ _ _ _ _ cx => der__law_wrong N cx, fun h => absurd h (by decide)⟩,
    ⟨rfl, cs.def_ 14 (d := fn__law_second.d) rfl, sc__law_second, bd__law_second, fun _ _ _ _ _ _ _ cx => der__law_second N cx, fun h => absurd h (by decide)⟩,
    ⟨rfl, cs.def_ 15 (d := fn__law_equals.d) rfl, sc__law_equals, bd__law_equals, fun _ _ _ _ _ _ _ cx => der__law_equals N cx, fun h => absurd h (by decide)⟩,
    ⟨rfl, cs.def_ 16 (d := fn_law.d) rfl, sc_law, bd_law, fun _ _ _ _ _ _ _ cx => der_law N cx, fun h => absurd h (by decide)⟩, trivial⟩ e
  rw [Nat.zero_add] at z
  exact z
end
end LK
open PySem PySem.W PySem.Calls PyProof.Rows
theorem PySem.Challenge.cw_seatsbothways_k04_rule_marks_and_errors_holds : PySem.Challenge.rw_seatsbothways_k04_rule_marks_and_errors.Holds := by
  w_on; o_law
  refine HandSHeadRun.head_imp (r := OpenLaw.row PySem.Challenge.rw_seatsbothways_k04_rule_marks_and_errors) (q := view (OpenLaw.row PySem.Challenge.rw_seatsbothways_k04_rule_marks_and_errors).prog [0, 25]) (H := LK.hk) (ob := LK.ob) (M := 60000) (loose := LK.loose)
    (d := HandSHeadRun.topDef (OpenLaw.row PySem.Challenge.rw_seatsbothways_k04_rule_marks_and_errors).prog 25) (kwd := []) LK.ob_eq LK.run (by kernel_rfl) (by kernel_rfl) (by kernel_rfl) (by rfl) (by first | assumption | decide +kernel) (by decide +kernel) ⟨rfl, rfl, rfl, rfl, rfl, by decide +kernel⟩ ?hw ?hc
  case hw => w_witness2
  case hc =>
    have en : (HandSHeadRun.topDef (OpenLaw.row PySem.Challenge.rw_seatsbothways_k04_rule_marks_and_errors).prog 25).name = ("law" : PySem.Str) := by kernel_rfl
    refine VI.law_walk (l := PySem.Challenge.rw_seatsbothways_k04_rule_marks_and_errors) (n := 63) (k := LK.lev) (f := LK.i_law) (T := LK.T) (hots := LK.hots) (fn := LK.fn_law) (x := "script") rfl (by decide) (by kernel_rfl) ⟨rfl, by decide, by decide⟩ rfl rfl (by rw [en]; rfl) (fun w mg h Y G => ?_) LK.spec_law
    obtain ⟨K, KX, c⟩ := Y
    refine ⟨K, KX, ?_, fun base _ _ => LK.mk_ok (LK.nm_ok KX G c) c⟩
    rw [en]
    exact He.glo_ok KX G (c.both.2.fact 33 rfl)

end
