import PyProof.Rows.All
import Wide.All
import OpenK.AllK
import Wide.FinOn
import HandS.ForMost
import HandS.ForExc
import HandS.Wide
import HandS.Gcd
import HandS.IsInst
import HandS.Zip
import HandS.FStr
import HandS.OwnEq
import KE.KCallOwn
import HandS.MakeKw
import KE.KIsAll
import HandS.Defaults
import HandS.ExcInit
import HandS.MakeKwOnly
import HandS.HotCalls
import PyProof.ConsumeWalk
import HandS.Comp
import HandS.ExcCtx
import HandS.ExcIs
import HandS.ExcField
import HandS.ExcInitHot
import PySem.Challenge.RW_soleheld_k78_spans_hold_worths
set_option Elab.async false
set_option linter.all false
set_option maxRecDepth 100000
set_option maxHeartbeats 4000000
/-! AbA -/
/-! Ab: a heap-free layer over HandS: what a reading does, told by slots (what a value stands for), with local lists owned by the def. -/
namespace Ab
open PySem PySem.Spec PyProof.Rows L2

/-- from base B in the heap H to base B' in the heap H': what is outside the base stays outside, as it is -/
structure Step (B H B' H' : Hp) : Prop where
  inn : Same B' H'
  base : Same B B'
  out : ∀ a, B a = none → H a ≠ none → B' a = none ∧ H' a = H a
theorem Step.refl {B H : Hp} (h : Same B H) : Step B H B H := ⟨h, Same.refl _, fun a h1 _ => ⟨h1, rfl⟩⟩
theorem Step.trans {B H B1 H1 B2 H2 : Hp} (a : Step B H B1 H1) (b : Step B1 H1 B2 H2) : Step B H B2 H2 :=
  ⟨b.inn, a.base.trans b.base, fun x h1 h2 => by
    obtain ⟨p, q⟩ := a.out x h1 h2
    obtain ⟨r, s⟩ := b.out x p (by rw [q]; exact h2)
    exact ⟨r, s.trans q⟩⟩
theorem Step.new {B H : Hp} {p : Addr} {o : HO} (h : Same B H) (hp : H p = none) : Step B H (upd B p o) (upd H p o) := by
  have hB : B p = none := h.free hp
  refine ⟨fun a u e => ?_, fun a u e => ?_, fun a h1 h2 => ?_⟩
  · by_cases ha : a = p
    · subst ha; rw [upd_same] at e ⊢; exact e
    · rw [upd_ne ha] at e ⊢; exact h _ _ e
  · rw [upd_ne (ne_of_none e hB)]; exact e
  · have ha : a ≠ p := fun z => h2 (by rw [z]; exact hp)
    rw [upd_ne ha, upd_ne ha]; exact ⟨h1, rfl⟩
theorem Step.same {B H B' H' : Hp} (h : Same B H) (s : Step B H B' H') : Same H H' := fun a o e => by
  cases q : B a with
  | none => rw [(s.out a q (by rw [e]; simp)).2]; exact e
  | some u =>
    have := h _ _ q
    rw [e] at this; cases this
    exact s.inn _ _ (s.base _ _ q)

/-- what a value stands for -/
structure Slot where
  P : V → Hp → Prop
  mono : ∀ {v : V} {H H' : Hp}, Same H H' → P v H → P v H'
def vS (v : V) : Slot := ⟨fun u _ => u = v, fun _ h => h⟩
abbrev PSl (vs : List V) (ss : List Slot) (H : Hp) : Prop := Paired (fun v (s : Slot) => s.P v H) vs ss
theorem PSl.mono {vs : List V} {ss : List Slot} {H H' : Hp} (e : Same H H') (h : PSl vs ss H) : PSl vs ss H' := Paired.mapP h fun _ s q => s.mono e q
theorem PSl.append {vs ws : List V} {ss ts : List Slot} {H : Hp} : PSl vs ss H → PSl ws ts H → PSl (vs ++ ws) (ss ++ ts) H
  | .nil, s => s
  | .cons r t, s => .cons r (PSl.append t s)
theorem Same.tup {K : PySem.W.Frag} {H H' : Hp} {a : Addr} {xs : List V} (e : Same H H') (h : SqT K H a xs) : SqT K H' a xs := by
  rcases h with (h | ⟨o, h⟩) | h
  · exact .inl (.inl (e _ _ h))
  · exact .inl (.inr ⟨o, e _ _ h⟩)
  · exact .inr h
def tupS (K : PySem.W.Frag) (ss : List Slot) : Slot := ⟨fun v H => ∃ a vs, v = .ref a ∧ SqT K H a vs ∧ PSl vs ss H, fun e ⟨a, vs, h1, h2, h3⟩ => ⟨a, vs, h1, Same.tup e h2, h3.mono e⟩⟩
def lstS (ss : List Slot) : Slot := ⟨fun v H => ∃ a vs, v = .ref a ∧ H a = some (.lst vs) ∧ PSl vs ss H, fun e ⟨a, vs, h1, h2, h3⟩ => ⟨a, vs, h1, e _ _ h2, h3.mono e⟩⟩
/-- an instance of the class at C with these attributes -/
abbrev PFl (fs : List (Str × V)) (gs : List (Str × Slot)) (H : Hp) : Prop := Paired (fun (p : Str × V) (q : Str × Slot) => p.1 = q.1 ∧ q.2.P p.2 H) fs gs
theorem PFl.mono {fs : List (Str × V)} {gs : List (Str × Slot)} {H H' : Hp} (e : Same H H') (h : PFl fs gs H) : PFl fs gs H' := Paired.mapP h fun _ s q => ⟨q.1, s.2.mono e q.2⟩
def insS (C : Addr) (gs : List (Str × Slot)) : Slot := ⟨fun v H => ∃ a dx fs, v = .ref a ∧ H a = some (.ins C dx fs) ∧ PFl fs gs H, fun e ⟨a, dx, fs, h1, h2, h3⟩ => ⟨a, dx, fs, h1, e _ _ h2, h3.mono e⟩⟩
theorem PFl.lookup {gs : List (Str × Slot)} {H : Hp} {f : Str} {s : Slot} : ∀ {fs : List (Str × V)}, PFl fs gs H → gs.lookup f = some s → ∃ v, fs.lookup f = some v ∧ s.P v H := by
  induction gs with
  | nil => intro fs _ h; cases h
  | cons g gs ih =>
    intro fs h hl
    cases h with
    | @cons p _ fs' _ hp hr =>
      obtain ⟨p1, p2⟩ := p
      obtain ⟨g1, g2⟩ := g
      obtain ⟨e1, e2⟩ := hp
      dsimp only at e1 e2
      subst e1
      rw [List.lookup_cons] at hl ⊢
      cases q : f == p1 with
      | true => rw [q] at hl; simp only [Option.some.injEq] at hl; subst hl; exact ⟨p2, rfl, e2⟩
      | false => rw [q] at hl; exact ih hr hl

/-- what is known of a place: nothing; what its value stands for; it is a list at p of the def's own -/
inductive Bd where
  | no
  | pl (s : Slot)
  | own (p : Addr) (ss : List Slot)
structure Rel (σ : L2.St) (B H : Hp) (Γ : List Bd) : Prop where
  len : σ.length = Γ.length
  pl : ∀ (i : Nat) (s : Slot), Γ[i]? = some (.pl s) → ∃ v, σ[i]? = some (some v) ∧ s.P v B
  own : ∀ (i : Nat) (p : Addr) (ss : List Slot), Γ[i]? = some (.own p ss) → σ[i]? = some (some (.ref p)) ∧ B p = none ∧ ∃ vs, H p = some (.lst vs) ∧ PSl vs ss B
  dis : ∀ (i j : Nat) (p : Addr) (ss ss' : List Slot), Γ[i]? = some (.own p ss) → Γ[j]? = some (.own p ss') → i = j
theorem Rel.step {σ : L2.St} {B H B' H' : Hp} {Γ : List Bd} (r : Rel σ B H Γ) (s : Step B H B' H') : Rel σ B' H' Γ where
  len := r.len
  pl := fun i sl h => by obtain ⟨v, e, q⟩ := r.pl i sl h; exact ⟨v, e, sl.mono s.base q⟩
  own := fun i p ss h => by
    obtain ⟨e, b, vs, hh, q⟩ := r.own i p ss h
    obtain ⟨b', h'⟩ := s.out p b (by rw [hh]; simp)
    exact ⟨e, b', vs, h'.trans hh, q.mono s.base⟩
  dis := r.dis
theorem getElem?_set_some {α : Type} {l : List α} {i j : Nat} {a b : α} (h : (l.set i a)[j]? = some b) : (j = i ∧ b = a ∧ i < l.length) ∨ (j ≠ i ∧ l[j]? = some b) := by
  rw [List.getElem?_set] at h
  by_cases e : i = j
  · subst e
    rw [if_pos rfl] at h
    split at h
    · exact .inl ⟨rfl, (Option.some.inj h).symm, by assumption⟩
    · cases h
  · rw [if_neg e] at h
    exact .inr ⟨fun z => e z.symm, h⟩
theorem Rel.set {σ : L2.St} {B H : Hp} {Γ : List Bd} {i : Nat} {v : V} {s : Slot} (r : Rel σ B H Γ) (hs : s.P v B) : Rel (σ.set i (some v)) B H (Γ.set i (.pl s)) where
  len := by rw [List.length_set, List.length_set, r.len]
  pl := fun j sl h => by
    rcases getElem?_set_some h with ⟨rfl, e, hl⟩ | ⟨hj, h⟩
    · cases e
      exact ⟨v, by rw [List.getElem?_set_self (by rw [r.len]; exact hl)], hs⟩
    · rw [List.getElem?_set_ne (fun z => hj z.symm)]
      exact r.pl j sl h
  own := fun j p ss h => by
    rcases getElem?_set_some h with ⟨rfl, e, hl⟩ | ⟨hj, h⟩
    · cases e
    · rw [List.getElem?_set_ne (fun z => hj z.symm)]
      exact r.own j p ss h
  dis := fun j k p ss ss' h1 h2 => by
    rcases getElem?_set_some h1 with ⟨rfl, e, hl⟩ | ⟨hj, g1⟩
    · cases e
    · rcases getElem?_set_some h2 with ⟨rfl, e, hl⟩ | ⟨hk, g2⟩
      · cases e
      · exact r.dis j k p ss ss' g1 g2
theorem Rel.setNo {σ : L2.St} {B H : Hp} {Γ : List Bd} {i : Nat} {v : Option V} (r : Rel σ B H Γ) : Rel (σ.set i v) B H (Γ.set i .no) where
  len := by rw [List.length_set, List.length_set, r.len]
  pl := fun j sl h => by
    rcases getElem?_set_some h with ⟨rfl, e, hl⟩ | ⟨hj, h⟩
    · cases e
    · rw [List.getElem?_set_ne (fun z => hj z.symm)]
      exact r.pl j sl h
  own := fun j p ss h => by
    rcases getElem?_set_some h with ⟨rfl, e, hl⟩ | ⟨hj, h⟩
    · cases e
    · rw [List.getElem?_set_ne (fun z => hj z.symm)]
      exact r.own j p ss h
  dis := fun j k p ss ss' h1 h2 => by
    rcases getElem?_set_some h1 with ⟨rfl, e, hl⟩ | ⟨hj, g1⟩
    · cases e
    · rcases getElem?_set_some h2 with ⟨rfl, e, hl⟩ | ⟨hk, g2⟩
      · cases e
      · exact r.dis j k p ss ss' g1 g2
/-- a new list of its own at i -/
theorem Rel.setOwn {σ : L2.St} {B H : Hp} {Γ : List Bd} {i : Nat} {p : Addr} {vs : List V} {ss : List Slot} (r : Rel σ B H Γ) (b : Same B H) (hp : H p = none) (q : PSl vs ss B) :
    Rel (σ.set i (some (.ref p))) B (upd H p (.lst vs)) (Γ.set i (.own p ss)) where
  len := by rw [List.length_set, List.length_set, r.len]
  pl := fun j sl h => by
    rcases getElem?_set_some h with ⟨rfl, e, hl⟩ | ⟨hj, h⟩
    · cases e
    · rw [List.getElem?_set_ne (fun z => hj z.symm)]
      exact r.pl j sl h
  own := fun j p' ss' h => by
    rcases getElem?_set_some h with ⟨rfl, e, hl⟩ | ⟨hj, h⟩
    · cases e
      exact ⟨by rw [List.getElem?_set_self (by rw [r.len]; exact hl)], b.free hp, vs, upd_same, q⟩
    · rw [List.getElem?_set_ne (fun z => hj z.symm)]
      obtain ⟨e1, e2, vs', e3, e4⟩ := r.own j p' ss' h
      exact ⟨e1, e2, vs', by rw [upd_ne (ne_of_none e3 hp)]; exact e3, e4⟩
  dis := fun j k p' s1 s2 h1 h2 => by
    rcases getElem?_set_some h1 with ⟨rfl, e, hl⟩ | ⟨hj, g1⟩
    · cases e
      rcases getElem?_set_some h2 with ⟨rfl, e, hl⟩ | ⟨hk, g2⟩
      · rfl
      · obtain ⟨_, _, vs', e3, _⟩ := r.own k p s2 g2
        rw [hp] at e3; cases e3
    · rcases getElem?_set_some h2 with ⟨rfl, e, hl⟩ | ⟨hk, g2⟩
      · cases e
        obtain ⟨_, _, vs', e3, _⟩ := r.own j p s1 g1
        rw [hp] at e3; cases e3
      · exact r.dis j k p' s1 s2 g1 g2
/-- the list owned at i is written -/
theorem Rel.write {σ : L2.St} {B H : Hp} {Γ : List Bd} {i : Nat} {p : Addr} {vs : List V} {ss ss0 : List Slot} (r : Rel σ B H Γ) (hi : Γ[i]? = some (.own p ss0)) (q : PSl vs ss B) :
    Rel σ B (upd H p (.lst vs)) (Γ.set i (.own p ss)) where
  len := by rw [List.length_set, r.len]
  pl := fun j sl h => by
    rcases getElem?_set_some h with ⟨rfl, e, hl⟩ | ⟨hj, h⟩
    · cases e
    · exact r.pl j sl h
  own := fun j p' ss' h => by
    obtain ⟨e1, e2, _⟩ := r.own _ _ _ hi
    rcases getElem?_set_some h with ⟨rfl, e, hl⟩ | ⟨hj, g⟩
    · cases e
      exact ⟨e1, e2, vs, upd_same, q⟩
    · obtain ⟨f1, f2, vs', f3, f4⟩ := r.own j p' ss' g
      have hn : p' ≠ p := fun z => by
        rw [z] at g
        exact hj (r.dis _ _ _ _ _ g hi)
      exact ⟨f1, f2, vs', by rw [upd_ne hn]; exact f3, f4⟩
  dis := fun j k p' s1 s2 h1 h2 => by
    rcases getElem?_set_some h1 with ⟨rfl, e, hl⟩ | ⟨hj, g1⟩
    · cases e
      rcases getElem?_set_some h2 with ⟨rfl, e', hl'⟩ | ⟨hk, g2⟩
      · rfl
      · exact r.dis _ k _ _ _ hi g2
    · rcases getElem?_set_some h2 with ⟨rfl, e', hl'⟩ | ⟨hk, g2⟩
      · cases e'
        exact r.dis j _ _ _ _ g1 hi
      · exact r.dis j k _ _ _ g1 g2

/-! ### expressions, tests, arguments -/
def E (te : TE) (Γ : List Bd) (Φ : Slot → Prop) : Prop := ∀ σ B H, Same B H → Rel σ B H Γ → ∀ Q : VK, (∀ s v B' H', Step B H B' H' → s.P v B' → Φ s → Q v H') → te σ H Q
def T (tt : TT) (Γ : List Bd) (Φ : Bool → Prop) : Prop := ∀ σ B H, Same B H → Rel σ B H Γ → ∀ Q : Bool → Hp → Prop, (∀ b B' H', Step B H B' H' → Φ b → Q b H') → tt σ H Q
def A (ta : TA) (Γ : List Bd) (Φ : List Slot → Prop) : Prop := ∀ σ B H, Same B H → Rel σ B H Γ → ∀ Q : List V → Hp → Prop, (∀ ss vs B' H', Step B H B' H' → PSl vs ss B' → Φ ss → Q vs H') → ta σ H Q
def R (r : R2) (s t : Slot) (Φ : Slot → Prop) : Prop := ∀ x y B H, Same B H → s.P x B → t.P y B → ∀ Q : VK, (∀ s v B' H', Step B H B' H' → s.P v B' → Φ s → Q v H') → r x y H Q
def U (r : V → Hp → VK → Prop) (s : Slot) (Φ : Slot → Prop) : Prop := ∀ x B H, Same B H → s.P x B → ∀ Q : VK, (∀ s v B' H', Step B H B' H' → s.P v B' → Φ s → Q v H') → r x H Q
def C (r : List V → Hp → VK → Prop) (ss : List Slot) (Φ : Slot → Prop) : Prop := ∀ vs B H, Same B H → PSl vs ss B → ∀ Q : VK, (∀ s v B' H', Step B H B' H' → s.P v B' → Φ s → Q v H') → r vs H Q
/-- a method of a built-in type -/
def M (r : V → List V → Hp → VK → Prop) (s : Slot) (ss : List Slot) (Φ : Slot → Prop) : Prop := ∀ x vs B H, Same B H → s.P x B → PSl vs ss B → ∀ Q : VK, (∀ s v B' H', Step B H B' H' → s.P v B' → Φ s → Q v H') → r x vs H Q

section
variable {K : PySem.W.Frag} {Γ : List Bd} {Φ : Slot → Prop} {Φb : Bool → Prop} {Φa : List Slot → Prop} {ta tb te tc : TE} {t u : TT} {tr : TA}
theorem E.imp {Φ' : Slot → Prop} (h : E te Γ Φ) (k : ∀ s, Φ s → Φ' s) : E te Γ Φ' := fun σ B H b r Q q => h σ B H b r Q fun s v B' H' st p f => q s v B' H' st p (k s f)
theorem T.imp {Φ' : Bool → Prop} (h : T t Γ Φb) (k : ∀ s, Φb s → Φ' s) : T t Γ Φ' := fun σ B H b r Q q => h σ B H b r Q fun s B' H' st f => q s B' H' st (k s f)
theorem E_var {i : Nat} {s : Slot} (h : Γ[i]? = some (.pl s)) (k : Φ s) : E (tVar i) Γ Φ := fun σ B H b r Q q => by
  obtain ⟨v, e, p⟩ := r.pl i s h
  exact ⟨v, e, q s v B H (.refl b) p k⟩
theorem E_c {v : V} (k : Φ (vS v)) : E (tC v) Γ Φ := fun σ B H b r Q q => q (vS v) v B H (.refl b) rfl k
/-- an object of the module's own top, by its address -/
theorem E_top {v : V} {s : Slot} (hs : ∀ H, s.P v H) (k : Φ s) : E (tC v) Γ Φ := fun σ B H b r Q q => q s v B H (.refl b) (hs B) k
theorem E_op {r : R2} (h : E ta Γ fun s => E tb Γ fun s' => R r s s' Φ) : E (tOp r ta tb) Γ Φ := fun σ B H b rl Q q =>
  h σ B H b rl _ fun s x B1 H1 st1 p1 h1 => h1 σ B1 H1 st1.inn (rl.step st1) _ fun s' y B2 H2 st2 p2 h2 =>
    h2 x y B2 H2 st2.inn (s.mono st2.base p1) p2 Q fun s'' v B3 H3 st3 p3 f => q s'' v B3 H3 ((st1.trans st2).trans st3) p3 f
theorem E_un {r : V → Hp → VK → Prop} (h : E ta Γ fun s => U r s Φ) : E (tUn r ta) Γ Φ := fun σ B H b rl Q q =>
  h σ B H b rl _ fun s x B1 H1 st1 p1 h1 => h1 x B1 H1 st1.inn p1 Q fun s'' v B3 H3 st3 p3 f => q s'' v B3 H3 (st1.trans st3) p3 f
theorem A_nil (k : Φa []) : A tNil Γ Φa := fun σ B H b rl Q q => q [] [] B H (.refl b) .nil k
theorem A_cons (h : E ta Γ fun s => A tr Γ fun ss => Φa (s :: ss)) : A (tCons ta tr) Γ Φa := fun σ B H b rl Q q =>
  h σ B H b rl _ fun s x B1 H1 st1 p1 h1 => h1 σ B1 H1 st1.inn (rl.step st1) _ fun ss vs B2 H2 st2 p2 f => q (s :: ss) (x :: vs) B2 H2 (st1.trans st2) (.cons (s.mono st2.base p1) p2) f
theorem E_tup (h : A tr Γ fun ss => ss.length ≤ 100000 ∧ Φ (tupS K ss)) : E (tTup tr) Γ Φ := fun σ B H b rl Q q =>
  h σ B H b rl _ fun ss vs B1 H1 st1 p1 ⟨hl, f⟩ => ⟨Nat.le_trans (by rw [p1.length]; exact hl) (by decide), fun p hp => q (tupS K ss) (.ref p) (upd B1 p (.tup vs)) (upd H1 p (.tup vs)) (st1.trans (.new st1.inn hp))
    ⟨p, vs, rfl, .inl (.inl upd_same), p1.mono (Step.new (o := .tup vs) st1.inn hp).base⟩ f⟩
theorem E_lst (h : A tr Γ fun ss => ss.length ≤ 100000 ∧ Φ (lstS ss)) : E (tLst tr) Γ Φ := fun σ B H b rl Q q =>
  h σ B H b rl _ fun ss vs B1 H1 st1 p1 ⟨hl, f⟩ => ⟨Nat.le_trans (by rw [p1.length]; exact hl) (by decide), fun p hp => q (lstS ss) (.ref p) (upd B1 p (.lst vs)) (upd H1 p (.lst vs)) (st1.trans (.new st1.inn hp))
    ⟨p, vs, rfl, upd_same, p1.mono (Step.new (o := .lst vs) st1.inn hp).base⟩ f⟩
theorem E_cb {r : List V → Hp → VK → Prop} (h : A tr Γ fun ss => C r ss Φ) : E (tCB r tr) Γ Φ := fun σ B H b rl Q q =>
  h σ B H b rl _ fun ss vs B1 H1 st1 p1 h1 => h1 vs B1 H1 st1.inn p1 Q fun s'' v B3 H3 st3 p3 f => q s'' v B3 H3 (st1.trans st3) p3 f
theorem E_if (h : T t Γ fun b => (b = true → E ta Γ Φ) ∧ (b = false → E tb Γ Φ)) : E (tIf t ta tb) Γ Φ := fun σ B H b rl Q q =>
  h σ B H b rl _ fun c B1 H1 st1 ⟨h1, h2⟩ => by
    cases c with
    | true => exact iteT (h1 rfl σ B1 H1 st1.inn (rl.step st1) Q fun s v B2 H2 st2 p f => q s v B2 H2 (st1.trans st2) p f)
    | false => exact iteF (h2 rfl σ B1 H1 st1.inn (rl.step st1) Q fun s v B2 H2 st2 p f => q s v B2 H2 (st1.trans st2) p f)
theorem E_fld {f : Str} (h : E ta Γ fun s => ∃ C gs s', s = insS C gs ∧ Cls K C ∧ NoAttr K C f ∧ gs.lookup f = some s' ∧ Φ s') : E (tFld K ta f) Γ Φ := fun σ B H b rl Q q =>
  h σ B H b rl _ fun s x B1 H1 st1 p1 ⟨C, gs, s', e, c, n, l, k⟩ => by
    subst e
    obtain ⟨a, dx, fs, rfl, ha, hf⟩ := p1
    obtain ⟨v, lv, pv⟩ := hf.lookup l
    exact ⟨a, C, dx, fs, v, rfl, st1.inn _ _ ha, c, n, lv, q s' v B1 H1 st1 pv k⟩
theorem E_not (h : E ta Γ fun s => ∃ c, s = vS (.bl c) ∧ Φ (vS (.bl (!c)))) : E (tNotV ta) Γ Φ := fun σ B H b rl Q q =>
  h σ B H b rl _ fun s x B1 H1 st1 p1 ⟨c, e, k⟩ => by
    subst e
    exact ⟨c, p1, q _ _ B1 H1 st1 rfl k⟩
theorem E_and (h : E ta Γ fun s => ∃ c, s = vS (.bl c) ∧ (c = true → E tb Γ Φ) ∧ (c = false → Φ (vS (.bl false)))) : E (tAndV ta tb) Γ Φ := fun σ B H b rl Q q =>
  h σ B H b rl _ fun s x B1 H1 st1 p1 ⟨c, e, k1, k2⟩ => by
    subst e
    refine ⟨c, p1, ?_⟩
    cases c with
    | true => exact iteT (k1 rfl σ B1 H1 st1.inn (rl.step st1) Q fun s v B2 H2 st2 p f => q s v B2 H2 (st1.trans st2) p f)
    | false => exact iteF (q _ _ B1 H1 st1 rfl (k2 rfl))
theorem E_or (h : E ta Γ fun s => ∃ c, s = vS (.bl c) ∧ (c = true → Φ (vS (.bl true))) ∧ (c = false → E tb Γ Φ)) : E (tOrV ta tb) Γ Φ := fun σ B H b rl Q q =>
  h σ B H b rl _ fun s x B1 H1 st1 p1 ⟨c, e, k1, k2⟩ => by
    subst e
    refine ⟨c, p1, ?_⟩
    cases c with
    | true => exact iteT (q _ _ B1 H1 st1 rfl (k1 rfl))
    | false => exact iteF (k2 rfl σ B1 H1 st1.inn (rl.step st1) Q fun s v B2 H2 st2 p f => q s v B2 H2 (st1.trans st2) p f)
theorem E_bm {r : V → List V → Hp → VK → Prop} {ty : String} (h : E ta Γ fun s => (∀ x H, s.P x H → tyV K ty x H) ∧ A tr Γ fun ss => M r s ss Φ) : E (tBM K ty r ta tr) Γ Φ := fun σ B H b rl Q q =>
  h σ B H b rl _ fun s x B1 H1 st1 p1 ⟨hty, h1⟩ => ⟨hty x H1 (s.mono st1.inn p1), h1 σ B1 H1 st1.inn (rl.step st1) _ fun ss vs B2 H2 st2 p2 h2 => h2 x vs B2 H2 st2.inn (s.mono st2.base p1) p2 Q fun s'' v B3 H3 st3 p3 f => q s'' v B3 H3 ((st1.trans st2).trans st3) p3 f⟩
/-! tests -/
theorem T_B (h : E ta Γ fun s => ∃ c, s = vS (.bl c) ∧ Φb c) : T (tB ta) Γ Φb := fun σ B H b rl Q q =>
  h σ B H b rl _ fun s x B1 H1 st1 p1 ⟨c, e, k⟩ => by
    subst e
    exact ⟨c, p1, q c B1 H1 st1 k⟩
theorem T_test (h : E ta Γ fun s => ∃ c, s = vS (.bl c) ∧ Φb c) : T (tTest ta) Γ Φb := fun σ B H b rl Q q =>
  h σ B H b rl _ fun s x B1 H1 st1 p1 ⟨c, e, k⟩ => by
    subst e
    exact ⟨c, p1, q c B1 H1 st1 k⟩
theorem T_and (h : T t Γ fun c => (c = true → T u Γ Φb) ∧ (c = false → Φb false)) : T (tAnd t u) Γ Φb := fun σ B H b rl Q q =>
  h σ B H b rl _ fun c B1 H1 st1 ⟨k1, k2⟩ => by
    cases c with
    | true => exact iteT (k1 rfl σ B1 H1 st1.inn (rl.step st1) Q fun s B2 H2 st2 f => q s B2 H2 (st1.trans st2) f)
    | false => exact iteF (q _ B1 H1 st1 (k2 rfl))
theorem T_or (h : T t Γ fun c => (c = true → Φb true) ∧ (c = false → T u Γ Φb)) : T (tOr t u) Γ Φb := fun σ B H b rl Q q =>
  h σ B H b rl _ fun c B1 H1 st1 ⟨k1, k2⟩ => by
    cases c with
    | true => exact iteT (q _ B1 H1 st1 (k1 rfl))
    | false => exact iteF (k2 rfl σ B1 H1 st1.inn (rl.step st1) Q fun s B2 H2 st2 f => q s B2 H2 (st1.trans st2) f)
theorem T_not (h : T t Γ fun c => Φb (!c)) : T (tNot t) Γ Φb := fun σ B H b rl Q q => h σ B H b rl _ fun c B1 H1 st1 k => q (!c) B1 H1 st1 k
/-! operators on values -/
theorem R_I0 {g : Int → Int → V} {i j : Int} (k : Φ (vS (g i j))) : R (rI0 g) (vS (.int i)) (vS (.int j)) Φ := fun x y B H b p1 p2 Q q => ⟨i, j, p1, p2, q _ _ B H (.refl b) rfl k⟩
theorem R_I {D : Int → Int → Prop} {g : Int → Int → V} {i j : Int} (hc : D i j) (k : Φ (vS (g i j))) : R (rI D g) (vS (.int i)) (vS (.int j)) Φ := fun x y B H b p1 p2 Q q => ⟨i, j, p1, p2, hc, q _ _ B H (.refl b) rfl k⟩
theorem R_eq {v w : V} (hs : scal v w = true) (k : Φ (vS (.bl (decide (v = w))))) : R rEq (vS v) (vS w) Φ := fun x y B H b p1 p2 Q q => by
  obtain rfl : x = v := p1
  obtain rfl : y = w := p2
  exact ⟨hs, q _ _ B H (.refl b) rfl k⟩
theorem R_ne {v w : V} (hs : scal v w = true) (k : Φ (vS (.bl (!decide (v = w))))) : R rNe (vS v) (vS w) Φ := fun x y B H b p1 p2 Q q => by
  obtain rfl : x = v := p1
  obtain rfl : y = w := p2
  exact ⟨hs, q _ _ B H (.refl b) rfl k⟩
theorem PSl.get {vs : List V} {ss : List Slot} {H : Hp} : ∀ {i : Nat} {s : Slot}, PSl vs ss H → ss[i]? = some s → ∃ v, vs[i]? = some v ∧ s.P v H
  | _, _, .nil, e => by simp at e
  | 0, s, .cons r _, e => by simp at e; subst e; exact ⟨_, rfl, r⟩
  | i + 1, s, .cons _ t, e => by
    obtain ⟨v, h1, h2⟩ := PSl.get (i := i) (s := s) t (by simpa using e)
    exact ⟨v, by simpa using h1, h2⟩
theorem PSl.getR {vs : List V} {ss : List Slot} {H : Hp} : ∀ {i : Nat} {v : V}, PSl vs ss H → vs[i]? = some v → ∃ s, ss[i]? = some s ∧ s.P v H
  | _, _, .nil, e => by simp at e
  | 0, s, .cons r _, e => by simp at e; subst e; exact ⟨_, rfl, r⟩
  | i + 1, s, .cons _ t, e => by
    obtain ⟨v, h1, h2⟩ := PSl.getR (i := i) (v := s) t (by simpa using e)
    exact ⟨v, by simpa using h1, h2⟩
theorem PSl.atI {vs : List V} {ss : List Slot} {H : Hp} {i : Int} {s : Slot} (h : PSl vs ss H) (e : L2.atI ss i = some s) : ∃ v, L2.atI vs i = some v ∧ s.P v H := by
  unfold L2.atI at e ⊢
  rw [h.length]
  cases q : ixN ss.length i with
  | none => rw [q] at e; cases e
  | some j =>
    rw [q] at e
    exact h.get e
theorem R_ixT {ss : List Slot} {i : Int} {s : Slot} (h : L2.atI ss i = some s) (k : Φ s) : R (rIxT K) (tupS K ss) (vS (.int i)) Φ := fun x y B H b p1 p2 Q q => by
  obtain ⟨a, vs, rfl, ht, hp⟩ := p1
  obtain ⟨v, e, pv⟩ := hp.atI h
  exact ⟨a, vs, i, v, rfl, p2, Same.tup b ht, e, q s v B H (.refl b) pv k⟩
theorem R_ixL {ss : List Slot} {i : Int} {s : Slot} (h : L2.atI ss i = some s) (k : Φ s) : R (rIxL K) (lstS ss) (vS (.int i)) Φ := fun x y B H b p1 p2 Q q => by
  obtain ⟨a, vs, rfl, ht, hp⟩ := p1
  obtain ⟨v, e, pv⟩ := hp.atI h
  exact ⟨a, vs, i, v, rfl, p2, .inl (.inl (b _ _ ht)), e, q s v B H (.refl b) pv k⟩
theorem U_I {g : Int → V} {i : Int} (k : Φ (vS (g i))) : U (rU g) (vS (.int i)) Φ := fun x B H b p Q q => ⟨i, p, q _ _ B H (.refl b) rfl k⟩
end

/-! ### defs -/
/-- a raised exception: its class and its attributes -/
structure Xs where
  C : Addr
  fs : List (Str × Slot)
def Xs.At (x : Xs) (d : Option Addr) (H : Hp) : Prop := ∃ a fs, d = some a ∧ H a = some (.xd fs) ∧ PFl fs x.fs H
/-- a def by slots: its arguments, what is wanted of its value, of what it raises -/
abbrev FS := List Slot → (Slot → Prop) → (Xs → Prop) → Prop
def spOf (F : FS) : Sp := fun vs H Q Er => ∃ B ss Φ Ψ, Same B H ∧ PSl vs ss B ∧ F ss Φ Ψ ∧ (∀ s v B' H', Step B H B' H' → s.P v B' → Φ s → Q v H') ∧
  (∀ x d B' H', Step B H B' H' → x.At d B' → Ψ x → Er (.ref x.C) d H')
theorem E_call {F : FS} {dvs : List V} {dss : List Slot} {Er : XK} {Γ : List Bd} {Φ : Slot → Prop} {tr : TA} (hd : ∀ H, PSl dvs dss H) (h : A tr Γ fun ss => F (ss ++ dss) Φ fun _ => False) : E (tCall (spOf F) dvs Er tr) Γ Φ := fun σ B H b rl Q q =>
  h σ B H b rl _ fun ss vs B1 H1 st1 p1 f => ⟨B1, ss ++ dss, Φ, fun _ => False, st1.inn, PSl.append p1 (hd B1), f, fun s v B2 H2 st2 p k => q s v B2 H2 (st1.trans st2) p k, fun _ _ _ _ _ _ z => z.elim⟩

/-! ### statements -/
structure Ks where
  nx : List Bd → Prop
  rt : Slot → List Bd → Prop
  bk : List Bd → Prop
  ct : List Bd → Prop
  er : XK := E0
  ex : Xs → Prop := fun _ => False
/-- where one stands in a def that was entered with base B0 in the heap H0 -/
structure At (B0 H0 : Hp) (σ : L2.St) (B H : Hp) (Γ : List Bd) : Prop where
  rel : Rel σ B H Γ
  inn : Same B H
  base : Same B0 B
  out : ∀ a, B0 a = none → H0 a ≠ none → B a = none ∧ H a = H0 a
  mine : ∀ (i : Nat) (p : Addr) (ss : List Slot), Γ[i]? = some (.own p ss) → H0 p = none
theorem At.step {B0 H0 : Hp} {σ : L2.St} {B H B' H' : Hp} {Γ : List Bd} (a : At B0 H0 σ B H Γ) (s : Step B H B' H') : At B0 H0 σ B' H' Γ where
  rel := a.rel.step s
  inn := s.inn
  base := a.base.trans s.base
  out := fun x h1 h2 => by
    obtain ⟨p, q⟩ := a.out x h1 h2
    obtain ⟨r, t⟩ := s.out x p (by rw [q]; exact h2)
    exact ⟨r, t.trans q⟩
  mine := a.mine
theorem At.set {B0 H0 : Hp} {σ : L2.St} {B H : Hp} {Γ : List Bd} {i : Nat} {v : V} {s : Slot} (a : At B0 H0 σ B H Γ) (hs : s.P v B) : At B0 H0 (σ.set i (some v)) B H (Γ.set i (.pl s)) where
  rel := a.rel.set hs
  inn := a.inn
  base := a.base
  out := a.out
  mine := fun j p ss h1 => by
    rcases getElem?_set_some h1 with ⟨rfl, e, hl⟩ | ⟨hj, h1⟩
    · cases e
    · exact a.mine j p ss h1
theorem At.to {B0 H0 : Hp} {σ : L2.St} {B H : Hp} {Γ : List Bd} (a : At B0 H0 σ B H Γ) : Step B0 H0 B H := ⟨a.inn, a.base, a.out⟩
structure DOk (B0 H0 : Hp) (D : Ends) (Φ : Ks) : Prop where
  nx : ∀ Γ σ B H, At B0 H0 σ B H Γ → Φ.nx Γ → D.nx σ H
  rt : ∀ s v Γ σ B H, At B0 H0 σ B H Γ → s.P v B → Φ.rt s Γ → D.rt v H
  bk : ∀ Γ σ B H, At B0 H0 σ B H Γ → Φ.bk Γ → D.bk σ H
  ct : ∀ Γ σ B H, At B0 H0 σ B H Γ → Φ.ct Γ → D.ct σ H
  ex : ∀ x d Γ σ B H, At B0 H0 σ B H Γ → x.At d B → Φ.ex x → Φ.er (.ref x.C) d H
def S (ts : TS) (Γ : List Bd) (Φ : Ks) : Prop := ∀ B0 H0 D σ B H, DOk B0 H0 D Φ → At B0 H0 σ B H Γ → ts D σ H

section
variable {K : PySem.W.Frag} {Γ : List Bd} {Φ : Ks} {te : TE} {tt : TT} {t u : TS} {tr : TA}
theorem S_next (k : Φ.nx Γ) : S tNext Γ Φ := fun B0 H0 D σ B H d a => d.nx Γ σ B H a k
theorem S_brk (k : Φ.bk Γ) : S tBreak Γ Φ := fun B0 H0 D σ B H d a => d.bk Γ σ B H a k
theorem S_cont (k : Φ.ct Γ) : S tCont Γ Φ := fun B0 H0 D σ B H d a => d.ct Γ σ B H a k
theorem S_seq (h : S t Γ { Φ with nx := fun Γ' => S u Γ' Φ }) : S (tSeq t u) Γ Φ := fun B0 H0 D σ B H d a =>
  h B0 H0 { D with nx := u D } σ B H ⟨fun Γ' σ' B' H' a' k => k B0 H0 D σ' B' H' d a', d.rt, d.bk, d.ct, d.ex⟩ a
theorem S_asg {i : Nat} (h : E te Γ fun s => Φ.nx (Γ.set i (.pl s))) : S (tAsg te (gName i)) Γ Φ := fun B0 H0 D σ B H d a =>
  h σ B H a.inn a.rel _ fun s v B' H' st p k => d.nx _ _ B' H' ((a.step st).set p) k
theorem S_ret (h : E te Γ fun s => Φ.rt s Γ) : S (tRet te) Γ Φ := fun B0 H0 D σ B H d a =>
  h σ B H a.inn a.rel _ fun s v B' H' st p k => d.rt s v Γ σ B' H' (a.step st) p k
theorem S_retN (k : Φ.rt (vS .non) Γ) : S tRetN Γ Φ := fun B0 H0 D σ B H d a => d.rt (vS .non) .non Γ σ B H a rfl k
theorem S_drop (h : E te Γ fun _ => Φ.nx Γ) : S (tDrop te) Γ Φ := fun B0 H0 D σ B H d a =>
  h σ B H a.inn a.rel _ fun s v B' H' st p k => d.nx _ _ B' H' (a.step st) k
theorem S_if (h : T tt Γ fun b => (b = true → S t Γ Φ) ∧ (b = false → S u Γ Φ)) : S (tIfS tt t u) Γ Φ := fun B0 H0 D σ B H d a =>
  h σ B H a.inn a.rel _ fun b B' H' st ⟨k1, k2⟩ => by
    cases b with
    | true => exact iteT (k1 rfl B0 H0 D σ B' H' d (a.step st))
    | false => exact iteF (k2 rfl B0 H0 D σ B' H' d (a.step st))
theorem S_aug {i : Nat} {f : Int → Int → Int} {n : Int} (hi : Γ[i]? = some (.pl (vS (.int n)))) (h : E te Γ fun s => ∃ m, s = vS (.int m) ∧ Φ.nx (Γ.set i (.pl (vS (.int (f n m)))))) : S (tAug i te (ipI f)) Γ Φ := fun B0 H0 D σ B H d a => by
  obtain ⟨v, e, p⟩ := a.rel.pl i _ hi
  obtain rfl : v = .int n := p
  refine ⟨_, e, h σ B H a.inn a.rel _ fun s v B' H' st p k => ?_⟩
  obtain ⟨m, rfl, k⟩ := k
  obtain rfl : v = .int m := p
  exact ⟨n, m, rfl, rfl, d.nx _ _ B' H' ((a.step st).set rfl) k⟩
theorem S.imp {Φ' : Ks} (k0 : Φ'.er = Φ.er) (k5 : ∀ x, Φ.ex x → Φ'.ex x) (h : S t Γ Φ) (k1 : ∀ Γ, Φ.nx Γ → Φ'.nx Γ) (k2 : ∀ s Γ, Φ.rt s Γ → Φ'.rt s Γ) (k3 : ∀ Γ, Φ.bk Γ → Φ'.bk Γ) (k4 : ∀ Γ, Φ.ct Γ → Φ'.ct Γ) : S t Γ Φ' := fun B0 H0 D σ B H d a =>
  h B0 H0 D σ B H ⟨fun Γ' σ' B' H' a' k => d.nx Γ' σ' B' H' a' (k1 _ k), fun s v Γ' σ' B' H' st p k => d.rt s v Γ' σ' B' H' st p (k2 _ _ k), fun Γ' σ' B' H' a' k => d.bk Γ' σ' B' H' a' (k3 _ k), fun Γ' σ' B' H' a' k => d.ct Γ' σ' B' H' a' (k4 _ k), fun x dd Γ' σ' B' H' a' xa k => k0 ▸ d.ex x dd Γ' σ' B' H' a' xa (k5 x k)⟩ a
end

/-! ### a def's body -/
def entry (N : List Str) (ss : List Slot) : List Bd := ss.map .pl ++ List.replicate (N.length - ss.length) .no
theorem entry_own {N : List Str} {ss : List Slot} {i : Nat} {p : Addr} {ts : List Slot} (h : (entry N ss)[i]? = some (.own p ts)) : False := by
  unfold entry at h
  by_cases hi : i < ss.length
  · rw [List.getElem?_append_left (by simpa using hi), List.getElem?_map] at h
    cases e : ss[i]? with
    | none => rw [e] at h; cases h
    | some s' => rw [e] at h; cases h
  · rw [List.getElem?_append_right (by simpa using hi), List.getElem?_replicate] at h
    split at h <;> cases h
theorem rel_entry {N : List Str} {vs : List V} {ss : List Slot} {B H : Hp} (p : PSl vs ss B) : Rel (L2.start N vs) B H (entry N ss) where
  len := by unfold L2.start entry; simp [p.length]
  pl := fun i s h => by
    unfold entry at h
    by_cases hi : i < ss.length
    · rw [List.getElem?_append_left (by simpa using hi), List.getElem?_map] at h
      cases e : ss[i]? with
      | none => rw [e] at h; cases h
      | some s' =>
        rw [e] at h; cases h
        obtain ⟨v, ev, pv⟩ := p.get e
        refine ⟨v, ?_, pv⟩
        unfold L2.start
        rw [List.getElem?_append_left (by rw [List.length_map, p.length]; exact hi), List.getElem?_map, ev]; rfl
    · rw [List.getElem?_append_right (by simpa using hi), List.getElem?_replicate] at h
      split at h <;> cases h
  own := fun i p s h => (entry_own h).elim
  dis := fun i j p s s' h _ => (entry_own h).elim
theorem at_entry {N : List Str} {vs : List V} {ss : List Slot} {B H : Hp} (b : Same B H) (p : PSl vs ss B) : At B H (L2.start N vs) B H (entry N ss) :=
  ⟨rel_entry p, b, Same.refl _, fun a h1 _ => ⟨h1, rfl⟩, fun i p' ss' h => (entry_own h).elim⟩
section
variable {P : Program} {w : World} {K : PySem.W.Frag} {mg : Str → Option Value} {base : Heap}
/-- a def that raises nothing -/
theorem ok0 {x qual : Str} {st : Stmt} {f : Addr} {fd : FuncData} {N ps : List Str} {k : Nat} {F : FS} (Fn : Fun K x qual st f fd) (Sc : FnScope N ps (defScope st)) (len : ∀ ss Φ Ψ, F ss Φ Ψ → ss.length = ps.length)
    (hb : ∀ (cdv : Value) (Ar : Around) (outer : List Env) (s : Shared) (H : Hp) (Er : XK), Room k (Ar.deeper (envOfC qual (defScope st) s.heap.objs.size f cdv)) →
      ∃ t, PSs (cxOf CX0 P w K mg base N qual (defScope st) f cdv Ar outer s H Er).nox (defBody st) t ∧ ∀ ss Φ Ψ, F ss Φ Ψ → S t (entry N ss) { nx := fun _ => Φ (vS .non), rt := fun s _ => Φ s, bk := fun _ => False, ct := fun _ => False }) : FnOk P w K mg base CX0 (k + 1) f fd ps (spOf F) := by
  refine Fn.ok Sc (fun vs H Q Er h => ?_) (fun cdv Ar outer s H vs Q Er hr h => ?_)
  · obtain ⟨B, ss, Φ, Ψ, b, p, hf, _⟩ := h
    rw [p.length, len ss Φ Ψ hf]
  · obtain ⟨t, ht, hs⟩ := hb cdv Ar outer s H Er hr
    obtain ⟨B, ss, Φ, Ψ, b, p, hf, k1, k2⟩ := h
    exact ⟨t, ht, hs ss Φ Ψ hf B H _ _ B H ⟨fun Γ σ B' H' a q => k1 _ .non B' H' a.to rfl q, fun s v Γ σ B' H' a pv q => k1 s v B' H' a.to pv q, fun _ _ _ _ _ z => z.elim, fun _ _ _ _ _ z => z.elim, fun _ _ _ _ _ _ _ _ z => z.elim⟩ (at_entry b p)⟩
end
section
variable {P : Program} {w : World} {K : PySem.W.Frag} {mg : Str → Option Value} {base : Heap}
/-- a def that may raise -/
theorem okX {x qual : Str} {st : Stmt} {f : Addr} {fd : FuncData} {N ps : List Str} {k : Nat} {F : FS} (Fn : Fun K x qual st f fd) (Sc : FnScope N ps (defScope st)) (len : ∀ ss Φ Ψ, F ss Φ Ψ → ss.length = ps.length)
    (hb : ∀ (cdv : Value) (Ar : Around) (outer : List Env) (s : Shared) (H : Hp) (Er : XK), Room k (Ar.deeper (envOfC qual (defScope st) s.heap.objs.size f cdv)) →
      ∃ t, PSs (cxOf (L2.CX P w) P w K mg base N qual (defScope st) f cdv Ar outer s H Er) (defBody st) t ∧ ∀ ss Φ Ψ, F ss Φ Ψ → S t (entry N ss) { nx := fun _ => Φ (vS .non), rt := fun s _ => Φ s, bk := fun _ => False, ct := fun _ => False, er := Er, ex := Ψ }) : FnOk P w K mg base (L2.CX P w) (k + 1) f fd ps (spOf F) := by
  refine Fn.okX Sc (fun vs H Q Er h => ?_) (fun cdv Ar outer s H vs Q Er hr h => ?_)
  · obtain ⟨B, ss, Φ, Ψ, b, p, hf, _⟩ := h
    rw [p.length, len ss Φ Ψ hf]
  · obtain ⟨t, ht, hs⟩ := hb cdv Ar outer s H Er hr
    obtain ⟨B, ss, Φ, Ψ, b, p, hf, k1, k2⟩ := h
    exact ⟨t, ht, hs ss Φ Ψ hf B H _ _ B H ⟨fun Γ σ B' H' a q => k1 _ .non B' H' a.to rfl q, fun s v Γ σ B' H' a pv q => k1 s v B' H' a.to pv q, fun _ _ _ _ _ z => z.elim, fun _ _ _ _ _ z => z.elim, fun x d Γ σ B' H' a xa q => k2 x d B' H' a.to xa q⟩ (at_entry b p)⟩
end
section
variable {Γ : List Bd} {Φ : Ks} {tr : TA} {F : FS}
/-- a call that may raise, as a statement, an assignment, a return -/
theorem S_dropX (h : A tr Γ fun ss => F ss (fun _ => Φ.nx Γ) Φ.ex) : S (tDrop (tCall (spOf F) [] Φ.er tr)) Γ Φ := fun B0 H0 D σ B H d a =>
  h σ B H a.inn a.rel _ fun ss vs B1 H1 st p f => by
    rw [List.append_nil]
    exact ⟨B1, ss, _, Φ.ex, st.inn, p, f, fun s v B' H' st' pv k => d.nx _ _ B' H' ((a.step st).step st') k, fun x dd B' H' st' xa k => d.ex x dd _ _ B' H' ((a.step st).step st') xa k⟩
theorem S_asgX {i : Nat} (h : A tr Γ fun ss => F ss (fun s => Φ.nx (Γ.set i (.pl s))) Φ.ex) : S (tAsg (tCall (spOf F) [] Φ.er tr) (gName i)) Γ Φ := fun B0 H0 D σ B H d a =>
  h σ B H a.inn a.rel _ fun ss vs B1 H1 st p f => by
    rw [List.append_nil]
    exact ⟨B1, ss, _, Φ.ex, st.inn, p, f, fun s v B' H' st' pv k => d.nx _ _ B' H' (((a.step st).step st').set pv) k, fun x dd B' H' st' xa k => d.ex x dd _ _ B' H' ((a.step st).step st') xa k⟩
theorem S_retX (h : A tr Γ fun ss => F ss (fun s => Φ.rt s Γ) Φ.ex) : S (tRet (tCall (spOf F) [] Φ.er tr)) Γ Φ := fun B0 H0 D σ B H d a =>
  h σ B H a.inn a.rel _ fun ss vs B1 H1 st p f => by
    rw [List.append_nil]
    exact ⟨B1, ss, _, Φ.ex, st.inn, p, f, fun s v B' H' st' pv k => d.rt s v _ _ B' H' ((a.step st).step st') pv k, fun x dd B' H' st' xa k => d.ex x dd _ _ B' H' ((a.step st).step st') xa k⟩
end
end Ab

/-! AbB -/
namespace Ab
open PySem PySem.Spec PyProof.Rows L2

/-! ### defs of the module's top -/
structure DfG (K : PySem.W.Frag) (mg : Str → Option Value) (x qual : Str) (st : Stmt) (ps : List Str) where
  f : Addr
  fd : FuncData
  F : Fun K x qual st f fd
  b : Binds K fd ps []
  g : mg x = some (.ref f)

section
variable {X : Cx}
/-- // by a divisor that is not nought, of fewer than 9000 bits -/
def CDivNW (_ j : Int) : Prop := j ≠ 0 ∧ j.natAbs.log2 < 9000
theorem op_fdivNW : OpR X (binaryOp .FloorDiv) (rI CDivNW fun i j => .int (i.fdiv j)) := opI fun i j _ _ _ _ _ hc q => floordiv_int hc.1 q (.inl (PyProof.noPylong_of_log2 hc.2))
end
theorem CDivNW.of {i j : Int} {b : Nat} (h : j ≠ 0) (hb : j.natAbs < 2 ^ b) (h0 : 0 < b) (h9 : b ≤ 9000) : CDivNW i j := ⟨h, Nat.lt_of_lt_of_le (PySem.Flt.log2_lt_of h0 hb) h9⟩

section
variable {K : PySem.W.Frag} {Γ : List Bd} {Φ : Slot → Prop} {Φb : Bool → Prop} {Φk : Ks} {ta tb te : TE} {t u : TS} {tr : TA}
theorem C_gcd {a b : Int} (k : Φ (vS (.int ((Nat.gcd a.natAbs b.natAbs : Nat) : Int)))) : C rGcd [vS (.int a), vS (.int b)] Φ := fun vs B H b' p Q q => by
  cases p with
  | cons h1 p => cases p with
    | cons h2 p =>
      cases p
      exact ⟨a, b, by rw [show _ = _ from h1, show _ = _ from h2], q _ _ B H (.refl b') rfl k⟩
/-- a, b = e1, e2 -/
theorem S_par {i j : Nat} (h : A tr Γ fun ss => ∃ s s', ss = [s, s'] ∧ Φk.nx ((Γ.set i (.pl s)).set j (.pl s'))) : S (tPar i j tr) Γ Φk := fun B0 H0 D σ B H d a =>
  h σ B H a.inn a.rel _ fun ss vs B' H' st p ⟨s, s', e, k⟩ => by
    subst e
    cases p with
    | cons h1 p => cases p with
      | cons h2 p =>
        cases p
        exact ⟨_, _, rfl, d.nx _ _ B' H' (((a.step st).set h1).set h2) k⟩
/-- while, by a word of the places and a measure -/
theorem S_while {tt : TT} (W : Nat → List Bd → Prop) (m0 : Nat) (h0 : W m0 Γ)
    (hs : ∀ m Γ', W m Γ' → T tt Γ' fun b => (b = true → S t Γ' { Φk with nx := fun Γ'' => ∃ m', m' < m ∧ W m' Γ'', ct := fun Γ'' => ∃ m', m' < m ∧ W m' Γ'', bk := Φk.nx }) ∧ (b = false → Φk.nx Γ')) : S (tWhile tt t) Γ Φk := fun B0 H0 D σ B H d a => by
  refine ⟨fun m σ' H' => ∃ Γ' B', At B0 H0 σ' B' H' Γ' ∧ W m Γ', ⟨m0, Γ, B, a, h0⟩, ?_⟩
  rintro m σ' H' ⟨Γ', B', a', w⟩
  refine hs m Γ' w σ' B' H' a'.inn a'.rel _ fun b B2 H2 st ⟨k1, k2⟩ => ?_
  have a2 := a'.step st
  cases b with
  | true =>
    refine iteT ⟨fun σ3 H3 => ∃ m', m' < m ∧ ∃ Γ'' B'', At B0 H0 σ3 B'' H3 Γ'' ∧ W m' Γ'', fun σ3 H3 z => z, ?_⟩
    exact k1 rfl B0 H0 _ σ' B2 H2 ⟨fun Γ'' σ'' B'' H'' a'' ⟨m', hm, w'⟩ => ⟨m', hm, Γ'', B'', a'', w'⟩, d.rt, d.nx, fun Γ'' σ'' B'' H'' a'' ⟨m', hm, w'⟩ => ⟨m', hm, Γ'', B'', a'', w'⟩, d.ex⟩ a2
  | false => exact iteF (d.nx Γ' σ' B2 H2 a2 (k2 rfl))
theorem C_abs {a : Int} (k : Φ (vS (.int (if a < 0 then -a else a)))) : C (fun xs H Q => ∃ i : Int, xs = [.int i] ∧ Q (.int (if i < 0 then -i else i)) H) [vS (.int a)] Φ := fun vs B H b' p Q q => by
  cases p with
  | cons h1 p =>
    cases p
    exact ⟨a, by rw [show _ = _ from h1], q _ _ B H (.refl b') rfl k⟩
theorem C_int {a : Int} (k : Φ (vS (.int a))) : C (fun xs H Q => (∃ i : Int, xs = [.int i] ∧ Q (.int i) H) ∨ (∃ k : Bool, xs = [.bl k] ∧ Q (.int (if k then 1 else 0)) H)) [vS (.int a)] Φ := fun vs B H b' p Q q => by
  cases p with
  | cons h1 p =>
    cases p
    exact .inl ⟨a, by rw [show _ = _ from h1], q _ _ B H (.refl b') rfl k⟩
end
def ratS (K : PySem.W.Frag) (q : Rat) : Slot := tupS K [vS (.int q.num), vS (.int q.den)]
end Ab

/-! AbC -/
namespace Ab
open PySem PySem.Spec PyProof.Rows L2

/-! ### targets -/
/-- the target takes a value of the slot s; only the places in vs are written -/
def Gj (g : TG) (vs : List Nat) (s : Slot) (Γ : List Bd) (Ψ : List Bd → Prop) : Prop := ∀ σ B H v, Same B H → Rel σ B H Γ → s.P v B → ∀ Q : L2.St → Hp → Prop,
  (∀ Γ' σ', Rel σ' B H Γ' → (∀ (i : Nat), i ∉ vs → σ'[i]? = σ[i]?) → σ'.length = σ.length → (∀ (i : Nat) (p : Addr) (ss : List Slot), Γ'[i]? = some (.own p ss) → ∃ (j : Nat) (ss' : List Slot), Γ[j]? = some (.own p ss')) → Ψ Γ' → Q σ' H) → g v σ H Q
def Gjs (g : TGs) (vs : List Nat) (ss : List Slot) (Γ : List Bd) (Ψ : List Bd → Prop) : Prop := ∀ σ B H xs, Same B H → Rel σ B H Γ → PSl xs ss B → ∀ Q : L2.St → Hp → Prop,
  (∀ Γ' σ', Rel σ' B H Γ' → (∀ (i : Nat), i ∉ vs → σ'[i]? = σ[i]?) → σ'.length = σ.length → (∀ (i : Nat) (p : Addr) (ss : List Slot), Γ'[i]? = some (.own p ss) → ∃ (j : Nat) (ss' : List Slot), Γ[j]? = some (.own p ss')) → Ψ Γ' → Q σ' H) → g xs σ H Q
section
variable {K : PySem.W.Frag} {Γ : List Bd} {Ψ : List Bd → Prop} {vs : List Nat}
theorem G_name {i : Nat} {s : Slot} (hi : i ∈ vs) (k : Ψ (Γ.set i (.pl s))) : Gj (gName i) vs s Γ Ψ := fun σ B H v b r p Q q =>
  q _ _ (r.set p) (fun j hj => by rw [List.getElem?_set_ne (fun z => hj (by rw [← z]; exact hi))]) (by rw [List.length_set]) (fun j p' ss h1 => by
    rcases getElem?_set_some h1 with ⟨rfl, e, hl⟩ | ⟨hj, h1⟩
    · cases e
    · exact ⟨j, ss, h1⟩) k
theorem G_nil (k : Ψ Γ) : Gjs gNil vs [] Γ Ψ := fun σ B H xs b r p Q q => by
  cases p
  exact ⟨rfl, q _ _ r (fun _ _ => rfl) rfl (fun j p' ss h1 => ⟨j, ss, h1⟩) k⟩
theorem G_cons {t : TG} {u : TGs} {s : Slot} {ss : List Slot} (h : Gj t vs s Γ fun Γ' => Gjs u vs ss Γ' Ψ) : Gjs (gCons t u) vs (s :: ss) Γ Ψ := fun σ B H xs b r p Q q => by
  cases p with
  | cons p1 p2 =>
    refine ⟨_, _, rfl, h σ B H _ b r p1 _ fun Γ' σ' r' o1 l1 w1 k => k σ' B H _ b r' p2 Q fun Γ'' σ'' r'' o2 l2 w2 k2 => q Γ'' σ'' r'' (fun i hi => (o2 i hi).trans (o1 i hi)) (l2.trans l1) (fun i p' s' h1 => ?_) k2⟩
    obtain ⟨j, s'', h3⟩ := w2 i p' s' h1
    exact w1 j p' s'' h3
theorem G_tup {n : Nat} {t : TGs} {ss : List Slot} (hn : ss.length = n) (h : Gjs t vs ss Γ Ψ) : Gj (gTup K n t) vs (tupS K ss) Γ Ψ := fun σ B H v b r p Q q => by
  obtain ⟨a, xs, e, ht, hp⟩ := p
  exact ⟨a, xs, e, Same.tup b ht, by rw [hp.length]; exact hn, h σ B H xs b r hp Q q⟩
end
/-! ### for -/
theorem At.of {B0 H0 : Hp} {σ σ' : L2.St} {B H : Hp} {Γ Γ' : List Bd} (a : At B0 H0 σ B H Γ) (r : Rel σ' B H Γ') (w : ∀ (i : Nat) (p : Addr) (ss : List Slot), Γ'[i]? = some (.own p ss) → ∃ (j : Nat) (ss' : List Slot), Γ[j]? = some (.own p ss')) : At B0 H0 σ' B H Γ' :=
  ⟨r, a.inn, a.base, a.out, fun i p ss h1 => by
    obtain ⟨j, ss', h3⟩ := w i p ss h1
    exact a.mine j p ss' h3⟩
/-- the state at hand as an entry: what was in the heap at the entry stands, and the base of now -/
def mrg (B H0 : Hp) : Hp := fun a => match B a with
  | some o => some o
  | none => H0 a
theorem mrg_some {B H0 : Hp} {a : Addr} {o : HO} (h : B a = some o) : mrg B H0 a = some o := by unfold mrg; rw [h]
theorem mrg_none {B H0 : Hp} {a : Addr} (h : B a = none) : mrg B H0 a = H0 a := by unfold mrg; rw [h]
theorem At.here {B0 H0 : Hp} {σ : L2.St} {B H : Hp} {Γ : List Bd} (a : At B0 H0 σ B H Γ) : At B (mrg B H0) σ B H Γ :=
  ⟨a.rel, a.inn, Same.refl _, fun x h1 h2 => by
    rw [mrg_none h1] at h2 ⊢
    have hb : B0 x = none := a.base.free h1
    exact a.out x hb h2, fun i p ss h1 => by
    obtain ⟨e1, e2, _⟩ := a.rel.own i p ss h1
    rw [mrg_none e2]
    exact a.mine i p ss h1⟩
theorem At.back {B0 H0 : Hp} {σ σ' : L2.St} {B H B' H' : Hp} {Γ Γ' : List Bd} (a : At B0 H0 σ B H Γ) (b : At B (mrg B H0) σ' B' H' Γ') : At B0 H0 σ' B' H' Γ' :=
  ⟨b.rel, b.inn, a.base.trans b.base, fun x h1 h2 => by
    obtain ⟨p, q⟩ := a.out x h1 h2
    have := b.out x p (by rw [mrg_none p]; exact h2)
    rw [mrg_none p] at this
    exact this, fun i p ss h1 => by
    have := b.mine i p ss h1
    cases q : B p with
    | none => rw [mrg_none q] at this; exact this
    | some o => rw [mrg_some q] at this; cases this⟩
theorem Step.back {B0 H0 : Hp} {σ : L2.St} {B H B' H' : Hp} {Γ : List Bd} (a : At B0 H0 σ B H Γ) (b : Step B (mrg B H0) B' H') : Step B0 H0 B' H' :=
  ⟨b.inn, a.base.trans b.base, fun x h1 h2 => by
    obtain ⟨p, q⟩ := a.out x h1 h2
    have := b.out x p (by rw [mrg_none p]; exact h2)
    rw [mrg_none p] at this
    exact this⟩
theorem DOk.here {B0 H0 : Hp} {σ : L2.St} {B H : Hp} {Γ : List Bd} {D : Ends} {Φ : Ks} (a : At B0 H0 σ B H Γ) (d : DOk B0 H0 D Φ) : DOk B (mrg B H0) D Φ :=
  ⟨fun Γ' σ' B' H' b k => d.nx Γ' σ' B' H' (a.back b) k, fun s v Γ' σ' B' H' b p k => d.rt s v Γ' σ' B' H' (a.back b) p k, fun Γ' σ' B' H' b k => d.bk Γ' σ' B' H' (a.back b) k, fun Γ' σ' B' H' b k => d.ct Γ' σ' B' H' (a.back b) k, fun x dd Γ' σ' B' H' b xa k => d.ex x dd Γ' σ' B' H' (a.back b) xa k⟩
section
variable {K : PySem.W.Frag} {Γ : List Bd} {Φ : Ks} {te tl : TE} {t : TS} {g : TG}
/-- for x in a list that the body leaves as it is -/
theorem S_forL {ss : List Slot} (vs : List Nat) (W : Nat → List Bd → Prop) (h : E tl Γ fun s => s = lstS ss ∧ W 0 Γ)
    (hs : ∀ (i : Nat) (s : Slot) Γ', ss[i]? = some s → W i Γ' → Gj g vs s Γ' fun Γ'' => S t Γ'' { Φ with nx := W (i + 1), ct := W (i + 1), bk := Φ.nx }) (hd : ∀ Γ', W ss.length Γ' → Φ.nx Γ') : S (tFor (iList K tl) g t) Γ Φ := fun B0 H0 D σ B H d a =>
  h σ B H a.inn a.rel _ fun s v B1 H1 st p ⟨e, w0⟩ => by
    subst e
    obtain ⟨l, xs, rfl, hl, hp⟩ := p
    have a1 := a.step st
    have d1 := d.here a1
    refine ⟨l, rfl, ⟨xs, SqL.of (st.inn _ _ hl)⟩, for_list (fun i σ' H' => ∃ Γ' B', At B1 (mrg B1 H0) σ' B' H' Γ' ∧ W i Γ') ⟨Γ, B1, a1.here, w0⟩ (fun i σ' H' _ ⟨Γ', B', a', _⟩ => SqL.of (a'.inn _ _ (a'.base _ _ hl))) ?_ ?_⟩
    · rintro i x σ' H' hi ⟨Γ', B', a', w⟩
      obtain ⟨s, es, ps⟩ := hp.getR hi
      refine hs i s Γ' es w σ' B' H' x a'.inn a'.rel (s.mono a'.base ps) _ fun Γ'' σ'' r o l' wn k => ?_
      exact k B1 (mrg B1 H0) _ σ'' B' H' ⟨fun Γ3 σ3 B3 H3 a3 k3 => ⟨Γ3, B3, a3, k3⟩, d1.rt, d1.nx, fun Γ3 σ3 B3 H3 a3 k3 => ⟨Γ3, B3, a3, k3⟩, d1.ex⟩ (a'.of r wn)
    · rintro σ' H' ⟨Γ', B', a', w⟩
      rw [hp.length] at w
      exact d1.nx Γ' σ' B' H' a' (hd Γ' w)
/-- for x in a tuple -/
theorem S_forT {ss : List Slot} (vs : List Nat) (W : Nat → List Bd → Prop) (h : E tl Γ fun s => s = tupS K ss ∧ W 0 Γ)
    (hs : ∀ (i : Nat) (s : Slot) Γ', ss[i]? = some s → W i Γ' → Gj g vs s Γ' fun Γ'' => S t Γ'' { Φ with nx := W (i + 1), ct := W (i + 1), bk := Φ.nx }) (hd : ∀ Γ', W ss.length Γ' → Φ.nx Γ') : S (tFor (iTup K tl) g t) Γ Φ := fun B0 H0 D σ B H d a =>
  h σ B H a.inn a.rel _ fun s v B1 H1 st p ⟨e, w0⟩ => by
    subst e
    obtain ⟨l, xs, rfl, hl, hp⟩ := p
    have a1 := a.step st
    have d1 := d.here a1
    refine ⟨l, rfl, ⟨xs, Same.tup st.inn hl⟩, for_tup (fun i σ' H' => ∃ Γ' B', At B1 (mrg B1 H0) σ' B' H' Γ' ∧ W i Γ') ⟨Γ, B1, a1.here, w0⟩ (fun i σ' H' _ ⟨Γ', B', a', _⟩ => Same.tup a'.inn (Same.tup a'.base hl)) ?_ ?_⟩
    · rintro i x σ' H' hi ⟨Γ', B', a', w⟩
      obtain ⟨s, es, ps⟩ := hp.getR hi
      refine hs i s Γ' es w σ' B' H' x a'.inn a'.rel (s.mono a'.base ps) _ fun Γ'' σ'' r o l' wn k => ?_
      exact k B1 (mrg B1 H0) _ σ'' B' H' ⟨fun Γ3 σ3 B3 H3 a3 k3 => ⟨Γ3, B3, a3, k3⟩, d1.rt, d1.nx, fun Γ3 σ3 B3 H3 a3 k3 => ⟨Γ3, B3, a3, k3⟩, d1.ex⟩ (a'.of r wn)
    · rintro σ' H' ⟨Γ', B', a', w⟩
      rw [hp.length] at w
      exact d1.nx Γ' σ' B' H' a' (hd Γ' w)
end
/-! ### comprehensions -/
theorem wipe_out {σ σ' : L2.St} (hl : σ'.length = σ.length) : ∀ {vs : List Nat}, (∀ i : Nat, i ∉ vs → σ'[i]? = σ[i]?) → wipe σ' vs = wipe σ vs := fun {vs} h => by
  have get : ∀ (τ : L2.St) (vs : List Nat) (i : Nat), (wipe τ vs)[i]? = if i ∈ vs ∧ i < τ.length then some none else τ[i]? := by
    intro τ vs
    induction vs with
    | nil => intro i; simp [wipe]
    | cons v vs ih =>
      intro i
      unfold wipe
      rw [List.getElem?_set, wipe_length, ih]
      by_cases e : v = i
      · subst e
        by_cases hv : v < τ.length
        · simp [hv]
        · simp [hv]
      · have e' : ¬ i = v := fun z => e z.symm
        simp [e, e']
  apply List.ext_getElem?
  intro i
  rw [get, get, hl]
  by_cases hi : i ∈ vs
  · by_cases h2 : i < σ.length
    · simp [hi, h2]
    · simp [hi, h2]; omega
  · simp [hi, h i hi]
def wipeB (Γ : List Bd) : List Nat → List Bd
  | [] => Γ
  | v :: vs => (wipeB Γ vs).set v .no
theorem Rel.wipe {B H : Hp} {Γ : List Bd} {σ : L2.St} (r : Rel σ B H Γ) : ∀ vs : List Nat, Rel (L2.wipe σ vs) B H (wipeB Γ vs)
  | [] => r
  | v :: vs => (Rel.wipe r vs).setNo
end Ab

/-! AbD -/
namespace Ab
open PySem PySem.Spec PyProof.Rows L2

/-! ### comprehensions -/
def LcP (B1 H1 : Hp) (Dl : Addr) (outs : List Slot) (H : Hp) : Prop := ∃ B ys, Step B1 H1 B H ∧ B Dl = none ∧ H Dl = some (.lst ys) ∧ PSl ys outs B
theorem LcP.start {B1 H1 : Hp} {Dl : Addr} (b : Same B1 H1) (hD : H1 Dl = none) : LcP B1 H1 Dl [] (upd H1 Dl (.lst [])) :=
  ⟨B1, [], ⟨fun a o e => by rw [upd_ne (ne_of_none e (b.free hD))]; exact b _ _ e, Same.refl _, fun a h1 h2 => ⟨h1, upd_ne fun z => h2 (by rw [z]; exact hD)⟩⟩, b.free hD, upd_same, .nil⟩
theorem LcP.add {B1 H1 B H : Hp} {Dl : Addr} {outs : List Slot} {ys : List V} {y : V} {o : Slot} (st : Step B1 H1 B H) (hD1 : H1 Dl = none) (hB : B Dl = none) (hH : H Dl = some (.lst ys)) (p : PSl ys outs B) (py : o.P y B) : LcP B1 H1 Dl (outs ++ [o]) (upd H Dl (.lst (ys ++ [y]))) :=
  ⟨B, ys ++ [y], ⟨fun a u e => by rw [upd_ne (ne_of_none e hB)]; exact st.inn _ _ e, st.base, fun a h1 h2 => by
    obtain ⟨q1, q2⟩ := st.out a h1 h2
    exact ⟨q1, by rw [upd_ne fun z => h2 (by rw [z]; exact hD1)]; exact q2⟩⟩, hB, upd_same, p.append (.cons py .nil)⟩
theorem LcP.fin {B1 H1 H : Hp} {Dl : Addr} {outs : List Slot} (b : Same B1 H1) (hD1 : H1 Dl = none) (h : LcP B1 H1 Dl outs H) : ∃ B', Step B1 H1 B' H ∧ (lstS outs).P (.ref Dl) B' := by
  obtain ⟨B, ys, st, hB, hH, p⟩ := h
  have sm : Same B (upd B Dl (.lst ys)) := fun a o e => by rw [upd_ne (ne_of_none e hB)]; exact e
  refine ⟨upd B Dl (.lst ys), ⟨fun a o e => ?_, st.base.trans sm, fun a h1 h2 => ?_⟩, Dl, ys, rfl, upd_same, p.mono sm⟩
  · by_cases ha : a = Dl
    · subst ha; rw [upd_same] at e; cases e; exact hH
    · rw [upd_ne ha] at e; exact st.inn _ _ e
  · obtain ⟨q1, q2⟩ := st.out a h1 h2
    have ha : a ≠ Dl := fun z => h2 (by rw [z]; exact hD1)
    exact ⟨by rw [upd_ne ha]; exact q1, q2⟩
theorem wipe_at {σ : L2.St} {i : Nat} : ∀ {vs : List Nat}, i ∉ vs → (wipe σ vs)[i]? = σ[i]?
  | [], _ => rfl
  | v :: vs, h => by
    unfold wipe
    rw [List.getElem?_set_ne (fun z => h (by rw [z]; exact List.mem_cons_self ..))]
    exact wipe_at (vs := vs) (fun hm => h (List.mem_cons_of_mem _ hm))
theorem PSl.written {H : Hp} : ∀ {cs vs : List V}, PSl vs (cs.map vS) H → vs = cs
  | [], _, .nil => rfl
  | c :: cs, _, .cons a p => by rw [show _ = c from a, PSl.written p]
section
variable {α : Type} {K : PySem.W.Frag} {Γ : List Bd} {Φ : Slot → Prop} {te tl : TE} {tt : TT} {g : TG} {vs : List Nat} {ta : TA}
/-- one turn: from the item's slot s; b tells whether it gives, o what -/
def LcT (g : TG) (tt : TT) (te : TE) (vs : List Nat) (Γ : List Bd) (s : Slot) (b : Bool) (o : Slot) : Prop := Gj g vs s (wipeB Γ vs) fun Γ' => T tt Γ' fun c => c = b ∧ (b = true → E te Γ' fun o' => o' = o)
theorem LcT.run {σ : L2.St} {B1 H1 H' : Hp} {Dl : Addr} {outs : List Slot} {s o : Slot} {b : Bool} {x : V} (h : LcT g tt te vs Γ s b o) (r : Rel σ B1 H1 Γ) (hD1 : H1 Dl = none) {B' : Hp} {ys : List V} (st : Step B1 H1 B' H') (hB : B' Dl = none) (hH : H' Dl = some (.lst ys)) (p : PSl ys outs B') (hl : ys.length < 60000)
    (px : s.P x B') : g x (wipe σ vs) H' fun σ2 H2 => wipe σ2 vs = wipe σ vs ∧ tt σ2 H2 fun c H3 => if c = true then te σ2 H3 fun y H4 => ∃ acc, H4 Dl = some (.lst acc) ∧ acc.length < sizeLine ∧ LcP B1 H1 Dl (if b then outs ++ [o] else outs) (upd H4 Dl (.lst (acc ++ [y]))) else LcP B1 H1 Dl (if b then outs ++ [o] else outs) H3 := by
  refine h (wipe σ vs) B' H' x st.inn ((r.wipe vs).step st) px _ fun Γ' σ' r' out hlen _ hT => ?_
  refine ⟨?_, hT σ' B' H' st.inn r' _ fun c B2 H2 st2 ⟨hc, hE⟩ => ?_⟩
  · rw [wipe_out hlen out]
    exact wipe_out (by rw [wipe_length]) fun i hi => wipe_at hi
  · subst hc
    have s2 := st.trans st2
    obtain ⟨q1, q2⟩ := st2.out Dl hB (by rw [hH]; simp)
    cases c with
    | true =>
      refine iteT (hE rfl σ' B2 H2 st2.inn (r'.step st2) _ fun o' y B3 H3 st3 py ho => ?_)
      subst ho
      obtain ⟨q3, q4⟩ := st3.out Dl q1 (by rw [q2, hH]; simp)
      exact ⟨ys, by rw [q4, q2]; exact hH, Nat.lt_of_lt_of_le hl (by decide), LcP.add (s2.trans st3) hD1 q3 (by rw [q4, q2]; exact hH) (p.mono (st2.base.trans st3.base)) py⟩
    | false => exact iteF ⟨B2, ys, s2, q1, by rw [q2]; exact hH, p.mono st2.base⟩
theorem take_filter {xs : List α} {i : Nat} {x : α} {p : α → Bool} {f : α → Slot} (h : xs[i]? = some x) : ((xs.take (i + 1)).filter p).map f = if p x then ((xs.take i).filter p).map f ++ [f x] else ((xs.take i).filter p).map f := by
  have hi := (List.getElem?_eq_some_iff.mp h).1
  rw [List.take_succ, h]
  simp only [Option.toList_some, List.filter_append, List.map_append]
  cases hp : p x <;> simp [List.filter_cons, hp]
theorem mapGet {xs : List α} {i : Nat} {f : α → Slot} {s : Slot} (h : (xs.map f)[i]? = some s) : ∃ x, xs[i]? = some x ∧ s = f x := by
  rw [List.getElem?_map] at h
  cases e : xs[i]? with
  | none => rw [e] at h; cases h
  | some x => rw [e] at h; exact ⟨x, rfl, (Option.some.inj h).symm⟩
/-- over a list -/
theorem E_lcL (xs : List α) (ps f : α → Slot) (p : α → Bool) (h : E tl Γ fun s => s = lstS (xs.map ps)) (hn : xs.length ≤ 50000) (ht : ∀ x ∈ xs, LcT g tt te vs Γ (ps x) (p x) (f x)) (k : Φ (lstS ((xs.filter p).map f))) : E (tLc (iList K tl) g tt te vs) Γ Φ := fun σ B H b rl Q q =>
  h σ B H b rl _ fun s v B1 H1 st pv e => by
    subst e
    obtain ⟨l, us, rfl, hl, hp⟩ := pv
    have hlen : us.length = xs.length := by rw [hp.length, List.length_map]
    refine ⟨l, rfl, ⟨us, SqL.of (st.inn _ _ hl)⟩, fun Dl hD => lc_list (xs := us) (fun i H' => LcP B1 H1 Dl (((xs.take i).filter p).map f) H') (LcP.start st.inn hD) (fun i H' _ ⟨B', ys, st', _⟩ => SqL.of (st'.inn _ _ (st'.base _ _ hl))) ?_ ?_⟩
    · rintro i x H' hi ⟨B', ys, st', hB, hH, py⟩
      obtain ⟨s, es, ps'⟩ := hp.getR hi
      obtain ⟨z, ez, rfl⟩ := mapGet es
      have hz := List.mem_of_getElem? ez
      have hl2 : ys.length < 60000 := by
        have h1 := List.length_filter_le p (xs.take i)
        rw [py.length, List.length_map]
        rw [List.length_take] at h1
        omega
      have := (ht z hz).run (rl.step st) hD st' hB hH py hl2 ((ps z).mono st'.base ps')
      rw [take_filter ez]
      exact this
    · intro H' w
      rw [hlen, List.take_length] at w
      obtain ⟨B', st', pl⟩ := w.fin st.inn hD
      exact q _ _ B' H' (st.trans st') pl k
/-- over a tuple -/
theorem E_lcT (xs : List α) (ps f : α → Slot) (p : α → Bool) (h : E tl Γ fun s => s = tupS K (xs.map ps)) (hn : xs.length ≤ 50000) (ht : ∀ x ∈ xs, LcT g tt te vs Γ (ps x) (p x) (f x)) (k : Φ (lstS ((xs.filter p).map f))) : E (tLc (iTup K tl) g tt te vs) Γ Φ := fun σ B H b rl Q q =>
  h σ B H b rl _ fun s v B1 H1 st pv e => by
    subst e
    obtain ⟨l, us, rfl, hl, hp⟩ := pv
    have hlen : us.length = xs.length := by rw [hp.length, List.length_map]
    refine ⟨l, rfl, ⟨us, Same.tup st.inn hl⟩, fun Dl hD => lc_tup (xs := us) (fun i H' => LcP B1 H1 Dl (((xs.take i).filter p).map f) H') (LcP.start st.inn hD) (fun i H' _ ⟨B', ys, st', _⟩ => Same.tup st'.inn (Same.tup st'.base hl)) ?_ ?_⟩
    · rintro i x H' hi ⟨B', ys, st', hB, hH, py⟩
      obtain ⟨s, es, ps'⟩ := hp.getR hi
      obtain ⟨z, ez, rfl⟩ := mapGet es
      have hz := List.mem_of_getElem? ez
      have hl2 : ys.length < 60000 := by
        have h1 := List.length_filter_le p (xs.take i)
        rw [py.length, List.length_map]
        rw [List.length_take] at h1
        omega
      have := (ht z hz).run (rl.step st) hD st' hB hH py hl2 ((ps z).mono st'.base ps')
      rw [take_filter ez]
      exact this
    · intro H' w
      rw [hlen, List.take_length] at w
      obtain ⟨B', st', pl⟩ := w.fin st.inn hD
      exact q _ _ B' H' (st.trans st') pl k
/-- over zip of two tuples of one length; the item's slot is a pair -/
theorem E_lcZT (xs : List (Slot × Slot)) (f : Slot × Slot → Slot) (h : A ta Γ fun ss => ss = [tupS K (xs.map (·.1)), tupS K (xs.map (·.2))]) (hn : xs.length ≤ 50000) (ht : ∀ x ∈ xs, LcT g tt te vs Γ (tupS K [x.1, x.2]) true (f x)) (k : Φ (lstS (xs.map f))) : E (tLc (RZ.iZipA K ta) g tt te vs) Γ Φ := fun σ B H b rl Q q =>
  h σ B H b rl _ fun ss vv B1 H1 st pv e => by
    subst e
    cases pv with
    | cons pa pv => cases pv with
      | cons pb pv =>
        cases pv
        obtain ⟨la, ua, rfl, hla, hpa⟩ := pa
        obtain ⟨lb, ub, rfl, hlb, hpb⟩ := pb
        have la1 : ua.length = xs.length := by rw [hpa.length, List.length_map]
        have lb1 : ub.length = xs.length := by rw [hpb.length, List.length_map]
        refine ⟨la, lb, ua, ub, rfl, .inr ⟨Same.tup st.inn hla, Same.tup st.inn hlb, fun Dl hD => ?_⟩⟩
        refine ⟨fun i m H' => m = xs.length - i ∧ i ≤ xs.length ∧ LcP B1 H1 Dl ((xs.take i).map f) H', ⟨xs.length, by simp, Nat.zero_le _, by simpa using LcP.start st.inn hD⟩, ?_⟩
        rintro i m H' ⟨rfl, hi, w⟩
        obtain ⟨B', ys, st', hB, hH, py⟩ := id w
        have qa : SqT K H' la ua := Same.tup st'.inn (Same.tup st'.base hla)
        have qb : SqT K H' lb ub := Same.tup st'.inn (Same.tup st'.base hlb)
        by_cases hlt : i < xs.length
        · refine .inr ⟨⟨ua, ub, ua[i], ub[i], qa, qb, by simp, by simp⟩, LcP B1 H1 Dl ((xs.take (i + 1)).map f), fun H2 p' => ⟨xs.length - (i + 1), by omega, rfl, hlt, p'⟩, fun v H2 y => ?_⟩
          obtain ⟨Tp, x, y, rfl, hT, rfl, ea, eb⟩ := y
          have ex := ea ua qa
          have ey := eb ub qb
          obtain ⟨sa, es, psa⟩ := hpa.getR ex
          obtain ⟨z, ez, rfl⟩ := mapGet es
          obtain ⟨sb, es2, psb⟩ := hpb.getR ey
          obtain ⟨z2, ez2, rfl⟩ := mapGet es2
          rw [ez] at ez2; cases ez2
          have hl2 : ys.length < 60000 := by
            rw [py.length, List.length_map, List.length_take]
            omega
          have hTD : Dl ≠ Tp := fun z => by rw [← z, hH] at hT; cases hT
          have st2 := st'.trans (Step.new (o := .tup [x, y]) st'.inn hT)
          have sm : Same B' (upd B' Tp (.tup [x, y])) := (Step.new (o := .tup [x, y]) st'.inn hT).base
          have := (ht z (List.mem_of_getElem? ez)).run (x := .ref Tp) (rl.step st) hD st2 (by rw [upd_ne hTD]; exact hB) (by rw [upd_ne hTD]; exact hH) (py.mono sm) hl2
            ⟨Tp, [x, y], rfl, .inl (.inl upd_same), .cons (z.1.mono (st'.base.trans sm) psa) (.cons (z.2.mono (st'.base.trans sm) psb) .nil)⟩
          have e : (xs.take (i + 1)).map f = (xs.take i).map f ++ [f z] := by rw [List.take_succ, ez]; simp
          rw [e]
          exact this
        · have e : i = xs.length := by omega
          subst e
          rw [List.take_length] at w
          obtain ⟨B', st', pl⟩ := w.fin st.inn hD
          exact .inl ⟨⟨ua, ub, qa, qb, .inl (by omega)⟩, q _ _ B' H' (st.trans st') pl k⟩
theorem T_yes {Φb : Bool → Prop} (k : Φb true) : T tYes Γ Φb := fun σ B H b rl Q q => q true B H (.refl b) k
end

/-! ### built-ins on slots -/
section
variable {K : PySem.W.Frag} {Γ : List Bd} {Φ : Slot → Prop} {ss tt : List Slot}
theorem C_len (s : Slot) (n : Nat) (hs : (s = lstS ss ∨ s = tupS K ss) ∧ ss.length = n) (k : Φ (vS (.int n))) : C (fun xs H Q => ∃ p ys, xs = [.ref p] ∧ (SqL K H p ys ∨ SqT K H p ys) ∧ Q (.int ys.length) H) [s] Φ := fun vs B H b p Q q => by
  obtain ⟨hs, hn⟩ := hs
  cases p with
  | cons h1 p =>
    cases p
    rcases hs with rfl | rfl
    · obtain ⟨a, us, rfl, hl, hp⟩ := h1
      exact ⟨a, us, rfl, .inl (SqL.of (b _ _ hl)), by rw [hp.length, hn]; exact q _ _ B H (.refl b) rfl k⟩
    · obtain ⟨a, us, rfl, hl, hp⟩ := h1
      exact ⟨a, us, rfl, .inr (Same.tup b hl), by rw [hp.length, hn]; exact q _ _ B H (.refl b) rfl k⟩
theorem PSl.bls {vs : List V} {bs : List Bool} {H : Hp} (h : PSl vs (bs.map fun b => vS (.bl b)) H) : vs = bs.map V.bl := by
  induction bs generalizing vs with
  | nil => cases h; rfl
  | cons b bs ih => cases h with
    | cons h1 h2 => rw [show _ = V.bl b from h1, ih h2]; rfl
theorem PSl.ints {vs : List V} {ns : List Int} {H : Hp} (h : PSl vs (ns.map fun n => vS (.int n)) H) : vs = ns.map V.int := by
  induction ns generalizing vs with
  | nil => cases h; rfl
  | cons b bs ih => cases h with
    | cons h1 h2 => rw [show _ = V.int b from h1, ih h2]; rfl
theorem C_all (bs : List Bool) (hs : ss = [lstS (bs.map fun b => vS (.bl b))]) (k : Φ (vS (.bl (bs.all id)))) : C (rAll K) ss Φ := fun vs B H b p Q q => by
  subst hs
  cases p with
  | cons h1 p =>
    cases p
    obtain ⟨a, us, rfl, hl, hp⟩ := h1
    have := hp.bls; subst this
    exact ⟨a, bs, rfl, SqL.of (b _ _ hl), q _ _ B H (.refl b) rfl k⟩
theorem C_any (bs : List Bool) (hs : ss = [lstS (bs.map fun b => vS (.bl b))]) (k : Φ (vS (.bl (bs.any id)))) : C (rAny K) ss Φ := fun vs B H b p Q q => by
  subst hs
  cases p with
  | cons h1 p =>
    cases p
    obtain ⟨a, us, rfl, hl, hp⟩ := h1
    have := hp.bls; subst this
    exact ⟨a, bs, rfl, SqL.of (b _ _ hl), q _ _ B H (.refl b) rfl k⟩
theorem C_sum (ns : List Int) (hs : ss = [lstS (ns.map fun n => vS (.int n))]) (k : Φ (vS (.int ns.sum))) : C (rSum K) ss Φ := fun vs B H b p Q q => by
  subst hs
  cases p with
  | cons h1 p =>
    cases p
    obtain ⟨a, us, rfl, hl, hp⟩ := h1
    have := hp.ints; subst this
    exact ⟨a, ns, rfl, SqL.of (b _ _ hl), q _ _ B H (.refl b) rfl k⟩
theorem R_cat (hz : ss.length + tt.length ≤ 100000) (k : Φ (lstS (ss ++ tt))) : R rCat (lstS ss) (lstS tt) Φ := fun x y B H b p1 p2 Q q => by
  obtain ⟨a, us, rfl, hl, hp⟩ := p1
  obtain ⟨a2, us2, rfl, hl2, hp2⟩ := p2
  exact ⟨a, a2, us, us2, rfl, rfl, b _ _ hl, b _ _ hl2, Nat.le_trans (by rw [hp.length, hp2.length]; exact hz) (by decide), fun p hp' => q (lstS (ss ++ tt)) _ (upd B p (.lst (us ++ us2))) _ (.new b hp')
    ⟨p, us ++ us2, rfl, upd_same, (hp.append hp2).mono (Step.new (o := .lst (us ++ us2)) b hp').base⟩ k⟩
/-! data for == -/
/-- what a slot is as data -/
def DpS (K : PySem.W.Frag) (s : Slot) (d : PyData) : Prop := ∀ v H, s.P v H → Dp K H v d
theorem dp_int (i : Int) : DpS K (vS (.int i)) (.int i) := fun v H h => by obtain rfl : v = .int i := h; exact .int i
theorem dp_bl (i : Bool) : DpS K (vS (.bl i)) (.bool i) := fun v H h => by obtain rfl : v = .bl i := h; exact .bl i
theorem dp_str (i : Str) : DpS K (vS (.str i)) (.str i) := fun v H h => by obtain rfl : v = .str i := h; exact .str i
theorem dp_non : DpS K (vS .non) .none := fun v H h => by obtain rfl : v = .non := h; exact .non
theorem dp_all : ∀ {ss : List Slot} {ds : List PyData}, Paired (DpS K) ss ds → ∀ vs H, PSl vs ss H → DpAll K H vs ds
  | _, _, .nil, _, _, .nil => .nil
  | _, _, .cons d r, _, _, .cons p q => .cons (d _ _ p) (dp_all r _ _ q)
theorem dp_tup {ds : List PyData} (h : Paired (DpS K) ss ds) : DpS K (tupS K ss) (.tuple ds) := fun v H p => by
  obtain ⟨a, us, rfl, hl, hp⟩ := p
  exact .tup hl (dp_all h _ _ hp)
theorem dp_lst {ds : List PyData} (h : Paired (DpS K) ss ds) : DpS K (lstS ss) (.list ds) := fun v H p => by
  obtain ⟨a, us, rfl, hl, hp⟩ := p
  exact .lst (SqL.of hl) (dp_all h _ _ hp)
theorem R_eqD {s t : Slot} {d e : PyData} (hs : DpS K s d) (ht : DpS K t e) (h1 : SeqAt.shaped d = true) (h2 : SeqAt.shaped e = true) (k : Φ (vS (.bl (PyData.eqv d e)))) : R (rEqD K) s t Φ := fun x y B H b p1 p2 Q q =>
  ⟨d, e, hs x H (s.mono b p1), ht y H (t.mono b p2), h1, h2, q _ _ B H (.refl b) rfl k⟩
theorem R_neD {s t : Slot} {d e : PyData} (hs : DpS K s d) (ht : DpS K t e) (h1 : SeqAt.shaped d = true) (h2 : SeqAt.shaped e = true) (k : Φ (vS (.bl (!PyData.eqv d e)))) : R (rNeD K) s t Φ := fun x y B H b p1 p2 Q q =>
  ⟨d, e, hs x H (s.mono b p1), ht y H (t.mono b p2), h1, h2, q _ _ B H (.refl b) rfl k⟩
/-! types -/
def TyS (K : PySem.W.Frag) (s : Slot) (t : Value) : Prop := ∀ v H, s.P v H → TyX K H v t
theorem ty_int (i : Int) : TyS K (vS (.int i)) (.type "int") := fun v H h => by obtain rfl : v = .int i := h; exact .base (.int i)
theorem ty_bl (i : Bool) : TyS K (vS (.bl i)) (.type "bool") := fun v H h => by obtain rfl : v = .bl i := h; exact .base (.bl i)
theorem ty_str (i : Str) : TyS K (vS (.str i)) (.type "str") := fun v H h => by obtain rfl : v = .str i := h; exact .base (.str i)
theorem ty_non : TyS K (vS .non) (.type "NoneType") := fun v H h => by obtain rfl : v = .non := h; exact .base .non
theorem ty_lst : TyS K (lstS ss) (.type "list") := fun v H p => by
  obtain ⟨a, us, rfl, hl, hp⟩ := p
  exact .base (.lst hl)
theorem ty_tup : TyS K (tupS K ss) (.type "tuple") := fun v H p => by
  obtain ⟨a, us, rfl, hl, hp⟩ := p
  rcases hl with (hl | ⟨o, hl⟩) | ⟨o, its, n, hl, hc, _⟩
  · exact .base (.tup hl)
  · exact .fTuple hl
  · exact .kTuple hl hc
theorem C_isi {s : Slot} {t u : Value} {c : V} {b : Bool} (hs : TyS K s t) (hc : ClsV c u) (hk : PySem.W.kitOne K t u = some b) (k : Φ (vS (.bl b))) : C (rIsi K) [s, vS c] Φ := fun vs B H bb p Q q => by
  cases p with
  | cons h1 p => cases p with
    | cons h2 p =>
      cases p
      exact ⟨_, c, t, u, b, by rw [show _ = c from h2], hc, hs _ H (s.mono bb h1), hk, q _ _ B H (.refl bb) rfl k⟩
theorem C_isiT {s : Slot} {t : Value} {us : List Value} {cs : List V} {b : Bool} (hs : TyS K s t) (hc : Paired ClsV cs us) (hk : PySem.W.kitAny K t us = some b) (k : Φ (vS (.bl b))) : C (rIsiT K) [s, ⟨fun v H => ∃ a, v = .ref a ∧ H a = some (.tup cs), fun e ⟨a, h1, h2⟩ => ⟨a, h1, e _ _ h2⟩⟩] Φ := fun vs B H bb p Q q => by
  cases p with
  | cons h1 p => cases p with
    | cons h2 p =>
      cases p
      obtain ⟨a, rfl, ha⟩ := h2
      exact ⟨_, a, cs, t, us, b, rfl, bb _ _ ha, hc, hs _ H (s.mono bb h1), hk, q _ _ B H (.refl bb) rfl k⟩
/-- a written tuple of classes -/
theorem E_tupC {tr : TA} {cs : List V} (h : A tr Γ fun ss => ss = cs.map vS ∧ cs.length ≤ 1000 ∧ Φ ⟨fun v H => ∃ a, v = .ref a ∧ H a = some (.tup cs), fun e ⟨a, h1, h2⟩ => ⟨a, h1, e _ _ h2⟩⟩) : E (tTup tr) Γ Φ := fun σ B H b rl Q q =>
  h σ B H b rl _ fun ss vs B1 H1 st1 p1 ⟨e, hl, f⟩ => by
    subst e
    have ev : vs = cs := PSl.written p1
    subst ev
    exact ⟨Nat.le_trans hl (by decide), fun p hp => q ⟨fun v H => ∃ a, v = .ref a ∧ H a = some (.tup vs), fun e ⟨a, h1, h2⟩ => ⟨a, h1, e _ _ h2⟩⟩ (.ref p) (upd B1 p (.tup vs)) (upd H1 p (.tup vs)) (st1.trans (.new st1.inn hp)) ⟨p, rfl, upd_same⟩ f⟩
/-! texts -/
theorem C_strI {i : Int} (h : i.natAbs.log2 < 1920) (k : Φ (vS (.str (toString i)))) : C (fun xs H Q => ∃ i : Int, xs = [.int i] ∧ i.natAbs.log2 < 1920 ∧ Q (.str (toString i)) H) [vS (.int i)] Φ := fun vs B H b p Q q => by
  cases p with
  | cons h1 p =>
    cases p
    exact ⟨i, by rw [show _ = _ from h1], h, q _ _ B H (.refl b) rfl k⟩
theorem E_fmtI {te : TE} {i : Int} (h : E te Γ fun s => s = vS (.int i)) (hi : i.natAbs.log2 < 1920) (k : Φ (vS (.str (toString i)))) : E (tFmt te) Γ Φ := fun σ B H b rl Q q =>
  h σ B H b rl _ fun s v B1 H1 st p e => by
    subst e
    exact .inr ⟨i, p, hi, q _ _ B1 H1 st rfl k⟩
theorem E_fmtS {te : TE} (h : E te Γ fun s => ∃ x : Str, s = vS (.str x) ∧ x.length ≤ sizeLine ∧ Φ (vS (.str x))) : E (tFmt te) Γ Φ := fun σ B H b rl Q q =>
  h σ B H b rl _ fun s v B1 H1 st p ⟨x, e, hx, k⟩ => by
    subst e
    exact .inl ⟨x, p, hx, q _ _ B1 H1 st rfl k⟩
theorem R_cats {x y : Str} (h : x.length + y.length ≤ 100000) (k : Φ (vS (.str (x ++ y)))) : R (fun u v H Q => ∃ a b : Str, u = .str a ∧ v = .str b ∧ a.length + b.length ≤ sizeLine ∧ Q (.str (a ++ b)) H) (vS (.str x)) (vS (.str y)) Φ := fun u v B H b p1 p2 Q q =>
  ⟨x, y, p1, p2, Nat.le_trans h (by decide), q _ _ B H (.refl b) rfl k⟩
theorem E_fmt {te : TE} (h : E te Γ fun s => (∃ i : Int, s = vS (.int i) ∧ i.natAbs.log2 < 1920 ∧ Φ (vS (.str (toString i)))) ∨ (∃ x : Str, s = vS (.str x) ∧ x.length ≤ sizeLine ∧ Φ (vS (.str x)))) : E (tFmt te) Γ Φ := fun σ B H b rl Q q =>
  h σ B H b rl _ fun s v B1 H1 st p e => by
    rcases e with ⟨i, rfl, hi, k⟩ | ⟨x, rfl, hx, k⟩
    · exact .inr ⟨i, p, hi, q _ _ B1 H1 st rfl k⟩
    · exact .inl ⟨x, p, hx, q _ _ B1 H1 st rfl k⟩
def Js (ts : List TE) (acc : Str) (Γ : List Bd) (Φ : Str → Prop) : Prop := ∀ σ B H, Same B H → Rel σ B H Γ → ∀ Q : Str → Hp → Prop, (∀ s B' H', Step B H B' H' → Φ s → Q s H') → tJs ts acc σ H Q
theorem J_nil {acc : Str} {Φs : Str → Prop} (k : Φs acc) : Js [] acc Γ Φs := fun σ B H b rl Q q => q acc B H (.refl b) k
theorem J_cons {acc : Str} {t : TE} {ts : List TE} {Φs : Str → Prop} (h : E t Γ fun s => ∃ x : Str, s = vS (.str x) ∧ (acc ++ x).length ≤ 100000 ∧ Js ts (acc ++ x) Γ Φs) : Js (t :: ts) acc Γ Φs := fun σ B H b rl Q q =>
  h σ B H b rl _ fun s v B1 H1 st p ⟨x, e, hx, k⟩ => by
    subst e
    exact ⟨x, p, Nat.le_trans hx (by decide), k σ B1 H1 st.inn (rl.step st) Q fun s' B2 H2 st2 f => q s' B2 H2 (st.trans st2) f⟩
theorem E_joined {ts : List TE} (h : Js ts Str.empty Γ fun out => Φ (vS (.str out))) : E (fun σ H Q => tJs ts Str.empty σ H fun out H1 => Q (.str out) H1) Γ Φ := fun σ B H b rl Q q =>
  h σ B H b rl _ fun s B1 H1 st k => q _ _ B1 H1 st rfl k
end
end Ab

/-! AbE -/
namespace Ab
open PySem PySem.Spec PyProof.Rows L2

/-! ### methods, makers -/
theorem PFl.none_of {m : Str} : ∀ {fs : List (Str × V)} {gs : List (Str × Slot)} {H : Hp}, PFl fs gs H → gs.lookup m = none → fs.lookup m = none
  | _, _, _, .nil, _ => rfl
  | (f, v) :: fs, (g, s) :: gs, H, .cons ⟨e, _⟩ r, h => by
    dsimp only at e
    subst e
    rw [List.lookup_cons] at h ⊢
    cases q : m == f with
    | true => rw [q] at h; cases h
    | false => rw [q] at h; exact PFl.none_of r h
section
variable {K : PySem.W.Frag} {Γ : List Bd} {Φ : Slot → Prop} {ta : TE} {tr : TA} {Er : XK}
theorem E_meth {F : FS} {C : Addr} {m : Str} (h : E ta Γ fun s => ∃ gs, s = insS C gs ∧ gs.lookup m = none ∧ A tr Γ fun ss => F (s :: ss) Φ fun _ => False) : E (tMeth C m (spOf F) [] Er ta tr) Γ Φ := fun σ B H b rl Q q =>
  h σ B H b rl _ fun s v B1 H1 st p ⟨gs, e, hn, hA⟩ => by
    subst e
    obtain ⟨a, dx, fs, rfl, ha, hf⟩ := id p
    refine ⟨a, dx, fs, rfl, st.inn _ _ ha, hf.none_of hn, hA σ B1 H1 st.inn (rl.step st) _ fun ss vs B2 H2 st2 ps k => ?_⟩
    rw [List.append_nil]
    exact ⟨B2, insS C gs :: ss, Φ, fun _ => False, st2.inn, .cons ((insS C gs).mono st2.base p) ps, k, fun s v B' H' st3 p3 f => q s v B' H' ((st.trans st2).trans st3) p3 f, fun _ _ _ _ _ _ z => z.elim⟩
/-- a maker by slots: its arguments, what is wanted of the attributes, of what it raises -/
abbrev FI := List Slot → (List (Str × Slot) → Prop) → (Xs → Prop) → Prop
def spInit (C : Addr) (F : FI) : Sp := fun vs H Q Er => ∃ B x dx rest ss Φ Ψ, vs = .ref x :: rest ∧ H x = some (.ins C dx []) ∧ B x = none ∧ Same B H ∧ PSl rest ss B ∧ F ss Φ Ψ ∧
  (∀ gs fs B' H', Step B H B' H' → PFl fs gs B' → Φ gs → Q .non (upd H' x (.ins C dx fs))) ∧ (∀ e d B' H', Step B H B' H' → e.At d B' → Ψ e → Er (.ref e.C) d H')
theorem E_make {F : FI} {C : Addr} (h : A tr Γ fun ss => F ss (fun gs => Φ (insS C gs)) fun _ => False) : E (tMake C (spInit C F) [] Er tr) Γ Φ := fun σ B H b rl Q q =>
  h σ B H b rl _ fun ss vs B1 H1 st p k x dx hx hdx ne => by
    have hB : B1 x = none := st.inn.free hx
    have hBd : B1 dx = none := st.inn.free hdx
    have hd2 : upd (upd H1 dx (.own x)) x (.ins C dx []) dx = some (.own x) := by rw [upd_ne ne]; exact upd_same
    have s1 : Step B1 H1 (upd B1 dx (.own x)) (upd (upd H1 dx (.own x)) x (.ins C dx [])) := ⟨fun a o e => by
        by_cases ha : a = dx
        · subst ha; rw [upd_same] at e; cases e; exact hd2
        · rw [upd_ne ha] at e
          rw [upd_ne (ne_of_none e hB), upd_ne ha]
          exact st.inn _ _ e, fun a o e => by rw [upd_ne (ne_of_none e hBd)]; exact e, fun a h1 h2 => by
        have n1 : a ≠ dx := fun z => h2 (by rw [z]; exact hdx)
        have n2 : a ≠ x := fun z => h2 (by rw [z]; exact hx)
        rw [upd_ne n1, upd_ne n2, upd_ne n1]
        exact ⟨h1, rfl⟩⟩
    refine ⟨upd B1 dx (.own x), x, dx, vs, ss, _, _, by rw [List.append_nil], upd_same, by rw [upd_ne (fun z => ne z.symm)]; exact hB, s1.inn, p.mono s1.base, k, fun gs fs B' H' st' pf f => ⟨rfl, ?_⟩, fun _ _ _ _ _ _ z => z.elim⟩
    have s2 := st.trans s1
    obtain ⟨q1, q2⟩ := st'.out x (by rw [upd_ne (fun z => ne z.symm)]; exact hB) (by rw [upd_same]; simp)
    have sm : Same B' (upd B' x (.ins C dx fs)) := fun a o e => by rw [upd_ne (ne_of_none e q1)]; exact e
    refine q (insS C gs) (.ref x) (upd B' x (.ins C dx fs)) (upd H' x (.ins C dx fs)) ⟨fun a o e => ?_, (s2.base.trans st'.base).trans sm, fun a h1 h2 => ?_⟩ ⟨x, dx, fs, rfl, upd_same, pf.mono sm⟩ f
    · by_cases ha : a = x
      · subst ha; rw [upd_same] at e ⊢; exact e
      · rw [upd_ne ha] at e ⊢; exact st'.inn _ _ e
    · have h3 := st.out a h1 h2
      have n2 : a ≠ x := fun z => h2 (by
        cases qz : H x with
        | none => rw [z]; exact qz
        | some o => have := st.same b x o qz; rw [hx] at this; cases this)
      obtain ⟨p1, p2⟩ := s2.out a h1 h2
      obtain ⟨p3, p4⟩ := st'.out a p1 (by rw [p2]; exact h2)
      rw [upd_ne n2, upd_ne n2]
      exact ⟨p3, p4.trans p2⟩
end

/-! ### operators of an own class -/
section
variable {X : Cx} {CX : CXT} {n : Nat} {f C : Addr} {fd : FuncData} {ps : List Str} {sp : Sp}
theorem call_own {A : Around} {pins : List (Addr × Obj)} {σ : L2.St} {H : Hp} {s : Shared} {us : List Value} {vs : List V} {Q : VK} {Er : XK} (F : FnOk X.prog X.w X.K X.mg X.base CX n f fd ps sp) (hr : Room n A) (hfr : A.frames = X.A.frames) (hb : Binds X.K fd ps []) (hx : Passes CX X Er) (I : Inv X pins σ H s) (r : Vals vs us) (h : sp vs H Q Er) :
    wpAny (model X.prog X.w) A (call (.ref f) us) (EP X pins σ Q) X.xe s := by
  have e0 : Env0 X.prog X.w X.K X.mg X.base A X.stack s H := by
    have e := I.env0
    exact ⟨by rw [hfr]; exact e.frames, e.mod, e.bs, e.bsz, e.funs, e.frf, e.hok, e.bare⟩
  have hl := F.len _ _ _ _ h
  refine wpAny_call (codeAny_mono (F.run A X.stack s H ⟨us, []⟩ us vs Q Er hr e0 (by
    have := hb s us I.kIn (by rw [List.append_nil, ← r.length]; exact hl)
    simpa using this) r h) fun r s' hq => ?_)
  cases r with
  | error e => exact hx pins σ H s e s' I hq
  | ok fl =>
    cases fl with
    | ret u => exact I.after hq
    | next => exact False.elim hq
    | brk => exact False.elim hq
    | cont => exact False.elim hq
theorem cmpBack {pins : List (Addr × Obj)} {σ : L2.St} {Q : VK} {v : Value} {s : Shared} (h : EP X pins σ Q v s) : PySem.W.CmpBack (EP X pins σ Q) v s := by
  obtain ⟨x, H', I, r, q⟩ := id h
  cases v <;> first | exact h | skip
  case notImplemented =>
    cases x with
    | non => cases r
    | bl b => cases r
    | int i => obtain ⟨t, e⟩ := r; cases e
    | str i => obtain ⟨t, e⟩ := r; cases e
    | byt i => obtain ⟨t, e⟩ := r; cases e
    | flt i => obtain ⟨t, e⟩ := r; cases e
    | ref a => cases r
    | ty a => cases r
theorem rel_ty (n : String) : RelV (.ty n) (.type n) := rfl
theorem rel_ref (a : Addr) : RelV (.ref a) (.ref a) := rfl
/-- x op y, both of the class at C -/
def rOwnB (C : Addr) (sp : Sp) : R2 := fun x y H Q => ∃ a b dx dy fs gs, x = .ref a ∧ y = .ref b ∧ H a = some (.ins C dx fs) ∧ H b = some (.ins C dy gs) ∧ sp [x, y] H Q E0
theorem op_ownB {op : Operator} (F : FnOk X.prog X.w X.K X.mg X.base CX n f fd ps sp) (hr : Room n X.A) (hc : PySem.W.selfFirst X.K C = true) (hs : PySem.W.findIn X.K (.ref C) (PySem.dunder op.info.2) = some (some (.ref f))) (hf : PySem.W.isFn X.K (.ref f) = true)
    (hb : Binds X.K fd ps []) (hx : Passes CX X E0) : OpR X (binaryOp op) (rOwnB C sp) := by
  intro pins s σ H x y u v Q I rx ry h
  obtain ⟨a, b, dx, dy, fs, gs, rfl, rfl, ha, hb', hsp⟩ := h
  cases rx
  cases ry
  obtain ⟨mA, J, _⟩ := ins_get I.hok ha
  obtain ⟨mB, J', _⟩ := ins_get I.hok hb'
  obtain ⟨od, J, _⟩ := J.look
  obtain ⟨od', J', _⟩ := J'.look
  obtain ⟨m, hF⟩ := I.fr
  refine PySem.W.binop_K hF I.ok.mod.kin J J'.type hc hs hf ?_
  exact thn (call_own F hr rfl hb hx I (.cons (rel_ref a) (.cons (rel_ref b) .nil)) hsp) fun v s h => cmpBack h
/-- x == y, x of the class at C, y of the type t -/
def rOwnC (K : PySem.W.Frag) (C : Addr) (sp : Sp) : R2 := fun x y H Q => ∃ a dx fs t, x = .ref a ∧ H a = some (.ins C dx fs) ∧ TyX K H y t ∧ PySem.W.notFirst K C t = true ∧ sp [x, y] H Q E0
theorem op_ownEq (F : FnOk X.prog X.w X.K X.mg X.base CX n f fd ps sp) (hr : Room n X.A) (hs : PySem.W.findIn X.K (.ref C) "__eq__" = some (some (.ref f))) (hf : PySem.W.isFn X.K (.ref f) = true)
    (hb : Binds X.K fd ps []) (hx : Passes CX X E0) : OpR X (compareOp .Eq) (rOwnC X.K C sp) := by
  intro pins s σ H x y u v Q I rx ry h
  obtain ⟨a, dx, fs, t, rfl, ha, ty, hn, hsp⟩ := h
  cases rx
  obtain ⟨mA, J, _⟩ := ins_get I.hok ha
  obtain ⟨od, J, _⟩ := J.look
  obtain ⟨m, hF⟩ := I.fr
  obtain ⟨Pk, Z, p, _⟩ := kit_of I ry ty
  show wpAny (model X.prog X.w) X.A (richCompare .Eq (.ref a) v) _ _ s
  refine PySem.W.cmp_K (op := .Eq) (tb := t) hr.units0 hF I.ok.mod.kin J (Z.ty _ _ I.kIn p) hn hs hf ?_
  exact thn (call_own F hr rfl hb hx I (.cons (rel_ref a) (.cons ry .nil)) hsp) fun v s h => cmpBack h
/-- y in x, x of the class at C; its answer True or False -/
def rOwnIn (C : Addr) (sp : Sp) : R2 := fun y x H Q => ∃ a dx fs, x = .ref a ∧ H a = some (.ins C dx fs) ∧ sp [x, y] H (fun v H' => ∃ b, v = .bl b ∧ Q v H') E0
theorem op_ownIn (F : FnOk X.prog X.w X.K X.mg X.base CX n f fd ps sp) (hr : Room n X.A) (hs : PySem.W.findIn X.K (.ref C) "__contains__" = some (some (.ref f))) (hf : PySem.W.isFn X.K (.ref f) = true)
    (hb : Binds X.K fd ps []) (hx : Passes CX X E0) : OpR X (compareOp .In) (rOwnIn C sp) := by
  intro pins s σ H y x v u Q I ry rx h
  obtain ⟨a, dx, fs, rfl, ha, hsp⟩ := h
  cases rx
  obtain ⟨mA, J, _⟩ := ins_get I.hok ha
  obtain ⟨od, J, _⟩ := J.look
  obtain ⟨m, hF⟩ := I.fr
  refine PySem.W.in_K hF I.ok.mod.kin J hs hf ?_
  refine thn (call_own F hr rfl hb hx I (.cons (rel_ref a) (.cons ry .nil)) hsp) fun w s' h => ?_
  obtain ⟨z, H', I', r, b, e, q⟩ := h
  subst e
  cases r
  exact wpAny_truthy_bool ⟨.bl b, H', I', rfl, q⟩
/-- str(x), x of the class at C; its answer a text -/
def rOwnStr (C : Addr) (sp : Sp) : List V → Hp → VK → Prop := fun xs H Q => ∃ a dx fs, xs = [.ref a] ∧ H a = some (.ins C dx fs) ∧ sp [.ref a] H (fun v H' => ∃ b, v = .str b ∧ Q v H') E0
theorem call_ownStr (F : FnOk X.prog X.w X.K X.mg X.base CX n f fd ps sp) (hr : Room (n + 2) X.A) (hs : PySem.W.findIn X.K (.ref C) "__str__" = some (some (.ref f))) (hf : PySem.W.isFn X.K (.ref f) = true)
    (hb : Binds X.K fd ps []) (hx : Passes CX X E0) : CallR X (.type "str") (rOwnStr C sp) := by
  intro pins s σ H xs us Q I r h
  obtain ⟨a, dx, fs, rfl, ha, hsp⟩ := h
  cases r with
  | cons r1 r2 =>
    cases r1
    cases r2
    obtain ⟨mA, J, _⟩ := ins_get I.hok ha
    obtain ⟨od, J, _⟩ := J.look
    have hr2 : Room n X.A.in1.in1 := (hr.in1).in1
    refine PySem.W.kso_call hr2.units0 I.kIn J hs hf ?_
    refine thn (call_own F hr2 rfl hb hx I (.cons (rel_ref a) .nil) hsp) fun w s' h => ?_
    obtain ⟨z, H', I', r, b, e, q⟩ := h
    subst e
    obtain ⟨t, rfl⟩ := r
    exact ⟨.str b, H', I', ⟨t, rfl⟩, q⟩
end
section
variable {K : PySem.W.Frag} {Φ : Slot → Prop} {F : FS} {C : Addr} {gs hs : List (Str × Slot)}
theorem sp_run {F : FS} {vs : List V} {ss : List Slot} {B H : Hp} {Er : XK} {Q : VK} {Φ : Slot → Prop} (b : Same B H) (p : PSl vs ss B) (h : F ss Φ fun _ => False) (q : ∀ s v B' H', Step B H B' H' → s.P v B' → Φ s → Q v H') : spOf F vs H Q Er :=
  ⟨B, ss, Φ, fun _ => False, b, p, h, q, fun _ _ _ _ _ _ z => z.elim⟩
theorem R_ownB {s t : Slot} (h1 : s = insS C gs) (h2 : t = insS C hs) (h : F [s, t] Φ fun _ => False) : R (rOwnB C (spOf F)) s t Φ := fun x y B H b p1 p2 Q q => by
  subst h1 h2
  obtain ⟨a, dx, fs, rfl, ha, hf⟩ := id p1
  obtain ⟨a2, dy, fs2, rfl, ha2, hf2⟩ := id p2
  exact ⟨a, a2, dx, dy, fs, fs2, rfl, rfl, b _ _ ha, b _ _ ha2, sp_run b (.cons p1 (.cons p2 .nil)) h q⟩
theorem R_ownC {s t : Slot} {ty : Value} (h1 : s = insS C gs) (h2 : TyS K t ty) (h3 : PySem.W.notFirst K C ty = true) (h : F [s, t] Φ fun _ => False) : R (rOwnC K C (spOf F)) s t Φ := fun x y B H b p1 p2 Q q => by
  subst h1
  obtain ⟨a, dx, fs, rfl, ha, hf⟩ := id p1
  exact ⟨a, dx, fs, ty, rfl, b _ _ ha, h2 _ _ (t.mono b p2), h3, sp_run b (.cons p1 (.cons p2 .nil)) h q⟩
theorem R_ownIn {s t : Slot} (h1 : s = insS C gs) (h : F [s, t] (fun r => ∃ b, r = vS (.bl b) ∧ Φ r) fun _ => False) : R (rOwnIn C (spOf F)) t s Φ := fun y x B H b p2 p1 Q q => by
  subst h1
  obtain ⟨a, dx, fs, rfl, ha, hf⟩ := id p1
  refine ⟨a, dx, fs, rfl, b _ _ ha, sp_run b (.cons p1 (.cons p2 .nil)) h fun r v B' H' st pr k => ?_⟩
  obtain ⟨c, rfl, k⟩ := k
  exact ⟨c, pr, q _ _ B' H' st pr k⟩
theorem C_ownStr {s : Slot} (h1 : s = insS C gs) (h : F [s] (fun r => ∃ b, r = vS (.str b) ∧ Φ r) fun _ => False) : Ab.C (rOwnStr C (spOf F)) [s] Φ := fun vs B H b p Q q => by
  subst h1
  cases p with
  | cons p1 p =>
    cases p
    obtain ⟨a, dx, fs, rfl, ha, hf⟩ := id p1
    refine ⟨a, dx, fs, rfl, b _ _ ha, sp_run b (.cons p1 .nil) h fun r v B' H' st pr k => ?_⟩
    obtain ⟨c, rfl, k⟩ := k
    exact ⟨c, pr, q _ _ B' H' st pr k⟩
end
end Ab

/-! AbF -/
namespace Ab
open PySem PySem.Spec PyProof.Rows L2
theorem R_eqI {i j : Int} {Φ : Slot → Prop} (k : Φ (vS (.bl (decide (i = j))))) : R rEq (vS (.int i)) (vS (.int j)) Φ := R_eq rfl (by
  have e : decide (V.int i = V.int j) = decide (i = j) := by
    by_cases h : i = j
    · subst h; simp
    · rw [decide_eq_false h, decide_eq_false]; intro z; exact h (V.int.inj z)
  rw [e]; exact k)
theorem atI0 {α : Type} (s : α) (ss : List α) : L2.atI (s :: ss) 0 = some s := L2.atI_nat (j := 0) rfl
theorem R_ixL0 {K : PySem.W.Frag} {s : Slot} {ss : List Slot} {Φ : Slot → Prop} (k : Φ s) : R (rIxL K) (lstS (s :: ss)) (vS (.int 0)) Φ := R_ixL (atI0 s ss) k
theorem R_eqSame {v : V} {Φ : Slot → Prop} (hs : scal v v = true) (k : Φ (vS (.bl true))) : R rEq (vS v) (vS v) Φ := R_eq hs (by rw [decide_eq_true rfl]; exact k)
theorem R_neSame {v : V} {Φ : Slot → Prop} (hs : scal v v = true) (k : Φ (vS (.bl false))) : R rNe (vS v) (vS v) Φ := R_ne hs (by rw [decide_eq_true rfl]; exact k)
theorem R_eqDs {K : PySem.W.Frag} {s : Slot} {d : PyData} {Φ : Slot → Prop} (hs : DpS K s d) (h1 : SeqAt.shaped d = true) (h2 : d.canLay0 = true) (k : Φ (vS (.bl true))) : R (rEqD K) s s Φ := R_eqD hs hs h1 h1 (by
  rw [SeqAt.eqv_refl _ h2]; exact k)
theorem R_eqS {x y : Str} {Φ : Slot → Prop} (k : Φ (vS (.bl (decide (x = y))))) : R rEq (vS (.str x)) (vS (.str y)) Φ := R_eq rfl (by
  have e : decide (V.str x = V.str y) = decide (x = y) := by
    by_cases h : x = y
    · subst h; simp
    · rw [decide_eq_false h, decide_eq_false]; intro z; exact h (V.str.inj z)
  rw [e]; exact k)
theorem R_neS {x y : Str} {Φ : Slot → Prop} (k : Φ (vS (.bl (!decide (x = y))))) : R rNe (vS (.str x)) (vS (.str y)) Φ := R_ne rfl (by
  have e : decide (V.str x = V.str y) = decide (x = y) := by
    by_cases h : x = y
    · subst h; simp
    · rw [decide_eq_false h, decide_eq_false]; intro z; exact h (V.str.inj z)
  rw [e]; exact k)
theorem C_intB {b : Bool} {Φ : Slot → Prop} (k : Φ (vS (.int (if b then 1 else 0)))) : C (fun xs H Q => (∃ i : Int, xs = [.int i] ∧ Q (.int i) H) ∨ (∃ k : Bool, xs = [.bl k] ∧ Q (.int (if k then 1 else 0)) H)) [vS (.bl b)] Φ := fun vs B H b' p Q q => by
  cases p with
  | cons h1 p =>
    cases p
    exact .inr ⟨b, by rw [show _ = _ from h1], q _ _ B H (.refl b') rfl k⟩
theorem spl {p : Prop} [Decidable p] {A B : Prop} (h1 : p → A) (h2 : ¬ p → B) : (decide p = true → A) ∧ (decide p = false → B) := ⟨fun h => h1 (of_decide_eq_true h), fun h => h2 (of_decide_eq_false h)⟩
theorem splN {p : Prop} [Decidable p] {A B : Prop} (h1 : ¬ p → A) (h2 : p → B) : ((!decide p) = true → A) ∧ ((!decide p) = false → B) := ⟨fun h => h1 (by simpa using h), fun h => h2 (by simpa using h)⟩
theorem splT {A B : Prop} (h1 : A) : (true = true → A) ∧ (true = false → B) := ⟨fun _ => h1, fun h => (nomatch h)⟩
theorem splF {A B : Prop} (h1 : B) : (false = true → A) ∧ (false = false → B) := ⟨fun h => (nomatch h), fun _ => h1⟩
theorem spl2 {b : Bool} {A B : Prop} (h1 : b = true → A) (h2 : b = false → B) : (b = true → A) ∧ (b = false → B) := ⟨h1, h2⟩
theorem len_ok {n m : Nat} {A : Prop} (k : A) (h : n.ble m = true := by rfl) : n ≤ m ∧ A := ⟨Nat.le_of_ble_eq_true h, k⟩
section
variable {P : Program} {w : World} {K : PySem.W.Frag} {mg : Str → Option Value} {base : Heap} {x qual : Str} {params : Arguments} {body : List Stmt} {scope : Scope} {dvs : List V} {kws : List (Str × V)} {f : Addr} {fd : FuncData}
/-- a def with defaults that raises nothing -/
theorem _root_.L2.FunD.ok0 {N ps : List Str} {k : Nat} {F : FS} (Fn : FunD K x qual params body scope dvs kws f fd) (Sc : FnScope N ps scope) (len : ∀ ss Φ Ψ, F ss Φ Ψ → ss.length = ps.length)
    (hb : ∀ (cdv : Value) (Ar : Around) (outer : List Env) (s : Shared) (H : Hp) (Er : XK), Room k (Ar.deeper (envOfC qual scope s.heap.objs.size f cdv)) →
      ∃ t, PSs (cxOf CX0 P w K mg base N qual scope f cdv Ar outer s H Er).nox body t ∧ ∀ ss Φ Ψ, F ss Φ Ψ → S t (entry N ss) { nx := fun _ => Φ (vS .non), rt := fun s _ => Φ s, bk := fun _ => False, ct := fun _ => False }) : FnOk P w K mg base CX0 (k + 1) f fd ps (spOf F) := by
  refine Fn.ok Sc (fun vs H Q Er h => ?_) (fun cdv Ar outer s H vs Q Er hr h => ?_)
  · obtain ⟨B, ss, Φ, Ψ, b, p, hf, _⟩ := h
    rw [p.length, len ss Φ Ψ hf]
  · obtain ⟨t, ht, hs⟩ := hb cdv Ar outer s H Er hr
    obtain ⟨B, ss, Φ, Ψ, b, p, hf, k1, k2⟩ := h
    exact ⟨t, ht.nox, hs ss Φ Ψ hf B H _ _ B H ⟨fun Γ σ B' H' a q => k1 _ .non B' H' a.to rfl q, fun s v Γ σ B' H' a pv q => k1 s v B' H' a.to pv q, fun _ _ _ _ _ z => z.elim, fun _ _ _ _ _ z => z.elim, fun _ _ _ _ _ _ _ _ z => z.elim⟩ (at_entry b p)⟩
end
end Ab

/-! AbX -/
namespace Ab
open PySem PySem.Spec PyProof.Rows L2

/-- the maker of an own exception class that stores its arguments: mk tells the attributes, the last one stored first -/
def spXI (K : PySem.W.Frag) (names : List Str) (n : Nat) (mk : List V → List (Str × V)) : Sp := fun vs H Q _ => ∃ a C args, vs = .ref a :: args ∧ args.length = n ∧ OexC K C ∧ (∀ f ∈ names, PySem.W.findIn K (.ref C) f = some none) ∧ H a = some (exo a C none) ∧
  ∀ dx H', H dx = none → dx ≠ a → H' a = some (exo a C (some dx)) → H' dx = some (exd dx (mk args)) → (∀ b, b ≠ a → b ≠ dx → H' b = H b) → Q .non H'
theorem S_raise {C : Addr} {K : PySem.W.Frag} {names : List Str} {n : Nat} {mk : List V → List (Str × V)} {mkS : List Slot → List (Str × Slot)} {ta : TA} {Γ : List Bd} {Φ : Ks} (T : OexC K C) (hn : ∀ f ∈ names, PySem.W.findIn K (.ref C) f = some none)
    (hm : ∀ vs ss H, PSl vs ss H → PFl (mk vs) (mkS ss) H) (h : A ta Γ fun ss => ss.length = n ∧ n ≤ 900 ∧ Φ.ex ⟨C, mkS ss⟩) : S (fun _ σ H => tMkO C (spXI K names n mk) [] ta σ H fun cls d H' => Φ.er cls d H') Γ Φ := fun B0 H0 D σ B H d at0 =>
  h σ B H at0.inn at0.rel _ fun ss vs B1 H1 st p ⟨hl, hn9, k⟩ => by
    have hv : vs.length = n := p.length.trans hl
    refine ⟨by omega, fun a ha => ⟨a, C, vs, by rw [List.append_nil], hv, T, hn, upd_same, fun dx H' hdx hne e1 e2 e3 => ⟨rfl, dx, mk vs, e1, e2, ?_, ?_⟩⟩⟩
    · rw [upd_ne hne] at hdx; exact hdx
    · have hdx' : H1 dx = none := by rw [upd_ne hne] at hdx; exact hdx
      have eH : upd (del H' a) dx (.xd (mk vs)) = upd H1 dx (.xd (mk vs)) := by
        funext b
        by_cases hb : b = dx
        · subst hb; rw [upd_same, upd_same]
        · rw [upd_ne hb, upd_ne hb]
          by_cases hb2 : b = a
          · subst hb2; rw [del_same, ha]
          · rw [del_ne hb2, e3 b hb2 hb, upd_ne hb2]
      rw [eH]
      have st2 := Step.new (o := .xd (mk vs)) st.inn hdx'
      exact d.ex ⟨C, mkS ss⟩ (some dx) Γ σ _ _ ((at0.step st).step st2) ⟨dx, mk vs, rfl, upd_same, (hm _ _ _ p).mono st2.base⟩ k
end Ab

/-! AbG -/
namespace Ab
open PySem PySem.Spec PyProof.Rows L2

/-! ### a list of the def's own: reading, writing -/
section
variable {K : PySem.W.Frag} {Γ : List Bd} {Φ : Slot → Prop} {ti te : TE} {ss : List Slot} {p : Addr} {i : Nat}
theorem E_ixOwn (hi : Γ[i]? = some (.own p ss)) (h : E ti Γ fun si => ∃ k s s', si = vS (.int k) ∧ L2.atI ss k = some s ∧ (∀ v H, s.P v H → s'.P v H) ∧ Φ s') : E (tOp (rIxL K) (tVar i) ti) Γ Φ := fun σ B H b r Q q => by
  obtain ⟨e, hb, vs, hp, ps⟩ := r.own i p ss hi
  refine ⟨_, e, h σ B H b r _ fun si y B1 H1 st py hk => ?_⟩
  obtain ⟨k, s, s', rfl, ek, hw, hk⟩ := hk
  obtain ⟨v, ev, pv⟩ := (ps.mono st.base).atI ek
  obtain ⟨_, h1⟩ := st.out p hb (by rw [hp]; simp)
  exact ⟨p, vs, k, v, rfl, py, .inl (.inl (h1.trans hp)), ev, q s' v B1 H1 st (hw _ _ pv) hk⟩
theorem S_setOwn {Φk : Ks} (hi : Γ[i]? = some (.own p ss)) (h : E te Γ fun s => E ti Γ fun si => ∃ k j, si = vS (.int k) ∧ ixN ss.length k = some j ∧ Φk.nx (Γ.set i (.own p (ss.set j s)))) : S (tAsg te (gSub (tVar i) ti rSetL)) Γ Φk := fun B0 H0 D σ B H d a => by
  refine h σ B H a.inn a.rel _ fun s v B1 H1 st pv h1 => ?_
  have a1 := a.step st
  obtain ⟨e, hb, vs, hp, ps⟩ := a1.rel.own i p ss hi
  refine ⟨_, e, h1 σ B1 H1 a1.inn a1.rel _ fun si y B2 H2 st2 py hk => ?_⟩
  obtain ⟨k, j, rfl, ej, hk⟩ := hk
  obtain ⟨hb2, hp2⟩ := st2.out p hb (by rw [hp]; simp)
  have a2 := a1.step st2
  have hset : ∀ {vs : List V} {ss : List Slot} {j : Nat} {v : V} {s : Slot} {B : Hp}, PSl vs ss B → s.P v B → PSl (vs.set j v) (ss.set j s) B := by
    intro vs ss j v s B p0 q0
    induction p0 generalizing j with
    | nil => exact .nil
    | cons r t ih =>
      cases j with
      | zero => exact .cons q0 t
      | succ j => exact .cons r ih
  have ps2 := hset (j := j) (ps.mono st2.base) (s.mono st2.base pv)
  refine ⟨p, vs, k, j, rfl, py, hp2.trans hp, by rw [ps.length]; exact ej, d.nx _ _ B2 _ ⟨a2.rel.write hi ps2, ?_, a2.base, ?_, ?_⟩ hk⟩
  · intro c o ec
    rw [upd_ne (ne_of_none ec hb2)]
    exact a2.inn _ _ ec
  · intro c h1 h2
    obtain ⟨q1, q2⟩ := a2.out c h1 h2
    have hm := a2.mine i p ss hi
    exact ⟨q1, by rw [upd_ne (fun z => h2 (by rw [z]; exact hm))]; exact q2⟩
  · intro c p' ss' hc
    rcases getElem?_set_some hc with ⟨rfl, e', _⟩ | ⟨_, hc⟩
    · cases e'
      exact a2.mine _ _ _ hi
    · exact a2.mine _ _ _ hc
end
/-! ### a list lent to the defs that write it -/
/-- the list at b, its items told by Y -/
def lentO (b : Addr) (Y : List V → Prop) : HO := .ext fun h => ∃ (xs : List V) (its : List Value) (n : Nat), Y xs ∧ xs.length ≤ sizeLine ∧ Vals xs its ∧ h.get? b = some { cls := .type "list", data := .seq its.toArray n }
theorem lent_ok {P : Program} {w : World} {H : Hp} {h : Heap} {b : Addr} {Y : List V → Prop} {xs : List V} (x : ObjOk P w H h b (.lst xs)) (y : Y xs) : ObjOk P w H h b (lentO b Y) := by
  obtain ⟨z, its, n, r, e⟩ := x
  exact ⟨⟨xs, its, n, y, z, r, e⟩, ⟨_, e⟩, fun h1 h2 ⟨xs, its, n, y, z, r, e⟩ k => ⟨xs, its, n, y, z, r, k _ e⟩⟩
theorem lent_get {P : Program} {w : World} {H H' : Hp} {h : Heap} {b : Addr} {Y : List V → Prop} (x : ObjOk P w H h b (lentO b Y)) : ∃ xs, Y xs ∧ ObjOk P w H' h b (.lst xs) := by
  obtain ⟨⟨xs, its, n, y, z, r, e⟩, _⟩ := x
  exact ⟨xs, y, z, its, n, r, e⟩
/-- neither a dict of an instance nor a tuple, nor frozen, nor a table -/
def Lsh (H : Hp) (b : Addr) : Prop := (∀ x, H b ≠ some (.own x)) ∧ (∀ xs, H b ≠ some (.tup xs)) ∧ (∀ o u, H b ≠ some (.frz o u)) ∧ ∀ ps, H b ≠ some (.tbl ps)
theorem lsh_lent {H : Hp} {b : Addr} {Y : List V → Prop} (h : H b = some (lentO b Y)) : Lsh H b := by
  unfold lentO at h
  unfold Lsh
  rw [h]
  refine ⟨fun x z => ?_, fun x z => ?_, fun x u z => ?_, fun x z => ?_⟩ <;> (injection z with z; cases z)
theorem lsh_lst {H : Hp} {b : Addr} {xs : List V} (h : H b = some (.lst xs)) : Lsh H b := by
  unfold Lsh
  rw [h]
  refine ⟨fun x z => ?_, fun x z => ?_, fun x u z => ?_, fun x z => ?_⟩ <;> (injection z with z; cases z)
theorem hok_at {P : Program} {w : World} {H : Hp} {h : Heap} {b : Addr} {o : HO} (x : HOk P w H h) (hb : Lsh H b) (hn : ObjOk P w (upd H b o) h b o) : HOk P w (upd H b o) h := fun a u e => by
  by_cases ha : a = b
  · subst ha; rw [upd_same] at e; cases e; exact hn
  · rw [upd_ne ha] at e
    refine (x a u e).stay (fun _ _ _ q => q) (fun c q => ?_) (fun c xs q => ?_)
    · rw [upd_ne (fun z => hb.1 a (by rw [← z]; exact q))]; exact q
    · rw [upd_ne (fun z => hb.2.1 xs (by rw [← z]; exact q))]; exact q
theorem un_at {fs : List Addr} {H H' : Hp} {h h' : Heap} {b : Addr} {o o' : HO} {u : HO} (hb : H b = some u) (l : Lsh H b) (x : Un fs [] (upd H b o) H' h h') : Un fs [] H (upd H' b o') h h' where
  keep := fun c ob e n hf hx => x.keep c ob e (by rw [upd_ne (fun z => by rw [z, hb] at n; cases n)]; exact n) hf hx
  slot := fun c ob e n hf hx => x.slot c ob e (by rw [upd_ne (fun z => by rw [z, hb] at n; cases n)]; exact n) hf hx
  free := fun c ob e n hx => by
    have hc : c ≠ b := fun z => by rw [z, hb] at n; cases n
    rw [upd_ne hc]
    exact x.free c ob e (by rw [upd_ne hc]; exact n) hx
  there := x.there
  tups := fun c xs e => by
    have hc : c ≠ b := fun z => l.2.1 xs (by rw [← z]; exact e)
    rw [upd_ne hc]
    exact x.tups c xs (by rw [upd_ne hc]; exact e)
  frzs := fun c ob v e => by
    have hc : c ≠ b := fun z => l.2.2.1 ob v (by rw [← z]; exact e)
    rw [upd_ne hc]
    exact x.frzs c ob v (by rw [upd_ne hc]; exact e)
  tbls := fun c ps e => by
    have hc : c ≠ b := fun z => l.2.2.2 ps (by rw [← z]; exact e)
    rw [upd_ne hc]
    exact x.tbls c ps (by rw [upd_ne hc]; exact e)
theorem Step.gain {B H H' : Hp} (b : Same B H) (s : Same H H') : Step B H B H' := ⟨b.trans s, Same.refl _, fun a h1 h2 => ⟨h1, by
  cases q : H a with
  | none => exact absurd q h2
  | some o => exact s _ _ q⟩⟩
section
variable {P : Program} {w : World} {K : PySem.W.Frag} {mg : Str → Option Value} {base : Heap} {k : Nat} {f : Addr} {fd : FuncData} {ps : List Str}
/-- what a def that writes the list at b (its first argument) promises: the arguments behind it, how the list's items are told ahead and behind, what is told of its value -/
def spWr (Y : Addr → List V → Prop) (Z : Hp → Addr → List V → Prop) (R : List V → V → Prop) : Sp := fun vs H Q _ => ∃ b cl xs rest, vs = .ref b :: rest ∧ H b = some (.lst xs) ∧ Y cl xs ∧ cl ≠ b ∧ Z H cl rest ∧
  ∀ r ys H', R rest r → Y cl ys → H' b = some (.lst ys) → (∀ a o, a ≠ b → H a = some o → H' a = some o) → Q r H'
/-- .. where the list is lent -/
def spLn (Y : Addr → List V → Prop) (Z : Hp → Addr → List V → Prop) (R : List V → V → Prop) : Sp := fun vs H Q _ => ∃ b cl rest, vs = .ref b :: rest ∧ H b = some (lentO b (Y cl)) ∧ Z H cl rest ∧ cl ≠ b ∧
  ∀ r H', R rest r → Same H H' → Q r H'
theorem ok_lent {Y : Addr → List V → Prop} {Z : Hp → Addr → List V → Prop} {R : List V → V → Prop} (hZ : ∀ H b o cl rest, cl ≠ b → Z H cl rest → Z (upd H b o) cl rest) (F : FnOk P w K mg base CX0 k f fd ps (spWr Y Z R)) (hl : ∀ H cl rest, Z H cl rest → rest.length + 1 = ps.length) : FnOk P w K mg base CX0 k f fd ps (spLn Y Z R) := by
  refine ⟨fun vs H Q E ⟨b, cl, rest, e, _, z, _⟩ => by rw [e]; exact hl _ _ _ z, fun A outer s H args us vs Q E hr e0 hb r h => ?_⟩
  obtain ⟨b, cl, rest, rfl, hbo, z, hne, q⟩ := h
  obtain ⟨xs, y, ox⟩ := lent_get (H' := upd H b (.lst [])) (e0.hok b _ hbo)
  have ox' : ObjOk P w (upd H b (.lst xs)) s.heap b (.lst xs) := ox
  have e1 : Env0 P w K mg base A outer s (upd H b (.lst xs)) := ⟨e0.frames, e0.mod, fun c o e => ?_, e0.bsz, e0.funs, fun c hc => ?_, hok_at e0.hok (lsh_lent hbo) ox', e0.bare⟩
  · refine codeAny_mono (F.run A outer s (upd H b (.lst xs)) args us _ (fun v H' => ∃ ys, Y cl ys ∧ H' b = some (.lst ys) ∧ Q v (upd H' b (lentO b (Y cl)))) E hr e1 hb r ⟨b, cl, xs, rest, rfl, upd_same, y, hne, hZ _ _ _ _ _ hne z, fun v ys H' hv hy hys hs => ⟨ys, hy, hys, q v _ hv fun c o e => ?_⟩⟩) fun res s' hq => ?_
    · by_cases hc : c = b
      · subst hc; rw [upd_same]; rw [hbo] at e; exact e
      · rw [upd_ne hc]; exact hs c o hc (by rw [upd_ne hc]; exact e)
    · cases res with
      | error e => exact hq.elim
      | ok fl =>
        cases fl with
        | ret u =>
          obtain ⟨v, H', h1, h2, h3, h4, h5, ys, hy, hys, h6⟩ := hq
          exact ⟨v, upd H' b (lentO b (Y cl)), h1, h2, un_at hbo (lsh_lent hbo) h3, hok_at h4 (lsh_lst hys) (lent_ok (show ObjOk P w (upd H' b (lentO b (Y cl))) s'.heap b (.lst ys) from h4 b _ hys) hy), h5, h6⟩
        | next => exact hq.elim
        | brk => exact hq.elim
        | cont => exact hq.elim
  · obtain ⟨p1, p2⟩ := e0.bs c o e
    exact ⟨p1, by rw [upd_ne (fun z => by rw [z, hbo] at p2; cases p2)]; exact p2⟩
  · have p2 := e0.frf c hc
    rw [upd_ne (fun z => by rw [z, hbo] at p2; cases p2)]; exact p2
/-- a def that makes a list and gives it: it is lent -/
def spNew (Y : Addr → List V → Prop) (Z : Hp → List V → Prop) (W : Hp → Addr → Prop) : Sp := fun vs H Q _ => ∃ B, Same B H ∧ Z B vs ∧ ∀ b cl ys B' H', H b = none → H' b = some (.lst ys) → Y cl ys → B' b = none → W B' cl → Step B H B' H' → Q (.ref b) H'
def spNl (Y : Addr → List V → Prop) (Z : Hp → List V → Prop) (W : Hp → Addr → Prop) : Sp := fun vs H Q _ => ∃ B, Same B H ∧ Z B vs ∧ ∀ b cl B' H', H b = none → H' b = some (lentO b (Y cl)) → W B' cl → Step B H B' H' → B' b = some (lentO b (Y cl)) → Q (.ref b) H'
theorem Step.lend {B H B' H' : Hp} {b : Addr} {o : HO} (st : Step B H B' H') (hb : H b = none) (hb' : B' b = none) (bs : Same B H) : Step B H (upd B' b o) (upd H' b o) :=
  ⟨fun a u e => by
    by_cases ha : a = b
    · subst ha; rw [upd_same] at e ⊢; exact e
    · rw [upd_ne ha] at e ⊢; exact st.inn _ _ e, fun a u e => by
    rw [upd_ne (ne_of_none (bs _ _ e) hb)]; exact st.base _ _ e, fun a h1 h2 => by
    have ha : a ≠ b := fun z => h2 (by rw [z]; exact hb)
    rw [upd_ne ha, upd_ne ha]; exact st.out a h1 h2⟩
theorem ok_newl {Y : Addr → List V → Prop} {Z : Hp → List V → Prop} {W : Hp → Addr → Prop} (hW : ∀ H b o cl, H b = none → W H cl → W (upd H b o) cl) (F : FnOk P w K mg base CX0 k f fd ps (spNew Y Z W)) : FnOk P w K mg base CX0 k f fd ps (spNl Y Z W) := by
  refine ⟨fun vs H Q E ⟨B, bs, z, _⟩ => F.len vs H (fun _ _ => True) E ⟨B, bs, z, fun _ _ _ _ _ _ _ _ _ _ _ => trivial⟩, fun A outer s H args us vs Q E hr e0 hb r h => ?_⟩
  obtain ⟨B, bs, z, q⟩ := h
  refine codeAny_mono (F.run A outer s H args us _ (fun v H' => ∃ b cl ys, v = .ref b ∧ H b = none ∧ H' b = some (.lst ys) ∧ Y cl ys ∧ Q v (upd H' b (lentO b (Y cl)))) E hr e0 hb r ⟨B, bs, z, fun b cl ys B' H' h1 h2 h3 h4 h5 h6 => ⟨b, cl, ys, rfl, h1, h2, h3, q b cl (upd B' b (lentO b (Y cl))) _ h1 upd_same (hW _ _ _ _ h4 h5) (h6.lend h1 h4 bs) upd_same⟩⟩) fun res s' hq => ?_
  cases res with
  | error e => exact hq.elim
  | ok fl =>
    cases fl with
    | ret u =>
      obtain ⟨v, H', h1, h2, h3, h4, h5, b, cl, ys, rfl, g1, g2, g3, h6⟩ := hq
      refine ⟨_, upd H' b (lentO b (Y cl)), h1, h2, ?_, hok_at h4 (lsh_lst g2) (lent_ok (show ObjOk P w (upd H' b (lentO b (Y cl))) s'.heap b (.lst ys) from h4 b _ g2) g3), h5, h6⟩
      exact ⟨h3.keep, h3.slot, fun c ob e n hx => by
        have m := h3.free c ob e n hx
        rw [upd_ne (fun z => by rw [z, g2] at m; cases m)]; exact m, h3.there, fun c xs e => by
        have m := h3.tups c xs e
        rw [upd_ne (fun z => by rw [z, g2] at m; cases m)]; exact m, fun c ob u' e => by
        have m := h3.frzs c ob u' e
        rw [upd_ne (fun z => by rw [z, g2] at m; cases m)]; exact m, fun c ps' e => by
        obtain ⟨more, m⟩ := h3.tbls c ps' e
        exact ⟨more, by rw [upd_ne (fun z => by rw [z, g2] at m; cases m)]; exact m⟩⟩
    | next => exact hq.elim
    | brk => exact hq.elim
    | cont => exact hq.elim
end
/-! ### the script, its slice -/
/-- the script: a list of these values, known or tracked -/
def seqS (K : PySem.W.Frag) (xs : List V) : Slot := ⟨fun v H => ∃ a, v = .ref a ∧ SqL K H a xs, fun e ⟨a, h1, h2⟩ => ⟨a, h1, by
  rcases h2 with (h | ⟨o, h⟩) | h
  · exact .inl (.inl (e _ _ h))
  · exact .inl (.inr ⟨o, e _ _ h⟩)
  · exact .inr h⟩⟩
theorem cut63 (xs : List V) : cutV xs none (some 63) = xs.take 63 := by
  unfold cutV
  simp [HT.sIx]
theorem E_cut {K : PySem.W.Frag} {Γ : List Bd} {Φ : Slot → Prop} {te : TE} (h : E te Γ fun s => ∃ xs : List V, s = seqS K xs ∧ xs.length ≤ 63 ∧ Φ (lstS (xs.map vS))) : E (tSl (rSlL K) te tNoPart (tPart (tC (.int 63)))) Γ Φ := fun σ B H b r Q q => by
  refine h σ B H b r _ fun s v B1 H1 st pv h1 => ?_
  obtain ⟨xs, rfl, hl, h1⟩ := h1
  obtain ⟨a, rfl, ha⟩ := pv
  refine ⟨63, rfl, a, xs, rfl, ?_, fun p hp => ?_⟩
  · exact (seqS K xs).mono (v := .ref a) st.inn ⟨a, rfl, ha⟩ |>.elim fun a' ⟨e, h⟩ => by cases e; exact h
  · have e : cutV xs none (some 63) = xs := by rw [cut63, List.take_of_length_le hl]
    rw [e]
    have pw : ∀ (ys : List V) (B : Hp), PSl ys (ys.map vS) B := fun ys B => by
      induction ys with
      | nil => exact .nil
      | cons y ys ih => exact .cons rfl ih
    exact q (lstS (xs.map vS)) (.ref p) (upd B1 p (.lst xs)) _ (st.trans (.new st.inn hp)) ⟨p, xs, rfl, upd_same, pw _ _⟩ h1
/-! ### a def whose first argument is a list that it writes -/
def less (H : Hp) (b : Addr) : Hp := fun a => if a = b then none else H a
theorem less_at {H : Hp} {b : Addr} : less H b b = none := by unfold less; rw [if_pos rfl]
theorem less_ne {H : Hp} {a b : Addr} (h : a ≠ b) : less H b a = H a := by unfold less; rw [if_neg h]
theorem less_some {H : Hp} {a b : Addr} {o : HO} (h : less H b a = some o) : a ≠ b ∧ H a = some o := by
  by_cases e : a = b
  · rw [e, less_at] at h; cases h
  · rw [less_ne e] at h; exact ⟨e, h⟩
theorem entry_zero {N : List Str} {s : Slot} {ss : List Slot} : (entry N (s :: ss))[0]? = some (.pl s) := rfl
theorem enter_own {ts : TS} {N : List Str} {b : Addr} {vs xs : List V} {ss rest : List Slot} {H : Hp} {D : Ends} {Φ : Ks} (hHb : H b = some (.lst xs)) (px : PSl xs ss (less H b)) (pr : PSl vs rest (less H b))
    (hD : DOk (less H b) (less H b) D Φ) (hs : S ts ((entry N (vS (.ref b) :: rest)).set 0 (.own b ss)) Φ) : ts D (L2.start N (.ref b :: vs)) H := by
  have sm : Same (less H b) H := fun a o e => (less_some e).2
  have r0 := rel_entry (N := N) (H := H) (show PSl (.ref b :: vs) (vS (.ref b) :: rest) (less H b) from .cons rfl pr)
  refine hs _ _ D _ _ _ hD ⟨⟨?_, ?_, ?_, ?_⟩, sm, Same.refl _, fun a h1 h2 => absurd h1 h2, ?_⟩
  · rw [List.length_set]; exact r0.len
  · intro j s h
    rcases getElem?_set_some h with ⟨_, e, _⟩ | ⟨_, h⟩
    · cases e
    · exact r0.pl j s h
  · intro j p s h
    rcases getElem?_set_some h with ⟨rfl, e, _⟩ | ⟨_, h⟩
    · cases e
      obtain ⟨v, e1, e2⟩ := r0.pl 0 _ entry_zero
      obtain rfl : v = .ref b := e2
      exact ⟨e1, less_at, xs, hHb, px⟩
    · exact (entry_own h).elim
  · intro i j p s s' h1 h2
    rcases getElem?_set_some h1 with ⟨rfl, _, _⟩ | ⟨_, h⟩
    · rcases getElem?_set_some h2 with ⟨rfl, _, _⟩ | ⟨_, h⟩
      · rfl
      · exact (entry_own h).elim
    · exact (entry_own h).elim
  · intro i p s h
    rcases getElem?_set_some h with ⟨_, e, _⟩ | ⟨_, h⟩
    · cases e
      exact less_at
    · exact (entry_own h).elim
theorem At.wrote {B H' : Hp} {H : Hp} {b : Addr} {σ : L2.St} {Γ : List Bd} (a : At (less H b) (less H b) σ B H' Γ) {c : Addr} {o : HO} (hc : c ≠ b) (h : H c = some o) : H' c = some o :=
  a.inn _ _ (a.base _ _ (by rw [less_ne hc]; exact h))
/-- a def of two rows that gives a new list -/
theorem enter_new {t : TS} {tr : TA} {N : List Str} {vs : List V} {rest : List Slot} {B H : Hp} {D : Ends} (W : List Bd → Prop) (Wa : List Slot → Prop) (bs : Same B H) (pr : PSl vs rest B) (h : S t (entry N rest) { nx := W, rt := fun _ _ => False, bk := fun _ => False, ct := fun _ => False })
    (h2 : ∀ Γ, W Γ → A tr Γ fun ss => ss.length ≤ 100000 ∧ Wa ss) (hD : ∀ b ss ys B' H', H b = none → H' b = some (.lst ys) → PSl ys ss B' → B' b = none → Step B H B' H' → Wa ss → D.rt (.ref b) H') : tSeq t (tRet (tLst tr)) D (L2.start N vs) H := by
  refine h B H { D with nx := tRet (tLst tr) D } _ B H ⟨fun Γ σ B1 H1 a k => ?_, fun _ _ _ _ _ _ _ _ z => z.elim, fun _ _ _ _ _ z => z.elim, fun _ _ _ _ _ z => z.elim, fun _ _ _ _ _ _ _ _ z => z.elim⟩ (at_entry bs pr)
  refine h2 Γ k σ B1 H1 a.inn a.rel _ fun ss ys B2 H2 st p ⟨hl, wa⟩ => ⟨Nat.le_trans (by rw [p.length]; exact hl) (by decide), fun b hb => ?_⟩
  have s2 : Step B H B2 H2 := a.to.trans st
  have sH : Same H H2 := s2.same bs
  exact hD b ss ys B2 _ (sH.free hb) upd_same p (st.inn.free hb) ⟨fun c o e => by rw [upd_ne (ne_of_none (st.inn _ _ e) hb)]; exact st.inn _ _ e, s2.base, fun c h1 h3 => by
    rw [upd_ne (fun z => by
      subst z
      cases q : H c with
      | none => exact h3 q
      | some o => have := sH _ _ q; rw [hb] at this; cases this)]
    exact s2.out c h1 h3⟩ wa
/-- C(k = v, ..) -/
theorem E_makeK {F : FI} {C : Addr} {m : Nat} {Er : XK} {Γ : List Bd} {Φ : Slot → Prop} {tr : TA} (h : A tr Γ fun ss => ss.length = m ∧ F ss (fun gs => Φ (insS C gs)) fun _ => False) : E (tMakeK C 0 m (spInit C F) (fun vs zs => vs ++ zs) Er tNil tr) Γ Φ := fun σ B H b rl Q q =>
  h σ B H b rl _ fun ss vs B1 H1 st p k => ⟨rfl, p.length.trans k.1, fun x dx hx hdx ne => by
    have hB : B1 x = none := st.inn.free hx
    have hBd : B1 dx = none := st.inn.free hdx
    have hd2 : upd (upd H1 dx (.own x)) x (.ins C dx []) dx = some (.own x) := by rw [upd_ne ne]; exact upd_same
    have s1 : Step B1 H1 (upd B1 dx (.own x)) (upd (upd H1 dx (.own x)) x (.ins C dx [])) := ⟨fun a o e => by
        by_cases ha : a = dx
        · subst ha; rw [upd_same] at e; cases e; exact hd2
        · rw [upd_ne ha] at e
          rw [upd_ne (ne_of_none e hB), upd_ne ha]
          exact st.inn _ _ e, fun a o e => by rw [upd_ne (ne_of_none e hBd)]; exact e, fun a h1 h2 => by
        have n1 : a ≠ dx := fun z => h2 (by rw [z]; exact hdx)
        have n2 : a ≠ x := fun z => h2 (by rw [z]; exact hx)
        rw [upd_ne n1, upd_ne n2, upd_ne n1]
        exact ⟨h1, rfl⟩⟩
    refine ⟨upd B1 dx (.own x), x, dx, vs, ss, _, _, rfl, upd_same, by rw [upd_ne (fun z => ne z.symm)]; exact hB, s1.inn, p.mono s1.base, k.2, fun gs fs B' H' st' pf f => ⟨rfl, ?_⟩, fun _ _ _ _ _ _ z => z.elim⟩
    have s2 := st.trans s1
    obtain ⟨q1, q2⟩ := st'.out x (by rw [upd_ne (fun z => ne z.symm)]; exact hB) (by rw [upd_same]; simp)
    have sm : Same B' (upd B' x (.ins C dx fs)) := fun a o e => by rw [upd_ne (ne_of_none e q1)]; exact e
    refine q (insS C gs) (.ref x) (upd B' x (.ins C dx fs)) (upd H' x (.ins C dx fs)) ⟨fun a o e => ?_, (s2.base.trans st'.base).trans sm, fun a h1 h2 => ?_⟩ ⟨x, dx, fs, rfl, upd_same, pf.mono sm⟩ f
    · by_cases ha : a = x
      · subst ha; rw [upd_same] at e ⊢; exact e
      · rw [upd_ne ha] at e ⊢; exact st'.inn _ _ e
    · have n2 : a ≠ x := fun z => h2 (by
        cases qz : H x with
        | none => rw [z]; exact qz
        | some o => have := st.same b x o qz; rw [hx] at this; cases this)
      obtain ⟨p1, p2⟩ := s2.out a h1 h2
      obtain ⟨p3, p4⟩ := st'.out a p1 (by rw [p2]; exact h2)
      rw [upd_ne n2, upd_ne n2]
      exact ⟨p3, p4.trans p2⟩⟩
end Ab

/-! AbH -/
/-! Iterating while an exception is handled. -/
namespace AbH
open PySem PySem.Spec PyProof.Rows HotX
section
variable {prog : Program} {w : World} {A : Around} {E : Value → Shared → Prop} {s : Shared}
/-- a StopIteration is made and raised -/
theorem stop_hot {α : Type} {x1 : Addr} {Q : α → Shared → Prop} (hot : HotAt A x1 s.heap)
    (hE : ∀ h' e, (∀ b o, s.heap.get? b = some o → h'.get? b = some o) → (∃ o, h'.get? e = some o ∧ o.cls = .type "StopIteration") → E (.ref e) { s with heap := h' }) :
    wpAny (model prog w) A (newExc (.type "StopIteration") []) (fun v s1 => wpAny (model prog w) A (raiseNew v : Sem α) Q E s1) E s := by
  obtain ⟨hh, o1, vs1, h1, d1, c1⟩ := hot
  have up : ∀ (u v : Obj) (b : Addr) (o : Obj), s.heap.get? b = some o → ((s.heap.push u).push v).get? b = some o := fun u v b o e => Heap.get?_push_of_some v (Heap.get?_push_of_some u e)
  simp only [newExc, newTuple]; refine wpAny_bind (wpAny_newObj_type ?_ (by size_fits)); refine wpAny_bind (m := firstArgMember _ _) (wpAny_of_eq (a := Value.none) (by first | rfl | (simp only [firstArgMember]; rfl)) (wpAny_newObj_type ?_ (by size_fits)))
  refine raiseNew_hot (x1 := x1) ⟨hh, o1, vs1, up _ _ _ _ h1, d1, c1⟩ ?_ (Heap.get?_push_size _ rfl) rfl ?_ (hE _ _ (fun b o e => ?_) ⟨_, Heap.get?_update_self _ (Heap.get?_push_size _ rfl) rfl, rfl⟩)
  · exact Nat.ne_of_lt (Heap.lt_size (Heap.get?_push_of_some _ h1))
  · first | (simp; done) | (simp; omega) | (simp only [Array.size_append]; simp; omega)
  · rw [Heap.get?_update_other _ _ (Nat.ne_of_gt (Heap.lt_size (Heap.get?_push_of_some _ e)))]; exact up _ _ _ _ e
/-- a tuple's iterator at its end -/
theorem tup_end {it t : Addr} {i : Nat} {items : Array Value} {x1 : Addr} {Q : Option Value → Shared → Prop} (hot : HotAt A x1 s.heap) (hne : x1 ≠ it) (hit : IsTupIter s.heap it t i) (ht : IsTup s.heap t items) (hx : items[i]? = none)
    (hQ : ∀ h', Heap.ExtBut it s.heap h' → Q none { s with heap := h' }) : wpAny (model prog w) A (pyNext (.ref it)) Q E s := by
  obtain ⟨⟨o, ho, hc, hd⟩, ⟨ol, hol, _, nl, hdl⟩, hh, o1, vs1, h1, d1, c1⟩ := And.intro hit (And.intro ht hot)
  unfold pyNext; refine wpAny_bind (wpAny_attempt (wpAny_callSpecial?_slot (name := Str.ofString "__next__") hit.typeIs slot_tupleiter_next (wpAny_call_entry slot_tupleiter_next hit.typeIs entry_tupleiter_next ?_ (args_tupleiter_next _))))
  change wpAny _ _ (field (.ref it) 0 >>= _) _ _ s; refine wpAny_bind (wpAny_field ho hd (x := .ref t) rfl ?_)
  change wpAny _ _ (if (Value.ref t == Value.none) = true then _ else _) _ _ s; rw [if_neg (show ¬ ((Value.ref t == Value.none) = true) from Bool.false_ne_true)]
  change wpAny _ _ (field (.ref it) 1 >>= _) _ _ s; refine wpAny_bind (wpAny_field ho hd (x := .int i 0) rfl ?_)
  change wpAny _ _ (seqItems? (.ref t) >>= _) _ _ s; refine wpAny_bind (wpAny_seqItems hol hdl ?_)
  simp only [Int.toNat_natCast, hx]; refine wpAny_bind (wpAny_rule (wpAny_bind (wpAny_setField ho hd (by simp) (wpAny_bind (stop_hot (x1 := x1) ⟨hh, o1, vs1, ?_, d1, c1⟩ fun h' e up he => ?_)))))
  · exact (Heap.get?_update_other _ _ (Ne.symm hne)).trans h1
  · obtain ⟨oe, hoe, hce⟩ := he
    exact wpAny_bind (wpAny_isInstance (T := "StopIteration") (b := true) ⟨oe, hoe, hce⟩ isSubtype_stop (wpAny_pure (hQ _ fun b o hb e => up _ _ ((Heap.get?_update_other _ _ (Ne.symm hb)).trans e))))
/-- a list's iterator at its end -/
theorem lst_end {it l : Addr} {i : Nat} {items : Array Value} {x1 : Addr} {Q : Option Value → Shared → Prop} (hot : HotAt A x1 s.heap) (hne : x1 ≠ it) (hit : s.heap.IsListIter it l i) (hl : s.heap.IsList l items) (hx : items[i]? = none)
    (hQ : ∀ h', Heap.ExtBut it s.heap h' → Q none { s with heap := h' }) : wpAny (model prog w) A (pyNext (.ref it)) Q E s := by
  obtain ⟨⟨o, ho, hc, hd⟩, ⟨ol, hol, _, nl, hdl⟩, hh, o1, vs1, h1, d1, c1⟩ := And.intro hit (And.intro hl hot)
  unfold pyNext; refine wpAny_bind (wpAny_attempt (wpAny_callSpecial?_slot (name := Str.ofString "__next__") hit.typeIs slot_listiter_next (wpAny_call_entry slot_listiter_next hit.typeIs entry_listiter_next ?_ (args_listiter_next _))))
  change wpAny _ _ (field (.ref it) 0 >>= _) _ _ s; refine wpAny_bind (wpAny_field ho hd (x := .ref l) rfl ?_)
  change wpAny _ _ (if (Value.ref l == Value.none) = true then _ else _) _ _ s; rw [if_neg (show ¬ ((Value.ref l == Value.none) = true) from Bool.false_ne_true)]
  change wpAny _ _ (field (.ref it) 1 >>= _) _ _ s; refine wpAny_bind (wpAny_field ho hd (x := .int i 0) rfl ?_)
  change wpAny _ _ (seqItems? (.ref l) >>= _) _ _ s; refine wpAny_bind (wpAny_seqItems hol hdl ?_)
  simp only [Int.toNat_natCast, hx]; refine wpAny_bind (wpAny_rule (wpAny_bind (wpAny_setField ho hd (by simp) (wpAny_bind (stop_hot (x1 := x1) ⟨hh, o1, vs1, ?_, d1, c1⟩ fun h' e up he => ?_)))))
  · exact (Heap.get?_update_other _ _ (Ne.symm hne)).trans h1
  · obtain ⟨oe, hoe, hce⟩ := he
    exact wpAny_bind (wpAny_isInstance (T := "StopIteration") (b := true) ⟨oe, hoe, hce⟩ isSubtype_stop (wpAny_pure (hQ _ fun b o hb e => up _ _ ((Heap.get?_update_other _ _ (Ne.symm hb)).trans e))))
/-- a tuple's iterator at its end, within zip -/
theorem of_end {it l : Addr} {i : Nat} {items : Array Value} {x1 : Addr} {Q : Value → Shared → Prop} (hot : HotAt A x1 s.heap) (hne : x1 ≠ it) (hit : s.heap.IsTupleIter it l i) (hl : s.heap.IsTuple l items) (hx : items[i]? = none)
    (hE : ∀ h' e, Heap.ExtBut it s.heap h' → (∃ o, h'.get? e = some o ∧ o.cls = .type "StopIteration") → E (.ref e) { s with heap := h' }) : wpAny (model prog w) A (Builtin.SmallTypes.nextOf (.ref it)) Q E s := by
  obtain ⟨⟨o, ho, hc, hd⟩, ⟨ol, hol, _, nl, hdl⟩, hh, o1, vs1, h1, d1, c1⟩ := And.intro hit (And.intro hl hot)
  unfold Builtin.SmallTypes.nextOf; refine wpAny_bind (wpAny_callSpecial?_slot (name := Str.ofString "__next__") hit.typeIs F.slot_tuple_iterator_next (wpAny_call_entry F.slot_tuple_iterator_next hit.typeIs F.entry_tuple_iterator_next ?_ (F.args_tuple_iterator_next_1 _)))
  change wpAny _ _ (field (.ref it) 0 >>= _) _ _ s; refine wpAny_bind (wpAny_field ho hd (x := .ref l) rfl ?_)
  change wpAny _ _ (if (Value.ref l == Value.none) = true then _ else _) _ _ s; rw [if_neg (show ¬ ((Value.ref l == Value.none) = true) from Bool.false_ne_true)]
  change wpAny _ _ (field (.ref it) 1 >>= _) _ _ s; refine wpAny_bind (wpAny_field ho hd (x := .int i 0) rfl ?_)
  change wpAny _ _ (seqItems? (.ref l) >>= _) _ _ s; refine wpAny_bind (wpAny_seqItems hol hdl ?_)
  simp only [Int.toNat_natCast, hx]; refine wpAny_bind (wpAny_rule (wpAny_bind (wpAny_setField ho hd (by simp) (wpAny_bind (stop_hot (x1 := x1) ⟨hh, o1, vs1, ?_, d1, c1⟩ fun h' e up he => hE h' e (fun b o hb e => up _ _ ((Heap.get?_update_other _ _ (Ne.symm hb)).trans e)) he)))))
  exact (Heap.get?_update_other _ _ (Ne.symm hne)).trans h1
end

section
open RZ
variable {prog : Program} {w : World} {A : Around} {E : Value → Shared → Prop} {s : Shared}
theorem zip_end {z TI TO i1 i2 l1 l2 : Addr} {k1 k2 : Nat} {xs ys : Array Value} {a b : Value} {x1 : Addr} {Q : Option Value → Shared → Prop} (hot : HotAt A x1 s.heap) (nz : x1 ≠ z) (n1 : x1 ≠ i1) (D : ZipApart z TI TO i1 i2 l1 l2)
    (hz : IsZip s.heap z TI TO .none) (hTI : IsPair s.heap TI (.ref i1) (.ref i2)) (hTO : IsPair s.heap TO a b) (h1 : s.heap.IsTupleIter i1 l1 k1) (h2 : s.heap.IsTupleIter i2 l2 k2) (hl1 : s.heap.IsTuple l1 xs) (hl2 : s.heap.IsTuple l2 ys) (hx : xs[k1]? = none)
    (hQ : ∀ h', (∀ c o, c ≠ z → c ≠ TO → c ≠ i1 → c ≠ i2 → s.heap.get? c = some o → h'.get? c = some o) → Q none { s with heap := h' }) : wpAny (model prog w) A (pyNext (.ref z)) Q E s := by
  have hT : s.TypeIs (.ref z) "zip" := ⟨_, hz, rfl⟩
  obtain ⟨hh, o1, vs1, g1, d1, c1⟩ := hot
  unfold pyNext; refine wpAny_bind (wpAny_attempt (wpAny_callSpecial?_slot (name := Str.ofString "__next__") hT F.slot_zip_next (wpAny_call_entry F.slot_zip_next hT F.entry_zip_next ?_ (F.args_zip_next_1 _))))
  change wpAny _ _ (field (.ref z) 2 >>= _) _ _ _; refine wpAny_bind (wpAny_field hz rfl (x := .bool false) rfl ?_)
  change wpAny _ _ (field (.ref z) 3 >>= _) _ _ _; refine wpAny_bind (wpAny_field hz rfl (x := .ref TI) rfl (wpAny_bind (wpAny_seqItems hTI rfl ?_)))
  change wpAny _ _ (Builtin.SmallTypes.ownedTupleIsFree (.ref z) >>= _) _ _ _; refine wpAny_bind ?_; unfold Builtin.SmallTypes.ownedTupleIsFree; refine wpAny_bind (wpAny_field hz rfl (x := .none) rfl (wpAny_pure ?_))
  simp only [if_true]; refine wpAny_bind (wpAny_rule (wpAny_bind (wpAny_field hz rfl (x := .ref TO) rfl (wpAny_bind (wpAny_setField_rec hz (by simp) fun h₁ hz₁ hs₁ => ?_)))))
  replace hz₁ : IsZip h₁ z TI TO .ellipsis := hz₁; refine wpAny_bind ?_; simp only [List.zipIdx_cons, List.zipIdx_nil, List.forIn_cons, List.forIn_nil]; refine wpAny_bind (wpAny_bind (wpAny_onRaise ?_))
  change wpAny _ _ (Builtin.SmallTypes.nextOf (.ref i1) >>= _) _ _ _; refine wpAny_bind (of_end (x1 := x1) ⟨hh, o1, vs1, hs₁.extBut _ _ nz g1, d1, c1⟩ n1 (h1.extBut hs₁.extBut D.i1z) (hl1.extBut hs₁.extBut D.l1z) hx fun h₂ e hs₂ he => ?_)
  obtain ⟨oe, hoe, hce⟩ := he
  have hz₂ : IsZip h₂ z TI TO .ellipsis := hs₂ _ _ D.i1z.symm hz₁
  have hez : e ≠ z := fun y => by
    rw [y, hz₂] at hoe
    cases hoe
    simp at hce
  refine wpAny_setField_rec hz₂ (by simp) fun h₃ _ hs₃ => wpAny_bind (wpAny_isInstance (T := "StopIteration") (b := true) ⟨oe, hs₃.extBut _ _ hez hoe, hce⟩ isSubtype_stop (wpAny_pure (hQ _ fun c o c1 _ c3 _ y => hs₃.extBut _ _ c1 (hs₂ _ _ c3 (hs₁.extBut _ _ c1 y)))))
end
end AbH

/-! AbI -/
/-! all, targets, zip and list comprehensions while an exception is handled. -/
namespace AbH
open PySem PySem.Spec PyProof.Rows HotX L2 L2H
section
variable {prog : Program} {w : World} {A : Around} {E : Value → Shared → Prop} {s : Shared}
theorem HotAt.keep {x1 : Addr} {h h' : Heap} (a : HotAt A x1 h) (k : ∀ o, h.get? x1 = some o → h'.get? x1 = some o) : HotAt A x1 h' := by
  obtain ⟨hh, o, vs, h1, d, c⟩ := a
  exact ⟨hh, o, vs, k _ h1, d, c⟩
theorem walks_hot (I ax x1 : Addr) (hne : ax ≠ I) (hx : x1 ≠ I) (items : Array Value) : Walks prog w A I [I, ax, x1] [I] items.size (fun i v => items[i]? = some v) (fun i h => (h.IsListIter I ax i ∧ h.IsList ax items) ∧ HotAt A x1 h) := by
  refine ⟨fun b hb => by simp at hb; simp [hb], fun i h h' st hk => ⟨⟨st.1.1.at fun o e => hk I (by simp) o e, st.1.2.at fun o e => hk ax (by simp) o e⟩, HotAt.keep st.2 fun o e => hk x1 (by simp) o e⟩, ?_, ?_, ?_⟩
  · intro i s Q E hi st hQ
    refine wpAny_pyNext_list_item st.1.1 st.1.2 (x := items[i]) (by simp [hi]) fun h' h1 h2 => hQ _ h' s.toks (by simp [hi]) ⟨⟨h1, st.1.2.extBut h2.extBut hne⟩, HotAt.keep st.2 fun o e => h2.extBut x1 o hx e⟩ ?_
    exact fun b o hb e => h2.extBut b o (fun z => hb (by simp [z])) e
  · exact fun s Q E st hQ => lst_end st.2 hx st.1.1 st.1.2 (by simp) fun h' he => hQ h' s.toks fun b o hb e => he b o (fun z => hb (by simp [z])) e
  · exact fun _ _ _ _ st hQ => wpAny_pyIter_listiter st.1.1 hQ
end
/-- all of a list of booleans -/
theorem cr_allH {X : Cx} (hc : HotC X) : CallR X (.builtin "all") (rAll X.K) := by
  rintro pins s σ H vs us Q I r ⟨a, bs, rfl, hs, q⟩
  obtain ⟨its, rv, hl, _⟩ := I.list hs
  obtain ⟨x1, hot⟩ := hc.at I
  have hb := rv.bls
  rw [Vals.ref1 r]
  refine call_all_walk (iter_any hl.isList fun s₂ e2 st hne => ?_)
  subst e2
  have lt1 : x1 < s.heap.objs.size := by obtain ⟨_, o, _, h1, _⟩ := hot; exact Heap.lt_size h1
  refine ⟨_, _, _, _, _, _, _, rfl, walks_hot (A := X.A.in1) _ a x1 hne (Nat.ne_of_lt lt1) its.toArray, ⟨st, HotAt.keep hot fun o e => Heap.get?_push_of_some _ e⟩, truth_bools hb, fun h' tk hk => ⟨.bl _, H, I.kept fun b o eo => hk b o (fun hm => ?_) (Heap.get?_push_of_some _ eo), ?_, q⟩⟩
  · have e1 := List.mem_singleton.mp hm
    exact Nat.lt_irrefl _ (e1 ▸ Heap.lt_size eo)
  · change Value.bool _ = Value.bool _
    rw [← L2.all_range, hb, List.size_toArray, List.length_map] <;> rfl
/-- the items of a tuple, for so many targets -/
theorem items_hot {prog : Program} {w : World} {A : Around} {E : Value → Shared → Prop} {s : Shared} {t x1 : Addr} {items : Array Value} {Q : List Value → Shared → Prop} (hot : HotAt A x1 s.heap) (ht : IsTup s.heap t items)
    (hQ : ∀ h', Heap.ExtBut s.heap.objs.size s.heap h' → Q items.toList { s with heap := h' }) : wpAny (model prog w) A (unpackItems (.ref t) items.size none) Q E s := by
  have hlt : t ≠ s.heap.objs.size := by obtain ⟨o, ho, _⟩ := ht; exact Nat.ne_of_lt (Heap.lt_size ho)
  have hx1 : x1 ≠ s.heap.objs.size := by obtain ⟨_, o, _, ho, _⟩ := hot; exact Nat.ne_of_lt (Heap.lt_size ho)
  unfold unpackItems; refine wpAny_bind ?_; unfold notIterableAtAll; refine wpAny_bind (wpAny_specialOf ht.typeIs slot_tuple_iter.lookup (wpAny_pure ?_))
  simp only [Bool.false_eq_true, if_false]; refine wpAny_bind (wpAny_holding (iter_tuple ht ?_))
  refine wpAny_bind (wpAny_holding (draw_tuple hlt items.size 0 _ _ ⟨_, Heap.get?_push_size _ rfl, rfl, rfl⟩ (ht.push _) (by omega) fun h₁ hit₁ hs₁ => ?_))
  have hall : List.take items.size (List.drop 0 items.toList) = items.toList := by rw [List.drop_zero]; exact List.take_of_length_le (by simp)
  rw [hall, if_neg (by simp)]
  refine wpAny_bind (wpAny_holding (tup_end (x1 := x1) (HotAt.keep hot fun o e => hs₁.extBut _ _ hx1 (Heap.get?_push_of_some _ e)) hx1 hit₁ ((ht.push _).extBut hs₁.extBut hlt) (by simp) fun h₂ he₂ => ?_))
  simp only [Option.isSome_none, Bool.false_eq_true, if_false]; exact wpAny_pure (hQ h₂ fun b o hb e => he₂ b o hb (hs₁.extBut b o hb (Heap.get?_push_of_some _ e)))
/-- (a, b, ..) = a tuple of that length -/
theorem pg_tupH {X : Cx} {pos : Pos} {es : List Expr} {k : Nat} {t : TGs} {n : Nat} (hc : HotC X) (h : PGs X es t) (hn : (assignEach es X.env).length = n := by rfl) (hst : (assignEach es X.env).findIdx? (·.1) = none := by rfl) : PG X (.Tuple es k pos) (gTup X.K n t) := by
  refine ⟨fun pins s σ H v u Q I r hw => ?_⟩
  obtain ⟨a, xs, rfl, hq, hl, hw⟩ := hw
  cases r
  obtain ⟨its, rv, ht, hz⟩ := I.tuple hq
  obtain ⟨x1, hot⟩ := hc.at I
  rw [assign_Tuple]; refine wpAny_bind (wpAny_standAt ?_); unfold unpack; rw [show (assignEach es X.env).length = its.toArray.size by simp [hn, ← hl, rv.length], hst]
  refine wpAny_bind (wpAny_holding (items_hot hot ht fun h' hx => ?_))
  have I1 : Inv X pins σ H { s with heap := h' } := I.kept (t' := s.toks) fun b o e => hx b o (Nat.ne_of_lt (Heap.lt_size e)) e
  exact h.run pins _ σ H xs _ Q I1 (by simpa using rv) hw
/-! ### zip of two tuples -/
section
open RZ
def ItzH (K : PySem.W.Frag) (a b : Addr) : It := ⟨(ItzT K a b).go, (ItzT K a b).yld, fun i H => ∃ xs ys : List V, SqT K H a xs ∧ SqT K H b ys ∧ xs.length ≤ i⟩
def zipTn (z TI TO i1 i2 a b : Addr) (i : Nat) (h : Heap) : Prop := IsZip h z TI TO .none ∧ IsPair h TI (.ref i1) (.ref i2) ∧ (∃ x y, IsPair h TO x y) ∧ h.IsTupleIter i1 a i ∧ h.IsTupleIter i2 b i
theorem five {c z TI TO i1 i2 : Addr} (h : c ∈ [z, TI, TO, i1, i2]) : c = z ∨ c = TI ∨ c = TO ∨ c = i1 ∨ c = i2 := by simpa using h
theorem none5 {c z TI TO i1 i2 : Addr} (h : c ∉ [z, TI, TO, i1, i2]) : c ≠ z ∧ c ≠ TI ∧ c ≠ TO ∧ c ≠ i1 ∧ c ≠ i2 := by simpa using h
theorem turn_zipH {P : Program} {w : World} {K : PySem.W.Frag} {elts : List Expr} {kk : Nat} {tpos : Pos} {a b z TI TO i1 i2 : Addr} (D : ZipApart z TI TO i1 i2 a b) : TurnH P w K (.Tuple elts kk tpos) (ItzH K a b) [z, TI, TO, i1, i2] z (zipTn z TI TO i1 i2 a b) where
  mem := List.mem_cons_self ..
  obj := fun i h ⟨hz, hTI, ⟨x, y, hTO⟩, ⟨o1, e1, _, d1⟩, ⟨o2, e2, _, d2⟩⟩ c hc => by
    rcases five hc with rfl | rfl | rfl | rfl | rfl
    · exact ⟨_, hz, fun v q => nomatch q⟩
    · exact ⟨_, hTI, fun v q => nomatch q⟩
    · exact ⟨_, hTO, fun v q => nomatch q⟩
    · exact ⟨o1, e1, fun v q => nomatch d1.symm.trans q⟩
    · exact ⟨o2, e2, fun v q => nomatch d2.symm.trans q⟩
  keep := fun i h h' ⟨hz, hTI, ⟨x, y, hTO⟩, h1, h2⟩ k => ⟨k z (by simp) _ hz, k TI (by simp) _ hTI, ⟨x, y, k TO (by simp) _ hTO⟩, h1.at fun o q => k i1 (by simp) o q, h2.at fun o q => k i2 (by simp) o q⟩
  item := by
    rintro X rfl rfl rfl hc i pins s σ H E I hf ⟨hz, hTI, ⟨x0, y0, hTO⟩, h1, h2⟩ ⟨xs, ys, x, y, hqx, hqy, hx, hy⟩
    obtain ⟨its, rv, p, _⟩ := I.tuple hqx
    obtain ⟨its2, rv2, p2, _⟩ := I.tuple hqy
    obtain ⟨⟨u, hu, ru⟩, u2, hu2, ru2⟩ := And.intro (rv.get hx) (rv2.get hy)
    refine pyNext_zipT_item D hz hTI hTO h1 h2 p p2 (x := u) (y := u2) (by simpa using hu) (by simpa using hu2) fun h' z' TO' h1' h2' hT hsz hk => ⟨_, rfl, wpAny_letOwnedTupleGo_zip (s := { s with heap := h' }) z' fun h'' z'' sb => ?_⟩
    generalize hn : s.heap.objs.size = n at *
    have hlt : ∀ c ∈ [z, TI, TO, i1, i2], c < n := fun c hcm => by
      rw [← hn]
      rcases five hcm with rfl | rfl | rfl | rfl | rfl
      · exact Heap.lt_size hz
      · exact Heap.lt_size hTI
      · exact Heap.lt_size hTO
      · obtain ⟨_, e1, _⟩ := h1; exact Heap.lt_size e1
      · obtain ⟨_, e2, _⟩ := h2; exact Heap.lt_size e2
    have hT2 := (sb.2 _ (Nat.ne_of_gt (hlt z (List.mem_cons_self ..)))).trans hT
    have new : ObjOk X.prog X.w (upd H n (.tup [x, y])) h'' n (.tup [x, y]) := ⟨by show 2 ≤ sizeLine; decide, [u, u2], .cons ru (.cons ru2 .nil), ⟨_, hT2, rfl, _, rfl⟩⟩
    have I1 : Inv X pins σ (upd H n (.tup [x, y])) { s with heap := h'' } := I.turnedNew (t' := s.toks) (ch := [z, TI, TO, i1, i2]) (fun c o hb q => by
      obtain ⟨n1, n2, n3, n4, n5⟩ := none5 hb
      exact (sb.2 c n1).trans (hk c o n1 n3 n4 n5 q)) hf (Nat.le_of_eq hn) new
    refine ⟨.ref n, _, I1, rfl, ⟨n, x, y, rfl, I.hok.fresh (Nat.le_of_eq hn), rfl, fun l hl => by rw [I.tuple_inj hl hqx]; exact hx, fun l hl => by rw [I.tuple_inj hl hqy]; exact hy⟩, ⟨z'', (sb.2 _ D.TIz).trans (hk _ _ D.TIz D.TITO D.TIi1 D.TIi2 hTI), ⟨u, u2, (sb.2 _ D.TOz).trans TO'⟩, h1'.at fun o q => (sb.2 _ D.i1z).trans q, h2'.at fun o q => (sb.2 _ D.i2z).trans q⟩, fun c hcm => ?_⟩
    rw [upd_ne (Nat.ne_of_lt (hlt c hcm))]
    exact (hf c hcm).1
  done := by
    rintro X rfl rfl rfl hc i pins s σ H E I hf ⟨hz, hTI, ⟨x0, y0, hTO⟩, h1, h2⟩ ⟨xs, ys, hqx, hqy, hend⟩
    obtain ⟨its, rv, p, _⟩ := I.tuple hqx
    obtain ⟨its2, rv2, p2, _⟩ := I.tuple hqy
    have l1 := rv.length
    obtain ⟨q, hq, hqX⟩ := hc
    obtain ⟨g1, v1, g2, g3⟩ := hq
    have hp := I.pin q (List.mem_append_left _ hqX)
    have far : ∀ c ∈ [z, TI, TO, i1, i2], q.1 ≠ c := fun c hcm => (hf c hcm).2.2.2.2.2 q (List.mem_append_left _ hqX)
    exact zip_end (x1 := q.1) ⟨g1, q.2, v1, hp.1, g2, g3⟩ (far _ (by simp)) (far _ (by simp)) D hz hTI hTO h1 h2 p p2 (by simp; omega) fun h' hk => ⟨rfl, I.turnedL (t' := s.toks) (ch := [z, TI, TO, i1, i2]) (fun c o hb e => by
      obtain ⟨n1, n2, n3, n4, n5⟩ := none5 hb
      exact hk c o n1 n3 n4 n5 e) hf⟩
  self := fun A i s Q E st h => wpAny_pyIter_zip st.1 h
def iZipH (K : PySem.W.Frag) (ta : TA) : TI := fun σ H R => ta σ H fun vs H1 => ∃ a b xs ys, vs = [.ref a, .ref b] ∧ SqT K H1 a xs ∧ SqT K H1 b ys ∧ R (ItzH K a b) H1
theorem pi_zipH {X : Cx} {e e2 : Expr} {ta : TA} {p pos tpos : Pos} {elts : List Expr} {kk : Nat} (hg : Gl X "zip") (hm : X.mg "zip" = none) (ha : PA X [e, e2] ta) (hs : starEach [e, e2] X.env = (false, eval e X.env) :: starEach [e2] X.env := by rfl)
    (hpl : (backTo pos (starEach [e2] X.env)).any (·.1) = false := by rfl) : PIH X (.Tuple elts kk tpos) (.Call (.Name "zip" p) [e, e2] [] pos) (iZipH X.K ta) := by
  refine ⟨fun pins s σ H R I h => Call_ (ld_blt I hg hm PyProof.Rows.boot_zip (PyProof.Rows.callWith_type1 (thn (ha.run pos pins s σ H _ I h) fun us s1 ⟨vs, H1, I1, r1, q1⟩ => ?_) hs hpl))⟩
  obtain ⟨a, b, xs, ys, rfl, hqx, hqy, q⟩ := q1
  obtain ⟨u1, u2, rfl, r, r'⟩ := vals2 r1
  cases r
  cases r'
  obtain ⟨its, rv, p1, _⟩ := I1.tuple hqx
  obtain ⟨its2, rv2, p2, _⟩ := I1.tuple hqy
  generalize hn : s1.heap.objs.size = n at *
  have fresh5 : ∀ c ∈ [n + 4, n + 2, n + 3, n, n + 1], FpOk X pins H1 c := fun c hcm => by
    have hle : s1.heap.objs.size ≤ c := by rw [hn]; rcases five hcm with rfl | rfl | rfl | rfl | rfl <;> first | exact Nat.le_refl _ | exact Nat.le_add_right _ _
    exact I1.fpOk hle (I1.hok.fresh hle)
  have lt1 : a < n := by obtain ⟨o1, ho1, _⟩ := id p1; rw [← hn]; exact Heap.lt_size ho1
  have lt2 : b < n := by obtain ⟨o2, ho2, _⟩ := id p2; rw [← hn]; exact Heap.lt_size ho2
  refine call_zipT (show s1.heap.IsTuple a its.toArray from p1) (show s1.heap.IsTuple b its2.toArray from p2) fun h' hz hTI hTO h1 h2 hsz hk => wpAny_pyIter_zip hz ?_
  rw [hn] at hz hTI hTO h1 h2
  exact ⟨n + 4, [n + 4, n + 2, n + 3, n, n + 1], _, _, H1, by rw [hn], I1.kept (t' := s1.toks) hk, turn_zipH (PySem.W.ktu_apart n a b lt1 lt2), ⟨hz, hTI, ⟨_, _, hTO⟩, h1, h2⟩, fresh5, q⟩
end
end AbH

/-! AbJ -/
/-! A list comprehension while an exception is handled. -/
namespace AbH
open PySem PySem.Spec PyProof.Rows HotX L2 L2H
/-- the block's context, the handled exception pinned -/
abbrev blkH (X : Cx) (p : Addr × Obj) (s : Shared) (H : Hp) (scope : Scope) (ce : Env) (fp : List Addr) : Cx := { X.blk s H scope ce fp with pn := [p] }
theorem inv_blkH {X : Cx} {p : Addr × Obj} {s s' : Shared} {H H' : Hp} {scope : Scope} {ce : Env} {fp : List Addr} {σ : L2.St} (I : Inv (X.blk s H scope ce fp) [] σ H' s') (h : s'.heap.get? p.1 = some p.2 ∧ H' p.1 = none ∧ p.1 ≠ ce.locals ∧ p.1 ∉ frs X.stack ∧ ∀ v, p.2.data ≠ .cell v) :
    Inv (blkH X p s H scope ce fp) [] σ H' s' := by
  have k := I.ok
  exact ⟨⟨k.mod, k.kind, k.glob, k.blt, k.above, k.inj, k.has, k.cab, k.hd, k.frames, k.stk, k.exf, k.bs, k.bsz, k.noex, k.exfs, k.funs, k.frf⟩, I.os, I.bare, I.base, I.loc, I.cell, I.free, I.freeC, fun q hq => by
    obtain rfl : q = p := by simpa using hq
    exact h, I.hok, I.len⟩
section
variable {X : Cx} {p : Addr × Obj} {elt tg iter : Expr} {scope : Scope} {own : List (Str × Nat)} {pos : Pos} {wi : TI} {g : TG} {te : TE}
theorem pe_lcH (hot : Hot1 X.A p) (hpx : p ∈ X.pn) (hN : X.N.Nodup) (hi : PIH X tg iter wi) (ok : BlkOk X.N X.env.scope scope own)
    (hg : ∀ (s : Shared) (H : Hp) (C : Addr) (cl : List (Str × Addr)) (fp : List Addr), PG (blkH X p s H scope (compEnvC scope cl C X.env) fp) tg g) (he : ∀ (s : Shared) (H : Hp) (C : Addr) (cl : List (Str × Addr)) (fp : List Addr), PE (blkH X p s H scope (compEnvC scope cl C X.env) fp) elt te)
    (hs : ∀ x, foldedSetIterable iter X.env x = pure x := by intro _; rfl) : PE X (.ListComp elt [⟨tg, iter, [], 0⟩] scope pos) (tLc wi g tYes te (own.map (·.2))) := by
  refine ⟨fun pins s σ H Q I h => ?_⟩
  have hfree : ∀ y ∈ scope.names, y.2 = .free → ∃ c, X.env.cells.lookup y.1 = some c := fun y hy e => (ok.free y hy e).elim (fun k => I.ok.has _ (.inl k)) fun k => I.ok.has _ (.inr k)
  rw [eval_ListComp]; refine wpAny_comprehension_free (use := none) rfl hs (closure_ok hfree) ok.kind (fun y hy e => by rw [ok.uniq y hy, e]) (thn (hi.run pins s σ H _ I h) fun xv s1 hx => thn hx fun itv s2 h2 => ?_)
  obtain ⟨it, fp, tn, J, H2, rfl, I2, T, st2, f2, q⟩ := h2
  refine wpAny_newObj_type (newEnv_comp ?_) (by show 0 ≤ sizeLine; decide); generalize hD : s2.heap.objs.size = D
  obtain ⟨W, ⟨m0, w0⟩, turn⟩ := q D (I2.hok.fresh (Nat.le_of_eq hD))
  generalize hs3 : ({ s2 with heap := s2.heap.push { cls := .type "list", data := .seq ([] : List Value).toArray } } : Shared) = s3
  have up3 : ∀ b o, s2.heap.get? b = some o → s3.heap.get? b = some o := fun b o e => by rw [← hs3]; exact Heap.get?_push_of_some _ e
  have I3 : Inv X pins σ (upd H2 D (.lst [])) s3 := by
    rw [← hs3]; exact I2.laid (t' := s2.toks) (fun b o e => Heap.get?_push_of_some _ e) (Nat.le_of_eq hD) ⟨Nat.zero_le _, [], 0, .nil, by rw [← hD]; exact Heap.get?_push_size _ rfl⟩
  have sz : ∀ b ∈ fp, b < D := fun b hb => by
    obtain ⟨o, e, _⟩ := T.obj _ _ st2 b hb
    rw [← hD]; exact Heap.lt_size e
  have f3 : ∀ b ∈ fp, FpOk X pins (upd H2 D (.lst [])) b ∧ b < s3.heap.objs.size := fun b hb => by
    obtain ⟨o, e, _⟩ := T.obj _ _ st2 b hb
    exact ⟨⟨by rw [upd_ne (Nat.ne_of_lt (sz b hb))]; exact (f2 b hb).1, (f2 b hb).2⟩, Heap.lt_size (up3 _ _ e)⟩
  have st3 : tn 0 s3.heap := T.keep _ _ _ st2 fun b _ o e => up3 b o e
  have I4 := block_start I3 ok hN f3
  generalize hcl : cellsFrom (s3.heap.objs.size + 1) scope.names (cloFrom X.env.cells scope.names []) = cl at I4
  generalize hH3 : upd H2 D (.lst []) = H3 at *
  have pg := hg s3 H3 s3.heap.objs.size cl fp
  have pe := he s3 H3 s3.heap.objs.size cl fp
  show codeAny _ _ (.compStart (.ListComp elt [⟨tg, iter, [], 0⟩] scope pos) 0 (.ref it) (.ref D) (compEnvC scope cl s3.heap.objs.size X.env)) (compPost (model X.prog X.w) X.A X.xe none (EP X pins σ Q) (.ref D) s3.heap.objs.size) _
  generalize hce : compEnvC scope cl s3.heap.objs.size X.env = ce at I4 pg pe ⊢
  have cL : ce.locals = s3.heap.objs.size := by subst hce; rfl
  generalize hs4 : ({ s3 with heap := pushCells (s3.heap.push { cls := .type "dict", data := .dict #[] }) scope.names } : Shared) = s4 at I4 ⊢
  have pin0 := I3.pin p (List.mem_append_left _ hpx)
  have kp4 : ∀ b o, s3.heap.get? b = some o → s4.heap.get? b = some o := fun b o e => by rw [← hs4]; exact pushCells_keeps _ _ _ _ (Heap.get?_push_of_some _ e)
  have npl : p.1 ≠ ce.locals := by rw [cL]; exact Nat.ne_of_lt (Heap.lt_size pin0.1)
  have J4 : Inv (blkH X p s3 H3 scope ce fp) [] (wipe σ (own.map (·.2))) H3 s4 := inv_blkH I4 ⟨kp4 _ _ pin0.1, pin0.2.1, npl, fun hm => (List.mem_cons.mp (I3.stkSub p.1 hm)).elim pin0.2.2.1 pin0.2.2.2.1, pin0.2.2.2.2⟩
  have hcB : HotC (blkH X p s3 H3 scope ce fp) := ⟨p, hot, List.mem_singleton.mpr rfl⟩
  have st4 : tn 0 s4.heap := T.keep _ _ _ st3 fun b _ o e => kp4 b o e
  have stat : ∀ {σ' : L2.St} {H' : Hp} {s' : Shared}, Inv (blkH X p s3 H3 scope ce fp) [] σ' H' s' → (∀ b ∈ fp, H' b = none) → ∀ b ∈ fp, FpOk (blkH X p s3 H3 scope ce fp) [] H' b := fun {σ' H' s'} I' hn b hb =>
    ⟨hn b hb, (I'.ok.exf b hb).1, I'.ok.exfs b hb, .inl hb, fun x c e => (I'.ok.exf b hb).2 x c e, fun r hr => by
      obtain rfl : r = p := by simpa using hr
      exact (f3 b hb).1.2.2.2.2.2 r (List.mem_append_left _ hpx)⟩
  have loop : codeAny (model X.prog X.w) X.A (.compLoop (.ListComp elt [⟨tg, iter, [], 0⟩] scope pos) 0 (.ref it) (.ref D) ce) (compPost (model X.prog X.w) X.A X.xe none (EP X pins σ Q) (.ref D) s3.heap.objs.size) s4 := by
    refine compLoop_any (fun n s' => ∃ i H', Inv (blkH X p s3 H3 scope ce fp) [] (wipe σ (own.map (·.2))) H' s' ∧ tn i s'.heap ∧ (∀ b ∈ fp, H' b = none) ∧ W i n H') ?_ m0 ⟨0, H3, J4, st4, fun b hb => (f3 b hb).1.1, w0⟩
    rintro n s5 ⟨i, H5, I5, st5, n5, w5⟩
    rcases turn i n H5 w5 with ⟨stop, qq⟩ | ⟨go, Nx, hNx, step⟩
    · refine thnF (T.done (blkH X p s3 H3 scope ce fp) rfl rfl rfl hcB i [] s5 _ H5 (fun _ _ => False) I5 (stat I5 n5) st5 stop) fun r s6 ⟨hr, I6⟩ => ?_
      subst hr
      have I7 : Inv X pins σ H5 s6 := I3.call' (ch := fp) I6.os I6.base I6.hok I6.bare fun b hb => (f3 b hb).1.2 |> fun z => ⟨z.2.2.1, z.1, z.2.2.2.1, z.2.2.2.2⟩
      have nC : H5 ce.locals = none := I6.free
      obtain ⟨m, hn, _⟩ := I6.loc
      replace hn : s6.heap.Ns ce.locals m := hn
      rw [cL] at hn nC
      obtain ⟨f0, f1, f2', f4, f5, f6⟩ := I3.fpOk (Nat.le_refl _) nC
      exact ⟨m, hn, fun h'' sb => ⟨.ref D, H5, I7.turned (t' := s6.toks) (fun b o hb e => (sb.2 b hb).trans e) f0 f1 f4 f5 f6, rfl, qq⟩⟩
    · refine thnF (T.item (blkH X p s3 H3 scope ce fp) rfl rfl rfl hcB i [] s5 _ H5 (fun _ _ => False) I5 (stat I5 n5) st5 go) fun r s6 ⟨u, hr, h6⟩ => ?_
      subst hr
      refine thnF h6 fun _ s7 ⟨x, H7, I7, r7, y7, st7, n7⟩ => thnF (pg.run _ s7 _ H7 x u _ (I7.pinned (stat I7 n7) (T.obj _ _ st7)) r7 (step x H7 y7)) fun _ s8 ⟨σ8, H8, I8, hw8, q8⟩ => ?_
      refine thnF ((pts_nil (X := blkH X p s3 H3 scope ce fp)).run _ s8 σ8 H8 _ I8 q8) fun b s9 ⟨H9, I9, q9⟩ => ?_
      have fin : ∀ {s' : Shared} {H' : Hp}, Inv (blkH X p s3 H3 scope ce fp) ([] ++ pinsAt fp s7.heap) σ8 H' s' → Nx H' → ∃ m, m < n ∧ ∃ i H', Inv (blkH X p s3 H3 scope ce fp) [] (wipe σ (own.map (·.2))) H' s' ∧ tn i s'.heap ∧ (∀ b ∈ fp, H' b = none) ∧ W i m H' := fun {s' H'} I' nx => by
        obtain ⟨m', hm, w'⟩ := hNx H' nx
        have keepPin : ∀ b ∈ fp, ∀ o, s7.heap.get? b = some o → s'.heap.get? b = some o ∧ H' b = none := fun b hb o e => (I'.pin (b, o) (List.mem_append_right _ (List.mem_append_right _ (mem_pinsAt hb e)))) |> fun z => ⟨z.1, z.2.1⟩
        refine ⟨m', hm, i + 1, H', (I'.unpinned (pins := [])).weak (by rw [← hw8, wipe_length]) (fun j v e => (wipe_some (by rw [hw8]; exact e)).1), T.keep _ _ _ st7 fun b hb o e => (keepPin b hb o e).1, fun b hb => ?_, w'⟩
        obtain ⟨o, e, _⟩ := T.obj _ _ st7 b hb
        exact (keepPin b hb o e).2
      cases b with
      | false => exact fin I9 (by simpa using q9)
      | true =>
        simp only [if_true] at q9 ⊢
        exact thnF (pe.run _ s9 σ8 H9 _ I9 q9) fun z s10 ⟨yv, H10, I10, r10, acc, hD10, hz10, nx⟩ => app_ok (X := blkH X p s3 H3 scope ce fp) I10 hD10 hz10 r10 fun s11 I11 => fin I11 nx
  exact codeAny_compStart_list loop (T.self X.A 0 _ _ _ st4 loop)
end
end AbH

/-! AbK -/
/-! Own exceptions whose context is known to be None: making, raising, catching; isinstance of one that bears attributes. -/
namespace AbH
open PySem PySem.Spec PyProof.Rows HotX L2 L2H
section
variable {X : Cx} {es : List Expr} {e : Expr} {ta : TA} {p pos : Pos}
/-- C(e, ..) where nothing is handled -/
theorem pmkN_oex {CX : CXT} {x : Str} {C fI : Addr} {k : Nat} {fd : FuncData} {ps : List Str} {sp : Sp} (T : OexC X.K C) (iC : PySem.W.findIn X.K (.ref C) "__init__" = some (some (.ref fI))) (tI : PySem.W.typeIn X.K (.ref fI) = some (.type "function")) (F1 : FnOk X.prog X.w X.K X.mg X.base CX k fI fd ps sp) (hr : Room (k + 1) X.A)
    (hb : Binds X.K fd ps []) (hx : Passes CX X (fun _ _ _ => False)) (hg : Gl X x) (hm : X.mg x = some (.ref C)) (ha : PA X (e :: es) ta) (hdb : (x == ("__debug__" : Str)) = false := by decide) (he : starEach (e :: es) X.env = (false, eval e X.env) :: starEach es X.env := by rfl)
    (hpl : (backTo pos (starEach es X.env)).any (·.1) = false := by rfl) : L2N.PMk X (.Call (.Name x p) (e :: es) [] pos) (tMkO C sp [] ta) := by
  intro pins s σ H Q I h
  obtain ⟨nm, q, N, bs, bm, sn, sub, ab, col, dd, k0, k1, k2, k3, k5, hC, hbm⟩ := T.cls
  refine wpAny_Call_Name_kw (ld_glob I hg hm (PySem.W.callWith_K (h₀ := X.base) I.ok.mod.kin T.kC (thn (ha.run pos pins s σ H _ I h) fun us s1 ⟨vs, H1, I1, r1, hz, q1⟩ => ⟨I1.kIn, ?_⟩) he hpl) hdb)
  change wpAny _ _ (call (.ref C) us) _ _ _; obtain ⟨hp, g, dr, tk, os⟩ := s1
  generalize hn : hp.objs.size + 1 = n
  have le1 : hp.objs.size ≤ n := by rw [← hn]; exact Nat.le_succ _
  have hq := q1 n (I1.hok.fresh le1)
  rw [List.append_nil] at hq
  generalize hh2 : (hp.push (PySem.W.kdv_tup us)).push (PySem.HandSPX.excO C hp.objs.size) = hp2
  have kk : ∀ b o, hp.get? b = some o → hp2.get? b = some o := fun b o e => by rw [← hh2]; exact Heap.get?_push_of_some _ (Heap.get?_push_of_some _ e)
  have hget : hp2.get? n = some (PySem.HandSPX.excO C hp.objs.size) := by rw [← hh2, ← hn]; heap_get
  have I2 : Inv X pins σ (upd H1 n (exo n C none)) ⟨hp2, g, dr, tk, os⟩ := I1.laid (t' := tk) (a := n) (o := exo n C none) (h' := hp2) kk le1 (exo_ok hget)
  have r2 : Vals (V.ref n :: vs) (Value.ref n :: us) := .cons rfl r1
  have hl : (Value.ref n :: us ++ []).length = ps.length := by rw [List.append_nil, ← r2.length, F1.len _ _ _ _ hq]
  have b2 := hb _ (Value.ref n :: us) I2.kIn hl
  rw [List.append_nil] at b2
  have hus : us.length ≤ sizeLine := by rw [← Paired.length r1, sizeLine_eq]; omega
  subst hn hh2
  refine wpAny_call (PySem.HandSPX.call_own F.excBase_ValueError (fun Y => PySem.HandSPX.refsVE_contains Y bm hbm) (I1.kIn _ _ hC) (PySem.W.looks_findIn I1.kIn iC) (fun self => PySem.W.bind_fn I1.kIn self tI) hus (codeAny_mono (F1.run _ X.stack _ _ ⟨_, []⟩ _ _ _ (fun _ _ _ => False) (hr.make C us []) (I2.env0.make C us []) b2 r2 hq) fun r s' hq' => ?_))
  rcases r with er | fl
  · exact hx pins σ _ _ er s' I2 hq'
  · cases fl with
    | ret u =>
      obtain ⟨v, H2, os2, bare2, un2, hok2, rv, rfl, d, fs, ea, ed, hd1, q2⟩ := hq'
      obtain ⟨h2, g2, d2, t2, os'⟩ := s'
      obtain ⟨t0, G, J, kG, ge, hoe, na⟩ := mk_end0 (d2 := d2) (t2 := t2) I1 le1 kk un2 hok2 os2 bare2 ea ed hd1
      exact ⟨rv, _, _, _, ⟨G, g2, d2, t2, os'⟩, _, .ref C, some d, rfl, J, kG, ge, hoe, ⟨rfl, rfl, fun vs hv => by cases hv; rfl⟩, rfl, rfl, na, rfl, bare2, raises_own T.exC T.tyC, q2⟩
    | next => exact hq'.elim
    | brk => exact hq'.elim
    | cont => exact hq'.elim
/-- C(e, ..), what it lets out told by the places -/
def tMakeS (C : Addr) (sp : Sp) (E : L2.St → XK) (t : TA) : TE := fun σ H Q => t σ H fun vs H1 => ∀ x dx, H1 x = none → H1 dx = none → dx ≠ x → sp (.ref x :: vs) (upd (upd H1 dx (.own x)) x (.ins C dx [])) (fun v H2 => v = .non ∧ Q (.ref x) H2) (E σ)
theorem pe_makeS {CX : CXT} {x : Str} {C f : Addr} {k : Nat} {fd : FuncData} {ps : List Str} {sp : Sp} {E : L2.St → XK} (M : Mk X.K C f) (F : FnOk X.prog X.w X.K X.mg X.base CX k f fd ps sp) (hr : Room (k + 1) X.A) (hg : Gl X x) (hm : X.mg x = some (.ref C)) (hb : Binds X.K fd ps []) (hx : ∀ σ, PassesAt CX X σ (E σ)) (ha : PA X (e :: es) ta)
    (hdb : (x == ("__debug__" : Str)) = false := by decide) (he : starEach (e :: es) X.env = (false, eval e X.env) :: starEach es X.env := by rfl) (hpl : (backTo pos (starEach es X.env)).any (·.1) = false := by rfl) : PE X (.Call (.Name x p) (e :: es) [] pos) (tMakeS C sp E ta) := by
  refine ⟨fun pins s σ H Q I h => wpAny_Call_Name_kw (ld_glob I hg hm (PySem.W.callWith_K (h₀ := X.base) I.ok.mod.kin M.kp (thn (ha.run pos pins s σ H _ I h) fun us s1 ⟨vs, H1, I1, r, q⟩ => ⟨I1.kIn, ?_⟩) he hpl) hdb)⟩
  generalize hn : s1.heap.objs.size = n
  have hq := q (n + 1) n (I1.hok.fresh (by rw [hn]; exact Nat.le_succ _)) (I1.hok.fresh (by rw [hn]; exact Nat.le_refl _)) (Nat.ne_of_lt (Nat.lt_succ_self _))
  have I2 := Inv.made (C := C) I1
  rw [hn] at I2
  have r2 : Vals (V.ref (n + 1) :: vs) (Value.ref (n + 1) :: us) := .cons rfl r
  have hl : (Value.ref (n + 1) :: us ++ []).length = ps.length := by rw [List.append_nil, ← r2.length, F.len _ _ _ _ hq]
  have b2 := hb _ (Value.ref (n + 1) :: us) I2.kIn hl
  rw [List.append_nil] at b2
  subst hn
  refine wpAny_call (make_map (f := f) I1.kIn M.makes M.init (beq_iff_eq.mp M.fn) (codeAny_mono (F.run _ X.stack _ _ ⟨_, []⟩ _ _ _ (E σ) (hr.make C us []) (I2.env0.make C us []) b2 r2 hq) fun r s' hq' => ?_))
  rcases r with er | fl
  · exact hx σ pins _ _ er s' I2 hq'
  · cases fl with
    | ret u =>
      obtain ⟨v, H', I3, rv, rfl, q3⟩ := I2.after hq'
      exact ⟨rv, V.ref (s1.heap.objs.size + 1), H', I3, rfl, q3⟩
    | next => exact hq'.elim
    | brk => exact hq'.elim
    | cont => exact hq'.elim
end
section
variable {P : Program} {w : World} {K : PySem.W.Frag} {mg : Str → Option Value} {base : Heap}
/-- a def that may raise, the context of what it raises known -/
theorem _root_.L2.Fun.okN {x qual : Str} {st : Stmt} {f : Addr} {fd : FuncData} {N ps : List Str} {k : Nat} {sp : Sp} (F : Fun K x qual st f fd) (S : FnScope N ps (defScope st)) (len : ∀ vs H Q E, sp vs H Q E → vs.length = ps.length) (hbody : ∀ (cdv : Value) (A : Around) (outer : List Env) (s : Shared) (H : Hp) (vs : List V) (Q : VK) (E : XK),
      Room k (A.deeper (envOfC qual (defScope st) s.heap.objs.size f cdv)) → sp vs H Q E → ∃ t, PSs (cxOf (L2N.CX P w) P w K mg base N qual (defScope st) f cdv A outer s H E) (defBody st) t ∧ t { nx := fun _ H' => Q .non H', rt := Q } (L2.start N vs) H) : FnOk P w K mg base (L2N.CX P w) (k + 1) f fd ps sp := by
  obtain ⟨oc, od, kV, doc, pm, an, cdv, ct, osl, rfl, lk, hcd⟩ := F.ex
  exact fn_of lk hcd S len fun A outer s H vs Q E hr hsp => hbody cdv A outer s H vs Q E hr hsp
/-- a def called while an exception is handled -/
theorem okH {x qual : Str} {st : Stmt} {f : Addr} {fd : FuncData} {N ps : List Str} {k : Nat} {F : Ab.FS} (Fn : Fun K x qual st f fd) (Sc : FnScope N ps (defScope st)) (len : ∀ ss Φ Ψ, F ss Φ Ψ → ss.length = ps.length)
    (hb : ∀ (cdv : Value) (Ar : Around) (outer : List Env) (s : Shared) (H : Hp) (Er : XK) (p : Addr × Obj), Hot1 Ar p → RoomH k (Ar.deeper (envOfC qual (defScope st) s.heap.objs.size f cdv)) →
      ∃ t, PSs (cxH CX0 P w K mg base N qual (defScope st) f cdv Ar outer s H Er p) (defBody st) t ∧ ∀ ss Φ Ψ, F ss Φ Ψ → Ab.S t (Ab.entry N ss) { nx := fun _ => Φ (Ab.vS .non), rt := fun s _ => Φ s, bk := fun _ => False, ct := fun _ => False }) : FnH P w K mg base CX0 (k + 1) f fd ps (Ab.spOf F) := by
  obtain ⟨oc, od, kV, doc, pm, an, cdv, ct, osl, rfl, lk, hcd⟩ := Fn.ex
  refine fn_ofH lk hcd Sc (fun vs H Q E ⟨B, ss, Φ, Ψ, b, p, hf, _⟩ => by rw [p.length, len ss Φ Ψ hf]) fun A outer s H vs Q E p hot hr h => ?_
  obtain ⟨t, ht, hs⟩ := hb cdv A outer s H E p hot hr
  obtain ⟨B, ss, Φ, Ψ, b, ps', hf, k1, k2⟩ := h
  exact ⟨t, ht, hs ss Φ Ψ hf B H _ _ B H ⟨fun Γ σ B' H' a q => k1 _ .non B' H' a.to rfl q, fun s v Γ σ B' H' a pv q => k1 s v B' H' a.to pv q, fun _ _ _ _ _ z => z.elim, fun _ _ _ _ _ z => z.elim, fun _ _ _ _ _ _ _ _ z => z.elim⟩ (Ab.at_entry b ps')⟩
end
end AbH
namespace AbW
open PySem PySem.Spec PySem.Calls PyProof.Rows PySem.W
section
variable {prog : Program} {w : World} {A : Around} {E : Value → Shared → Prop} {s : Shared} {K : Frag} {x D : Addr} {ox : Obj}
theorem find_data {C : Addr} {od : Option Obj} {name : Str} {a g : Value} (hc : (clsIn K C).isSome = true) (ha : findIn K (.ref C) name = some (some a)) (hg : specialIn K a "__get__" = some (some g)) (ht : takesIn K a = some true) : findObj K C od name = some (.bind g a) := by
  obtain ⟨cd, hc⟩ := Option.isSome_iff_exists.mp hc
  simp [findObj, hc, ha, hg, ht]
/-- e.__class__, e an own exception with or without attributes -/
theorem class_of {Q : Option Value → Shared → Prop} {od : Option Obj} (C : L2.ExcC K D) (X : K.In s.heap) (I : InstAt s.heap x ox D od) (h : Q (some (.ref D)) { s with toks := s.toks + 1 }) : wpAny (model prog w) A (getAttr? (.ref x) "__class__") Q E s := by
  have hf : findObj K D od "__class__" = some (.bind (.builtin "getset_descriptor.__get__") (.builtin "object.__class__")) := find_data (by obtain ⟨cd, hc, _⟩ := any_some C.hd; rw [hc]; rfl) C.ha C.hn C.ht
  obtain ⟨hp, g, d, t, os⟩ := s
  have L0 := I.type (M := model prog w)
  have L3 := looks_find (M := model prog w) X I hf
  have sub : Looks (model prog w) hp (isInstance (.ref x) (.type "BaseException")) true := L0.andThen (looks_subIn X C.hs)
  have hx1 : (onTheHeap (Value.ref D) && Value.builtin "BaseException.__getattribute__" == Value.builtin "object.__getattribute__") = false := by rw [show (Value.builtin "BaseException.__getattribute__" == Value.builtin "object.__getattribute__") = false by decide +kernel]; rfl
  unfold getAttr? getAttrBy? getAttrBy; refine wpAny_bind (wpAny_mkText (wpAny_bind (wpAny_attempt (wpAny_holding (wpAny_bind (L0.at (wpAny_bind ((looks_findIn (M := model prog w) X C.hg).at ?_))))))))
  change wpAny _ _ (if (onTheHeap (Value.ref D) && Value.builtin "BaseException.__getattribute__" == Value.builtin "object.__getattribute__") = true then _ else _) _ _ _; rw [hx1, if_neg Bool.false_ne_true]
  unfold getAttrByItsOwn hookBefore; refine wpAny_bind ?_; rw [if_pos (show onTheHeap (Value.ref D) = true from rfl)]; refine (looks_findIn (M := model prog w) X C.hk).at (wpAny_bind (wpAny_attempt (wpAny_holding ?_)))
  unfold callGetattribute; rw [show (false && onTheHeap (Value.builtin "BaseException.__getattribute__")) = false from rfl, if_neg Bool.false_ne_true]; unfold boundAndCalled; rw [PySem.F.excAttr_ValueError.ga.bind (.ref x)]; refine wpAny_bind (wpAny_pure ?_)
  change wpAny _ _ (call (.builtin "BaseException.__getattribute__") [.ref x, .str "__class__" t]) _ _ _; refine wpAny_call (codeAny_call_builtin PySem.F.excAttr_ValueError.ga.plain PySem.F.entry_bexc_ga ?_)
  refine @check_slot (model prog w) _ _ ⟨hp, g, d, t + 1, os⟩ "BaseException.__getattribute__" "BaseException" "__getattribute__" (.ref x) [.str "__class__" t] [] _ (by decide +kernel) (by decide +kernel) sub (PySem.F.args_bexc_ga (.ref x) (.str "__class__" t)) ?_; unfold Builtin.«object.__getattribute__»
  refine wpAny_bind (wpAny_of_eq (a := ((Value.ref x : Value), [Value.str "__class__" t])) (by first | rfl | (simp only [slotArgs]; rfl)) (wpAny_bind (wpAny_pure (wpAny_bind (L0.at (wpAny_bind (L3.at ?_)))))))
  change wpAny _ _ (holding [Value.builtin "object.__class__"] (call (.builtin "getset_descriptor.__get__") [.builtin "object.__class__", .ref x, .ref D]) >>= ret) _ _ _
  refine wpAny_bind (wpAny_holding (wpAny_call (class_get (s := ⟨hp, g, d, t + 1, os⟩) (ox := ox) (od := od) X I C.hm (wpAny_pure ?_))))
  change wpAny _ _ (handedOut (.ref D)) _ _ _; rw [handedOut_of (v := .ref D) rfl]
  first
    | exact wpAny_pure (wpAny_pure h)
    | exact wpAny_pure h
    | exact wpAny_pure (wpAny_bind (wpAny_pure (wpAny_pure h)))
theorem kit_exc (C : L2.ExcC K D) : KitX K (.ref x) (.ref D) (fun h => ∃ od, InstAt h x ox D od) := by
  obtain ⟨cdD, hcD, _⟩ := any_some C.hd
  unfold clsIn at hcD
  split at hcD
  case h_2 => cases hcD
  rename_i c' d' cd' sl' ho
  refine ⟨fun _ _ _ ⟨_, I⟩ => I.type, fun _ _ X _ A' Q' E' s' k q => ?_, fun h tp dd its n sl X htp => Bool.eq_false_iff.mpr fun q => ?_, fun X ⟨_, I⟩ k => class_of C X I k⟩
  · unfold isType loadHead
    exact wpAny_bind (wpAny_loadPart (k _ _ (X _ _ ho)) (wpAny_pure q))
  · obtain rfl : D = tp := Value.ref.inj (beq_iff_eq.mp q)
    exact nomatch (X _ _ ho).symm.trans htp
end
end AbW

/-! AbL -/
namespace AbH
open PySem PySem.Spec PyProof.Rows HotX L2 L2H
/-! ### the caught exception -/
/-- isinstance(e, c), e the exception that the suite holds, its attributes in the dict d -/
def rIsD (K : PySem.W.Frag) (D a : Addr) (cls : Value) (d : Option Addr) : List V → Hp → VK → Prop := fun xs H Q => ∃ (c : V) (cv : Value) (b : Bool) (dd : Addr) (fs : List (Str × V)), xs = [.ref a, c] ∧ cls = .ref D ∧ d = some dd ∧ H dd = some (.xd fs) ∧ (∀ u, RelV c u → u = cv) ∧ PySem.W.kitOne K (.ref D) cv = some b ∧ Q (.bl b) H
theorem call_isD {X : Cx} {a D : Addr} {oe : Obj} {pn : List (Addr × Obj)} {cls : Value} {d : Option Addr} (C : ExcC X.K D) (hz : Zc cls d oe) (hf : ∃ vs, oe.data = .fields vs) : CallR (X.suite a ((a, oe) :: pn)) (.builtin "isinstance") (rIsD X.K D a cls d) := by
  rintro pins s σ H xs us Q I r ⟨c, cv, b, dd, fs, rfl, rfl, rfl, hd, hcv, e, q⟩
  obtain ⟨u1, u2, rfl, rx, rt⟩ := vals2 r
  obtain rfl : u1 = Value.ref a := rx
  obtain rfl := hcv _ rt
  obtain ⟨hget, _⟩ := I.pin (a, oe) (List.mem_append_left _ (List.mem_cons_self ..))
  obtain ⟨⟨vs, hv⟩, hcls, hdict⟩ := And.intro hf hz
  obtain ⟨mA, ⟨od, es, ep, ho, _⟩, _⟩ := (show ObjOk X.prog X.w H s.heap dd (.xd fs) from I.hok dd _ hd)
  have J : PySem.W.InstAt s.heap a oe D (some od) := ⟨hget, hcls, by unfold PySem.W.notCls; rw [hv] <;> rfl, by rw [hdict]; exact ho⟩
  exact PySem.W.kia_one (AbW.kit_exc C) I.kIn ⟨_, J⟩ e (fun z => nomatch z) fun tk => ⟨.bl b, H, I.kept (t' := tk) fun _ _ z => z, rfl, q⟩
theorem hot_suite {X : Cx} {a : Addr} {oe : Obj} {cls : Value} {d : Option Addr} {pn : List (Addr × Obj)} (hz : L2N.Zn cls d oe) (hf : ∃ vs, oe.data = .fields vs) : HotC (X.suite a ((a, oe) :: pn)) := by
  obtain ⟨vs, hv⟩ := hf
  exact ⟨(a, oe), ⟨rfl, vs, hv, hz.2.2 vs hv⟩, List.mem_cons_self ..⟩
theorem takes_noN {X : Cx} : L2N.Takes X (fun _ _ _ _ => False) := fun _ _ ⟨_, _, _, _, _, _, _, _, _, _, _, _, _, _, _, _, w⟩ => w.elim
theorem FnH.imp' {P : Program} {w : World} {K : PySem.W.Frag} {mg : Str → Option Value} {base : Heap} {CX : CXT} {k : Nat} {f : Addr} {fd : FuncData} {ps : List Str} {sp sp' : Sp} (F : FnH P w K mg base CX k f fd ps sp) (h : ∀ vs H Q E, sp' vs H Q E → sp vs H Q E) : FnH P w K mg base CX k f fd ps sp' :=
  ⟨fun vs H Q E q => F.len vs H Q E (h _ _ _ _ q), fun A outer s H args us vs Q E p hr ht hp he hb hv hs => F.run A outer s H args us vs Q E p hr ht hp he hb hv (h _ _ _ _ hs)⟩
end AbH
namespace Ab
open PySem PySem.Spec PyProof.Rows L2 L2H AbH
/-- the caught exception, its attributes -/
def exS (a : Addr) (d : Option Addr) (gs : List (Str × Slot)) : Slot := ⟨fun v H => v = .ref a ∧ ∃ dd fs, d = some dd ∧ H dd = some (.xd fs) ∧ PFl fs gs H, fun e ⟨h1, dd, fs, h2, h3, h4⟩ => ⟨h1, dd, fs, h2, e _ _ h3, h4.mono e⟩⟩
section
variable {K : PySem.W.Frag} {Γ : List Bd} {Φ : Slot → Prop} {te : TE} {tr : TA} {a : Addr} {d : Option Addr} {gs : List (Str × Slot)}
theorem E_xf {cls : Value} {C : Addr} {f : Str} (h : E te Γ fun s => ∃ gs s', s = exS a d gs ∧ cls = .ref C ∧ gs.lookup f = some s' ∧ Φ s') : E (tXf a cls d C f te) Γ Φ := fun σ B H b rl Q q =>
  h σ B H b rl _ fun s v B1 H1 st p ⟨gs, s', e, ec, hl, k⟩ => by
    subst e
    obtain ⟨rfl, dd, fs, rfl, hd, hf⟩ := p
    obtain ⟨u, hu, pu⟩ := hf.lookup hl
    exact ⟨rfl, ec, dd, fs, u, rfl, st.inn _ _ hd, hu, q s' u B1 H1 st pu k⟩
theorem C_isD {D : Addr} {c : V} {cv : Value} {b : Bool} (hc : ∀ u, RelV c u → u = cv) (hk : PySem.W.kitOne K (.ref D) cv = some b) (k : Φ (vS (.bl b))) : Ab.C (rIsD K D a (.ref D) d) [exS a d gs, vS c] Φ := fun vs B H bb p Q q => by
  cases p with
  | cons h1 p => cases p with
    | cons h2 p =>
      cases p
      obtain ⟨rfl, dd, fs, rfl, hd, hf⟩ := h1
      exact ⟨c, cv, b, dd, fs, by rw [show _ = c from h2], rfl, rfl, bb _ _ hd, hc, hk, q _ _ B H (.refl bb) rfl k⟩
theorem E_callH {F : FS} (h : A tr Γ fun ss => F ss Φ fun _ => False) : E (tCallS (spOf F) (fun _ => E0) tr) Γ Φ := fun σ B H b rl Q q =>
  h σ B H b rl _ fun ss vs B1 H1 st1 p1 f => ⟨B1, ss, Φ, fun _ => False, st1.inn, p1, f, fun s v B2 H2 st2 p k => q s v B2 H2 (st1.trans st2) p k, fun _ _ _ _ _ _ z => z.elim⟩
end
section
variable {K : PySem.W.Frag} {Γ : List Bd} {Φ : Ks} {tr : TA}
/-- try: C(..) except D as e: a suite that returns -/
theorem S_tryMake {F : FI} {C CI : Addr} {i : Nat} {ts : Addr → Value → Option Addr → TS} {Wout : WX} (hx : PySem.W.exmOne K (.ref CI) (.ref CI) = some true)
    (h : A tr Γ fun ss => F ss (fun _ => False) fun x => x.C = CI ∧ ∀ a d, S (ts a (.ref CI) d) (Γ.set i (.pl (exS a d x.fs))) { Φ with nx := fun _ => False, bk := fun _ => False, ct := fun _ => False, er := E0, ex := fun _ => False }) :
    S (fun D σ H => tDrop (tMakeS C (spInit C F) (WE (wAs K (.ref CI) i ts Wout D)) tr) D σ H) Γ Φ := fun B0 H0 D σ B H dk at0 =>
  h σ B H at0.inn at0.rel _ fun ss vs B1 H1 st p k x dx hx1 hdx ne => by
    have hB : B1 x = none := st.inn.free hx1
    have hBd : B1 dx = none := st.inn.free hdx
    have hd2 : upd (upd H1 dx (.own x)) x (.ins C dx []) dx = some (.own x) := by rw [upd_ne ne]; exact upd_same
    have s1 : Step B1 H1 (upd B1 dx (.own x)) (upd (upd H1 dx (.own x)) x (.ins C dx [])) := ⟨fun a o e => by
        by_cases ha : a = dx
        · subst ha; rw [upd_same] at e; cases e; exact hd2
        · rw [upd_ne ha] at e
          rw [upd_ne (ne_of_none e hB), upd_ne ha]
          exact st.inn _ _ e, fun a o e => by rw [upd_ne (ne_of_none e hBd)]; exact e, fun a h1 h2 => by
        have n1 : a ≠ dx := fun z => h2 (by rw [z]; exact hdx)
        have n2 : a ≠ x := fun z => h2 (by rw [z]; exact hx1)
        rw [upd_ne n1, upd_ne n2, upd_ne n1]
        exact ⟨h1, rfl⟩⟩
    have a2 := (at0.step st).step s1
    refine ⟨upd B1 dx (.own x), x, dx, vs, ss, _, _, rfl, upd_same, by rw [upd_ne (fun z => ne z.symm)]; exact hB, s1.inn, p.mono s1.base, k, fun gs fs B' H' st' pf f => f.elim, fun e d B' H' st' ea f => ⟨true, by rw [f.1]; exact hx, fun _ a ha => ?_, fun z => nomatch z⟩⟩
    obtain ⟨e1, f⟩ := f
    obtain ⟨dd, fs, rfl, hd, hf⟩ := ea
    rw [e1]
    exact f a (some dd) B0 H0 _ _ B' H' ⟨fun _ _ _ _ _ z => z.elim, fun s v Γ' σ' B2 H2 at2 pv k2 => dk.rt s v Γ' σ' B2 H2 at2 pv k2, fun _ _ _ _ _ z => z.elim, fun _ _ _ _ _ z => z.elim, fun _ _ _ _ _ _ _ _ z => z.elim⟩ ((a2.step st').set (s := exS a (some dd) e.fs) ⟨rfl, dd, fs, rfl, hd, hf⟩)
end
section
variable {K : PySem.W.Frag} {Γ : List Bd} {Φ : Slot → Prop} {ta : TA} {g : TG} {te : TE} {vs : List Nat}
/-- over zip of two tuples of one length, an exception being handled -/
theorem E_lcZH (xs : List (Slot × Slot)) (f : Slot × Slot → Slot) (h : A ta Γ fun ss => ss = [tupS K (xs.map (·.1)), tupS K (xs.map (·.2))]) (hn : xs.length ≤ 50000) (ht : ∀ x ∈ xs, LcT g tYes te vs Γ (tupS K [x.1, x.2]) true (f x)) (k : Φ (lstS (xs.map f))) : E (tLc (iZipH K ta) g tYes te vs) Γ Φ := fun σ B H b rl Q q =>
  h σ B H b rl _ fun ss vv B1 H1 st pv e => by
    subst e
    cases pv with
    | cons pa pv => cases pv with
      | cons pb pv =>
        cases pv
        obtain ⟨la, ua, rfl, hla, hpa⟩ := pa
        obtain ⟨lb, ub, rfl, hlb, hpb⟩ := pb
        have la1 : ua.length = xs.length := by rw [hpa.length, List.length_map]
        have lb1 : ub.length = xs.length := by rw [hpb.length, List.length_map]
        refine ⟨la, lb, ua, ub, rfl, Same.tup st.inn hla, Same.tup st.inn hlb, fun Dl hD => ?_⟩
        refine ⟨fun i m H' => m = xs.length - i ∧ i ≤ xs.length ∧ LcP B1 H1 Dl ((xs.take i).map f) H', ⟨xs.length, by simp, Nat.zero_le _, by simpa using LcP.start st.inn hD⟩, ?_⟩
        rintro i m H' ⟨rfl, hi, w⟩
        obtain ⟨B', ys, st', hB, hH, py⟩ := id w
        have qa : SqT K H' la ua := Same.tup st'.inn (Same.tup st'.base hla)
        have qb : SqT K H' lb ub := Same.tup st'.inn (Same.tup st'.base hlb)
        by_cases hlt : i < xs.length
        · refine .inr ⟨⟨ua, ub, ua[i], ub[i], qa, qb, by simp, by simp⟩, LcP B1 H1 Dl ((xs.take (i + 1)).map f), fun H2 p' => ⟨xs.length - (i + 1), by omega, rfl, hlt, p'⟩, fun v H2 y => ?_⟩
          obtain ⟨Tp, x, y, rfl, hT, rfl, ea, eb⟩ := y
          obtain ⟨sa, es, psa⟩ := hpa.getR (ea ua qa)
          obtain ⟨z, ez, rfl⟩ := mapGet es
          obtain ⟨sb, es2, psb⟩ := hpb.getR (eb ub qb)
          obtain ⟨z2, ez2, rfl⟩ := mapGet es2
          rw [ez] at ez2; cases ez2
          have hl2 : ys.length < 60000 := by
            rw [py.length, List.length_map, List.length_take]
            omega
          have hTD : Dl ≠ Tp := fun z => by rw [← z, hH] at hT; cases hT
          have st2 := st'.trans (Step.new (o := .tup [x, y]) st'.inn hT)
          have sm : Same B' (upd B' Tp (.tup [x, y])) := (Step.new (o := .tup [x, y]) st'.inn hT).base
          have := (ht z (List.mem_of_getElem? ez)).run (x := .ref Tp) (rl.step st) hD st2 (by rw [upd_ne hTD]; exact hB) (by rw [upd_ne hTD]; exact hH) (py.mono sm) hl2
            ⟨Tp, [x, y], rfl, .inl (.inl upd_same), .cons (z.1.mono (st'.base.trans sm) psa) (.cons (z.2.mono (st'.base.trans sm) psb) .nil)⟩
          rw [show (xs.take (i + 1)).map f = (xs.take i).map f ++ [f z] by rw [List.take_succ, ez]; simp]
          exact this
        · have e : i = xs.length := by omega
          subst e
          rw [List.take_length] at w
          obtain ⟨B', st', pl⟩ := w.fin st.inn hD
          exact .inl ⟨⟨ua, ub, qa, qb, by omega⟩, q _ _ B' H' (st.trans st') pl k⟩
end
end Ab

/-! K78M -/
/-! The worths as Rat: what the program's and the law's own reckoning of lowest terms give. -/
namespace RatM
theorem gcd_int (t b : Int) : ((Nat.gcd t.natAbs b.natAbs : Nat) : Int) = (b.gcd t : Int) := by
  rw [Int.gcd, Nat.gcd_comm]
theorem gcd_pos {t b : Int} (h : b ≠ 0) : (0 : Int) < (b.gcd t : Int) := by
  have : b.gcd t ≠ 0 := by
    intro z
    exact h (Int.gcd_eq_zero_iff.mp z).1
  omega
theorem gcd_le {t b : Int} (h : b ≠ 0) : b.gcd t ≤ b.natAbs := Int.gcd_le_natAbs_left t h
theorem fdiv_pos {a g : Int} (hg : 0 < g) : a.fdiv g = a / g := Int.fdiv_eq_ediv_of_nonneg a (Int.le_of_lt hg)
theorem fdiv_neg' {a g : Int} (hg : 0 < g) (hd : g ∣ a) : a.fdiv (-g) = (-a) / g := by
  obtain ⟨c, rfl⟩ := hd
  have h1 : g * c = (-g) * (-c) := by rw [Int.neg_mul_neg]
  rw [h1, Int.mul_fdiv_cancel_left _ (by omega), ← h1, ← Int.mul_neg, Int.mul_ediv_cancel_left _ (by omega)]
theorem num_pos {t b : Int} (hb : 0 < b) : t.fdiv (b.gcd t : Int) = (Rat.divInt t b).num := by
  rw [Rat.num_divInt, fdiv_pos (gcd_pos (by omega)), Int.sign_eq_one_of_pos hb, Int.one_mul]
theorem den_pos {t b : Int} (hb : 0 < b) : b.fdiv (b.gcd t : Int) = ((Rat.divInt t b).den : Int) := by
  rw [Rat.den_divInt, if_neg (by omega), fdiv_pos (gcd_pos (by omega)), Int.natCast_ediv, Int.natAbs_of_nonneg (by omega)]
theorem num_neg {t b : Int} (hb : b < 0) : t.fdiv (-(b.gcd t : Int)) = (Rat.divInt t b).num := by
  rw [Rat.num_divInt, fdiv_neg' (g := (b.gcd t : Int)) (gcd_pos (by omega)) (Int.gcd_dvd_right _ _), Int.sign_eq_neg_one_of_neg hb]
  congr 1
  omega
theorem den_neg {t b : Int} (hb : b < 0) : b.fdiv (-(b.gcd t : Int)) = ((Rat.divInt t b).den : Int) := by
  rw [Rat.den_divInt, if_neg (by omega), fdiv_neg' (g := (b.gcd t : Int)) (gcd_pos (by omega)) (Int.gcd_dvd_left _ _), Int.natCast_ediv]
  congr 1
  omega
theorem add_eq (p q : Rat) : Rat.divInt (p.num * q.den + q.num * p.den) ((p.den : Int) * q.den) = p + q := by
  have := Rat.add_def' p q
  rw [this, ← Rat.divInt_ofNat]
  rfl
theorem sub_eq (p q : Rat) : Rat.divInt (p.num * q.den - q.num * p.den) ((p.den : Int) * q.den) = p - q := by
  have := Rat.sub_def' p q
  rw [this, ← Rat.divInt_ofNat]
  rfl
theorem mul_eq (p q : Rat) : Rat.divInt (p.num * q.num) ((p.den : Int) * q.den) = p * q := by
  have := Rat.mul_def' p q
  rw [this, ← Rat.divInt_ofNat]
  rfl
theorem div_eq (p q : Rat) : Rat.divInt (p.num * q.den) ((p.den : Int) * q.num) = p / q := by
  rw [Rat.div_def, Rat.inv_def, ← Rat.divInt_mul_divInt, Rat.num_divInt_den]
theorem lt_eq (p q : Rat) : (p.num * q.den < q.num * p.den) = (p < q) := propext (Rat.lt_iff p q).symm
/-- a worth whose numerator and denominator have at most n and d bits -/
def Sz (n d : Nat) (q : Rat) : Prop := q.num.natAbs < 2 ^ n ∧ q.den < 2 ^ d
theorem Sz.mono {n d n' d' : Nat} {q : Rat} (h : Sz n d q) (hn : n ≤ n') (hd : d ≤ d') : Sz n' d' q :=
  ⟨Nat.lt_of_lt_of_le h.1 (Nat.pow_le_pow_right (by decide) hn), Nat.lt_of_lt_of_le h.2 (Nat.pow_le_pow_right (by decide) hd)⟩
theorem div_le_self' (a b : Nat) : a / b ≤ a := Nat.div_le_self a b
theorem sz_divInt {t b : Int} {n d : Nat} (ht : t.natAbs < 2 ^ n) (hb : b.natAbs < 2 ^ d) (hd : 0 < d) : Sz n d (Rat.divInt t b) := by
  have hp : 1 < 2 ^ d := by
    obtain ⟨k, rfl⟩ : ∃ k, d = k + 1 := ⟨d - 1, by omega⟩
    have := Nat.pos_of_ne_zero (show 2 ^ k ≠ 0 from Nat.pos_iff_ne_zero.mp (Nat.two_pow_pos k))
    rw [Nat.pow_succ]; omega
  refine ⟨?_, ?_⟩
  · rw [Rat.num_divInt]
    refine Nat.lt_of_le_of_lt ?_ ht
    by_cases h0 : b = 0
    · subst h0; simp
    · have hg := gcd_pos (t := t) h0
      have h1 : (b.sign * t / (b.gcd t : Int)).natAbs ≤ (b.sign * t).natAbs := Int.natAbs_ediv_le_natAbs _ _
      have h2 : (b.sign * t).natAbs ≤ t.natAbs := by
        rw [Int.natAbs_mul]
        have h3 : b.sign.natAbs ≤ 1 := by
          rw [Int.natAbs_sign]
          split <;> omega
        calc b.sign.natAbs * t.natAbs ≤ 1 * t.natAbs := Nat.mul_le_mul_right _ h3
          _ = t.natAbs := Nat.one_mul _
      omega
  · rw [Rat.den_divInt]
    split
    · exact hp
    · exact Nat.lt_of_le_of_lt (Nat.div_le_self _ _) hb
theorem mul_lt {a b n m : Nat} (ha : a < 2 ^ n) (hb : b < 2 ^ m) : a * b < 2 ^ (n + m) := by
  rw [Nat.pow_add]; exact Nat.mul_lt_mul'' ha hb
theorem le_max_pow {a n m : Nat} (h : a < 2 ^ n) (hm : n ≤ m) : a < 2 ^ m := Nat.lt_of_lt_of_le h (Nat.pow_le_pow_right (by decide) hm)
theorem sz_addnum {p q : Rat} {n d n' d' k : Nat} (hp : Sz n d p) (hq : Sz n' d' q) (h1 : n + d' + 1 ≤ k) (h2 : n' + d + 1 ≤ k) : (p.num * q.den + q.num * p.den).natAbs < 2 ^ k := by
  have a := mul_lt hp.1 hq.2
  have b := mul_lt hq.1 hp.2
  obtain ⟨j, rfl⟩ : ∃ j, k = j + 1 := ⟨k - 1, by omega⟩
  have a' := le_max_pow a (show n + d' ≤ j by omega)
  have b' := le_max_pow b (show n' + d ≤ j by omega)
  have e1 : (p.num * (q.den : Int)).natAbs = p.num.natAbs * q.den := by rw [Int.natAbs_mul, Int.natAbs_natCast]
  have e2 : (q.num * (p.den : Int)).natAbs = q.num.natAbs * p.den := by rw [Int.natAbs_mul, Int.natAbs_natCast]
  have e3 := Int.natAbs_add_le (p.num * (q.den : Int)) (q.num * (p.den : Int))
  rw [Nat.pow_succ]
  omega
theorem sz_subnum {p q : Rat} {n d n' d' k : Nat} (hp : Sz n d p) (hq : Sz n' d' q) (h1 : n + d' + 1 ≤ k) (h2 : n' + d + 1 ≤ k) : (p.num * q.den - q.num * p.den).natAbs < 2 ^ k := by
  have a := mul_lt hp.1 hq.2
  have b := mul_lt hq.1 hp.2
  obtain ⟨j, rfl⟩ : ∃ j, k = j + 1 := ⟨k - 1, by omega⟩
  have a' := le_max_pow a (show n + d' ≤ j by omega)
  have b' := le_max_pow b (show n' + d ≤ j by omega)
  have e1 : (p.num * (q.den : Int)).natAbs = p.num.natAbs * q.den := by rw [Int.natAbs_mul, Int.natAbs_natCast]
  have e2 : (q.num * (p.den : Int)).natAbs = q.num.natAbs * p.den := by rw [Int.natAbs_mul, Int.natAbs_natCast]
  have e3 : (p.num * (q.den : Int) - q.num * (p.den : Int)).natAbs ≤ (p.num * (q.den : Int)).natAbs + (q.num * (p.den : Int)).natAbs := by omega
  rw [Nat.pow_succ]
  omega
theorem sz_den {p q : Rat} {n d n' d' k : Nat} (hp : Sz n d p) (hq : Sz n' d' q) (h : d + d' ≤ k) : ((p.den : Int) * q.den).natAbs < 2 ^ k := by
  rw [Int.natAbs_mul, Int.natAbs_natCast, Int.natAbs_natCast]
  exact le_max_pow (mul_lt hp.2 hq.2) h
theorem sz_add {p q : Rat} {n d n' d' k l : Nat} (hp : Sz n d p) (hq : Sz n' d' q) (h1 : n + d' + 1 ≤ k) (h2 : n' + d + 1 ≤ k) (h3 : d + d' ≤ l) (hl : 0 < l) : Sz k l (p + q) := by
  rw [← add_eq]; exact sz_divInt (sz_addnum hp hq h1 h2) (sz_den hp hq h3) hl
theorem sz_sub {p q : Rat} {n d n' d' k l : Nat} (hp : Sz n d p) (hq : Sz n' d' q) (h1 : n + d' + 1 ≤ k) (h2 : n' + d + 1 ≤ k) (h3 : d + d' ≤ l) (hl : 0 < l) : Sz k l (p - q) := by
  rw [← sub_eq]; exact sz_divInt (sz_subnum hp hq h1 h2) (sz_den hp hq h3) hl
theorem sz_mul {p q : Rat} {n d n' d' k l : Nat} (hp : Sz n d p) (hq : Sz n' d' q) (h1 : n + n' ≤ k) (h3 : d + d' ≤ l) (hl : 0 < l) : Sz k l (p * q) := by
  rw [← mul_eq]
  refine sz_divInt ?_ (sz_den hp hq h3) hl
  rw [Int.natAbs_mul]
  exact le_max_pow (mul_lt hp.1 hq.1) h1
theorem sz_div {p q : Rat} {n d n' d' k l : Nat} (hp : Sz n d p) (hq : Sz n' d' q) (h1 : n + d' ≤ k) (h3 : d + n' ≤ l) (hl : 0 < l) : Sz k l (p / q) := by
  rw [← div_eq]
  refine sz_divInt ?_ ?_ hl
  · rw [Int.natAbs_mul, Int.natAbs_natCast]
    exact le_max_pow (mul_lt hp.1 hq.2) h1
  · rw [Int.natAbs_mul, Int.natAbs_natCast]
    exact le_max_pow (mul_lt hp.2 hq.1) h3
/-! the law's own gcd -/
theorem gcd_step (a b : Int) : Int.gcd b (a.fmod b) = Int.gcd a b := by
  rw [Int.gcd_comm a b, Int.fmod_def]
  have : a - b * a.fdiv b = a + b * (-(a.fdiv b)) := by rw [Int.mul_neg]; omega
  rw [this, Int.gcd_add_mul_left_right]
end RatM

/-! K78H -/
namespace K78
open PySem PySem.Spec PyProof.Rows L2 Ab RatM
def top (i : Nat) : Stmt := PySem.Challenge.pw_soleheld_k78_spans_hold_worths.main.body.getD i (.Pass ⟨0, 0, 0, 0⟩)
abbrev s_worth : Stmt := top 6
abbrev n_worth : List Str := ["top", "bottom", "shared"]
abbrev p_worth : List Str := ["top", "bottom"]
theorem sc_worth : FnScope n_worth p_worth (defScope s_worth) := ⟨rfl, rfl, rfl, by decide +kernel, rfl, by decide +kernel, by decide +kernel⟩
abbrev s_plus : Stmt := top 7
abbrev n_plus : List Str := ["a", "b"]
abbrev p_plus : List Str := ["a", "b"]
theorem sc_plus : FnScope n_plus p_plus (defScope s_plus) := ⟨rfl, rfl, rfl, by decide +kernel, rfl, by decide +kernel, by decide +kernel⟩
abbrev s_minus : Stmt := top 8
abbrev n_minus : List Str := ["a", "b"]
abbrev p_minus : List Str := ["a", "b"]
theorem sc_minus : FnScope n_minus p_minus (defScope s_minus) := ⟨rfl, rfl, rfl, by decide +kernel, rfl, by decide +kernel, by decide +kernel⟩
abbrev s_product : Stmt := top 9
abbrev n_product : List Str := ["a", "b"]
abbrev p_product : List Str := ["a", "b"]
theorem sc_product : FnScope n_product p_product (defScope s_product) := ⟨rfl, rfl, rfl, by decide +kernel, rfl, by decide +kernel, by decide +kernel⟩
abbrev s_quotient : Stmt := top 10
abbrev n_quotient : List Str := ["a", "b"]
abbrev p_quotient : List Str := ["a", "b"]
theorem sc_quotient : FnScope n_quotient p_quotient (defScope s_quotient) := ⟨rfl, rfl, rfl, by decide +kernel, rfl, by decide +kernel, by decide +kernel⟩
abbrev s_is_less : Stmt := top 11
abbrev n_is_less : List Str := ["a", "b"]
abbrev p_is_less : List Str := ["a", "b"]
theorem sc_is_less : FnScope n_is_less p_is_less (defScope s_is_less) := ⟨rfl, rfl, rfl, by decide +kernel, rfl, by decide +kernel, by decide +kernel⟩
abbrev s_floor_of : Stmt := top 12
abbrev n_floor_of : List Str := ["a"]
abbrev p_floor_of : List Str := ["a"]
theorem sc_floor_of : FnScope n_floor_of p_floor_of (defScope s_floor_of) := ⟨rfl, rfl, rfl, by decide +kernel, rfl, by decide +kernel, by decide +kernel⟩
abbrev s_worth_text : Stmt := top 13
abbrev n_worth_text : List Str := ["a"]
abbrev p_worth_text : List Str := ["a"]
theorem sc_worth_text : FnScope n_worth_text p_worth_text (defScope s_worth_text) := ⟨rfl, rfl, rfl, by decide +kernel, rfl, by decide +kernel, by decide +kernel⟩
abbrev s_xless_one : Stmt := top 16
abbrev n_xless_one : List Str := ["first", "second"]
abbrev p_xless_one : List Str := ["first", "second"]
theorem sc_xless_one : FnScope n_xless_one p_xless_one (defScope s_xless_one) := ⟨rfl, rfl, rfl, by decide +kernel, rfl, by decide +kernel, by decide +kernel⟩
abbrev s_xgreater_one : Stmt := top 17
abbrev n_xgreater_one : List Str := ["first", "second"]
abbrev p_xgreater_one : List Str := ["first", "second"]
theorem sc_xgreater_one : FnScope n_xgreater_one p_xgreater_one (defScope s_xgreater_one) := ⟨rfl, rfl, rfl, by decide +kernel, rfl, by decide +kernel, by decide +kernel⟩
abbrev s_xaround : Stmt := top 18
abbrev n_xaround : List Str := ["first", "second", "third", "fourth", "low", "high"]
abbrev p_xaround : List Str := ["first", "second", "third", "fourth"]
theorem sc_xaround : FnScope n_xaround p_xaround (defScope s_xaround) := ⟨rfl, rfl, rfl, by decide +kernel, rfl, by decide +kernel, by decide +kernel⟩
abbrev s_Span_Dinit : Stmt := inClass (top 19) 0
abbrev n_Span_Dinit : List Str := ["self", "low", "high"]
abbrev p_Span_Dinit : List Str := ["self", "low", "high"]
theorem sc_Span_Dinit : FnScope n_Span_Dinit p_Span_Dinit (defScope s_Span_Dinit) := ⟨rfl, rfl, rfl, by decide +kernel, rfl, by decide +kernel, by decide +kernel⟩
abbrev s_Span_Dadd : Stmt := inClass (top 19) 1
abbrev n_Span_Dadd : List Str := ["self", "other"]
abbrev p_Span_Dadd : List Str := ["self", "other"]
theorem sc_Span_Dadd : FnScope n_Span_Dadd p_Span_Dadd (defScope s_Span_Dadd) := ⟨rfl, rfl, rfl, by decide +kernel, rfl, by decide +kernel, by decide +kernel⟩
abbrev s_Span_Dsub : Stmt := inClass (top 19) 2
abbrev n_Span_Dsub : List Str := ["self", "other"]
abbrev p_Span_Dsub : List Str := ["self", "other"]
theorem sc_Span_Dsub : FnScope n_Span_Dsub p_Span_Dsub (defScope s_Span_Dsub) := ⟨rfl, rfl, rfl, by decide +kernel, rfl, by decide +kernel, by decide +kernel⟩
abbrev s_Span_Dmul : Stmt := inClass (top 19) 3
abbrev n_Span_Dmul : List Str := ["self", "other"]
abbrev p_Span_Dmul : List Str := ["self", "other"]
theorem sc_Span_Dmul : FnScope n_Span_Dmul p_Span_Dmul (defScope s_Span_Dmul) := ⟨rfl, rfl, rfl, by decide +kernel, rfl, by decide +kernel, by decide +kernel⟩
abbrev s_Span_over : Stmt := inClass (top 19) 4
abbrev n_Span_over : List Str := ["self", "other"]
abbrev p_Span_over : List Str := ["self", "other"]
theorem sc_Span_over : FnScope n_Span_over p_Span_over (defScope s_Span_over) := ⟨rfl, rfl, rfl, by decide +kernel, rfl, by decide +kernel, by decide +kernel⟩
abbrev s_Span_floor : Stmt := inClass (top 19) 5
abbrev n_Span_floor : List Str := ["self"]
abbrev p_Span_floor : List Str := ["self"]
theorem sc_Span_floor : FnScope n_Span_floor p_Span_floor (defScope s_Span_floor) := ⟨rfl, rfl, rfl, by decide +kernel, rfl, by decide +kernel, by decide +kernel⟩
abbrev s_Span_least : Stmt := inClass (top 19) 6
abbrev n_Span_least : List Str := ["self", "other"]
abbrev p_Span_least : List Str := ["self", "other"]
theorem sc_Span_least : FnScope n_Span_least p_Span_least (defScope s_Span_least) := ⟨rfl, rfl, rfl, by decide +kernel, rfl, by decide +kernel, by decide +kernel⟩
abbrev s_Span_greatest : Stmt := inClass (top 19) 7
abbrev n_Span_greatest : List Str := ["self", "other"]
abbrev p_Span_greatest : List Str := ["self", "other"]
theorem sc_Span_greatest : FnScope n_Span_greatest p_Span_greatest (defScope s_Span_greatest) := ⟨rfl, rfl, rfl, by decide +kernel, rfl, by decide +kernel, by decide +kernel⟩
abbrev s_Span_below : Stmt := inClass (top 19) 8
abbrev n_Span_below : List Str := ["self", "other"]
abbrev p_Span_below : List Str := ["self", "other"]
theorem sc_Span_below : FnScope n_Span_below p_Span_below (defScope s_Span_below) := ⟨rfl, rfl, rfl, by decide +kernel, rfl, by decide +kernel, by decide +kernel⟩
abbrev s_Span_at_most : Stmt := inClass (top 19) 9
abbrev n_Span_at_most : List Str := ["self", "other"]
abbrev p_Span_at_most : List Str := ["self", "other"]
theorem sc_Span_at_most : FnScope n_Span_at_most p_Span_at_most (defScope s_Span_at_most) := ⟨rfl, rfl, rfl, by decide +kernel, rfl, by decide +kernel, by decide +kernel⟩
abbrev s_Span_same : Stmt := inClass (top 19) 10
abbrev n_Span_same : List Str := ["self", "other"]
abbrev p_Span_same : List Str := ["self", "other"]
theorem sc_Span_same : FnScope n_Span_same p_Span_same (defScope s_Span_same) := ⟨rfl, rfl, rfl, by decide +kernel, rfl, by decide +kernel, by decide +kernel⟩
abbrev s_Span_truth : Stmt := inClass (top 19) 11
abbrev n_Span_truth : List Str := ["self"]
abbrev p_Span_truth : List Str := ["self"]
theorem sc_Span_truth : FnScope n_Span_truth p_Span_truth (defScope s_Span_truth) := ⟨rfl, rfl, rfl, by decide +kernel, rfl, by decide +kernel, by decide +kernel⟩
abbrev s_Span_single : Stmt := inClass (top 19) 12
abbrev n_Span_single : List Str := ["self"]
abbrev p_Span_single : List Str := ["self"]
theorem sc_Span_single : FnScope n_Span_single p_Span_single (defScope s_Span_single) := ⟨rfl, rfl, rfl, by decide +kernel, rfl, by decide +kernel, by decide +kernel⟩
abbrev s_Span_Dcontains : Stmt := inClass (top 19) 13
abbrev n_Span_Dcontains : List Str := ["self", "value"]
abbrev p_Span_Dcontains : List Str := ["self", "value"]
theorem sc_Span_Dcontains : FnScope n_Span_Dcontains p_Span_Dcontains (defScope s_Span_Dcontains) := ⟨rfl, rfl, rfl, by decide +kernel, rfl, by decide +kernel, by decide +kernel⟩
abbrev s_Span_Deq : Stmt := inClass (top 19) 14
abbrev n_Span_Deq : List Str := ["self", "other"]
abbrev p_Span_Deq : List Str := ["self", "other"]
theorem sc_Span_Deq : FnScope n_Span_Deq p_Span_Deq (defScope s_Span_Deq) := ⟨rfl, rfl, rfl, by decide +kernel, rfl, by decide +kernel, by decide +kernel⟩
abbrev s_Span_Dstr : Stmt := inClass (top 19) 15
abbrev n_Span_Dstr : List Str := ["self"]
abbrev p_Span_Dstr : List Str := ["self"]
theorem sc_Span_Dstr : FnScope n_Span_Dstr p_Span_Dstr (defScope s_Span_Dstr) := ⟨rfl, rfl, rfl, by decide +kernel, rfl, by decide +kernel, by decide +kernel⟩
abbrev s_point : Stmt := top 20
abbrev n_point : List Str := ["value"]
abbrev p_point : List Str := ["value"]
theorem sc_point : FnScope n_point p_point (defScope s_point) := ⟨rfl, rfl, rfl, by decide +kernel, rfl, by decide +kernel, by decide +kernel⟩
abbrev s_InvalidNumber_Dinit : Stmt := inClass (top 3) 0
abbrev n_InvalidNumber_Dinit : List Str := ["self", "value"]
abbrev p_InvalidNumber_Dinit : List Str := ["self", "value"]
theorem sc_InvalidNumber_Dinit : FnScope n_InvalidNumber_Dinit p_InvalidNumber_Dinit (defScope s_InvalidNumber_Dinit) := ⟨rfl, rfl, rfl, by decide +kernel, rfl, by decide +kernel, by decide +kernel⟩
abbrev s_lbag : Stmt := top 22
abbrev n_lbag : List Str := ["script", "first", "cell"]
abbrev p_lbag : List Str := ["script"]
theorem sc_lbag : FnScope n_lbag p_lbag (defScope s_lbag) := ⟨rfl, rfl, rfl, by decide +kernel, rfl, by decide +kernel, by decide +kernel⟩
abbrev s_lpull : Stmt := top 23
abbrev n_lpull : List Str := ["bag", "many", "cell", "digit", "twice"]
abbrev p_lpull : List Str := ["bag", "many"]
theorem sc_lpull : FnScope n_lpull p_lpull (defScope s_lpull) := ⟨rfl, rfl, rfl, by decide +kernel, rfl, by decide +kernel, by decide +kernel⟩
abbrev s_lof : Stmt := top 24
abbrev n_lof : List Str := ["bag", "some"]
abbrev p_lof : List Str := ["bag", "some"]
theorem sc_lof : FnScope n_lof p_lof (defScope s_lof) := ⟨rfl, rfl, rfl, by decide +kernel, rfl, by decide +kernel, by decide +kernel⟩
abbrev s_llike : Stmt := top 25
abbrev n_llike : List Str := ["found", "due", "a", "b"]
abbrev p_llike : List Str := ["found", "due"]
theorem sc_llike : FnScope n_llike p_llike (defScope s_llike) := ⟨rfl, rfl, rfl, by decide +kernel, rfl, by decide +kernel, by decide +kernel⟩
abbrev s_lfit : Stmt := top 26
abbrev n_lfit : List Str := ["top", "bottom", "a", "b", "sign"]
abbrev p_lfit : List Str := ["top", "bottom"]
theorem sc_lfit : FnScope n_lfit p_lfit (defScope s_lfit) := ⟨rfl, rfl, rfl, by decide +kernel, rfl, by decide +kernel, by decide +kernel⟩
abbrev s_lplus : Stmt := top 27
abbrev n_lplus : List Str := ["a", "b"]
abbrev p_lplus : List Str := ["a", "b"]
theorem sc_lplus : FnScope n_lplus p_lplus (defScope s_lplus) := ⟨rfl, rfl, rfl, by decide +kernel, rfl, by decide +kernel, by decide +kernel⟩
abbrev s_lminus : Stmt := top 28
abbrev n_lminus : List Str := ["a", "b"]
abbrev p_lminus : List Str := ["a", "b"]
theorem sc_lminus : FnScope n_lminus p_lminus (defScope s_lminus) := ⟨rfl, rfl, rfl, by decide +kernel, rfl, by decide +kernel, by decide +kernel⟩
abbrev s_ltimes : Stmt := top 29
abbrev n_ltimes : List Str := ["a", "b"]
abbrev p_ltimes : List Str := ["a", "b"]
theorem sc_ltimes : FnScope n_ltimes p_ltimes (defScope s_ltimes) := ⟨rfl, rfl, rfl, by decide +kernel, rfl, by decide +kernel, by decide +kernel⟩
abbrev s_lpart : Stmt := top 30
abbrev n_lpart : List Str := ["a", "b"]
abbrev p_lpart : List Str := ["a", "b"]
theorem sc_lpart : FnScope n_lpart p_lpart (defScope s_lpart) := ⟨rfl, rfl, rfl, by decide +kernel, rfl, by decide +kernel, by decide +kernel⟩
abbrev s_lless : Stmt := top 31
abbrev n_lless : List Str := ["a", "b"]
abbrev p_lless : List Str := ["a", "b"]
theorem sc_lless : FnScope n_lless p_lless (defScope s_lless) := ⟨rfl, rfl, rfl, by decide +kernel, rfl, by decide +kernel, by decide +kernel⟩
abbrev s_ltext : Stmt := top 32
abbrev n_ltext : List Str := ["a"]
abbrev p_ltext : List Str := ["a"]
theorem sc_ltext : FnScope n_ltext p_ltext (defScope s_ltext) := ⟨rfl, rfl, rfl, by decide +kernel, rfl, by decide +kernel, by decide +kernel⟩
abbrev s_lworth : Stmt := top 33
abbrev n_lworth : List Str := ["bag", "way", "top"]
abbrev p_lworth : List Str := ["bag"]
theorem sc_lworth : FnScope n_lworth p_lworth (defScope s_lworth) := ⟨rfl, rfl, rfl, by decide +kernel, rfl, by decide +kernel, by decide +kernel⟩
abbrev s_lends : Stmt := top 34
abbrev n_lends : List Str := ["bag", "a", "b"]
abbrev p_lends : List Str := ["bag"]
theorem sc_lends : FnScope n_lends p_lends (defScope s_lends) := ⟨rfl, rfl, rfl, by decide +kernel, rfl, by decide +kernel, by decide +kernel⟩
abbrev s_lwithin : Stmt := top 35
abbrev n_lwithin : List Str := ["bag", "ends", "gap", "n", "drawn"]
abbrev p_lwithin : List Str := ["bag", "ends"]
theorem sc_lwithin : FnScope n_lwithin p_lwithin (defScope s_lwithin) := ⟨rfl, rfl, rfl, by decide +kernel, rfl, by decide +kernel, by decide +kernel⟩
abbrev s_lleast : Stmt := top 36
abbrev n_lleast : List Str := ["some", "least", "best", "one"]
abbrev p_lleast : List Str := ["some"]
theorem sc_lleast : FnScope n_lleast p_lleast (defScope s_lleast) := ⟨rfl, rfl, rfl, by decide +kernel, rfl, by decide +kernel, by decide +kernel⟩
abbrev s_ldown : Stmt := top 37
abbrev n_ldown : List Str := ["a"]
abbrev p_ldown : List Str := ["a"]
theorem sc_ldown : FnScope n_ldown p_ldown (defScope s_ldown) := ⟨rfl, rfl, rfl, by decide +kernel, rfl, by decide +kernel, by decide +kernel⟩
abbrev s_lholds : Stmt := top 38
abbrev n_lholds : List Str := ["span", "ends", "some", "outer", "one"]
abbrev p_lholds : List Str := ["span", "ends", "some"]
theorem sc_lholds : FnScope n_lholds p_lholds (defScope s_lholds) := ⟨rfl, rfl, rfl, by decide +kernel, rfl, by decide +kernel, by decide +kernel⟩
abbrev s_lways : Stmt := top 39
abbrev n_lways : List Str := ["word", "a", "b"]
abbrev p_lways : List Str := ["word", "a", "b"]
theorem sc_lways : FnScope n_lways p_lways (defScope s_lways) := ⟨rfl, rfl, rfl, by decide +kernel, rfl, by decide +kernel, by decide +kernel⟩
abbrev s_lcalled : Stmt := top 40
abbrev n_lcalled : List Str := ["word", "a", "b"]
abbrev p_lcalled : List Str := ["word", "a", "b"]
theorem sc_lcalled : FnScope n_lcalled p_lcalled (defScope s_lcalled) := ⟨rfl, rfl, rfl, by decide +kernel, rfl, by decide +kernel, by decide +kernel⟩
abbrev s_loperators : Stmt := top 41
abbrev n_loperators : List Str := ["first", "other", "a", "b", "some", "rest", "word", "found", "corners", "inner", "x", "y"]
abbrev p_loperators : List Str := ["first", "other", "a", "b", "some", "rest"]
theorem sc_loperators : FnScope n_loperators p_loperators (defScope s_loperators) := ⟨rfl, rfl, rfl, by decide +kernel, rfl, by decide +kernel, by decide +kernel⟩
abbrev s_lagree : Stmt := top 42
abbrev n_lagree : List Str := ["some"]
abbrev p_lagree : List Str := ["some"]
theorem sc_lagree : FnScope n_lagree p_lagree (defScope s_lagree) := ⟨rfl, rfl, rfl, by decide +kernel, rfl, by decide +kernel, by decide +kernel⟩
abbrev s_lsame : Stmt := top 43
abbrev n_lsame : List Str := ["a", "b"]
abbrev p_lsame : List Str := ["a", "b"]
theorem sc_lsame : FnScope n_lsame p_lsame (defScope s_lsame) := ⟨rfl, rfl, rfl, by decide +kernel, rfl, by decide +kernel, by decide +kernel⟩
abbrev s_lcompared : Stmt := top 44
abbrev n_lcompared : List Str := ["first", "other", "a", "b", "some", "rest", "below", "under", "x", "y"]
abbrev p_lcompared : List Str := ["first", "other", "a", "b", "some", "rest"]
theorem sc_lcompared : FnScope n_lcompared p_lcompared (defScope s_lcompared) := ⟨rfl, rfl, rfl, by decide +kernel, rfl, by decide +kernel, by decide +kernel⟩
abbrev s_lrefused : Stmt := top 45
abbrev n_lrefused : List Str := ["above", "below", "e"]
abbrev p_lrefused : List Str := ["above", "below"]
theorem sc_lrefused : FnScope n_lrefused p_lrefused (defScope s_lrefused) := ⟨rfl, rfl, rfl, by decide +kernel, rfl, by decide +kernel, by decide +kernel⟩
abbrev s_lalone : Stmt := top 46
abbrev n_lalone : List Str := ["span", "ends", "due", "text"]
abbrev p_lalone : List Str := ["span", "ends"]
theorem sc_lalone : FnScope n_lalone p_lalone (defScope s_lalone) := ⟨rfl, rfl, rfl, by decide +kernel, rfl, by decide +kernel, by decide +kernel⟩
abbrev s_law : Stmt := top 47
abbrev n_law : List Str := ["script", "bag", "a", "b", "first", "other", "some", "rest", "span", "ends", "held"]
abbrev p_law : List Str := ["script"]
theorem sc_law : FnScope n_law p_law (defScope s_law) := ⟨rfl, rfl, rfl, by decide +kernel, rfl, by decide +kernel, by decide +kernel⟩
/-- a method, as the written part has it -/
structure DfM (K : PySem.W.Frag) (C : Addr) (x qual : Str) (st : Stmt) (ps : List Str) where
  f : Addr
  fd : FuncData
  F : Fun K x qual st f fd
  b : Binds K fd ps []
  s : PySem.W.findIn K (.ref C) x = some (some (.ref f))
  i : PySem.W.isFn K (.ref f) = true
theorem DfM.m {K : PySem.W.Frag} {C : Addr} {x qual : Str} {st : Stmt} {ps : List Str} (d : DfM K C x qual st ps) : Meth K C x d.f := ⟨d.s, d.i, d.F.kp⟩
structure Tx (K : PySem.W.Frag) (mg : Str → Option Value) where
  C : Addr
  plus : DfG K mg "plus" "plus" s_plus p_plus
  minus : DfG K mg "minus" "minus" s_minus p_minus
  product : DfG K mg "product" "product" s_product p_product
  quotient : DfG K mg "quotient" "quotient" s_quotient p_quotient
  is_less : DfG K mg "is_less" "is_less" s_is_less p_is_less
  floor_of : DfG K mg "floor_of" "floor_of" s_floor_of p_floor_of
  worth_text : DfG K mg "worth_text" "worth_text" s_worth_text p_worth_text
  xless_one : DfG K mg "_less_one" "_less_one" s_xless_one p_xless_one
  xgreater_one : DfG K mg "_greater_one" "_greater_one" s_xgreater_one p_xgreater_one
  xaround : DfG K mg "_around" "_around" s_xaround p_xaround
  Span_Dinit : DfM K C "__init__" "Span.__init__" s_Span_Dinit p_Span_Dinit
  Span_Dadd : DfM K C "__add__" "Span.__add__" s_Span_Dadd p_Span_Dadd
  Span_Dsub : DfM K C "__sub__" "Span.__sub__" s_Span_Dsub p_Span_Dsub
  Span_Dmul : DfM K C "__mul__" "Span.__mul__" s_Span_Dmul p_Span_Dmul
  Span_over : DfM K C "over" "Span.over" s_Span_over p_Span_over
  Span_floor : DfM K C "floor" "Span.floor" s_Span_floor p_Span_floor
  Span_least : DfM K C "least" "Span.least" s_Span_least p_Span_least
  Span_greatest : DfM K C "greatest" "Span.greatest" s_Span_greatest p_Span_greatest
  Span_below : DfM K C "below" "Span.below" s_Span_below p_Span_below
  Span_at_most : DfM K C "at_most" "Span.at_most" s_Span_at_most p_Span_at_most
  Span_same : DfM K C "same" "Span.same" s_Span_same p_Span_same
  Span_truth : DfM K C "truth" "Span.truth" s_Span_truth p_Span_truth
  Span_single : DfM K C "single" "Span.single" s_Span_single p_Span_single
  Span_Dcontains : DfM K C "__contains__" "Span.__contains__" s_Span_Dcontains p_Span_Dcontains
  Span_Deq : DfM K C "__eq__" "Span.__eq__" s_Span_Deq p_Span_Deq
  Span_Dstr : DfM K C "__str__" "Span.__str__" s_Span_Dstr p_Span_Dstr
  point : DfG K mg "point" "point" s_point p_point
  CI : Addr
  InvalidNumber_Dinit : DfM K CI "__init__" "InvalidNumber.__init__" s_InvalidNumber_Dinit p_InvalidNumber_Dinit
  lbag : DfG K mg "_law_bag" "_law_bag" s_lbag p_lbag
  lpull : DfG K mg "_law_pull" "_law_pull" s_lpull p_lpull
  lof : DfG K mg "_law_of" "_law_of" s_lof p_lof
  llike : DfG K mg "_law_like" "_law_like" s_llike p_llike
  lfit : DfG K mg "_law_fit" "_law_fit" s_lfit p_lfit
  lplus : DfG K mg "_law_plus" "_law_plus" s_lplus p_lplus
  lminus : DfG K mg "_law_minus" "_law_minus" s_lminus p_lminus
  ltimes : DfG K mg "_law_times" "_law_times" s_ltimes p_ltimes
  lpart : DfG K mg "_law_part" "_law_part" s_lpart p_lpart
  lless : DfG K mg "_law_less" "_law_less" s_lless p_lless
  ltext : DfG K mg "_law_text" "_law_text" s_ltext p_ltext
  lworth : DfG K mg "_law_worth" "_law_worth" s_lworth p_lworth
  lends : DfG K mg "_law_ends" "_law_ends" s_lends p_lends
  lwithin : DfG K mg "_law_within" "_law_within" s_lwithin p_lwithin
  lleast : DfG K mg "_law_least" "_law_least" s_lleast p_lleast
  ldown : DfG K mg "_law_down" "_law_down" s_ldown p_ldown
  lholds : DfG K mg "_law_holds" "_law_holds" s_lholds p_lholds
  lways : DfG K mg "_law_ways" "_law_ways" s_lways p_lways
  lcalled : DfG K mg "_law_called" "_law_called" s_lcalled p_lcalled
  loperators : DfG K mg "_law_operators" "_law_operators" s_loperators p_loperators
  lagree : DfG K mg "_law_agree" "_law_agree" s_lagree p_lagree
  lsame : DfG K mg "_law_same" "_law_same" s_lsame p_lsame
  lcompared : DfG K mg "_law_compared" "_law_compared" s_lcompared p_lcompared
  lrefused : DfG K mg "_law_refused" "_law_refused" s_lrefused p_lrefused
  lalone : DfG K mg "_law_alone" "_law_alone" s_lalone p_lalone
  law : DfG K mg "law" "law" s_law p_law
  oex : OexC K CI
  nVal : PySem.W.findIn K (.ref CI) "value" = some none
  nCode : PySem.W.findIn K (.ref CI) "code" = some none
  gInv : mg "InvalidNumber" = some (.ref CI)
  CE : Addr
  CN : Addr
  gCE : mg "CountError" = some (.ref CE)
  gCN : mg "InvalidNames" = some (.ref CN)
  isE : PySem.W.kitOne K (.ref CI) (.ref CE) = some true
  isN : PySem.W.kitOne K (.ref CI) (.ref CN) = some false
  xf : XfC K CI
  xc : ExcC K CI
  exI : PySem.W.exmOne K (.ref CI) (.ref CI) = some true
  fWorth : Addr
  fdWorth : FuncData
  FWorth : ∃ dvs, FunD K "worth" "worth" (defArgs s_worth) (defBody s_worth) (defScope s_worth) dvs [] fWorth fdWorth
  bWorth : Binds K fdWorth p_worth []
  gWorth : mg "worth" = some (.ref fWorth)
  kWorth : PySem.W.keepIn K (.ref fWorth) = true
  gcd : mg "gcd" = some (.builtin "math.gcd")
  aZ : Addr
  gZERO : mg "ZERO" = some (.ref aZ)
  sZERO : ∀ H : Hp, (ratS K 0).P (.ref aZ) H
  gSpan : mg "Span" = some (.ref C)
  cl : Cls K C
  nLow : NoAttr K C "low"
  nHigh : NoAttr K C "high"
  sfSpan : PySem.W.selfFirst K C = true
  makes : PySem.W.makesIn K C = true
  kC : PySem.W.keepIn K (.ref C) = true
  spanC : PySem.W.findIn K (.ref C) "__class__" = some (some (.builtin "object.__class__"))
  clsN : PySem.W.specialIn K (.builtin "object.__class__") "__get__" = some (some (.builtin "getset_descriptor.__get__"))
  clsT : PySem.W.takesIn K (.builtin "object.__class__") = some true
  kTup : PySem.W.kitOne K (.type "tuple") (.ref C) = some false
  kStr : PySem.W.kitOne K (.type "str") (.ref C) = some false
  kNon : PySem.W.kitOne K (.type "NoneType") (.ref C) = some false
  nfTup : PySem.W.notFirst K C (.type "tuple") = true
  nfStr : PySem.W.notFirst K C (.type "str") = true
  nfNon : PySem.W.notFirst K C (.type "NoneType") = true
  mroC : PySem.W.mroIn K C (.type "object") = some true
  len : mg "len" = none
  abs : mg "abs" = none
  int : mg "int" = none
  str : mg "str" = none
  isinstance : mg "isinstance" = none
  zip : mg "zip" = none
  all : mg "all" = none
  any : mg "any" = none
  sum : mg "sum" = none
  list : mg "list" = none
  tuple : mg "tuple" = none
  bool : mg "bool" = none
theorem Tx.cl_Span {K : PySem.W.Frag} {mg : Str → Option Value} (T : Tx K mg) : Cls K T.C := T.cl
end K78

/-! K78A -/
namespace K78
open PySem PySem.Spec PyProof.Rows L2 Ab RatM

local macro_rules | `(tactic| walk_at "ab") => `(tactic| first
  | (with_reducible refine S_seq ?_) | (with_reducible refine S_ret ?_) | (with_reducible refine S_asg ?_) | (with_reducible refine S_if ?_) | (with_reducible refine S_next ?_) | (with_reducible refine S_par ?_) | (with_reducible refine S_drop ?_) | (with_reducible refine S_retN ?_)
  | (with_reducible refine E_c ?_) | (with_reducible refine E_op ?_) | (with_reducible refine E_un ?_) | (with_reducible refine E_tup (K := ‹PySem.W.Frag›) ?_) | (with_reducible refine E_lst ?_) | (with_reducible refine E_cb ?_) | (with_reducible refine E_if ?_)
  | (with_reducible refine E_fld ?_) | (with_reducible refine E_not ?_) | (with_reducible refine E_and ?_) | (with_reducible refine E_or ?_) | (with_reducible refine E_meth ?_) | (with_reducible refine E_make ?_)
  | (with_reducible refine A_cons ?_) | (with_reducible refine A_nil ?_) | (with_reducible refine E_call (dss := []) (fun _ => .nil) ?_)
  | (with_reducible refine T_test ?_) | (with_reducible refine T_B ?_) | (with_reducible refine T_not ?_) | (with_reducible refine T_and ?_) | (with_reducible refine T_or ?_)
  | (refine E_var rfl ?_) | (refine R_I0 ?_) | (refine R_ixT rfl ?_) | (refine R_ixL rfl ?_) | (refine R_eqI ?_) | (refine R_eqS ?_) | (refine R_neS ?_) | (refine R_eq rfl ?_) | (refine R_ne rfl ?_) | (refine U_I ?_) | (refine R_I ?_ ?_)
  | (refine C_gcd ?_) | (refine C_abs ?_) | (refine C_int ?_) | (refine C_intB ?_)
  | ((with_reducible show ∃ (s s' : Slot), _ = [s, s'] ∧ _); refine ⟨_, _, rfl, ?_⟩)
  | (refine ⟨_, rfl, ?_⟩)
  | (refine spl (fun h => ?_) (fun h => ?_)) | (refine splN (fun h => ?_) (fun h => ?_)) | (refine splT ?_) | (refine splF ?_) | (refine spl2 (fun h => ?_) (fun h => ?_))
  | (refine len_ok ?_) | fail)

local macro_rules | `(tactic| walk_at "len") => `(tactic| first
  | (rintro ⟨_, e, _⟩; rw [e]; rfl) | (rintro ⟨_, _, e, _⟩; rw [e]; rfl) | (rintro ⟨_, _, _, e, _⟩; rw [e]; rfl) | (rintro ⟨_, _, _, _, e, _⟩; rw [e]; rfl) | (rintro ⟨_, _, _, _, _, e, _⟩; rw [e]; rfl) | (rintro ⟨_, _, _, _, _, _, e, _⟩; rw [e]; rfl))
/-! ### specs -/
abbrev Bq (q : Rat) : Prop := Sz 3000 3000 q
abbrev Be (q : Rat) : Prop := Sz 500 500 q
theorem Be.q {q : Rat} (h : Be q) : Bq q := h.mono (by decide) (by decide)
def F_worth (K : PySem.W.Frag) : FS := fun ss Φ _ => ∃ t b : Int, ss = [vS (.int t), vS (.int b)] ∧ b.natAbs < 2 ^ 8000 ∧ Φ (ratS K (Rat.divInt t b))
def F2 (K : PySem.W.Frag) (f : Rat → Rat → Rat) : FS := fun ss Φ _ => ∃ p q : Rat, ss = [ratS K p, ratS K q] ∧ Bq p ∧ Bq q ∧ Φ (ratS K (f p q))
def F_less (K : PySem.W.Frag) : FS := fun ss Φ _ => ∃ p q : Rat, ss = [ratS K p, ratS K q] ∧ Bq p ∧ Bq q ∧ Φ (vS (.bl (decide (p < q))))
def F_floor (K : PySem.W.Frag) : FS := fun ss Φ _ => ∃ p : Rat, ss = [ratS K p] ∧ Bq p ∧ Φ (vS (.int p.floor))
def mn (p q : Rat) : Rat := if q < p then q else p
def mx (p q : Rat) : Rat := if p < q then q else p
theorem mn_le_mx (p q : Rat) : mn p q ≤ mx p q := by
  unfold mn mx
  split <;> split <;> grind
/-- the text of a worth -/
def wt (q : Rat) : Str := if q.den = 1 then Str.ofString (toString q.num) else Str.ofString (toString q.num) ++ "/" ++ Str.ofString (toString (q.den : Int))
theorem den_ne (q : Rat) : (q.den : Int) ≠ 0 := by have := q.den_nz; omega
theorem den_pos (q : Rat) : (0 : Int) < (q.den : Int) := by have := q.den_nz; omega
theorem cmul {p q : Rat} (hp : Bq p) (hq : Bq q) : CMulW p.num (q.den : Int) := wide_mul hp.1 (by rw [Int.natAbs_natCast]; exact hq.2) (by decide) (by decide) (by decide)
theorem cmulD {p q : Rat} (hp : Bq p) (hq : Bq q) : CMulW (p.den : Int) (q.den : Int) := wide_mul (by rw [Int.natAbs_natCast]; exact hp.2) (by rw [Int.natAbs_natCast]; exact hq.2) (by decide) (by decide) (by decide)
theorem cmulN {p q : Rat} (hp : Bq p) (hq : Bq q) : CMulW p.num q.num := wide_mul hp.1 hq.1 (by decide) (by decide) (by decide)
theorem cmulX {p q : Rat} (hp : Bq p) (hq : Bq q) : CMulW (p.den : Int) q.num := wide_mul (by rw [Int.natAbs_natCast]; exact hp.2) hq.1 (by decide) (by decide) (by decide)
theorem dd {p q : Rat} (hp : Bq p) (hq : Bq q) : ((p.den : Int) * q.den).natAbs < 2 ^ 8000 := sz_den hp hq (by decide)
theorem dx {p q : Rat} (hp : Bq p) (hq : Bq q) : ((p.den : Int) * q.num).natAbs < 2 ^ 8000 := by
  rw [Int.natAbs_mul, Int.natAbs_natCast]
  exact le_max_pow (mul_lt hp.2 hq.1) (by decide)
theorem cdiv {t b : Int} (hb : b.natAbs < 2 ^ 8000) (h0 : b ≠ 0) : CDivNW t (-((Nat.gcd t.natAbs b.natAbs : Nat) : Int)) := by
  have h1 := gcd_pos (t := t) h0
  have h2 := gcd_le (t := t) h0
  rw [gcd_int]
  exact CDivNW.of (by omega) (b := 8000) (by omega) (by decide) (by decide)
theorem cdivP {t b : Int} (hb : b.natAbs < 2 ^ 8000) (h0 : b ≠ 0) : CDivNW t ((Nat.gcd t.natAbs b.natAbs : Nat) : Int) := by
  have h1 := gcd_pos (t := t) h0
  have h2 := gcd_le (t := t) h0
  rw [gcd_int]
  exact CDivNW.of (by omega) (b := 8000) (by omega) (by decide) (by decide)
theorem cdiv' {t b : Int} (hb : b.natAbs < 2 ^ 8000) (h0 : b ≠ 0) : CDivNW b (-((Nat.gcd t.natAbs b.natAbs : Nat) : Int)) := ⟨(cdiv (t := t) hb h0).1, (cdiv (t := t) hb h0).2⟩
theorem cdivP' {t b : Int} (hb : b.natAbs < 2 ^ 8000) (h0 : b ≠ 0) : CDivNW b ((Nat.gcd t.natAbs b.natAbs : Nat) : Int) := ⟨(cdivP (t := t) hb h0).1, (cdivP (t := t) hb h0).2⟩
theorem floor_fdiv (p : Rat) : p.num.fdiv p.den = p.floor := by rw [Rat.floor_def, Int.fdiv_eq_ediv_of_nonneg _ (Int.le_of_lt (den_pos p))]
theorem cfl {p : Rat} (hp : Bq p) : CDivNW p.num (p.den : Int) := CDivNW.of (den_ne p) (b := 3000) (by rw [Int.natAbs_natCast]; exact hp.2) (by decide) (by decide)
local macro_rules | `(tactic| walk_at "side") => `(tactic| first
  | assumption | exact cmul (by assumption) (by assumption) | exact cmulD (by assumption) (by assumption) | exact cmulN (by assumption) (by assumption) | exact cmulX (by assumption) (by assumption))
section
variable {P : Program} {w : World} {K : PySem.W.Frag} {mg : Str → Option Value} {base : Heap}
theorem ok_worth (T : Tx K mg) : FnOk P w K mg base CX0 1 T.fWorth T.fdWorth p_worth (spOf (F_worth K)) := by
  obtain ⟨dvs, F⟩ := T.FWorth
  refine FunD.ok0 F sc_worth (by intro ss Φ Ψ h; revert h; walk_at "len") (fun cdv Ar outer s H Er hr => ⟨_, (pss_cons (ps_if (pt_cmpR op_eq (pv 1) pe_int (nomark _))
  (pss_one (ps_ret (pe_tup (pa_cons pe_int (pa_cons pe_int pa_nil)))))
  pss_nil)
  (pss_cons (ps_set (i := 2) sc_worth.nd rfl (by first | exact Or.inl rfl | exact Or.inr rfl) (pe_callBfun cr_gcd (by rfl) T.gcd (pa_cons (pv 0) (pa_cons (pv 1) pa_nil))))
  (pss_cons (ps_if (pt_cmpR op_lt (pv 1) pe_int (nomark _))
  (pss_one (ps_set (i := 2) sc_worth.nd rfl (by first | exact Or.inl rfl | exact Or.inr rfl) (pe_un un_neg (pv 2))))
  pss_nil)
  (pss_one (ps_ret (pe_tup (pa_cons (pe_op op_fdivNW (pv 0) (pv 2)) (pa_cons (pe_op op_fdivNW (pv 1) (pv 2)) pa_nil)))))))), fun ss Φ Ψ h => ?_⟩)
  obtain ⟨t, b, rfl, hb, k⟩ := h
  repeat' walk_at "ab"
  · rename_i h0
    subst h0
    rw [Rat.divInt_zero] at k
    exact k
  · exact cdiv hb (by assumption)
  · exact cdiv' hb (by assumption)
  · rename_i h0 h1
    show Φ (tupS K _)
    rw [gcd_int, num_neg h1, RatM.den_neg h1]
    exact k
  · exact cdivP hb (by assumption)
  · exact cdivP' hb (by assumption)
  · rename_i h0 h1
    show Φ (tupS K _)
    rw [gcd_int, num_pos (by omega), RatM.den_pos (by omega)]
    exact k
theorem ok_plus (T : Tx K mg) : FnOk P w K mg base CX0 2 T.plus.f T.plus.fd p_plus (spOf (F2 K (· + ·))) := by
  refine ok0 T.plus.F sc_plus (by intro ss Φ Ψ h; revert h; walk_at "len") (fun cdv Ar outer s H Er hr => ⟨_, (pss_one (ps_ret (pe_call (ok_worth T) (hr.mono (by decide)) rfl T.gWorth T.kWorth T.bWorth .nil pass0 (pa_cons (pe_op op_add (pe_op op_mulW (pe_ix ix_tup (pv 0) pe_int (fun _ _ => rfl)) (pe_ix ix_tup (pv 1) pe_int (fun _ _ => rfl))) (pe_op op_mulW (pe_ix ix_tup (pv 1) pe_int (fun _ _ => rfl)) (pe_ix ix_tup (pv 0) pe_int (fun _ _ => rfl)))) (pa_cons (pe_op op_mulW (pe_ix ix_tup (pv 0) pe_int (fun _ _ => rfl)) (pe_ix ix_tup (pv 1) pe_int (fun _ _ => rfl))) pa_nil))))), fun ss Φ Ψ h => ?_⟩)
  obtain ⟨p, q, rfl, hp, hq, k⟩ := h
  repeat' walk_at "ab"
  · exact cmul hp hq
  · exact cmul hq hp
  · exact cmulD hp hq
  · refine ⟨_, _, rfl, dd hp hq, ?_⟩
    rw [add_eq]
    exact k
theorem ok_minus (T : Tx K mg) : FnOk P w K mg base CX0 2 T.minus.f T.minus.fd p_minus (spOf (F2 K (· - ·))) := by
  refine ok0 T.minus.F sc_minus (by intro ss Φ Ψ h; revert h; walk_at "len") (fun cdv Ar outer s H Er hr => ⟨_, (pss_one (ps_ret (pe_call (ok_worth T) (hr.mono (by decide)) rfl T.gWorth T.kWorth T.bWorth .nil pass0 (pa_cons (pe_op op_sub (pe_op op_mulW (pe_ix ix_tup (pv 0) pe_int (fun _ _ => rfl)) (pe_ix ix_tup (pv 1) pe_int (fun _ _ => rfl))) (pe_op op_mulW (pe_ix ix_tup (pv 1) pe_int (fun _ _ => rfl)) (pe_ix ix_tup (pv 0) pe_int (fun _ _ => rfl)))) (pa_cons (pe_op op_mulW (pe_ix ix_tup (pv 0) pe_int (fun _ _ => rfl)) (pe_ix ix_tup (pv 1) pe_int (fun _ _ => rfl))) pa_nil))))), fun ss Φ Ψ h => ?_⟩)
  obtain ⟨p, q, rfl, hp, hq, k⟩ := h
  repeat' walk_at "ab"
  · exact cmul hp hq
  · exact cmul hq hp
  · exact cmulD hp hq
  · refine ⟨_, _, rfl, dd hp hq, ?_⟩
    rw [sub_eq]
    exact k
theorem ok_product (T : Tx K mg) : FnOk P w K mg base CX0 2 T.product.f T.product.fd p_product (spOf (F2 K (· * ·))) := by
  refine ok0 T.product.F sc_product (by intro ss Φ Ψ h; revert h; walk_at "len") (fun cdv Ar outer s H Er hr => ⟨_, (pss_one (ps_ret (pe_call (ok_worth T) (hr.mono (by decide)) rfl T.gWorth T.kWorth T.bWorth .nil pass0 (pa_cons (pe_op op_mulW (pe_ix ix_tup (pv 0) pe_int (fun _ _ => rfl)) (pe_ix ix_tup (pv 1) pe_int (fun _ _ => rfl))) (pa_cons (pe_op op_mulW (pe_ix ix_tup (pv 0) pe_int (fun _ _ => rfl)) (pe_ix ix_tup (pv 1) pe_int (fun _ _ => rfl))) pa_nil))))), fun ss Φ Ψ h => ?_⟩)
  obtain ⟨p, q, rfl, hp, hq, k⟩ := h
  repeat' walk_at "ab"
  · exact cmulN hp hq
  · exact cmulD hp hq
  · refine ⟨_, _, rfl, dd hp hq, ?_⟩
    rw [mul_eq]
    exact k
theorem ok_quotient (T : Tx K mg) : FnOk P w K mg base CX0 2 T.quotient.f T.quotient.fd p_quotient (spOf (F2 K (· / ·))) := by
  refine ok0 T.quotient.F sc_quotient (by intro ss Φ Ψ h; revert h; walk_at "len") (fun cdv Ar outer s H Er hr => ⟨_, (pss_one (ps_ret (pe_call (ok_worth T) (hr.mono (by decide)) rfl T.gWorth T.kWorth T.bWorth .nil pass0 (pa_cons (pe_op op_mulW (pe_ix ix_tup (pv 0) pe_int (fun _ _ => rfl)) (pe_ix ix_tup (pv 1) pe_int (fun _ _ => rfl))) (pa_cons (pe_op op_mulW (pe_ix ix_tup (pv 0) pe_int (fun _ _ => rfl)) (pe_ix ix_tup (pv 1) pe_int (fun _ _ => rfl))) pa_nil))))), fun ss Φ Ψ h => ?_⟩)
  obtain ⟨p, q, rfl, hp, hq, k⟩ := h
  repeat' walk_at "ab"
  · exact cmul hp hq
  · exact cmulX hp hq
  · refine ⟨_, _, rfl, dx hp hq, ?_⟩
    rw [div_eq]
    exact k
theorem ok_is_less (T : Tx K mg) : FnOk P w K mg base CX0 1 T.is_less.f T.is_less.fd p_is_less (spOf (F_less K)) := by
  refine ok0 T.is_less.F sc_is_less (by intro ss Φ Ψ h; revert h; walk_at "len") (fun cdv Ar outer s H Er hr => ⟨_, (pss_one (ps_ret (pe_cmpR op_lt (pe_op op_mulW (pe_ix ix_tup (pv 0) pe_int (fun _ _ => rfl)) (pe_ix ix_tup (pv 1) pe_int (fun _ _ => rfl))) (pe_op op_mulW (pe_ix ix_tup (pv 1) pe_int (fun _ _ => rfl)) (pe_ix ix_tup (pv 0) pe_int (fun _ _ => rfl))) (nomark _)))), fun ss Φ Ψ h => ?_⟩)
  obtain ⟨p, q, rfl, hp, hq, k⟩ := h
  repeat' walk_at "ab"
  · exact cmul hp hq
  · exact cmul hq hp
  · have e : decide (p.num * (q.den : Int) < q.num * (p.den : Int)) = decide (p < q) := by simp only [lt_eq]
    show Φ (vS (V.bl (decide (p.num * (q.den : Int) < q.num * (p.den : Int)))))
    rw [e]
    exact k
theorem ok_floor_of (T : Tx K mg) : FnOk P w K mg base CX0 1 T.floor_of.f T.floor_of.fd p_floor_of (spOf (F_floor K)) := by
  refine ok0 T.floor_of.F sc_floor_of (by intro ss Φ Ψ h; revert h; walk_at "len") (fun cdv Ar outer s H Er hr => ⟨_, (pss_one (ps_ret (pe_op op_fdivNW (pe_ix ix_tup (pv 0) pe_int (fun _ _ => rfl)) (pe_ix ix_tup (pv 0) pe_int (fun _ _ => rfl))))), fun ss Φ Ψ h => ?_⟩)
  obtain ⟨p, rfl, hp, k⟩ := h
  repeat' walk_at "ab"
  · exact cfl hp
  · show Φ (vS (V.int _))
    rw [floor_fdiv]
    exact k
theorem ok_xless_one (T : Tx K mg) : FnOk P w K mg base CX0 2 T.xless_one.f T.xless_one.fd p_xless_one (spOf (F2 K mn)) := by
  refine ok0 T.xless_one.F sc_xless_one (by intro ss Φ Ψ h; revert h; walk_at "len") (fun cdv Ar outer s H Er hr => ⟨_, (pss_one (ps_ret (pe_ifExp (pt_val (pe_call (ok_is_less T) (hr.mono (by decide)) rfl T.is_less.g T.is_less.F.kp T.is_less.b .nil pass0 (pa_cons (pv 1) (pa_cons (pv 0) pa_nil)))) (pv 1) (pv 0)))), fun ss Φ Ψ h => ?_⟩)
  obtain ⟨p, q, rfl, hp, hq, k⟩ := h
  repeat' walk_at "ab"
  refine ⟨_, _, rfl, hq, hp, ?_⟩
  repeat' walk_at "ab"
  · rename_i h; rw [show mn p q = q from if_pos h] at k; exact k
  · rename_i h; rw [show mn p q = p from if_neg h] at k; exact k
theorem ok_xgreater_one (T : Tx K mg) : FnOk P w K mg base CX0 2 T.xgreater_one.f T.xgreater_one.fd p_xgreater_one (spOf (F2 K mx)) := by
  refine ok0 T.xgreater_one.F sc_xgreater_one (by intro ss Φ Ψ h; revert h; walk_at "len") (fun cdv Ar outer s H Er hr => ⟨_, (pss_one (ps_ret (pe_ifExp (pt_val (pe_call (ok_is_less T) (hr.mono (by decide)) rfl T.is_less.g T.is_less.F.kp T.is_less.b .nil pass0 (pa_cons (pv 0) (pa_cons (pv 1) pa_nil)))) (pv 1) (pv 0)))), fun ss Φ Ψ h => ?_⟩)
  obtain ⟨p, q, rfl, hp, hq, k⟩ := h
  repeat' walk_at "ab"
  refine ⟨_, _, rfl, hp, hq, ?_⟩
  repeat' walk_at "ab"
  · rename_i h; rw [show mx p q = q from if_pos h] at k; exact k
  · rename_i h; rw [show mx p q = p from if_neg h] at k; exact k
end
end K78

/-! K78B -/
namespace K78
open PySem PySem.Spec PyProof.Rows L2 Ab RatM

local macro_rules | `(tactic| walk_at "ab") => `(tactic| first
  | (with_reducible refine S_seq ?_) | (with_reducible refine S_ret ?_) | (with_reducible refine S_asg ?_) | (with_reducible refine S_if ?_) | (with_reducible refine S_next ?_) | (with_reducible refine S_par ?_) | (with_reducible refine S_drop ?_) | (with_reducible refine S_retN ?_)
  | (with_reducible refine E_c ?_) | (with_reducible refine E_op ?_) | (with_reducible refine E_un ?_) | (with_reducible refine E_tup (K := ‹PySem.W.Frag›) ?_) | (with_reducible refine E_lst ?_) | (with_reducible refine E_cb ?_) | (with_reducible refine E_if ?_)
  | (with_reducible refine E_fld ?_) | (with_reducible refine E_not ?_) | (with_reducible refine E_and ?_) | (with_reducible refine E_or ?_) | (with_reducible refine E_meth ?_) | (with_reducible refine E_make ?_)
  | (with_reducible refine A_cons ?_) | (with_reducible refine A_nil ?_) | (with_reducible refine E_call (dss := []) (fun _ => .nil) ?_)
  | (with_reducible refine T_test ?_) | (with_reducible refine T_B ?_) | (with_reducible refine T_not ?_) | (with_reducible refine T_and ?_) | (with_reducible refine T_or ?_)
  | (refine E_var rfl ?_) | (refine R_I0 ?_) | (refine R_ixT rfl ?_) | (refine R_ixL rfl ?_) | (refine R_eqI ?_) | (refine R_eqS ?_) | (refine R_neS ?_) | (refine R_eq rfl ?_) | (refine R_ne rfl ?_) | (refine U_I ?_) | (refine R_I ?_ ?_)
  | (refine C_gcd ?_) | (refine C_abs ?_) | (refine C_int ?_) | (refine C_intB ?_)
  | ((with_reducible show ∃ (s s' : Slot), _ = [s, s'] ∧ _); refine ⟨_, _, rfl, ?_⟩)
  | (refine ⟨_, rfl, ?_⟩)
  | (refine spl (fun h => ?_) (fun h => ?_)) | (refine splN (fun h => ?_) (fun h => ?_)) | (refine splT ?_) | (refine splF ?_) | (refine spl2 (fun h => ?_) (fun h => ?_))
  | (refine len_ok ?_) | fail)

local macro_rules | `(tactic| walk_at "len") => `(tactic| first
  | (rintro ⟨_, e, _⟩; rw [e]; rfl) | (rintro ⟨_, _, e, _⟩; rw [e]; rfl) | (rintro ⟨_, _, _, e, _⟩; rw [e]; rfl) | (rintro ⟨_, _, _, _, e, _⟩; rw [e]; rfl) | (rintro ⟨_, _, _, _, _, e, _⟩; rw [e]; rfl) | (rintro ⟨_, _, _, _, _, _, e, _⟩; rw [e]; rfl))
local macro_rules | `(tactic| walk_at "side") => `(tactic| first
  | assumption | exact Be.q (by assumption) | exact cmul (by assumption) (by assumption) | exact cmulD (by assumption) (by assumption) | exact cmulN (by assumption) (by assumption) | exact cmulX (by assumption) (by assumption))
section
variable {P : Program} {w : World} {K : PySem.W.Frag} {mg : Str → Option Value} {base : Heap}
def invMk (vs : List V) : List (Str × V) := [("code", .str "InvalidNumber"), ("value", vs.getD 0 .non)]
def invS (ss : List Slot) : List (Str × Slot) := [("code", vS (.str "InvalidNumber")), ("value", ss.getD 0 (vS .non))]
def invN : List Str := ["value", "code"]
theorem inv_pfl (vs : List V) (ss : List Slot) (H : Hp) (p : PSl vs ss H) : PFl (invMk vs) (invS ss) H := by
  refine .cons ⟨rfl, rfl⟩ (.cons ⟨rfl, ?_⟩ .nil)
  cases p with
  | nil => rfl
  | cons h _ => exact h
theorem ok_InvI (T : Tx K mg) : FnOk P w K mg base CX0 1 T.InvalidNumber_Dinit.f T.InvalidNumber_Dinit.fd p_InvalidNumber_Dinit (spXI K invN 1 invMk) := by
  refine T.InvalidNumber_Dinit.F.ok sc_InvalidNumber_Dinit (fun vs H Q E h => ?_) (fun cdv A outer s H vs Q E hr h => ?_)
  · obtain ⟨a, C, args, rfl, hl, _⟩ := h
    rw [List.length_cons, hl]; rfl
  · obtain ⟨a, C, args, rfl, hl, O, hn, e, k⟩ := h
    obtain ⟨v, rfl⟩ : ∃ v, args = [v] := by
      match args, hl with
      | [v], _ => exact ⟨v, rfl⟩
    refine ⟨_, pss_cons (ps_ost (pv 0) (pv 1)) (pss_one (ps_ost (pv 0) pe_str)), ?_⟩
    refine ⟨_, rfl, _, rfl, a, C, rfl, O, hn _ (List.mem_cons_self ..), .inl ⟨e, fun dx hd ne => ?_⟩⟩
    refine ⟨_, rfl, a, C, rfl, O, hn _ (List.mem_cons_of_mem _ (List.mem_cons_self ..)), .inr ⟨dx, _, upd_same, (by rw [upd_ne ne]; exact upd_same), (by show 1 ≤ 900; decide), ?_⟩⟩
    refine k dx _ hd ne (by rw [upd_ne (fun z => ne z.symm)]; exact upd_same) upd_same fun b h1 h2 => ?_
    rw [upd_ne h2, upd_ne h1, upd_ne h2]
/-! ### Span -/
def spanS (K : PySem.W.Frag) (C : Addr) (p q : Rat) : Slot := insS C [("low", ratS K p), ("high", ratS K q)]
def F_init (K : PySem.W.Frag) (CI : Addr) : FI := fun ss Φ Ψ => ∃ lo hi : Rat, ss = [ratS K lo, ratS K hi] ∧ Bq lo ∧ Bq hi ∧ (¬ hi < lo → Φ [("low", ratS K lo), ("high", ratS K hi)]) ∧ (hi < lo → Ψ ⟨CI, invS [ratS K hi]⟩)
theorem lh : ¬ (("low" : Str) = "high") := by decide +kernel
theorem ok_Span_Dinit (T : Tx K mg) : FnOk P w K mg base (L2.CX P w) 3 T.Span_Dinit.f T.Span_Dinit.fd p_Span_Dinit (spInit T.C (F_init K T.CI)) := by
  refine T.Span_Dinit.F.okX sc_Span_Dinit (fun vs H Q E h => ?_) (fun cdv A outer s H vs Q Er hr h => ?_)
  · obtain ⟨B, x, dx, rest, ss, Φ, Ψ, rfl, _, _, _, p, ⟨lo, hi, rfl, _⟩, _⟩ := h
    rw [List.length_cons, p.length]; rfl
  · obtain ⟨B, x, dx, rest, ss, Φ, Ψ, rfl, hx, hB, b, p, ⟨lo, hi, rfl, hlo, hhi, k1, k2⟩, q1, q2⟩ := h
    cases p with
    | @cons vlo _ _ _ plo p => cases p with
      | @cons vhi _ _ _ phi p =>
        cases p
        refine ⟨_, pss_cons (ps_if (pt_val (pe_call (ok_is_less T) (hr.mono (by decide)) rfl T.is_less.g T.is_less.F.kp T.is_less.b .nil pass0 (pa_cons (pv 2) (pa_cons (pv 1) pa_nil))))
          (pss_one (ps_raise rfl (takes_of rfl rfl rfl rfl) (pmk_oex T.oex T.InvalidNumber_Dinit.s (beq_iff_eq.mp T.InvalidNumber_Dinit.i) (ok_InvI T) (hr.mono (by decide)) T.InvalidNumber_Dinit.b .nil pass0 rfl T.gInv (pa_cons (pv 2) pa_nil)))) pss_nil)
          (pss_cons (ps_fld (pv 0) (pv 1) rfl) (pss_one (ps_fld (pv 0) (pv 2) rfl))), ?_⟩
        have ent : At B H (L2.start n_Span_Dinit [.ref x, vlo, vhi]) B H [.pl (vS (.ref x)), .pl (ratS K lo), .pl (ratS K hi)] :=
          at_entry (N := n_Span_Dinit) (ss := [vS (.ref x), ratS K lo, ratS K hi]) b (.cons rfl (.cons plo (.cons phi .nil)))
        have key : S (tIfS (tB (tCall (spOf (F_less K)) [] E0 (tCons (tVar 2) (tCons (tVar 1) tNil)))) (fun _ σ H => tMkO T.CI (spXI K invN 1 invMk) [] (tCons (tVar 2) tNil) σ H fun cls d H' => Er cls d H') tNext) [.pl (vS (.ref x)), .pl (ratS K lo), .pl (ratS K hi)]
          { nx := fun Γ => Γ = [.pl (vS (.ref x)), .pl (ratS K lo), .pl (ratS K hi)] ∧ ¬ hi < lo, rt := fun _ _ => False, bk := fun _ => False, ct := fun _ => False, er := Er, ex := Ψ } := by
          repeat' walk_at "ab"
          refine ⟨_, _, rfl, hhi, hlo, ?_⟩
          repeat' walk_at "ab"
          · rename_i hc
            refine S_raise (mkS := invS) T.oex (fun f hf => ?_) inv_pfl ?_
            · rcases List.mem_cons.mp hf with rfl | hf
              · exact T.nVal
              · rcases List.mem_cons.mp hf with rfl | hf
                · exact T.nCode
                · cases hf
            · repeat' walk_at "ab"
              exact ⟨rfl, by decide, k2 hc⟩
          · rename_i hc
            exact ⟨rfl, hc⟩
        refine key B H _ _ B H ⟨?_, fun _ _ _ _ _ _ _ _ z => z.elim, fun _ _ _ _ _ z => z.elim, fun _ _ _ _ _ z => z.elim, fun e d Γ σ B' H' a xa k => q2 e d B' H' a.to xa k⟩ ent
        rintro Γ σ B' H' a ⟨rfl, hc⟩
        obtain ⟨v0, e0, p0⟩ := a.rel.pl 0 _ rfl
        obtain ⟨v1, e1, p1⟩ := a.rel.pl 1 _ rfl
        obtain ⟨v2, e2, p2⟩ := a.rel.pl 2 _ rfl
        obtain rfl : v0 = .ref x := p0
        obtain ⟨_, hx'⟩ := a.out x hB (by rw [hx]; simp)
        rw [hx] at hx'
        refine ⟨_, e1, _, e0, x, T.C, dx, [], rfl, hx', T.cl, T.nLow, by decide, _, e2, _, e0, x, T.C, dx, _, rfl, upd_same, T.cl, T.nHigh, by show 1 < 1000; decide, ?_⟩
        rw [upd_upd]
        have ef : putF "high" v2 (putF "low" v1 []) = ([("low", v1), ("high", v2)] : List (Str × V)) := by
          show (if ("low" : Str) = "high" then _ else (("low" : Str), v1) :: putF "high" v2 []) = _
          rw [if_neg lh]; rfl
        rw [ef]
        exact q1 [("low", ratS K lo), ("high", ratS K hi)] _ B' H' a.to (.cons ⟨rfl, p1⟩ (.cons ⟨rfl, p2⟩ .nil)) (k1 hc)
/-! ### the methods -/
theorem Tx.mkSpan (T : Tx K mg) : Mk K T.C T.Span_Dinit.f := ⟨T.makes, T.Span_Dinit.s, T.Span_Dinit.i, T.kC⟩
theorem mn_ind {p : Rat → Prop} {a b : Rat} (ha : p a) (hb : p b) : p (mn a b) := by
  unfold mn; split <;> assumption
theorem mx_ind {p : Rat → Prop} {a b : Rat} (ha : p a) (hb : p b) : p (mx a b) := by
  unfold mx; split <;> assumption
theorem sz_floor {q : Rat} (h : Be q) : Be ((q.floor : Int) : Rat) := by
  refine ⟨?_, ?_⟩
  · show (q.floor).natAbs < _
    rw [Rat.floor_def]
    exact Nat.lt_of_le_of_lt (Int.natAbs_ediv_le_natAbs _ _) h.1
  · show 1 < _
    exact Nat.one_lt_two_pow (by decide)
def optS (K : PySem.W.Frag) (C : Addr) : Option (Rat × Rat) → Slot
  | none => vS .non
  | some e => spanS K C e.1 e.2
def obS : Option Bool → Slot
  | none => vS .non
  | some b => vS (.bl b)
/-- two spans, then what is asked -/
def FS2 (K : PySem.W.Frag) (C : Addr) (G : Rat → Rat → Rat → Rat → (Slot → Prop) → Prop) : FS := fun ss Φ _ => ∃ a b c d : Rat, ss = [spanS K C a b, spanS K C c d] ∧ a ≤ b ∧ c ≤ d ∧ Be a ∧ Be b ∧ Be c ∧ Be d ∧ G a b c d Φ
def FS1 (K : PySem.W.Frag) (C : Addr) (G : Rat → Rat → (Slot → Prop) → Prop) : FS := fun ss Φ _ => ∃ a b : Rat, ss = [spanS K C a b] ∧ a ≤ b ∧ Be a ∧ Be b ∧ G a b Φ
theorem nlt {a b : Rat} (h : a ≤ b) : ¬ b < a := by grind
local macro_rules | `(tactic| walk_at "fld") => `(tactic| (refine ⟨_, _, _, rfl, Tx.cl ‹_›, ?_, rfl, ?_⟩; (first | exact Tx.nLow ‹_› | exact Tx.nHigh ‹_›)))
local macro_rules | `(tactic| walk_at "call2") => `(tactic| ((first | (with_reducible show F2 _ _ _ _ _) | (with_reducible show F_less _ _ _ _)); refine ⟨_, _, rfl, ?_, ?_, ?_⟩; (walk_at "side"); (walk_at "side")))
local macro_rules | `(tactic| walk_at "fl") => `(tactic| ((with_reducible show F_floor _ _ _ _); refine ⟨_, rfl, ?_, ?_⟩; (walk_at "side")))
theorem ok_xaround (T : Tx K mg) : FnOk P w K mg base CX0 5 T.xaround.f T.xaround.fd p_xaround (spOf ((fun ss Φ _ => ∃ a b c d : Rat, ss = [ratS K a, ratS K b, ratS K c, ratS K d] ∧ Bq a ∧ Bq b ∧ Bq c ∧ Bq d ∧ Φ (spanS K T.C (mn (mn a b) (mn c d)) (mx (mx a b) (mx c d)))))) := by
  refine ok0 T.xaround.F sc_xaround (by intro ss Φ Ψ h; revert h; walk_at "len") (fun cdv Ar outer s H Er hr => ⟨_, (pss_cons (ps_set (i := 4) sc_xaround.nd rfl (by first | exact Or.inl rfl | exact Or.inr rfl) (pe_call (ok_xless_one T) (hr.mono (by decide)) rfl T.xless_one.g T.xless_one.F.kp T.xless_one.b .nil pass0 (pa_cons (pe_call (ok_xless_one T) (hr.mono (by decide)) rfl T.xless_one.g T.xless_one.F.kp T.xless_one.b .nil pass0 (pa_cons (pv 0) (pa_cons (pv 1) pa_nil))) (pa_cons (pe_call (ok_xless_one T) (hr.mono (by decide)) rfl T.xless_one.g T.xless_one.F.kp T.xless_one.b .nil pass0 (pa_cons (pv 2) (pa_cons (pv 3) pa_nil))) pa_nil))))
  (pss_cons (ps_set (i := 5) sc_xaround.nd rfl (by first | exact Or.inl rfl | exact Or.inr rfl) (pe_call (ok_xgreater_one T) (hr.mono (by decide)) rfl T.xgreater_one.g T.xgreater_one.F.kp T.xgreater_one.b .nil pass0 (pa_cons (pe_call (ok_xgreater_one T) (hr.mono (by decide)) rfl T.xgreater_one.g T.xgreater_one.F.kp T.xgreater_one.b .nil pass0 (pa_cons (pv 0) (pa_cons (pv 1) pa_nil))) (pa_cons (pe_call (ok_xgreater_one T) (hr.mono (by decide)) rfl T.xgreater_one.g T.xgreater_one.F.kp T.xgreater_one.b .nil pass0 (pa_cons (pv 2) (pa_cons (pv 3) pa_nil))) pa_nil))))
  (pss_one (ps_ret (pe_make T.mkSpan (ok_Span_Dinit T) (hr.mono (by decide)) rfl T.gSpan T.Span_Dinit.b .nil passL (pa_cons (pv 4) (pa_cons (pv 5) pa_nil))))))), fun ss Φ Ψ h => ?_⟩)
  obtain ⟨a, b, c, d, rfl, ha, hb, hc, hd, k⟩ := h
  have s1 : Bq (mn a b) := mn_ind ha hb
  have s2 : Bq (mn c d) := mn_ind hc hd
  have s3 : Bq (mx a b) := mx_ind ha hb
  have s4 : Bq (mx c d) := mx_ind hc hd
  have s5 : Bq (mn (mn a b) (mn c d)) := mn_ind s1 s2
  have s6 : Bq (mx (mx a b) (mx c d)) := mx_ind s3 s4
  repeat' first | walk_at "ab" | walk_at "call2"
  refine ⟨_, _, rfl, ?_, ?_, fun _ => ?_, fun h => ?_⟩
  · exact s5
  · exact s6
  · exact k
  · exfalso
    revert h
    unfold mn mx
    grind
theorem ok_Span_Dadd (T : Tx K mg) : FnOk P w K mg base CX0 5 T.Span_Dadd.f T.Span_Dadd.fd p_Span_Dadd (spOf (FS2 K T.C fun a b c d Φ => Φ (spanS K T.C (a + c) (b + d)))) := by
  refine ok0 T.Span_Dadd.F sc_Span_Dadd (by intro ss Φ Ψ h; revert h; walk_at "len") (fun cdv Ar outer s H Er hr => ⟨_, (pss_one (ps_ret (pe_make T.mkSpan (ok_Span_Dinit T) (hr.mono (by decide)) rfl T.gSpan T.Span_Dinit.b .nil passL (pa_cons (pe_call (ok_plus T) (hr.mono (by decide)) rfl T.plus.g T.plus.F.kp T.plus.b .nil pass0 (pa_cons (pe_fld (pv 0) rfl) (pa_cons (pe_fld (pv 1) rfl) pa_nil))) (pa_cons (pe_call (ok_plus T) (hr.mono (by decide)) rfl T.plus.g T.plus.F.kp T.plus.b .nil pass0 (pa_cons (pe_fld (pv 0) rfl) (pa_cons (pe_fld (pv 1) rfl) pa_nil))) pa_nil))))), fun ss Φ Ψ h => ?_⟩)
  obtain ⟨a, b, c, d, rfl, hab, hcd, ha, hb, hc, hd, k⟩ := h
  repeat' first | walk_at "ab" | walk_at "fld" | walk_at "call2"
  refine ⟨_, _, rfl, ?_, ?_, fun _ => ?_, fun h => ?_⟩
  · exact sz_add ha hc (by decide) (by decide) (by decide) (by decide)
  · exact sz_add hb hd (by decide) (by decide) (by decide) (by decide)
  · exact k
  · exfalso; grind
theorem ok_Span_Dsub (T : Tx K mg) : FnOk P w K mg base CX0 5 T.Span_Dsub.f T.Span_Dsub.fd p_Span_Dsub (spOf (FS2 K T.C fun a b c d Φ => Φ (spanS K T.C (a - d) (b - c)))) := by
  refine ok0 T.Span_Dsub.F sc_Span_Dsub (by intro ss Φ Ψ h; revert h; walk_at "len") (fun cdv Ar outer s H Er hr => ⟨_, (pss_one (ps_ret (pe_make T.mkSpan (ok_Span_Dinit T) (hr.mono (by decide)) rfl T.gSpan T.Span_Dinit.b .nil passL (pa_cons (pe_call (ok_minus T) (hr.mono (by decide)) rfl T.minus.g T.minus.F.kp T.minus.b .nil pass0 (pa_cons (pe_fld (pv 0) rfl) (pa_cons (pe_fld (pv 1) rfl) pa_nil))) (pa_cons (pe_call (ok_minus T) (hr.mono (by decide)) rfl T.minus.g T.minus.F.kp T.minus.b .nil pass0 (pa_cons (pe_fld (pv 0) rfl) (pa_cons (pe_fld (pv 1) rfl) pa_nil))) pa_nil))))), fun ss Φ Ψ h => ?_⟩)
  obtain ⟨a, b, c, d, rfl, hab, hcd, ha, hb, hc, hd, k⟩ := h
  repeat' first | walk_at "ab" | walk_at "fld" | walk_at "call2"
  refine ⟨_, _, rfl, ?_, ?_, fun _ => ?_, fun h => ?_⟩
  · exact sz_sub ha hd (by decide) (by decide) (by decide) (by decide)
  · exact sz_sub hb hc (by decide) (by decide) (by decide) (by decide)
  · exact k
  · exfalso; grind
theorem ok_Span_Dmul (T : Tx K mg) : FnOk P w K mg base CX0 6 T.Span_Dmul.f T.Span_Dmul.fd p_Span_Dmul (spOf (FS2 K T.C fun a b c d Φ => Φ (spanS K T.C (mn (mn (a * c) (a * d)) (mn (b * c) (b * d))) (mx (mx (a * c) (a * d)) (mx (b * c) (b * d)))))) := by
  refine ok0 T.Span_Dmul.F sc_Span_Dmul (by intro ss Φ Ψ h; revert h; walk_at "len") (fun cdv Ar outer s H Er hr => ⟨_, (pss_one (ps_ret (pe_call (ok_xaround T) (hr.mono (by decide)) rfl T.xaround.g T.xaround.F.kp T.xaround.b .nil pass0 (pa_cons (pe_call (ok_product T) (hr.mono (by decide)) rfl T.product.g T.product.F.kp T.product.b .nil pass0 (pa_cons (pe_fld (pv 0) rfl) (pa_cons (pe_fld (pv 1) rfl) pa_nil))) (pa_cons (pe_call (ok_product T) (hr.mono (by decide)) rfl T.product.g T.product.F.kp T.product.b .nil pass0 (pa_cons (pe_fld (pv 0) rfl) (pa_cons (pe_fld (pv 1) rfl) pa_nil))) (pa_cons (pe_call (ok_product T) (hr.mono (by decide)) rfl T.product.g T.product.F.kp T.product.b .nil pass0 (pa_cons (pe_fld (pv 0) rfl) (pa_cons (pe_fld (pv 1) rfl) pa_nil))) (pa_cons (pe_call (ok_product T) (hr.mono (by decide)) rfl T.product.g T.product.F.kp T.product.b .nil pass0 (pa_cons (pe_fld (pv 0) rfl) (pa_cons (pe_fld (pv 1) rfl) pa_nil))) pa_nil))))))), fun ss Φ Ψ h => ?_⟩)
  obtain ⟨a, b, c, d, rfl, hab, hcd, ha, hb, hc, hd, k⟩ := h
  repeat' first | walk_at "ab" | walk_at "fld" | walk_at "call2"
  refine ⟨_, _, _, _, rfl, ?_, ?_, ?_, ?_, k⟩
  all_goals exact sz_mul (by assumption) (by assumption) (by decide) (by decide) (by decide)
theorem ok_Span_floor (T : Tx K mg) : FnOk P w K mg base CX0 5 T.Span_floor.f T.Span_floor.fd p_Span_floor (spOf (FS1 K T.C fun a b Φ => Φ (spanS K T.C (a.floor : Int) (b.floor : Int)))) := by
  refine ok0 T.Span_floor.F sc_Span_floor (by intro ss Φ Ψ h; revert h; walk_at "len") (fun cdv Ar outer s H Er hr => ⟨_, (pss_one (ps_ret (pe_make T.mkSpan (ok_Span_Dinit T) (hr.mono (by decide)) rfl T.gSpan T.Span_Dinit.b .nil passL (pa_cons (pe_tup (pa_cons (pe_call (ok_floor_of T) (hr.mono (by decide)) rfl T.floor_of.g T.floor_of.F.kp T.floor_of.b .nil pass0 (pa_cons (pe_fld (pv 0) rfl) pa_nil)) (pa_cons pe_int pa_nil))) (pa_cons (pe_tup (pa_cons (pe_call (ok_floor_of T) (hr.mono (by decide)) rfl T.floor_of.g T.floor_of.F.kp T.floor_of.b .nil pass0 (pa_cons (pe_fld (pv 0) rfl) pa_nil)) (pa_cons pe_int pa_nil))) pa_nil))))), fun ss Φ Ψ h => ?_⟩)
  obtain ⟨a, b, rfl, hab, ha, hb, k⟩ := h
  repeat' first | walk_at "fl" | walk_at "ab" | walk_at "fld"
  refine ⟨(a.floor : Int), (b.floor : Int), rfl, (sz_floor ha).q, (sz_floor hb).q, fun _ => k, fun h => ?_⟩
  exfalso
  have h1 := Rat.floor_monotone hab
  have h2 := Rat.intCast_lt_intCast.mp h
  omega
theorem ok_Span_least (T : Tx K mg) : FnOk P w K mg base CX0 5 T.Span_least.f T.Span_least.fd p_Span_least (spOf (FS2 K T.C fun a b c d Φ => Φ (spanS K T.C (mn a c) (mn b d)))) := by
  refine ok0 T.Span_least.F sc_Span_least (by intro ss Φ Ψ h; revert h; walk_at "len") (fun cdv Ar outer s H Er hr => ⟨_, (pss_one (ps_ret (pe_make T.mkSpan (ok_Span_Dinit T) (hr.mono (by decide)) rfl T.gSpan T.Span_Dinit.b .nil passL (pa_cons (pe_call (ok_xless_one T) (hr.mono (by decide)) rfl T.xless_one.g T.xless_one.F.kp T.xless_one.b .nil pass0 (pa_cons (pe_fld (pv 0) rfl) (pa_cons (pe_fld (pv 1) rfl) pa_nil))) (pa_cons (pe_call (ok_xless_one T) (hr.mono (by decide)) rfl T.xless_one.g T.xless_one.F.kp T.xless_one.b .nil pass0 (pa_cons (pe_fld (pv 0) rfl) (pa_cons (pe_fld (pv 1) rfl) pa_nil))) pa_nil))))), fun ss Φ Ψ h => ?_⟩)
  obtain ⟨a, b, c, d, rfl, hab, hcd, ha, hb, hc, hd, k⟩ := h
  repeat' first | walk_at "ab" | walk_at "fld" | walk_at "call2"
  refine ⟨_, _, rfl, ?_, ?_, fun _ => ?_, fun h => ?_⟩
  · exact mn_ind ha.q hc.q
  · exact mn_ind hb.q hd.q
  · exact k
  · exfalso; revert h; unfold mn; grind
theorem ok_Span_greatest (T : Tx K mg) : FnOk P w K mg base CX0 5 T.Span_greatest.f T.Span_greatest.fd p_Span_greatest (spOf (FS2 K T.C fun a b c d Φ => Φ (spanS K T.C (mx a c) (mx b d)))) := by
  refine ok0 T.Span_greatest.F sc_Span_greatest (by intro ss Φ Ψ h; revert h; walk_at "len") (fun cdv Ar outer s H Er hr => ⟨_, (pss_one (ps_ret (pe_make T.mkSpan (ok_Span_Dinit T) (hr.mono (by decide)) rfl T.gSpan T.Span_Dinit.b .nil passL (pa_cons (pe_call (ok_xgreater_one T) (hr.mono (by decide)) rfl T.xgreater_one.g T.xgreater_one.F.kp T.xgreater_one.b .nil pass0 (pa_cons (pe_fld (pv 0) rfl) (pa_cons (pe_fld (pv 1) rfl) pa_nil))) (pa_cons (pe_call (ok_xgreater_one T) (hr.mono (by decide)) rfl T.xgreater_one.g T.xgreater_one.F.kp T.xgreater_one.b .nil pass0 (pa_cons (pe_fld (pv 0) rfl) (pa_cons (pe_fld (pv 1) rfl) pa_nil))) pa_nil))))), fun ss Φ Ψ h => ?_⟩)
  obtain ⟨a, b, c, d, rfl, hab, hcd, ha, hb, hc, hd, k⟩ := h
  repeat' first | walk_at "ab" | walk_at "fld" | walk_at "call2"
  refine ⟨_, _, rfl, ?_, ?_, fun _ => ?_, fun h => ?_⟩
  · exact mx_ind ha.q hc.q
  · exact mx_ind hb.q hd.q
  · exact k
  · exfalso; revert h; unfold mx; grind
def belowB (a b c d : Rat) : Option Bool := if b < c then some true else if ¬ a < d then some false else none
theorem ok_Span_below (T : Tx K mg) : FnOk P w K mg base CX0 2 T.Span_below.f T.Span_below.fd p_Span_below (spOf (FS2 K T.C fun a b c d Φ => Φ (obS (belowB a b c d)))) := by
  refine ok0 T.Span_below.F sc_Span_below (by intro ss Φ Ψ h; revert h; walk_at "len") (fun cdv Ar outer s H Er hr => ⟨_, (pss_cons (ps_if (pt_val (pe_call (ok_is_less T) (hr.mono (by decide)) rfl T.is_less.g T.is_less.F.kp T.is_less.b .nil pass0 (pa_cons (pe_fld (pv 0) rfl) (pa_cons (pe_fld (pv 1) rfl) pa_nil))))
  (pss_one (ps_ret pe_bl))
  pss_nil)
  (pss_cons (ps_if (pt_not (pt_val (pe_call (ok_is_less T) (hr.mono (by decide)) rfl T.is_less.g T.is_less.F.kp T.is_less.b .nil pass0 (pa_cons (pe_fld (pv 0) rfl) (pa_cons (pe_fld (pv 1) rfl) pa_nil)))))
  (pss_one (ps_ret pe_bl))
  pss_nil)
  (pss_one (ps_ret pe_non)))), fun ss Φ Ψ h => ?_⟩)
  obtain ⟨a, b, c, d, rfl, hab, hcd, ha, hb, hc, hd, k⟩ := h
  unfold belowB at k
  repeat' first | walk_at "ab" | walk_at "fld" | walk_at "call2"
  all_goals simp_all [obS]
def atMostB (a b c d : Rat) : Option Bool := if ¬ c < b then some true else if d < a then some false else none
theorem ok_Span_at_most (T : Tx K mg) : FnOk P w K mg base CX0 2 T.Span_at_most.f T.Span_at_most.fd p_Span_at_most (spOf (FS2 K T.C fun a b c d Φ => Φ (obS (atMostB a b c d)))) := by
  refine ok0 T.Span_at_most.F sc_Span_at_most (by intro ss Φ Ψ h; revert h; walk_at "len") (fun cdv Ar outer s H Er hr => ⟨_, (pss_cons (ps_if (pt_not (pt_val (pe_call (ok_is_less T) (hr.mono (by decide)) rfl T.is_less.g T.is_less.F.kp T.is_less.b .nil pass0 (pa_cons (pe_fld (pv 1) rfl) (pa_cons (pe_fld (pv 0) rfl) pa_nil)))))
  (pss_one (ps_ret pe_bl))
  pss_nil)
  (pss_cons (ps_if (pt_val (pe_call (ok_is_less T) (hr.mono (by decide)) rfl T.is_less.g T.is_less.F.kp T.is_less.b .nil pass0 (pa_cons (pe_fld (pv 1) rfl) (pa_cons (pe_fld (pv 0) rfl) pa_nil))))
  (pss_one (ps_ret pe_bl))
  pss_nil)
  (pss_one (ps_ret pe_non)))), fun ss Φ Ψ h => ?_⟩)
  obtain ⟨a, b, c, d, rfl, hab, hcd, ha, hb, hc, hd, k⟩ := h
  unfold atMostB at k
  repeat' first | walk_at "ab" | walk_at "fld" | walk_at "call2"
  all_goals simp_all [obS]
def sameB (a b c d : Rat) : Option Bool := if b < c ∨ d < a then some false else if a = b ∧ c = d then some true else none
theorem rat_eq {p q : Rat} : (p.num = q.num ∧ (p.den : Int) = q.den) ↔ p = q := ⟨fun ⟨h1, h2⟩ => Rat.ext h1 (by omega), fun h => by subst h; exact ⟨rfl, rfl⟩⟩
theorem eqvR (p q : Rat) : PyData.eqv (.tuple [.int p.num, .int p.den]) (.tuple [.int q.num, .int q.den]) = decide (p = q) := by
  have e : PyData.eqv (.tuple [.int p.num, .int p.den]) (.tuple [.int q.num, .int q.den]) = ((p.num == q.num) && ((p.den : Int) == q.den)) := by
    simp [PyData.eqv, PyData.eqvAll]
  rw [e]
  by_cases h : p = q
  · subst h; simp
  · rw [decide_eq_false h]
    apply Bool.eq_false_iff.mpr
    intro z
    simp only [Bool.and_eq_true, beq_iff_eq] at z
    exact h (rat_eq.mp z)
theorem dpR (q : Rat) : DpS K (ratS K q) (.tuple [.int q.num, .int q.den]) := dp_tup (.cons (dp_int _) (.cons (dp_int _) .nil))
theorem R_eqR {p q : Rat} {Φ : Slot → Prop} (k : Φ (vS (.bl (decide (p = q))))) : R (rEqD K) (ratS K p) (ratS K q) Φ := R_eqD (dpR p) (dpR q) (by rfl) (by rfl) (by rw [eqvR]; exact k)
theorem ok_Span_single (T : Tx K mg) : FnOk P w K mg base CX0 2 T.Span_single.f T.Span_single.fd p_Span_single (spOf (FS1 K T.C fun a b Φ => Φ (vS (.bl (decide (a = b)))))) := by
  refine ok0 T.Span_single.F sc_Span_single (by intro ss Φ Ψ h; revert h; walk_at "len") (fun cdv Ar outer s H Er hr => ⟨_, (pss_one (ps_ret (pe_cmpR (op_eqD hr.units) (pe_fld (pv 0) rfl) (pe_fld (pv 0) rfl) (nomark _)))), fun ss Φ Ψ h => ?_⟩)
  obtain ⟨a, b, rfl, hab, ha, hb, k⟩ := h
  repeat' first | walk_at "ab" | walk_at "fld" | (refine R_eqR ?_)
  exact k
end
end K78

/-! K78C -/
namespace K78
open PySem PySem.Spec PyProof.Rows L2 Ab RatM

local macro_rules | `(tactic| walk_at "ab") => `(tactic| first
  | (with_reducible refine S_seq ?_) | (with_reducible refine S_ret ?_) | (with_reducible refine S_asg ?_) | (with_reducible refine S_if ?_) | (with_reducible refine S_next ?_) | (with_reducible refine S_par ?_) | (with_reducible refine S_drop ?_) | (with_reducible refine S_retN ?_)
  | (with_reducible refine E_c ?_) | (with_reducible refine E_op ?_) | (with_reducible refine E_un ?_) | (with_reducible refine E_tup (K := ‹PySem.W.Frag›) ?_) | (with_reducible refine E_lst ?_) | (with_reducible refine E_cb ?_) | (with_reducible refine E_if ?_)
  | (with_reducible refine E_fld ?_) | (with_reducible refine E_not ?_) | (with_reducible refine E_and ?_) | (with_reducible refine E_or ?_) | (with_reducible refine E_meth ?_) | (with_reducible refine E_make ?_)
  | (with_reducible refine A_cons ?_) | (with_reducible refine A_nil ?_) | (with_reducible refine E_call (dss := []) (fun _ => .nil) ?_)
  | (with_reducible refine T_test ?_) | (with_reducible refine T_B ?_) | (with_reducible refine T_not ?_) | (with_reducible refine T_and ?_) | (with_reducible refine T_or ?_)
  | (refine E_var rfl ?_) | (refine R_I0 ?_) | (refine R_ixT rfl ?_) | (refine R_ixL rfl ?_) | (refine R_eqI ?_) | (refine R_eqS ?_) | (refine R_neS ?_) | (refine R_eq rfl ?_) | (refine R_ne rfl ?_) | (refine U_I ?_) | (refine R_I ?_ ?_)
  | (refine C_gcd ?_) | (refine C_abs ?_) | (refine C_int ?_) | (refine C_intB ?_)
  | ((with_reducible show ∃ (s s' : Slot), _ = [s, s'] ∧ _); refine ⟨_, _, rfl, ?_⟩)
  | (refine ⟨_, rfl, ?_⟩)
  | (refine spl (fun h => ?_) (fun h => ?_)) | (refine splN (fun h => ?_) (fun h => ?_)) | (refine splT ?_) | (refine splF ?_) | (refine spl2 (fun h => ?_) (fun h => ?_))
  | (refine len_ok ?_) | fail)

local macro_rules | `(tactic| walk_at "len") => `(tactic| first
  | (rintro ⟨_, e, _⟩; rw [e]; rfl) | (rintro ⟨_, _, e, _⟩; rw [e]; rfl) | (rintro ⟨_, _, _, e, _⟩; rw [e]; rfl) | (rintro ⟨_, _, _, _, e, _⟩; rw [e]; rfl) | (rintro ⟨_, _, _, _, _, e, _⟩; rw [e]; rfl) | (rintro ⟨_, _, _, _, _, _, e, _⟩; rw [e]; rfl))
local macro_rules | `(tactic| walk_at "side") => `(tactic| first
  | assumption | exact Be.q (by assumption) | exact cmul (by assumption) (by assumption) | exact cmulD (by assumption) (by assumption) | exact cmulN (by assumption) (by assumption) | exact cmulX (by assumption) (by assumption))
local macro_rules | `(tactic| walk_at "fld") => `(tactic| (refine ⟨_, _, _, rfl, Tx.cl ‹_›, ?_, rfl, ?_⟩; (first | exact Tx.nLow ‹_› | exact Tx.nHigh ‹_›)))
local macro_rules | `(tactic| walk_at "call2") => `(tactic| ((first | (with_reducible show F2 _ _ _ _ _) | (with_reducible show F_less _ _ _ _)); refine ⟨_, _, rfl, ?_, ?_, ?_⟩; (walk_at "side"); (walk_at "side")))
local macro_rules | `(tactic| walk_at "zero") => `(tactic| (with_reducible refine E_top (s := ratS _ 0) (Tx.sZERO ‹_›) ?_))
local macro_rules | `(tactic| walk_at "fs1") => `(tactic| ((with_reducible show FS1 _ _ _ _ _ _); refine ⟨_, _, rfl, ?_, ?_, ?_, ?_⟩; (walk_at "side"); (walk_at "side"); (walk_at "side")))
theorem look_no {m : Str} {s1 s2 : Slot} (h1 : (m == ("low" : Str)) = false) (h2 : (m == ("high" : Str)) = false) : List.lookup m [(("low" : Str), s1), (("high" : Str), s2)] = none := by
  rw [List.lookup_cons, h1, List.lookup_cons, h2]; rfl
local macro_rules | `(tactic| walk_at "recv") => `(tactic| ((refine ⟨_, rfl, ?hl, ?_⟩); (case hl => exact look_no (by decide +kernel) (by decide +kernel))))
section
variable {P : Program} {w : World} {K : PySem.W.Frag} {mg : Str → Option Value} {base : Heap}
theorem Be0 : Be 0 := ⟨by decide, by decide⟩
theorem Bq0 : Bq 0 := Be0.q
theorem ok_Span_same (T : Tx K mg) : FnOk P w K mg base CX0 3 T.Span_same.f T.Span_same.fd p_Span_same (spOf (FS2 K T.C fun a b c d Φ => Φ (obS (sameB a b c d)))) := by
  refine ok0 T.Span_same.F sc_Span_same (by intro ss Φ Ψ h; revert h; walk_at "len") (fun cdv Ar outer s H Er hr => ⟨_, (pss_cons (ps_if (PW.pt (pw_or (pt_val (pe_call (ok_is_less T) (hr.mono (by decide)) rfl T.is_less.g T.is_less.F.kp T.is_less.b .nil pass0 (pa_cons (pe_fld (pv 0) rfl) (pa_cons (pe_fld (pv 1) rfl) pa_nil)))) (pw_or1 (pt_val (pe_call (ok_is_less T) (hr.mono (by decide)) rfl T.is_less.g T.is_less.F.kp T.is_less.b .nil pass0 (pa_cons (pe_fld (pv 1) rfl) (pa_cons (pe_fld (pv 0) rfl) pa_nil)))))))
  (pss_one (ps_ret pe_bl))
  pss_nil)
  (pss_cons (ps_if (PW.pt (pw_and (pt_val (pe_meth0 (pv 0) T.cl_Span T.Span_single.m (ok_Span_single T) (hr.mono (by decide)) T.Span_single.b .nil pass0)) (pw_and1 (pt_val (pe_meth0 (pv 1) T.cl_Span T.Span_single.m (ok_Span_single T) (hr.mono (by decide)) T.Span_single.b .nil pass0)))))
  (pss_one (ps_ret pe_bl))
  pss_nil)
  (pss_one (ps_ret pe_non)))), fun ss Φ Ψ h => ?_⟩)
  obtain ⟨a, b, c, d, rfl, hab, hcd, ha, hb, hc, hd, k⟩ := h
  unfold sameB at k
  repeat' first | walk_at "recv" | walk_at "ab" | walk_at "fld" | walk_at "call2" | walk_at "fs1" | fail
  · rename_i h1; rw [if_pos (.inl h1)] at k; exact k
  · rename_i h1 h2; rw [if_pos (.inr h2)] at k; exact k
  all_goals simp_all [obS]
theorem ok_Span_Dcontains (T : Tx K mg) : FnOk P w K mg base CX0 2 T.Span_Dcontains.f T.Span_Dcontains.fd p_Span_Dcontains (spOf ((fun ss Φ _ => ∃ a b x : Rat, ss = [spanS K T.C a b, ratS K x] ∧ Be a ∧ Be b ∧ Bq x ∧ Φ (vS (.bl (decide (a ≤ x ∧ x ≤ b))))))) := by
  refine ok0 T.Span_Dcontains.F sc_Span_Dcontains (by intro ss Φ Ψ h; revert h; walk_at "len") (fun cdv Ar outer s H Er hr => ⟨_, (pss_one (ps_ret (pe_not (pe_or (pe_call (ok_is_less T) (hr.mono (by decide)) rfl T.is_less.g T.is_less.F.kp T.is_less.b .nil pass0 (pa_cons (pv 1) (pa_cons (pe_fld (pv 0) rfl) pa_nil))) (pe_one (pe_call (ok_is_less T) (hr.mono (by decide)) rfl T.is_less.g T.is_less.F.kp T.is_less.b .nil pass0 (pa_cons (pe_fld (pv 0) rfl) (pa_cons (pv 1) pa_nil)))))))), fun ss Φ Ψ h => ?_⟩)
  obtain ⟨a, b, x, rfl, ha, hb, hx, k⟩ := h
  repeat' first | walk_at "ab" | walk_at "fld" | walk_at "call2"
  · rename_i h
    show Φ (vS (.bl false))
    rw [decide_eq_false (fun z => by grind)] at k
    exact k
  · rename_i h
    show Φ (vS (.bl (!decide (b < x))))
    have e : decide (a ≤ x ∧ x ≤ b) = !decide (b < x) := by
      rw [← decide_not]
      apply decide_eq_decide.mpr
      grind
    rw [e] at k
    exact k
theorem ty_span (T : Tx K mg) (p q : Rat) : TyS K (spanS K T.C p q) (.ref T.C) := fun v H h => by
  obtain ⟨a, dx, fs, rfl, ha, _⟩ := h
  exact .base (.ins ha T.cl T.spanC T.clsN T.clsT T.mroC)
theorem kit_self {C : Addr} : PySem.W.kitOne K (.ref C) (.ref C) = some true := by
  unfold PySem.W.kitOne
  rw [if_pos (beq_self_eq_true _)]
def F_eq (K : PySem.W.Frag) (C : Addr) : FS := fun ss Φ _ => ∃ (a b : Rat) (s : Slot), ss = [spanS K C a b, s] ∧
  ((∃ c d, s = spanS K C c d ∧ Φ (vS (.bl (decide (a = c ∧ b = d))))) ∨ (∃ t, TyS K s t ∧ PySem.W.kitOne K t (.ref C) = some false ∧ Φ (vS (.bl false))))
theorem ok_Span_Deq (T : Tx K mg) : FnOk P w K mg base CX0 1 T.Span_Deq.f T.Span_Deq.fd p_Span_Deq (spOf (F_eq K T.C)) := by
  refine ok0 T.Span_Deq.F sc_Span_Deq (by intro ss Φ Ψ h; revert h; walk_at "len") (fun cdv Ar outer s H Er hr => ⟨_, (pss_one (ps_ret (pe_and (pe_callB call_isi (by rfl) T.isinstance (by decide +kernel) (pa_cons (pv 1) (pa_cons (pe_glob rfl T.gSpan (rel_ref _)) pa_nil))) (pe_and (pe_cmpR (op_eqD hr.units) (pe_fld (pv 0) rfl) (pe_fld (pv 1) rfl) (nomark _)) (pe_one (pe_cmpR (op_eqD hr.units) (pe_fld (pv 0) rfl) (pe_fld (pv 1) rfl) (nomark _))))))), fun ss Φ Ψ h => ?_⟩)
  obtain ⟨a, b, s, rfl, h⟩ := h
  rcases h with ⟨c, d, rfl, k⟩ | ⟨t, ty, kit, k⟩
  · repeat' first | walk_at "ab" | walk_at "fld" | (refine R_eqR ?_) | (refine C_isi (ty_span T c d) (.own _) kit_self ?_)
    · rename_i h
      have e : decide (a = c ∧ b = d) = decide (b = d) := by simp [h]
      rw [e] at k
      exact k
    · rename_i h
      have e : decide (a = c ∧ b = d) = false := by simp [h]
      rw [e] at k
      exact k
  · repeat' first | walk_at "ab" | walk_at "fld" | (refine R_eqR ?_) | (refine C_isi ty (.own _) kit ?_)
    exact k
theorem ok_point (T : Tx K mg) : FnOk P w K mg base CX0 5 T.point.f T.point.fd p_point (spOf ((fun ss Φ _ => ∃ a : Rat, ss = [ratS K a] ∧ Be a ∧ Φ (spanS K T.C a a)))) := by
  refine ok0 T.point.F sc_point (by intro ss Φ Ψ h; revert h; walk_at "len") (fun cdv Ar outer s H Er hr => ⟨_, (pss_one (ps_ret (pe_make T.mkSpan (ok_Span_Dinit T) (hr.mono (by decide)) rfl T.gSpan T.Span_Dinit.b .nil passL (pa_cons (pv 0) (pa_cons (pv 0) pa_nil))))), fun ss Φ Ψ h => ?_⟩)
  obtain ⟨a, rfl, ha, k⟩ := h
  repeat' first | walk_at "ab" | walk_at "fld" | walk_at "call2"
  refine ⟨_, _, rfl, ha.q, ha.q, fun _ => k, fun h => ?_⟩
  exfalso; grind
def truthB (a b : Rat) : Option Bool := if a = 0 ∧ b = 0 then some false else if a ≤ 0 ∧ 0 ≤ b then none else some true
theorem ok_Span_truth (T : Tx K mg) : FnOk P w K mg base CX0 3 T.Span_truth.f T.Span_truth.fd p_Span_truth (spOf (FS1 K T.C fun a b Φ => Φ (obS (truthB a b)))) := by
  refine ok0 T.Span_truth.F sc_Span_truth (by intro ss Φ Ψ h; revert h; walk_at "len") (fun cdv Ar outer s H Er hr => ⟨_, (pss_cons (ps_if (PW.pt (pw_and (pt_cmpR (op_eqD hr.units) (pe_fld (pv 0) rfl) (pe_glob rfl T.gZERO (rel_ref _)) (nomark _)) (pw_and1 (pt_cmpR (op_eqD hr.units) (pe_fld (pv 0) rfl) (pe_glob rfl T.gZERO (rel_ref _)) (nomark _)))))
  (pss_one (ps_ret pe_bl))
  pss_nil)
  (pss_cons (ps_if (pt_cmpR (op_ownIn (ok_Span_Dcontains T) (hr.mono (by decide)) T.Span_Dcontains.s T.Span_Dcontains.i T.Span_Dcontains.b pass0) (pe_glob rfl T.gZERO (rel_ref _)) (pv 0) (by rfl))
  (pss_one (ps_ret pe_non))
  pss_nil)
  (pss_one (ps_ret pe_bl)))), fun ss Φ Ψ h => ?_⟩)
  obtain ⟨a, b, rfl, hab, ha, hb, k⟩ := h
  unfold truthB at k
  repeat' first | walk_at "zero" | walk_at "ab" | walk_at "fld" | walk_at "call2" | (refine R_eqR ?_) | (refine R_ownIn rfl ?_) | (refine ⟨_, _, _, rfl, ?_, ?_, Bq0, ?_⟩; assumption; assumption) | fail
  · rename_i h1 h2
    show Φ (vS (.bl false))
    rw [if_pos ⟨h1, h2⟩] at k; exact k
  · rename_i h1 h2 h3
    show Φ (vS .non)
    rw [if_neg (fun z => h2 z.2), if_pos h3] at k; exact k
  · rename_i h1 h2 h3
    rw [if_neg (fun z => h2 z.2), if_neg h3] at k; exact k
  · rename_i h1 h3
    show Φ (vS .non)
    rw [if_neg (fun z => h1 z.1), if_pos h3] at k; exact k
  · rename_i h1 h3
    rw [if_neg (fun z => h1 z.1), if_neg h3] at k; exact k
def overB (a b c d : Rat) : Option (Rat × Rat) := if c = 0 ∧ d = 0 then some (0, 0) else if c ≤ 0 ∧ 0 ≤ d then none else some (mn (mn (a / c) (a / d)) (mn (b / c) (b / d)), mx (mx (a / c) (a / d)) (mx (b / c) (b / d)))
theorem ok_Span_over (T : Tx K mg) : FnOk P w K mg base CX0 6 T.Span_over.f T.Span_over.fd p_Span_over (spOf (FS2 K T.C fun a b c d Φ => Φ (optS K T.C (overB a b c d)))) := by
  refine ok0 T.Span_over.F sc_Span_over (by intro ss Φ Ψ h; revert h; walk_at "len") (fun cdv Ar outer s H Er hr => ⟨_, (pss_cons (ps_if (PW.pt (pw_and (pt_cmpR (op_eqD hr.units) (pe_fld (pv 1) rfl) (pe_glob rfl T.gZERO (rel_ref _)) (nomark _)) (pw_and1 (pt_cmpR (op_eqD hr.units) (pe_fld (pv 1) rfl) (pe_glob rfl T.gZERO (rel_ref _)) (nomark _)))))
  (pss_one (ps_ret (pe_make T.mkSpan (ok_Span_Dinit T) (hr.mono (by decide)) rfl T.gSpan T.Span_Dinit.b .nil passL (pa_cons (pe_glob rfl T.gZERO (rel_ref _)) (pa_cons (pe_glob rfl T.gZERO (rel_ref _)) pa_nil)))))
  pss_nil)
  (pss_cons (ps_if (pt_cmpR (op_ownIn (ok_Span_Dcontains T) (hr.mono (by decide)) T.Span_Dcontains.s T.Span_Dcontains.i T.Span_Dcontains.b pass0) (pe_glob rfl T.gZERO (rel_ref _)) (pv 1) (by rfl))
  (pss_one (ps_ret pe_non))
  pss_nil)
  (pss_one (ps_ret (pe_call (ok_xaround T) (hr.mono (by decide)) rfl T.xaround.g T.xaround.F.kp T.xaround.b .nil pass0 (pa_cons (pe_call (ok_quotient T) (hr.mono (by decide)) rfl T.quotient.g T.quotient.F.kp T.quotient.b .nil pass0 (pa_cons (pe_fld (pv 0) rfl) (pa_cons (pe_fld (pv 1) rfl) pa_nil))) (pa_cons (pe_call (ok_quotient T) (hr.mono (by decide)) rfl T.quotient.g T.quotient.F.kp T.quotient.b .nil pass0 (pa_cons (pe_fld (pv 0) rfl) (pa_cons (pe_fld (pv 1) rfl) pa_nil))) (pa_cons (pe_call (ok_quotient T) (hr.mono (by decide)) rfl T.quotient.g T.quotient.F.kp T.quotient.b .nil pass0 (pa_cons (pe_fld (pv 0) rfl) (pa_cons (pe_fld (pv 1) rfl) pa_nil))) (pa_cons (pe_call (ok_quotient T) (hr.mono (by decide)) rfl T.quotient.g T.quotient.F.kp T.quotient.b .nil pass0 (pa_cons (pe_fld (pv 0) rfl) (pa_cons (pe_fld (pv 1) rfl) pa_nil))) pa_nil))))))))), fun ss Φ Ψ h => ?_⟩)
  obtain ⟨a, b, c, d, rfl, hab, hcd, ha, hb, hc, hd, k⟩ := h
  unfold overB at k
  repeat' first | walk_at "zero" | walk_at "ab" | walk_at "fld" | walk_at "call2" | (refine R_eqR ?_) | (refine R_ownIn rfl ?_) | (refine ⟨_, _, _, rfl, ?_, ?_, Bq0, ?_⟩; assumption; assumption) | fail
  · rename_i h1 h2
    refine ⟨0, 0, rfl, Bq0, Bq0, fun _ => ?_, fun h => ?_⟩
    · rw [if_pos ⟨h1, h2⟩] at k; exact k
    · exact absurd h (by grind)
  · rename_i h1 h2 h3
    rw [if_neg (fun z => h2 z.2), if_pos h3] at k; exact k
  · rename_i h1 h2 h3
    refine ⟨_, _, _, _, rfl, ?_, ?_, ?_, ?_, ?_⟩
    · exact sz_div ha hc (by decide) (by decide) (by decide)
    · exact sz_div ha hd (by decide) (by decide) (by decide)
    · exact sz_div hb hc (by decide) (by decide) (by decide)
    · exact sz_div hb hd (by decide) (by decide) (by decide)
    · rw [if_neg (fun z => h2 z.2), if_neg h3] at k; exact k
  · rename_i h1 h3
    rw [if_neg (fun z => h1 z.1), if_pos h3] at k; exact k
  · rename_i h1 h3
    refine ⟨_, _, _, _, rfl, ?_, ?_, ?_, ?_, ?_⟩
    · exact sz_div ha hc (by decide) (by decide) (by decide)
    · exact sz_div ha hd (by decide) (by decide) (by decide)
    · exact sz_div hb hc (by decide) (by decide) (by decide)
    · exact sz_div hb hd (by decide) (by decide) (by decide)
    · rw [if_neg (fun z => h1 z.1), if_neg h3] at k; exact k
theorem log_lt {i : Int} (h : i.natAbs < 2 ^ 500) : i.natAbs.log2 < 1920 := Nat.lt_of_lt_of_le (PySem.Flt.log2_lt_of (by decide) h) (by decide)
theorem den_log {q : Rat} (h : Be q) : ((q.den : Nat) : Int).natAbs < 2 ^ 500 := by rw [Int.natAbs_natCast]; exact h.2
theorem empty_app (x : Str) : Str.empty ++ x = x := by
  cases x with
  | mk c =>
    show Str.mk (#[] ++ c) = Str.mk c
    simp
theorem ok_worth_text (T : Tx K mg) : FnOk P w K mg base CX0 1 T.worth_text.f T.worth_text.fd p_worth_text (spOf ((fun ss Φ _ => ∃ a : Rat, ss = [ratS K a] ∧ Be a ∧ Φ (vS (.str (wt a)))))) := by
  refine ok0 T.worth_text.F sc_worth_text (by intro ss Φ Ψ h; revert h; walk_at "len") (fun cdv Ar outer s H Er hr => ⟨_, (pss_cons (ps_if (pt_cmpR op_eq (pe_ix ix_tup (pv 0) pe_int (fun _ _ => rfl)) pe_int (nomark _))
  (pss_one (ps_ret (pe_callTy call_str_int (by rfl) T.str (by decide +kernel) (pa_cons (pe_ix ix_tup (pv 0) pe_int (fun _ _ => rfl)) pa_nil))))
  pss_nil)
  (pss_one (ps_ret (pe_joined (.cons (pe_fmt (pe_ix ix_tup (pv 0) pe_int (fun _ _ => rfl))) (.cons pe_str (.cons (pe_fmt (pe_ix ix_tup (pv 0) pe_int (fun _ _ => rfl))) .nil))))))), fun ss Φ Ψ h => ?_⟩)
  obtain ⟨a, rfl, ha, k⟩ := h
  unfold wt at k
  repeat' first | walk_at "ab" | (refine C_strI (log_lt ha.1) ?_) | (refine E_joined ?_) | (refine J_cons ?_) | (refine J_nil ?_) | (with_reducible refine E_fmt ?_) | (refine .inl ⟨_, rfl, ?_, ?_⟩) | ((with_reducible show _ ≤ 100000 ∧ _); refine ⟨?_, ?_⟩) | fail
  · rename_i h
    rw [if_pos (by omega)] at k
    exact k
  · exact log_lt ha.1
  · rw [Str.length_append]
    have := PyProof.Rows.int_text_len_1921 (log_lt ha.1)
    show 0 + _ ≤ _
    omega
  · rw [Str.length_append, Str.length_append]
    have := PyProof.Rows.int_text_len_1921 (log_lt ha.1)
    show 0 + _ + 1 ≤ _
    omega
  · exact log_lt (den_log ha)
  · rw [Str.length_append, Str.length_append, Str.length_append]
    have h1 := PyProof.Rows.int_text_len_1921 (log_lt ha.1)
    have h2 := PyProof.Rows.int_text_len_1921 (log_lt (den_log ha))
    show 0 + _ + 1 + _ ≤ _
    omega
  · rename_i h
    rw [if_neg (by omega)] at k
    rw [empty_app]
    exact k
end
end K78

/-! K78D -/
namespace K78
open PySem PySem.Spec PyProof.Rows L2 Ab RatM

local macro_rules | `(tactic| walk_at "ab") => `(tactic| first
  | (with_reducible refine S_seq ?_) | (with_reducible refine S_ret ?_) | (with_reducible refine S_asg ?_) | (with_reducible refine S_if ?_) | (with_reducible refine S_next ?_) | (with_reducible refine S_par ?_) | (with_reducible refine S_drop ?_) | (with_reducible refine S_retN ?_)
  | (with_reducible refine E_c ?_) | (with_reducible refine E_op ?_) | (with_reducible refine E_un ?_) | (with_reducible refine E_tup (K := ‹PySem.W.Frag›) ?_) | (with_reducible refine E_lst ?_) | (with_reducible refine E_cb ?_) | (with_reducible refine E_if ?_)
  | (with_reducible refine E_fld ?_) | (with_reducible refine E_not ?_) | (with_reducible refine E_and ?_) | (with_reducible refine E_or ?_) | (with_reducible refine E_meth ?_) | (with_reducible refine E_make ?_)
  | (with_reducible refine A_cons ?_) | (with_reducible refine A_nil ?_) | (with_reducible refine E_call (dss := []) (fun _ => .nil) ?_)
  | (with_reducible refine T_test ?_) | (with_reducible refine T_B ?_) | (with_reducible refine T_not ?_) | (with_reducible refine T_and ?_) | (with_reducible refine T_or ?_)
  | (refine E_var rfl ?_) | (refine R_I0 ?_) | (refine R_ixT rfl ?_) | (refine R_ixL rfl ?_) | (refine R_eqI ?_) | (refine R_eqS ?_) | (refine R_neS ?_) | (refine R_eq rfl ?_) | (refine R_ne rfl ?_) | (refine U_I ?_) | (refine R_I ?_ ?_)
  | (refine C_gcd ?_) | (refine C_abs ?_) | (refine C_int ?_) | (refine C_intB ?_)
  | ((with_reducible show ∃ (s s' : Slot), _ = [s, s'] ∧ _); refine ⟨_, _, rfl, ?_⟩)
  | (refine ⟨_, rfl, ?_⟩)
  | (refine spl (fun h => ?_) (fun h => ?_)) | (refine splN (fun h => ?_) (fun h => ?_)) | (refine splT ?_) | (refine splF ?_) | (refine spl2 (fun h => ?_) (fun h => ?_))
  | (refine len_ok ?_) | fail)

local macro_rules | `(tactic| walk_at "len") => `(tactic| first
  | (rintro ⟨_, e, _⟩; rw [e]; rfl) | (rintro ⟨_, _, e, _⟩; rw [e]; rfl) | (rintro ⟨_, _, _, e, _⟩; rw [e]; rfl) | (rintro ⟨_, _, _, _, e, _⟩; rw [e]; rfl) | (rintro ⟨_, _, _, _, _, e, _⟩; rw [e]; rfl) | (rintro ⟨_, _, _, _, _, _, e, _⟩; rw [e]; rfl))
local macro_rules | `(tactic| walk_at "side") => `(tactic| first
  | assumption | exact Be.q (by assumption) | exact cmul (by assumption) (by assumption) | exact cmulD (by assumption) (by assumption) | exact cmulN (by assumption) (by assumption) | exact cmulX (by assumption) (by assumption))
local macro_rules | `(tactic| walk_at "call2") => `(tactic| ((first | (with_reducible show F2 _ _ _ _ _) | (with_reducible show F_less _ _ _ _)); refine ⟨_, _, rfl, ?_, ?_, ?_⟩; (walk_at "side"); (walk_at "side")))
section
variable {P : Program} {w : World} {K : PySem.W.Frag} {mg : Str → Option Value} {base : Heap}
def F_fit (K : PySem.W.Frag) : FS := fun ss Φ _ => ∃ t b : Int, ss = [vS (.int t), vS (.int b)] ∧ t.natAbs < 2 ^ 8000 ∧ b.natAbs < 2 ^ 8000 ∧ Φ (ratS K (Rat.divInt t b))
theorem fit_turn {x y : Int} (hy : 0 < y) : 0 ≤ x.fmod y ∧ x.fmod y < y := by
  rw [Int.fmod_eq_emod_of_nonneg x (by omega)]
  exact ⟨Int.emod_nonneg x (by omega), Int.emod_lt_of_pos x hy⟩
theorem cm1 {i t : Int} (hi : i.natAbs < 2 ^ 2) (ht : t.natAbs < 2 ^ 8000) : CMulW i t := wide_mul hi ht (by decide) (by decide) (by decide)
theorem cdG {b t z : Int} (hb : b.natAbs < 2 ^ 8000) (h0 : ¬ b = 0) : CDivNW z (b.gcd t : Int) := by
  have h1 := gcd_pos (t := t) h0
  have h2 := gcd_le (t := t) h0
  exact CDivNW.of (by omega) (b := 8000) (by omega) (by decide) (by decide)
theorem fdm {a g : Int} (hg : 0 < g) (hd : g ∣ a) : (-1 * a).fdiv g = a.fdiv (-g) := by
  rw [fdiv_neg' hg hd, RatM.fdiv_pos hg]
  congr 1
  omega
theorem ok_lfit (T : Tx K mg) : FnOk P w K mg base CX0 1 T.lfit.f T.lfit.fd p_lfit (spOf (F_fit K)) := by
  refine ok0 T.lfit.F sc_lfit (by intro ss Φ Ψ h; revert h; walk_at "len") (fun cdv Ar outer s H Er hr => ⟨_, (pss_cons (ps_if (pt_cmpR op_eq (pv 1) pe_int (nomark _))
  (pss_one (ps_ret (pe_tup (pa_cons pe_int (pa_cons pe_int pa_nil)))))
  pss_nil)
  (pss_cons (ps_par (i := 2) (j := 3) (by rfl) sc_lfit.nd rfl rfl (by decide) rfl rfl (pa_cons (pe_callB call_abs (by rfl) T.abs (by decide +kernel) (pa_cons (pv 0) pa_nil)) (pa_cons (pe_callB call_abs (by rfl) T.abs (by decide +kernel) (pa_cons (pv 1) pa_nil)) pa_nil)) (by rfl))
  (pss_cons (ps_while PassesOwn.never (pt_cmpR op_gt (pv 3) pe_int (nomark _))
  (pss_one (ps_par (i := 2) (j := 3) (by rfl) sc_lfit.nd rfl rfl (by decide) rfl rfl (pa_cons (pv 3) (pa_cons (pe_op op_modN (pe_callTy call_int1 (by rfl) T.int (by decide +kernel) (pa_cons (pv 2) pa_nil)) (pv 3)) pa_nil)) (by rfl))))
  (pss_cons (ps_set (i := 4) sc_lfit.nd rfl (by first | exact Or.inl rfl | exact Or.inr rfl) (pe_ifExp (pt_cmpR op_gt (pv 1) pe_int (nomark _)) pe_int (pe_un un_neg pe_int)))
  (pss_one (ps_ret (pe_tup (pa_cons (pe_op op_fdivNW (pe_op op_mulW (pv 4) (pv 0)) (pv 2)) (pa_cons (pe_op op_fdivNW (pe_op op_mulW (pv 4) (pv 1)) (pv 2)) pa_nil))))))))), fun ss Φ Ψ h => ?_⟩)
  obtain ⟨t, b, rfl, ht, hb, k⟩ := h
  repeat' first | walk_at "ab" | fail
  · rename_i h0; subst h0; rw [Rat.divInt_zero] at k; exact k
  · rename_i h0
    refine S_while (fun m Γ => ∃ x y : Int, 0 ≤ x ∧ 0 ≤ y ∧ Int.gcd x y = Int.gcd b t ∧ m = y.toNat ∧ Γ = [.pl (vS (.int t)), .pl (vS (.int b)), .pl (vS (.int x)), .pl (vS (.int y)), .no]) _ ⟨_, _, ?_, ?_, ?_, rfl, rfl⟩ ?_
    · split <;> omega
    · split <;> omega
    · rw [Int.gcd_comm b t]
      unfold Int.gcd
      congr 1 <;> (split <;> omega)
    · rintro m Γ ⟨x, y, hx, hy, hg, rfl, rfl⟩
      repeat' first | walk_at "ab" | fail
      · omega
      · rename_i hy0
        obtain ⟨h1, h2⟩ := fit_turn (x := x) hy0
        exact ⟨_, by omega, y, x.fmod y, hy, h1, by rw [gcd_step]; exact hg, rfl, rfl⟩
      all_goals
        have hy0 : y = 0 := by omega
        subst hy0
        have hxg : x = (b.gcd t : Int) := by
          rw [← hg, Int.gcd_zero_right]
          omega
        subst hxg
      · exact cm1 (by decide) ht
      · exact cdG hb (by assumption)
      · exact cm1 (by decide) hb
      · exact cdG hb (by assumption)
      · show Φ (tupS K _)
        rw [Int.one_mul, Int.one_mul, num_pos (by assumption), RatM.den_pos (by assumption)]
        exact k
      · exact cm1 (by decide) ht
      · exact cdG hb (by assumption)
      · exact cm1 (by decide) hb
      · exact cdG hb (by assumption)
      · have h4 : b < 0 := by omega
        show Φ (tupS K _)
        rw [fdm (gcd_pos h0) (Int.gcd_dvd_right _ _), fdm (gcd_pos h0) (Int.gcd_dvd_left _ _), num_neg h4, RatM.den_neg h4]
        exact k
theorem sz2000 {q : Rat} (h : Bq q) : q.num.natAbs < 2 ^ 8000 ∧ ((q.den : Nat) : Int).natAbs < 2 ^ 8000 := ⟨le_max_pow h.1 (by decide), by rw [Int.natAbs_natCast]; exact le_max_pow h.2 (by decide)⟩
theorem ok_lplus (T : Tx K mg) : FnOk P w K mg base CX0 2 T.lplus.f T.lplus.fd p_lplus (spOf (F2 K (· + ·))) := by
  refine ok0 T.lplus.F sc_lplus (by intro ss Φ Ψ h; revert h; walk_at "len") (fun cdv Ar outer s H Er hr => ⟨_, (pss_one (ps_ret (pe_call (ok_lfit T) (hr.mono (by decide)) rfl T.lfit.g T.lfit.F.kp T.lfit.b .nil pass0 (pa_cons (pe_op op_add (pe_op op_mulW (pe_ix ix_tup (pv 0) pe_int (fun _ _ => rfl)) (pe_ix ix_tup (pv 1) pe_int (fun _ _ => rfl))) (pe_op op_mulW (pe_ix ix_tup (pv 1) pe_int (fun _ _ => rfl)) (pe_ix ix_tup (pv 0) pe_int (fun _ _ => rfl)))) (pa_cons (pe_op op_mulW (pe_ix ix_tup (pv 0) pe_int (fun _ _ => rfl)) (pe_ix ix_tup (pv 1) pe_int (fun _ _ => rfl))) pa_nil))))), fun ss Φ Ψ h => ?_⟩)
  obtain ⟨p, q, rfl, hp, hq, k⟩ := h
  repeat' first | walk_at "ab" | walk_at "side" | fail
  refine ⟨_, _, rfl, sz_addnum hp hq (by decide) (by decide), dd hp hq, ?_⟩
  rw [add_eq]
  exact k
theorem ok_lminus (T : Tx K mg) : FnOk P w K mg base CX0 2 T.lminus.f T.lminus.fd p_lminus (spOf (F2 K (· - ·))) := by
  refine ok0 T.lminus.F sc_lminus (by intro ss Φ Ψ h; revert h; walk_at "len") (fun cdv Ar outer s H Er hr => ⟨_, (pss_one (ps_ret (pe_call (ok_lfit T) (hr.mono (by decide)) rfl T.lfit.g T.lfit.F.kp T.lfit.b .nil pass0 (pa_cons (pe_op op_sub (pe_op op_mulW (pe_ix ix_tup (pv 0) pe_int (fun _ _ => rfl)) (pe_ix ix_tup (pv 1) pe_int (fun _ _ => rfl))) (pe_op op_mulW (pe_ix ix_tup (pv 1) pe_int (fun _ _ => rfl)) (pe_ix ix_tup (pv 0) pe_int (fun _ _ => rfl)))) (pa_cons (pe_op op_mulW (pe_ix ix_tup (pv 0) pe_int (fun _ _ => rfl)) (pe_ix ix_tup (pv 1) pe_int (fun _ _ => rfl))) pa_nil))))), fun ss Φ Ψ h => ?_⟩)
  obtain ⟨p, q, rfl, hp, hq, k⟩ := h
  repeat' first | walk_at "ab" | walk_at "side" | fail
  refine ⟨_, _, rfl, sz_subnum hp hq (by decide) (by decide), dd hp hq, ?_⟩
  rw [sub_eq]
  exact k
theorem ok_ltimes (T : Tx K mg) : FnOk P w K mg base CX0 2 T.ltimes.f T.ltimes.fd p_ltimes (spOf (F2 K (· * ·))) := by
  refine ok0 T.ltimes.F sc_ltimes (by intro ss Φ Ψ h; revert h; walk_at "len") (fun cdv Ar outer s H Er hr => ⟨_, (pss_one (ps_ret (pe_call (ok_lfit T) (hr.mono (by decide)) rfl T.lfit.g T.lfit.F.kp T.lfit.b .nil pass0 (pa_cons (pe_op op_mulW (pe_ix ix_tup (pv 0) pe_int (fun _ _ => rfl)) (pe_ix ix_tup (pv 1) pe_int (fun _ _ => rfl))) (pa_cons (pe_op op_mulW (pe_ix ix_tup (pv 0) pe_int (fun _ _ => rfl)) (pe_ix ix_tup (pv 1) pe_int (fun _ _ => rfl))) pa_nil))))), fun ss Φ Ψ h => ?_⟩)
  obtain ⟨p, q, rfl, hp, hq, k⟩ := h
  repeat' first | walk_at "ab" | walk_at "side" | fail
  refine ⟨_, _, rfl, ?_, dd hp hq, ?_⟩
  · rw [Int.natAbs_mul]; exact le_max_pow (mul_lt hp.1 hq.1) (by decide)
  rw [mul_eq]
  exact k
theorem ok_lpart (T : Tx K mg) : FnOk P w K mg base CX0 2 T.lpart.f T.lpart.fd p_lpart (spOf (F2 K (· / ·))) := by
  refine ok0 T.lpart.F sc_lpart (by intro ss Φ Ψ h; revert h; walk_at "len") (fun cdv Ar outer s H Er hr => ⟨_, (pss_one (ps_ret (pe_call (ok_lfit T) (hr.mono (by decide)) rfl T.lfit.g T.lfit.F.kp T.lfit.b .nil pass0 (pa_cons (pe_op op_mulW (pe_ix ix_tup (pv 0) pe_int (fun _ _ => rfl)) (pe_ix ix_tup (pv 1) pe_int (fun _ _ => rfl))) (pa_cons (pe_op op_mulW (pe_ix ix_tup (pv 0) pe_int (fun _ _ => rfl)) (pe_ix ix_tup (pv 1) pe_int (fun _ _ => rfl))) pa_nil))))), fun ss Φ Ψ h => ?_⟩)
  obtain ⟨p, q, rfl, hp, hq, k⟩ := h
  repeat' first | walk_at "ab" | walk_at "side" | fail
  refine ⟨_, _, rfl, ?_, dx hp hq, ?_⟩
  · rw [Int.natAbs_mul, Int.natAbs_natCast]; exact le_max_pow (mul_lt hp.1 hq.2) (by decide)
  rw [div_eq]
  exact k
theorem ok_lless (T : Tx K mg) : FnOk P w K mg base CX0 1 T.lless.f T.lless.fd p_lless (spOf (F_less K)) := by
  refine ok0 T.lless.F sc_lless (by intro ss Φ Ψ h; revert h; walk_at "len") (fun cdv Ar outer s H Er hr => ⟨_, (pss_one (ps_ret (pe_cmpR op_lt (pe_op op_mulW (pe_ix ix_tup (pv 0) pe_int (fun _ _ => rfl)) (pe_ix ix_tup (pv 1) pe_int (fun _ _ => rfl))) (pe_op op_mulW (pe_ix ix_tup (pv 1) pe_int (fun _ _ => rfl)) (pe_ix ix_tup (pv 0) pe_int (fun _ _ => rfl))) (nomark _)))), fun ss Φ Ψ h => ?_⟩)
  obtain ⟨p, q, rfl, hp, hq, k⟩ := h
  repeat' first | walk_at "ab" | walk_at "side" | fail
  have e : decide (p.num * (q.den : Int) < q.num * (p.den : Int)) = decide (p < q) := by simp only [lt_eq]
  show Φ (vS (V.bl (decide (p.num * (q.den : Int) < q.num * (p.den : Int)))))
  rw [e]
  exact k
theorem ok_ltext (T : Tx K mg) : FnOk P w K mg base CX0 1 T.ltext.f T.ltext.fd p_ltext (spOf ((fun ss Φ _ => ∃ a : Rat, ss = [ratS K a] ∧ Be a ∧ Φ (vS (.str (wt a)))))) := by
  refine ok0 T.ltext.F sc_ltext (by intro ss Φ Ψ h; revert h; walk_at "len") (fun cdv Ar outer s H Er hr => ⟨_, (pss_one (ps_ret (pe_ifExp (pt_cmpR op_eq (pe_ix ix_tup (pv 0) pe_int (fun _ _ => rfl)) pe_int (nomark _)) (pe_callTy call_str_int (by rfl) T.str (by decide +kernel) (pa_cons (pe_ix ix_tup (pv 0) pe_int (fun _ _ => rfl)) pa_nil)) (pe_op op_add_str (pe_op op_add_str (pe_callTy call_str_int (by rfl) T.str (by decide +kernel) (pa_cons (pe_ix ix_tup (pv 0) pe_int (fun _ _ => rfl)) pa_nil)) pe_str) (pe_callTy call_str_int (by rfl) T.str (by decide +kernel) (pa_cons (pe_ix ix_tup (pv 0) pe_int (fun _ _ => rfl)) pa_nil)))))), fun ss Φ Ψ h => ?_⟩)
  obtain ⟨a, rfl, ha, k⟩ := h
  unfold wt at k
  repeat' first | walk_at "ab" | (refine C_strI (log_lt ha.1) ?_) | (refine C_strI (log_lt (den_log ha)) ?_) | (refine R_cats ?_ ?_) | fail
  · rename_i h
    rw [if_pos (by omega)] at k
    exact k
  · rw [show (Str.ofString "/").length = 1 from rfl]
    have h1 := PyProof.Rows.int_text_len_1921 (log_lt ha.1)
    omega
  · rw [Str.length_append, show (Str.ofString "/").length = 1 from rfl]
    have h1 := PyProof.Rows.int_text_len_1921 (log_lt ha.1)
    have h2 := PyProof.Rows.int_text_len_1921 (log_lt (den_log ha))
    omega
  · rename_i h
    rw [if_neg (by omega)] at k
    exact k
theorem ok_ldown (T : Tx K mg) : FnOk P w K mg base CX0 1 T.ldown.f T.ldown.fd p_ldown (spOf ((fun ss Φ _ => ∃ a : Rat, ss = [ratS K a] ∧ Bq a ∧ Φ (ratS K ((a.floor : Int) : Rat))))) := by
  refine ok0 T.ldown.F sc_ldown (by intro ss Φ Ψ h; revert h; walk_at "len") (fun cdv Ar outer s H Er hr => ⟨_, (pss_one (ps_ret (pe_tup (pa_cons (pe_op op_fdivNW (pe_ix ix_tup (pv 0) pe_int (fun _ _ => rfl)) (pe_ix ix_tup (pv 0) pe_int (fun _ _ => rfl))) (pa_cons pe_int pa_nil))))), fun ss Φ Ψ h => ?_⟩)
  obtain ⟨p, rfl, hp, k⟩ := h
  repeat' first | walk_at "ab" | walk_at "side" | fail
  · exact cfl hp
  · show Φ (tupS K [vS (V.int (p.num.fdiv p.den)), _])
    rw [floor_fdiv]
    exact k
theorem ok_lleast (T : Tx K mg) : FnOk P w K mg base CX0 2 T.lleast.f T.lleast.fd p_lleast (spOf ((fun ss Φ _ => ∃ (xs : List Rat) (lo hi : Rat), ss = [lstS (xs.map (ratS K))] ∧ lo ∈ xs ∧ hi ∈ xs ∧ (∀ y ∈ xs, lo ≤ y ∧ y ≤ hi ∧ Bq y) ∧ Φ (tupS K [ratS K lo, ratS K hi])))) := by
  refine ok0 T.lleast.F sc_lleast (by intro ss Φ Ψ h; revert h; walk_at "len") (fun cdv Ar outer s H Er hr => ⟨_, (pss_cons (ps_par (i := 1) (j := 2) (by rfl) sc_lleast.nd rfl rfl (by decide) rfl rfl (pa_cons (pe_ix ix_list (pv 0) pe_int (fun _ _ => rfl)) (pa_cons (pe_ix ix_list (pv 0) pe_int (fun _ _ => rfl)) pa_nil)) (by rfl))
  (pss_cons (ps_for PassesOwn.never rfl (pi_list (pv 0)) (pg_name (i := 3) sc_lleast.nd rfl (by first | exact Or.inl rfl | exact Or.inr rfl))
  (pss_cons (ps_set (i := 1) sc_lleast.nd rfl (by first | exact Or.inl rfl | exact Or.inr rfl) (pe_ifExp (pt_val (pe_call (ok_lless T) (hr.mono (by decide)) rfl T.lless.g T.lless.F.kp T.lless.b .nil pass0 (pa_cons (pv 3) (pa_cons (pv 1) pa_nil)))) (pv 3) (pv 1)))
  (pss_one (ps_set (i := 2) sc_lleast.nd rfl (by first | exact Or.inl rfl | exact Or.inr rfl) (pe_ifExp (pt_val (pe_call (ok_lless T) (hr.mono (by decide)) rfl T.lless.g T.lless.F.kp T.lless.b .nil pass0 (pa_cons (pv 2) (pa_cons (pv 3) pa_nil)))) (pv 3) (pv 2))))))
  (pss_one (ps_ret (pe_tup (pa_cons (pv 1) (pa_cons (pv 2) pa_nil))))))), fun ss Φ Ψ h => ?_⟩)
  obtain ⟨xs, lo, hi, rfl, hlo, hhi, hall, k⟩ := h
  obtain ⟨x, ys, rfl⟩ : ∃ x ys, xs = x :: ys := by
    cases xs with
    | nil => cases hlo
    | cons x ys => exact ⟨x, ys, rfl⟩
  repeat' first | walk_at "ab" | (refine R_ixL0 ?_) | fail
  refine S_forL [3] (fun i Γ => ∃ (l b : Rat) (o : Bd), l ∈ x :: ys ∧ b ∈ x :: ys ∧ (∀ y ∈ (x :: ys).take i, l ≤ y ∧ y ≤ b) ∧ Γ = [.pl (lstS ((x :: ys).map (ratS K))), .pl (ratS K l), .pl (ratS K b), o]) (E_var rfl ⟨rfl, x, x, .no, List.mem_cons_self .., List.mem_cons_self .., by simp, rfl⟩) ?_ ?_
  · rintro i s Γ hi ⟨l, b, o, hl, hb, hlb, rfl⟩
    obtain ⟨y, ey, rfl⟩ := mapGet hi
    have hy := List.mem_of_getElem? ey
    have q1 := (hall y hy).2.2
    have q2 := (hall l hl).2.2
    have q3 := (hall b hb).2.2
    have tk : ∀ z, z ∈ (x :: ys).take (i + 1) → z ∈ (x :: ys).take i ∨ z = y := fun z hz => by
      rw [List.take_succ, ey] at hz
      simpa using hz
    refine G_name (by decide) ?_
    repeat' first | walk_at "ab" | ((with_reducible show F_less _ _ _ _); refine ⟨_, _, rfl, by assumption, by assumption, ?_⟩) | fail
    · rename_i h1 h2
      refine ⟨y, y, _, hy, hy, fun z hz => ?_, rfl⟩
      rcases tk z hz with hz | rfl
      · have := hlb z hz; grind
      · grind
    · rename_i h1 h2
      refine ⟨y, b, _, hy, hb, fun z hz => ?_, rfl⟩
      rcases tk z hz with hz | rfl
      · have := hlb z hz; grind
      · grind
    · rename_i h1 h2
      refine ⟨l, y, _, hl, hy, fun z hz => ?_, rfl⟩
      rcases tk z hz with hz | rfl
      · have := hlb z hz; grind
      · grind
    · rename_i h1 h2
      refine ⟨l, b, _, hl, hb, fun z hz => ?_, rfl⟩
      rcases tk z hz with hz | rfl
      · have := hlb z hz; grind
      · grind
  · rintro Γ ⟨l, b, o, hl, hb, hlb, rfl⟩
    rw [List.length_map, List.take_length] at hlb
    have e1 : l = lo := by have := hlb lo hlo; have := (hall l hl).1; grind
    have e2 : b = hi := by have := hlb hi hhi; have := (hall b hb).2.1; grind
    subst e1 e2
    repeat' first | walk_at "ab" | fail
    exact k
end
end K78

/-! K78E -/
namespace K78
open PySem PySem.Spec PyProof.Rows L2 Ab RatM

local macro_rules | `(tactic| walk_at "ab") => `(tactic| first
  | (with_reducible refine S_seq ?_) | (with_reducible refine S_ret ?_) | (with_reducible refine S_asg ?_) | (with_reducible refine S_if ?_) | (with_reducible refine S_next ?_) | (with_reducible refine S_par ?_) | (with_reducible refine S_drop ?_) | (with_reducible refine S_retN ?_)
  | (with_reducible refine E_c ?_) | (with_reducible refine E_op ?_) | (with_reducible refine E_un ?_) | (with_reducible refine E_tup (K := ‹PySem.W.Frag›) ?_) | (with_reducible refine E_lst ?_) | (with_reducible refine E_cb ?_) | (with_reducible refine E_if ?_)
  | (with_reducible refine E_fld ?_) | (with_reducible refine E_not ?_) | (with_reducible refine E_and ?_) | (with_reducible refine E_or ?_) | (with_reducible refine E_meth ?_) | (with_reducible refine E_make ?_)
  | (with_reducible refine A_cons ?_) | (with_reducible refine A_nil ?_) | (with_reducible refine E_call (dss := []) (fun _ => .nil) ?_)
  | (with_reducible refine T_test ?_) | (with_reducible refine T_B ?_) | (with_reducible refine T_not ?_) | (with_reducible refine T_and ?_) | (with_reducible refine T_or ?_)
  | (refine E_var rfl ?_) | (refine R_I0 ?_) | (refine R_ixT rfl ?_) | (refine R_ixL rfl ?_) | (refine R_eqI ?_) | (refine R_eqS ?_) | (refine R_neS ?_) | (refine R_eq rfl ?_) | (refine R_ne rfl ?_) | (refine U_I ?_) | (refine R_I ?_ ?_)
  | (refine C_gcd ?_) | (refine C_abs ?_) | (refine C_int ?_) | (refine C_intB ?_)
  | ((with_reducible show ∃ (s s' : Slot), _ = [s, s'] ∧ _); refine ⟨_, _, rfl, ?_⟩)
  | (refine ⟨_, rfl, ?_⟩)
  | (refine spl (fun h => ?_) (fun h => ?_)) | (refine splN (fun h => ?_) (fun h => ?_)) | (refine splT ?_) | (refine splF ?_) | (refine spl2 (fun h => ?_) (fun h => ?_))
  | (refine len_ok ?_) | fail)

local macro_rules | `(tactic| walk_at "len") => `(tactic| first
  | (rintro ⟨_, e, _⟩; rw [e]; rfl) | (rintro ⟨_, _, e, _⟩; rw [e]; rfl) | (rintro ⟨_, _, _, e, _⟩; rw [e]; rfl) | (rintro ⟨_, _, _, _, e, _⟩; rw [e]; rfl) | (rintro ⟨_, _, _, _, _, e, _⟩; rw [e]; rfl) | (rintro ⟨_, _, _, _, _, _, e, _⟩; rw [e]; rfl))
local macro_rules | `(tactic| walk_at "side") => `(tactic| first
  | assumption | exact Be.q (by assumption) | exact cmul (by assumption) (by assumption) | exact cmulD (by assumption) (by assumption) | exact cmulN (by assumption) (by assumption) | exact cmulX (by assumption) (by assumption))
local macro_rules | `(tactic| walk_at "call2") => `(tactic| ((first | (with_reducible show F2 _ _ _ _ _) | (with_reducible show F_less _ _ _ _)); refine ⟨_, _, rfl, ?_, ?_, ?_⟩; (walk_at "side"); (walk_at "side")))
section
variable {P : Program} {w : World} {K : PySem.W.Frag} {mg : Str → Option Value} {base : Heap}
/-- flat values that are alike -/
def F_like0 : FS := fun ss Φ _ => ∃ v : V, ss = [vS v, vS v] ∧ (v = .non ∨ (∃ i, v = .int i) ∨ (∃ b, v = .bl b)) ∧ Φ (vS (.bl true))
def F_likeG (K : PySem.W.Frag) (F' : FS) : FS := fun ss Φ Ψ => F_like0 ss Φ Ψ ∨ ∃ q : Rat, ss = [ratS K q, ratS K q] ∧ (∀ (i : Int) (Φ' : Slot → Prop), Φ' (vS (.bl true)) → F' [vS (.int i), vS (.int i)] Φ' fun _ => False) ∧ Φ (vS (.bl true))
theorem R_isNi {i : Int} {Φ : Slot → Prop} (k : Φ (vS (.bl false))) : R (fun x y H Q => y = .non ∧ Q (.bl (decide (x = .non))) H) (vS (.int i)) (vS .non) Φ := fun x y B H b p1 p2 Q q => by
  obtain rfl : x = .int i := p1
  exact ⟨p2, q _ _ B H (.refl b) rfl k⟩
theorem R_isNb {i : Bool} {Φ : Slot → Prop} (k : Φ (vS (.bl false))) : R (fun x y H Q => y = .non ∧ Q (.bl (decide (x = .non))) H) (vS (.bl i)) (vS .non) Φ := fun x y B H b p1 p2 Q q => by
  obtain rfl : x = .bl i := p1
  exact ⟨p2, q _ _ B H (.refl b) rfl k⟩
theorem R_isNn {Φ : Slot → Prop} (k : Φ (vS (.bl true))) : R (fun x y H Q => y = .non ∧ Q (.bl (decide (x = .non))) H) (vS .non) (vS .non) Φ := fun x y B H b p1 p2 Q q => by
  obtain rfl : x = .non := p1
  exact ⟨p2, q _ _ B H (.refl b) rfl k⟩
theorem R_isNt {ss : List Slot} {Φ : Slot → Prop} (k : Φ (vS (.bl false))) : R (fun x y H Q => y = .non ∧ Q (.bl (decide (x = .non))) H) (tupS K ss) (vS .non) Φ := fun x y B H b p1 p2 Q q => by
  obtain ⟨a, vs, rfl, _⟩ := p1
  exact ⟨p2, q _ _ B H (.refl b) rfl k⟩
theorem clsLT : Paired ClsV [V.ty "list", V.ty "tuple"] [Value.type "list", Value.type "tuple"] := .cons (.ty _) (.cons (.ty _) .nil)
theorem kitLT {t : String} {b1 b2 : Bool} (h1 : kitB t "list" = some b1) (h2 : kitB t "tuple" = some b2) : PySem.W.kitAny K (.type t) [Value.type "list", Value.type "tuple"] = some (b1 || b2) := by
  unfold PySem.W.kitAny
  rw [kit_ty h1]
  cases b1 with
  | true => rfl
  | false =>
    show PySem.W.kitAny K (.type t) [Value.type "tuple"] = some (false || b2)
    unfold PySem.W.kitAny
    rw [kit_ty h2]
    cases b2 <;> rfl
local macro_rules | `(tactic| walk_at "isi") => `(tactic| first
  | (refine C_isi (b := true) (ty_int _) (.ty _) (kit_ty (by decide +kernel)) ?_)
  | (refine C_isi (b := false) (ty_int _) (.ty _) (kit_ty (by decide +kernel)) ?_)
  | (refine C_isi (b := true) (ty_bl _) (.ty _) (kit_ty (by decide +kernel)) ?_)
  | (refine C_isi (b := false) (ty_bl _) (.ty _) (kit_ty (by decide +kernel)) ?_)
  | (refine C_isi (b := true) ty_non (.ty _) (kit_ty (by decide +kernel)) ?_)
  | (refine C_isi (b := false) ty_non (.ty _) (kit_ty (by decide +kernel)) ?_)
  | (refine C_isi (b := true) ty_tup (.ty _) (kit_ty (by decide +kernel)) ?_)
  | (refine C_isi (b := false) ty_tup (.ty _) (kit_ty (by decide +kernel)) ?_)
  | (refine C_isiT (ty_int _) clsLT (kitLT (b1 := false) (b2 := false) (by decide +kernel) (by decide +kernel)) ?_)
  | (refine C_isiT (ty_int _) clsLT (kitLT (b1 := false) (b2 := true) (by decide +kernel) (by decide +kernel)) ?_)
  | (refine C_isiT (ty_bl _) clsLT (kitLT (b1 := false) (b2 := false) (by decide +kernel) (by decide +kernel)) ?_)
  | (refine C_isiT (ty_bl _) clsLT (kitLT (b1 := false) (b2 := true) (by decide +kernel) (by decide +kernel)) ?_)
  | (refine C_isiT ty_tup clsLT (kitLT (b1 := false) (b2 := false) (by decide +kernel) (by decide +kernel)) ?_)
  | (refine C_isiT ty_tup clsLT (kitLT (b1 := false) (b2 := true) (by decide +kernel) (by decide +kernel)) ?_))
theorem like_gen (T : Tx K mg) {j : Nat} {F' : FS} (G : FnOk P w K mg base CX0 j T.llike.f T.llike.fd p_llike (spOf F')) : FnOk P w K mg base CX0 (j + 1) T.llike.f T.llike.fd p_llike (spOf (F_likeG K F')) := by
  refine ok0 T.llike.F sc_llike (by
    intro ss Φ Ψ h
    rcases h with ⟨_, e, _⟩ | ⟨_, e, _⟩ <;> (rw [e]; rfl)) (fun cdv Ar outer s H Er hr => ⟨_, (pss_cons (ps_if (PW.pt (pw_or (pt_cmpR op_isN (pv 1) pe_non (nomark _)) (pw_or1 (pt_cmpR op_isN (pv 0) pe_non (nomark _)))))
  (pss_one (ps_ret (pe_and (pe_cmpR op_isN (pv 1) pe_non (nomark _)) (pe_one (pe_cmpR op_isN (pv 0) pe_non (nomark _))))))
  pss_nil)
  (pss_cons (ps_if (pt_val (pe_callB call_isiT (by rfl) T.isinstance (by decide +kernel) (pa_cons (pv 1) (pa_cons (pe_tup (pa_cons (pe_bltn (by rfl) T.list (by decide +kernel) (rel_ty "list")) (pa_cons (pe_bltn (by rfl) T.tuple (by decide +kernel) (rel_ty "tuple")) pa_nil))) pa_nil))))
  (pss_cons (ps_if (PW.pt (pw_or (pt_cmpR op_ne (pe_callB call_isi (by rfl) T.isinstance (by decide +kernel) (pa_cons (pv 0) (pa_cons (pe_bltn (by rfl) T.list (by decide +kernel) (rel_ty "list")) pa_nil))) (pe_callB call_isi (by rfl) T.isinstance (by decide +kernel) (pa_cons (pv 1) (pa_cons (pe_bltn (by rfl) T.list (by decide +kernel) (rel_ty "list")) pa_nil))) (nomark _)) (pw_or1 (pt_cmpR op_ne (pe_callB call_isi (by rfl) T.isinstance (by decide +kernel) (pa_cons (pv 0) (pa_cons (pe_bltn (by rfl) T.tuple (by decide +kernel) (rel_ty "tuple")) pa_nil))) (pe_callB call_isi (by rfl) T.isinstance (by decide +kernel) (pa_cons (pv 1) (pa_cons (pe_bltn (by rfl) T.tuple (by decide +kernel) (rel_ty "tuple")) pa_nil))) (nomark _)))))
  (pss_one (ps_ret pe_bl))
  pss_nil)
  (pss_one (ps_ret (pe_and (pe_cmpR op_eq (pe_callB call_len_seq (by rfl) T.len PySem.boot_len (pa_cons (pv 0) pa_nil)) (pe_callB call_len_seq (by rfl) T.len PySem.boot_len (pa_cons (pv 1) pa_nil)) (nomark _)) (pe_one (pe_callB (cr_all rfl) (by rfl) T.all (by decide +kernel) (pa_cons (pe_lc (own := [("a", 2), ("b", 3)]) (g := (gTup K 2 (gCons (gName 2) (gCons (gName 3) gNil)))) (tt := tYes) (by rfl) sc_llike.nd (RZ.pi_zipA (by rfl) T.zip (pa_cons (pv 0) (pa_cons (pv 1) pa_nil))) (blkOk_by (own := [("a", 2), ("b", 3)]) (N := n_llike) (sc := defScope s_llike) (by decide +kernel)) (fun _ _ _ _ _ => (pg_tup rfl (pgs_cons (pg_name (i := 2) sc_llike.nd rfl (Or.inl rfl) (Or.inr rfl)) (pgs_cons (pg_name (i := 3) sc_llike.nd rfl (Or.inl rfl) (Or.inr rfl)) pgs_nil)))) (fun _ _ _ _ _ => pts_nil) (fun _ _ _ _ _ => (pe_call G hr rfl T.llike.g T.llike.F.kp T.llike.b .nil pass0 (pa_cons (pv 2) (pa_cons (pv 3) pa_nil))))) pa_nil)))))))
  pss_nil)
  (pss_cons (ps_if (PW.pt (pw_or (pt_cmpR op_ne (pe_callB call_isi (by rfl) T.isinstance (by decide +kernel) (pa_cons (pv 1) (pa_cons (pe_bltn (by rfl) T.bool (by decide +kernel) (rel_ty "bool")) pa_nil))) (pe_callB call_isi (by rfl) T.isinstance (by decide +kernel) (pa_cons (pv 0) (pa_cons (pe_bltn (by rfl) T.bool (by decide +kernel) (rel_ty "bool")) pa_nil))) (nomark _)) (pw_or1 (pt_cmpR op_ne (pe_callB call_isi (by rfl) T.isinstance (by decide +kernel) (pa_cons (pv 1) (pa_cons (pe_bltn (by rfl) T.int (by decide +kernel) (rel_ty "int")) pa_nil))) (pe_callB call_isi (by rfl) T.isinstance (by decide +kernel) (pa_cons (pv 0) (pa_cons (pe_bltn (by rfl) T.int (by decide +kernel) (rel_ty "int")) pa_nil))) (nomark _)))))
  (pss_one (ps_ret pe_bl))
  pss_nil)
  (pss_one (ps_ret (pe_and (pe_cmpR op_eq (pe_callB call_isi (by rfl) T.isinstance (by decide +kernel) (pa_cons (pv 0) (pa_cons (pe_bltn (by rfl) T.str (by decide +kernel) (rel_ty "str")) pa_nil))) (pe_callB call_isi (by rfl) T.isinstance (by decide +kernel) (pa_cons (pv 1) (pa_cons (pe_bltn (by rfl) T.str (by decide +kernel) (rel_ty "str")) pa_nil))) (nomark _)) (pe_one (pe_cmpR (op_eqD hr.units) (pv 0) (pv 1) (nomark _))))))))), fun ss Φ Ψ h => ?_⟩)
  rcases h with ⟨v, rfl, hv, k⟩ | ⟨q, rfl, hF, k⟩
  · rcases hv with rfl | ⟨i, rfl⟩ | ⟨b, rfl⟩
    · repeat' first | (refine R_neSame rfl ?_) | (refine R_eqSame rfl ?_) | (refine R_isNi ?_) | (refine R_isNb ?_) | (refine R_isNn ?_) | walk_at "ab" | fail
      exact k
    · repeat' first | (refine R_neSame rfl ?_) | (refine R_eqSame rfl ?_) | (refine R_isNi ?_) | (refine R_isNb ?_) | (refine R_isNn ?_) | (with_reducible refine E_tupC (cs := [.ty "list", .ty "tuple"]) ?_) | walk_at "ab" | (refine ⟨rfl, by decide, ?_⟩) | walk_at "isi" | (refine R_eqDs (dp_int _) rfl rfl ?_) | fail
      exact k
    · repeat' first | (refine R_neSame rfl ?_) | (refine R_eqSame rfl ?_) | (refine R_isNi ?_) | (refine R_isNb ?_) | (refine R_isNn ?_) | (with_reducible refine E_tupC (cs := [.ty "list", .ty "tuple"]) ?_) | walk_at "ab" | (refine ⟨rfl, by decide, ?_⟩) | walk_at "isi" | (refine R_eqDs (dp_bl _) rfl rfl ?_) | fail
      exact k
  · repeat' first | (refine R_neSame rfl ?_) | (refine R_eqSame rfl ?_) | (refine R_isNt ?_) | (refine C_len _ 2 ⟨.inr rfl, rfl⟩ ?_) | (with_reducible refine E_tupC (cs := [.ty "list", .ty "tuple"]) ?_) | walk_at "ab" | (refine ⟨rfl, by decide, ?_⟩) | walk_at "isi" | fail
    refine E_lcZT [(vS (.int q.num), vS (.int q.num)), (vS (.int q.den), vS (.int q.den))] (fun _ => vS (.bl true)) ?_ (by show 2 ≤ 50000; decide) ?_ ?_
    · repeat' first | walk_at "ab" | fail
      rfl
    · intro x hx
      obtain ⟨i, rfl⟩ : ∃ i : Int, x = (vS (.int i), vS (.int i)) := by
        rcases List.mem_cons.mp hx with rfl | hx
        · exact ⟨_, rfl⟩
        · rcases List.mem_cons.mp hx with rfl | hx
          · exact ⟨_, rfl⟩
          · cases hx
      refine G_tup rfl (G_cons (G_name (by decide) (G_cons (G_name (by decide) (G_nil ?_)))))
      refine T_yes ⟨rfl, fun _ => ?_⟩
      repeat' first | walk_at "ab" | fail
      exact hF i _ rfl
    · repeat' first | walk_at "ab" | (refine C_all [true, true] rfl ?_) | fail
      exact k
def F_like (K : PySem.W.Frag) : FS := fun ss Φ Ψ => F_like0 ss Φ Ψ ∨ ∃ q : Rat, ss = [ratS K q, ratS K q] ∧ Φ (vS (.bl true))
theorem ok_llike (T : Tx K mg) : FnOk P w K mg base CX0 2 T.llike.f T.llike.fd p_llike (spOf (F_like K)) := by
  have G0 : FnOk P w K mg base CX0 0 T.llike.f T.llike.fd p_llike (spOf fun _ _ _ => False) := ⟨fun vs H Q E ⟨_, _, _, _, _, _, h, _⟩ => h.elim, fun _ _ _ _ _ _ _ _ _ _ _ _ _ ⟨_, _, _, _, _, _, h, _⟩ => h.elim⟩
  have G1 := like_gen T G0
  refine (like_gen T G1).imp fun vs H Q E ⟨B, ss, Φ, Ψ, b, p, h, k1, k2⟩ => ⟨B, ss, Φ, Ψ, b, p, ?_, k1, k2⟩
  rcases h with h | ⟨q, e, k⟩
  · exact .inl h
  · exact .inr ⟨q, e, fun i Φ' k' => .inl ⟨.int i, rfl, .inr (.inl ⟨i, rfl⟩), k'⟩, k⟩
/-! ### holds -/
local macro_rules | `(tactic| walk_at "fld") => `(tactic| (refine ⟨_, _, _, rfl, Tx.cl ‹_›, ?_, rfl, ?_⟩; (first | exact Tx.nLow ‹_› | exact Tx.nHigh ‹_›)))
local macro_rules | `(tactic| walk_at "like") => `(tactic| ((with_reducible show F_like _ _ _ _); (first | (refine .inr ⟨_, rfl, ?_⟩) | (refine .inl ⟨_, rfl, .inl rfl, ?_⟩) | (refine .inl ⟨_, rfl, .inr (.inr ⟨_, rfl⟩), ?_⟩) | (refine .inl ⟨_, rfl, .inr (.inl ⟨_, rfl⟩), ?_⟩))))
theorem all_eq {α : Type} (xs : List α) : [lstS ((xs.filter fun _ => true).map fun _ => vS (.bl true))] = [lstS ((xs.map fun _ => true).map fun b => vS (.bl b))] := by
  rw [List.filter_eq_self.mpr (fun _ _ => rfl), List.map_map]
  rfl
def r13 : Rat := ⟨1, 3, by decide, by decide⟩
def rG : Rat := ⟨1, 1000000000, by decide, by decide⟩
theorem sz13 : Sz 2 2 r13 := ⟨by decide, by decide⟩
theorem szG : Sz 2 30 rG := ⟨by decide, by decide⟩
theorem r13_pos : 0 < r13 := by decide +kernel
theorem rG_pos : 0 < rG := by decide +kernel
theorem ok_lholds (T : Tx K mg) : FnOk P w K mg base CX0 4 T.lholds.f T.lholds.fd p_lholds (spOf ((fun ss Φ _ => ∃ (a b : Rat) (xs : List Rat), ss = [spanS K T.C a b, tupS K [ratS K a, ratS K b], lstS (xs.map (ratS K))] ∧ a ≤ b ∧ Be a ∧ Be b ∧ xs.length ≤ 100 ∧ (∀ x ∈ xs, a ≤ x ∧ x ≤ b ∧ Bq x) ∧ Φ (vS (.bl true))))) := by
  refine ok0 T.lholds.F sc_lholds (by intro ss Φ Ψ h; revert h; walk_at "len") (fun cdv Ar outer s H Er hr => ⟨_, (pss_cons (ps_if (PW.pt (pw_or (pt_not (pt_val (pe_callB call_isi (by rfl) T.isinstance (by decide +kernel) (pa_cons (pv 0) (pa_cons (pe_glob rfl T.gSpan (rel_ref _)) pa_nil))))) (pw_or (pt_not (pt_val (pe_call (ok_llike T) (hr.mono (by decide)) rfl T.llike.g T.llike.F.kp T.llike.b .nil pass0 (pa_cons (pe_fld (pv 0) rfl) (pa_cons (pe_ix ix_tup (pv 1) pe_int (fun _ _ => rfl)) pa_nil))))) (pw_or1 (pt_not (pt_val (pe_call (ok_llike T) (hr.mono (by decide)) rfl T.llike.g T.llike.F.kp T.llike.b .nil pass0 (pa_cons (pe_fld (pv 0) rfl) (pa_cons (pe_ix ix_tup (pv 1) pe_int (fun _ _ => rfl)) pa_nil)))))))))
  (pss_one (ps_ret pe_bl))
  pss_nil)
  (pss_cons (ps_set (i := 3) sc_lholds.nd rfl (by first | exact Or.inl rfl | exact Or.inr rfl) (pe_lst (pa_cons (pe_call (ok_lminus T) (hr.mono (by decide)) rfl T.lminus.g T.lminus.F.kp T.lminus.b .nil pass0 (pa_cons (pe_ix ix_tup (pv 1) pe_int (fun _ _ => rfl)) (pa_cons (pe_tup (pa_cons pe_int (pa_cons pe_int pa_nil))) pa_nil))) (pa_cons (pe_call (ok_lplus T) (hr.mono (by decide)) rfl T.lplus.g T.lplus.F.kp T.lplus.b .nil pass0 (pa_cons (pe_ix ix_tup (pv 1) pe_int (fun _ _ => rfl)) (pa_cons (pe_tup (pa_cons pe_int (pa_cons (pe_op op_pow pe_int pe_int) pa_nil))) pa_nil))) pa_nil))))
  (pss_one (ps_ret (pe_and (pe_callB (cr_all rfl) (by rfl) T.all (by decide +kernel) (pa_cons (pe_lc (own := [("one", 4)]) (g := (gName 4)) (tt := tYes) (by rfl) sc_lholds.nd (pi_list (pv 2)) (blkOk_by (own := [("one", 4)]) (N := n_lholds) (sc := defScope s_lholds) (by decide +kernel)) (fun _ _ _ _ _ => (pg_name (i := 4) sc_lholds.nd rfl (Or.inl rfl) (Or.inr rfl))) (fun _ _ _ _ _ => pts_nil) (fun _ _ _ _ _ => (pe_cmpR (op_ownIn (ok_Span_Dcontains T) (hr.mono (by decide)) T.Span_Dcontains.s T.Span_Dcontains.i T.Span_Dcontains.b pass0) (pv 4) (pv 0) (by rfl)))) pa_nil)) (pe_one (pe_not (pe_callB (cr_any rfl) (by rfl) T.any (by decide +kernel) (pa_cons (pe_lc (own := [("one", 4)]) (g := (gName 4)) (tt := tYes) (by rfl) sc_lholds.nd (pi_list (pv 3)) (blkOk_by (own := [("one", 4)]) (N := n_lholds) (sc := defScope s_lholds) (by decide +kernel)) (fun _ _ _ _ _ => (pg_name (i := 4) sc_lholds.nd rfl (Or.inl rfl) (Or.inr rfl))) (fun _ _ _ _ _ => pts_nil) (fun _ _ _ _ _ => (pe_cmpR (op_ownIn (ok_Span_Dcontains T) (hr.mono (by decide)) T.Span_Dcontains.s T.Span_Dcontains.i T.Span_Dcontains.b pass0) (pv 4) (pv 0) (by rfl)))) pa_nil))))))))), fun ss Φ Ψ h => ?_⟩)
  obtain ⟨a, b, xs, rfl, hab, ha, hb, hlen, hall, k⟩ := h
  have e9 : (10 : Int) ^ (9 : Int).toNat = 1000000000 := by decide
  have q1 : Bq (a - r13) := sz_sub ha sz13 (by decide) (by decide) (by decide) (by decide)
  have q2 : Bq (b + rG) := sz_add hb szG (by decide) (by decide) (by decide) (by decide)
  have p1 := r13_pos
  have p2 := rG_pos
  repeat' first | walk_at "like" | walk_at "ab" | walk_at "fld" | ((with_reducible show F2 _ (· - ·) _ _ _); refine ⟨_, r13, rfl, ha.q, sz13.mono (by decide) (by decide), ?_⟩) | ((with_reducible show F2 _ (· + ·) _ _ _); refine ⟨_, rG, by rw [e9]; rfl, hb.q, szG.mono (by decide) (by decide), ?_⟩) | (refine C_isi (ty_span T a b) (.own _) kit_self ?_) | exact ⟨by decide, by decide, by decide⟩ | (refine E_lcL xs (ratS K) (fun _ => vS (.bl true)) (fun _ => true) (E_var rfl rfl) (by omega) ?_ ?_) | (refine E_lcL [a - r13, b + rG] (ratS K) (fun _ => vS (.bl false)) (fun _ => true) (E_var rfl rfl) (by show 2 ≤ _; decide) ?_ ?_) | (refine C_all (xs.map fun _ => true) (all_eq xs) ?_) | (refine C_any [false, false] rfl ?_) | fail
  · intro x hx
    obtain ⟨h1, h2, h3⟩ := hall x hx
    refine G_name (by decide) (T_yes ⟨rfl, fun _ => ?_⟩)
    repeat' first | walk_at "ab" | fail
    refine R_ownIn rfl ⟨a, b, x, rfl, ha, hb, h3, _, rfl, ?_⟩
    rw [decide_eq_true ⟨h1, h2⟩]
  · intro x hx
    have hq : Bq x := by
      rcases List.mem_cons.mp hx with rfl | hx
      · exact q1
      · rcases List.mem_cons.mp hx with rfl | hx
        · exact q2
        · cases hx
    have hd : decide (a ≤ x ∧ x ≤ b) = false := by
      apply decide_eq_false
      rcases List.mem_cons.mp hx with rfl | hx
      · grind
      · rcases List.mem_cons.mp hx with rfl | hx
        · grind
        · cases hx
    refine G_name (by decide) (T_yes ⟨rfl, fun _ => ?_⟩)
    repeat' first | walk_at "ab" | fail
    refine R_ownIn rfl ⟨a, b, x, rfl, ha, hb, hq, _, rfl, ?_⟩
    rw [hd]
  · exact k
  · rename_i hc
    simp at hc
end
end K78

/-! K78F -/
namespace K78
open PySem PySem.Spec PyProof.Rows L2 Ab RatM

local macro_rules | `(tactic| walk_at "ab") => `(tactic| first
  | (with_reducible refine S_seq ?_) | (with_reducible refine S_ret ?_) | (with_reducible refine S_asg ?_) | (with_reducible refine S_if ?_) | (with_reducible refine S_next ?_) | (with_reducible refine S_par ?_) | (with_reducible refine S_drop ?_) | (with_reducible refine S_retN ?_)
  | (with_reducible refine E_c ?_) | (with_reducible refine E_op ?_) | (with_reducible refine E_un ?_) | (with_reducible refine E_tup (K := ‹PySem.W.Frag›) ?_) | (with_reducible refine E_lst ?_) | (with_reducible refine E_cb ?_) | (with_reducible refine E_if ?_)
  | (with_reducible refine E_fld ?_) | (with_reducible refine E_not ?_) | (with_reducible refine E_and ?_) | (with_reducible refine E_or ?_) | (with_reducible refine E_meth ?_) | (with_reducible refine E_make ?_)
  | (with_reducible refine A_cons ?_) | (with_reducible refine A_nil ?_) | (with_reducible refine E_call (dss := []) (fun _ => .nil) ?_)
  | (with_reducible refine T_test ?_) | (with_reducible refine T_B ?_) | (with_reducible refine T_not ?_) | (with_reducible refine T_and ?_) | (with_reducible refine T_or ?_)
  | (refine E_var rfl ?_) | (refine R_I0 ?_) | (refine R_ixT rfl ?_) | (refine R_ixL rfl ?_) | (refine R_eqI ?_) | (refine R_eqS ?_) | (refine R_neS ?_) | (refine R_eq rfl ?_) | (refine R_ne rfl ?_) | (refine U_I ?_) | (refine R_I ?_ ?_)
  | (refine C_gcd ?_) | (refine C_abs ?_) | (refine C_int ?_) | (refine C_intB ?_)
  | ((with_reducible show ∃ (s s' : Slot), _ = [s, s'] ∧ _); refine ⟨_, _, rfl, ?_⟩)
  | (refine ⟨_, rfl, ?_⟩)
  | (refine spl (fun h => ?_) (fun h => ?_)) | (refine splN (fun h => ?_) (fun h => ?_)) | (refine splT ?_) | (refine splF ?_) | (refine spl2 (fun h => ?_) (fun h => ?_))
  | (refine len_ok ?_) | fail)

local macro_rules | `(tactic| walk_at "len") => `(tactic| first
  | (rintro ⟨_, e, _⟩; rw [e]; rfl) | (rintro ⟨_, _, e, _⟩; rw [e]; rfl) | (rintro ⟨_, _, _, e, _⟩; rw [e]; rfl) | (rintro ⟨_, _, _, _, e, _⟩; rw [e]; rfl) | (rintro ⟨_, _, _, _, _, e, _⟩; rw [e]; rfl) | (rintro ⟨_, _, _, _, _, _, e, _⟩; rw [e]; rfl))
local macro_rules | `(tactic| walk_at "side") => `(tactic| first
  | assumption | exact Be.q (by assumption) | exact cmul (by assumption) (by assumption) | exact cmulD (by assumption) (by assumption) | exact cmulN (by assumption) (by assumption) | exact cmulX (by assumption) (by assumption))
local macro_rules | `(tactic| walk_at "call2") => `(tactic| ((first | (with_reducible show F2 _ _ _ _ _) | (with_reducible show F_less _ _ _ _)); refine ⟨_, _, rfl, ?_, ?_, ?_⟩; (walk_at "side"); (walk_at "side")))
local macro_rules | `(tactic| walk_at "fld") => `(tactic| (refine ⟨_, _, _, rfl, Tx.cl ‹_›, ?_, rfl, ?_⟩; (first | exact Tx.nLow ‹_› | exact Tx.nHigh ‹_›)))
local macro_rules | `(tactic| walk_at "like") => `(tactic| ((with_reducible show F_like _ _ _ _); (first | (refine .inr ⟨_, rfl, ?_⟩) | (refine .inl ⟨_, rfl, .inl rfl, ?_⟩) | (refine .inl ⟨_, rfl, .inr (.inr ⟨_, rfl⟩), ?_⟩) | (refine .inl ⟨_, rfl, .inr (.inl ⟨_, rfl⟩), ?_⟩))))
local macro_rules | `(tactic| walk_at "fs2") => `(tactic| ((with_reducible show FS2 _ _ _ _ _ _); refine ⟨_, _, _, _, rfl, ?_, ?_, ?_, ?_, ?_, ?_, ?_⟩; (walk_at "side"); (walk_at "side"); (walk_at "side"); (walk_at "side"); (walk_at "side"); (walk_at "side")))
local macro_rules | `(tactic| walk_at "recv") => `(tactic| ((refine ⟨_, rfl, ?hl, ?_⟩); (case hl => exact look_no (by decide +kernel) (by decide +kernel))))
section
variable {P : Program} {w : World} {K : PySem.W.Frag} {mg : Str → Option Value} {base : Heap}
def wayF (x : Str) (p q : Rat) : Rat := if x = "+" then p + q else if x = "-" then p - q else if x = "*" then p * q else if x = "/" then p / q else if x = "max" then mx p q else mn p q
theorem ok_lways (T : Tx K mg) : FnOk P w K mg base CX0 3 T.lways.f T.lways.fd p_lways (spOf ((fun ss Φ _ => ∃ (x : Str) (p q : Rat), ss = [vS (.str x), ratS K p, ratS K q] ∧ Bq p ∧ Bq q ∧ Φ (ratS K (wayF x p q))))) := by
  refine ok0 T.lways.F sc_lways (by intro ss Φ Ψ h; revert h; walk_at "len") (fun cdv Ar outer s H Er hr => ⟨_, (pss_cons (ps_if (pt_cmpR op_eq (pv 0) pe_str (nomark _))
  (pss_one (ps_ret (pe_call (ok_lplus T) (hr.mono (by decide)) rfl T.lplus.g T.lplus.F.kp T.lplus.b .nil pass0 (pa_cons (pv 1) (pa_cons (pv 2) pa_nil)))))
  pss_nil)
  (pss_cons (ps_if (pt_cmpR op_eq (pv 0) pe_str (nomark _))
  (pss_one (ps_ret (pe_call (ok_lminus T) (hr.mono (by decide)) rfl T.lminus.g T.lminus.F.kp T.lminus.b .nil pass0 (pa_cons (pv 1) (pa_cons (pv 2) pa_nil)))))
  pss_nil)
  (pss_cons (ps_if (pt_cmpR op_eq (pv 0) pe_str (nomark _))
  (pss_one (ps_ret (pe_call (ok_ltimes T) (hr.mono (by decide)) rfl T.ltimes.g T.ltimes.F.kp T.ltimes.b .nil pass0 (pa_cons (pv 1) (pa_cons (pv 2) pa_nil)))))
  pss_nil)
  (pss_cons (ps_if (pt_cmpR op_eq (pv 0) pe_str (nomark _))
  (pss_one (ps_ret (pe_call (ok_lpart T) (hr.mono (by decide)) rfl T.lpart.g T.lpart.F.kp T.lpart.b .nil pass0 (pa_cons (pv 1) (pa_cons (pv 2) pa_nil)))))
  pss_nil)
  (pss_one (ps_ret (pe_ix ix_tup (pe_call (ok_lleast T) (hr.mono (by decide)) rfl T.lleast.g T.lleast.F.kp T.lleast.b .nil pass0 (pa_cons (pe_lst (pa_cons (pv 1) (pa_cons (pv 2) pa_nil))) pa_nil)) (pe_callTy call_int1 (by rfl) T.int (by decide +kernel) (pa_cons (pe_cmpR op_eq (pv 0) pe_str (nomark _)) pa_nil)) (fun _ _ => rfl)))))))), fun ss Φ Ψ h => ?_⟩)
  obtain ⟨x, p, q, rfl, hp, hq, k⟩ := h
  unfold wayF at k
  repeat' first | walk_at "call2" | walk_at "ab" | fail
  · rename_i h1; rw [if_pos h1] at k; exact k
  · rename_i h1 h2; rw [if_neg h1, if_pos h2] at k; exact k
  · rename_i h1 h2 h3; rw [if_neg h1, if_neg h2, if_pos h3] at k; exact k
  · rename_i h1 h2 h3 h4; rw [if_neg h1, if_neg h2, if_neg h3, if_pos h4] at k; exact k
  · rename_i h1 h2 h3 h4
    rw [if_neg h1, if_neg h2, if_neg h3, if_neg h4] at k
    refine ⟨[p, q], mn p q, mx p q, rfl, ?_, ?_, ?_, ?_⟩
    · unfold mn; split <;> simp
    · unfold mx; split <;> simp
    · intro y hy
      have hb : Bq y := by
        rcases List.mem_cons.mp hy with rfl | hy
        · exact hp
        · rcases List.mem_cons.mp hy with rfl | hy
          · exact hq
          · cases hy
      refine ⟨?_, ?_, hb⟩ <;>
      · first | unfold mn | unfold mx
        simp only [List.mem_cons, List.not_mem_nil, or_false] at hy
        rcases hy with rfl | rfl <;> split <;> grind
    · repeat' first | walk_at "ab" | fail
      by_cases h5 : x = "max"
      · rw [if_pos h5] at k
        rw [decide_eq_true h5]
        exact R_ixT (i := 1) rfl k
      · rw [if_neg h5] at k
        rw [decide_eq_false h5]
        exact R_ixT (i := 0) rfl k
def callF (x : Str) (a b c d : Rat) : Option (Rat × Rat) := if x = "+" then some (a + c, b + d) else if x = "-" then some (a - d, b - c) else if x = "*" then some (mn (mn (a * c) (a * d)) (mn (b * c) (b * d)), mx (mx (a * c) (a * d)) (mx (b * c) (b * d)))
  else if x = "/" then overB a b c d else if x = "min" then some (mn a c, mn b d) else some (mx a c, mx b d)
theorem ok_lcalled (T : Tx K mg) : FnOk P w K mg base CX0 7 T.lcalled.f T.lcalled.fd p_lcalled (spOf ((fun ss Φ _ => ∃ (x : Str) (a b c d : Rat), ss = [vS (.str x), spanS K T.C a b, spanS K T.C c d] ∧ a ≤ b ∧ c ≤ d ∧ Be a ∧ Be b ∧ Be c ∧ Be d ∧ Φ (optS K T.C (callF x a b c d))))) := by
  refine ok0 T.lcalled.F sc_lcalled (by intro ss Φ Ψ h; revert h; walk_at "len") (fun cdv Ar outer s H Er hr => ⟨_, (pss_cons (ps_if (pt_cmpR op_eq (pv 0) pe_str (nomark _))
  (pss_one (ps_ret (pe_op (op_ownB (ok_Span_Dadd T) (hr.mono (by decide)) T.sfSpan T.Span_Dadd.s T.Span_Dadd.i T.Span_Dadd.b pass0) (pv 1) (pv 2))))
  pss_nil)
  (pss_cons (ps_if (pt_cmpR op_eq (pv 0) pe_str (nomark _))
  (pss_one (ps_ret (pe_op (op_ownB (ok_Span_Dsub T) (hr.mono (by decide)) T.sfSpan T.Span_Dsub.s T.Span_Dsub.i T.Span_Dsub.b pass0) (pv 1) (pv 2))))
  pss_nil)
  (pss_cons (ps_if (pt_cmpR op_eq (pv 0) pe_str (nomark _))
  (pss_one (ps_ret (pe_op (op_ownB (ok_Span_Dmul T) (hr.mono (by decide)) T.sfSpan T.Span_Dmul.s T.Span_Dmul.i T.Span_Dmul.b pass0) (pv 1) (pv 2))))
  pss_nil)
  (pss_cons (ps_if (pt_cmpR op_eq (pv 0) pe_str (nomark _))
  (pss_one (ps_ret (pe_meth (pv 1) T.cl_Span T.Span_over.m (ok_Span_over T) (hr.mono (by decide)) T.Span_over.b .nil pass0 (pa_cons (pv 2) pa_nil))))
  pss_nil)
  (pss_one (ps_ret (pe_ifExp (pt_cmpR op_eq (pv 0) pe_str (nomark _)) (pe_meth (pv 1) T.cl_Span T.Span_least.m (ok_Span_least T) (hr.mono (by decide)) T.Span_least.b .nil pass0 (pa_cons (pv 2) pa_nil)) (pe_meth (pv 1) T.cl_Span T.Span_greatest.m (ok_Span_greatest T) (hr.mono (by decide)) T.Span_greatest.b .nil pass0 (pa_cons (pv 2) pa_nil))))))))), fun ss Φ Ψ h => ?_⟩)
  obtain ⟨x, a, b, c, d, rfl, hab, hcd, ha, hb, hc, hd, k⟩ := h
  unfold callF at k
  repeat' first | walk_at "recv" | walk_at "fs2" | walk_at "ab" | (refine R_ownB rfl rfl ?_) | fail
  · rename_i h1; rw [if_pos h1] at k; exact k
  · rename_i h1 h2; rw [if_neg h1, if_pos h2] at k; exact k
  · rename_i h1 h2 h3; rw [if_neg h1, if_neg h2, if_pos h3] at k; exact k
  · rename_i h1 h2 h3 h4; rw [if_neg h1, if_neg h2, if_neg h3, if_pos h4] at k; exact k
  · rename_i h1 h2 h3 h4 h5; rw [if_neg h1, if_neg h2, if_neg h3, if_neg h4, if_pos h5] at k; exact k
  · rename_i h1 h2 h3 h4 h5; rw [if_neg h1, if_neg h2, if_neg h3, if_neg h4, if_neg h5] at k; exact k
def agreeB (bs : List Bool) : Option Bool := if bs.all id = true then some true else if bs.any id = true then none else some false
theorem ok_lagree (T : Tx K mg) : FnOk P w K mg base CX0 1 T.lagree.f T.lagree.fd p_lagree (spOf ((fun ss Φ _ => ∃ bs : List Bool, ss = [lstS (bs.map fun b => vS (.bl b))] ∧ Φ (obS (agreeB bs))))) := by
  refine ok0 T.lagree.F sc_lagree (by intro ss Φ Ψ h; revert h; walk_at "len") (fun cdv Ar outer s H Er hr => ⟨_, (pss_cons (ps_if (pt_val (pe_callB (cr_all rfl) (by rfl) T.all (by decide +kernel) (pa_cons (pv 0) pa_nil)))
  (pss_one (ps_ret pe_bl))
  pss_nil)
  (pss_one (ps_ret (pe_ifExp (pt_val (pe_callB (cr_any rfl) (by rfl) T.any (by decide +kernel) (pa_cons (pv 0) pa_nil))) pe_non pe_bl)))), fun ss Φ Ψ h => ?_⟩)
  obtain ⟨bs, rfl, k⟩ := h
  unfold agreeB at k
  repeat' first | walk_at "ab" | (refine C_all bs rfl ?_) | (refine C_any bs rfl ?_) | fail
  · rename_i h1; rw [if_pos h1] at k; exact k
  · rename_i h1 h2; rw [if_neg (by rw [h1]; decide), if_pos h2] at k; exact k
  · rename_i h1 h2; rw [if_neg (by rw [h1]; decide), if_neg (by rw [h2]; decide)] at k; exact k
theorem ok_lsame (T : Tx K mg) : FnOk P w K mg base CX0 2 T.lsame.f T.lsame.fd p_lsame (spOf ((fun ss Φ _ => ∃ a b c d : Rat, ss = [tupS K [ratS K a, ratS K b], tupS K [ratS K c, ratS K d]] ∧ Bq a ∧ Bq b ∧ Bq c ∧ Bq d ∧ Φ (obS (sameB a b c d))))) := by
  refine ok0 T.lsame.F sc_lsame (by intro ss Φ Ψ h; revert h; walk_at "len") (fun cdv Ar outer s H Er hr => ⟨_, (pss_cons (ps_if (PW.pt (pw_or (pt_val (pe_call (ok_lless T) (hr.mono (by decide)) rfl T.lless.g T.lless.F.kp T.lless.b .nil pass0 (pa_cons (pe_ix ix_tup (pv 0) pe_int (fun _ _ => rfl)) (pa_cons (pe_ix ix_tup (pv 1) pe_int (fun _ _ => rfl)) pa_nil)))) (pw_or1 (pt_val (pe_call (ok_lless T) (hr.mono (by decide)) rfl T.lless.g T.lless.F.kp T.lless.b .nil pass0 (pa_cons (pe_ix ix_tup (pv 1) pe_int (fun _ _ => rfl)) (pa_cons (pe_ix ix_tup (pv 0) pe_int (fun _ _ => rfl)) pa_nil)))))))
  (pss_one (ps_ret pe_bl))
  pss_nil)
  (pss_one (ps_ret (pe_ifExp (PW.pt (pw_and (pt_cmpR (op_eqD hr.units) (pe_ix ix_tup (pv 0) pe_int (fun _ _ => rfl)) (pe_ix ix_tup (pv 0) pe_int (fun _ _ => rfl)) (nomark _)) (pw_and1 (pt_cmpR (op_eqD hr.units) (pe_ix ix_tup (pv 1) pe_int (fun _ _ => rfl)) (pe_ix ix_tup (pv 1) pe_int (fun _ _ => rfl)) (nomark _))))) pe_bl pe_non)))), fun ss Φ Ψ h => ?_⟩)
  obtain ⟨a, b, c, d, rfl, ha, hb, hc, hd, k⟩ := h
  unfold sameB at k
  repeat' first | walk_at "call2" | walk_at "ab" | (refine R_eqR ?_) | fail
  · rename_i h1; rw [if_pos (.inl h1)] at k; exact k
  · rename_i h1 h2; rw [if_pos (.inr h2)] at k; exact k
  all_goals simp_all [obS]
end
end K78

/-! K78N -/
/-! The mathematics of spans: what an operator's four corners hold. -/
namespace K78
open PySem PySem.Spec PyProof.Rows L2 Ab RatM
theorem lin {a b p q : Rat} (h1 : a ≤ p) (h2 : p ≤ b) : (a * q ≤ p * q ∧ p * q ≤ b * q) ∨ (b * q ≤ p * q ∧ p * q ≤ a * q) := by
  rcases Rat.le_total (a := 0) (b := q) with hq | hq
  · exact .inl ⟨Rat.mul_le_mul_of_nonneg_right h1 hq, Rat.mul_le_mul_of_nonneg_right h2 hq⟩
  · have hn : 0 ≤ -q := by grind
    have e1 := Rat.mul_le_mul_of_nonneg_right h1 hn
    have e2 := Rat.mul_le_mul_of_nonneg_right h2 hn
    refine .inr ⟨?_, ?_⟩ <;> grind
def m4 (a b c d : Rat) : Rat := mn (mn a b) (mn c d)
def x4 (a b c d : Rat) : Rat := mx (mx a b) (mx c d)
theorem m4_mem (a b c d : Rat) : m4 a b c d ∈ [a, b, c, d] := by
  unfold m4 mn
  simp only [List.mem_cons, List.not_mem_nil, or_false]
  grind
theorem x4_mem (a b c d : Rat) : x4 a b c d ∈ [a, b, c, d] := by
  unfold x4 mx
  simp only [List.mem_cons, List.not_mem_nil, or_false]
  grind
theorem m4_le (a b c d : Rat) : m4 a b c d ≤ a ∧ m4 a b c d ≤ b ∧ m4 a b c d ≤ c ∧ m4 a b c d ≤ d := by
  unfold m4 mn
  grind
theorem x4_ge (a b c d : Rat) : a ≤ x4 a b c d ∧ b ≤ x4 a b c d ∧ c ≤ x4 a b c d ∧ d ≤ x4 a b c d := by
  unfold x4 mx
  grind
theorem mul_in {a b c d p q : Rat} (h1 : a ≤ p) (h2 : p ≤ b) (h3 : c ≤ q) (h4 : q ≤ d) : m4 (a * c) (a * d) (b * c) (b * d) ≤ p * q ∧ p * q ≤ x4 (a * c) (a * d) (b * c) (b * d) := by
  have e := lin (q := q) h1 h2
  have ea := lin (q := a) h3 h4
  have eb := lin (q := b) h3 h4
  have z1 := m4_le (a * c) (a * d) (b * c) (b * d)
  have z2 := x4_ge (a * c) (a * d) (b * c) (b * d)
  rw [Rat.mul_comm c a, Rat.mul_comm q a, Rat.mul_comm d a] at ea
  rw [Rat.mul_comm c b, Rat.mul_comm q b, Rat.mul_comm d b] at eb
  grind
theorem inv_anti {x y : Rat} (hx : 0 < x) (h : x ≤ y) : y⁻¹ ≤ x⁻¹ := by
  have hy : 0 < y := by grind
  have h0 : 0 < x⁻¹ * y⁻¹ := Rat.mul_pos (Rat.inv_pos.mpr hx) (Rat.inv_pos.mpr hy)
  have e := Rat.mul_le_mul_of_nonneg_right h (Rat.le_of_lt h0)
  have e1 : x * (x⁻¹ * y⁻¹) = y⁻¹ := by rw [← Rat.mul_assoc, Rat.mul_inv_cancel _ (by grind), Rat.one_mul]
  have e2 : y * (x⁻¹ * y⁻¹) = x⁻¹ := by rw [Rat.mul_comm x⁻¹, ← Rat.mul_assoc, Rat.mul_inv_cancel _ (by grind), Rat.one_mul]
  rw [e1, e2] at e
  exact e
theorem inv_neg' (x : Rat) : (-x)⁻¹ = -(x⁻¹) := by
  by_cases h : x = 0
  · subst h; rw [Rat.neg_zero, Rat.inv_zero, Rat.neg_zero]
  · exact Rat.inv_eq_of_mul_eq_one (by rw [Rat.neg_mul, Rat.mul_neg, Rat.neg_neg, Rat.mul_inv_cancel _ h])
theorem inv_in {c d q : Rat} (h3 : c ≤ q) (h4 : q ≤ d) (h : 0 < c ∨ d < 0) : d⁻¹ ≤ q⁻¹ ∧ q⁻¹ ≤ c⁻¹ := by
  rcases h with h | h
  · exact ⟨inv_anti (by grind) h4, inv_anti h h3⟩
  · have e1 := inv_anti (x := -d) (y := -q) (by grind) (by grind)
    have e2 := inv_anti (x := -q) (y := -c) (by grind) (by grind)
    rw [inv_neg', inv_neg'] at e1 e2
    constructor <;> grind
theorem div_in {a b c d p q : Rat} (h1 : a ≤ p) (h2 : p ≤ b) (h3 : c ≤ q) (h4 : q ≤ d) (h : 0 < c ∨ d < 0) : m4 (a / c) (a / d) (b / c) (b / d) ≤ p / q ∧ p / q ≤ x4 (a / c) (a / d) (b / c) (b / d) := by
  obtain ⟨i1, i2⟩ := inv_in h3 h4 h
  have e := mul_in h1 h2 i1 i2
  simp only [Rat.div_def]
  have z1 := m4_le (a * c⁻¹) (a * d⁻¹) (b * c⁻¹) (b * d⁻¹)
  have z2 := x4_ge (a * c⁻¹) (a * d⁻¹) (b * c⁻¹) (b * d⁻¹)
  have y1 := m4_mem (a * d⁻¹) (a * c⁻¹) (b * d⁻¹) (b * c⁻¹)
  have y2 := x4_mem (a * d⁻¹) (a * c⁻¹) (b * d⁻¹) (b * c⁻¹)
  simp only [List.mem_cons, List.not_mem_nil, or_false] at y1 y2
  constructor
  · rcases y1 with y | y | y | y <;> (rw [y] at e; grind)
  · rcases y2 with y | y | y | y <;> (rw [y] at e; grind)
theorem ne_w {x y : Str} (h : (x == y) = false) : ¬ x = y := fun e => by
  subst e
  rw [beq_self_eq_true] at h
  cases h
def words : List Str := ["+", "-", "*", "/", "min", "max"]
theorem cF1 (a b c d : Rat) : callF "+" a b c d = some (a + c, b + d) := by unfold callF; rw [if_pos rfl]
theorem cF2 (a b c d : Rat) : callF "-" a b c d = some (a - d, b - c) := by unfold callF; rw [if_neg (by decide +kernel), if_pos rfl]
theorem cF3 (a b c d : Rat) : callF "*" a b c d = some (m4 (a * c) (a * d) (b * c) (b * d), x4 (a * c) (a * d) (b * c) (b * d)) := by unfold callF; rw [if_neg (by decide +kernel), if_neg (by decide +kernel), if_pos rfl]; rfl
theorem cF4 (a b c d : Rat) : callF "/" a b c d = overB a b c d := by unfold callF; rw [if_neg (by decide +kernel), if_neg (by decide +kernel), if_neg (by decide +kernel), if_pos rfl]
theorem cF5 (a b c d : Rat) : callF "min" a b c d = some (mn a c, mn b d) := by unfold callF; rw [if_neg (by decide +kernel), if_neg (by decide +kernel), if_neg (by decide +kernel), if_neg (by decide +kernel), if_pos rfl]
theorem cF6 (a b c d : Rat) : callF "max" a b c d = some (mx a c, mx b d) := by unfold callF; rw [if_neg (by decide +kernel), if_neg (by decide +kernel), if_neg (by decide +kernel), if_neg (by decide +kernel), if_neg (by decide +kernel)]
theorem wF1 (p q : Rat) : wayF "+" p q = p + q := by unfold wayF; rw [if_pos rfl]
theorem wF2 (p q : Rat) : wayF "-" p q = p - q := by unfold wayF; rw [if_neg (by decide +kernel), if_pos rfl]
theorem wF3 (p q : Rat) : wayF "*" p q = p * q := by unfold wayF; rw [if_neg (by decide +kernel), if_neg (by decide +kernel), if_pos rfl]
theorem wF4 (p q : Rat) : wayF "/" p q = p / q := by unfold wayF; rw [if_neg (by decide +kernel), if_neg (by decide +kernel), if_neg (by decide +kernel), if_pos rfl]
theorem wF5 (p q : Rat) : wayF "min" p q = mn p q := by unfold wayF; rw [if_neg (by decide +kernel), if_neg (by decide +kernel), if_neg (by decide +kernel), if_neg (by decide +kernel), if_neg (by decide +kernel)]
theorem wF6 (p q : Rat) : wayF "max" p q = mx p q := by unfold wayF; rw [if_neg (by decide +kernel), if_neg (by decide +kernel), if_neg (by decide +kernel), if_neg (by decide +kernel), if_pos rfl]
theorem div0 (p : Rat) : p / 0 = 0 := by rw [Rat.div_def, Rat.inv_zero, Rat.mul_zero]
/-- what an operator's span is: the least and the greatest corner, and it holds all results -/
theorem op_ok {x : Str} {a b c d : Rat} (hx : x ∈ words) (hab : a ≤ b) (hcd : c ≤ d) (hdiv : x = "/" → (c = 0 ∧ d = 0) ∨ 0 < c ∨ d < 0) : ∃ lo hi, callF x a b c d = some (lo, hi) ∧ lo ∈ [wayF x a c, wayF x a d, wayF x b c, wayF x b d] ∧ hi ∈ [wayF x a c, wayF x a d, wayF x b c, wayF x b d] ∧
    ∀ p q, a ≤ p → p ≤ b → c ≤ q → q ≤ d → lo ≤ wayF x p q ∧ wayF x p q ≤ hi := by
  simp only [words, List.mem_cons, List.not_mem_nil, or_false] at hx
  rcases hx with rfl | rfl | rfl | rfl | rfl | rfl
  · simp only [cF1, wF1]
    exact ⟨_, _, rfl, by simp, by simp, fun p q h1 h2 h3 h4 => ⟨by grind, by grind⟩⟩
  · simp only [cF2, wF2]
    exact ⟨_, _, rfl, by simp, by simp, fun p q h1 h2 h3 h4 => ⟨by grind, by grind⟩⟩
  · simp only [cF3, wF3]
    exact ⟨_, _, rfl, m4_mem .., x4_mem .., fun p q h1 h2 h3 h4 => mul_in h1 h2 h3 h4⟩
  · simp only [cF4, wF4]
    unfold overB
    rcases hdiv rfl with ⟨rfl, rfl⟩ | h
    · rw [if_pos ⟨rfl, rfl⟩]
      refine ⟨0, 0, rfl, by simp [div0], by simp [div0], fun p q h1 h2 h3 h4 => ?_⟩
      have : q = 0 := by grind
      subst this
      rw [div0]
      exact ⟨Rat.le_refl, Rat.le_refl⟩
    · rw [if_neg (by grind), if_neg (by grind)]
      exact ⟨_, _, rfl, m4_mem .., x4_mem .., fun p q h1 h2 h3 h4 => div_in h1 h2 h3 h4 h⟩
  · simp only [cF5, wF5]
    refine ⟨_, _, rfl, ?_, ?_, fun p q h1 h2 h3 h4 => ?_⟩
    · simp
    · simp
    · unfold mn; constructor <;> grind
  · simp only [cF6, wF6]
    refine ⟨_, _, rfl, ?_, ?_, fun p q h1 h2 h3 h4 => ?_⟩
    · simp
    · simp
    · unfold mx; constructor <;> grind
theorem way_sz {x : Str} {p q : Rat} (hp : Sz 220 166 p) (hq : Sz 220 166 q) : Be (wayF x p q) := by
  unfold wayF
  split
  · exact sz_add hp hq (by decide) (by decide) (by decide) (by decide)
  split
  · exact sz_sub hp hq (by decide) (by decide) (by decide) (by decide)
  split
  · exact sz_mul hp hq (by decide) (by decide) (by decide)
  split
  · exact sz_div hp hq (by decide) (by decide) (by decide)
  split
  · exact mx_ind (hp.mono (by decide) (by decide)) (hq.mono (by decide) (by decide))
  · exact mn_ind (hp.mono (by decide) (by decide)) (hq.mono (by decide) (by decide))
end K78

/-! K78G -/
namespace K78
open PySem PySem.Spec PyProof.Rows L2 Ab RatM

local macro_rules | `(tactic| walk_at "ab") => `(tactic| first
  | (with_reducible refine S_seq ?_) | (with_reducible refine S_ret ?_) | (with_reducible refine S_asg ?_) | (with_reducible refine S_if ?_) | (with_reducible refine S_next ?_) | (with_reducible refine S_par ?_) | (with_reducible refine S_drop ?_) | (with_reducible refine S_retN ?_)
  | (with_reducible refine E_c ?_) | (with_reducible refine E_op ?_) | (with_reducible refine E_un ?_) | (with_reducible refine E_tup (K := ‹PySem.W.Frag›) ?_) | (with_reducible refine E_lst ?_) | (with_reducible refine E_cb ?_) | (with_reducible refine E_if ?_)
  | (with_reducible refine E_fld ?_) | (with_reducible refine E_not ?_) | (with_reducible refine E_and ?_) | (with_reducible refine E_or ?_) | (with_reducible refine E_meth ?_) | (with_reducible refine E_make ?_)
  | (with_reducible refine A_cons ?_) | (with_reducible refine A_nil ?_) | (with_reducible refine E_call (dss := []) (fun _ => .nil) ?_)
  | (with_reducible refine T_test ?_) | (with_reducible refine T_B ?_) | (with_reducible refine T_not ?_) | (with_reducible refine T_and ?_) | (with_reducible refine T_or ?_)
  | (refine E_var rfl ?_) | (refine R_I0 ?_) | (refine R_ixT rfl ?_) | (refine R_ixL rfl ?_) | (refine R_eqI ?_) | (refine R_eqS ?_) | (refine R_neS ?_) | (refine R_eq rfl ?_) | (refine R_ne rfl ?_) | (refine U_I ?_) | (refine R_I ?_ ?_)
  | (refine C_gcd ?_) | (refine C_abs ?_) | (refine C_int ?_) | (refine C_intB ?_)
  | ((with_reducible show ∃ (s s' : Slot), _ = [s, s'] ∧ _); refine ⟨_, _, rfl, ?_⟩)
  | (refine ⟨_, rfl, ?_⟩)
  | (refine spl (fun h => ?_) (fun h => ?_)) | (refine splN (fun h => ?_) (fun h => ?_)) | (refine splT ?_) | (refine splF ?_) | (refine spl2 (fun h => ?_) (fun h => ?_))
  | (refine len_ok ?_) | fail)

local macro_rules | `(tactic| walk_at "len") => `(tactic| first
  | (rintro ⟨_, e, _⟩; rw [e]; rfl) | (rintro ⟨_, _, e, _⟩; rw [e]; rfl) | (rintro ⟨_, _, _, e, _⟩; rw [e]; rfl) | (rintro ⟨_, _, _, _, e, _⟩; rw [e]; rfl) | (rintro ⟨_, _, _, _, _, e, _⟩; rw [e]; rfl) | (rintro ⟨_, _, _, _, _, _, e, _⟩; rw [e]; rfl))
local macro_rules | `(tactic| walk_at "side") => `(tactic| first
  | assumption | exact Be.q (by assumption) | exact cmul (by assumption) (by assumption) | exact cmulD (by assumption) (by assumption) | exact cmulN (by assumption) (by assumption) | exact cmulX (by assumption) (by assumption))
local macro_rules | `(tactic| walk_at "call2") => `(tactic| ((first | (with_reducible show F2 _ _ _ _ _) | (with_reducible show F_less _ _ _ _)); refine ⟨_, _, rfl, ?_, ?_, ?_⟩; (walk_at "side"); (walk_at "side")))
local macro_rules | `(tactic| walk_at "fld") => `(tactic| (refine ⟨_, _, _, rfl, Tx.cl ‹_›, ?_, rfl, ?_⟩; (first | exact Tx.nLow ‹_› | exact Tx.nHigh ‹_›)))
local macro_rules | `(tactic| walk_at "like") => `(tactic| ((with_reducible show F_like _ _ _ _); (first | (refine .inr ⟨_, rfl, ?_⟩) | (refine .inl ⟨_, rfl, .inl rfl, ?_⟩) | (refine .inl ⟨_, rfl, .inr (.inr ⟨_, rfl⟩), ?_⟩) | (refine .inl ⟨_, rfl, .inr (.inl ⟨_, rfl⟩), ?_⟩))))
local macro_rules | `(tactic| walk_at "fs2") => `(tactic| ((with_reducible show FS2 _ _ _ _ _ _); refine ⟨_, _, _, _, rfl, ?_, ?_, ?_, ?_, ?_, ?_, ?_⟩; (walk_at "side"); (walk_at "side"); (walk_at "side"); (walk_at "side"); (walk_at "side"); (walk_at "side")))
local macro_rules | `(tactic| walk_at "fs1") => `(tactic| ((with_reducible show FS1 _ _ _ _ _ _); refine ⟨_, _, rfl, ?_, ?_, ?_, ?_⟩; (walk_at "side"); (walk_at "side"); (walk_at "side")))
local macro_rules | `(tactic| walk_at "recv") => `(tactic| ((refine ⟨_, rfl, ?hl, ?_⟩); (case hl => exact look_no (by decide +kernel) (by decide +kernel))))
section
variable {P : Program} {w : World} {K : PySem.W.Frag} {mg : Str → Option Value} {base : Heap}
theorem wt_len {a : Rat} (h : Be a) : (wt a).length ≤ 5000 := by
  unfold wt
  have h1 := PyProof.Rows.int_text_len_1921 (log_lt h.1)
  have h2 := PyProof.Rows.int_text_len_1921 (log_lt (den_log h))
  split
  · omega
  · rw [Str.length_append, Str.length_append, show (Str.ofString "/").length = 1 from rfl]
    omega
def stext (a b : Rat) : Str := if a = b then wt a else wt a ++ Str.ofString ".." ++ wt b
theorem ok_Span_Dstr (T : Tx K mg) : FnOk P w K mg base CX0 2 T.Span_Dstr.f T.Span_Dstr.fd p_Span_Dstr (spOf (FS1 K T.C fun a b Φ => Φ (vS (.str (stext a b))))) := by
  refine ok0 T.Span_Dstr.F sc_Span_Dstr (by intro ss Φ Ψ h; revert h; walk_at "len") (fun cdv Ar outer s H Er hr => ⟨_, (pss_cons (ps_if (pt_cmpR (op_eqD hr.units) (pe_fld (pv 0) rfl) (pe_fld (pv 0) rfl) (nomark _))
  (pss_one (ps_ret (pe_joined1 (pe_fmt (pe_call (ok_worth_text T) (hr.mono (by decide)) rfl T.worth_text.g T.worth_text.F.kp T.worth_text.b .nil pass0 (pa_cons (pe_fld (pv 0) rfl) pa_nil))))))
  pss_nil)
  (pss_one (ps_ret (pe_joined (.cons (pe_fmt (pe_call (ok_worth_text T) (hr.mono (by decide)) rfl T.worth_text.g T.worth_text.F.kp T.worth_text.b .nil pass0 (pa_cons (pe_fld (pv 0) rfl) pa_nil))) (.cons pe_str (.cons (pe_fmt (pe_call (ok_worth_text T) (hr.mono (by decide)) rfl T.worth_text.g T.worth_text.F.kp T.worth_text.b .nil pass0 (pa_cons (pe_fld (pv 0) rfl) pa_nil))) .nil))))))), fun ss Φ Ψ h => ?_⟩)
  obtain ⟨a, b, rfl, hab, ha, hb, k⟩ := h
  unfold stext at k
  repeat' first | walk_at "ab" | walk_at "fld" | (refine R_eqR ?_) | (refine E_joined ?_) | (refine J_cons ?_) | (refine J_nil ?_) | (with_reducible refine E_fmt ?_) | (refine .inr ⟨_, rfl, ?_, ?_⟩) | ((with_reducible show _ ≤ 100000 ∧ _); refine ⟨?_, ?_⟩) | ((with_reducible show Be _ ∧ _); refine ⟨by assumption, ?_⟩) | fail
  all_goals have h1 := wt_len ha
  all_goals have h2 := wt_len hb
  · show _ ≤ 2 ^ 24; omega
  · rename_i h; rw [if_pos h] at k; exact k
  · show _ ≤ 2 ^ 24; omega
  · rw [empty_app]; omega
  · rw [empty_app, Str.length_append, show (Str.ofString "..").length = 2 from rfl]; omega
  · show _ ≤ 2 ^ 24; omega
  · rw [empty_app, Str.length_append, Str.length_append, show (Str.ofString "..").length = 2 from rfl]; omega
  · rename_i h; rw [if_neg h] at k; rw [empty_app]; exact k
theorem S_ifB {p : Prop} [Decidable p] {tt : TT} {t u : TS} {Γ : List Bd} {Φ : Ks} (h : Ab.T tt Γ fun r => r = decide p) (h1 : p → S t Γ Φ) (h2 : ¬ p → S u Γ Φ) : S (tIfS tt t u) Γ Φ := S_if (h.imp fun s e => by subst e; exact spl h1 h2)
def rd (p : Rat) : PyData := .tuple [.int p.num, .int p.den]
theorem eqvAll2 {a b c d : PyData} : PyData.eqv (.tuple [a, b]) (.tuple [c, d]) = (PyData.eqv a c && PyData.eqv b d) := by simp [PyData.eqv, PyData.eqvAll]
theorem eqvRR (p q r s : Rat) : PyData.eqv (.tuple [rd p, rd q]) (.tuple [rd r, rd s]) = decide (p = r ∧ q = s) := by
  rw [eqvAll2]
  unfold rd
  rw [eqvR, eqvR, Bool.decide_and]
theorem dpE (p q : Rat) : DpS K (tupS K [ratS K p, ratS K q]) (.tuple [rd p, rd q]) := dp_tup (.cons (dpR p) (.cons (dpR q) .nil))
theorem R_eqE {p q r s : Rat} {Φ : Slot → Prop} (k : Φ (vS (.bl (decide (p = r ∧ q = s))))) : R (rEqD K) (tupS K [ratS K p, ratS K q]) (tupS K [ratS K r, ratS K s]) Φ := R_eqD (dpE p q) (dpE r s) (by rfl) (by rfl) (by rw [eqvRR]; exact k)
theorem R_neE {p q r s : Rat} {Φ : Slot → Prop} (k : Φ (vS (.bl (!decide (p = r ∧ q = s))))) : R (rNeD K) (tupS K [ratS K p, ratS K q]) (tupS K [ratS K r, ratS K s]) Φ := R_neD (dpE p q) (dpE r s) (by rfl) (by rfl) (by rw [eqvRR]; exact k)
theorem R_notNn {Φ : Slot → Prop} (k : Φ (vS (.bl false))) : R (fun x y H Q => y = .non ∧ Q (.bl (!decide (x = .non))) H) (vS .non) (vS .non) Φ := fun x y B H b p1 p2 Q q => by
  obtain rfl : x = .non := p1
  exact ⟨p2, q _ _ B H (.refl b) rfl k⟩
theorem lst_grow {α : Type} (L : List Rat) (ys : List α) (f : α → Rat) : lstS (L.map (ratS K) ++ (ys.filter fun _ => true).map fun y => ratS K (f y)) = lstS ((L ++ ys.map f).map (ratS K)) := by
  rw [List.filter_eq_self.mpr (fun _ _ => rfl), List.map_append, List.map_map]; rfl
/-- all results of f over the two lists -/
def allF (f : Rat → Rat → Rat) (xs ys : List Rat) : List Rat := xs.flatMap fun x => ys.map (f x)
theorem allF_len (f : Rat → Rat → Rat) (xs ys : List Rat) : (allF f xs ys).length = xs.length * ys.length := by
  unfold allF
  induction xs with
  | nil => simp
  | cons x xs ih => rw [List.flatMap_cons, List.length_append, ih, List.length_map, List.length_cons, Nat.succ_mul, Nat.add_comm]
theorem allF_mem {f : Rat → Rat → Rat} {xs ys : List Rat} {r : Rat} : r ∈ allF f xs ys ↔ ∃ x, x ∈ xs ∧ ∃ y, y ∈ ys ∧ f x y = r := by
  unfold allF
  simp [List.mem_flatMap, List.mem_map]
theorem allF_take {f : Rat → Rat → Rat} {xs ys : List Rat} {i : Nat} {x : Rat} (h : xs[i]? = some x) : allF f (xs.take (i + 1)) ys = allF f (xs.take i) ys ++ ys.map (f x) := by
  unfold allF
  rw [List.take_succ, h]
  simp
def opsF (K : PySem.W.Frag) (C : Addr) (a b c d : Rat) (xs ys : List Rat) : List Slot := [spanS K C a b, spanS K C c d, tupS K [ratS K a, ratS K b], tupS K [ratS K c, ratS K d], lstS (xs.map (ratS K)), lstS (ys.map (ratS K))]
theorem ok_loperators (T : Tx K mg) : FnOk P w K mg base CX0 8 T.loperators.f T.loperators.fd p_loperators (spOf ((fun ss Φ _ => ∃ (a b c d : Rat) (xs ys : List Rat), ss = opsF K T.C a b c d xs ys ∧ a ≤ b ∧ c ≤ d ∧ Sz 106 54 a ∧ Sz 106 54 b ∧ Sz 106 54 c ∧ Sz 106 54 d ∧ (∀ x ∈ xs, a ≤ x ∧ x ≤ b ∧ Sz 220 166 x) ∧ (∀ x ∈ ys, c ≤ x ∧ x ≤ d ∧ Sz 220 166 x) ∧ xs.length ≤ 10 ∧ ys.length ≤ 10 ∧ Φ (vS (.bl true))))) := by
  refine ok0 T.loperators.F sc_loperators (by intro ss Φ Ψ h; revert h; walk_at "len") (fun cdv Ar outer s H Er hr => ⟨_, (pss_cons (ps_for PassesOwn.never rfl (pi_list (pe_lst (pa_cons pe_str (pa_cons pe_str (pa_cons pe_str (pa_cons pe_str (pa_cons pe_str (pa_cons pe_str pa_nil)))))))) (pg_name (i := 6) sc_loperators.nd rfl (by first | exact Or.inl rfl | exact Or.inr rfl))
  (pss_cons (ps_set (i := 7) sc_loperators.nd rfl (by first | exact Or.inl rfl | exact Or.inr rfl) (pe_call (ok_lcalled T) (hr.mono (by decide)) rfl T.lcalled.g T.lcalled.F.kp T.lcalled.b .nil pass0 (pa_cons (pv 6) (pa_cons (pv 0) (pa_cons (pv 1) pa_nil)))))
  (pss_one (ps_if (PW.pt (pw_and (pt_cmpR op_eq (pv 6) pe_str (nomark _)) (pw_and (pt_cmpR (op_neD hr.units) (pv 3) (pe_tup (pa_cons (pe_tup (pa_cons pe_int (pa_cons pe_int pa_nil))) (pa_cons (pe_tup (pa_cons pe_int (pa_cons pe_int pa_nil))) pa_nil))) (nomark _)) (pw_and (pt_not (pt_val (pe_call (ok_lless T) (hr.mono (by decide)) rfl T.lless.g T.lless.F.kp T.lless.b .nil pass0 (pa_cons (pe_tup (pa_cons pe_int (pa_cons pe_int pa_nil))) (pa_cons (pe_ix ix_tup (pv 3) pe_int (fun _ _ => rfl)) pa_nil))))) (pw_and1 (pt_not (pt_val (pe_call (ok_lless T) (hr.mono (by decide)) rfl T.lless.g T.lless.F.kp T.lless.b .nil pass0 (pa_cons (pe_ix ix_tup (pv 3) pe_int (fun _ _ => rfl)) (pa_cons (pe_tup (pa_cons pe_int (pa_cons pe_int pa_nil))) pa_nil))))))))))
  (pss_one (ps_if (pt_cmpR op_notN (pv 7) pe_non (nomark _))
  (pss_one (ps_ret pe_bl))
  pss_nil))
  (pss_cons (ps_par (i := 8) (j := 9) (by rfl) sc_loperators.nd rfl rfl (by decide) rfl rfl (pa_cons (pe_lst pa_nil) (pa_cons (pe_lst pa_nil) pa_nil)) (by rfl))
  (pss_cons (ps_for PassesOwn.never rfl (pi_tup (pv 2)) (pg_name (i := 10) sc_loperators.nd rfl (by first | exact Or.inl rfl | exact Or.inr rfl))
  (pss_one (ps_set (i := 8) sc_loperators.nd rfl (by first | exact Or.inl rfl | exact Or.inr rfl) (pe_op op_cat (pv 8) (pe_lc (own := [("y", 11)]) (g := (gName 11)) (tt := tYes) (by rfl) sc_loperators.nd (pi_tup (pv 3)) (blkOk_by (own := [("y", 11)]) (N := n_loperators) (sc := defScope s_loperators) (by decide +kernel)) (fun _ _ _ _ _ => (pg_name (i := 11) sc_loperators.nd rfl (Or.inl rfl) (Or.inr rfl))) (fun _ _ _ _ _ => pts_nil) (fun _ _ _ _ _ => (pe_call (ok_lways T) (hr.mono (by decide)) rfl T.lways.g T.lways.F.kp T.lways.b .nil pass0 (pa_cons (pv 6) (pa_cons (pv 10) (pa_cons (pv 11) pa_nil))))))))))
  (pss_cons (ps_for PassesOwn.never rfl (pi_list (pv 4)) (pg_name (i := 10) sc_loperators.nd rfl (by first | exact Or.inl rfl | exact Or.inr rfl))
  (pss_one (ps_set (i := 9) sc_loperators.nd rfl (by first | exact Or.inl rfl | exact Or.inr rfl) (pe_op op_cat (pv 9) (pe_lc (own := [("y", 11)]) (g := (gName 11)) (tt := tYes) (by rfl) sc_loperators.nd (pi_list (pv 5)) (blkOk_by (own := [("y", 11)]) (N := n_loperators) (sc := defScope s_loperators) (by decide +kernel)) (fun _ _ _ _ _ => (pg_name (i := 11) sc_loperators.nd rfl (Or.inl rfl) (Or.inr rfl))) (fun _ _ _ _ _ => pts_nil) (fun _ _ _ _ _ => (pe_call (ok_lways T) (hr.mono (by decide)) rfl T.lways.g T.lways.F.kp T.lways.b .nil pass0 (pa_cons (pv 6) (pa_cons (pv 10) (pa_cons (pv 11) pa_nil))))))))))
  (pss_one (ps_if (pt_not (pt_val (pe_call (ok_lholds T) (hr.mono (by decide)) rfl T.lholds.g T.lholds.F.kp T.lholds.b .nil pass0 (pa_cons (pv 7) (pa_cons (pe_call (ok_lleast T) (hr.mono (by decide)) rfl T.lleast.g T.lleast.F.kp T.lleast.b .nil pass0 (pa_cons (pv 8) pa_nil)) (pa_cons (pv 9) pa_nil))))))
  (pss_one (ps_ret pe_bl))
  pss_nil)))))))))
  (pss_one (ps_ret pe_bl))), fun ss Φ Ψ h => ?_⟩)
  obtain ⟨a, b, c, d, xs, ys, rfl, hab, hcd, ha, hb, hc, hd, hxs, hys, hlx, hly, k⟩ := h
  have ea : Be a := ha.mono (by decide) (by decide)
  have eb : Be b := hb.mono (by decide) (by decide)
  have ec : Be c := hc.mono (by decide) (by decide)
  have ed : Be d := hd.mono (by decide) (by decide)
  refine S_seq ?_
  refine S_forL (ss := words.map fun x => vS (.str x)) [6] (fun i Γ => ∃ (o6 o7 o8 o9 o10 o11 : Bd), Γ = [.pl (spanS K T.C a b), .pl (spanS K T.C c d), .pl (tupS K [ratS K a, ratS K b]), .pl (tupS K [ratS K c, ratS K d]), .pl (lstS (xs.map (ratS K))), .pl (lstS (ys.map (ratS K))), o6, o7, o8, o9, o10, o11]) ?_ ?_ ?_
  · repeat' first | walk_at "ab" | fail
    exact ⟨rfl, _, _, _, _, _, _, rfl⟩
  · rintro i s Γ hi ⟨o6, o7, o8, o9, o10, o11, rfl⟩
    obtain ⟨x, ex, rfl⟩ := mapGet hi
    have hx := List.mem_of_getElem? ex
    refine G_name (by decide) ?_
    refine S_seq (S_asg (E_call (dss := []) (fun _ => .nil) ?_))
    repeat' first | walk_at "ab" | fail
    refine ⟨x, a, b, c, d, rfl, hab, hcd, ea, eb, ec, ed, ?_⟩
    refine S_ifB (p := x = "/" ∧ ¬ (c = 0 ∧ d = 0) ∧ ¬ 0 < c ∧ ¬ d < 0) ?_ ?_ ?_
    · repeat' first | walk_at "ab" | (refine R_neE (r := 0) (s := 0) ?_) | ((with_reducible show F_less _ _ _ _); refine ⟨_, 0, rfl, ed.q, Bq0, ?_⟩) | ((with_reducible show F_less _ _ _ _); refine ⟨0, _, rfl, Bq0, ec.q, ?_⟩) | fail
      all_goals simp_all
    · rintro ⟨rfl, h1, h2, h3⟩
      have e : callF "/" a b c d = none := by
        rw [cF4]; unfold overB
        rw [if_neg h1, if_pos ⟨by grind, by grind⟩]
      rw [e]
      repeat' first | walk_at "ab" | (refine R_notNn ?_) | fail
      exact ⟨_, _, _, _, _, _, rfl⟩
    · intro hn
      obtain ⟨lo, hi', e, m1, m2, hall⟩ := op_ok hx hab hcd fun hd' => by
        by_cases h1 : c = 0 ∧ d = 0
        · exact .inl h1
        · by_cases h2 : 0 < c
          · exact .inr (.inl h2)
          · by_cases h3 : d < 0
            · exact .inr (.inr h3)
            · exact absurd ⟨hd', h1, h2, h3⟩ hn
      rw [e]
      have se : ∀ p q, Sz 106 54 p → Sz 106 54 q → Be (wayF x p q) := fun p q h1 h2 => way_sz (h1.mono (by decide) (by decide)) (h2.mono (by decide) (by decide))
      have hcor : ∀ r ∈ [wayF x a c, wayF x a d, wayF x b c, wayF x b d], lo ≤ r ∧ r ≤ hi' ∧ Be r := by
        intro r hr
        simp only [List.mem_cons, List.not_mem_nil, or_false] at hr
        rcases hr with rfl | rfl | rfl | rfl
        · exact ⟨(hall _ _ Rat.le_refl hab Rat.le_refl hcd).1, (hall _ _ Rat.le_refl hab Rat.le_refl hcd).2, se _ _ ha hc⟩
        · exact ⟨(hall _ _ Rat.le_refl hab hcd Rat.le_refl).1, (hall _ _ Rat.le_refl hab hcd Rat.le_refl).2, se _ _ ha hd⟩
        · exact ⟨(hall _ _ hab Rat.le_refl Rat.le_refl hcd).1, (hall _ _ hab Rat.le_refl Rat.le_refl hcd).2, se _ _ hb hc⟩
        · exact ⟨(hall _ _ hab Rat.le_refl hcd Rat.le_refl).1, (hall _ _ hab Rat.le_refl hcd Rat.le_refl).2, se _ _ hb hd⟩
      have hlo : Be lo := (hcor _ m1).2.2
      have hhi : Be hi' := (hcor _ m2).2.2
      have hlh : lo ≤ hi' := (hcor _ m1).2.1
      have hin : ∀ r ∈ allF (wayF x) xs ys, lo ≤ r ∧ r ≤ hi' ∧ Bq r := by
        intro r hr
        obtain ⟨p, hp, q, hq, rfl⟩ := allF_mem.mp hr
        obtain ⟨p1, p2, p3⟩ := hxs p hp
        obtain ⟨q1, q2, q3⟩ := hys q hq
        obtain ⟨h1, h2⟩ := hall p q p1 p2 q1 q2
        exact ⟨h1, h2, (way_sz p3 q3).q⟩
      repeat' first | walk_at "ab" | fail
      refine S_forT (ss := [a, b].map (ratS K)) [10] (fun i Γ => ∃ (o10 o11 : Bd), Γ = [.pl (spanS K T.C a b), .pl (spanS K T.C c d), .pl (tupS K [ratS K a, ratS K b]), .pl (tupS K [ratS K c, ratS K d]), .pl (lstS (xs.map (ratS K))), .pl (lstS (ys.map (ratS K))), .pl (vS (.str x)), .pl (spanS K T.C lo hi'), .pl (lstS ((allF (wayF x) ([a, b].take i) [c, d]).map (ratS K))), .pl (lstS []), o10, o11]) (E_var rfl ⟨rfl, _, _, rfl⟩) ?_ ?_
      · rintro i s Γ hi ⟨o10, o11, rfl⟩
        obtain ⟨p, ep, rfl⟩ := mapGet hi
        have hp := List.mem_of_getElem? ep
        refine G_name (by decide) ?_
        refine S_asg (E_op (E_var rfl ?_))
        have hf : ∀ r ∈ [c, d], Bq p ∧ Bq r := by
          intro r hr
          simp only [List.mem_cons, List.not_mem_nil, or_false] at hp hr
          rcases hp with rfl | rfl <;> rcases hr with rfl | rfl <;> exact ⟨by first | exact ea.q | exact eb.q, by first | exact ec.q | exact ed.q⟩
        refine E_lcT [c, d] (ratS K) (fun y => ratS K (wayF x p y)) (fun _ => true) (E_var rfl rfl) (by show 2 ≤ 50000; decide) ?_ ?_
        · intro r hr
          obtain ⟨h1, h2⟩ := hf r hr
          refine G_name (by decide) (T_yes ⟨rfl, fun _ => ?_⟩)
          repeat' first | walk_at "ab" | fail
          exact ⟨_, _, _, rfl, h1, h2, rfl⟩
        · refine R_cat ?_ ?_
          · rw [List.length_map, allF_len]
            have : ([a, b].take i).length ≤ 2 := by rw [List.length_take]; exact Nat.min_le_right _ _
            have h2 : (List.map (fun y => ratS K (wayF x p y)) (List.filter (fun _ => true) [c, d])).length = 2 := rfl
            rw [h2]
            have h3 := Nat.mul_le_mul_right [c, d].length this
            have h4 : [c, d].length = 2 := rfl
            omega
          · rw [lst_grow, ← allF_take ep]
            exact ⟨_, _, rfl⟩
      · rintro Γ ⟨o10, o11, rfl⟩
        refine S_seq (S_forL (ss := xs.map (ratS K)) [10] (fun i Γ => ∃ (o10 o11 : Bd), Γ = [.pl (spanS K T.C a b), .pl (spanS K T.C c d), .pl (tupS K [ratS K a, ratS K b]), .pl (tupS K [ratS K c, ratS K d]), .pl (lstS (xs.map (ratS K))), .pl (lstS (ys.map (ratS K))), .pl (vS (.str x)), .pl (spanS K T.C lo hi'), .pl (lstS ((allF (wayF x) [a, b] [c, d]).map (ratS K))), .pl (lstS ((allF (wayF x) (xs.take i) ys).map (ratS K))), o10, o11]) (E_var rfl ⟨rfl, _, _, rfl⟩) ?_ ?_)
        · rintro i s Γ hi ⟨o10, o11, rfl⟩
          obtain ⟨p, ep, rfl⟩ := mapGet hi
          have hp := (hxs p (List.mem_of_getElem? ep)).2.2
          refine G_name (by decide) ?_
          refine S_asg (E_op (E_var rfl ?_))
          refine E_lcL ys (ratS K) (fun y => ratS K (wayF x p y)) (fun _ => true) (E_var rfl rfl) (by omega) ?_ ?_
          · intro r hr
            have h2 := (hys r hr).2.2
            refine G_name (by decide) (T_yes ⟨rfl, fun _ => ?_⟩)
            repeat' first | walk_at "ab" | fail
            exact ⟨_, _, _, rfl, hp.mono (by decide) (by decide), h2.mono (by decide) (by decide), rfl⟩
          · refine R_cat ?_ ?_
            · rw [List.length_map, allF_len, List.length_map]
              have h1 : (xs.take i).length ≤ 10 := by rw [List.length_take]; omega
              have h2 := Nat.mul_le_mul h1 hly
              have h3 := List.length_filter_le (fun _ => true) ys
              omega
            · rw [lst_grow, ← allF_take ep]
              exact ⟨_, _, rfl⟩
        · rintro Γ ⟨o10, o11, rfl⟩
          rw [List.length_map, List.take_length]
          repeat' first | walk_at "ab" | fail
          refine ⟨[wayF x a c, wayF x a d, wayF x b c, wayF x b d], lo, hi', rfl, m1, m2, fun r hr => ⟨(hcor r hr).1, (hcor r hr).2.1, (hcor r hr).2.2.q⟩, ?_⟩
          repeat' first | walk_at "ab" | fail
          refine ⟨lo, hi', _, rfl, hlh, hlo, hhi, ?_, hin, ?_⟩
          · rw [allF_len]
            have := Nat.mul_le_mul hlx hly
            omega
          · repeat' first | walk_at "ab" | fail
            exact ⟨_, _, _, _, _, _, rfl⟩
  · rintro Γ ⟨o6, o7, o8, o9, o10, o11, rfl⟩
    repeat' first | walk_at "ab" | fail
    exact k
end
end K78

/-! K78I -/
namespace K78
open PySem PySem.Spec PyProof.Rows L2 Ab RatM

local macro_rules | `(tactic| walk_at "ab") => `(tactic| first
  | (with_reducible refine S_seq ?_) | (with_reducible refine S_ret ?_) | (with_reducible refine S_asg ?_) | (with_reducible refine S_if ?_) | (with_reducible refine S_next ?_) | (with_reducible refine S_par ?_) | (with_reducible refine S_drop ?_) | (with_reducible refine S_retN ?_)
  | (with_reducible refine E_c ?_) | (with_reducible refine E_op ?_) | (with_reducible refine E_un ?_) | (with_reducible refine E_tup (K := ‹PySem.W.Frag›) ?_) | (with_reducible refine E_lst ?_) | (with_reducible refine E_cb ?_) | (with_reducible refine E_if ?_)
  | (with_reducible refine E_fld ?_) | (with_reducible refine E_not ?_) | (with_reducible refine E_and ?_) | (with_reducible refine E_or ?_) | (with_reducible refine E_meth ?_) | (with_reducible refine E_make ?_)
  | (with_reducible refine A_cons ?_) | (with_reducible refine A_nil ?_) | (with_reducible refine E_call (dss := []) (fun _ => .nil) ?_)
  | (with_reducible refine T_test ?_) | (with_reducible refine T_B ?_) | (with_reducible refine T_not ?_) | (with_reducible refine T_and ?_) | (with_reducible refine T_or ?_)
  | (refine E_var rfl ?_) | (refine R_I0 ?_) | (refine R_ixT rfl ?_) | (refine R_ixL rfl ?_) | (refine R_eqI ?_) | (refine R_eqS ?_) | (refine R_neS ?_) | (refine R_eq rfl ?_) | (refine R_ne rfl ?_) | (refine U_I ?_) | (refine R_I ?_ ?_)
  | (refine C_gcd ?_) | (refine C_abs ?_) | (refine C_int ?_) | (refine C_intB ?_)
  | ((with_reducible show ∃ (s s' : Slot), _ = [s, s'] ∧ _); refine ⟨_, _, rfl, ?_⟩)
  | (refine ⟨_, rfl, ?_⟩)
  | (refine spl (fun h => ?_) (fun h => ?_)) | (refine splN (fun h => ?_) (fun h => ?_)) | (refine splT ?_) | (refine splF ?_) | (refine spl2 (fun h => ?_) (fun h => ?_))
  | (refine len_ok ?_) | fail)

local macro_rules | `(tactic| walk_at "len") => `(tactic| first
  | (rintro ⟨_, e, _⟩; rw [e]; rfl) | (rintro ⟨_, _, e, _⟩; rw [e]; rfl) | (rintro ⟨_, _, _, e, _⟩; rw [e]; rfl) | (rintro ⟨_, _, _, _, e, _⟩; rw [e]; rfl) | (rintro ⟨_, _, _, _, _, e, _⟩; rw [e]; rfl) | (rintro ⟨_, _, _, _, _, _, e, _⟩; rw [e]; rfl))
local macro_rules | `(tactic| walk_at "side") => `(tactic| first
  | assumption | exact Be.q (by assumption) | exact cmul (by assumption) (by assumption) | exact cmulD (by assumption) (by assumption) | exact cmulN (by assumption) (by assumption) | exact cmulX (by assumption) (by assumption))
local macro_rules | `(tactic| walk_at "call2") => `(tactic| ((first | (with_reducible show F2 _ _ _ _ _) | (with_reducible show F_less _ _ _ _)); refine ⟨_, _, rfl, ?_, ?_, ?_⟩; (walk_at "side"); (walk_at "side")))
local macro_rules | `(tactic| walk_at "fld") => `(tactic| (refine ⟨_, _, _, rfl, Tx.cl ‹_›, ?_, rfl, ?_⟩; (first | exact Tx.nLow ‹_› | exact Tx.nHigh ‹_›)))
local macro_rules | `(tactic| walk_at "like") => `(tactic| ((with_reducible show F_like _ _ _ _); (first | (refine .inr ⟨_, rfl, ?_⟩) | (refine .inl ⟨_, rfl, .inl rfl, ?_⟩) | (refine .inl ⟨_, rfl, .inr (.inr ⟨_, rfl⟩), ?_⟩) | (refine .inl ⟨_, rfl, .inr (.inl ⟨_, rfl⟩), ?_⟩))))
local macro_rules | `(tactic| walk_at "fs2") => `(tactic| ((with_reducible show FS2 _ _ _ _ _ _); refine ⟨_, _, _, _, rfl, ?_, ?_, ?_, ?_, ?_, ?_, ?_⟩; (walk_at "side"); (walk_at "side"); (walk_at "side"); (walk_at "side"); (walk_at "side"); (walk_at "side")))
local macro_rules | `(tactic| walk_at "fs1") => `(tactic| ((with_reducible show FS1 _ _ _ _ _ _); refine ⟨_, _, rfl, ?_, ?_, ?_, ?_⟩; (walk_at "side"); (walk_at "side"); (walk_at "side")))
local macro_rules | `(tactic| walk_at "recv") => `(tactic| ((refine ⟨_, rfl, ?hl, ?_⟩); (case hl => exact look_no (by decide +kernel) (by decide +kernel))))
section
variable {P : Program} {w : World} {K : PySem.W.Frag} {mg : Str → Option Value} {base : Heap}
theorem S_mid {t u : TS} {Γ : List Bd} {Φ : Ks} (W : List Bd → Prop) (h : S t Γ { Φ with nx := W, rt := fun _ _ => False, bk := fun _ => False, ct := fun _ => False }) (k : ∀ Γ', W Γ' → S u Γ' Φ) : S (tSeq t u) Γ Φ :=
  S_seq (S.imp (t := t) (Γ := Γ) (Φ := { Φ with nx := W, rt := fun _ _ => False, bk := fun _ => False, ct := fun _ => False }) (Φ' := { Φ with nx := fun Γ' => S u Γ' Φ }) rfl (fun _ z => z) h k (fun _ _ z => z.elim) (fun _ z => z.elim) (fun _ z => z.elim))
theorem like_ob (o : Option Bool) {Φ : Slot → Prop} {Ψ : Xs → Prop} (k : Φ (vS (.bl true))) : F_like K [obS o, obS o] Φ Ψ := by
  cases o with
  | none => exact .inl ⟨_, rfl, .inl rfl, k⟩
  | some b => exact .inl ⟨_, rfl, .inr (.inr ⟨b, rfl⟩), k⟩
theorem E_true {te : TE} {Γ : List Bd} {Φ : Slot → Prop} (h : E te Γ fun s => s = vS (.bl true)) (k : Φ (vS (.bl true))) : E te Γ Φ := h.imp fun s e => by subst e; exact k
/-! ### compared -/
def allB (f : Rat → Rat → Bool) (xs ys : List Rat) : List Bool := xs.flatMap fun x => ys.map (f x)
theorem allB_len (f : Rat → Rat → Bool) (xs ys : List Rat) : (allB f xs ys).length = xs.length * ys.length := by
  unfold allB
  induction xs with
  | nil => simp
  | cons x xs ih => rw [List.flatMap_cons, List.length_append, ih, List.length_map, List.length_cons, Nat.succ_mul, Nat.add_comm]
theorem allB_take {f : Rat → Rat → Bool} {xs ys : List Rat} {i : Nat} {x : Rat} (h : xs[i]? = some x) : allB f (xs.take (i + 1)) ys = allB f (xs.take i) ys ++ ys.map (f x) := by
  unfold allB
  rw [List.take_succ, h]
  simp
theorem blst_grow {α : Type} (L : List Bool) (ys : List α) (f : α → Bool) : lstS (L.map (fun b => vS (.bl b)) ++ (ys.filter fun _ => true).map fun y => vS (.bl (f y))) = lstS ((L ++ ys.map f).map fun b => vS (.bl b)) := by
  rw [List.filter_eq_self.mpr (fun _ _ => rfl), List.map_append, List.map_map]; rfl
theorem allB_mem {f : Rat → Rat → Bool} {xs ys : List Rat} {r : Bool} : r ∈ allB f xs ys ↔ ∃ x, x ∈ xs ∧ ∃ y, y ∈ ys ∧ f x y = r := by
  unfold allB
  simp [List.mem_flatMap, List.mem_map]
theorem agree_is {bs : List Bool} {o : Option Bool} (h1 : o = some true → ∀ b ∈ bs, b = true) (h2 : o = some false → (∀ b ∈ bs, b = false) ∧ false ∈ bs) (h3 : o = none → true ∈ bs ∧ false ∈ bs) : agreeB bs = o := by
  unfold agreeB
  cases o with
  | none =>
    obtain ⟨t, f⟩ := h3 rfl
    rw [if_neg (fun z => by simpa using List.all_eq_true.mp z _ f), if_pos (List.any_eq_true.mpr ⟨true, t, rfl⟩)]
  | some b =>
    cases b with
    | true =>
      have e : bs.all id = true := List.all_eq_true.mpr fun b hb => h1 rfl b hb
      rw [if_pos e]
    | false =>
      obtain ⟨a, f⟩ := h2 rfl
      rw [if_neg (fun z => by simpa using List.all_eq_true.mp z _ f), if_neg]
      intro z
      obtain ⟨b, hb, e⟩ := List.any_eq_true.mp z
      rw [a b hb] at e
      cases e
section
variable {a b c d : Rat} {xs ys : List Rat}
theorem below_agree (ha : a ∈ xs) (hb : b ∈ xs) (hc : c ∈ ys) (hd : d ∈ ys) (hx : ∀ x ∈ xs, a ≤ x ∧ x ≤ b) (hy : ∀ y ∈ ys, c ≤ y ∧ y ≤ d) : agreeB (allB (fun x y => decide (x < y)) xs ys) = belowB a b c d := by
  refine agree_is (fun e r hr => ?_) (fun e => ⟨fun r hr => ?_, ?_⟩) (fun e => ⟨?_, ?_⟩)
  · obtain ⟨x, hx', y, hy', rfl⟩ := allB_mem.mp hr
    have := hx x hx'; have := hy y hy'
    unfold belowB at e
    apply decide_eq_true
    split at e
    · grind
    · split at e <;> cases e
  · obtain ⟨x, hx', y, hy', rfl⟩ := allB_mem.mp hr
    have := hx x hx'; have := hy y hy'
    unfold belowB at e
    apply decide_eq_false
    split at e
    · cases e
    · split at e
      · grind
      · cases e
  · refine allB_mem.mpr ⟨a, ha, c, hc, decide_eq_false ?_⟩
    have := hx b hb; have := hy d hd
    unfold belowB at e
    split at e
    · cases e
    · split at e
      · grind
      · cases e
  · refine allB_mem.mpr ⟨a, ha, d, hd, decide_eq_true ?_⟩
    unfold belowB at e
    split at e
    · cases e
    · split at e
      · cases e
      · grind
  · refine allB_mem.mpr ⟨b, hb, c, hc, decide_eq_false ?_⟩
    unfold belowB at e
    split at e
    · cases e
    · split at e
      · cases e
      · grind
theorem most_agree (ha : a ∈ xs) (hb : b ∈ xs) (hc : c ∈ ys) (hd : d ∈ ys) (hx : ∀ x ∈ xs, a ≤ x ∧ x ≤ b) (hy : ∀ y ∈ ys, c ≤ y ∧ y ≤ d) : agreeB (allB (fun x y => !decide (y < x)) xs ys) = atMostB a b c d := by
  have nt : ∀ {x y : Rat}, (!decide (y < x)) = decide (x ≤ y) := fun {x y} => by
    rw [← decide_not]; apply decide_eq_decide.mpr; grind
  simp only [nt]
  refine agree_is (fun e r hr => ?_) (fun e => ⟨fun r hr => ?_, ?_⟩) (fun e => ⟨?_, ?_⟩)
  · obtain ⟨x, hx', y, hy', rfl⟩ := allB_mem.mp hr
    have := hx x hx'; have := hy y hy'
    unfold atMostB at e
    apply decide_eq_true
    split at e
    · grind
    · split at e <;> cases e
  · obtain ⟨x, hx', y, hy', rfl⟩ := allB_mem.mp hr
    have := hx x hx'; have := hy y hy'
    unfold atMostB at e
    apply decide_eq_false
    split at e
    · cases e
    · split at e
      · grind
      · cases e
  · refine allB_mem.mpr ⟨b, hb, c, hc, decide_eq_false ?_⟩
    unfold atMostB at e
    split at e
    · cases e
    · split at e
      · grind
      · cases e
  · refine allB_mem.mpr ⟨a, ha, d, hd, decide_eq_true ?_⟩
    unfold atMostB at e
    split at e
    · cases e
    · split at e
      · cases e
      · grind
  · refine allB_mem.mpr ⟨b, hb, c, hc, decide_eq_false ?_⟩
    unfold atMostB at e
    split at e
    · cases e
    · split at e
      · cases e
      · grind
end
theorem same_sym (a b c d : Rat) : sameB c d a b = sameB a b c d := by
  unfold sameB
  simp only [or_comm (a := d < a), and_comm (a := c = d)]
theorem ok_lcompared (T : Tx K mg) : FnOk P w K mg base CX0 4 T.lcompared.f T.lcompared.fd p_lcompared (spOf ((fun ss Φ _ => ∃ (a b c d : Rat) (xs ys : List Rat), ss = opsF K T.C a b c d xs ys ∧ a ≤ b ∧ c ≤ d ∧ Be a ∧ Be b ∧ Be c ∧ Be d ∧ (a ∈ xs ∧ b ∈ xs) ∧ (c ∈ ys ∧ d ∈ ys) ∧ (∀ x ∈ xs, a ≤ x ∧ x ≤ b ∧ Sz 220 166 x) ∧ (∀ x ∈ ys, c ≤ x ∧ x ≤ d ∧ Sz 220 166 x) ∧ xs.length ≤ 10 ∧ ys.length ≤ 10 ∧ Φ (vS (.bl true))))) := by
  refine ok0 T.lcompared.F sc_lcompared (by intro ss Φ Ψ h; revert h; walk_at "len") (fun cdv Ar outer s H Er hr => ⟨_, (pss_cons (ps_par (i := 6) (j := 7) (by rfl) sc_lcompared.nd rfl rfl (by decide) rfl rfl (pa_cons (pe_lst pa_nil) (pa_cons (pe_lst pa_nil) pa_nil)) (by rfl))
  (pss_cons (ps_for PassesOwn.never rfl (pi_list (pv 4)) (pg_name (i := 8) sc_lcompared.nd rfl (by first | exact Or.inl rfl | exact Or.inr rfl))
  (pss_cons (ps_set (i := 6) sc_lcompared.nd rfl (by first | exact Or.inl rfl | exact Or.inr rfl) (pe_op op_cat (pv 6) (pe_lc (own := [("y", 9)]) (g := (gName 9)) (tt := tYes) (by rfl) sc_lcompared.nd (pi_list (pv 5)) (blkOk_by (own := [("y", 9)]) (N := n_lcompared) (sc := defScope s_lcompared) (by decide +kernel)) (fun _ _ _ _ _ => (pg_name (i := 9) sc_lcompared.nd rfl (Or.inl rfl) (Or.inr rfl))) (fun _ _ _ _ _ => pts_nil) (fun _ _ _ _ _ => (pe_call (ok_lless T) (hr.mono (by decide)) rfl T.lless.g T.lless.F.kp T.lless.b .nil pass0 (pa_cons (pv 8) (pa_cons (pv 9) pa_nil)))))))
  (pss_one (ps_set (i := 7) sc_lcompared.nd rfl (by first | exact Or.inl rfl | exact Or.inr rfl) (pe_op op_cat (pv 7) (pe_lc (own := [("y", 9)]) (g := (gName 9)) (tt := tYes) (by rfl) sc_lcompared.nd (pi_list (pv 5)) (blkOk_by (own := [("y", 9)]) (N := n_lcompared) (sc := defScope s_lcompared) (by decide +kernel)) (fun _ _ _ _ _ => (pg_name (i := 9) sc_lcompared.nd rfl (Or.inl rfl) (Or.inr rfl))) (fun _ _ _ _ _ => pts_nil) (fun _ _ _ _ _ => (pe_not (pe_call (ok_lless T) (hr.mono (by decide)) rfl T.lless.g T.lless.F.kp T.lless.b .nil pass0 (pa_cons (pv 9) (pa_cons (pv 8) pa_nil)))))))))))
  (pss_cons (ps_if (PW.pt (pw_or (pt_not (pt_val (pe_call (ok_llike T) (hr.mono (by decide)) rfl T.llike.g T.llike.F.kp T.llike.b .nil pass0 (pa_cons (pe_meth (pv 0) T.cl_Span T.Span_below.m (ok_Span_below T) (hr.mono (by decide)) T.Span_below.b .nil pass0 (pa_cons (pv 1) pa_nil)) (pa_cons (pe_call (ok_lagree T) (hr.mono (by decide)) rfl T.lagree.g T.lagree.F.kp T.lagree.b .nil pass0 (pa_cons (pv 6) pa_nil)) pa_nil))))) (pw_or1 (pt_not (pt_val (pe_call (ok_llike T) (hr.mono (by decide)) rfl T.llike.g T.llike.F.kp T.llike.b .nil pass0 (pa_cons (pe_meth (pv 0) T.cl_Span T.Span_at_most.m (ok_Span_at_most T) (hr.mono (by decide)) T.Span_at_most.b .nil pass0 (pa_cons (pv 1) pa_nil)) (pa_cons (pe_call (ok_lagree T) (hr.mono (by decide)) rfl T.lagree.g T.lagree.F.kp T.lagree.b .nil pass0 (pa_cons (pv 7) pa_nil)) pa_nil))))))))
  (pss_one (ps_ret pe_bl))
  pss_nil)
  (pss_one (ps_ret (pe_and (pe_call (ok_llike T) (hr.mono (by decide)) rfl T.llike.g T.llike.F.kp T.llike.b .nil pass0 (pa_cons (pe_meth (pv 0) T.cl_Span T.Span_same.m (ok_Span_same T) (hr.mono (by decide)) T.Span_same.b .nil pass0 (pa_cons (pv 1) pa_nil)) (pa_cons (pe_call (ok_lsame T) (hr.mono (by decide)) rfl T.lsame.g T.lsame.F.kp T.lsame.b .nil pass0 (pa_cons (pv 2) (pa_cons (pv 3) pa_nil))) pa_nil))) (pe_one (pe_call (ok_llike T) (hr.mono (by decide)) rfl T.llike.g T.llike.F.kp T.llike.b .nil pass0 (pa_cons (pe_meth (pv 1) T.cl_Span T.Span_same.m (ok_Span_same T) (hr.mono (by decide)) T.Span_same.b .nil pass0 (pa_cons (pv 0) pa_nil)) (pa_cons (pe_call (ok_lsame T) (hr.mono (by decide)) rfl T.lsame.g T.lsame.F.kp T.lsame.b .nil pass0 (pa_cons (pv 2) (pa_cons (pv 3) pa_nil))) pa_nil)))))))))), fun ss Φ Ψ h => ?_⟩)
  obtain ⟨a, b, c, d, xs, ys, rfl, hab, hcd, ha, hb, hc, hd, hm1, hm2, hxs, hys, hlx, hly, k⟩ := h
  have g1 := below_agree hm1.1 hm1.2 hm2.1 hm2.2 (fun x hx => ⟨(hxs x hx).1, (hxs x hx).2.1⟩) (fun x hx => ⟨(hys x hx).1, (hys x hx).2.1⟩)
  have g2 := most_agree hm1.1 hm1.2 hm2.1 hm2.2 (fun x hx => ⟨(hxs x hx).1, (hxs x hx).2.1⟩) (fun x hx => ⟨(hys x hx).1, (hys x hx).2.1⟩)
  repeat' first | walk_at "ab" | fail
  refine S_forL (ss := xs.map (ratS K)) [8] (fun i Γ => ∃ (o8 o9 : Bd), Γ = [.pl (spanS K T.C a b), .pl (spanS K T.C c d), .pl (tupS K [ratS K a, ratS K b]), .pl (tupS K [ratS K c, ratS K d]), .pl (lstS (xs.map (ratS K))), .pl (lstS (ys.map (ratS K))), .pl (lstS ((allB (fun x y => decide (x < y)) (xs.take i) ys).map fun b => vS (.bl b))), .pl (lstS ((allB (fun x y => !decide (y < x)) (xs.take i) ys).map fun b => vS (.bl b))), o8, o9]) (E_var rfl ⟨rfl, _, _, rfl⟩) ?_ ?_
  · rintro i s Γ hi ⟨o8, o9, rfl⟩
    obtain ⟨p, ep, rfl⟩ := mapGet hi
    have hp := (hxs p (List.mem_of_getElem? ep)).2.2
    have hp : Bq p := hp.mono (by decide) (by decide)
    have h1 : (xs.take i).length ≤ 10 := by rw [List.length_take]; omega
    have h2 := Nat.mul_le_mul h1 hly
    have h3 := List.length_filter_le (fun _ => true) ys
    refine G_name (by decide) ?_
    refine S_seq (S_asg (E_op (E_var rfl ?_)))
    refine E_lcL ys (ratS K) (fun y => vS (.bl (decide (p < y)))) (fun _ => true) (E_var rfl rfl) (by omega) ?_ ?_
    · intro r hr
      have h2 := (hys r hr).2.2
      have h2 : Bq r := h2.mono (by decide) (by decide)
      refine G_name (by decide) (T_yes ⟨rfl, fun _ => ?_⟩)
      repeat' first | walk_at "ab" | fail
      exact ⟨_, _, rfl, hp, h2, rfl⟩
    · refine R_cat ?_ ?_
      · rw [List.length_map, allB_len, List.length_map]
        omega
      · rw [blst_grow, ← allB_take (f := fun x y => decide (x < y)) ep]
        refine S_asg (E_op (E_var rfl ?_))
        refine E_lcL ys (ratS K) (fun y => vS (.bl (!decide (y < p)))) (fun _ => true) (E_var rfl rfl) (by omega) ?_ ?_
        · intro r hr
          have h2 := (hys r hr).2.2
          have h2 : Bq r := h2.mono (by decide) (by decide)
          refine G_name (by decide) (T_yes ⟨rfl, fun _ => ?_⟩)
          repeat' first | walk_at "ab" | fail
          refine ⟨_, _, rfl, h2, hp, ?_⟩
          repeat' first | walk_at "ab" | fail
          rfl
        · refine R_cat ?_ ?_
          · rw [List.length_map, allB_len, List.length_map]
            omega
          · rw [blst_grow, ← allB_take (f := fun x y => !decide (y < x)) ep]
            exact ⟨_, _, rfl⟩
  · rintro Γ ⟨o8, o9, rfl⟩
    rw [List.length_map, List.take_length]
    have q1 := ha.q; have q2 := hb.q; have q3 := hc.q; have q4 := hd.q
    repeat' first | walk_at "recv" | walk_at "fs2" | walk_at "ab" | ((with_reducible show F_like _ _ _ _); first | (rw [g1]; refine like_ob _ ?_) | (rw [g2]; refine like_ob _ ?_)) | ((with_reducible show F_like _ _ _ _); refine like_ob (sameB a b c d) ?_) | ((with_reducible show F_like _ _ _ _); rw [same_sym]; refine like_ob (sameB a b c d) ?_) | ((with_reducible show ∃ a_1 b_1 c_1 d_1 : Rat, _ = _ ∧ _); refine ⟨_, _, _, _, rfl, by assumption, by assumption, by assumption, by assumption, ?_⟩) | (refine E_true ?_ k) | fail
    exact k
/-! ### alone -/
def r17 : Rat := ⟨1, 7, by decide, by decide⟩
theorem sz17 : Sz 2 4 r17 := ⟨by decide, by decide⟩
theorem r17_pos : 0 < r17 := by decide +kernel
theorem nf_self {C : Addr} : PySem.W.notFirst K C (.ref C) = true := by unfold PySem.W.notFirst; simp
local macro_rules | `(tactic| walk_at "eqs") => `(tactic| first
  | (refine R_ownC rfl (ty_span ‹_› _ _) nf_self ?_) | (refine R_ownC rfl ty_tup (Tx.nfTup ‹_›) ?_) | (refine R_ownC rfl ty_non (Tx.nfNon ‹_›) ?_) | (refine R_ownC rfl (ty_str _) (Tx.nfStr ‹_›) ?_)
  | ((with_reducible show F_eq _ _ _ _ _); refine ⟨_, _, _, rfl, .inl ⟨_, _, rfl, ?_⟩⟩) | ((with_reducible show F_eq _ _ _ _ _); refine ⟨_, _, _, rfl, .inr ⟨_, ty_tup, Tx.kTup ‹_›, ?_⟩⟩)
  | ((with_reducible show F_eq _ _ _ _ _); refine ⟨_, _, _, rfl, .inr ⟨_, ty_non, Tx.kNon ‹_›, ?_⟩⟩) | ((with_reducible show F_eq _ _ _ _ _); refine ⟨_, _, _, rfl, .inr ⟨_, ty_str _, Tx.kStr ‹_›, ?_⟩⟩) | fail)
theorem ok_lalone (T : Tx K mg) : FnOk P w K mg base CX0 6 T.lalone.f T.lalone.fd p_lalone (spOf ((fun ss Φ _ => ∃ (a b : Rat), ss = [spanS K T.C a b, tupS K [ratS K a, ratS K b]] ∧ a ≤ b ∧ Be a ∧ Be b ∧ Φ (vS (.bl true))))) := by
  refine ok0 T.lalone.F sc_lalone (by intro ss Φ Ψ h; revert h; walk_at "len") (fun cdv Ar outer s H Er hr => ⟨_, (pss_cons (ps_set (i := 2) sc_lalone.nd rfl (by first | exact Or.inl rfl | exact Or.inr rfl) pe_non)
  (pss_cons (ps_if (pt_cmpR (op_eqD hr.units) (pv 1) (pe_tup (pa_cons (pe_tup (pa_cons pe_int (pa_cons pe_int pa_nil))) (pa_cons (pe_tup (pa_cons pe_int (pa_cons pe_int pa_nil))) pa_nil))) (nomark _))
  (pss_one (ps_set (i := 2) sc_lalone.nd rfl (by first | exact Or.inl rfl | exact Or.inr rfl) pe_bl))
  (pss_one (ps_if (PW.pt (pw_or (pt_val (pe_call (ok_lless T) (hr.mono (by decide)) rfl T.lless.g T.lless.F.kp T.lless.b .nil pass0 (pa_cons (pe_tup (pa_cons pe_int (pa_cons pe_int pa_nil))) (pa_cons (pe_ix ix_tup (pv 1) pe_int (fun _ _ => rfl)) pa_nil)))) (pw_or1 (pt_val (pe_call (ok_lless T) (hr.mono (by decide)) rfl T.lless.g T.lless.F.kp T.lless.b .nil pass0 (pa_cons (pe_ix ix_tup (pv 1) pe_int (fun _ _ => rfl)) (pa_cons (pe_tup (pa_cons pe_int (pa_cons pe_int pa_nil))) pa_nil)))))))
  (pss_one (ps_set (i := 2) sc_lalone.nd rfl (by first | exact Or.inl rfl | exact Or.inr rfl) pe_bl))
  pss_nil)))
  (pss_cons (ps_set (i := 3) sc_lalone.nd rfl (by first | exact Or.inl rfl | exact Or.inr rfl) (pe_ifExp (pt_cmpR (op_eqD hr.units) (pe_ix ix_tup (pv 1) pe_int (fun _ _ => rfl)) (pe_ix ix_tup (pv 1) pe_int (fun _ _ => rfl)) (nomark _)) (pe_call (ok_ltext T) (hr.mono (by decide)) rfl T.ltext.g T.ltext.F.kp T.ltext.b .nil pass0 (pa_cons (pe_ix ix_tup (pv 1) pe_int (fun _ _ => rfl)) pa_nil)) (pe_op op_add_str (pe_op op_add_str (pe_call (ok_ltext T) (hr.mono (by decide)) rfl T.ltext.g T.ltext.F.kp T.ltext.b .nil pass0 (pa_cons (pe_ix ix_tup (pv 1) pe_int (fun _ _ => rfl)) pa_nil)) pe_str) (pe_call (ok_ltext T) (hr.mono (by decide)) rfl T.ltext.g T.ltext.F.kp T.ltext.b .nil pass0 (pa_cons (pe_ix ix_tup (pv 1) pe_int (fun _ _ => rfl)) pa_nil)))))
  (pss_cons (ps_if (PW.pt (pw_or (pt_not (pt_val (pe_call (ok_llike T) (hr.mono (by decide)) rfl T.llike.g T.llike.F.kp T.llike.b .nil pass0 (pa_cons (pe_meth0 (pv 0) T.cl_Span T.Span_truth.m (ok_Span_truth T) (hr.mono (by decide)) T.Span_truth.b .nil pass0) (pa_cons (pv 2) pa_nil))))) (pw_or (pt_not (pt_val (pe_call (ok_llike T) (hr.mono (by decide)) rfl T.llike.g T.llike.F.kp T.llike.b .nil pass0 (pa_cons (pe_meth0 (pv 0) T.cl_Span T.Span_single.m (ok_Span_single T) (hr.mono (by decide)) T.Span_single.b .nil pass0) (pa_cons (pe_cmpR (op_eqD hr.units) (pe_ix ix_tup (pv 1) pe_int (fun _ _ => rfl)) (pe_ix ix_tup (pv 1) pe_int (fun _ _ => rfl)) (nomark _)) pa_nil))))) (pw_or1 (pt_cmpR op_ne (pe_callTy (call_ownStr (ok_Span_Dstr T) (hr.mono (by decide)) T.Span_Dstr.s T.Span_Dstr.i T.Span_Dstr.b pass0) (by rfl) T.str (by decide +kernel) (pa_cons (pv 0) pa_nil)) (pv 3) (nomark _))))))
  (pss_one (ps_ret pe_bl))
  pss_nil)
  (pss_cons (ps_if (pt_not (pt_val (pe_call (ok_lholds T) (hr.mono (by decide)) rfl T.lholds.g T.lholds.F.kp T.lholds.b .nil pass0 (pa_cons (pe_meth0 (pv 0) T.cl_Span T.Span_floor.m (ok_Span_floor T) (hr.mono (by decide)) T.Span_floor.b .nil pass0) (pa_cons (pe_tup (pa_cons (pe_call (ok_ldown T) (hr.mono (by decide)) rfl T.ldown.g T.ldown.F.kp T.ldown.b .nil pass0 (pa_cons (pe_ix ix_tup (pv 1) pe_int (fun _ _ => rfl)) pa_nil)) (pa_cons (pe_call (ok_ldown T) (hr.mono (by decide)) rfl T.ldown.g T.ldown.F.kp T.ldown.b .nil pass0 (pa_cons (pe_ix ix_tup (pv 1) pe_int (fun _ _ => rfl)) pa_nil)) pa_nil))) (pa_cons (pe_lst (pa_cons (pe_call (ok_ldown T) (hr.mono (by decide)) rfl T.ldown.g T.ldown.F.kp T.ldown.b .nil pass0 (pa_cons (pe_ix ix_tup (pv 1) pe_int (fun _ _ => rfl)) pa_nil)) pa_nil)) pa_nil))))))
  (pss_one (ps_ret pe_bl))
  pss_nil)
  (pss_cons (ps_if (PW.pt (pw_or (pt_cmpR (op_ownEq (ok_Span_Deq T) (hr.mono (by decide)) T.Span_Deq.s T.Span_Deq.i T.Span_Deq.b pass0) (pv 0) (pv 1) (nomark _)) (pw_or (pt_cmpR (op_ownEq (ok_Span_Deq T) (hr.mono (by decide)) T.Span_Deq.s T.Span_Deq.i T.Span_Deq.b pass0) (pv 0) (pe_ix ix_tup (pv 1) pe_int (fun _ _ => rfl)) (nomark _)) (pw_or (pt_cmpR (op_ownEq (ok_Span_Deq T) (hr.mono (by decide)) T.Span_Deq.s T.Span_Deq.i T.Span_Deq.b pass0) (pv 0) pe_non (nomark _)) (pw_or1 (pt_cmpR (op_ownEq (ok_Span_Deq T) (hr.mono (by decide)) T.Span_Deq.s T.Span_Deq.i T.Span_Deq.b pass0) (pv 0) (pv 3) (nomark _)))))))
  (pss_one (ps_ret pe_bl))
  pss_nil)
  (pss_one (ps_ret (pe_and (pe_cmpR (op_ownEq (ok_Span_Deq T) (hr.mono (by decide)) T.Span_Deq.s T.Span_Deq.i T.Span_Deq.b pass0) (pv 0) (pe_make T.mkSpan (ok_Span_Dinit T) (hr.mono (by decide)) rfl T.gSpan T.Span_Dinit.b .nil passL (pa_cons (pe_ix ix_tup (pv 1) pe_int (fun _ _ => rfl)) (pa_cons (pe_ix ix_tup (pv 1) pe_int (fun _ _ => rfl)) pa_nil))) (nomark _)) (pe_one (pe_not (pe_cmpR (op_ownEq (ok_Span_Deq T) (hr.mono (by decide)) T.Span_Deq.s T.Span_Deq.i T.Span_Deq.b pass0) (pv 0) (pe_make T.mkSpan (ok_Span_Dinit T) (hr.mono (by decide)) rfl T.gSpan T.Span_Dinit.b .nil passL (pa_cons (pe_ix ix_tup (pv 1) pe_int (fun _ _ => rfl)) (pa_cons (pe_call (ok_lplus T) (hr.mono (by decide)) rfl T.lplus.g T.lplus.F.kp T.lplus.b .nil pass0 (pa_cons (pe_ix ix_tup (pv 1) pe_int (fun _ _ => rfl)) (pa_cons (pe_tup (pa_cons pe_int (pa_cons pe_int pa_nil))) pa_nil))) pa_nil))) (nomark _))))))))))))), fun ss Φ Ψ h => ?_⟩)
  obtain ⟨a, b, rfl, hab, ha, hb, k⟩ := h
  have q1 := ha.q
  have q2 := hb.q
  refine S_seq (S_asg (E_c ?_))
  refine S_mid (fun Γ => Γ = [.pl (spanS K T.C a b), .pl (tupS K [ratS K a, ratS K b]), .pl (obS (truthB a b)), .no]) ?_ ?_
  · repeat' first | walk_at "ab" | (refine R_eqE (r := 0) (s := 0) ?_) | ((with_reducible show F_less _ _ _ _); refine ⟨_, 0, rfl, q2, Bq0, ?_⟩) | ((with_reducible show F_less _ _ _ _); refine ⟨0, _, rfl, Bq0, q1, ?_⟩) | fail
    · rename_i h1
      unfold truthB; rw [if_pos h1]; rfl
    · rename_i h1 h2
      unfold truthB; rw [if_neg h1, if_neg (by grind)]; rfl
    · rename_i h1 h2 h3
      unfold truthB; rw [if_neg h1, if_neg (by grind)]; rfl
    · rename_i h1 h2 h3
      unfold truthB; rw [if_neg h1, if_pos (by grind)]; rfl
  · rintro Γ rfl
    refine S_mid (fun Γ => Γ = [.pl (spanS K T.C a b), .pl (tupS K [ratS K a, ratS K b]), .pl (obS (truthB a b)), .pl (vS (.str (stext a b)))]) ?_ ?_
    · have w1 := wt_len ha
      have w2 := wt_len hb
      repeat' first | walk_at "ab" | (refine R_eqR ?_) | (refine R_cats ?_ ?_) | ((with_reducible show Be _ ∧ _); refine ⟨by assumption, ?_⟩) | fail
      · rename_i h; unfold stext; rw [if_pos h]; rfl
      · rw [show (Str.ofString "..").length = 2 from rfl]; omega
      · rw [Str.length_append, show (Str.ofString "..").length = 2 from rfl]; omega
      · rename_i h; unfold stext; rw [if_neg h]; rfl
    · rintro Γ rfl
      have hm : (a.floor : Rat) ≤ (b.floor : Rat) := Rat.intCast_le_intCast.mpr (Rat.floor_monotone hab)
      have p7 := r17_pos
      have s7 : Bq (b + r17) := sz_add hb sz17 (by decide) (by decide) (by decide) (by decide)
      repeat' first | walk_at "recv" | (refine R_neSame rfl ?_) | ((with_reducible show Be _ ∧ _); refine ⟨by assumption, ?_⟩) | ((with_reducible show Bq _ ∧ _); refine ⟨by assumption, ?_⟩) | (refine ⟨(a.floor : Rat), (b.floor : Rat), [(a.floor : Rat)], rfl, hm, sz_floor ha, sz_floor hb, by show 1 ≤ 100; decide, ?_, ?_⟩) | ((with_reducible show F2 _ (· + ·) _ _ _); refine ⟨_, r17, rfl, q2, sz17.mono (by decide) (by decide), ?_⟩) | (refine ⟨_, _, rfl, by assumption, by assumption, fun _ => ?_, fun _ => ?_⟩) | walk_at "fs1" | walk_at "eqs" | walk_at "ab" | ((with_reducible show F_like _ _ _ _); refine like_ob (truthB a b) ?_) | ((with_reducible show F_like _ _ _ _); refine like_ob (some (decide (a = b))) ?_) | (refine R_eqR ?_) | (refine C_ownStr rfl ?_) | fail
      · intro x hx
        obtain rfl := List.mem_singleton.mp hx
        exact ⟨Rat.le_refl, hm, (sz_floor ha).q⟩
      · have e : (a = a ∧ b = (fun x1 x2 : Rat => x1 + x2) b r17) = False := by
          apply eq_false
          rintro ⟨_, z⟩
          replace z : b = b + r17 := z
          grind
        rw [decide_eq_false (fun z => by rw [e] at z; exact z)]
        exact k
      · rename_i z
        replace z : b + r17 < a := z
        exfalso; grind
      · rename_i z
        exact absurd ⟨rfl, rfl⟩ z
      · rename_i z
        exfalso; grind
end
end K78

/-! K78J -/
namespace K78
open PySem PySem.Spec PyProof.Rows L2 Ab RatM

local macro_rules | `(tactic| walk_at "ab") => `(tactic| first
  | (with_reducible refine S_seq ?_) | (with_reducible refine S_ret ?_) | (with_reducible refine S_asg ?_) | (with_reducible refine S_if ?_) | (with_reducible refine S_next ?_) | (with_reducible refine S_par ?_) | (with_reducible refine S_drop ?_) | (with_reducible refine S_retN ?_)
  | (with_reducible refine E_c ?_) | (with_reducible refine E_op ?_) | (with_reducible refine E_un ?_) | (with_reducible refine E_tup (K := ‹PySem.W.Frag›) ?_) | (with_reducible refine E_lst ?_) | (with_reducible refine E_cb ?_) | (with_reducible refine E_if ?_)
  | (with_reducible refine E_fld ?_) | (with_reducible refine E_not ?_) | (with_reducible refine E_and ?_) | (with_reducible refine E_or ?_) | (with_reducible refine E_meth ?_) | (with_reducible refine E_make ?_)
  | (with_reducible refine A_cons ?_) | (with_reducible refine A_nil ?_) | (with_reducible refine E_call (dss := []) (fun _ => .nil) ?_)
  | (with_reducible refine T_test ?_) | (with_reducible refine T_B ?_) | (with_reducible refine T_not ?_) | (with_reducible refine T_and ?_) | (with_reducible refine T_or ?_)
  | (refine E_var rfl ?_) | (refine R_I0 ?_) | (refine R_ixT rfl ?_) | (refine R_ixL rfl ?_) | (refine R_eqI ?_) | (refine R_eqS ?_) | (refine R_neS ?_) | (refine R_eq rfl ?_) | (refine R_ne rfl ?_) | (refine U_I ?_) | (refine R_I ?_ ?_)
  | (refine C_gcd ?_) | (refine C_abs ?_) | (refine C_int ?_) | (refine C_intB ?_)
  | ((with_reducible show ∃ (s s' : Slot), _ = [s, s'] ∧ _); refine ⟨_, _, rfl, ?_⟩)
  | (refine ⟨_, rfl, ?_⟩)
  | (refine spl (fun h => ?_) (fun h => ?_)) | (refine splN (fun h => ?_) (fun h => ?_)) | (refine splT ?_) | (refine splF ?_) | (refine spl2 (fun h => ?_) (fun h => ?_))
  | (refine len_ok ?_) | fail)

local macro_rules | `(tactic| walk_at "len") => `(tactic| first
  | (rintro ⟨e, _⟩; rw [e]; rfl) | (rintro ⟨_, e, _⟩; rw [e]; rfl) | (rintro ⟨_, _, e, _⟩; rw [e]; rfl) | (rintro ⟨_, _, _, e, _⟩; rw [e]; rfl) | (rintro ⟨_, _, _, _, e, _⟩; rw [e]; rfl) | (rintro ⟨_, _, _, _, _, e, _⟩; rw [e]; rfl) | (rintro ⟨_, _, _, _, _, _, e, _⟩; rw [e]; rfl))
local macro_rules | `(tactic| walk_at "side") => `(tactic| first
  | assumption | exact Be.q (by assumption) | exact cmul (by assumption) (by assumption) | exact cmulD (by assumption) (by assumption) | exact cmulN (by assumption) (by assumption) | exact cmulX (by assumption) (by assumption))
local macro_rules | `(tactic| walk_at "call2") => `(tactic| ((first | (with_reducible show F2 _ _ _ _ _) | (with_reducible show F_less _ _ _ _)); refine ⟨_, _, rfl, ?_, ?_, ?_⟩; (walk_at "side"); (walk_at "side")))
local macro_rules | `(tactic| walk_at "fld") => `(tactic| (refine ⟨_, _, _, rfl, Tx.cl ‹_›, ?_, rfl, ?_⟩; (first | exact Tx.nLow ‹_› | exact Tx.nHigh ‹_›)))
local macro_rules | `(tactic| walk_at "like") => `(tactic| ((with_reducible show F_like _ _ _ _); (first | (refine .inr ⟨_, rfl, ?_⟩) | (refine .inl ⟨_, rfl, .inl rfl, ?_⟩) | (refine .inl ⟨_, rfl, .inr (.inr ⟨_, rfl⟩), ?_⟩) | (refine .inl ⟨_, rfl, .inr (.inl ⟨_, rfl⟩), ?_⟩))))
local macro_rules | `(tactic| walk_at "fs2") => `(tactic| ((with_reducible show FS2 _ _ _ _ _ _); refine ⟨_, _, _, _, rfl, ?_, ?_, ?_, ?_, ?_, ?_, ?_⟩; (walk_at "side"); (walk_at "side"); (walk_at "side"); (walk_at "side"); (walk_at "side"); (walk_at "side")))
local macro_rules | `(tactic| walk_at "fs1") => `(tactic| ((with_reducible show FS1 _ _ _ _ _ _); refine ⟨_, _, rfl, ?_, ?_, ?_, ?_⟩; (walk_at "side"); (walk_at "side"); (walk_at "side")))
local macro_rules | `(tactic| walk_at "recv") => `(tactic| ((refine ⟨_, rfl, ?hl, ?_⟩); (case hl => exact look_no (by decide +kernel) (by decide +kernel))))
section
variable {P : Program} {w : World} {K : PySem.W.Frag} {mg : Str → Option Value} {base : Heap}
def bagY (cl : Addr) (ys : List V) : Prop := ∃ p a s n : Int, ys = [.ref cl, .int p, .int a, .int s, .int n] ∧ 0 ≤ p ∧ 0 ≤ a ∧ 0 ≤ s ∧ s < 4294967296
def pullZ (H : Hp) (cl : Addr) (rest : List V) : Prop := ∃ (m : Int) (ns : List Int), rest = [.int m] ∧ 0 < m ∧ m < 2 ^ 64 ∧ H cl = some (.lst (ns.map V.int))
def pullR (rest : List V) (r : V) : Prop := ∃ m d : Int, rest = [.int m] ∧ r = .int d ∧ 0 ≤ d ∧ d < m
def clS (cl : Addr) (ns : List Int) : Slot := ⟨fun v H => v = .ref cl ∧ H cl = some (.lst (ns.map V.int)), fun e ⟨h1, h2⟩ => ⟨h1, e _ _ h2⟩⟩
def intsS (ns : List Int) : List Slot := ns.map fun n => vS (.int n)
theorem intsS_len (ns : List Int) : (intsS ns).length = ns.length := by unfold intsS; rw [List.length_map]
theorem psl_ints (ns : List Int) (H : Hp) : PSl (ns.map V.int) (intsS ns) H := by
  unfold intsS
  induction ns with
  | nil => exact .nil
  | cons n ns ih => exact .cons rfl ih
theorem cl_lst {cl : Addr} {ns : List Int} (v : V) (H : Hp) (h : (clS cl ns).P v H) : (lstS (intsS ns)).P v H := ⟨cl, _, h.1, h.2, psl_ints _ _⟩
theorem at_ints {ns : List Int} {p : Int} (h0 : 0 ≤ p) (h1 : p < (ns.length : Nat)) : ∃ c, L2.atI (intsS ns) p = some (vS (.int c)) := by
  obtain ⟨j, rfl⟩ : ∃ j : Nat, p = (j : Int) := ⟨p.toNat, by omega⟩
  have hj : j < ns.length := by omega
  refine ⟨ns[j], L2.atI_nat ?_⟩
  unfold intsS
  rw [List.getElem?_map, List.getElem?_eq_getElem hj]; rfl
def bagL (cl : Addr) (ns : List Int) (p a s n : Int) : List Slot := [clS cl ns, vS (.int p), vS (.int a), vS (.int s), vS (.int n)]
local macro_rules | `(tactic| walk_at "bag") => `(tactic| first
  | (refine E_ixOwn rfl (E_c ⟨_, _, _, rfl, rfl, cl_lst, ?_⟩)) | (refine E_ixOwn rfl (E_c ⟨_, _, _, rfl, rfl, fun _ _ h => h, ?_⟩)) | (refine S_setOwn rfl ?_) | (refine ⟨_, _, rfl, rfl, ?_⟩)
  | ((with_reducible show Ab.C _ [lstS (intsS _)] _); refine C_len _ _ ⟨.inl rfl, intsS_len _⟩ ?_) | ((with_reducible show _ ≠ (0 : Int)); omega) | (refine R_ixL (at_ints (by assumption) (by assumption)).choose_spec ?_)
  | ((with_reducible show CMul _ _); (first | exact .inr ⟨by decide, by decide⟩ | exact .inl ⟨by decide, by decide⟩ | exact .inl ⟨by omega, by omega⟩))
  | ((with_reducible show CPow _ _); exact ⟨by decide, by decide, by decide⟩) | ((with_reducible show CDivNW _ _); exact CDivNW.of (b := 64) (by omega) (by omega) (by decide) (by decide)) | fail)
theorem fmod_in {x y : Int} (h : 0 < y) : 0 ≤ x.fmod y ∧ x.fmod y < y := fit_turn h
theorem ok_pull0 (T : Tx K mg) : FnOk P w K mg base CX0 1 T.lpull.f T.lpull.fd p_lpull (spWr bagY pullZ pullR) := by
  refine T.lpull.F.ok sc_lpull (fun vs H Q E h => ?_) (fun cdv Ar outer s H vs Q Er hr h => ⟨_, (pss_cons (ps_if (PW.pt (pw_and (pt_cmpR op_eq (pe_ix ix_list (pv 0) pe_int (fun _ _ => rfl)) pe_int (nomark _)) (pw_and1 (pt_cmpR op_lt (pe_ix ix_list (pv 0) pe_int (fun _ _ => rfl)) (pe_callB call_len_seq (by rfl) T.len PySem.boot_len (pa_cons (pe_ix ix_list (pv 0) pe_int (fun _ _ => rfl)) pa_nil)) (nomark _)))))
  (pss_cons (ps_set (i := 2) sc_lpull.nd rfl (by first | exact Or.inl rfl | exact Or.inr rfl) (pe_ix ix_list (pe_ix ix_list (pv 0) pe_int (fun _ _ => rfl)) (pe_ix ix_list (pv 0) pe_int (fun _ _ => rfl)) (fun _ _ => rfl)))
  (pss_cons (ps_asg (pe_op op_add (pe_ix ix_list (pv 0) pe_int (fun _ _ => rfl)) pe_int) (pg_sub (pv 0) pe_int set_list))
  (pss_one (ps_if (pt_cmpR op_ge (pe_callB call_abs (by rfl) T.abs (by decide +kernel) (pa_cons (pv 2) pa_nil)) (pe_op op_pow pe_int pe_int) (nomark _))
  (pss_one (ps_asg (pe_callB call_abs (by rfl) T.abs (by decide +kernel) (pa_cons (pv 2) pa_nil)) (pg_sub (pv 0) pe_int set_list)))
  (pss_one (ps_asg (pe_op op_modN (pe_callTy call_int1 (by rfl) T.int (by decide +kernel) (pa_cons (pe_op op_add (pe_op op_add (pe_op op_mul (pe_ix ix_list (pv 0) pe_int (fun _ _ => rfl)) pe_int) (pe_op op_mul (pe_op op_modN (pe_callTy call_int1 (by rfl) T.int (by decide +kernel) (pa_cons (pv 2) pa_nil)) pe_int) pe_int)) pe_int) pa_nil)) pe_int) (pg_sub (pv 0) pe_int set_list)))))))
  pss_nil)
  (pss_cons (ps_if (pt_cmpR op_gt (pe_ix ix_list (pv 0) pe_int (fun _ _ => rfl)) pe_int (nomark _))
  (pss_cons (ps_set (i := 3) sc_lpull.nd rfl (by first | exact Or.inl rfl | exact Or.inr rfl) (pe_op op_modN (pe_callTy call_int1 (by rfl) T.int (by decide +kernel) (pa_cons (pe_ix ix_list (pv 0) pe_int (fun _ _ => rfl)) pa_nil)) (pv 1)))
  (pss_cons (ps_asg (pe_op op_fdivNW (pe_ix ix_list (pv 0) pe_int (fun _ _ => rfl)) (pv 1)) (pg_sub (pv 0) pe_int set_list))
  (pss_one (ps_ret (pv 3)))))
  pss_nil)
  (pss_cons (ps_asg (pe_op op_add (pe_ix ix_list (pv 0) pe_int (fun _ _ => rfl)) pe_int) (pg_sub (pv 0) pe_int set_list))
  (pss_cons (ps_set (i := 4) sc_lpull.nd rfl (by first | exact Or.inl rfl | exact Or.inr rfl) (pe_op op_modN (pe_callTy call_int1 (by rfl) T.int (by decide +kernel) (pa_cons (pe_op op_add (pe_op op_mul (pe_ix ix_list (pv 0) pe_int (fun _ _ => rfl)) (pe_ix ix_list (pv 0) pe_int (fun _ _ => rfl))) (pe_op op_mul (pe_ix ix_list (pv 0) pe_int (fun _ _ => rfl)) pe_int)) pa_nil)) pe_int))
  (pss_cons (ps_asg (pe_op op_modN (pe_callTy call_int1 (by rfl) T.int (by decide +kernel) (pa_cons (pe_op op_add (pe_op op_add (pe_op op_mul (pv 4) pe_int) (pe_op op_mul (pe_ix ix_list (pv 0) pe_int (fun _ _ => rfl)) pe_int)) pe_int) pa_nil)) pe_int) (pg_sub (pv 0) pe_int set_list))
  (pss_one (ps_ret (pe_op op_modN (pe_callTy call_int1 (by rfl) T.int (by decide +kernel) (pa_cons (pe_op op_fdivNW (pe_ix ix_list (pv 0) pe_int (fun _ _ => rfl)) pe_int) pa_nil)) (pv 1))))))))), ?_⟩)
  · obtain ⟨b, cl, xs, rest, rfl, _, _, _, ⟨m, ns, rfl, _⟩, _⟩ := h
    rfl
  · obtain ⟨b, cl, xs, rest, rfl, hb, ⟨p, a, s', n, rfl, p0, a0, s0, s1⟩, hne, ⟨m, ns, rfl, m0, m1, hcl⟩, q⟩ := h
    refine enter_own (ss := bagL cl ns p a s' n) (rest := [vS (.int m)]) (Φ := { nx := fun _ => False, rt := fun s Γ => ∃ (p a s' n d : Int) (Γ' : List Bd), Γ = .own b (bagL cl ns p a s' n) :: Γ' ∧ 0 ≤ p ∧ 0 ≤ a ∧ 0 ≤ s' ∧ s' < 4294967296 ∧ s = vS (.int d) ∧ 0 ≤ d ∧ d < m, bk := fun _ => False, ct := fun _ => False })
      hb (.cons ⟨rfl, by rw [less_ne hne]; exact hcl⟩ (.cons rfl (.cons rfl (.cons rfl (.cons rfl .nil))))) (.cons rfl .nil) ⟨fun _ _ _ _ _ z => z.elim, ?_, fun _ _ _ _ _ z => z.elim, fun _ _ _ _ _ z => z.elim, fun _ _ _ _ _ _ _ _ z => z.elim⟩ ?_
    · rintro s v Γ σ B H' at' pv ⟨p', a', s'', n', d, Γ', rfl, p0', a0', s0', s1', rfl, d0, d1⟩
      obtain ⟨_, _, ys, hy, py⟩ := at'.rel.own 0 b _ rfl
      obtain rfl : v = .int d := pv
      refine q _ ys H' ⟨m, d, rfl, rfl, d0, d1⟩ ?_ hy fun c o h1 h2 => at'.wrote h1 h2
      cases py with
      | cons h1 py => cases py with
        | cons h2 py => cases py with
          | cons h3 py => cases py with
            | cons h4 py => cases py with
              | cons h5 py =>
                cases py
                exact ⟨p', a', s'', n', by rw [h1.1, show _ = V.int p' from h2, show _ = V.int a' from h3, show _ = V.int s'' from h4, show _ = V.int n' from h5], p0', a0', s0', s1'⟩
    · have hmod : ∀ x : Int, 0 ≤ x.fmod 2147483629 ∧ x.fmod 2147483629 < 4294967296 := fun x => ⟨(fmod_in (by decide)).1, Int.lt_trans (fmod_in (x := x) (y := 2147483629) (by decide)).2 (by decide)⟩
      refine S_mid (fun Γ => ∃ (p a s' n : Int) (o : Bd), Γ = [.own b (bagL cl ns p a s' n), .pl (vS (.int m)), o, .no, .no] ∧ 0 ≤ p ∧ 0 ≤ a ∧ 0 ≤ s' ∧ s' < 4294967296) ?_ ?_
      · repeat' first | walk_at "bag" | walk_at "ab" | fail
        · exact ⟨_, _, _, _, _, rfl, by omega, by split <;> omega, s0, s1⟩
        · exact ⟨_, _, _, _, _, rfl, by omega, a0, (hmod _).1, (hmod _).2⟩
        · exact ⟨_, _, _, _, _, rfl, p0, a0, s0, s1⟩
        · exact ⟨_, _, _, _, _, rfl, p0, a0, s0, s1⟩
      · rintro Γ ⟨p, a, s', n, o, rfl, p0, a0, s0, s1⟩
        repeat' first | walk_at "bag" | walk_at "ab" | fail
        · exact ⟨_, _, _, _, _, _, rfl, p0, Int.fdiv_nonneg a0 (by omega), s0, s1, rfl, (fmod_in m0).1, (fmod_in m0).2⟩
        · exact ⟨_, _, _, _, _, _, rfl, p0, a0, (hmod _).1, (hmod _).2, rfl, (fmod_in m0).1, (fmod_in m0).2⟩
theorem pullZ_upd (H : Hp) (b : Addr) (o : HO) (cl : Addr) (rest : List V) (hne : cl ≠ b) (h : pullZ H cl rest) : pullZ (upd H b o) cl rest := by
  obtain ⟨m, ns, h1, h2, h3, h4⟩ := h
  exact ⟨m, ns, h1, h2, h3, by rw [upd_ne hne]; exact h4⟩
def bagS : Slot := ⟨fun v H => ∃ (b cl : Addr) (ns : List Int), v = .ref b ∧ H b = some (lentO b (bagY cl)) ∧ cl ≠ b ∧ H cl = some (.lst (ns.map V.int)), fun e ⟨b, cl, ns, h1, h2, h3, h4⟩ => ⟨b, cl, ns, h1, e _ _ h2, h3, e _ _ h4⟩⟩
def F_pull : FS := fun ss Φ _ => ∃ m : Int, ss = [bagS, vS (.int m)] ∧ 0 < m ∧ m < 2 ^ 64 ∧ ∀ r : Int, 0 ≤ r → r < m → Φ (vS (.int r))
theorem ok_lpull (T : Tx K mg) : FnOk P w K mg base CX0 1 T.lpull.f T.lpull.fd p_lpull (spOf F_pull) := by
  refine (ok_lent pullZ_upd (ok_pull0 T) (fun H cl rest ⟨m, ns, e, _⟩ => by rw [e]; rfl)).imp fun vs H Q E h => ?_
  obtain ⟨B, ss, Φ, Ψ, bs, p, ⟨m, rfl, m0, m1, k⟩, q, _⟩ := h
  cases p with
  | cons pb p => cases p with
    | cons pm p =>
      cases p
      obtain ⟨b, cl, ns, rfl, h2, h3, h4⟩ := pb
      refine ⟨b, cl, _, rfl, bs _ _ h2, ⟨m, ns, by rw [show _ = V.int m from pm], m0, m1, bs _ _ h4⟩, h3, fun r H' hr hs => ?_⟩
      obtain ⟨m', d, e, rfl, d0, d1⟩ := hr
      have em : V.int m = V.int m' := (show _ = V.int m from pm).symm.trans (List.cons.inj e).1
      cases em
      exact q (vS (.int d)) _ B H' (.gain bs hs) rfl (k d d0 d1)
local macro_rules | `(tactic| walk_at "pull") => `(tactic| ((with_reducible show F_pull _ _ _); refine ⟨_, rfl, (by first | decide | omega), (by first | decide | omega), fun r r0 r1 => ?_⟩))
theorem at_any {ss : List Slot} {p : Int} (h0 : 0 ≤ p) (h1 : p < (ss.length : Nat)) : ∃ s, L2.atI ss p = some s ∧ s ∈ ss := by
  obtain ⟨j, rfl⟩ : ∃ j : Nat, p = (j : Int) := ⟨p.toNat, by omega⟩
  have hj : j < ss.length := by omega
  exact ⟨ss[j], L2.atI_nat (List.getElem?_eq_getElem hj), List.getElem_mem hj⟩
def F_of : FS := fun ss Φ _ => ∃ l : List Slot, ss = [bagS, lstS l] ∧ 0 < l.length ∧ l.length < 100 ∧ ∀ s ∈ l, Φ s
theorem ok_lof (T : Tx K mg) : FnOk P w K mg base CX0 2 T.lof.f T.lof.fd p_lof (spOf (F_of)) := by
  refine ok0 T.lof.F sc_lof (by intro ss Φ Ψ h; revert h; walk_at "len") (fun cdv Ar outer s H Er hr => ⟨_, (pss_one (ps_ret (pe_ix ix_list (pv 1) (pe_call (ok_lpull T) (hr.mono (by decide)) rfl T.lpull.g T.lpull.F.kp T.lpull.b .nil pass0 (pa_cons (pv 0) (pa_cons (pe_callB call_len_seq (by rfl) T.len PySem.boot_len (pa_cons (pv 1) pa_nil)) pa_nil))) (fun _ _ => rfl)))), fun ss Φ Ψ h => ?_⟩)
  obtain ⟨l, rfl, l0, l1, k⟩ := h
  repeat' first | walk_at "pull" | (refine C_len _ l.length ⟨.inl rfl, rfl⟩ ?_) | walk_at "ab" | fail
  rename_i r r0 r1
  obtain ⟨s, e, hs⟩ := at_any r0 r1
  exact R_ixL e (k s hs)
theorem szI {i : Int} {n d : Nat} (h : i.natAbs < 2 ^ n) (hd : 0 < d) : Sz n d (i : Rat) := ⟨h, by
  show 1 < 2 ^ d
  exact Nat.one_lt_two_pow (by omega)⟩
theorem of_ints {xs : List Int} {Φ : Slot → Prop} (h : ∀ x ∈ xs, Φ (vS (.int x))) : ∀ s ∈ xs.map (fun x => vS (.int x)), Φ s := fun s hs => by
  obtain ⟨x, hx, rfl⟩ := List.mem_map.mp hs
  exact h x hx
theorem lt_8000 {n m : Nat} (h : n < 2 ^ m) (hm : m ≤ 8000) : n < 2 ^ 8000 := Nat.lt_of_lt_of_le h (Nat.pow_le_pow_right (by decide) hm)
theorem p10 : (10 : Int) ^ Int.toNat 10 = 10000000000 := by decide
theorem p15 : (10 : Int) ^ Int.toNat 15 = 1000000000000000 := by decide
theorem p18 : (10 : Int) ^ Int.toNat 18 = 1000000000000000000 := by decide
theorem p20 : (10 : Int) ^ Int.toNat 20 = 100000000000000000000 := by decide
theorem ok_lworth (T : Tx K mg) : FnOk P w K mg base CX0 3 T.lworth.f T.lworth.fd p_lworth (spOf ((fun ss Φ _ => ss = [bagS] ∧ ∀ q : Rat, Sz 100 50 q → Φ (ratS K q)))) := by
  refine ok0 T.lworth.F sc_lworth (by intro ss Φ Ψ h; revert h; walk_at "len") (fun cdv Ar outer s H Er hr => ⟨_, (pss_cons (ps_set (i := 1) sc_lworth.nd rfl (by first | exact Or.inl rfl | exact Or.inr rfl) (pe_call (ok_lpull T) (hr.mono (by decide)) rfl T.lpull.g T.lpull.F.kp T.lpull.b .nil pass0 (pa_cons (pv 0) (pa_cons pe_int pa_nil))))
  (pss_cons (ps_if (pt_cmpR op_lt (pv 1) pe_int (nomark _))
  (pss_one (ps_ret (pe_tup (pa_cons (pe_call (ok_lof T) (hr.mono (by decide)) rfl T.lof.g T.lof.F.kp T.lof.b .nil pass0 (pa_cons (pv 0) (pa_cons (pe_lst (pa_cons pe_int (pa_cons pe_int (pa_cons pe_int (pa_cons (pe_un un_neg pe_int) pa_nil))))) pa_nil))) (pa_cons pe_int pa_nil)))))
  pss_nil)
  (pss_cons (ps_if (pt_cmpR op_lt (pv 1) pe_int (nomark _))
  (pss_one (ps_ret (pe_call (ok_lfit T) (hr.mono (by decide)) rfl T.lfit.g T.lfit.F.kp T.lfit.b .nil pass0 (pa_cons (pe_op op_sub (pe_call (ok_lpull T) (hr.mono (by decide)) rfl T.lpull.g T.lpull.F.kp T.lpull.b .nil pass0 (pa_cons (pv 0) (pa_cons pe_int pa_nil))) pe_int) (pa_cons (pe_op op_add pe_int (pe_call (ok_lpull T) (hr.mono (by decide)) rfl T.lpull.g T.lpull.F.kp T.lpull.b .nil pass0 (pa_cons (pv 0) (pa_cons pe_int pa_nil)))) pa_nil)))))
  pss_nil)
  (pss_cons (ps_set (i := 2) sc_lworth.nd rfl (by first | exact Or.inl rfl | exact Or.inr rfl) (pe_op op_add (pe_op op_mul (pe_op op_pow pe_int pe_int) (pe_call (ok_lpull T) (hr.mono (by decide)) rfl T.lpull.g T.lpull.F.kp T.lpull.b .nil pass0 (pa_cons (pv 0) (pa_cons (pe_op op_pow pe_int pe_int) pa_nil)))) (pe_call (ok_lpull T) (hr.mono (by decide)) rfl T.lpull.g T.lpull.F.kp T.lpull.b .nil pass0 (pa_cons (pv 0) (pa_cons (pe_op op_pow pe_int pe_int) pa_nil)))))
  (pss_one (ps_ret (pe_call (ok_lfit T) (hr.mono (by decide)) rfl T.lfit.g T.lfit.F.kp T.lfit.b .nil pass0 (pa_cons (pe_call (ok_lof T) (hr.mono (by decide)) rfl T.lof.g T.lof.F.kp T.lof.b .nil pass0 (pa_cons (pv 0) (pa_cons (pe_lst (pa_cons (pv 2) (pa_cons (pe_un un_neg (pv 2)) pa_nil))) pa_nil))) (pa_cons (pe_op op_add pe_int (pe_call (ok_lof T) (hr.mono (by decide)) rfl T.lof.g T.lof.F.kp T.lof.b .nil pass0 (pa_cons (pv 0) (pa_cons (pe_lst (pa_cons pe_int (pa_cons (pe_call (ok_lpull T) (hr.mono (by decide)) rfl T.lpull.g T.lpull.F.kp T.lpull.b .nil pass0 (pa_cons (pv 0) (pa_cons (pe_op op_pow pe_int pe_int) pa_nil))) pa_nil))) pa_nil)))) pa_nil))))))))), fun ss Φ Ψ h => ?_⟩)
  obtain ⟨rfl, k⟩ := h
  repeat' first | walk_at "bag" | walk_at "pull" | walk_at "ab" | fail
  · refine of_ints (xs := [(0 : Int), 0, 1, -1]) fun x hx => ?_
    repeat' first | walk_at "ab" | fail
    refine k (x : Rat) (szI ?_ (by decide))
    simp only [List.mem_cons, List.not_mem_nil, or_false] at hx
    rcases hx with rfl | rfl | rfl | rfl <;> decide
  · rename_i r' r0' r1' r r0 r1
    have g1 : (r' - 10).natAbs < 2 ^ 100 := by omega
    have g2 : (1 + r).natAbs < 2 ^ 50 := by omega
    exact ⟨_, _, rfl, lt_8000 g1 (by decide), lt_8000 g2 (by decide), k _ (sz_divInt g1 g2 (by decide))⟩
  · rename_i r r0 r1
    rw [p10] at r1
    exact .inr ⟨by omega, by omega⟩
  · rename_i r r0 r1 r2 r20 r21
    rw [p10] at r1
    rw [p18] at r21
    rw [p20]
    refine of_ints (xs := [100000000000000000000 * r + r2, -(100000000000000000000 * r + r2)]) fun x hx => ?_
    have g1 : x.natAbs < 2 ^ 100 := by
      simp only [List.mem_cons, List.not_mem_nil, or_false] at hx
      rcases hx with rfl | rfl <;> omega
    repeat' first | walk_at "bag" | walk_at "pull" | walk_at "ab" | fail
    rename_i z z0 z1
    rw [p15] at z1
    refine of_ints (xs := [0, z]) fun y hy => ?_
    have g2 : (1 + y).natAbs < 2 ^ 50 := by
      simp only [List.mem_cons, List.not_mem_nil, or_false] at hy
      rcases hy with rfl | rfl <;> omega
    repeat' first | walk_at "bag" | walk_at "pull" | walk_at "ab" | fail
    exact ⟨_, _, rfl, lt_8000 g1 (by decide), lt_8000 g2 (by decide), k _ (sz_divInt g1 g2 (by decide))⟩
end
end K78

/-! K78K -/
namespace K78
open PySem PySem.Spec PyProof.Rows L2 Ab RatM

local macro_rules | `(tactic| walk_at "ab") => `(tactic| first
  | (with_reducible refine S_seq ?_) | (with_reducible refine S_ret ?_) | (with_reducible refine S_asg ?_) | (with_reducible refine S_if ?_) | (with_reducible refine S_next ?_) | (with_reducible refine S_par ?_) | (with_reducible refine S_drop ?_) | (with_reducible refine S_retN ?_)
  | (with_reducible refine E_c ?_) | (with_reducible refine E_op ?_) | (with_reducible refine E_un ?_) | (with_reducible refine E_tup (K := ‹PySem.W.Frag›) ?_) | (with_reducible refine E_lst ?_) | (with_reducible refine E_cb ?_) | (with_reducible refine E_if ?_)
  | (with_reducible refine E_fld ?_) | (with_reducible refine E_not ?_) | (with_reducible refine E_and ?_) | (with_reducible refine E_or ?_) | (with_reducible refine E_meth ?_) | (with_reducible refine E_make ?_)
  | (with_reducible refine A_cons ?_) | (with_reducible refine A_nil ?_) | (with_reducible refine E_call (dss := []) (fun _ => .nil) ?_)
  | (with_reducible refine T_test ?_) | (with_reducible refine T_B ?_) | (with_reducible refine T_not ?_) | (with_reducible refine T_and ?_) | (with_reducible refine T_or ?_)
  | (refine E_var rfl ?_) | (refine R_I0 ?_) | (refine R_ixT rfl ?_) | (refine R_ixL rfl ?_) | (refine R_eqI ?_) | (refine R_eqS ?_) | (refine R_neS ?_) | (refine R_eq rfl ?_) | (refine R_ne rfl ?_) | (refine U_I ?_) | (refine R_I ?_ ?_)
  | (refine C_gcd ?_) | (refine C_abs ?_) | (refine C_int ?_) | (refine C_intB ?_)
  | ((with_reducible show ∃ (s s' : Slot), _ = [s, s'] ∧ _); refine ⟨_, _, rfl, ?_⟩)
  | (refine ⟨_, rfl, ?_⟩)
  | (refine spl (fun h => ?_) (fun h => ?_)) | (refine splN (fun h => ?_) (fun h => ?_)) | (refine splT ?_) | (refine splF ?_) | (refine spl2 (fun h => ?_) (fun h => ?_))
  | (refine len_ok ?_) | fail)

local macro_rules | `(tactic| walk_at "len") => `(tactic| first
  | (rintro ⟨e, _⟩; rw [e]; rfl) | (rintro ⟨_, e, _⟩; rw [e]; rfl) | (rintro ⟨_, _, e, _⟩; rw [e]; rfl) | (rintro ⟨_, _, _, e, _⟩; rw [e]; rfl) | (rintro ⟨_, _, _, _, e, _⟩; rw [e]; rfl) | (rintro ⟨_, _, _, _, _, e, _⟩; rw [e]; rfl) | (rintro ⟨_, _, _, _, _, _, e, _⟩; rw [e]; rfl))
local macro_rules | `(tactic| walk_at "side") => `(tactic| first
  | assumption | exact Be.q (by assumption) | exact cmul (by assumption) (by assumption) | exact cmulD (by assumption) (by assumption) | exact cmulN (by assumption) (by assumption) | exact cmulX (by assumption) (by assumption))
local macro_rules | `(tactic| walk_at "call2") => `(tactic| ((first | (with_reducible show F2 _ _ _ _ _) | (with_reducible show F_less _ _ _ _)); refine ⟨_, _, rfl, ?_, ?_, ?_⟩; (walk_at "side"); (walk_at "side")))
local macro_rules | `(tactic| walk_at "fld") => `(tactic| (refine ⟨_, _, _, rfl, Tx.cl ‹_›, ?_, rfl, ?_⟩; (first | exact Tx.nLow ‹_› | exact Tx.nHigh ‹_›)))
local macro_rules | `(tactic| walk_at "like") => `(tactic| ((with_reducible show F_like _ _ _ _); (first | (refine .inr ⟨_, rfl, ?_⟩) | (refine .inl ⟨_, rfl, .inl rfl, ?_⟩) | (refine .inl ⟨_, rfl, .inr (.inr ⟨_, rfl⟩), ?_⟩) | (refine .inl ⟨_, rfl, .inr (.inl ⟨_, rfl⟩), ?_⟩))))
local macro_rules | `(tactic| walk_at "fs2") => `(tactic| ((with_reducible show FS2 _ _ _ _ _ _); refine ⟨_, _, _, _, rfl, ?_, ?_, ?_, ?_, ?_, ?_, ?_⟩; (walk_at "side"); (walk_at "side"); (walk_at "side"); (walk_at "side"); (walk_at "side"); (walk_at "side")))
local macro_rules | `(tactic| walk_at "fs1") => `(tactic| ((with_reducible show FS1 _ _ _ _ _ _); refine ⟨_, _, rfl, ?_, ?_, ?_, ?_⟩; (walk_at "side"); (walk_at "side"); (walk_at "side")))
local macro_rules | `(tactic| walk_at "recv") => `(tactic| ((refine ⟨_, rfl, ?hl, ?_⟩); (case hl => exact look_no (by decide +kernel) (by decide +kernel))))
local macro_rules | `(tactic| walk_at "bag") => `(tactic| first
  | (refine E_ixOwn rfl (E_c ⟨_, _, _, rfl, rfl, cl_lst, ?_⟩)) | (refine E_ixOwn rfl (E_c ⟨_, _, _, rfl, rfl, fun _ _ h => h, ?_⟩)) | (refine S_setOwn rfl ?_) | (refine ⟨_, _, rfl, rfl, ?_⟩)
  | ((with_reducible show Ab.C _ [lstS (intsS _)] _); refine C_len _ _ ⟨.inl rfl, intsS_len _⟩ ?_) | ((with_reducible show _ ≠ (0 : Int)); omega) | (refine R_ixL (at_ints (by assumption) (by assumption)).choose_spec ?_)
  | ((with_reducible show CMul _ _); (first | exact .inr ⟨by decide, by decide⟩ | exact .inl ⟨by decide, by decide⟩ | exact .inl ⟨by omega, by omega⟩))
  | ((with_reducible show CPow _ _); exact ⟨by decide, by decide, by decide⟩) | ((with_reducible show CDivNW _ _); exact CDivNW.of (b := 64) (by omega) (by omega) (by decide) (by decide)) | fail)
local macro_rules | `(tactic| walk_at "pull") => `(tactic| ((with_reducible show F_pull _ _ _); refine ⟨_, rfl, (by first | decide | omega), (by first | decide | omega), fun r r0 r1 => ?_⟩))
section
variable {P : Program} {w : World} {K : PySem.W.Frag} {mg : Str → Option Value} {base : Heap}
theorem ok_lends (T : Tx K mg) : FnOk P w K mg base CX0 4 T.lends.f T.lends.fd p_lends (spOf ((fun ss Φ _ => ss = [bagS] ∧ ∀ a b : Rat, a ≤ b → Sz 103 52 a → Sz 103 52 b → Φ (tupS K [ratS K a, ratS K b])))) := by
  refine ok0 T.lends.F sc_lends (by intro ss Φ Ψ h; revert h; walk_at "len") (fun cdv Ar outer s H Er hr => ⟨_, (pss_cons (ps_set (i := 1) sc_lends.nd rfl (by first | exact Or.inl rfl | exact Or.inr rfl) (pe_call (ok_lworth T) (hr.mono (by decide)) rfl T.lworth.g T.lworth.F.kp T.lworth.b .nil pass0 (pa_cons (pv 0) pa_nil)))
  (pss_cons (ps_set (i := 2) sc_lends.nd rfl (by first | exact Or.inl rfl | exact Or.inr rfl) (pe_ifExp (pt_cmpR op_eq (pe_call (ok_lpull T) (hr.mono (by decide)) rfl T.lpull.g T.lpull.F.kp T.lpull.b .nil pass0 (pa_cons (pv 0) (pa_cons pe_int pa_nil))) pe_int (nomark _)) (pv 1) (pe_call (ok_lworth T) (hr.mono (by decide)) rfl T.lworth.g T.lworth.F.kp T.lworth.b .nil pass0 (pa_cons (pv 0) pa_nil))))
  (pss_cons (ps_if (pt_cmpR op_eq (pe_call (ok_lpull T) (hr.mono (by decide)) rfl T.lpull.g T.lpull.F.kp T.lpull.b .nil pass0 (pa_cons (pv 0) (pa_cons pe_int pa_nil))) pe_int (nomark _))
  (pss_one (ps_set (i := 2) sc_lends.nd rfl (by first | exact Or.inl rfl | exact Or.inr rfl) (pe_call (ok_lplus T) (hr.mono (by decide)) rfl T.lplus.g T.lplus.F.kp T.lplus.b .nil pass0 (pa_cons (pv 1) (pa_cons (pe_call (ok_lfit T) (hr.mono (by decide)) rfl T.lfit.g T.lfit.F.kp T.lfit.b .nil pass0 (pa_cons (pe_call (ok_lpull T) (hr.mono (by decide)) rfl T.lpull.g T.lpull.F.kp T.lpull.b .nil pass0 (pa_cons (pv 0) (pa_cons pe_int pa_nil))) (pa_cons (pe_op op_add pe_int (pe_call (ok_lpull T) (hr.mono (by decide)) rfl T.lpull.g T.lpull.F.kp T.lpull.b .nil pass0 (pa_cons (pv 0) (pa_cons pe_int pa_nil)))) pa_nil))) pa_nil)))))
  pss_nil)
  (pss_one (ps_ret (pe_ifExp (pt_val (pe_call (ok_lless T) (hr.mono (by decide)) rfl T.lless.g T.lless.F.kp T.lless.b .nil pass0 (pa_cons (pv 2) (pa_cons (pv 1) pa_nil)))) (pe_tup (pa_cons (pv 2) (pa_cons (pv 1) pa_nil))) (pe_tup (pa_cons (pv 1) (pa_cons (pv 2) pa_nil))))))))), fun ss Φ Ψ h => ?_⟩)
  obtain ⟨rfl, k⟩ := h
  have key : ∀ (a b : Rat), Sz 103 52 a → Sz 103 52 b → (b < a → Φ (tupS K [ratS K b, ratS K a])) ∧ (¬ b < a → Φ (tupS K [ratS K a, ratS K b])) := fun a b ha hb => ⟨fun h => k b a (by grind) hb ha, fun h => k a b (by grind) ha hb⟩
  refine S_seq (S_asg (E_call (dss := []) (fun _ => .nil) (A_cons (E_var rfl (A_nil ⟨rfl, fun a ha => ?_⟩)))))
  have ha' : Sz 103 52 a := ha.mono (by decide) (by decide)
  refine S_mid (fun Γ => ∃ b, Sz 100 50 b ∧ Γ = [.pl bagS, .pl (ratS K a), .pl (ratS K b)]) ?_ ?_
  · repeat' first | walk_at "pull" | walk_at "ab" | fail
    · exact ⟨a, ha, rfl⟩
    · exact ⟨rfl, fun q hq => ⟨q, hq, rfl⟩⟩
  · rintro Γ ⟨b, hb, rfl⟩
    have hb' : Sz 103 52 b := hb.mono (by decide) (by decide)
    refine S_mid (fun Γ => ∃ b, Sz 103 52 b ∧ Γ = [.pl bagS, .pl (ratS K a), .pl (ratS K b)]) ?_ ?_
    · repeat' first | walk_at "pull" | walk_at "ab" | fail
      · rename_i r r0 r1 r2 r20 r21
        have g1 : r.natAbs < 2 ^ 2 := by omega
        have g2 : (1 + r2).natAbs < 2 ^ 2 := by omega
        have hz := sz_divInt g1 g2 (by decide)
        refine ⟨_, _, rfl, lt_8000 g1 (by decide), lt_8000 g2 (by decide), ?_⟩
        repeat' first | walk_at "pull" | walk_at "ab" | fail
        exact ⟨_, _, rfl, ha.mono (by decide) (by decide), hz.mono (by decide) (by decide), _, sz_add ha hz (by decide) (by decide) (by decide) (by decide), rfl⟩
      · exact ⟨b, hb', rfl⟩
    · rintro Γ ⟨b, hb, rfl⟩
      repeat' first | walk_at "pull" | walk_at "ab" | fail
      refine ⟨_, _, rfl, hb.mono (by decide) (by decide), ha'.mono (by decide) (by decide), ?_⟩
      repeat' first | walk_at "pull" | walk_at "ab" | fail
      · exact (key a b ha' hb).1 (by assumption)
      · exact (key a b ha' hb).2 (by assumption)
theorem frac01 {r n : Int} (h0 : 0 ≤ r) (h1 : r ≤ n) (hn : 0 < n) : 0 ≤ Rat.divInt r n ∧ Rat.divInt r n ≤ 1 := by
  have hq : (0 : Rat) < (n : Rat) := by exact_mod_cast hn
  have e : Rat.divInt r n = (r : Rat) / (n : Rat) := by rw [Rat.divInt_eq_div]
  rw [e]
  constructor
  · rw [Rat.div_def]
    exact Rat.mul_nonneg (by exact_mod_cast h0) (Rat.le_of_lt (Rat.inv_pos.mpr hq))
  · have := Rat.mul_le_mul_of_nonneg_right (show (r : Rat) ≤ (n : Rat) by exact_mod_cast h1) (Rat.le_of_lt (Rat.inv_pos.mpr hq))
    rw [Rat.mul_inv_cancel _ (by grind)] at this
    rw [Rat.div_def]
    exact this
theorem frac0 {r n : Int} (h0 : 0 ≤ r) (hn : 0 < n) : 0 ≤ Rat.divInt r n := by
  have hq : (0 : Rat) < (n : Rat) := by exact_mod_cast hn
  have e : Rat.divInt r n = (r : Rat) / (n : Rat) := by rw [Rat.divInt_eq_div]
  rw [e, Rat.div_def]
  exact Rat.mul_nonneg (by exact_mod_cast h0) (Rat.le_of_lt (Rat.inv_pos.mpr hq))
theorem mid_in {a b t : Rat} (h : a ≤ b) (h0 : 0 ≤ t) (h1 : t ≤ 1) : a ≤ a + (b - a) * t ∧ a + (b - a) * t ≤ b := by
  have hg : 0 ≤ b - a := by grind
  have e1 := Rat.mul_nonneg hg h0
  have e2 := Rat.mul_le_mul_of_nonneg_left h1 hg
  constructor <;> grind
def r12 : Rat := ⟨1, 2, by decide, by decide⟩
theorem sz12 : Sz 4 4 r12 := ⟨by decide, by decide⟩
theorem r12_in : 0 ≤ r12 ∧ r12 ≤ 1 := by decide +kernel
theorem sz_mid {a b t : Rat} (ha : Sz 106 54 a) (hb : Sz 106 54 b) (ht : Sz 4 4 t) : Sz 161 108 (b - a) ∧ Sz 165 112 ((b - a) * t) ∧ Sz 220 166 (a + (b - a) * t) := by
  have h1 : Sz 161 108 (b - a) := sz_sub hb ha (by decide) (by decide) (by decide) (by decide)
  have h2 : Sz 165 112 ((b - a) * t) := sz_mul h1 ht (by decide) (by decide) (by decide)
  exact ⟨h1, h2, sz_add ha h2 (by decide) (by decide) (by decide) (by decide)⟩
theorem ok_lwithin (T : Tx K mg) : FnOk P w K mg base CX0 3 T.lwithin.f T.lwithin.fd p_lwithin (spOf ((fun ss Φ _ => ∃ a b : Rat, ss = [bagS, tupS K [ratS K a, ratS K b]] ∧ a ≤ b ∧ Sz 106 54 a ∧ Sz 106 54 b ∧ ∀ m d : Rat, a ≤ m → m ≤ b → Sz 220 166 m → a ≤ d → d ≤ b → Sz 220 166 d → Φ (lstS ([a, b, m, d].map (ratS K)))))) := by
  refine ok0 T.lwithin.F sc_lwithin (by intro ss Φ Ψ h; revert h; walk_at "len") (fun cdv Ar outer s H Er hr => ⟨_, (pss_cons (ps_par (i := 2) (j := 3) (by rfl) sc_lwithin.nd rfl rfl (by decide) rfl rfl (pa_cons (pe_call (ok_lminus T) (hr.mono (by decide)) rfl T.lminus.g T.lminus.F.kp T.lminus.b .nil pass0 (pa_cons (pe_ix ix_tup (pv 1) pe_int (fun _ _ => rfl)) (pa_cons (pe_ix ix_tup (pv 1) pe_int (fun _ _ => rfl)) pa_nil))) (pa_cons (pe_op op_add pe_int (pe_call (ok_lpull T) (hr.mono (by decide)) rfl T.lpull.g T.lpull.F.kp T.lpull.b .nil pass0 (pa_cons (pv 0) (pa_cons pe_int pa_nil)))) pa_nil)) (by rfl))
  (pss_cons (ps_set (i := 4) sc_lwithin.nd rfl (by first | exact Or.inl rfl | exact Or.inr rfl) (pe_call (ok_lplus T) (hr.mono (by decide)) rfl T.lplus.g T.lplus.F.kp T.lplus.b .nil pass0 (pa_cons (pe_ix ix_tup (pv 1) pe_int (fun _ _ => rfl)) (pa_cons (pe_call (ok_ltimes T) (hr.mono (by decide)) rfl T.ltimes.g T.ltimes.F.kp T.ltimes.b .nil pass0 (pa_cons (pv 2) (pa_cons (pe_call (ok_lfit T) (hr.mono (by decide)) rfl T.lfit.g T.lfit.F.kp T.lfit.b .nil pass0 (pa_cons (pe_call (ok_lpull T) (hr.mono (by decide)) rfl T.lpull.g T.lpull.F.kp T.lpull.b .nil pass0 (pa_cons (pv 0) (pa_cons (pe_op op_add (pv 3) pe_int) pa_nil))) (pa_cons (pv 3) pa_nil))) pa_nil))) pa_nil))))
  (pss_one (ps_ret (pe_lst (pa_cons (pe_ix ix_tup (pv 1) pe_int (fun _ _ => rfl)) (pa_cons (pe_ix ix_tup (pv 1) pe_int (fun _ _ => rfl)) (pa_cons (pe_call (ok_lplus T) (hr.mono (by decide)) rfl T.lplus.g T.lplus.F.kp T.lplus.b .nil pass0 (pa_cons (pe_ix ix_tup (pv 1) pe_int (fun _ _ => rfl)) (pa_cons (pe_call (ok_ltimes T) (hr.mono (by decide)) rfl T.ltimes.g T.ltimes.F.kp T.ltimes.b .nil pass0 (pa_cons (pv 2) (pa_cons (pe_tup (pa_cons pe_int (pa_cons pe_int pa_nil))) pa_nil))) pa_nil))) (pa_cons (pv 4) pa_nil))))))))), fun ss Φ Ψ h => ?_⟩)
  obtain ⟨a, b, rfl, hab, ha, hb, k⟩ := h
  have qa : Bq a := ha.mono (by decide) (by decide)
  have qb : Bq b := hb.mono (by decide) (by decide)
  obtain ⟨m1, m2, m3⟩ := sz_mid ha hb sz12
  have q1 : Bq (b - a) := m1.mono (by decide) (by decide)
  have q2 : Bq ((b - a) * r12) := m2.mono (by decide) (by decide)
  repeat' first | walk_at "pull" | walk_at "call2" | walk_at "ab" | fail
  rename_i r r0 r1 r2 r20 r21
  have g1 : r2.natAbs < 2 ^ 4 := by omega
  have g2 : (1 + r).natAbs < 2 ^ 4 := by omega
  have hz := sz_divInt g1 g2 (by decide)
  obtain ⟨n1, n2, n3⟩ := sz_mid ha hb hz
  have q3 : Bq ((b - a) * Rat.divInt r2 (1 + r)) := n2.mono (by decide) (by decide)
  have q4 : Bq (Rat.divInt r2 (1 + r)) := hz.mono (by decide) (by decide)
  refine ⟨_, _, rfl, lt_8000 g1 (by decide), lt_8000 g2 (by decide), ?_⟩
  repeat' first | walk_at "pull" | ((with_reducible show F2 _ (· * ·) _ _ _); refine ⟨_, r12, rfl, q1, sz12.mono (by decide) (by decide), ?_⟩) | walk_at "call2" | walk_at "ab" | fail
  have f1 := r12_in
  have f2 := frac01 (r := r2) (n := 1 + r) r20 (by omega) (by omega)
  have i1 := mid_in hab f1.1 f1.2
  have i2 := mid_in hab f2.1 f2.2
  exact k _ _ i1.1 i1.2 m3 i2.1 i2.2 n3
def bagZ (K : PySem.W.Frag) (H : Hp) (vs : List V) : Prop := ∃ (ns : List Int) (v : V), vs = [v] ∧ (seqS K (ns.map V.int)).P v H ∧ ns.length ≤ 63
def bagW (H : Hp) (cl : Addr) : Prop := ∃ ns : List Int, H cl = some (.lst (ns.map V.int))
theorem fm_sum (ns : List Int) : 0 ≤ (ns.map fun n => n.fmod 1000003).sum ∧ (ns.map fun n => n.fmod 1000003).sum ≤ 1000003 * ns.length := by
  induction ns with
  | nil => simp
  | cons n ns ih =>
    have := fmod_in (x := n) (y := 1000003) (by decide)
    rw [List.map_cons, List.sum_cons, List.length_cons]
    omega
theorem filt (ns : List Int) (f : Int → Int) : (ns.filter fun _ => true).map (fun n => vS (.int (f n))) = (ns.map f).map fun n => vS (.int n) := by
  rw [List.filter_eq_self.mpr (fun _ _ => rfl), List.map_map]; rfl
theorem E_cutI {Γ : List Bd} {Φ : Slot → Prop} {te : TE} {ns : List Int} (hl : ns.length ≤ 63) (h : E te Γ fun s => s = seqS K (ns.map V.int)) (k : Φ (lstS (ns.map fun n => vS (.int n)))) : E (tSl (rSlL K) te tNoPart (tPart (tC (.int 63)))) Γ Φ :=
  E_cut (h.imp fun s e => ⟨_, e, by rw [List.length_map]; exact hl, by rw [List.map_map]; exact k⟩)
theorem ok_bag0 (T : Tx K mg) : FnOk P w K mg base CX0 1 T.lbag.f T.lbag.fd p_lbag (spNew bagY (bagZ K) bagW) := by
  refine T.lbag.F.ok sc_lbag (fun vs H Q E h => ?_) (fun cdv Ar outer s H vs Q Er hr h => ⟨_, (pss_cons (ps_set (i := 1) sc_lbag.nd rfl (by first | exact Or.inl rfl | exact Or.inr rfl) (pe_op op_add (pe_op op_add pe_int (pe_op op_mul pe_int (pe_callB call_len_seq (by rfl) T.len PySem.boot_len (pa_cons (pe_slice sl_list (pv 0) po_none (po_some pe_int)) pa_nil)))) (pe_callB (cr_sum rfl) (by rfl) T.sum (by decide +kernel) (pa_cons (pe_lc (own := [("cell", 2)]) (g := (gName 2)) (tt := tYes) (by rfl) sc_lbag.nd (pi_list (pe_slice sl_list (pv 0) po_none (po_some pe_int))) (blkOk_by (own := [("cell", 2)]) (N := n_lbag) (sc := defScope s_lbag) (by decide +kernel)) (fun _ _ _ _ _ => (pg_name (i := 2) sc_lbag.nd rfl (Or.inl rfl) (Or.inr rfl))) (fun _ _ _ _ _ => pts_nil) (fun _ _ _ _ _ => (pe_op op_modN (pe_callTy call_int1 (by rfl) T.int (by decide +kernel) (pa_cons (pv 2) pa_nil)) pe_int))) pa_nil))))
  (pss_one (ps_ret (pe_lst (pa_cons (pe_lc (own := [("cell", 2)]) (g := (gName 2)) (tt := tYes) (by rfl) sc_lbag.nd (pi_list (pe_slice sl_list (pv 0) po_none (po_some pe_int))) (blkOk_by (own := [("cell", 2)]) (N := n_lbag) (sc := defScope s_lbag) (by decide +kernel)) (fun _ _ _ _ _ => (pg_name (i := 2) sc_lbag.nd rfl (Or.inl rfl) (Or.inr rfl))) (fun _ _ _ _ _ => pts_nil) (fun _ _ _ _ _ => (pe_callTy call_int1 (by rfl) T.int (by decide +kernel) (pa_cons (pv 2) pa_nil)))) (pa_cons pe_int (pa_cons pe_int (pa_cons (pv 1) (pa_cons pe_int pa_nil))))))))), ?_⟩)
  · obtain ⟨B, bs, ⟨ns, v, rfl, _⟩, _⟩ := h
    rfl
  · obtain ⟨B0, bs, ⟨ns, v, rfl, hv, hl⟩, q⟩ := h
    have em : (ns.map V.int).map vS = ns.map fun n => vS (.int n) := by rw [List.map_map]; rfl
    have hs := fm_sum ns
    refine enter_new (rest := [seqS K (ns.map V.int)]) (fun Γ => ∃ f : Int, 0 ≤ f ∧ f < 4294967296 ∧ Γ = [.pl (seqS K (ns.map V.int)), .pl (vS (.int f)), .no]) (fun ss => ∃ f : Int, 0 ≤ f ∧ f < 4294967296 ∧ ss = [lstS (ns.map fun n => vS (.int n)), vS (.int 0), vS (.int 0), vS (.int f), vS (.int 0)]) bs (.cons hv .nil) ?_ ?_ ?_
    · repeat' first | (refine E_cutI hl (E_var rfl rfl) ?_) | (refine C_len _ ns.length ⟨.inl rfl, by rw [List.length_map]⟩ ?_) | walk_at "bag" | walk_at "ab" | fail
      refine E_lcL ns (fun n => vS (.int n)) (fun n => vS (.int (n.fmod 1000003))) (fun _ => true) (E_cutI hl (E_var rfl rfl) rfl) (by omega) ?_ ?_
      · intro n _
        refine G_name (by decide) (T_yes ⟨rfl, fun _ => ?_⟩)
        repeat' first | walk_at "bag" | walk_at "ab" | fail
        rfl
      · rw [filt ns fun n => n.fmod 1000003]
        repeat' first | walk_at "bag" | walk_at "ab" | (refine C_sum (ns.map fun n => n.fmod 1000003) rfl ?_) | fail
        exact ⟨_, by omega, by omega, rfl⟩
    · rintro Γ ⟨f, f0, f1, rfl⟩
      refine A_cons (E_lcL ns (fun n => vS (.int n)) (fun n => vS (.int n)) (fun _ => true) (E_cutI hl (E_var rfl rfl) rfl) (by omega) ?_ ?_)
      · intro n _
        refine G_name (by decide) (T_yes ⟨rfl, fun _ => ?_⟩)
        repeat' first | walk_at "bag" | walk_at "ab" | fail
        rfl
      · rw [filt ns fun n => n, List.map_id']
        repeat' first | walk_at "bag" | walk_at "ab" | fail
        exact ⟨f, f0, f1, rfl⟩
    · rintro b ss ys B H' hb hy p hB st ⟨f, f0, f1, rfl⟩
      cases p with
      | cons h1 p => cases p with
        | cons h2 p => cases p with
          | cons h3 p => cases p with
            | cons h4 p => cases p with
              | cons h5 p =>
                cases p
                obtain ⟨cl, us, rfl, hcl, pu⟩ := h1
                have := pu.ints; subst this
                exact q b cl _ B H' hb hy ⟨0, 0, f, 0, by rw [show _ = V.int 0 from h2, show _ = V.int 0 from h3, show _ = V.int f from h4, show _ = V.int 0 from h5], by decide, by decide, f0, f1⟩ hB ⟨ns, hcl⟩ st
theorem bagW_upd (H : Hp) (b : Addr) (o : HO) (cl : Addr) (hb : H b = none) (h : bagW H cl) : bagW (upd H b o) cl := by
  obtain ⟨ns, h⟩ := h
  exact ⟨ns, by rw [upd_ne (ne_of_none h hb)]; exact h⟩
def F_bag (K : PySem.W.Frag) : FS := fun ss Φ _ => ∃ ns : List Int, ss = [seqS K (ns.map V.int)] ∧ ns.length ≤ 63 ∧ Φ bagS
theorem ok_lbag (T : Tx K mg) : FnOk P w K mg base CX0 1 T.lbag.f T.lbag.fd p_lbag (spOf (F_bag K)) := by
  refine (ok_newl bagW_upd (ok_bag0 T)).imp fun vs H Q E h => ?_
  obtain ⟨B, ss, Φ, Ψ, bs, p, ⟨ns, rfl, hl, k⟩, q, _⟩ := h
  cases p with
  | cons pv p =>
    cases p
    refine ⟨B, bs, ⟨ns, _, rfl, pv, hl⟩, fun b cl B' H' hb hH hW st hB => ?_⟩
    obtain ⟨us, hW⟩ := hW
    have hne : cl ≠ b := by
      intro z
      subst z
      have e := hB.symm.trans hW
      unfold lentO at e
      injection e with e
      cases e
    exact q bagS _ B' H' st ⟨b, cl, us, rfl, hB, hne, hW⟩ k
end
end K78

/-! K78L -/
namespace K78
open PySem PySem.Spec PyProof.Rows L2 Ab RatM

local macro_rules | `(tactic| walk_at "ab") => `(tactic| first
  | (with_reducible refine S_seq ?_) | (with_reducible refine S_ret ?_) | (with_reducible refine S_asg ?_) | (with_reducible refine S_if ?_) | (with_reducible refine S_next ?_) | (with_reducible refine S_par ?_) | (with_reducible refine S_drop ?_) | (with_reducible refine S_retN ?_)
  | (with_reducible refine E_c ?_) | (with_reducible refine E_op ?_) | (with_reducible refine E_un ?_) | (with_reducible refine E_tup (K := ‹PySem.W.Frag›) ?_) | (with_reducible refine E_lst ?_) | (with_reducible refine E_cb ?_) | (with_reducible refine E_if ?_)
  | (with_reducible refine E_fld ?_) | (with_reducible refine E_not ?_) | (with_reducible refine E_and ?_) | (with_reducible refine E_or ?_) | (with_reducible refine E_meth ?_) | (with_reducible refine E_make ?_)
  | (with_reducible refine A_cons ?_) | (with_reducible refine A_nil ?_) | (with_reducible refine E_call (dss := []) (fun _ => .nil) ?_)
  | (with_reducible refine T_test ?_) | (with_reducible refine T_B ?_) | (with_reducible refine T_not ?_) | (with_reducible refine T_and ?_) | (with_reducible refine T_or ?_)
  | (refine E_var rfl ?_) | (refine R_I0 ?_) | (refine R_ixT rfl ?_) | (refine R_ixL rfl ?_) | (refine R_eqI ?_) | (refine R_eqS ?_) | (refine R_neS ?_) | (refine R_eq rfl ?_) | (refine R_ne rfl ?_) | (refine U_I ?_) | (refine R_I ?_ ?_)
  | (refine C_gcd ?_) | (refine C_abs ?_) | (refine C_int ?_) | (refine C_intB ?_)
  | ((with_reducible show ∃ (s s' : Slot), _ = [s, s'] ∧ _); refine ⟨_, _, rfl, ?_⟩)
  | (refine ⟨_, rfl, ?_⟩)
  | (refine spl (fun h => ?_) (fun h => ?_)) | (refine splN (fun h => ?_) (fun h => ?_)) | (refine splT ?_) | (refine splF ?_) | (refine spl2 (fun h => ?_) (fun h => ?_))
  | (refine len_ok ?_) | fail)

local macro_rules | `(tactic| walk_at "len") => `(tactic| first
  | (rintro ⟨e, _⟩; rw [e]; rfl) | (rintro ⟨_, e, _⟩; rw [e]; rfl) | (rintro ⟨_, _, e, _⟩; rw [e]; rfl) | (rintro ⟨_, _, _, e, _⟩; rw [e]; rfl) | (rintro ⟨_, _, _, _, e, _⟩; rw [e]; rfl) | (rintro ⟨_, _, _, _, _, e, _⟩; rw [e]; rfl) | (rintro ⟨_, _, _, _, _, _, e, _⟩; rw [e]; rfl))
local macro_rules | `(tactic| walk_at "side") => `(tactic| first
  | assumption | exact Be.q (by assumption) | exact cmul (by assumption) (by assumption) | exact cmulD (by assumption) (by assumption) | exact cmulN (by assumption) (by assumption) | exact cmulX (by assumption) (by assumption))
local macro_rules | `(tactic| walk_at "call2") => `(tactic| ((first | (with_reducible show F2 _ _ _ _ _) | (with_reducible show F_less _ _ _ _)); refine ⟨_, _, rfl, ?_, ?_, ?_⟩; (walk_at "side"); (walk_at "side")))
local macro_rules | `(tactic| walk_at "fld") => `(tactic| (refine ⟨_, _, _, rfl, Tx.cl ‹_›, ?_, rfl, ?_⟩; (first | exact Tx.nLow ‹_› | exact Tx.nHigh ‹_›)))
local macro_rules | `(tactic| walk_at "like") => `(tactic| ((with_reducible show F_like _ _ _ _); (first | (refine .inr ⟨_, rfl, ?_⟩) | (refine .inl ⟨_, rfl, .inl rfl, ?_⟩) | (refine .inl ⟨_, rfl, .inr (.inr ⟨_, rfl⟩), ?_⟩) | (refine .inl ⟨_, rfl, .inr (.inl ⟨_, rfl⟩), ?_⟩))))
local macro_rules | `(tactic| walk_at "fs2") => `(tactic| ((with_reducible show FS2 _ _ _ _ _ _); refine ⟨_, _, _, _, rfl, ?_, ?_, ?_, ?_, ?_, ?_, ?_⟩; (walk_at "side"); (walk_at "side"); (walk_at "side"); (walk_at "side"); (walk_at "side"); (walk_at "side")))
local macro_rules | `(tactic| walk_at "fs1") => `(tactic| ((with_reducible show FS1 _ _ _ _ _ _); refine ⟨_, _, rfl, ?_, ?_, ?_, ?_⟩; (walk_at "side"); (walk_at "side"); (walk_at "side")))
local macro_rules | `(tactic| walk_at "recv") => `(tactic| ((refine ⟨_, rfl, ?hl, ?_⟩); (case hl => exact look_no (by decide +kernel) (by decide +kernel))))
local macro_rules | `(tactic| walk_at "bag") => `(tactic| first
  | (refine E_ixOwn rfl (E_c ⟨_, _, _, rfl, rfl, cl_lst, ?_⟩)) | (refine E_ixOwn rfl (E_c ⟨_, _, _, rfl, rfl, fun _ _ h => h, ?_⟩)) | (refine S_setOwn rfl ?_) | (refine ⟨_, _, rfl, rfl, ?_⟩)
  | ((with_reducible show Ab.C _ [lstS (intsS _)] _); refine C_len _ _ ⟨.inl rfl, intsS_len _⟩ ?_) | ((with_reducible show _ ≠ (0 : Int)); omega) | (refine R_ixL (at_ints (by assumption) (by assumption)).choose_spec ?_)
  | ((with_reducible show CMul _ _); (first | exact .inr ⟨by decide, by decide⟩ | exact .inl ⟨by decide, by decide⟩ | exact .inl ⟨by omega, by omega⟩))
  | ((with_reducible show CPow _ _); exact ⟨by decide, by decide, by decide⟩) | ((with_reducible show CDivNW _ _); exact CDivNW.of (b := 64) (by omega) (by omega) (by decide) (by decide)) | fail)
local macro_rules | `(tactic| walk_at "pull") => `(tactic| ((with_reducible show F_pull _ _ _); refine ⟨_, rfl, (by first | decide | omega), (by first | decide | omega), fun r r0 r1 => ?_⟩))
local macro_rules | `(tactic| walk_at "pull") => `(tactic| ((with_reducible show F_pull _ _ _); refine ⟨_, rfl, (by first | decide | omega), (by first | decide | omega), fun r r0 r1 => ?_⟩))
local macro_rules | `(tactic| walk_at "eqs") => `(tactic| first
  | (refine R_ownC rfl (ty_span ‹_› _ _) nf_self ?_) | ((with_reducible show F_eq _ _ _ _ _); refine ⟨_, _, _, rfl, .inl ⟨_, _, rfl, ?_⟩⟩) | fail)
section
variable {P : Program} {w : World} {K : PySem.W.Frag} {mg : Str → Option Value} {base : Heap}
theorem kw_span (T : Tx K mg) : KBn K T.Span_Dinit.fd p_Span_Dinit 1 ["low", "high"] (fun us ws => us ++ ws) (fun vs zs => vs ++ zs) := by
  obtain ⟨oc, od, kV, doc, pm, an, cdv, ct, osl, e, lk, hcd⟩ := T.Span_Dinit.F.ex
  rw [e]
  refine ⟨fun s us ws _ l1 l2 => ?_, fun r1 r2 => r1.append r2⟩
  match us, ws, l1, l2 with
  | [u], [a, b], _, _ => exact .of_eq rfl
def F_ref (K : PySem.W.Frag) : FS := fun ss Φ _ => ∃ a b : Rat, ss = [ratS K a, ratS K b] ∧ b < a ∧ Bq a ∧ Bq b ∧ Φ (vS (.bl true))
def Good (a b m e : Rat) : Prop := a ≤ b ∧ Sz 106 54 a ∧ Sz 106 54 b ∧ (a ≤ m ∧ m ≤ b ∧ Sz 220 166 m) ∧ (a ≤ e ∧ e ≤ b ∧ Sz 220 166 e)
theorem Good.all {a b m e : Rat} (h : Good a b m e) : ∀ x ∈ [a, b, m, e], a ≤ x ∧ x ≤ b ∧ Sz 220 166 x := by
  obtain ⟨h1, h2, h3, h4, h5⟩ := h
  intro x hx
  simp only [List.mem_cons, List.not_mem_nil, or_false] at hx
  rcases hx with rfl | rfl | rfl | rfl
  · exact ⟨Rat.le_refl, h1, h2.mono (by decide) (by decide)⟩
  · exact ⟨h1, Rat.le_refl, h3.mono (by decide) (by decide)⟩
  · exact h4
  · exact h5
def tripS (K : PySem.W.Frag) (C : Addr) (a b m e : Rat) : Slot := tupS K [spanS K C a b, tupS K [ratS K a, ratS K b], lstS ([a, b, m, e].map (ratS K))]
def lawG (K : PySem.W.Frag) (C : Addr) (ns : List Int) (a b m e c d m' e' : Rat) (o8 o9 o10 : Bd) : List Bd := [.pl (seqS K (ns.map V.int)), .pl bagS, .pl (tupS K [ratS K a, ratS K b]), .pl (tupS K [ratS K c, ratS K d]), .pl (spanS K C a b), .pl (spanS K C c d),
  .pl (lstS ([a, b, m, e].map (ratS K))), .pl (lstS ([c, d, m', e'].map (ratS K))), o8, o9, o10]
def r20 : Rat := ⟨1, 100000000000000000000, by decide, by decide⟩
theorem sz20 : Sz 2 70 r20 := ⟨by decide, by decide⟩
theorem r20_pos : 0 < r20 := by decide +kernel
theorem t20 : (10 : Int) ^ Int.toNat 20 = 100000000000000000000 := by decide
def F_law (K : PySem.W.Frag) : FS := fun ss Φ _ => ∃ ns : List Int, ss = [seqS K (ns.map V.int)] ∧ ns.length ≤ 63 ∧ Φ (vS (.bl true))
theorem ok_llaw (T : Tx K mg) (R : FnOk P w K mg base CX0 9 T.lrefused.f T.lrefused.fd p_lrefused (spOf (F_ref K))) : FnOk P w K mg base CX0 10 T.law.f T.law.fd p_law (spOf (F_law K)) := by
  refine ok0 T.law.F sc_law (by intro ss Φ Ψ h; revert h; walk_at "len") (fun cdv Ar outer s H Er hr => ⟨_, (pss_cons (ps_set (i := 1) sc_law.nd rfl (by first | exact Or.inl rfl | exact Or.inr rfl) (pe_call (ok_lbag T) (hr.mono (by decide)) rfl T.lbag.g T.lbag.F.kp T.lbag.b .nil pass0 (pa_cons (pv 0) pa_nil)))
  (pss_cons (ps_set (i := 2) sc_law.nd rfl (by first | exact Or.inl rfl | exact Or.inr rfl) (pe_call (ok_lends T) (hr.mono (by decide)) rfl T.lends.g T.lends.F.kp T.lends.b .nil pass0 (pa_cons (pv 1) pa_nil)))
  (pss_cons (ps_set (i := 3) sc_law.nd rfl (by first | exact Or.inl rfl | exact Or.inr rfl) (pe_ifExp (pt_cmpR op_eq (pe_call (ok_lpull T) (hr.mono (by decide)) rfl T.lpull.g T.lpull.F.kp T.lpull.b .nil pass0 (pa_cons (pv 1) (pa_cons pe_int pa_nil))) pe_int (nomark _)) (pv 2) (pe_call (ok_lends T) (hr.mono (by decide)) rfl T.lends.g T.lends.F.kp T.lends.b .nil pass0 (pa_cons (pv 1) pa_nil))))
  (pss_cons (ps_if (pt_cmpR op_eq (pe_call (ok_lpull T) (hr.mono (by decide)) rfl T.lpull.g T.lpull.F.kp T.lpull.b .nil pass0 (pa_cons (pv 1) (pa_cons pe_int pa_nil))) pe_int (nomark _))
  (pss_one (ps_set (i := 3) sc_law.nd rfl (by first | exact Or.inl rfl | exact Or.inr rfl) (pe_tup (pa_cons (pe_ix ix_tup (pv 2) pe_int (fun _ _ => rfl)) (pa_cons (pe_call (ok_lplus T) (hr.mono (by decide)) rfl T.lplus.g T.lplus.F.kp T.lplus.b .nil pass0 (pa_cons (pe_ix ix_tup (pv 2) pe_int (fun _ _ => rfl)) (pa_cons (pe_call (ok_lfit T) (hr.mono (by decide)) rfl T.lfit.g T.lfit.F.kp T.lfit.b .nil pass0 (pa_cons (pe_call (ok_lpull T) (hr.mono (by decide)) rfl T.lpull.g T.lpull.F.kp T.lpull.b .nil pass0 (pa_cons (pv 1) (pa_cons pe_int pa_nil))) (pa_cons pe_int pa_nil))) pa_nil))) pa_nil)))))
  pss_nil)
  (pss_cons (ps_par (i := 4) (j := 5) (by rfl) sc_law.nd rfl rfl (by decide) rfl rfl (pa_cons (pe_make T.mkSpan (ok_Span_Dinit T) (hr.mono (by decide)) rfl T.gSpan T.Span_Dinit.b .nil passL (pa_cons (pe_ix ix_tup (pv 2) pe_int (fun _ _ => rfl)) (pa_cons (pe_ix ix_tup (pv 2) pe_int (fun _ _ => rfl)) pa_nil))) (pa_cons (pe_makeK0 T.mkSpan (ok_Span_Dinit T) (hr.mono (by decide)) rfl T.gSpan (kw_span T) passL (pk_cons (pe_ix ix_tup (pv 3) pe_int (fun _ _ => rfl)) (pk_cons (pe_ix ix_tup (pv 3) pe_int (fun _ _ => rfl)) pk_nil))) pa_nil)) (by rfl))
  (pss_cons (ps_par (i := 6) (j := 7) (by rfl) sc_law.nd rfl rfl (by decide) rfl rfl (pa_cons (pe_call (ok_lwithin T) (hr.mono (by decide)) rfl T.lwithin.g T.lwithin.F.kp T.lwithin.b .nil pass0 (pa_cons (pv 1) (pa_cons (pv 2) pa_nil))) (pa_cons (pe_call (ok_lwithin T) (hr.mono (by decide)) rfl T.lwithin.g T.lwithin.F.kp T.lwithin.b .nil pass0 (pa_cons (pv 1) (pa_cons (pv 3) pa_nil))) pa_nil)) (by rfl))
  (pss_cons (ps_for PassesOwn.never rfl (pi_list (pe_lst (pa_cons (pe_tup (pa_cons (pv 4) (pa_cons (pv 2) (pa_cons (pv 6) pa_nil)))) (pa_cons (pe_tup (pa_cons (pv 5) (pa_cons (pv 3) (pa_cons (pv 7) pa_nil)))) pa_nil)))) (pg_tup rfl (pgs_cons (pg_name (i := 8) sc_law.nd rfl (by first | exact Or.inl rfl | exact Or.inr rfl)) (pgs_cons (pg_name (i := 9) sc_law.nd rfl (by first | exact Or.inl rfl | exact Or.inr rfl)) (pgs_cons (pg_name (i := 10) sc_law.nd rfl (by first | exact Or.inl rfl | exact Or.inr rfl)) pgs_nil))))
  (pss_cons (ps_if (PW.pt (pw_or (pt_not (pt_val (pe_call (ok_lholds T) (hr.mono (by decide)) rfl T.lholds.g T.lholds.F.kp T.lholds.b .nil pass0 (pa_cons (pv 8) (pa_cons (pv 9) (pa_cons (pv 10) pa_nil)))))) (pw_or1 (pt_not (pt_val (pe_call (ok_lalone T) (hr.mono (by decide)) rfl T.lalone.g T.lalone.F.kp T.lalone.b .nil pass0 (pa_cons (pv 8) (pa_cons (pv 9) pa_nil))))))))
  (pss_one (ps_ret pe_bl))
  pss_nil)
  (pss_one (ps_if (PW.pt (pw_or (pt_not (pt_val (pe_call (ok_lholds T) (hr.mono (by decide)) rfl T.lholds.g T.lholds.F.kp T.lholds.b .nil pass0 (pa_cons (pe_call (ok_point T) (hr.mono (by decide)) rfl T.point.g T.point.F.kp T.point.b .nil pass0 (pa_cons (pe_ix ix_list (pv 10) (pe_un un_neg pe_int) (fun _ _ => rfl)) pa_nil)) (pa_cons (pe_tup (pa_cons (pe_ix ix_list (pv 10) (pe_un un_neg pe_int) (fun _ _ => rfl)) (pa_cons (pe_ix ix_list (pv 10) (pe_un un_neg pe_int) (fun _ _ => rfl)) pa_nil))) (pa_cons (pe_lst (pa_cons (pe_ix ix_list (pv 10) (pe_un un_neg pe_int) (fun _ _ => rfl)) pa_nil)) pa_nil)))))) (pw_or1 (pt_not (pt_val (pe_call (ok_lalone T) (hr.mono (by decide)) rfl T.lalone.g T.lalone.F.kp T.lalone.b .nil pass0 (pa_cons (pe_call (ok_point T) (hr.mono (by decide)) rfl T.point.g T.point.F.kp T.point.b .nil pass0 (pa_cons (pe_ix ix_tup (pv 9) pe_int (fun _ _ => rfl)) pa_nil)) (pa_cons (pe_tup (pa_cons (pe_ix ix_tup (pv 9) pe_int (fun _ _ => rfl)) (pa_cons (pe_ix ix_tup (pv 9) pe_int (fun _ _ => rfl)) pa_nil))) pa_nil))))))))
  (pss_one (ps_ret pe_bl))
  pss_nil))))
  (pss_cons (ps_if (PW.pt (pw_and (pt_val (pe_call (ok_lless T) (hr.mono (by decide)) rfl T.lless.g T.lless.F.kp T.lless.b .nil pass0 (pa_cons (pe_ix ix_tup (pv 2) pe_int (fun _ _ => rfl)) (pa_cons (pe_ix ix_tup (pv 2) pe_int (fun _ _ => rfl)) pa_nil)))) (pw_and1 (pt_not (pt_val (pe_call R (hr.mono (by decide)) rfl T.lrefused.g T.lrefused.F.kp T.lrefused.b .nil pass0 (pa_cons (pe_ix ix_tup (pv 2) pe_int (fun _ _ => rfl)) (pa_cons (pe_ix ix_tup (pv 2) pe_int (fun _ _ => rfl)) pa_nil))))))))
  (pss_one (ps_ret pe_bl))
  pss_nil)
  (pss_cons (ps_if (pt_not (pt_val (pe_call R (hr.mono (by decide)) rfl T.lrefused.g T.lrefused.F.kp T.lrefused.b .nil pass0 (pa_cons (pe_ix ix_tup (pv 3) pe_int (fun _ _ => rfl)) (pa_cons (pe_call (ok_lminus T) (hr.mono (by decide)) rfl T.lminus.g T.lminus.F.kp T.lminus.b .nil pass0 (pa_cons (pe_ix ix_tup (pv 3) pe_int (fun _ _ => rfl)) (pa_cons (pe_tup (pa_cons pe_int (pa_cons (pe_op op_pow pe_int pe_int) pa_nil))) pa_nil))) pa_nil)))))
  (pss_one (ps_ret pe_bl))
  pss_nil)
  (pss_cons (ps_if (PW.pt (pw_or (pt_not (pt_val (pe_call (ok_loperators T) (hr.mono (by decide)) rfl T.loperators.g T.loperators.F.kp T.loperators.b .nil pass0 (pa_cons (pv 4) (pa_cons (pv 5) (pa_cons (pv 2) (pa_cons (pv 3) (pa_cons (pv 6) (pa_cons (pv 7) pa_nil))))))))) (pw_or1 (pt_not (pt_val (pe_call (ok_loperators T) (hr.mono (by decide)) rfl T.loperators.g T.loperators.F.kp T.loperators.b .nil pass0 (pa_cons (pv 5) (pa_cons (pv 4) (pa_cons (pv 3) (pa_cons (pv 2) (pa_cons (pv 7) (pa_cons (pv 6) pa_nil))))))))))))
  (pss_one (ps_ret pe_bl))
  pss_nil)
  (pss_cons (ps_if (PW.pt (pw_or (pt_not (pt_val (pe_call (ok_lcompared T) (hr.mono (by decide)) rfl T.lcompared.g T.lcompared.F.kp T.lcompared.b .nil pass0 (pa_cons (pv 4) (pa_cons (pv 5) (pa_cons (pv 2) (pa_cons (pv 3) (pa_cons (pv 6) (pa_cons (pv 7) pa_nil))))))))) (pw_or1 (pt_not (pt_val (pe_call (ok_lcompared T) (hr.mono (by decide)) rfl T.lcompared.g T.lcompared.F.kp T.lcompared.b .nil pass0 (pa_cons (pv 5) (pa_cons (pv 4) (pa_cons (pv 3) (pa_cons (pv 2) (pa_cons (pv 7) (pa_cons (pv 6) pa_nil))))))))))))
  (pss_one (ps_ret pe_bl))
  pss_nil)
  (pss_one (ps_ret (pe_and (pe_call (ok_loperators T) (hr.mono (by decide)) rfl T.loperators.g T.loperators.F.kp T.loperators.b .nil pass0 (pa_cons (pv 4) (pa_cons (pv 4) (pa_cons (pv 2) (pa_cons (pv 2) (pa_cons (pv 6) (pa_cons (pv 6) pa_nil))))))) (pe_and (pe_call (ok_lholds T) (hr.mono (by decide)) rfl T.lholds.g T.lholds.F.kp T.lholds.b .nil pass0 (pa_cons (pv 4) (pa_cons (pv 2) (pa_cons (pv 6) pa_nil)))) (pe_one (pe_cmpR op_eq (pe_cmpR (op_ownEq (ok_Span_Deq T) (hr.mono (by decide)) T.Span_Deq.s T.Span_Deq.i T.Span_Deq.b pass0) (pv 4) (pv 5) (nomark _)) (pe_cmpR (op_eqD hr.units) (pv 2) (pv 3) (nomark _)) (nomark _)))))))))))))))))), fun ss Φ Ψ h => ?_⟩)
  obtain ⟨ns, rfl, hl, k⟩ := h
  refine S_seq (S_asg (E_call (dss := []) (fun _ => .nil) (A_cons (E_var rfl (A_nil ⟨ns, rfl, hl, ?_⟩)))))
  refine S_seq (S_asg (E_call (dss := []) (fun _ => .nil) (A_cons (E_var rfl (A_nil ⟨rfl, fun a b hab ha hb => ?_⟩)))))
  refine S_mid (fun Γ => ∃ c d, c ≤ d ∧ Sz 103 52 c ∧ Sz 103 52 d ∧ Γ = [.pl (seqS K (ns.map V.int)), .pl bagS, .pl (tupS K [ratS K a, ratS K b]), .pl (tupS K [ratS K c, ratS K d]), .no, .no, .no, .no, .no, .no, .no]) ?_ ?_
  · repeat' first | walk_at "pull" | walk_at "ab" | fail
    · exact ⟨a, b, hab, ha, hb, rfl⟩
    · exact ⟨rfl, fun c d h1 h2 h3 => ⟨c, d, h1, h2, h3, rfl⟩⟩
  rintro Γ ⟨c, d, hcd, hc, hd, rfl⟩
  have ha : Sz 106 54 a := ha.mono (by decide) (by decide)
  refine S_mid (fun Γ => ∃ c d, c ≤ d ∧ Sz 106 54 c ∧ Sz 106 54 d ∧ Γ = [.pl (seqS K (ns.map V.int)), .pl bagS, .pl (tupS K [ratS K a, ratS K b]), .pl (tupS K [ratS K c, ratS K d]), .no, .no, .no, .no, .no, .no, .no]) ?_ ?_
  · repeat' first | walk_at "pull" | walk_at "ab" | fail
    · rename_i r r0 r1
      have g1 : r.natAbs < 2 ^ 2 := by omega
      have g2 : (2 : Int).natAbs < 2 ^ 2 := by decide
      have hz := sz_divInt g1 g2 (by decide)
      have h0 := (frac0 (r := r) (n := 2) r0 (by decide))
      refine ⟨_, _, rfl, lt_8000 g1 (by decide), lt_8000 g2 (by decide), ?_⟩
      repeat' first | walk_at "pull" | walk_at "ab" | fail
      refine ⟨_, _, rfl, hb.mono (by decide) (by decide), hz.mono (by decide) (by decide), ?_⟩
      repeat' first | walk_at "pull" | walk_at "ab" | fail
      exact ⟨b, b + Rat.divInt r 2, by grind, hb.mono (by decide) (by decide), sz_add hb hz (by decide) (by decide) (by decide) (by decide), rfl⟩
    · exact ⟨c, d, hcd, hc.mono (by decide) (by decide), hd.mono (by decide) (by decide), rfl⟩
  clear hc hd hcd c d
  rintro Γ ⟨c, d, hcd, hc, hd, rfl⟩
  have hb : Sz 106 54 b := hb.mono (by decide) (by decide)
  have ea : Be a := ha.mono (by decide) (by decide)
  have eb : Be b := hb.mono (by decide) (by decide)
  have ec : Be c := hc.mono (by decide) (by decide)
  have ed : Be d := hd.mono (by decide) (by decide)
  refine S_mid (fun Γ => Γ = [.pl (seqS K (ns.map V.int)), .pl bagS, .pl (tupS K [ratS K a, ratS K b]), .pl (tupS K [ratS K c, ratS K d]), .pl (spanS K T.C a b), .pl (spanS K T.C c d), .no, .no, .no, .no, .no]) ?_ ?_
  · repeat' first | walk_at "ab" | (with_reducible refine E_makeK ?_) | (refine ⟨rfl, ?_⟩) | (refine ⟨_, _, rfl, ea.q, eb.q, fun _ => ?_, fun h => absurd h (nlt hab)⟩) | (refine ⟨_, _, rfl, ec.q, ed.q, fun _ => ?_, fun h => absurd h (nlt hcd)⟩) | fail
    rfl
  rintro Γ rfl
  refine S_mid (fun Γ => ∃ m e m' e', Good a b m e ∧ Good c d m' e' ∧ Γ = lawG K T.C ns a b m e c d m' e' .no .no .no) ?_ ?_
  · repeat' first | walk_at "ab" | (refine ⟨a, b, rfl, hab, ha, hb, fun m e h1 h2 h3 h4 h5 h6 => ?_⟩) | (refine ⟨c, d, rfl, hcd, hc, hd, fun m' e' g1 g2 g3 g4 g5 g6 => ?_⟩) | fail
    exact ⟨m, e, m', e', ⟨hab, ha, hb, ⟨h1, h2, h3⟩, h4, h5, h6⟩, ⟨hcd, hc, hd, ⟨g1, g2, g3⟩, g4, g5, g6⟩, rfl⟩
  rintro Γ ⟨m, e, m', e', G1, G2, rfl⟩
  refine S_mid (fun Γ => ∃ o8 o9 o10, Γ = lawG K T.C ns a b m e c d m' e' o8 o9 o10) ?_ ?_
  · refine S_forL (ss := [tripS K T.C a b m e, tripS K T.C c d m' e']) [8, 9, 10] (fun i Γ => ∃ o8 o9 o10, Γ = lawG K T.C ns a b m e c d m' e' o8 o9 o10) ?_ ?_ ?_
    · repeat' first | walk_at "ab" | fail
      exact ⟨rfl, _, _, _, rfl⟩
    · rintro i s Γ hi ⟨o8, o9, o10, rfl⟩
      obtain ⟨p, q, u, v, hg, rfl⟩ : ∃ p q u v, Good p q u v ∧ s = tripS K T.C p q u v := by
        have hm := List.mem_of_getElem? hi
        simp only [List.mem_cons, List.not_mem_nil, or_false] at hm
        rcases hm with rfl | rfl
        · exact ⟨a, b, m, e, G1, rfl⟩
        · exact ⟨c, d, m', e', G2, rfl⟩
      have hall := hg.all
      obtain ⟨hpq, hp, hq, ⟨_, _, hu⟩, _, _, hv⟩ := hg
      have ep : Be p := hp.mono (by decide) (by decide)
      have eq : Be q := hq.mono (by decide) (by decide)
      have ev : Be v := hv.mono (by decide) (by decide)
      refine G_tup rfl (G_cons (G_name (by decide) (G_cons (G_name (by decide) (G_cons (G_name (by decide) (G_nil ?_)))))))
      repeat' first | (refine ⟨p, q, [p, q, u, v], rfl, hpq, ep, eq, by show 4 ≤ 100; decide, fun x hx => ⟨(hall x hx).1, (hall x hx).2.1, (hall x hx).2.2.mono (by decide) (by decide)⟩, ?_⟩) | (refine ⟨p, q, rfl, hpq, ep, eq, ?_⟩) | (refine ⟨v, v, [v], rfl, Rat.le_refl, ev, ev, by show 1 ≤ 100; decide, ?_, ?_⟩) | (refine ⟨q, q, rfl, Rat.le_refl, eq, eq, ?_⟩) | (refine ⟨v, rfl, ev, ?_⟩) | (refine ⟨q, rfl, eq, ?_⟩) | walk_at "ab" | fail
      · intro x hx
        obtain rfl := List.mem_singleton.mp hx
        exact ⟨Rat.le_refl, Rat.le_refl, ev.q⟩
      · exact ⟨_, _, _, rfl⟩
    · rintro Γ ⟨o8, o9, o10, rfl⟩
      exact ⟨_, _, _, rfl⟩
  rintro Γ ⟨o8, o9, o10, rfl⟩
  have hA := G1.all
  have hB := G2.all
  have p20 := r20_pos
  have s20 : Bq (c - r20) := sz_sub hc sz20 (by decide) (by decide) (by decide) (by decide)
  repeat' first | walk_at "eqs" | (refine R_eqE ?_) | (refine R_eqSame rfl ?_) | ((with_reducible show F_ref _ _ _ _); refine ⟨b, a, rfl, by assumption, eb.q, ea.q, ?_⟩) | ((with_reducible show F_ref _ _ _ _); refine ⟨c, c - r20, rfl, by grind, ec.q, s20, ?_⟩) | ((with_reducible show F2 _ (· - ·) _ _ _); refine ⟨c, r20, by rw [t20]; rfl, ec.q, sz20.mono (by decide) (by decide), ?_⟩) | walk_at "call2" | (refine ⟨a, b, c, d, [a, b, m, e], [c, d, m', e'], rfl, hab, hcd, ha, hb, hc, hd, hA, hB, by show 4 ≤ 10; decide, by show 4 ≤ 10; decide, ?_⟩) | (refine ⟨c, d, a, b, [c, d, m', e'], [a, b, m, e], rfl, hcd, hab, hc, hd, ha, hb, hB, hA, by show 4 ≤ 10; decide, by show 4 ≤ 10; decide, ?_⟩) | (refine ⟨a, b, a, b, [a, b, m, e], [a, b, m, e], rfl, hab, hab, ha, hb, ha, hb, hA, hA, by show 4 ≤ 10; decide, by show 4 ≤ 10; decide, ?_⟩) | (refine ⟨a, b, c, d, [a, b, m, e], [c, d, m', e'], rfl, hab, hcd, ea, eb, ec, ed, ⟨by simp, by simp⟩, ⟨by simp, by simp⟩, hA, hB, by show 4 ≤ 10; decide, by show 4 ≤ 10; decide, ?_⟩) | (refine ⟨c, d, a, b, [c, d, m', e'], [a, b, m, e], rfl, hcd, hab, ec, ed, ea, eb, ⟨by simp, by simp⟩, ⟨by simp, by simp⟩, hB, hA, by show 4 ≤ 10; decide, by show 4 ≤ 10; decide, ?_⟩) | (refine ⟨a, b, [a, b, m, e], rfl, hab, ea, eb, by show 4 ≤ 100; decide, fun x hx => ⟨(hA x hx).1, (hA x hx).2.1, (hA x hx).2.2.mono (by decide) (by decide)⟩, ?_⟩) | walk_at "ab" | fail
  all_goals first | exact k | exact ⟨by decide, by decide, by decide⟩
end
end K78

/-! K78R -/
namespace K78
open PySem PySem.Spec PyProof.Rows L2 Ab RatM

local macro_rules | `(tactic| walk_at "ab") => `(tactic| first
  | (with_reducible refine S_seq ?_) | (with_reducible refine S_ret ?_) | (with_reducible refine S_asg ?_) | (with_reducible refine S_if ?_) | (with_reducible refine S_next ?_) | (with_reducible refine S_par ?_) | (with_reducible refine S_drop ?_) | (with_reducible refine S_retN ?_)
  | (with_reducible refine E_c ?_) | (with_reducible refine E_op ?_) | (with_reducible refine E_un ?_) | (with_reducible refine E_tup (K := ‹PySem.W.Frag›) ?_) | (with_reducible refine E_lst ?_) | (with_reducible refine E_cb ?_) | (with_reducible refine E_if ?_)
  | (with_reducible refine E_fld ?_) | (with_reducible refine E_not ?_) | (with_reducible refine E_and ?_) | (with_reducible refine E_or ?_) | (with_reducible refine E_meth ?_) | (with_reducible refine E_make ?_)
  | (with_reducible refine A_cons ?_) | (with_reducible refine A_nil ?_) | (with_reducible refine E_call (dss := []) (fun _ => .nil) ?_)
  | (with_reducible refine T_test ?_) | (with_reducible refine T_B ?_) | (with_reducible refine T_not ?_) | (with_reducible refine T_and ?_) | (with_reducible refine T_or ?_)
  | (refine E_var rfl ?_) | (refine R_I0 ?_) | (refine R_ixT rfl ?_) | (refine R_ixL rfl ?_) | (refine R_eqI ?_) | (refine R_eqS ?_) | (refine R_neS ?_) | (refine R_eq rfl ?_) | (refine R_ne rfl ?_) | (refine U_I ?_) | (refine R_I ?_ ?_)
  | (refine C_gcd ?_) | (refine C_abs ?_) | (refine C_int ?_) | (refine C_intB ?_)
  | ((with_reducible show ∃ (s s' : Slot), _ = [s, s'] ∧ _); refine ⟨_, _, rfl, ?_⟩)
  | (refine ⟨_, rfl, ?_⟩)
  | (refine spl (fun h => ?_) (fun h => ?_)) | (refine splN (fun h => ?_) (fun h => ?_)) | (refine splT ?_) | (refine splF ?_) | (refine spl2 (fun h => ?_) (fun h => ?_))
  | (refine len_ok ?_) | fail)

local macro_rules | `(tactic| walk_at "len") => `(tactic| first
  | (rintro ⟨e, _⟩; rw [e]; rfl) | (rintro ⟨_, e, _⟩; rw [e]; rfl) | (rintro ⟨_, _, e, _⟩; rw [e]; rfl) | (rintro ⟨_, _, _, e, _⟩; rw [e]; rfl) | (rintro ⟨_, _, _, _, e, _⟩; rw [e]; rfl) | (rintro ⟨_, _, _, _, _, e, _⟩; rw [e]; rfl) | (rintro ⟨_, _, _, _, _, _, e, _⟩; rw [e]; rfl))
local macro_rules | `(tactic| walk_at "side") => `(tactic| first
  | assumption | exact Be.q (by assumption) | exact cmul (by assumption) (by assumption) | exact cmulD (by assumption) (by assumption) | exact cmulN (by assumption) (by assumption) | exact cmulX (by assumption) (by assumption))
local macro_rules | `(tactic| walk_at "call2") => `(tactic| ((first | (with_reducible show F2 _ _ _ _ _) | (with_reducible show F_less _ _ _ _)); refine ⟨_, _, rfl, ?_, ?_, ?_⟩; (walk_at "side"); (walk_at "side")))
local macro_rules | `(tactic| walk_at "fld") => `(tactic| (refine ⟨_, _, _, rfl, Tx.cl ‹_›, ?_, rfl, ?_⟩; (first | exact Tx.nLow ‹_› | exact Tx.nHigh ‹_›)))
local macro_rules | `(tactic| walk_at "like") => `(tactic| ((with_reducible show F_like _ _ _ _); (first | (refine .inr ⟨_, rfl, ?_⟩) | (refine .inl ⟨_, rfl, .inl rfl, ?_⟩) | (refine .inl ⟨_, rfl, .inr (.inr ⟨_, rfl⟩), ?_⟩) | (refine .inl ⟨_, rfl, .inr (.inl ⟨_, rfl⟩), ?_⟩))))
local macro_rules | `(tactic| walk_at "fs2") => `(tactic| ((with_reducible show FS2 _ _ _ _ _ _); refine ⟨_, _, _, _, rfl, ?_, ?_, ?_, ?_, ?_, ?_, ?_⟩; (walk_at "side"); (walk_at "side"); (walk_at "side"); (walk_at "side"); (walk_at "side"); (walk_at "side")))
local macro_rules | `(tactic| walk_at "fs1") => `(tactic| ((with_reducible show FS1 _ _ _ _ _ _); refine ⟨_, _, rfl, ?_, ?_, ?_, ?_⟩; (walk_at "side"); (walk_at "side"); (walk_at "side")))
local macro_rules | `(tactic| walk_at "recv") => `(tactic| ((refine ⟨_, rfl, ?hl, ?_⟩); (case hl => exact look_no (by decide +kernel) (by decide +kernel))))
local macro_rules | `(tactic| walk_at "bag") => `(tactic| first
  | (refine E_ixOwn rfl (E_c ⟨_, _, _, rfl, rfl, cl_lst, ?_⟩)) | (refine E_ixOwn rfl (E_c ⟨_, _, _, rfl, rfl, fun _ _ h => h, ?_⟩)) | (refine S_setOwn rfl ?_) | (refine ⟨_, _, rfl, rfl, ?_⟩)
  | ((with_reducible show Ab.C _ [lstS (intsS _)] _); refine C_len _ _ ⟨.inl rfl, intsS_len _⟩ ?_) | ((with_reducible show _ ≠ (0 : Int)); omega) | (refine R_ixL (at_ints (by assumption) (by assumption)).choose_spec ?_)
  | ((with_reducible show CMul _ _); (first | exact .inr ⟨by decide, by decide⟩ | exact .inl ⟨by decide, by decide⟩ | exact .inl ⟨by omega, by omega⟩))
  | ((with_reducible show CPow _ _); exact ⟨by decide, by decide, by decide⟩) | ((with_reducible show CDivNW _ _); exact CDivNW.of (b := 64) (by omega) (by omega) (by decide) (by decide)) | fail)
local macro_rules | `(tactic| walk_at "pull") => `(tactic| ((with_reducible show F_pull _ _ _); refine ⟨_, rfl, (by first | decide | omega), (by first | decide | omega), fun r r0 r1 => ?_⟩))
local macro_rules | `(tactic| walk_at "pull") => `(tactic| ((with_reducible show F_pull _ _ _); refine ⟨_, rfl, (by first | decide | omega), (by first | decide | omega), fun r r0 r1 => ?_⟩))
local macro_rules | `(tactic| walk_at "eqs") => `(tactic| first
  | (refine R_ownC rfl (ty_span ‹_› _ _) nf_self ?_) | ((with_reducible show F_eq _ _ _ _ _); refine ⟨_, _, _, rfl, .inl ⟨_, _, rfl, ?_⟩⟩) | fail)
local macro_rules | `(tactic| walk_at "isi") => `(tactic| first
  | (refine C_isi (b := true) (ty_int _) (.ty _) (kit_ty (by decide +kernel)) ?_)
  | (refine C_isi (b := false) (ty_int _) (.ty _) (kit_ty (by decide +kernel)) ?_)
  | (refine C_isi (b := true) (ty_bl _) (.ty _) (kit_ty (by decide +kernel)) ?_)
  | (refine C_isi (b := false) (ty_bl _) (.ty _) (kit_ty (by decide +kernel)) ?_)
  | (refine C_isi (b := true) ty_non (.ty _) (kit_ty (by decide +kernel)) ?_)
  | (refine C_isi (b := false) ty_non (.ty _) (kit_ty (by decide +kernel)) ?_)
  | (refine C_isi (b := true) ty_tup (.ty _) (kit_ty (by decide +kernel)) ?_)
  | (refine C_isi (b := false) ty_tup (.ty _) (kit_ty (by decide +kernel)) ?_)
  | (refine C_isiT (ty_int _) clsLT (kitLT (b1 := false) (b2 := false) (by decide +kernel) (by decide +kernel)) ?_)
  | (refine C_isiT (ty_int _) clsLT (kitLT (b1 := false) (b2 := true) (by decide +kernel) (by decide +kernel)) ?_)
  | (refine C_isiT (ty_bl _) clsLT (kitLT (b1 := false) (b2 := false) (by decide +kernel) (by decide +kernel)) ?_)
  | (refine C_isiT (ty_bl _) clsLT (kitLT (b1 := false) (b2 := true) (by decide +kernel) (by decide +kernel)) ?_)
  | (refine C_isiT ty_tup clsLT (kitLT (b1 := false) (b2 := false) (by decide +kernel) (by decide +kernel)) ?_)
  | (refine C_isiT ty_tup clsLT (kitLT (b1 := false) (b2 := true) (by decide +kernel) (by decide +kernel)) ?_))
section
variable {P : Program} {w : World} {K : PySem.W.Frag} {mg : Str → Option Value} {base : Heap}
open L2H AbH in
theorem passA0 {X : Cx} (σ : L2.St) : PassesAt CX0 X σ E0 := fun _ _ _ _ _ _ h => h.elim
theorem ok_SpanN (T : Tx K mg) : FnOk P w K mg base (L2N.CX P w) 3 T.Span_Dinit.f T.Span_Dinit.fd p_Span_Dinit (spInit T.C (F_init K T.CI)) := by
  refine T.Span_Dinit.F.okN sc_Span_Dinit (fun vs H Q E h => ?_) (fun cdv A outer s H vs Q Er hr h => ?_)
  · obtain ⟨B, x, dx, rest, ss, Φ, Ψ, rfl, _, _, _, p, ⟨lo, hi, rfl, _⟩, _⟩ := h
    rw [List.length_cons, p.length]; rfl
  · obtain ⟨B, x, dx, rest, ss, Φ, Ψ, rfl, hx, hB, b, p, ⟨lo, hi, rfl, hlo, hhi, k1, k2⟩, q1, q2⟩ := h
    cases p with
    | @cons vlo _ _ _ plo p => cases p with
      | @cons vhi _ _ _ phi p =>
        cases p
        refine ⟨_, pss_cons (ps_if (pt_val (pe_call (ok_is_less T) (hr.mono (by decide)) rfl T.is_less.g T.is_less.F.kp T.is_less.b .nil pass0 (pa_cons (pv 2) (pa_cons (pv 1) pa_nil))))
          (pss_one (L2N.ps_raise rfl (L2N.takes_of rfl rfl rfl rfl) (AbH.pmkN_oex T.oex T.InvalidNumber_Dinit.s (beq_iff_eq.mp T.InvalidNumber_Dinit.i) (ok_InvI T) (hr.mono (by decide)) T.InvalidNumber_Dinit.b pass0 rfl T.gInv (pa_cons (pv 2) pa_nil)))) pss_nil)
          (pss_cons (ps_fld (pv 0) (pv 1) rfl) (pss_one (ps_fld (pv 0) (pv 2) rfl))), ?_⟩
        have ent : At B H (L2.start n_Span_Dinit [.ref x, vlo, vhi]) B H [.pl (vS (.ref x)), .pl (ratS K lo), .pl (ratS K hi)] :=
          at_entry (N := n_Span_Dinit) (ss := [vS (.ref x), ratS K lo, ratS K hi]) b (.cons rfl (.cons plo (.cons phi .nil)))
        have key : S (tIfS (tB (tCall (spOf (F_less K)) [] E0 (tCons (tVar 2) (tCons (tVar 1) tNil)))) (fun _ σ H => tMkO T.CI (spXI K invN 1 invMk) [] (tCons (tVar 2) tNil) σ H fun cls d H' => Er cls d H') tNext) [.pl (vS (.ref x)), .pl (ratS K lo), .pl (ratS K hi)]
          { nx := fun Γ => Γ = [.pl (vS (.ref x)), .pl (ratS K lo), .pl (ratS K hi)] ∧ ¬ hi < lo, rt := fun _ _ => False, bk := fun _ => False, ct := fun _ => False, er := Er, ex := Ψ } := by
          repeat' walk_at "ab"
          refine ⟨_, _, rfl, hhi, hlo, ?_⟩
          repeat' walk_at "ab"
          · rename_i hc
            refine S_raise (mkS := invS) T.oex (fun f hf => ?_) inv_pfl ?_
            · rcases List.mem_cons.mp hf with rfl | hf
              · exact T.nVal
              · rcases List.mem_cons.mp hf with rfl | hf
                · exact T.nCode
                · cases hf
            · repeat' walk_at "ab"
              exact ⟨rfl, by decide, k2 hc⟩
          · rename_i hc
            exact ⟨rfl, hc⟩
        refine key B H _ _ B H ⟨?_, fun _ _ _ _ _ _ _ _ z => z.elim, fun _ _ _ _ _ z => z.elim, fun _ _ _ _ _ z => z.elim, fun e d Γ σ B' H' a xa k => q2 e d B' H' a.to xa k⟩ ent
        rintro Γ σ B' H' a ⟨rfl, hc⟩
        obtain ⟨v0, e0, p0⟩ := a.rel.pl 0 _ rfl
        obtain ⟨v1, e1, p1⟩ := a.rel.pl 1 _ rfl
        obtain ⟨v2, e2, p2⟩ := a.rel.pl 2 _ rfl
        obtain rfl : v0 = .ref x := p0
        obtain ⟨_, hx'⟩ := a.out x hB (by rw [hx]; simp)
        rw [hx] at hx'
        refine ⟨_, e1, _, e0, x, T.C, dx, [], rfl, hx', T.cl, T.nLow, by decide, _, e2, _, e0, x, T.C, dx, _, rfl, upd_same, T.cl, T.nHigh, by show 1 < 1000; decide, ?_⟩
        rw [upd_upd]
        have ef : putF "high" v2 (putF "low" v1 []) = ([("low", v1), ("high", v2)] : List (Str × V)) := by
          show (if ("low" : Str) = "high" then _ else (("low" : Str), v1) :: putF "high" v2 []) = _
          rw [if_neg lh]; rfl
        rw [ef]
        exact q1 [("low", ratS K lo), ("high", ratS K hi)] _ B' H' a.to (.cons ⟨rfl, p1⟩ (.cons ⟨rfl, p2⟩ .nil)) (k1 hc)
open L2H AbH in
theorem like_genH (T : Tx K mg) {j : Nat} {F' : FS} (G : L2H.FnH P w K mg base CX0 j T.llike.f T.llike.fd p_llike (spOf F')) : L2H.FnH P w K mg base CX0 (j + 1) T.llike.f T.llike.fd p_llike (spOf (F_likeG K F')) := by
  refine AbH.okH T.llike.F sc_llike (by
    intro ss Φ Ψ h
    rcases h with ⟨_, e, _⟩ | ⟨_, e, _⟩ <;> (rw [e]; rfl)) (fun cdv Ar outer s H Er p hot hr => ?_)
  have hc : HotC (L2H.cxH CX0 P w K mg base n_llike "_law_like" (defScope s_llike) T.llike.f cdv Ar outer s H Er p) := ⟨p, hot, List.mem_singleton.mpr rfl⟩
  have hu : (Ar.deeper (envOfC "_law_like" (defScope s_llike) s.heap.objs.size T.llike.f cdv)).units + 64 < cLine := by have := hr.un; omega
  refine ⟨_, (pss_cons (ps_if (PW.pt (pw_or (pt_cmpR op_isN (pv 1) pe_non (nomark _)) (pw_or1 (pt_cmpR op_isN (pv 0) pe_non (nomark _)))))
  (pss_one (ps_ret (pe_and (pe_cmpR op_isN (pv 1) pe_non (nomark _)) (pe_one (pe_cmpR op_isN (pv 0) pe_non (nomark _))))))
  pss_nil)
  (pss_cons (ps_if (pt_val (pe_callB call_isiT (by rfl) T.isinstance (by decide +kernel) (pa_cons (pv 1) (pa_cons (pe_tup (pa_cons (pe_bltn (by rfl) T.list (by decide +kernel) (rel_ty "list")) (pa_cons (pe_bltn (by rfl) T.tuple (by decide +kernel) (rel_ty "tuple")) pa_nil))) pa_nil))))
  (pss_cons (ps_if (PW.pt (pw_or (pt_cmpR op_ne (pe_callB call_isi (by rfl) T.isinstance (by decide +kernel) (pa_cons (pv 0) (pa_cons (pe_bltn (by rfl) T.list (by decide +kernel) (rel_ty "list")) pa_nil))) (pe_callB call_isi (by rfl) T.isinstance (by decide +kernel) (pa_cons (pv 1) (pa_cons (pe_bltn (by rfl) T.list (by decide +kernel) (rel_ty "list")) pa_nil))) (nomark _)) (pw_or1 (pt_cmpR op_ne (pe_callB call_isi (by rfl) T.isinstance (by decide +kernel) (pa_cons (pv 0) (pa_cons (pe_bltn (by rfl) T.tuple (by decide +kernel) (rel_ty "tuple")) pa_nil))) (pe_callB call_isi (by rfl) T.isinstance (by decide +kernel) (pa_cons (pv 1) (pa_cons (pe_bltn (by rfl) T.tuple (by decide +kernel) (rel_ty "tuple")) pa_nil))) (nomark _)))))
  (pss_one (ps_ret pe_bl))
  pss_nil)
  (pss_one (ps_ret (pe_and (pe_cmpR op_eq (pe_callB call_len_seq (by rfl) T.len PySem.boot_len (pa_cons (pv 0) pa_nil)) (pe_callB call_len_seq (by rfl) T.len PySem.boot_len (pa_cons (pv 1) pa_nil)) (nomark _)) (pe_one (pe_callB (AbH.cr_allH hc) (by rfl) T.all (by decide +kernel) (pa_cons (AbH.pe_lcH (p := p) (own := [("a", 2), ("b", 3)]) (g := (gTup K 2 (gCons (gName 2) (gCons (gName 3) gNil)))) hot (List.mem_singleton.mpr rfl) sc_llike.nd (AbH.pi_zipH (by rfl) T.zip (pa_cons (pv 0) (pa_cons (pv 1) pa_nil))) (blkOk_by (own := [("a", 2), ("b", 3)]) (N := n_llike) (sc := defScope s_llike) (by decide +kernel)) (fun _ _ _ _ _ => (AbH.pg_tupH ⟨p, hot, List.mem_singleton.mpr rfl⟩ (pgs_cons (pg_name (i := 2) sc_llike.nd rfl (Or.inl rfl) (Or.inr rfl)) (pgs_cons (pg_name (i := 3) sc_llike.nd rfl (Or.inl rfl) (Or.inr rfl)) pgs_nil)))) (fun _ _ _ _ _ => (L2H.pe_callH (E := fun _ => E0) G hr ⟨p, hot, List.mem_singleton.mpr rfl⟩ rfl T.llike.g T.llike.F.kp T.llike.b passA0 (pa_cons (pv 2) (pa_cons (pv 3) pa_nil))))) pa_nil)))))))
  pss_nil)
  (pss_cons (ps_if (PW.pt (pw_or (pt_cmpR op_ne (pe_callB call_isi (by rfl) T.isinstance (by decide +kernel) (pa_cons (pv 1) (pa_cons (pe_bltn (by rfl) T.bool (by decide +kernel) (rel_ty "bool")) pa_nil))) (pe_callB call_isi (by rfl) T.isinstance (by decide +kernel) (pa_cons (pv 0) (pa_cons (pe_bltn (by rfl) T.bool (by decide +kernel) (rel_ty "bool")) pa_nil))) (nomark _)) (pw_or1 (pt_cmpR op_ne (pe_callB call_isi (by rfl) T.isinstance (by decide +kernel) (pa_cons (pv 1) (pa_cons (pe_bltn (by rfl) T.int (by decide +kernel) (rel_ty "int")) pa_nil))) (pe_callB call_isi (by rfl) T.isinstance (by decide +kernel) (pa_cons (pv 0) (pa_cons (pe_bltn (by rfl) T.int (by decide +kernel) (rel_ty "int")) pa_nil))) (nomark _)))))
  (pss_one (ps_ret pe_bl))
  pss_nil)
  (pss_one (ps_ret (pe_and (pe_cmpR op_eq (pe_callB call_isi (by rfl) T.isinstance (by decide +kernel) (pa_cons (pv 0) (pa_cons (pe_bltn (by rfl) T.str (by decide +kernel) (rel_ty "str")) pa_nil))) (pe_callB call_isi (by rfl) T.isinstance (by decide +kernel) (pa_cons (pv 1) (pa_cons (pe_bltn (by rfl) T.str (by decide +kernel) (rel_ty "str")) pa_nil))) (nomark _)) (pe_one (pe_cmpR (op_eqD hu) (pv 0) (pv 1) (nomark _))))))))), fun ss Φ Ψ h => ?_⟩
  rcases h with ⟨v, rfl, hv, k⟩ | ⟨q, rfl, hF, k⟩
  · rcases hv with rfl | ⟨i, rfl⟩ | ⟨b, rfl⟩
    · repeat' first | (refine R_neSame rfl ?_) | (refine R_eqSame rfl ?_) | (refine R_isNi ?_) | (refine R_isNb ?_) | (refine R_isNn ?_) | walk_at "ab" | fail
      exact k
    · repeat' first | (refine R_neSame rfl ?_) | (refine R_eqSame rfl ?_) | (refine R_isNi ?_) | (refine R_isNb ?_) | (refine R_isNn ?_) | (with_reducible refine E_tupC (cs := [.ty "list", .ty "tuple"]) ?_) | walk_at "ab" | (refine ⟨rfl, by decide, ?_⟩) | walk_at "isi" | (refine R_eqDs (dp_int _) rfl rfl ?_) | fail
      exact k
    · repeat' first | (refine R_neSame rfl ?_) | (refine R_eqSame rfl ?_) | (refine R_isNi ?_) | (refine R_isNb ?_) | (refine R_isNn ?_) | (with_reducible refine E_tupC (cs := [.ty "list", .ty "tuple"]) ?_) | walk_at "ab" | (refine ⟨rfl, by decide, ?_⟩) | walk_at "isi" | (refine R_eqDs (dp_bl _) rfl rfl ?_) | fail
      exact k
  · repeat' first | (refine R_neSame rfl ?_) | (refine R_eqSame rfl ?_) | (refine R_isNt ?_) | (refine C_len _ 2 ⟨.inr rfl, rfl⟩ ?_) | (with_reducible refine E_tupC (cs := [.ty "list", .ty "tuple"]) ?_) | walk_at "ab" | (refine ⟨rfl, by decide, ?_⟩) | walk_at "isi" | fail
    refine E_lcZH [(vS (.int q.num), vS (.int q.num)), (vS (.int q.den), vS (.int q.den))] (fun _ => vS (.bl true)) ?_ (by show 2 ≤ 50000; decide) ?_ ?_
    · repeat' first | walk_at "ab" | fail
      rfl
    · intro x hx
      obtain ⟨i, rfl⟩ : ∃ i : Int, x = (vS (.int i), vS (.int i)) := by
        rcases List.mem_cons.mp hx with rfl | hx
        · exact ⟨_, rfl⟩
        · rcases List.mem_cons.mp hx with rfl | hx
          · exact ⟨_, rfl⟩
          · cases hx
      refine G_tup rfl (G_cons (G_name (by decide) (G_cons (G_name (by decide) (G_nil ?_)))))
      refine T_yes ⟨rfl, fun _ => E_callH ?_⟩
      repeat' first | walk_at "ab" | fail
      exact hF i _ rfl
    · repeat' first | walk_at "ab" | (refine C_all [true, true] rfl ?_) | fail
      exact k
theorem ok_llikeH (T : Tx K mg) : L2H.FnH P w K mg base CX0 2 T.llike.f T.llike.fd p_llike (spOf (F_like K)) := by
  have G0 : L2H.FnH P w K mg base CX0 0 T.llike.f T.llike.fd p_llike (spOf fun _ _ _ => False) := ⟨fun vs H Q E ⟨_, _, _, _, _, _, h, _⟩ => h.elim, fun _ _ _ _ _ _ _ _ _ _ _ _ _ _ _ _ ⟨_, _, _, _, _, _, h, _⟩ => h.elim⟩
  have G1 := like_genH T G0
  refine AbH.FnH.imp' (like_genH T G1) fun vs H Q E ⟨B, ss, Φ, Ψ, b, p, h, k1, k2⟩ => ⟨B, ss, Φ, Ψ, b, p, ?_, k1, k2⟩
  rcases h with h | ⟨q, e, k⟩
  · exact .inl h
  · exact .inr ⟨q, e, fun i Φ' k' => .inl ⟨.int i, rfl, .inr (.inl ⟨i, rfl⟩), k'⟩, k⟩
theorem lk_code {s : Slot} : List.lookup ("code" : Str) (invS [s]) = some (vS (.str "InvalidNumber")) := by
  unfold invS
  rw [List.lookup_cons, beq_self_eq_true]
theorem lk_value {s : Slot} : List.lookup ("value" : Str) (invS [s]) = some s := by
  unfold invS
  rw [List.lookup_cons, show (("value" : Str) == "code") = false by decide +kernel, List.lookup_cons, beq_self_eq_true]
  rfl
theorem ok_lrefused (T : Tx K mg) : FnOk P w K mg base CX0 9 T.lrefused.f T.lrefused.fd p_lrefused (spOf (F_ref K)) := by
  refine ok0 T.lrefused.F sc_lrefused (by intro ss Φ Ψ h; revert h; walk_at "len") (fun cdv Ar outer s H Er hr => ⟨_, pss_cons (L2N.ps_try_as (i := 2) (tb := fun W => tDrop (AbH.tMakeS T.C (spInit T.C (F_init K T.CI)) (WE W) (tCons (tVar 0) (tCons (tVar 1) tNil)))) (Wout := fun _ _ _ _ => False) rfl rfl sc_lrefused.nd rfl rfl ⟨rfl, by decide, Or.inl T.gInv⟩ AbH.takes_noN
    (fun W pn xe tk _ => pss_one (ps_expr (AbH.pe_makeS T.mkSpan (ok_SpanN T) (hr.mono (by decide)) rfl T.gSpan T.Span_Dinit.b (fun σ => L2N.passAt tk σ) (pa_cons (pv 0) (pa_cons (pv 1) pa_nil)))))
    (fun a oe cls d pn hz hf => pss_one (ps_ret (pe_and (L2H.pe_callH (E := fun _ => E0) (ok_llikeH T) (L2H.roomH_mark (hr.mono (by decide)) _) (AbH.hot_suite hz hf) rfl T.llike.g T.llike.F.kp T.llike.b passA0 (pa_cons (pe_xf T.xf T.nVal hz.zc hf (pv 2)) (pa_cons (pv 1) pa_nil)))
      (pe_and (pe_cmpR op_eq (pe_xf T.xf T.nCode hz.zc hf (pv 2)) pe_str (nomark _)) (pe_and (pe_callB (AbH.call_isD T.xc hz.zc hf) (by rfl) T.isinstance (by decide +kernel) (pa_cons (pv 2) (pa_cons (pe_glob rfl T.gCE (rel_ref _)) pa_nil))) (pe_one (pe_not (pe_callB (AbH.call_isD T.xc hz.zc hf) (by rfl) T.isinstance (by decide +kernel) (pa_cons (pv 2) (pa_cons (pe_glob rfl T.gCN (rel_ref _)) pa_nil)))))))))))
    (pss_one (ps_ret pe_bl)), fun ss Φ Ψ h => ?_⟩)
  obtain ⟨a, b, rfl, hba, ha, hb, k⟩ := h
  refine S_seq (S_tryMake T.exI ?_)
  repeat' first | walk_at "ab" | fail
  refine ⟨a, b, rfl, ha, hb, fun h => absurd hba h, fun _ => ⟨rfl, fun e d => ?_⟩⟩
  repeat' first | (with_reducible refine E_callH ?_) | (with_reducible refine E_xf (E_var rfl ⟨_, _, rfl, rfl, lk_code, ?_⟩)) | (with_reducible refine E_xf (E_var rfl ⟨_, _, rfl, rfl, lk_value, ?_⟩)) | (refine C_isD (cv := .ref T.CE) (fun u h => h) T.isE ?_) | (refine C_isD (cv := .ref T.CN) (fun u h => h) T.isN ?_) | (refine R_eqSame rfl ?_) | ((with_reducible show F_like _ _ _ _); refine .inr ⟨_, rfl, ?_⟩) | (refine E_true ?_ k) | walk_at "ab" | fail
  rfl
end
end K78

/-! K78Z -/
namespace K78
open PySem PySem.Spec PyProof.Rows L2 Ab RatM
theorem kit_mk {K : PySem.W.Frag} {t : Value} {C : Addr} {b : Bool} (h1 : PySem.W.isClsIn K C = true) (h2 : PySem.W.typeIn K (.ref C) = some (.type "type")) (h3 : PySem.W.subIn K t (.ref C) = some b) (he : (t == .ref C) = true → b = true) : PySem.W.kitOne K t (.ref C) = some b := by
  unfold PySem.W.kitOne
  split
  · rename_i e; rw [he e]
  · show (if ((PySem.W.clsIn K C).isSome && PySem.W.typeIn K (.ref C) == some (.type "type")) = true then PySem.W.subIn K t (.ref C) else none) = some b
    rw [if_pos (by rw [show (PySem.W.clsIn K C).isSome = true from h1, h2]; rfl)]; exact h3
theorem sub_nf {K : PySem.W.Frag} {T : String} {C : Addr} (h : PySem.W.notFirst K C (.type T) = true) : PySem.W.subIn K (.type T) (.ref C) = some false := by
  unfold PySem.W.notFirst at h
  rw [show (Value.type T == Value.ref C) = false from rfl, Bool.false_or] at h
  exact beq_iff_eq.mp h
theorem fundW {K : PySem.W.Frag} {fW aD : Addr} {ocW kVW dcW pmW cdW ctW oD : Value} {odW anW odD : Option Addr} {slW slD : Array (Option Value)} {tD : Tok} {nD : Nat} (l : K.lookup fW = some ⟨ocW, odW, .func (PySem.W.fnOf "worth" "worth" (defArgs s_worth) (defBody s_worth) (defScope s_worth) (.ref aD) kVW dcW pmW anW cdW ctW), slW⟩)
    (c : PySem.W.codeIn K cdW "worth" = true) (k : PySem.W.keepIn K (.ref fW) = true) (d : K.lookup aD = some ⟨oD, odD, .seq #[.int 1 tD] nD, slD⟩) : FunD K "worth" "worth" (defArgs s_worth) (defBody s_worth) (defScope s_worth) [.int 1] [] fW (PySem.W.fnOf "worth" "worth" (defArgs s_worth) (defBody s_worth) (defScope s_worth) (.ref aD) kVW dcW pmW anW cdW ctW) :=
  ⟨⟨ocW, odW, .ref aD, kVW, dcW, pmW, anW, cdW, ctW, slW, rfl, l, c, .inr ⟨by decide, aD, _, [.int 1 tD], nD, rfl, d, rfl, .cons ⟨tD, rfl⟩ .nil⟩, .inl rfl⟩, k⟩
theorem bindW {K : PySem.W.Frag} {f : Addr} {fd : FuncData} (F : FunD K "worth" "worth" (defArgs s_worth) (defBody s_worth) (defScope s_worth) [.int 1] [] f fd) : Binds K fd p_worth [] := by
  obtain ⟨ds, hv, hb⟩ := F.binds1 (ps := p_worth) 2 1 (by decide) rfl fun T kV doc pm an cdv ct us its hl hi => match us, its, hl, hi with | [_, _], [_], _, _ => ⟨_, rfl, rfl⟩
  cases hv
  exact hb
noncomputable section
def mkTx {K : PySem.W.Frag} {h : Heap} {mg : Str → Option Value} {C CI CE CN fW aD aZ : Addr} (X : K.In h) (G : h.Ns mainGlobals mg)
    {f_plus : Addr} {od_plus an_plus : Option Addr} {sl_plus : Array (Option Value)} {oc_plus kV_plus dc_plus pm_plus cd_plus ct_plus : Value}
    {f_minus : Addr} {od_minus an_minus : Option Addr} {sl_minus : Array (Option Value)} {oc_minus kV_minus dc_minus pm_minus cd_minus ct_minus : Value}
    {f_product : Addr} {od_product an_product : Option Addr} {sl_product : Array (Option Value)} {oc_product kV_product dc_product pm_product cd_product ct_product : Value}
    {f_quotient : Addr} {od_quotient an_quotient : Option Addr} {sl_quotient : Array (Option Value)} {oc_quotient kV_quotient dc_quotient pm_quotient cd_quotient ct_quotient : Value}
    {f_is_less : Addr} {od_is_less an_is_less : Option Addr} {sl_is_less : Array (Option Value)} {oc_is_less kV_is_less dc_is_less pm_is_less cd_is_less ct_is_less : Value}
    {f_floor_of : Addr} {od_floor_of an_floor_of : Option Addr} {sl_floor_of : Array (Option Value)} {oc_floor_of kV_floor_of dc_floor_of pm_floor_of cd_floor_of ct_floor_of : Value}
    {f_worth_text : Addr} {od_worth_text an_worth_text : Option Addr} {sl_worth_text : Array (Option Value)} {oc_worth_text kV_worth_text dc_worth_text pm_worth_text cd_worth_text ct_worth_text : Value}
    {f_xless_one : Addr} {od_xless_one an_xless_one : Option Addr} {sl_xless_one : Array (Option Value)} {oc_xless_one kV_xless_one dc_xless_one pm_xless_one cd_xless_one ct_xless_one : Value}
    {f_xgreater_one : Addr} {od_xgreater_one an_xgreater_one : Option Addr} {sl_xgreater_one : Array (Option Value)} {oc_xgreater_one kV_xgreater_one dc_xgreater_one pm_xgreater_one cd_xgreater_one ct_xgreater_one : Value}
    {f_xaround : Addr} {od_xaround an_xaround : Option Addr} {sl_xaround : Array (Option Value)} {oc_xaround kV_xaround dc_xaround pm_xaround cd_xaround ct_xaround : Value}
    {f_Span_Dinit : Addr} {od_Span_Dinit an_Span_Dinit : Option Addr} {sl_Span_Dinit : Array (Option Value)} {oc_Span_Dinit kV_Span_Dinit dc_Span_Dinit pm_Span_Dinit cd_Span_Dinit ct_Span_Dinit : Value}
    {f_Span_Dadd : Addr} {od_Span_Dadd an_Span_Dadd : Option Addr} {sl_Span_Dadd : Array (Option Value)} {oc_Span_Dadd kV_Span_Dadd dc_Span_Dadd pm_Span_Dadd cd_Span_Dadd ct_Span_Dadd : Value}
    {f_Span_Dsub : Addr} {od_Span_Dsub an_Span_Dsub : Option Addr} {sl_Span_Dsub : Array (Option Value)} {oc_Span_Dsub kV_Span_Dsub dc_Span_Dsub pm_Span_Dsub cd_Span_Dsub ct_Span_Dsub : Value}
    {f_Span_Dmul : Addr} {od_Span_Dmul an_Span_Dmul : Option Addr} {sl_Span_Dmul : Array (Option Value)} {oc_Span_Dmul kV_Span_Dmul dc_Span_Dmul pm_Span_Dmul cd_Span_Dmul ct_Span_Dmul : Value}
    {f_Span_over : Addr} {od_Span_over an_Span_over : Option Addr} {sl_Span_over : Array (Option Value)} {oc_Span_over kV_Span_over dc_Span_over pm_Span_over cd_Span_over ct_Span_over : Value}
    {f_Span_floor : Addr} {od_Span_floor an_Span_floor : Option Addr} {sl_Span_floor : Array (Option Value)} {oc_Span_floor kV_Span_floor dc_Span_floor pm_Span_floor cd_Span_floor ct_Span_floor : Value}
    {f_Span_least : Addr} {od_Span_least an_Span_least : Option Addr} {sl_Span_least : Array (Option Value)} {oc_Span_least kV_Span_least dc_Span_least pm_Span_least cd_Span_least ct_Span_least : Value}
    {f_Span_greatest : Addr} {od_Span_greatest an_Span_greatest : Option Addr} {sl_Span_greatest : Array (Option Value)} {oc_Span_greatest kV_Span_greatest dc_Span_greatest pm_Span_greatest cd_Span_greatest ct_Span_greatest : Value}
    {f_Span_below : Addr} {od_Span_below an_Span_below : Option Addr} {sl_Span_below : Array (Option Value)} {oc_Span_below kV_Span_below dc_Span_below pm_Span_below cd_Span_below ct_Span_below : Value}
    {f_Span_at_most : Addr} {od_Span_at_most an_Span_at_most : Option Addr} {sl_Span_at_most : Array (Option Value)} {oc_Span_at_most kV_Span_at_most dc_Span_at_most pm_Span_at_most cd_Span_at_most ct_Span_at_most : Value}
    {f_Span_same : Addr} {od_Span_same an_Span_same : Option Addr} {sl_Span_same : Array (Option Value)} {oc_Span_same kV_Span_same dc_Span_same pm_Span_same cd_Span_same ct_Span_same : Value}
    {f_Span_truth : Addr} {od_Span_truth an_Span_truth : Option Addr} {sl_Span_truth : Array (Option Value)} {oc_Span_truth kV_Span_truth dc_Span_truth pm_Span_truth cd_Span_truth ct_Span_truth : Value}
    {f_Span_single : Addr} {od_Span_single an_Span_single : Option Addr} {sl_Span_single : Array (Option Value)} {oc_Span_single kV_Span_single dc_Span_single pm_Span_single cd_Span_single ct_Span_single : Value}
    {f_Span_Dcontains : Addr} {od_Span_Dcontains an_Span_Dcontains : Option Addr} {sl_Span_Dcontains : Array (Option Value)} {oc_Span_Dcontains kV_Span_Dcontains dc_Span_Dcontains pm_Span_Dcontains cd_Span_Dcontains ct_Span_Dcontains : Value}
    {f_Span_Deq : Addr} {od_Span_Deq an_Span_Deq : Option Addr} {sl_Span_Deq : Array (Option Value)} {oc_Span_Deq kV_Span_Deq dc_Span_Deq pm_Span_Deq cd_Span_Deq ct_Span_Deq : Value}
    {f_Span_Dstr : Addr} {od_Span_Dstr an_Span_Dstr : Option Addr} {sl_Span_Dstr : Array (Option Value)} {oc_Span_Dstr kV_Span_Dstr dc_Span_Dstr pm_Span_Dstr cd_Span_Dstr ct_Span_Dstr : Value}
    {f_point : Addr} {od_point an_point : Option Addr} {sl_point : Array (Option Value)} {oc_point kV_point dc_point pm_point cd_point ct_point : Value}
    {f_InvalidNumber_Dinit : Addr} {od_InvalidNumber_Dinit an_InvalidNumber_Dinit : Option Addr} {sl_InvalidNumber_Dinit : Array (Option Value)} {oc_InvalidNumber_Dinit kV_InvalidNumber_Dinit dc_InvalidNumber_Dinit pm_InvalidNumber_Dinit cd_InvalidNumber_Dinit ct_InvalidNumber_Dinit : Value}
    {f_lbag : Addr} {od_lbag an_lbag : Option Addr} {sl_lbag : Array (Option Value)} {oc_lbag kV_lbag dc_lbag pm_lbag cd_lbag ct_lbag : Value}
    {f_lpull : Addr} {od_lpull an_lpull : Option Addr} {sl_lpull : Array (Option Value)} {oc_lpull kV_lpull dc_lpull pm_lpull cd_lpull ct_lpull : Value}
    {f_lof : Addr} {od_lof an_lof : Option Addr} {sl_lof : Array (Option Value)} {oc_lof kV_lof dc_lof pm_lof cd_lof ct_lof : Value}
    {f_llike : Addr} {od_llike an_llike : Option Addr} {sl_llike : Array (Option Value)} {oc_llike kV_llike dc_llike pm_llike cd_llike ct_llike : Value}
    {f_lfit : Addr} {od_lfit an_lfit : Option Addr} {sl_lfit : Array (Option Value)} {oc_lfit kV_lfit dc_lfit pm_lfit cd_lfit ct_lfit : Value}
    {f_lplus : Addr} {od_lplus an_lplus : Option Addr} {sl_lplus : Array (Option Value)} {oc_lplus kV_lplus dc_lplus pm_lplus cd_lplus ct_lplus : Value}
    {f_lminus : Addr} {od_lminus an_lminus : Option Addr} {sl_lminus : Array (Option Value)} {oc_lminus kV_lminus dc_lminus pm_lminus cd_lminus ct_lminus : Value}
    {f_ltimes : Addr} {od_ltimes an_ltimes : Option Addr} {sl_ltimes : Array (Option Value)} {oc_ltimes kV_ltimes dc_ltimes pm_ltimes cd_ltimes ct_ltimes : Value}
    {f_lpart : Addr} {od_lpart an_lpart : Option Addr} {sl_lpart : Array (Option Value)} {oc_lpart kV_lpart dc_lpart pm_lpart cd_lpart ct_lpart : Value}
    {f_lless : Addr} {od_lless an_lless : Option Addr} {sl_lless : Array (Option Value)} {oc_lless kV_lless dc_lless pm_lless cd_lless ct_lless : Value}
    {f_ltext : Addr} {od_ltext an_ltext : Option Addr} {sl_ltext : Array (Option Value)} {oc_ltext kV_ltext dc_ltext pm_ltext cd_ltext ct_ltext : Value}
    {f_lworth : Addr} {od_lworth an_lworth : Option Addr} {sl_lworth : Array (Option Value)} {oc_lworth kV_lworth dc_lworth pm_lworth cd_lworth ct_lworth : Value}
    {f_lends : Addr} {od_lends an_lends : Option Addr} {sl_lends : Array (Option Value)} {oc_lends kV_lends dc_lends pm_lends cd_lends ct_lends : Value}
    {f_lwithin : Addr} {od_lwithin an_lwithin : Option Addr} {sl_lwithin : Array (Option Value)} {oc_lwithin kV_lwithin dc_lwithin pm_lwithin cd_lwithin ct_lwithin : Value}
    {f_lleast : Addr} {od_lleast an_lleast : Option Addr} {sl_lleast : Array (Option Value)} {oc_lleast kV_lleast dc_lleast pm_lleast cd_lleast ct_lleast : Value}
    {f_ldown : Addr} {od_ldown an_ldown : Option Addr} {sl_ldown : Array (Option Value)} {oc_ldown kV_ldown dc_ldown pm_ldown cd_ldown ct_ldown : Value}
    {f_lholds : Addr} {od_lholds an_lholds : Option Addr} {sl_lholds : Array (Option Value)} {oc_lholds kV_lholds dc_lholds pm_lholds cd_lholds ct_lholds : Value}
    {f_lways : Addr} {od_lways an_lways : Option Addr} {sl_lways : Array (Option Value)} {oc_lways kV_lways dc_lways pm_lways cd_lways ct_lways : Value}
    {f_lcalled : Addr} {od_lcalled an_lcalled : Option Addr} {sl_lcalled : Array (Option Value)} {oc_lcalled kV_lcalled dc_lcalled pm_lcalled cd_lcalled ct_lcalled : Value}
    {f_loperators : Addr} {od_loperators an_loperators : Option Addr} {sl_loperators : Array (Option Value)} {oc_loperators kV_loperators dc_loperators pm_loperators cd_loperators ct_loperators : Value}
    {f_lagree : Addr} {od_lagree an_lagree : Option Addr} {sl_lagree : Array (Option Value)} {oc_lagree kV_lagree dc_lagree pm_lagree cd_lagree ct_lagree : Value}
    {f_lsame : Addr} {od_lsame an_lsame : Option Addr} {sl_lsame : Array (Option Value)} {oc_lsame kV_lsame dc_lsame pm_lsame cd_lsame ct_lsame : Value}
    {f_lcompared : Addr} {od_lcompared an_lcompared : Option Addr} {sl_lcompared : Array (Option Value)} {oc_lcompared kV_lcompared dc_lcompared pm_lcompared cd_lcompared ct_lcompared : Value}
    {f_lrefused : Addr} {od_lrefused an_lrefused : Option Addr} {sl_lrefused : Array (Option Value)} {oc_lrefused kV_lrefused dc_lrefused pm_lrefused cd_lrefused ct_lrefused : Value}
    {f_lalone : Addr} {od_lalone an_lalone : Option Addr} {sl_lalone : Array (Option Value)} {oc_lalone kV_lalone dc_lalone pm_lalone cd_lalone ct_lalone : Value}
    {f_law : Addr} {od_law an_law : Option Addr} {sl_law : Array (Option Value)} {oc_law kV_law dc_law pm_law cd_law ct_law : Value}
    {x1 x2 : Str} {x3 : Addr} {x4 x5 x7 : List Value} {x6 : List Str} {x8 : Bool} {x9 : Option Bool} {x10 : Option Addr} {y0 y1 y2 y3 y5 : Option Value}
    {ocW kVW dcW pmW cdW ctW oD : Value} {odW anW odD odZ : Option Addr} {slW slD slZ : Array (Option Value)} {tD t0 t1 : Tok} {nD nZ : Nat}
    (aC : PySem.W.nsIn K mainGlobals "Span" = some (some (.ref C)))
    (aInv : PySem.W.nsIn K mainGlobals "InvalidNumber" = some (some (.ref CI)))
    (aCE : PySem.W.nsIn K mainGlobals "CountError" = some (some (.ref CE)))
    (aCN : PySem.W.nsIn K mainGlobals "InvalidNames" = some (some (.ref CN)))
    (aW : PySem.W.nsIn K mainGlobals "worth" = some (some (.ref fW)))
    (aZ' : PySem.W.nsIn K mainGlobals "ZERO" = some (some (.ref aZ)))
    (a_plus : PySem.W.nsIn K mainGlobals "plus" = some (some (.ref f_plus)))
    (l_plus : K.lookup f_plus = some ⟨oc_plus, od_plus, .func (PySem.W.fnOf "plus" "plus" (defArgs s_plus) (defBody s_plus) (defScope s_plus) .none kV_plus dc_plus pm_plus an_plus cd_plus ct_plus), sl_plus⟩)
    (c_plus : PySem.W.codeIn K cd_plus "plus" = true)
    (k_plus : PySem.W.keepIn K (.ref f_plus) = true)
    (a_minus : PySem.W.nsIn K mainGlobals "minus" = some (some (.ref f_minus)))
    (l_minus : K.lookup f_minus = some ⟨oc_minus, od_minus, .func (PySem.W.fnOf "minus" "minus" (defArgs s_minus) (defBody s_minus) (defScope s_minus) .none kV_minus dc_minus pm_minus an_minus cd_minus ct_minus), sl_minus⟩)
    (c_minus : PySem.W.codeIn K cd_minus "minus" = true)
    (k_minus : PySem.W.keepIn K (.ref f_minus) = true)
    (a_product : PySem.W.nsIn K mainGlobals "product" = some (some (.ref f_product)))
    (l_product : K.lookup f_product = some ⟨oc_product, od_product, .func (PySem.W.fnOf "product" "product" (defArgs s_product) (defBody s_product) (defScope s_product) .none kV_product dc_product pm_product an_product cd_product ct_product), sl_product⟩)
    (c_product : PySem.W.codeIn K cd_product "product" = true)
    (k_product : PySem.W.keepIn K (.ref f_product) = true)
    (a_quotient : PySem.W.nsIn K mainGlobals "quotient" = some (some (.ref f_quotient)))
    (l_quotient : K.lookup f_quotient = some ⟨oc_quotient, od_quotient, .func (PySem.W.fnOf "quotient" "quotient" (defArgs s_quotient) (defBody s_quotient) (defScope s_quotient) .none kV_quotient dc_quotient pm_quotient an_quotient cd_quotient ct_quotient), sl_quotient⟩)
    (c_quotient : PySem.W.codeIn K cd_quotient "quotient" = true)
    (k_quotient : PySem.W.keepIn K (.ref f_quotient) = true)
    (a_is_less : PySem.W.nsIn K mainGlobals "is_less" = some (some (.ref f_is_less)))
    (l_is_less : K.lookup f_is_less = some ⟨oc_is_less, od_is_less, .func (PySem.W.fnOf "is_less" "is_less" (defArgs s_is_less) (defBody s_is_less) (defScope s_is_less) .none kV_is_less dc_is_less pm_is_less an_is_less cd_is_less ct_is_less), sl_is_less⟩)
    (c_is_less : PySem.W.codeIn K cd_is_less "is_less" = true)
    (k_is_less : PySem.W.keepIn K (.ref f_is_less) = true)
    (a_floor_of : PySem.W.nsIn K mainGlobals "floor_of" = some (some (.ref f_floor_of)))
    (l_floor_of : K.lookup f_floor_of = some ⟨oc_floor_of, od_floor_of, .func (PySem.W.fnOf "floor_of" "floor_of" (defArgs s_floor_of) (defBody s_floor_of) (defScope s_floor_of) .none kV_floor_of dc_floor_of pm_floor_of an_floor_of cd_floor_of ct_floor_of), sl_floor_of⟩)
    (c_floor_of : PySem.W.codeIn K cd_floor_of "floor_of" = true)
    (k_floor_of : PySem.W.keepIn K (.ref f_floor_of) = true)
    (a_worth_text : PySem.W.nsIn K mainGlobals "worth_text" = some (some (.ref f_worth_text)))
    (l_worth_text : K.lookup f_worth_text = some ⟨oc_worth_text, od_worth_text, .func (PySem.W.fnOf "worth_text" "worth_text" (defArgs s_worth_text) (defBody s_worth_text) (defScope s_worth_text) .none kV_worth_text dc_worth_text pm_worth_text an_worth_text cd_worth_text ct_worth_text), sl_worth_text⟩)
    (c_worth_text : PySem.W.codeIn K cd_worth_text "worth_text" = true)
    (k_worth_text : PySem.W.keepIn K (.ref f_worth_text) = true)
    (a_xless_one : PySem.W.nsIn K mainGlobals "_less_one" = some (some (.ref f_xless_one)))
    (l_xless_one : K.lookup f_xless_one = some ⟨oc_xless_one, od_xless_one, .func (PySem.W.fnOf "_less_one" "_less_one" (defArgs s_xless_one) (defBody s_xless_one) (defScope s_xless_one) .none kV_xless_one dc_xless_one pm_xless_one an_xless_one cd_xless_one ct_xless_one), sl_xless_one⟩)
    (c_xless_one : PySem.W.codeIn K cd_xless_one "_less_one" = true)
    (k_xless_one : PySem.W.keepIn K (.ref f_xless_one) = true)
    (a_xgreater_one : PySem.W.nsIn K mainGlobals "_greater_one" = some (some (.ref f_xgreater_one)))
    (l_xgreater_one : K.lookup f_xgreater_one = some ⟨oc_xgreater_one, od_xgreater_one, .func (PySem.W.fnOf "_greater_one" "_greater_one" (defArgs s_xgreater_one) (defBody s_xgreater_one) (defScope s_xgreater_one) .none kV_xgreater_one dc_xgreater_one pm_xgreater_one an_xgreater_one cd_xgreater_one ct_xgreater_one), sl_xgreater_one⟩)
    (c_xgreater_one : PySem.W.codeIn K cd_xgreater_one "_greater_one" = true)
    (k_xgreater_one : PySem.W.keepIn K (.ref f_xgreater_one) = true)
    (a_xaround : PySem.W.nsIn K mainGlobals "_around" = some (some (.ref f_xaround)))
    (l_xaround : K.lookup f_xaround = some ⟨oc_xaround, od_xaround, .func (PySem.W.fnOf "_around" "_around" (defArgs s_xaround) (defBody s_xaround) (defScope s_xaround) .none kV_xaround dc_xaround pm_xaround an_xaround cd_xaround ct_xaround), sl_xaround⟩)
    (c_xaround : PySem.W.codeIn K cd_xaround "_around" = true)
    (k_xaround : PySem.W.keepIn K (.ref f_xaround) = true)
    (a_Span_Dinit : PySem.W.findIn K (.ref C) "__init__" = some (some (.ref f_Span_Dinit)))
    (i_Span_Dinit : PySem.W.isFn K (.ref f_Span_Dinit) = true)
    (l_Span_Dinit : K.lookup f_Span_Dinit = some ⟨oc_Span_Dinit, od_Span_Dinit, .func (PySem.W.fnOf "__init__" "Span.__init__" (defArgs s_Span_Dinit) (defBody s_Span_Dinit) (defScope s_Span_Dinit) .none kV_Span_Dinit dc_Span_Dinit pm_Span_Dinit an_Span_Dinit cd_Span_Dinit ct_Span_Dinit), sl_Span_Dinit⟩)
    (c_Span_Dinit : PySem.W.codeIn K cd_Span_Dinit "Span.__init__" = true)
    (k_Span_Dinit : PySem.W.keepIn K (.ref f_Span_Dinit) = true)
    (a_Span_Dadd : PySem.W.findIn K (.ref C) "__add__" = some (some (.ref f_Span_Dadd)))
    (i_Span_Dadd : PySem.W.isFn K (.ref f_Span_Dadd) = true)
    (l_Span_Dadd : K.lookup f_Span_Dadd = some ⟨oc_Span_Dadd, od_Span_Dadd, .func (PySem.W.fnOf "__add__" "Span.__add__" (defArgs s_Span_Dadd) (defBody s_Span_Dadd) (defScope s_Span_Dadd) .none kV_Span_Dadd dc_Span_Dadd pm_Span_Dadd an_Span_Dadd cd_Span_Dadd ct_Span_Dadd), sl_Span_Dadd⟩)
    (c_Span_Dadd : PySem.W.codeIn K cd_Span_Dadd "Span.__add__" = true)
    (k_Span_Dadd : PySem.W.keepIn K (.ref f_Span_Dadd) = true)
    (a_Span_Dsub : PySem.W.findIn K (.ref C) "__sub__" = some (some (.ref f_Span_Dsub)))
    (i_Span_Dsub : PySem.W.isFn K (.ref f_Span_Dsub) = true)
    (l_Span_Dsub : K.lookup f_Span_Dsub = some ⟨oc_Span_Dsub, od_Span_Dsub, .func (PySem.W.fnOf "__sub__" "Span.__sub__" (defArgs s_Span_Dsub) (defBody s_Span_Dsub) (defScope s_Span_Dsub) .none kV_Span_Dsub dc_Span_Dsub pm_Span_Dsub an_Span_Dsub cd_Span_Dsub ct_Span_Dsub), sl_Span_Dsub⟩)
    (c_Span_Dsub : PySem.W.codeIn K cd_Span_Dsub "Span.__sub__" = true)
    (k_Span_Dsub : PySem.W.keepIn K (.ref f_Span_Dsub) = true)
    (a_Span_Dmul : PySem.W.findIn K (.ref C) "__mul__" = some (some (.ref f_Span_Dmul)))
    (i_Span_Dmul : PySem.W.isFn K (.ref f_Span_Dmul) = true)
    (l_Span_Dmul : K.lookup f_Span_Dmul = some ⟨oc_Span_Dmul, od_Span_Dmul, .func (PySem.W.fnOf "__mul__" "Span.__mul__" (defArgs s_Span_Dmul) (defBody s_Span_Dmul) (defScope s_Span_Dmul) .none kV_Span_Dmul dc_Span_Dmul pm_Span_Dmul an_Span_Dmul cd_Span_Dmul ct_Span_Dmul), sl_Span_Dmul⟩)
    (c_Span_Dmul : PySem.W.codeIn K cd_Span_Dmul "Span.__mul__" = true)
    (k_Span_Dmul : PySem.W.keepIn K (.ref f_Span_Dmul) = true)
    (a_Span_over : PySem.W.findIn K (.ref C) "over" = some (some (.ref f_Span_over)))
    (i_Span_over : PySem.W.isFn K (.ref f_Span_over) = true)
    (l_Span_over : K.lookup f_Span_over = some ⟨oc_Span_over, od_Span_over, .func (PySem.W.fnOf "over" "Span.over" (defArgs s_Span_over) (defBody s_Span_over) (defScope s_Span_over) .none kV_Span_over dc_Span_over pm_Span_over an_Span_over cd_Span_over ct_Span_over), sl_Span_over⟩)
    (c_Span_over : PySem.W.codeIn K cd_Span_over "Span.over" = true)
    (k_Span_over : PySem.W.keepIn K (.ref f_Span_over) = true)
    (a_Span_floor : PySem.W.findIn K (.ref C) "floor" = some (some (.ref f_Span_floor)))
    (i_Span_floor : PySem.W.isFn K (.ref f_Span_floor) = true)
    (l_Span_floor : K.lookup f_Span_floor = some ⟨oc_Span_floor, od_Span_floor, .func (PySem.W.fnOf "floor" "Span.floor" (defArgs s_Span_floor) (defBody s_Span_floor) (defScope s_Span_floor) .none kV_Span_floor dc_Span_floor pm_Span_floor an_Span_floor cd_Span_floor ct_Span_floor), sl_Span_floor⟩)
    (c_Span_floor : PySem.W.codeIn K cd_Span_floor "Span.floor" = true)
    (k_Span_floor : PySem.W.keepIn K (.ref f_Span_floor) = true)
    (a_Span_least : PySem.W.findIn K (.ref C) "least" = some (some (.ref f_Span_least)))
    (i_Span_least : PySem.W.isFn K (.ref f_Span_least) = true)
    (l_Span_least : K.lookup f_Span_least = some ⟨oc_Span_least, od_Span_least, .func (PySem.W.fnOf "least" "Span.least" (defArgs s_Span_least) (defBody s_Span_least) (defScope s_Span_least) .none kV_Span_least dc_Span_least pm_Span_least an_Span_least cd_Span_least ct_Span_least), sl_Span_least⟩)
    (c_Span_least : PySem.W.codeIn K cd_Span_least "Span.least" = true)
    (k_Span_least : PySem.W.keepIn K (.ref f_Span_least) = true)
    (a_Span_greatest : PySem.W.findIn K (.ref C) "greatest" = some (some (.ref f_Span_greatest)))
    (i_Span_greatest : PySem.W.isFn K (.ref f_Span_greatest) = true)
    (l_Span_greatest : K.lookup f_Span_greatest = some ⟨oc_Span_greatest, od_Span_greatest, .func (PySem.W.fnOf "greatest" "Span.greatest" (defArgs s_Span_greatest) (defBody s_Span_greatest) (defScope s_Span_greatest) .none kV_Span_greatest dc_Span_greatest pm_Span_greatest an_Span_greatest cd_Span_greatest ct_Span_greatest), sl_Span_greatest⟩)
    (c_Span_greatest : PySem.W.codeIn K cd_Span_greatest "Span.greatest" = true)
    (k_Span_greatest : PySem.W.keepIn K (.ref f_Span_greatest) = true)
    (a_Span_below : PySem.W.findIn K (.ref C) "below" = some (some (.ref f_Span_below)))
    (i_Span_below : PySem.W.isFn K (.ref f_Span_below) = true)
    (l_Span_below : K.lookup f_Span_below = some ⟨oc_Span_below, od_Span_below, .func (PySem.W.fnOf "below" "Span.below" (defArgs s_Span_below) (defBody s_Span_below) (defScope s_Span_below) .none kV_Span_below dc_Span_below pm_Span_below an_Span_below cd_Span_below ct_Span_below), sl_Span_below⟩)
    (c_Span_below : PySem.W.codeIn K cd_Span_below "Span.below" = true)
    (k_Span_below : PySem.W.keepIn K (.ref f_Span_below) = true)
    (a_Span_at_most : PySem.W.findIn K (.ref C) "at_most" = some (some (.ref f_Span_at_most)))
    (i_Span_at_most : PySem.W.isFn K (.ref f_Span_at_most) = true)
    (l_Span_at_most : K.lookup f_Span_at_most = some ⟨oc_Span_at_most, od_Span_at_most, .func (PySem.W.fnOf "at_most" "Span.at_most" (defArgs s_Span_at_most) (defBody s_Span_at_most) (defScope s_Span_at_most) .none kV_Span_at_most dc_Span_at_most pm_Span_at_most an_Span_at_most cd_Span_at_most ct_Span_at_most), sl_Span_at_most⟩)
    (c_Span_at_most : PySem.W.codeIn K cd_Span_at_most "Span.at_most" = true)
    (k_Span_at_most : PySem.W.keepIn K (.ref f_Span_at_most) = true)
    (a_Span_same : PySem.W.findIn K (.ref C) "same" = some (some (.ref f_Span_same)))
    (i_Span_same : PySem.W.isFn K (.ref f_Span_same) = true)
    (l_Span_same : K.lookup f_Span_same = some ⟨oc_Span_same, od_Span_same, .func (PySem.W.fnOf "same" "Span.same" (defArgs s_Span_same) (defBody s_Span_same) (defScope s_Span_same) .none kV_Span_same dc_Span_same pm_Span_same an_Span_same cd_Span_same ct_Span_same), sl_Span_same⟩)
    (c_Span_same : PySem.W.codeIn K cd_Span_same "Span.same" = true)
    (k_Span_same : PySem.W.keepIn K (.ref f_Span_same) = true)
    (a_Span_truth : PySem.W.findIn K (.ref C) "truth" = some (some (.ref f_Span_truth)))
    (i_Span_truth : PySem.W.isFn K (.ref f_Span_truth) = true)
    (l_Span_truth : K.lookup f_Span_truth = some ⟨oc_Span_truth, od_Span_truth, .func (PySem.W.fnOf "truth" "Span.truth" (defArgs s_Span_truth) (defBody s_Span_truth) (defScope s_Span_truth) .none kV_Span_truth dc_Span_truth pm_Span_truth an_Span_truth cd_Span_truth ct_Span_truth), sl_Span_truth⟩)
    (c_Span_truth : PySem.W.codeIn K cd_Span_truth "Span.truth" = true)
    (k_Span_truth : PySem.W.keepIn K (.ref f_Span_truth) = true)
    (a_Span_single : PySem.W.findIn K (.ref C) "single" = some (some (.ref f_Span_single)))
    (i_Span_single : PySem.W.isFn K (.ref f_Span_single) = true)
    (l_Span_single : K.lookup f_Span_single = some ⟨oc_Span_single, od_Span_single, .func (PySem.W.fnOf "single" "Span.single" (defArgs s_Span_single) (defBody s_Span_single) (defScope s_Span_single) .none kV_Span_single dc_Span_single pm_Span_single an_Span_single cd_Span_single ct_Span_single), sl_Span_single⟩)
    (c_Span_single : PySem.W.codeIn K cd_Span_single "Span.single" = true)
    (k_Span_single : PySem.W.keepIn K (.ref f_Span_single) = true)
    (a_Span_Dcontains : PySem.W.findIn K (.ref C) "__contains__" = some (some (.ref f_Span_Dcontains)))
    (i_Span_Dcontains : PySem.W.isFn K (.ref f_Span_Dcontains) = true)
    (l_Span_Dcontains : K.lookup f_Span_Dcontains = some ⟨oc_Span_Dcontains, od_Span_Dcontains, .func (PySem.W.fnOf "__contains__" "Span.__contains__" (defArgs s_Span_Dcontains) (defBody s_Span_Dcontains) (defScope s_Span_Dcontains) .none kV_Span_Dcontains dc_Span_Dcontains pm_Span_Dcontains an_Span_Dcontains cd_Span_Dcontains ct_Span_Dcontains), sl_Span_Dcontains⟩)
    (c_Span_Dcontains : PySem.W.codeIn K cd_Span_Dcontains "Span.__contains__" = true)
    (k_Span_Dcontains : PySem.W.keepIn K (.ref f_Span_Dcontains) = true)
    (a_Span_Deq : PySem.W.findIn K (.ref C) "__eq__" = some (some (.ref f_Span_Deq)))
    (i_Span_Deq : PySem.W.isFn K (.ref f_Span_Deq) = true)
    (l_Span_Deq : K.lookup f_Span_Deq = some ⟨oc_Span_Deq, od_Span_Deq, .func (PySem.W.fnOf "__eq__" "Span.__eq__" (defArgs s_Span_Deq) (defBody s_Span_Deq) (defScope s_Span_Deq) .none kV_Span_Deq dc_Span_Deq pm_Span_Deq an_Span_Deq cd_Span_Deq ct_Span_Deq), sl_Span_Deq⟩)
    (c_Span_Deq : PySem.W.codeIn K cd_Span_Deq "Span.__eq__" = true)
    (k_Span_Deq : PySem.W.keepIn K (.ref f_Span_Deq) = true)
    (a_Span_Dstr : PySem.W.findIn K (.ref C) "__str__" = some (some (.ref f_Span_Dstr)))
    (i_Span_Dstr : PySem.W.isFn K (.ref f_Span_Dstr) = true)
    (l_Span_Dstr : K.lookup f_Span_Dstr = some ⟨oc_Span_Dstr, od_Span_Dstr, .func (PySem.W.fnOf "__str__" "Span.__str__" (defArgs s_Span_Dstr) (defBody s_Span_Dstr) (defScope s_Span_Dstr) .none kV_Span_Dstr dc_Span_Dstr pm_Span_Dstr an_Span_Dstr cd_Span_Dstr ct_Span_Dstr), sl_Span_Dstr⟩)
    (c_Span_Dstr : PySem.W.codeIn K cd_Span_Dstr "Span.__str__" = true)
    (k_Span_Dstr : PySem.W.keepIn K (.ref f_Span_Dstr) = true)
    (a_point : PySem.W.nsIn K mainGlobals "point" = some (some (.ref f_point)))
    (l_point : K.lookup f_point = some ⟨oc_point, od_point, .func (PySem.W.fnOf "point" "point" (defArgs s_point) (defBody s_point) (defScope s_point) .none kV_point dc_point pm_point an_point cd_point ct_point), sl_point⟩)
    (c_point : PySem.W.codeIn K cd_point "point" = true)
    (k_point : PySem.W.keepIn K (.ref f_point) = true)
    (a_InvalidNumber_Dinit : PySem.W.findIn K (.ref CI) "__init__" = some (some (.ref f_InvalidNumber_Dinit)))
    (i_InvalidNumber_Dinit : PySem.W.isFn K (.ref f_InvalidNumber_Dinit) = true)
    (l_InvalidNumber_Dinit : K.lookup f_InvalidNumber_Dinit = some ⟨oc_InvalidNumber_Dinit, od_InvalidNumber_Dinit, .func (PySem.W.fnOf "__init__" "InvalidNumber.__init__" (defArgs s_InvalidNumber_Dinit) (defBody s_InvalidNumber_Dinit) (defScope s_InvalidNumber_Dinit) .none kV_InvalidNumber_Dinit dc_InvalidNumber_Dinit pm_InvalidNumber_Dinit an_InvalidNumber_Dinit cd_InvalidNumber_Dinit ct_InvalidNumber_Dinit), sl_InvalidNumber_Dinit⟩)
    (c_InvalidNumber_Dinit : PySem.W.codeIn K cd_InvalidNumber_Dinit "InvalidNumber.__init__" = true)
    (k_InvalidNumber_Dinit : PySem.W.keepIn K (.ref f_InvalidNumber_Dinit) = true)
    (a_lbag : PySem.W.nsIn K mainGlobals "_law_bag" = some (some (.ref f_lbag)))
    (l_lbag : K.lookup f_lbag = some ⟨oc_lbag, od_lbag, .func (PySem.W.fnOf "_law_bag" "_law_bag" (defArgs s_lbag) (defBody s_lbag) (defScope s_lbag) .none kV_lbag dc_lbag pm_lbag an_lbag cd_lbag ct_lbag), sl_lbag⟩)
    (c_lbag : PySem.W.codeIn K cd_lbag "_law_bag" = true)
    (k_lbag : PySem.W.keepIn K (.ref f_lbag) = true)
    (a_lpull : PySem.W.nsIn K mainGlobals "_law_pull" = some (some (.ref f_lpull)))
    (l_lpull : K.lookup f_lpull = some ⟨oc_lpull, od_lpull, .func (PySem.W.fnOf "_law_pull" "_law_pull" (defArgs s_lpull) (defBody s_lpull) (defScope s_lpull) .none kV_lpull dc_lpull pm_lpull an_lpull cd_lpull ct_lpull), sl_lpull⟩)
    (c_lpull : PySem.W.codeIn K cd_lpull "_law_pull" = true)
    (k_lpull : PySem.W.keepIn K (.ref f_lpull) = true)
    (a_lof : PySem.W.nsIn K mainGlobals "_law_of" = some (some (.ref f_lof)))
    (l_lof : K.lookup f_lof = some ⟨oc_lof, od_lof, .func (PySem.W.fnOf "_law_of" "_law_of" (defArgs s_lof) (defBody s_lof) (defScope s_lof) .none kV_lof dc_lof pm_lof an_lof cd_lof ct_lof), sl_lof⟩)
    (c_lof : PySem.W.codeIn K cd_lof "_law_of" = true)
    (k_lof : PySem.W.keepIn K (.ref f_lof) = true)
    (a_llike : PySem.W.nsIn K mainGlobals "_law_like" = some (some (.ref f_llike)))
    (l_llike : K.lookup f_llike = some ⟨oc_llike, od_llike, .func (PySem.W.fnOf "_law_like" "_law_like" (defArgs s_llike) (defBody s_llike) (defScope s_llike) .none kV_llike dc_llike pm_llike an_llike cd_llike ct_llike), sl_llike⟩)
    (c_llike : PySem.W.codeIn K cd_llike "_law_like" = true)
    (k_llike : PySem.W.keepIn K (.ref f_llike) = true)
    (a_lfit : PySem.W.nsIn K mainGlobals "_law_fit" = some (some (.ref f_lfit)))
    (l_lfit : K.lookup f_lfit = some ⟨oc_lfit, od_lfit, .func (PySem.W.fnOf "_law_fit" "_law_fit" (defArgs s_lfit) (defBody s_lfit) (defScope s_lfit) .none kV_lfit dc_lfit pm_lfit an_lfit cd_lfit ct_lfit), sl_lfit⟩)
    (c_lfit : PySem.W.codeIn K cd_lfit "_law_fit" = true)
    (k_lfit : PySem.W.keepIn K (.ref f_lfit) = true)
    (a_lplus : PySem.W.nsIn K mainGlobals "_law_plus" = some (some (.ref f_lplus)))
    (l_lplus : K.lookup f_lplus = some ⟨oc_lplus, od_lplus, .func (PySem.W.fnOf "_law_plus" "_law_plus" (defArgs s_lplus) (defBody s_lplus) (defScope s_lplus) .none kV_lplus dc_lplus pm_lplus an_lplus cd_lplus ct_lplus), sl_lplus⟩)
    (c_lplus : PySem.W.codeIn K cd_lplus "_law_plus" = true)
    (k_lplus : PySem.W.keepIn K (.ref f_lplus) = true)
    (a_lminus : PySem.W.nsIn K mainGlobals "_law_minus" = some (some (.ref f_lminus)))
    (l_lminus : K.lookup f_lminus = some ⟨oc_lminus, od_lminus, .func (PySem.W.fnOf "_law_minus" "_law_minus" (defArgs s_lminus) (defBody s_lminus) (defScope s_lminus) .none kV_lminus dc_lminus pm_lminus an_lminus cd_lminus ct_lminus), sl_lminus⟩)
    (c_lminus : PySem.W.codeIn K cd_lminus "_law_minus" = true)
    (k_lminus : PySem.W.keepIn K (.ref f_lminus) = true)
    (a_ltimes : PySem.W.nsIn K mainGlobals "_law_times" = some (some (.ref f_ltimes)))
    (l_ltimes : K.lookup f_ltimes = some ⟨oc_ltimes, od_ltimes, .func (PySem.W.fnOf "_law_times" "_law_times" (defArgs s_ltimes) (defBody s_ltimes) (defScope s_ltimes) .none kV_ltimes dc_ltimes pm_ltimes an_ltimes cd_ltimes ct_ltimes), sl_ltimes⟩)
    (c_ltimes : PySem.W.codeIn K cd_ltimes "_law_times" = true)
    (k_ltimes : PySem.W.keepIn K (.ref f_ltimes) = true)
    (a_lpart : PySem.W.nsIn K mainGlobals "_law_part" = some (some (.ref f_lpart)))
    (l_lpart : K.lookup f_lpart = some ⟨oc_lpart, od_lpart, .func (PySem.W.fnOf "_law_part" "_law_part" (defArgs s_lpart) (defBody s_lpart) (defScope s_lpart) .none kV_lpart dc_lpart pm_lpart an_lpart cd_lpart ct_lpart), sl_lpart⟩)
    (c_lpart : PySem.W.codeIn K cd_lpart "_law_part" = true)
    (k_lpart : PySem.W.keepIn K (.ref f_lpart) = true)
    (a_lless : PySem.W.nsIn K mainGlobals "_law_less" = some (some (.ref f_lless)))
    (l_lless : K.lookup f_lless = some ⟨oc_lless, od_lless, .func (PySem.W.fnOf "_law_less" "_law_less" (defArgs s_lless) (defBody s_lless) (defScope s_lless) .none kV_lless dc_lless pm_lless an_lless cd_lless ct_lless), sl_lless⟩)
    (c_lless : PySem.W.codeIn K cd_lless "_law_less" = true)
    (k_lless : PySem.W.keepIn K (.ref f_lless) = true)
    (a_ltext : PySem.W.nsIn K mainGlobals "_law_text" = some (some (.ref f_ltext)))
    (l_ltext : K.lookup f_ltext = some ⟨oc_ltext, od_ltext, .func (PySem.W.fnOf "_law_text" "_law_text" (defArgs s_ltext) (defBody s_ltext) (defScope s_ltext) .none kV_ltext dc_ltext pm_ltext an_ltext cd_ltext ct_ltext), sl_ltext⟩)
    (c_ltext : PySem.W.codeIn K cd_ltext "_law_text" = true)
    (k_ltext : PySem.W.keepIn K (.ref f_ltext) = true)
    (a_lworth : PySem.W.nsIn K mainGlobals "_law_worth" = some (some (.ref f_lworth)))
    (l_lworth : K.lookup f_lworth = some ⟨oc_lworth, od_lworth, .func (PySem.W.fnOf "_law_worth" "_law_worth" (defArgs s_lworth) (defBody s_lworth) (defScope s_lworth) .none kV_lworth dc_lworth pm_lworth an_lworth cd_lworth ct_lworth), sl_lworth⟩)
    (c_lworth : PySem.W.codeIn K cd_lworth "_law_worth" = true)
    (k_lworth : PySem.W.keepIn K (.ref f_lworth) = true)
    (a_lends : PySem.W.nsIn K mainGlobals "_law_ends" = some (some (.ref f_lends)))
    (l_lends : K.lookup f_lends = some ⟨oc_lends, od_lends, .func (PySem.W.fnOf "_law_ends" "_law_ends" (defArgs s_lends) (defBody s_lends) (defScope s_lends) .none kV_lends dc_lends pm_lends an_lends cd_lends ct_lends), sl_lends⟩)
    (c_lends : PySem.W.codeIn K cd_lends "_law_ends" = true)
    (k_lends : PySem.W.keepIn K (.ref f_lends) = true)
    (a_lwithin : PySem.W.nsIn K mainGlobals "_law_within" = some (some (.ref f_lwithin)))
    (l_lwithin : K.lookup f_lwithin = some ⟨oc_lwithin, od_lwithin, .func (PySem.W.fnOf "_law_within" "_law_within" (defArgs s_lwithin) (defBody s_lwithin) (defScope s_lwithin) .none kV_lwithin dc_lwithin pm_lwithin an_lwithin cd_lwithin ct_lwithin), sl_lwithin⟩)
    (c_lwithin : PySem.W.codeIn K cd_lwithin "_law_within" = true)
    (k_lwithin : PySem.W.keepIn K (.ref f_lwithin) = true)
    (a_lleast : PySem.W.nsIn K mainGlobals "_law_least" = some (some (.ref f_lleast)))
    (l_lleast : K.lookup f_lleast = some ⟨oc_lleast, od_lleast, .func (PySem.W.fnOf "_law_least" "_law_least" (defArgs s_lleast) (defBody s_lleast) (defScope s_lleast) .none kV_lleast dc_lleast pm_lleast an_lleast cd_lleast ct_lleast), sl_lleast⟩)
    (c_lleast : PySem.W.codeIn K cd_lleast "_law_least" = true)
    (k_lleast : PySem.W.keepIn K (.ref f_lleast) = true)
    (a_ldown : PySem.W.nsIn K mainGlobals "_law_down" = some (some (.ref f_ldown)))
    (l_ldown : K.lookup f_ldown = some ⟨oc_ldown, od_ldown, .func (PySem.W.fnOf "_law_down" "_law_down" (defArgs s_ldown) (defBody s_ldown) (defScope s_ldown) .none kV_ldown dc_ldown pm_ldown an_ldown cd_ldown ct_ldown), sl_ldown⟩)
    (c_ldown : PySem.W.codeIn K cd_ldown "_law_down" = true)
    (k_ldown : PySem.W.keepIn K (.ref f_ldown) = true)
    (a_lholds : PySem.W.nsIn K mainGlobals "_law_holds" = some (some (.ref f_lholds)))
    (l_lholds : K.lookup f_lholds = some ⟨oc_lholds, od_lholds, .func (PySem.W.fnOf "_law_holds" "_law_holds" (defArgs s_lholds) (defBody s_lholds) (defScope s_lholds) .none kV_lholds dc_lholds pm_lholds an_lholds cd_lholds ct_lholds), sl_lholds⟩)
    (c_lholds : PySem.W.codeIn K cd_lholds "_law_holds" = true)
    (k_lholds : PySem.W.keepIn K (.ref f_lholds) = true)
    (a_lways : PySem.W.nsIn K mainGlobals "_law_ways" = some (some (.ref f_lways)))
    (l_lways : K.lookup f_lways = some ⟨oc_lways, od_lways, .func (PySem.W.fnOf "_law_ways" "_law_ways" (defArgs s_lways) (defBody s_lways) (defScope s_lways) .none kV_lways dc_lways pm_lways an_lways cd_lways ct_lways), sl_lways⟩)
    (c_lways : PySem.W.codeIn K cd_lways "_law_ways" = true)
    (k_lways : PySem.W.keepIn K (.ref f_lways) = true)
    (a_lcalled : PySem.W.nsIn K mainGlobals "_law_called" = some (some (.ref f_lcalled)))
    (l_lcalled : K.lookup f_lcalled = some ⟨oc_lcalled, od_lcalled, .func (PySem.W.fnOf "_law_called" "_law_called" (defArgs s_lcalled) (defBody s_lcalled) (defScope s_lcalled) .none kV_lcalled dc_lcalled pm_lcalled an_lcalled cd_lcalled ct_lcalled), sl_lcalled⟩)
    (c_lcalled : PySem.W.codeIn K cd_lcalled "_law_called" = true)
    (k_lcalled : PySem.W.keepIn K (.ref f_lcalled) = true)
    (a_loperators : PySem.W.nsIn K mainGlobals "_law_operators" = some (some (.ref f_loperators)))
    (l_loperators : K.lookup f_loperators = some ⟨oc_loperators, od_loperators, .func (PySem.W.fnOf "_law_operators" "_law_operators" (defArgs s_loperators) (defBody s_loperators) (defScope s_loperators) .none kV_loperators dc_loperators pm_loperators an_loperators cd_loperators ct_loperators), sl_loperators⟩)
    (c_loperators : PySem.W.codeIn K cd_loperators "_law_operators" = true)
    (k_loperators : PySem.W.keepIn K (.ref f_loperators) = true)
    (a_lagree : PySem.W.nsIn K mainGlobals "_law_agree" = some (some (.ref f_lagree)))
    (l_lagree : K.lookup f_lagree = some ⟨oc_lagree, od_lagree, .func (PySem.W.fnOf "_law_agree" "_law_agree" (defArgs s_lagree) (defBody s_lagree) (defScope s_lagree) .none kV_lagree dc_lagree pm_lagree an_lagree cd_lagree ct_lagree), sl_lagree⟩)
    (c_lagree : PySem.W.codeIn K cd_lagree "_law_agree" = true)
    (k_lagree : PySem.W.keepIn K (.ref f_lagree) = true)
    (a_lsame : PySem.W.nsIn K mainGlobals "_law_same" = some (some (.ref f_lsame)))
    (l_lsame : K.lookup f_lsame = some ⟨oc_lsame, od_lsame, .func (PySem.W.fnOf "_law_same" "_law_same" (defArgs s_lsame) (defBody s_lsame) (defScope s_lsame) .none kV_lsame dc_lsame pm_lsame an_lsame cd_lsame ct_lsame), sl_lsame⟩)
    (c_lsame : PySem.W.codeIn K cd_lsame "_law_same" = true)
    (k_lsame : PySem.W.keepIn K (.ref f_lsame) = true)
    (a_lcompared : PySem.W.nsIn K mainGlobals "_law_compared" = some (some (.ref f_lcompared)))
    (l_lcompared : K.lookup f_lcompared = some ⟨oc_lcompared, od_lcompared, .func (PySem.W.fnOf "_law_compared" "_law_compared" (defArgs s_lcompared) (defBody s_lcompared) (defScope s_lcompared) .none kV_lcompared dc_lcompared pm_lcompared an_lcompared cd_lcompared ct_lcompared), sl_lcompared⟩)
    (c_lcompared : PySem.W.codeIn K cd_lcompared "_law_compared" = true)
    (k_lcompared : PySem.W.keepIn K (.ref f_lcompared) = true)
    (a_lrefused : PySem.W.nsIn K mainGlobals "_law_refused" = some (some (.ref f_lrefused)))
    (l_lrefused : K.lookup f_lrefused = some ⟨oc_lrefused, od_lrefused, .func (PySem.W.fnOf "_law_refused" "_law_refused" (defArgs s_lrefused) (defBody s_lrefused) (defScope s_lrefused) .none kV_lrefused dc_lrefused pm_lrefused an_lrefused cd_lrefused ct_lrefused), sl_lrefused⟩)
    (c_lrefused : PySem.W.codeIn K cd_lrefused "_law_refused" = true)
    (k_lrefused : PySem.W.keepIn K (.ref f_lrefused) = true)
    (a_lalone : PySem.W.nsIn K mainGlobals "_law_alone" = some (some (.ref f_lalone)))
    (l_lalone : K.lookup f_lalone = some ⟨oc_lalone, od_lalone, .func (PySem.W.fnOf "_law_alone" "_law_alone" (defArgs s_lalone) (defBody s_lalone) (defScope s_lalone) .none kV_lalone dc_lalone pm_lalone an_lalone cd_lalone ct_lalone), sl_lalone⟩)
    (c_lalone : PySem.W.codeIn K cd_lalone "_law_alone" = true)
    (k_lalone : PySem.W.keepIn K (.ref f_lalone) = true)
    (a_law : PySem.W.nsIn K mainGlobals "law" = some (some (.ref f_law)))
    (l_law : K.lookup f_law = some ⟨oc_law, od_law, .func (PySem.W.fnOf "law" "law" (defArgs s_law) (defBody s_law) (defScope s_law) .none kV_law dc_law pm_law an_law cd_law ct_law), sl_law⟩)
    (c_law : PySem.W.codeIn K cd_law "law" = true)
    (k_law : PySem.W.keepIn K (.ref f_law) = true)
    (xl : K.lookup CI = some (excClassObj x1 x2 CI x3 x4 x5 true x6 x7 x8 x9 x10 y0 y1 y2 y3 y5 "ValueError.__new__"))
    (xr : PySem.HandSPX.refsVE x5 = true)
    (xsa : PySem.W.findIn K (.ref CI) "__setattr__" = some (some (.builtin "object.__setattr__")))
    (xex : PySem.W.subIn K (.ref CI) (.type "BaseException") = some true)
    (xty : PySem.W.typeIn K (.ref CI) = some (.type "type"))
    (xkc : PySem.W.keepIn K (.ref CI) = true)
    (nVal : PySem.W.findIn K (.ref CI) "value" = some none)
    (nCode : PySem.W.findIn K (.ref CI) "code" = some none)
    (clE : PySem.W.isClsIn K CE = true)
    (tyE : PySem.W.typeIn K (.ref CE) = some (.type "type"))
    (clN : PySem.W.isClsIn K CN = true)
    (tyN : PySem.W.typeIn K (.ref CN) = some (.type "type"))
    (clS : PySem.W.isClsIn K C = true)
    (tyS : PySem.W.typeIn K (.ref C) = some (.type "type"))
    (suE : PySem.W.subIn K (.ref CI) (.ref CE) = some true)
    (suN : PySem.W.subIn K (.ref CI) (.ref CN) = some false)
    (suI : PySem.W.subIn K (.ref CI) (.ref CI) = some true)
    (neN : (Value.ref CI == Value.ref CN) = false)
    (hg : PySem.W.findIn K (.ref CI) "__getattribute__" = some (some (.builtin "BaseException.__getattribute__")))
    (hk : PySem.W.findIn K (.ref CI) "__getattr__" = some none)
    (hd : PySem.W.hasDictIn K CI = true)
    (ha : PySem.W.findIn K (.ref CI) "__class__" = some (some (.builtin "object.__class__")))
    (hm : PySem.W.mroIn K CI (.type "object") = some true)
    (lW : K.lookup fW = some ⟨ocW, odW, .func (PySem.W.fnOf "worth" "worth" (defArgs s_worth) (defBody s_worth) (defScope s_worth) (.ref aD) kVW dcW pmW anW cdW ctW), slW⟩)
    (cW : PySem.W.codeIn K cdW "worth" = true)
    (kW : PySem.W.keepIn K (.ref fW) = true)
    (lD : K.lookup aD = some ⟨oD, odD, .seq #[.int 1 tD] nD, slD⟩)
    (aG : PySem.W.nsIn K mainGlobals "gcd" = some (some (.builtin "math.gcd")))
    (lZ : K.lookup aZ = some ⟨.type "tuple", odZ, .seq #[.int 0 t0, .int 1 t1] nZ, slZ⟩)
    (pg : PySem.W.plainGet K C Str.empty = true)
    (hdC : PySem.W.hasDictIn K C = true)
    (po : PySem.W.plainOver K C = true)
    (saC : PySem.W.findIn K (.ref C) "__setattr__" = some (some (.builtin "object.__setattr__")))
    (nLow : PySem.W.findIn K (.ref C) "low" = some none)
    (nHigh : PySem.W.findIn K (.ref C) "high" = some none)
    (sfSpan : PySem.W.selfFirst K C = true)
    (makes : PySem.W.makesIn K C = true)
    (kC : PySem.W.keepIn K (.ref C) = true)
    (spanC : PySem.W.findIn K (.ref C) "__class__" = some (some (.builtin "object.__class__")))
    (clsN : PySem.W.specialIn K (.builtin "object.__class__") "__get__" = some (some (.builtin "getset_descriptor.__get__")))
    (clsT : PySem.W.takesIn K (.builtin "object.__class__") = some true)
    (nfTup : PySem.W.notFirst K C (.type "tuple") = true)
    (nfStr : PySem.W.notFirst K C (.type "str") = true)
    (nfNon : PySem.W.notFirst K C (.type "NoneType") = true)
    (mroC : PySem.W.mroIn K C (.type "object") = some true)
    (z_len : PySem.W.nsIn K mainGlobals "len" = some none)
    (z_abs : PySem.W.nsIn K mainGlobals "abs" = some none)
    (z_int : PySem.W.nsIn K mainGlobals "int" = some none)
    (z_str : PySem.W.nsIn K mainGlobals "str" = some none)
    (z_isinstance : PySem.W.nsIn K mainGlobals "isinstance" = some none)
    (z_zip : PySem.W.nsIn K mainGlobals "zip" = some none)
    (z_all : PySem.W.nsIn K mainGlobals "all" = some none)
    (z_any : PySem.W.nsIn K mainGlobals "any" = some none)
    (z_sum : PySem.W.nsIn K mainGlobals "sum" = some none)
    (z_list : PySem.W.nsIn K mainGlobals "list" = some none)
    (z_tuple : PySem.W.nsIn K mainGlobals "tuple" = some none)
    (z_bool : PySem.W.nsIn K mainGlobals "bool" = some none) : Tx K mg where
  C := C
  CI := CI
  plus := ⟨f_plus, _, fun_mk (st := s_plus) l_plus c_plus k_plus, (fun_mk (st := s_plus) l_plus c_plus k_plus).binds (ps := p_plus) fun _ _ _ _ _ _ us hl => match us, hl with | [_, _], _ => rfl, PySem.W.mg_of X G a_plus⟩
  minus := ⟨f_minus, _, fun_mk (st := s_minus) l_minus c_minus k_minus, (fun_mk (st := s_minus) l_minus c_minus k_minus).binds (ps := p_minus) fun _ _ _ _ _ _ us hl => match us, hl with | [_, _], _ => rfl, PySem.W.mg_of X G a_minus⟩
  product := ⟨f_product, _, fun_mk (st := s_product) l_product c_product k_product, (fun_mk (st := s_product) l_product c_product k_product).binds (ps := p_product) fun _ _ _ _ _ _ us hl => match us, hl with | [_, _], _ => rfl, PySem.W.mg_of X G a_product⟩
  quotient := ⟨f_quotient, _, fun_mk (st := s_quotient) l_quotient c_quotient k_quotient, (fun_mk (st := s_quotient) l_quotient c_quotient k_quotient).binds (ps := p_quotient) fun _ _ _ _ _ _ us hl => match us, hl with | [_, _], _ => rfl, PySem.W.mg_of X G a_quotient⟩
  is_less := ⟨f_is_less, _, fun_mk (st := s_is_less) l_is_less c_is_less k_is_less, (fun_mk (st := s_is_less) l_is_less c_is_less k_is_less).binds (ps := p_is_less) fun _ _ _ _ _ _ us hl => match us, hl with | [_, _], _ => rfl, PySem.W.mg_of X G a_is_less⟩
  floor_of := ⟨f_floor_of, _, fun_mk (st := s_floor_of) l_floor_of c_floor_of k_floor_of, (fun_mk (st := s_floor_of) l_floor_of c_floor_of k_floor_of).binds (ps := p_floor_of) fun _ _ _ _ _ _ us hl => match us, hl with | [_], _ => rfl, PySem.W.mg_of X G a_floor_of⟩
  worth_text := ⟨f_worth_text, _, fun_mk (st := s_worth_text) l_worth_text c_worth_text k_worth_text, (fun_mk (st := s_worth_text) l_worth_text c_worth_text k_worth_text).binds (ps := p_worth_text) fun _ _ _ _ _ _ us hl => match us, hl with | [_], _ => rfl, PySem.W.mg_of X G a_worth_text⟩
  xless_one := ⟨f_xless_one, _, fun_mk (st := s_xless_one) l_xless_one c_xless_one k_xless_one, (fun_mk (st := s_xless_one) l_xless_one c_xless_one k_xless_one).binds (ps := p_xless_one) fun _ _ _ _ _ _ us hl => match us, hl with | [_, _], _ => rfl, PySem.W.mg_of X G a_xless_one⟩
  xgreater_one := ⟨f_xgreater_one, _, fun_mk (st := s_xgreater_one) l_xgreater_one c_xgreater_one k_xgreater_one, (fun_mk (st := s_xgreater_one) l_xgreater_one c_xgreater_one k_xgreater_one).binds (ps := p_xgreater_one) fun _ _ _ _ _ _ us hl => match us, hl with | [_, _], _ => rfl, PySem.W.mg_of X G a_xgreater_one⟩
  xaround := ⟨f_xaround, _, fun_mk (st := s_xaround) l_xaround c_xaround k_xaround, (fun_mk (st := s_xaround) l_xaround c_xaround k_xaround).binds (ps := p_xaround) fun _ _ _ _ _ _ us hl => match us, hl with | [_, _, _, _], _ => rfl, PySem.W.mg_of X G a_xaround⟩
  Span_Dinit := ⟨f_Span_Dinit, _, fun_mk (st := s_Span_Dinit) l_Span_Dinit c_Span_Dinit k_Span_Dinit, (fun_mk (st := s_Span_Dinit) l_Span_Dinit c_Span_Dinit k_Span_Dinit).binds (ps := p_Span_Dinit) fun _ _ _ _ _ _ us hl => match us, hl with | [_, _, _], _ => rfl, a_Span_Dinit, i_Span_Dinit⟩
  Span_Dadd := ⟨f_Span_Dadd, _, fun_mk (st := s_Span_Dadd) l_Span_Dadd c_Span_Dadd k_Span_Dadd, (fun_mk (st := s_Span_Dadd) l_Span_Dadd c_Span_Dadd k_Span_Dadd).binds (ps := p_Span_Dadd) fun _ _ _ _ _ _ us hl => match us, hl with | [_, _], _ => rfl, a_Span_Dadd, i_Span_Dadd⟩
  Span_Dsub := ⟨f_Span_Dsub, _, fun_mk (st := s_Span_Dsub) l_Span_Dsub c_Span_Dsub k_Span_Dsub, (fun_mk (st := s_Span_Dsub) l_Span_Dsub c_Span_Dsub k_Span_Dsub).binds (ps := p_Span_Dsub) fun _ _ _ _ _ _ us hl => match us, hl with | [_, _], _ => rfl, a_Span_Dsub, i_Span_Dsub⟩
  Span_Dmul := ⟨f_Span_Dmul, _, fun_mk (st := s_Span_Dmul) l_Span_Dmul c_Span_Dmul k_Span_Dmul, (fun_mk (st := s_Span_Dmul) l_Span_Dmul c_Span_Dmul k_Span_Dmul).binds (ps := p_Span_Dmul) fun _ _ _ _ _ _ us hl => match us, hl with | [_, _], _ => rfl, a_Span_Dmul, i_Span_Dmul⟩
  Span_over := ⟨f_Span_over, _, fun_mk (st := s_Span_over) l_Span_over c_Span_over k_Span_over, (fun_mk (st := s_Span_over) l_Span_over c_Span_over k_Span_over).binds (ps := p_Span_over) fun _ _ _ _ _ _ us hl => match us, hl with | [_, _], _ => rfl, a_Span_over, i_Span_over⟩
  Span_floor := ⟨f_Span_floor, _, fun_mk (st := s_Span_floor) l_Span_floor c_Span_floor k_Span_floor, (fun_mk (st := s_Span_floor) l_Span_floor c_Span_floor k_Span_floor).binds (ps := p_Span_floor) fun _ _ _ _ _ _ us hl => match us, hl with | [_], _ => rfl, a_Span_floor, i_Span_floor⟩
  Span_least := ⟨f_Span_least, _, fun_mk (st := s_Span_least) l_Span_least c_Span_least k_Span_least, (fun_mk (st := s_Span_least) l_Span_least c_Span_least k_Span_least).binds (ps := p_Span_least) fun _ _ _ _ _ _ us hl => match us, hl with | [_, _], _ => rfl, a_Span_least, i_Span_least⟩
  Span_greatest := ⟨f_Span_greatest, _, fun_mk (st := s_Span_greatest) l_Span_greatest c_Span_greatest k_Span_greatest, (fun_mk (st := s_Span_greatest) l_Span_greatest c_Span_greatest k_Span_greatest).binds (ps := p_Span_greatest) fun _ _ _ _ _ _ us hl => match us, hl with | [_, _], _ => rfl, a_Span_greatest, i_Span_greatest⟩
  Span_below := ⟨f_Span_below, _, fun_mk (st := s_Span_below) l_Span_below c_Span_below k_Span_below, (fun_mk (st := s_Span_below) l_Span_below c_Span_below k_Span_below).binds (ps := p_Span_below) fun _ _ _ _ _ _ us hl => match us, hl with | [_, _], _ => rfl, a_Span_below, i_Span_below⟩
  Span_at_most := ⟨f_Span_at_most, _, fun_mk (st := s_Span_at_most) l_Span_at_most c_Span_at_most k_Span_at_most, (fun_mk (st := s_Span_at_most) l_Span_at_most c_Span_at_most k_Span_at_most).binds (ps := p_Span_at_most) fun _ _ _ _ _ _ us hl => match us, hl with | [_, _], _ => rfl, a_Span_at_most, i_Span_at_most⟩
  Span_same := ⟨f_Span_same, _, fun_mk (st := s_Span_same) l_Span_same c_Span_same k_Span_same, (fun_mk (st := s_Span_same) l_Span_same c_Span_same k_Span_same).binds (ps := p_Span_same) fun _ _ _ _ _ _ us hl => match us, hl with | [_, _], _ => rfl, a_Span_same, i_Span_same⟩
  Span_truth := ⟨f_Span_truth, _, fun_mk (st := s_Span_truth) l_Span_truth c_Span_truth k_Span_truth, (fun_mk (st := s_Span_truth) l_Span_truth c_Span_truth k_Span_truth).binds (ps := p_Span_truth) fun _ _ _ _ _ _ us hl => match us, hl with | [_], _ => rfl, a_Span_truth, i_Span_truth⟩
  Span_single := ⟨f_Span_single, _, fun_mk (st := s_Span_single) l_Span_single c_Span_single k_Span_single, (fun_mk (st := s_Span_single) l_Span_single c_Span_single k_Span_single).binds (ps := p_Span_single) fun _ _ _ _ _ _ us hl => match us, hl with | [_], _ => rfl, a_Span_single, i_Span_single⟩
  Span_Dcontains := ⟨f_Span_Dcontains, _, fun_mk (st := s_Span_Dcontains) l_Span_Dcontains c_Span_Dcontains k_Span_Dcontains, (fun_mk (st := s_Span_Dcontains) l_Span_Dcontains c_Span_Dcontains k_Span_Dcontains).binds (ps := p_Span_Dcontains) fun _ _ _ _ _ _ us hl => match us, hl with | [_, _], _ => rfl, a_Span_Dcontains, i_Span_Dcontains⟩
  Span_Deq := ⟨f_Span_Deq, _, fun_mk (st := s_Span_Deq) l_Span_Deq c_Span_Deq k_Span_Deq, (fun_mk (st := s_Span_Deq) l_Span_Deq c_Span_Deq k_Span_Deq).binds (ps := p_Span_Deq) fun _ _ _ _ _ _ us hl => match us, hl with | [_, _], _ => rfl, a_Span_Deq, i_Span_Deq⟩
  Span_Dstr := ⟨f_Span_Dstr, _, fun_mk (st := s_Span_Dstr) l_Span_Dstr c_Span_Dstr k_Span_Dstr, (fun_mk (st := s_Span_Dstr) l_Span_Dstr c_Span_Dstr k_Span_Dstr).binds (ps := p_Span_Dstr) fun _ _ _ _ _ _ us hl => match us, hl with | [_], _ => rfl, a_Span_Dstr, i_Span_Dstr⟩
  point := ⟨f_point, _, fun_mk (st := s_point) l_point c_point k_point, (fun_mk (st := s_point) l_point c_point k_point).binds (ps := p_point) fun _ _ _ _ _ _ us hl => match us, hl with | [_], _ => rfl, PySem.W.mg_of X G a_point⟩
  InvalidNumber_Dinit := ⟨f_InvalidNumber_Dinit, _, fun_mk (st := s_InvalidNumber_Dinit) l_InvalidNumber_Dinit c_InvalidNumber_Dinit k_InvalidNumber_Dinit, (fun_mk (st := s_InvalidNumber_Dinit) l_InvalidNumber_Dinit c_InvalidNumber_Dinit k_InvalidNumber_Dinit).binds (ps := p_InvalidNumber_Dinit) fun _ _ _ _ _ _ us hl => match us, hl with | [_, _], _ => rfl, a_InvalidNumber_Dinit, i_InvalidNumber_Dinit⟩
  lbag := ⟨f_lbag, _, fun_mk (st := s_lbag) l_lbag c_lbag k_lbag, (fun_mk (st := s_lbag) l_lbag c_lbag k_lbag).binds (ps := p_lbag) fun _ _ _ _ _ _ us hl => match us, hl with | [_], _ => rfl, PySem.W.mg_of X G a_lbag⟩
  lpull := ⟨f_lpull, _, fun_mk (st := s_lpull) l_lpull c_lpull k_lpull, (fun_mk (st := s_lpull) l_lpull c_lpull k_lpull).binds (ps := p_lpull) fun _ _ _ _ _ _ us hl => match us, hl with | [_, _], _ => rfl, PySem.W.mg_of X G a_lpull⟩
  lof := ⟨f_lof, _, fun_mk (st := s_lof) l_lof c_lof k_lof, (fun_mk (st := s_lof) l_lof c_lof k_lof).binds (ps := p_lof) fun _ _ _ _ _ _ us hl => match us, hl with | [_, _], _ => rfl, PySem.W.mg_of X G a_lof⟩
  llike := ⟨f_llike, _, fun_mk (st := s_llike) l_llike c_llike k_llike, (fun_mk (st := s_llike) l_llike c_llike k_llike).binds (ps := p_llike) fun _ _ _ _ _ _ us hl => match us, hl with | [_, _], _ => rfl, PySem.W.mg_of X G a_llike⟩
  lfit := ⟨f_lfit, _, fun_mk (st := s_lfit) l_lfit c_lfit k_lfit, (fun_mk (st := s_lfit) l_lfit c_lfit k_lfit).binds (ps := p_lfit) fun _ _ _ _ _ _ us hl => match us, hl with | [_, _], _ => rfl, PySem.W.mg_of X G a_lfit⟩
  lplus := ⟨f_lplus, _, fun_mk (st := s_lplus) l_lplus c_lplus k_lplus, (fun_mk (st := s_lplus) l_lplus c_lplus k_lplus).binds (ps := p_lplus) fun _ _ _ _ _ _ us hl => match us, hl with | [_, _], _ => rfl, PySem.W.mg_of X G a_lplus⟩
  lminus := ⟨f_lminus, _, fun_mk (st := s_lminus) l_lminus c_lminus k_lminus, (fun_mk (st := s_lminus) l_lminus c_lminus k_lminus).binds (ps := p_lminus) fun _ _ _ _ _ _ us hl => match us, hl with | [_, _], _ => rfl, PySem.W.mg_of X G a_lminus⟩
  ltimes := ⟨f_ltimes, _, fun_mk (st := s_ltimes) l_ltimes c_ltimes k_ltimes, (fun_mk (st := s_ltimes) l_ltimes c_ltimes k_ltimes).binds (ps := p_ltimes) fun _ _ _ _ _ _ us hl => match us, hl with | [_, _], _ => rfl, PySem.W.mg_of X G a_ltimes⟩
  lpart := ⟨f_lpart, _, fun_mk (st := s_lpart) l_lpart c_lpart k_lpart, (fun_mk (st := s_lpart) l_lpart c_lpart k_lpart).binds (ps := p_lpart) fun _ _ _ _ _ _ us hl => match us, hl with | [_, _], _ => rfl, PySem.W.mg_of X G a_lpart⟩
  lless := ⟨f_lless, _, fun_mk (st := s_lless) l_lless c_lless k_lless, (fun_mk (st := s_lless) l_lless c_lless k_lless).binds (ps := p_lless) fun _ _ _ _ _ _ us hl => match us, hl with | [_, _], _ => rfl, PySem.W.mg_of X G a_lless⟩
  ltext := ⟨f_ltext, _, fun_mk (st := s_ltext) l_ltext c_ltext k_ltext, (fun_mk (st := s_ltext) l_ltext c_ltext k_ltext).binds (ps := p_ltext) fun _ _ _ _ _ _ us hl => match us, hl with | [_], _ => rfl, PySem.W.mg_of X G a_ltext⟩
  lworth := ⟨f_lworth, _, fun_mk (st := s_lworth) l_lworth c_lworth k_lworth, (fun_mk (st := s_lworth) l_lworth c_lworth k_lworth).binds (ps := p_lworth) fun _ _ _ _ _ _ us hl => match us, hl with | [_], _ => rfl, PySem.W.mg_of X G a_lworth⟩
  lends := ⟨f_lends, _, fun_mk (st := s_lends) l_lends c_lends k_lends, (fun_mk (st := s_lends) l_lends c_lends k_lends).binds (ps := p_lends) fun _ _ _ _ _ _ us hl => match us, hl with | [_], _ => rfl, PySem.W.mg_of X G a_lends⟩
  lwithin := ⟨f_lwithin, _, fun_mk (st := s_lwithin) l_lwithin c_lwithin k_lwithin, (fun_mk (st := s_lwithin) l_lwithin c_lwithin k_lwithin).binds (ps := p_lwithin) fun _ _ _ _ _ _ us hl => match us, hl with | [_, _], _ => rfl, PySem.W.mg_of X G a_lwithin⟩
  lleast := ⟨f_lleast, _, fun_mk (st := s_lleast) l_lleast c_lleast k_lleast, (fun_mk (st := s_lleast) l_lleast c_lleast k_lleast).binds (ps := p_lleast) fun _ _ _ _ _ _ us hl => match us, hl with | [_], _ => rfl, PySem.W.mg_of X G a_lleast⟩
  ldown := ⟨f_ldown, _, fun_mk (st := s_ldown) l_ldown c_ldown k_ldown, (fun_mk (st := s_ldown) l_ldown c_ldown k_ldown).binds (ps := p_ldown) fun _ _ _ _ _ _ us hl => match us, hl with | [_], _ => rfl, PySem.W.mg_of X G a_ldown⟩
  lholds := ⟨f_lholds, _, fun_mk (st := s_lholds) l_lholds c_lholds k_lholds, (fun_mk (st := s_lholds) l_lholds c_lholds k_lholds).binds (ps := p_lholds) fun _ _ _ _ _ _ us hl => match us, hl with | [_, _, _], _ => rfl, PySem.W.mg_of X G a_lholds⟩
  lways := ⟨f_lways, _, fun_mk (st := s_lways) l_lways c_lways k_lways, (fun_mk (st := s_lways) l_lways c_lways k_lways).binds (ps := p_lways) fun _ _ _ _ _ _ us hl => match us, hl with | [_, _, _], _ => rfl, PySem.W.mg_of X G a_lways⟩
  lcalled := ⟨f_lcalled, _, fun_mk (st := s_lcalled) l_lcalled c_lcalled k_lcalled, (fun_mk (st := s_lcalled) l_lcalled c_lcalled k_lcalled).binds (ps := p_lcalled) fun _ _ _ _ _ _ us hl => match us, hl with | [_, _, _], _ => rfl, PySem.W.mg_of X G a_lcalled⟩
  loperators := ⟨f_loperators, _, fun_mk (st := s_loperators) l_loperators c_loperators k_loperators, (fun_mk (st := s_loperators) l_loperators c_loperators k_loperators).binds (ps := p_loperators) fun _ _ _ _ _ _ us hl => match us, hl with | [_, _, _, _, _, _], _ => rfl, PySem.W.mg_of X G a_loperators⟩
  lagree := ⟨f_lagree, _, fun_mk (st := s_lagree) l_lagree c_lagree k_lagree, (fun_mk (st := s_lagree) l_lagree c_lagree k_lagree).binds (ps := p_lagree) fun _ _ _ _ _ _ us hl => match us, hl with | [_], _ => rfl, PySem.W.mg_of X G a_lagree⟩
  lsame := ⟨f_lsame, _, fun_mk (st := s_lsame) l_lsame c_lsame k_lsame, (fun_mk (st := s_lsame) l_lsame c_lsame k_lsame).binds (ps := p_lsame) fun _ _ _ _ _ _ us hl => match us, hl with | [_, _], _ => rfl, PySem.W.mg_of X G a_lsame⟩
  lcompared := ⟨f_lcompared, _, fun_mk (st := s_lcompared) l_lcompared c_lcompared k_lcompared, (fun_mk (st := s_lcompared) l_lcompared c_lcompared k_lcompared).binds (ps := p_lcompared) fun _ _ _ _ _ _ us hl => match us, hl with | [_, _, _, _, _, _], _ => rfl, PySem.W.mg_of X G a_lcompared⟩
  lrefused := ⟨f_lrefused, _, fun_mk (st := s_lrefused) l_lrefused c_lrefused k_lrefused, (fun_mk (st := s_lrefused) l_lrefused c_lrefused k_lrefused).binds (ps := p_lrefused) fun _ _ _ _ _ _ us hl => match us, hl with | [_, _], _ => rfl, PySem.W.mg_of X G a_lrefused⟩
  lalone := ⟨f_lalone, _, fun_mk (st := s_lalone) l_lalone c_lalone k_lalone, (fun_mk (st := s_lalone) l_lalone c_lalone k_lalone).binds (ps := p_lalone) fun _ _ _ _ _ _ us hl => match us, hl with | [_, _], _ => rfl, PySem.W.mg_of X G a_lalone⟩
  law := ⟨f_law, _, fun_mk (st := s_law) l_law c_law k_law, (fun_mk (st := s_law) l_law c_law k_law).binds (ps := p_law) fun _ _ _ _ _ _ us hl => match us, hl with | [_], _ => rfl, PySem.W.mg_of X G a_law⟩
  oex := ⟨⟨_, _, _, _, _, _, _, _, _, _, _, _, _, _, _, xl, xr⟩, xsa, xex, xty, xkc⟩
  nVal := nVal
  nCode := nCode
  gInv := PySem.W.mg_of X G aInv
  CE := CE
  CN := CN
  gCE := PySem.W.mg_of X G aCE
  gCN := PySem.W.mg_of X G aCN
  isE := kit_mk clE tyE suE fun _ => rfl
  isN := kit_mk clN tyN suN fun z => by rw [neN] at z; cases z
  xf := ⟨hg, hk, xex, hd⟩
  xc := ⟨hg, hk, xex, hd, ha, clsN, clsT, hm⟩
  exI := PySem.W.exm_ref xex hd xty suI
  fWorth := fW
  fdWorth := _
  FWorth := ⟨_, fundW lW cW kW lD⟩
  bWorth := bindW (fundW lW cW kW lD)
  gWorth := PySem.W.mg_of X G aW
  kWorth := kW
  gcd := PySem.W.mg_of X G aG
  aZ := aZ
  gZERO := PySem.W.mg_of X G aZ'
  sZERO := fun H => ⟨aZ, [.int 0, .int 1], rfl, .inr ⟨_, _, nZ, lZ, rfl, rfl, (by show 2 ≤ sizeLine; decide), .cons ⟨t0, rfl⟩ (.cons ⟨t1, rfl⟩ .nil)⟩, .cons rfl (.cons rfl .nil)⟩
  gSpan := PySem.W.mg_of X G aC
  cl := ⟨pg, hdC, po, saC⟩
  nLow := nLow
  nHigh := nHigh
  sfSpan := sfSpan
  makes := makes
  kC := kC
  spanC := spanC
  clsN := clsN
  clsT := clsT
  kTup := kit_mk clS tyS (sub_nf nfTup) fun z => nomatch z
  kStr := kit_mk clS tyS (sub_nf nfStr) fun z => nomatch z
  kNon := kit_mk clS tyS (sub_nf nfNon) fun z => nomatch z
  nfTup := nfTup
  nfStr := nfStr
  nfNon := nfNon
  mroC := mroC
  len := PySem.W.mg_none_of X G z_len
  abs := PySem.W.mg_none_of X G z_abs
  int := PySem.W.mg_none_of X G z_int
  str := PySem.W.mg_none_of X G z_str
  isinstance := PySem.W.mg_none_of X G z_isinstance
  zip := PySem.W.mg_none_of X G z_zip
  all := PySem.W.mg_none_of X G z_all
  any := PySem.W.mg_none_of X G z_any
  sum := PySem.W.mg_none_of X G z_sum
  list := PySem.W.mg_none_of X G z_list
  tuple := PySem.W.mg_none_of X G z_tuple
  bool := PySem.W.mg_none_of X G z_bool
end
theorem all_mk {l : PySem.W.OpenLaw} {w : World} {K : PySem.W.Frag} {mg : Str → Option Value} {fa : Addr} (T : Tx K mg) (hfa : mg "law" = some (.ref fa)) :
    ∃ fd : FuncData, (∀ (s : Shared) (v : Value), BindsTo s fd ⟨[v], []⟩ [("script", v)]) ∧ ∀ base : Heap, K.In base → base.Ns mainGlobals mg → FnOk l.prog w K mg base CX0 10 fa fd ["script"] (spOf (F_law K)) := by
  have e := hfa.symm.trans T.law.g
  cases e
  obtain ⟨oc, od, kV, doc, pm, an, cdv, ct, osl, e, lk, hcd⟩ := T.law.F.ex
  exact ⟨T.law.fd, fun s v => by rw [e]; exact .of_eq rfl, fun base _ _ => ok_llaw T (ok_lrefused T)⟩
theorem walk {l : PySem.W.OpenLaw} {q : Program} {loose : List Str} {XP : (Str → Option Value) → Heap → Prop} {YP : World → Heap → Prop} {d : DefRec} {K : Params → PySem.W.Frag} (hn : l.most = some 63) (hdf : d.params.defaults = [])
    (hY : ∀ (w : World) (h : Heap), YP w h → (K w.params).In h)
    (F : ∀ (w : World) (mg : Str → Option Value) (fa : Addr) (h : Heap), (K w.params).In h → h.Ns mainGlobals mg → mg d.name = some (.ref fa) →
      ∃ fd : FuncData, (∀ (s : Shared) (u : Value), BindsTo s fd ⟨[u], []⟩ [("script", u)]) ∧ ∀ base : Heap, (K w.params).In base → base.Ns mainGlobals mg → FnOk l.prog w (K w.params) mg base CX0 10 fa fd ["script"] (spOf (F_law (K w.params)))) :
    PySem.W.WalkO q loose XP YP l.row.toRowW d [] (fun f vs => PySem.call f vs) :=
  L2.walk_of (n := 63) (k := 10) (x := "script") (CX := fun _ => CX0) (sp := fun w => spOf (F_law (K w.params))) hn (by decide) hdf ⟨rfl, by decide, by decide⟩ hY F
    (fun _ H a ns hl _ hS => ⟨H, [seqS _ (ns.map V.int)], fun s => s = vS (.bl true), fun _ => False, Same.refl _, .cons ⟨a, rfl, hS⟩ .nil, ⟨ns, rfl, hl, rfl⟩, fun s v B' H' _ p e => by subst e; exact p, fun _ _ _ _ _ _ z => z.elim⟩) fun _ _ _ _ _ z => z
end K78

/-! K78Y -/
namespace K78
open PySem PySem.Spec PyProof.Rows L2 Ab RatM
end K78
open PySem PySem.W PyProof.Rows in
set_option maxRecDepth 100000 in
set_option maxHeartbeats 0 in
set_option pp.maxSteps 150 in
set_option pp.deepTerms false in
theorem PySem.Challenge.cw_soleheld_k78_spans_hold_worths_holds : PySem.Challenge.rw_soleheld_k78_spans_hold_worths.Holds := by
  w_on; o_law; k_head; (case hw => w_witness2)
  k_fill
  refine K78.walk (l := PySem.Challenge.rw_soleheld_k78_spans_hold_worths) rfl rfl (fun w h Y => PySem.W.kIn_of Y) ?F
  case F =>
    intro w mg fa h KX G hmg
    refine K78.all_mk ?T hmg
    case T =>
      clear hmg
      refine' K78.mkTx KX G ?aC ?aInv ?aCE ?aCN ?aW ?aZ' ?a_plus ?l_plus ?c_plus ?k_plus ?a_minus ?l_minus ?c_minus ?k_minus ?a_product ?l_product ?c_product ?k_product ?a_quotient ?l_quotient ?c_quotient ?k_quotient ?a_is_less ?l_is_less ?c_is_less ?k_is_less ?a_floor_of ?l_floor_of ?c_floor_of ?k_floor_of ?a_worth_text ?l_worth_text ?c_worth_text ?k_worth_text ?a_xless_one ?l_xless_one ?c_xless_one ?k_xless_one ?a_xgreater_one ?l_xgreater_one ?c_xgreater_one ?k_xgreater_one ?a_xaround ?l_xaround ?c_xaround ?k_xaround ?a_Span_Dinit ?i_Span_Dinit ?l_Span_Dinit ?c_Span_Dinit ?k_Span_Dinit ?a_Span_Dadd ?i_Span_Dadd ?l_Span_Dadd ?c_Span_Dadd ?k_Span_Dadd ?a_Span_Dsub ?i_Span_Dsub ?l_Span_Dsub ?c_Span_Dsub ?k_Span_Dsub ?a_Span_Dmul ?i_Span_Dmul ?l_Span_Dmul ?c_Span_Dmul ?k_Span_Dmul ?a_Span_over ?i_Span_over ?l_Span_over ?c_Span_over ?k_Span_over ?a_Span_floor ?i_Span_floor ?l_Span_floor ?c_Span_floor ?k_Span_floor ?a_Span_least ?i_Span_least ?l_Span_least ?c_Span_least ?k_Span_least ?a_Span_greatest ?i_Span_greatest ?l_Span_greatest ?c_Span_greatest ?k_Span_greatest ?a_Span_below ?i_Span_below ?l_Span_below ?c_Span_below ?k_Span_below ?a_Span_at_most ?i_Span_at_most ?l_Span_at_most ?c_Span_at_most ?k_Span_at_most ?a_Span_same ?i_Span_same ?l_Span_same ?c_Span_same ?k_Span_same ?a_Span_truth ?i_Span_truth ?l_Span_truth ?c_Span_truth ?k_Span_truth ?a_Span_single ?i_Span_single ?l_Span_single ?c_Span_single ?k_Span_single ?a_Span_Dcontains ?i_Span_Dcontains ?l_Span_Dcontains ?c_Span_Dcontains ?k_Span_Dcontains ?a_Span_Deq ?i_Span_Deq ?l_Span_Deq ?c_Span_Deq ?k_Span_Deq ?a_Span_Dstr ?i_Span_Dstr ?l_Span_Dstr ?c_Span_Dstr ?k_Span_Dstr ?a_point ?l_point ?c_point ?k_point ?a_InvalidNumber_Dinit ?i_InvalidNumber_Dinit ?l_InvalidNumber_Dinit ?c_InvalidNumber_Dinit ?k_InvalidNumber_Dinit ?a_lbag ?l_lbag ?c_lbag ?k_lbag ?a_lpull ?l_lpull ?c_lpull ?k_lpull ?a_lof ?l_lof ?c_lof ?k_lof ?a_llike ?l_llike ?c_llike ?k_llike ?a_lfit ?l_lfit ?c_lfit ?k_lfit ?a_lplus ?l_lplus ?c_lplus ?k_lplus ?a_lminus ?l_lminus ?c_lminus ?k_lminus ?a_ltimes ?l_ltimes ?c_ltimes ?k_ltimes ?a_lpart ?l_lpart ?c_lpart ?k_lpart ?a_lless ?l_lless ?c_lless ?k_lless ?a_ltext ?l_ltext ?c_ltext ?k_ltext ?a_lworth ?l_lworth ?c_lworth ?k_lworth ?a_lends ?l_lends ?c_lends ?k_lends ?a_lwithin ?l_lwithin ?c_lwithin ?k_lwithin ?a_lleast ?l_lleast ?c_lleast ?k_lleast ?a_ldown ?l_ldown ?c_ldown ?k_ldown ?a_lholds ?l_lholds ?c_lholds ?k_lholds ?a_lways ?l_lways ?c_lways ?k_lways ?a_lcalled ?l_lcalled ?c_lcalled ?k_lcalled ?a_loperators ?l_loperators ?c_loperators ?k_loperators ?a_lagree ?l_lagree ?c_lagree ?k_lagree ?a_lsame ?l_lsame ?c_lsame ?k_lsame ?a_lcompared ?l_lcompared ?c_lcompared ?k_lcompared ?a_lrefused ?l_lrefused ?c_lrefused ?k_lrefused ?a_lalone ?l_lalone ?c_lalone ?k_lalone ?a_law ?l_law ?c_law ?k_law ?xl ?xr ?xsa ?xex ?xty ?xkc ?nVal ?nCode ?clE ?tyE ?clN ?tyN ?clS ?tyS ?suE ?suN ?suI ?neN ?hg ?hk ?hd ?ha ?hm ?lW ?cW ?kW ?lD ?aG ?lZ ?pg ?hdC ?po ?saC ?nLow ?nHigh ?sfSpan ?makes ?kC ?spanC ?clsN ?clsT ?nfTup ?nfStr ?nfNon ?mroC ?z_len ?z_abs ?z_int ?z_str ?z_isinstance ?z_zip ?z_all ?z_any ?z_sum ?z_list ?z_tuple ?z_bool
      (case aC => k_is)
      (case aInv => k_is)
      (case aCE => k_is)
      (case aCN => k_is)
      (case aW => k_is)
      (case aZ' => k_is)
      (case a_plus => k_is)
      (case l_plus => k_is)
      (case c_plus => k_is)
      (case k_plus => k_is)
      (case a_minus => k_is)
      (case l_minus => k_is)
      (case c_minus => k_is)
      (case k_minus => k_is)
      (case a_product => k_is)
      (case l_product => k_is)
      (case c_product => k_is)
      (case k_product => k_is)
      (case a_quotient => k_is)
      (case l_quotient => k_is)
      (case c_quotient => k_is)
      (case k_quotient => k_is)
      (case a_is_less => k_is)
      (case l_is_less => k_is)
      (case c_is_less => k_is)
      (case k_is_less => k_is)
      (case a_floor_of => k_is)
      (case l_floor_of => k_is)
      (case c_floor_of => k_is)
      (case k_floor_of => k_is)
      (case a_worth_text => k_is)
      (case l_worth_text => k_is)
      (case c_worth_text => k_is)
      (case k_worth_text => k_is)
      (case a_xless_one => k_is)
      (case l_xless_one => k_is)
      (case c_xless_one => k_is)
      (case k_xless_one => k_is)
      (case a_xgreater_one => k_is)
      (case l_xgreater_one => k_is)
      (case c_xgreater_one => k_is)
      (case k_xgreater_one => k_is)
      (case a_xaround => k_is)
      (case l_xaround => k_is)
      (case c_xaround => k_is)
      (case k_xaround => k_is)
      (case a_Span_Dinit => k_is)
      (case i_Span_Dinit => k_is)
      (case l_Span_Dinit => k_is)
      (case c_Span_Dinit => k_is)
      (case k_Span_Dinit => k_is)
      (case a_Span_Dadd => k_is)
      (case i_Span_Dadd => k_is)
      (case l_Span_Dadd => k_is)
      (case c_Span_Dadd => k_is)
      (case k_Span_Dadd => k_is)
      (case a_Span_Dsub => k_is)
      (case i_Span_Dsub => k_is)
      (case l_Span_Dsub => k_is)
      (case c_Span_Dsub => k_is)
      (case k_Span_Dsub => k_is)
      (case a_Span_Dmul => k_is)
      (case i_Span_Dmul => k_is)
      (case l_Span_Dmul => k_is)
      (case c_Span_Dmul => k_is)
      (case k_Span_Dmul => k_is)
      (case a_Span_over => k_is)
      (case i_Span_over => k_is)
      (case l_Span_over => k_is)
      (case c_Span_over => k_is)
      (case k_Span_over => k_is)
      (case a_Span_floor => k_is)
      (case i_Span_floor => k_is)
      (case l_Span_floor => k_is)
      (case c_Span_floor => k_is)
      (case k_Span_floor => k_is)
      (case a_Span_least => k_is)
      (case i_Span_least => k_is)
      (case l_Span_least => k_is)
      (case c_Span_least => k_is)
      (case k_Span_least => k_is)
      (case a_Span_greatest => k_is)
      (case i_Span_greatest => k_is)
      (case l_Span_greatest => k_is)
      (case c_Span_greatest => k_is)
      (case k_Span_greatest => k_is)
      (case a_Span_below => k_is)
      (case i_Span_below => k_is)
      (case l_Span_below => k_is)
      (case c_Span_below => k_is)
      (case k_Span_below => k_is)
      (case a_Span_at_most => k_is)
      (case i_Span_at_most => k_is)
      (case l_Span_at_most => k_is)
      (case c_Span_at_most => k_is)
      (case k_Span_at_most => k_is)
      (case a_Span_same => k_is)
      (case i_Span_same => k_is)
      (case l_Span_same => k_is)
      (case c_Span_same => k_is)
      (case k_Span_same => k_is)
      (case a_Span_truth => k_is)
      (case i_Span_truth => k_is)
      (case l_Span_truth => k_is)
      (case c_Span_truth => k_is)
      (case k_Span_truth => k_is)
      (case a_Span_single => k_is)
      (case i_Span_single => k_is)
      (case l_Span_single => k_is)
      (case c_Span_single => k_is)
      (case k_Span_single => k_is)
      (case a_Span_Dcontains => k_is)
      (case i_Span_Dcontains => k_is)
      (case l_Span_Dcontains => k_is)
      (case c_Span_Dcontains => k_is)
      (case k_Span_Dcontains => k_is)
      (case a_Span_Deq => k_is)
      (case i_Span_Deq => k_is)
      (case l_Span_Deq => k_is)
      (case c_Span_Deq => k_is)
      (case k_Span_Deq => k_is)
      (case a_Span_Dstr => k_is)
      (case i_Span_Dstr => k_is)
      (case l_Span_Dstr => k_is)
      (case c_Span_Dstr => k_is)
      (case k_Span_Dstr => k_is)
      (case a_point => k_is)
      (case l_point => k_is)
      (case c_point => k_is)
      (case k_point => k_is)
      (case a_InvalidNumber_Dinit => k_is)
      (case i_InvalidNumber_Dinit => k_is)
      (case l_InvalidNumber_Dinit => k_is)
      (case c_InvalidNumber_Dinit => k_is)
      (case k_InvalidNumber_Dinit => k_is)
      (case a_lbag => k_is)
      (case l_lbag => k_is)
      (case c_lbag => k_is)
      (case k_lbag => k_is)
      (case a_lpull => k_is)
      (case l_lpull => k_is)
      (case c_lpull => k_is)
      (case k_lpull => k_is)
      (case a_lof => k_is)
      (case l_lof => k_is)
      (case c_lof => k_is)
      (case k_lof => k_is)
      (case a_llike => k_is)
      (case l_llike => k_is)
      (case c_llike => k_is)
      (case k_llike => k_is)
      (case a_lfit => k_is)
      (case l_lfit => k_is)
      (case c_lfit => k_is)
      (case k_lfit => k_is)
      (case a_lplus => k_is)
      (case l_lplus => k_is)
      (case c_lplus => k_is)
      (case k_lplus => k_is)
      (case a_lminus => k_is)
      (case l_lminus => k_is)
      (case c_lminus => k_is)
      (case k_lminus => k_is)
      (case a_ltimes => k_is)
      (case l_ltimes => k_is)
      (case c_ltimes => k_is)
      (case k_ltimes => k_is)
      (case a_lpart => k_is)
      (case l_lpart => k_is)
      (case c_lpart => k_is)
      (case k_lpart => k_is)
      (case a_lless => k_is)
      (case l_lless => k_is)
      (case c_lless => k_is)
      (case k_lless => k_is)
      (case a_ltext => k_is)
      (case l_ltext => k_is)
      (case c_ltext => k_is)
      (case k_ltext => k_is)
      (case a_lworth => k_is)
      (case l_lworth => k_is)
      (case c_lworth => k_is)
      (case k_lworth => k_is)
      (case a_lends => k_is)
      (case l_lends => k_is)
      (case c_lends => k_is)
      (case k_lends => k_is)
      (case a_lwithin => k_is)
      (case l_lwithin => k_is)
      (case c_lwithin => k_is)
      (case k_lwithin => k_is)
      (case a_lleast => k_is)
      (case l_lleast => k_is)
      (case c_lleast => k_is)
      (case k_lleast => k_is)
      (case a_ldown => k_is)
      (case l_ldown => k_is)
      (case c_ldown => k_is)
      (case k_ldown => k_is)
      (case a_lholds => k_is)
      (case l_lholds => k_is)
      (case c_lholds => k_is)
      (case k_lholds => k_is)
      (case a_lways => k_is)
      (case l_lways => k_is)
      (case c_lways => k_is)
      (case k_lways => k_is)
      (case a_lcalled => k_is)
      (case l_lcalled => k_is)
      (case c_lcalled => k_is)
      (case k_lcalled => k_is)
      (case a_loperators => k_is)
      (case l_loperators => k_is)
      (case c_loperators => k_is)
      (case k_loperators => k_is)
      (case a_lagree => k_is)
      (case l_lagree => k_is)
      (case c_lagree => k_is)
      (case k_lagree => k_is)
      (case a_lsame => k_is)
      (case l_lsame => k_is)
      (case c_lsame => k_is)
      (case k_lsame => k_is)
      (case a_lcompared => k_is)
      (case l_lcompared => k_is)
      (case c_lcompared => k_is)
      (case k_lcompared => k_is)
      (case a_lrefused => k_is)
      (case l_lrefused => k_is)
      (case c_lrefused => k_is)
      (case k_lrefused => k_is)
      (case a_lalone => k_is)
      (case l_lalone => k_is)
      (case c_lalone => k_is)
      (case k_lalone => k_is)
      (case a_law => k_is)
      (case l_law => k_is)
      (case c_law => k_is)
      (case k_law => k_is)
      (case xl => k_is)
      (case xr => first | rfl | decide +kernel)
      (case xsa => k_is)
      (case xex => k_is)
      (case xty => k_is)
      (case xkc => k_is)
      (case nVal => k_is)
      (case nCode => k_is)
      (case clE => k_is)
      (case tyE => k_is)
      (case clN => k_is)
      (case tyN => k_is)
      (case clS => k_is)
      (case tyS => k_is)
      (case suE => k_is)
      (case suN => k_is)
      (case suI => k_is)
      (case neN => first | rfl | decide | decide +kernel)
      (case hg => k_is)
      (case hk => k_is)
      (case hd => k_is)
      (case ha => k_is)
      (case hm => k_is)
      (case lW => k_is)
      (case cW => k_is)
      (case kW => k_is)
      (case lD => k_is)
      (case aG => k_is)
      (case lZ => k_is)
      (case pg => k_is)
      (case hdC => k_is)
      (case po => k_is)
      (case saC => k_is)
      (case nLow => k_is)
      (case nHigh => k_is)
      (case sfSpan => k_is)
      (case makes => k_is)
      (case kC => k_is)
      (case spanC => k_is)
      (case clsN => k_is)
      (case clsT => k_is)
      (case nfTup => k_is)
      (case nfStr => k_is)
      (case nfNon => k_is)
      (case mroC => k_is)
      (case z_len => k_is)
      (case z_abs => k_is)
      (case z_int => k_is)
      (case z_str => k_is)
      (case z_isinstance => k_is)
      (case z_zip => k_is)
      (case z_all => k_is)
      (case z_any => k_is)
      (case z_sum => k_is)
      (case z_list => k_is)
      (case z_tuple => k_is)
      (case z_bool => k_is)
