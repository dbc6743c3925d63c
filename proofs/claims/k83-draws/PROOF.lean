import PyProof.Rows.All
import Wide.All
import OpenK.AllK
import Wide.FinOn
import HandS.ForMost
import HandS.ForExc
import HandS.Wide
import HandS.Gcd
import HandS.IsInst
import HandS.Zip
import HandS.FStr
import HandS.OwnEq
import KE.KCallOwn
import HandS.MakeKw
import KE.KIsAll
import HandS.Defaults
import HandS.ExcInit
import HandS.MakeKwOnly
import HandS.HotCalls
import PyProof.ConsumeWalk
import HandS.Comp
import HandS.ExcCtx
import HandS.ExcIs
import HandS.ExcField
import HandS.ExcInitHot
import HandS.GenList
import HandS.ExcOwn
import HandS.TryMany
import HandS.TupAny
import HandS.Conv
import KE.KMathGC
import PySem.Challenge.RW_soleheld_k83_risks_and_draws
set_option Elab.async false
set_option linter.all false
set_option maxRecDepth 100000
set_option maxHeartbeats 4000000
/-! AbA -/
/-! Ab: a heap-free layer over HandS: what a reading does, told by slots (what a value stands for), with local lists owned by the def. -/
namespace Ab
open PySem PySem.Spec PyProof.Rows L2

/-- from base B in the heap H to base B' in the heap H': what is outside the base stays outside, as it is -/
structure Step (B H B' H' : Hp) : Prop where
  inn : Same B' H'
  base : Same B B'
  out : ∀ a, B a = none → H a ≠ none → B' a = none ∧ H' a = H a
theorem Step.refl {B H : Hp} (h : Same B H) : Step B H B H := ⟨h, Same.refl _, fun a h1 _ => ⟨h1, rfl⟩⟩
theorem Step.trans {B H B1 H1 B2 H2 : Hp} (a : Step B H B1 H1) (b : Step B1 H1 B2 H2) : Step B H B2 H2 :=
  ⟨b.inn, a.base.trans b.base, fun x h1 h2 => by
    obtain ⟨p, q⟩ := a.out x h1 h2
    obtain ⟨r, s⟩ := b.out x p (by rw [q]; exact h2)
    exact ⟨r, s.trans q⟩⟩
theorem Step.new {B H : Hp} {p : Addr} {o : HO} (h : Same B H) (hp : H p = none) : Step B H (upd B p o) (upd H p o) := by
  have hB : B p = none := h.free hp
  refine ⟨fun a u e => ?_, fun a u e => ?_, fun a h1 h2 => ?_⟩
  · by_cases ha : a = p
    · subst ha; rw [upd_same] at e ⊢; exact e
    · rw [upd_ne ha] at e ⊢; exact h _ _ e
  · rw [upd_ne (ne_of_none e hB)]; exact e
  · have ha : a ≠ p := fun z => h2 (by rw [z]; exact hp)
    rw [upd_ne ha, upd_ne ha]; exact ⟨h1, rfl⟩
theorem Step.same {B H B' H' : Hp} (h : Same B H) (s : Step B H B' H') : Same H H' := fun a o e => by
  cases q : B a with
  | none => rw [(s.out a q (by rw [e]; simp)).2]; exact e
  | some u =>
    have := h _ _ q
    rw [e] at this; cases this
    exact s.inn _ _ (s.base _ _ q)

/-- what a value stands for -/
structure Slot where
  P : V → Hp → Prop
  mono : ∀ {v : V} {H H' : Hp}, Same H H' → P v H → P v H'
def vS (v : V) : Slot := ⟨fun u _ => u = v, fun _ h => h⟩
abbrev PSl (vs : List V) (ss : List Slot) (H : Hp) : Prop := Paired (fun v (s : Slot) => s.P v H) vs ss
theorem PSl.mono {vs : List V} {ss : List Slot} {H H' : Hp} (e : Same H H') (h : PSl vs ss H) : PSl vs ss H' := Paired.mapP h fun _ s q => s.mono e q
theorem PSl.append {vs ws : List V} {ss ts : List Slot} {H : Hp} : PSl vs ss H → PSl ws ts H → PSl (vs ++ ws) (ss ++ ts) H
  | .nil, s => s
  | .cons r t, s => .cons r (PSl.append t s)
theorem Same.tup {K : PySem.W.Frag} {H H' : Hp} {a : Addr} {xs : List V} (e : Same H H') (h : SqT K H a xs) : SqT K H' a xs := by
  rcases h with (h | ⟨o, h⟩) | h
  · exact .inl (.inl (e _ _ h))
  · exact .inl (.inr ⟨o, e _ _ h⟩)
  · exact .inr h
def tupS (K : PySem.W.Frag) (ss : List Slot) : Slot := ⟨fun v H => ∃ a vs, v = .ref a ∧ SqT K H a vs ∧ PSl vs ss H, fun e ⟨a, vs, h1, h2, h3⟩ => ⟨a, vs, h1, Same.tup e h2, h3.mono e⟩⟩
def lstS (ss : List Slot) : Slot := ⟨fun v H => ∃ a vs, v = .ref a ∧ H a = some (.lst vs) ∧ PSl vs ss H, fun e ⟨a, vs, h1, h2, h3⟩ => ⟨a, vs, h1, e _ _ h2, h3.mono e⟩⟩
/-- an instance of the class at C with these attributes -/
abbrev PFl (fs : List (Str × V)) (gs : List (Str × Slot)) (H : Hp) : Prop := Paired (fun (p : Str × V) (q : Str × Slot) => p.1 = q.1 ∧ q.2.P p.2 H) fs gs
theorem PFl.mono {fs : List (Str × V)} {gs : List (Str × Slot)} {H H' : Hp} (e : Same H H') (h : PFl fs gs H) : PFl fs gs H' := Paired.mapP h fun _ s q => ⟨q.1, s.2.mono e q.2⟩
def insS (C : Addr) (gs : List (Str × Slot)) : Slot := ⟨fun v H => ∃ a dx fs, v = .ref a ∧ H a = some (.ins C dx fs) ∧ PFl fs gs H, fun e ⟨a, dx, fs, h1, h2, h3⟩ => ⟨a, dx, fs, h1, e _ _ h2, h3.mono e⟩⟩
theorem PFl.lookup {gs : List (Str × Slot)} {H : Hp} {f : Str} {s : Slot} : ∀ {fs : List (Str × V)}, PFl fs gs H → gs.lookup f = some s → ∃ v, fs.lookup f = some v ∧ s.P v H := by
  induction gs with
  | nil => intro fs _ h; cases h
  | cons g gs ih =>
    intro fs h hl
    cases h with
    | @cons p _ fs' _ hp hr =>
      obtain ⟨p1, p2⟩ := p
      obtain ⟨g1, g2⟩ := g
      obtain ⟨e1, e2⟩ := hp
      dsimp only at e1 e2
      subst e1
      rw [List.lookup_cons] at hl ⊢
      cases q : f == p1 with
      | true => rw [q] at hl; simp only [Option.some.injEq] at hl; subst hl; exact ⟨p2, rfl, e2⟩
      | false => rw [q] at hl; exact ih hr hl

/-- what is known of a place: nothing; what its value stands for; it is a list at p of the def's own -/
inductive Bd where
  | no
  | pl (s : Slot)
  | own (p : Addr) (ss : List Slot)
structure Rel (σ : L2.St) (B H : Hp) (Γ : List Bd) : Prop where
  len : σ.length = Γ.length
  pl : ∀ (i : Nat) (s : Slot), Γ[i]? = some (.pl s) → ∃ v, σ[i]? = some (some v) ∧ s.P v B
  own : ∀ (i : Nat) (p : Addr) (ss : List Slot), Γ[i]? = some (.own p ss) → σ[i]? = some (some (.ref p)) ∧ B p = none ∧ ∃ vs, H p = some (.lst vs) ∧ PSl vs ss B
  dis : ∀ (i j : Nat) (p : Addr) (ss ss' : List Slot), Γ[i]? = some (.own p ss) → Γ[j]? = some (.own p ss') → i = j
theorem Rel.step {σ : L2.St} {B H B' H' : Hp} {Γ : List Bd} (r : Rel σ B H Γ) (s : Step B H B' H') : Rel σ B' H' Γ where
  len := r.len
  pl := fun i sl h => by obtain ⟨v, e, q⟩ := r.pl i sl h; exact ⟨v, e, sl.mono s.base q⟩
  own := fun i p ss h => by
    obtain ⟨e, b, vs, hh, q⟩ := r.own i p ss h
    obtain ⟨b', h'⟩ := s.out p b (by rw [hh]; simp)
    exact ⟨e, b', vs, h'.trans hh, q.mono s.base⟩
  dis := r.dis
theorem getElem?_set_some {α : Type} {l : List α} {i j : Nat} {a b : α} (h : (l.set i a)[j]? = some b) : (j = i ∧ b = a ∧ i < l.length) ∨ (j ≠ i ∧ l[j]? = some b) := by
  rw [List.getElem?_set] at h
  by_cases e : i = j
  · subst e
    rw [if_pos rfl] at h
    split at h
    · exact .inl ⟨rfl, (Option.some.inj h).symm, by assumption⟩
    · cases h
  · rw [if_neg e] at h
    exact .inr ⟨fun z => e z.symm, h⟩
theorem Rel.set {σ : L2.St} {B H : Hp} {Γ : List Bd} {i : Nat} {v : V} {s : Slot} (r : Rel σ B H Γ) (hs : s.P v B) : Rel (σ.set i (some v)) B H (Γ.set i (.pl s)) where
  len := by rw [List.length_set, List.length_set, r.len]
  pl := fun j sl h => by
    rcases getElem?_set_some h with ⟨rfl, e, hl⟩ | ⟨hj, h⟩
    · cases e
      exact ⟨v, by rw [List.getElem?_set_self (by rw [r.len]; exact hl)], hs⟩
    · rw [List.getElem?_set_ne (fun z => hj z.symm)]
      exact r.pl j sl h
  own := fun j p ss h => by
    rcases getElem?_set_some h with ⟨rfl, e, hl⟩ | ⟨hj, h⟩
    · cases e
    · rw [List.getElem?_set_ne (fun z => hj z.symm)]
      exact r.own j p ss h
  dis := fun j k p ss ss' h1 h2 => by
    rcases getElem?_set_some h1 with ⟨rfl, e, hl⟩ | ⟨hj, g1⟩
    · cases e
    · rcases getElem?_set_some h2 with ⟨rfl, e, hl⟩ | ⟨hk, g2⟩
      · cases e
      · exact r.dis j k p ss ss' g1 g2
theorem Rel.setNo {σ : L2.St} {B H : Hp} {Γ : List Bd} {i : Nat} {v : Option V} (r : Rel σ B H Γ) : Rel (σ.set i v) B H (Γ.set i .no) where
  len := by rw [List.length_set, List.length_set, r.len]
  pl := fun j sl h => by
    rcases getElem?_set_some h with ⟨rfl, e, hl⟩ | ⟨hj, h⟩
    · cases e
    · rw [List.getElem?_set_ne (fun z => hj z.symm)]
      exact r.pl j sl h
  own := fun j p ss h => by
    rcases getElem?_set_some h with ⟨rfl, e, hl⟩ | ⟨hj, h⟩
    · cases e
    · rw [List.getElem?_set_ne (fun z => hj z.symm)]
      exact r.own j p ss h
  dis := fun j k p ss ss' h1 h2 => by
    rcases getElem?_set_some h1 with ⟨rfl, e, hl⟩ | ⟨hj, g1⟩
    · cases e
    · rcases getElem?_set_some h2 with ⟨rfl, e, hl⟩ | ⟨hk, g2⟩
      · cases e
      · exact r.dis j k p ss ss' g1 g2
/-- a new list of its own at i -/
theorem Rel.setOwn {σ : L2.St} {B H : Hp} {Γ : List Bd} {i : Nat} {p : Addr} {vs : List V} {ss : List Slot} (r : Rel σ B H Γ) (b : Same B H) (hp : H p = none) (q : PSl vs ss B) :
    Rel (σ.set i (some (.ref p))) B (upd H p (.lst vs)) (Γ.set i (.own p ss)) where
  len := by rw [List.length_set, List.length_set, r.len]
  pl := fun j sl h => by
    rcases getElem?_set_some h with ⟨rfl, e, hl⟩ | ⟨hj, h⟩
    · cases e
    · rw [List.getElem?_set_ne (fun z => hj z.symm)]
      exact r.pl j sl h
  own := fun j p' ss' h => by
    rcases getElem?_set_some h with ⟨rfl, e, hl⟩ | ⟨hj, h⟩
    · cases e
      exact ⟨by rw [List.getElem?_set_self (by rw [r.len]; exact hl)], b.free hp, vs, upd_same, q⟩
    · rw [List.getElem?_set_ne (fun z => hj z.symm)]
      obtain ⟨e1, e2, vs', e3, e4⟩ := r.own j p' ss' h
      exact ⟨e1, e2, vs', by rw [upd_ne (ne_of_none e3 hp)]; exact e3, e4⟩
  dis := fun j k p' s1 s2 h1 h2 => by
    rcases getElem?_set_some h1 with ⟨rfl, e, hl⟩ | ⟨hj, g1⟩
    · cases e
      rcases getElem?_set_some h2 with ⟨rfl, e, hl⟩ | ⟨hk, g2⟩
      · rfl
      · obtain ⟨_, _, vs', e3, _⟩ := r.own k p s2 g2
        rw [hp] at e3; cases e3
    · rcases getElem?_set_some h2 with ⟨rfl, e, hl⟩ | ⟨hk, g2⟩
      · cases e
        obtain ⟨_, _, vs', e3, _⟩ := r.own j p s1 g1
        rw [hp] at e3; cases e3
      · exact r.dis j k p' s1 s2 g1 g2
/-- the list owned at i is written -/
theorem Rel.write {σ : L2.St} {B H : Hp} {Γ : List Bd} {i : Nat} {p : Addr} {vs : List V} {ss ss0 : List Slot} (r : Rel σ B H Γ) (hi : Γ[i]? = some (.own p ss0)) (q : PSl vs ss B) :
    Rel σ B (upd H p (.lst vs)) (Γ.set i (.own p ss)) where
  len := by rw [List.length_set, r.len]
  pl := fun j sl h => by
    rcases getElem?_set_some h with ⟨rfl, e, hl⟩ | ⟨hj, h⟩
    · cases e
    · exact r.pl j sl h
  own := fun j p' ss' h => by
    obtain ⟨e1, e2, _⟩ := r.own _ _ _ hi
    rcases getElem?_set_some h with ⟨rfl, e, hl⟩ | ⟨hj, g⟩
    · cases e
      exact ⟨e1, e2, vs, upd_same, q⟩
    · obtain ⟨f1, f2, vs', f3, f4⟩ := r.own j p' ss' g
      have hn : p' ≠ p := fun z => by
        rw [z] at g
        exact hj (r.dis _ _ _ _ _ g hi)
      exact ⟨f1, f2, vs', by rw [upd_ne hn]; exact f3, f4⟩
  dis := fun j k p' s1 s2 h1 h2 => by
    rcases getElem?_set_some h1 with ⟨rfl, e, hl⟩ | ⟨hj, g1⟩
    · cases e
      rcases getElem?_set_some h2 with ⟨rfl, e', hl'⟩ | ⟨hk, g2⟩
      · rfl
      · exact r.dis _ k _ _ _ hi g2
    · rcases getElem?_set_some h2 with ⟨rfl, e', hl'⟩ | ⟨hk, g2⟩
      · cases e'
        exact r.dis j _ _ _ _ g1 hi
      · exact r.dis j k _ _ _ g1 g2

/-! ### expressions, tests, arguments -/
def E (te : TE) (Γ : List Bd) (Φ : Slot → Prop) : Prop := ∀ σ B H, Same B H → Rel σ B H Γ → ∀ Q : VK, (∀ s v B' H', Step B H B' H' → s.P v B' → Φ s → Q v H') → te σ H Q
def T (tt : TT) (Γ : List Bd) (Φ : Bool → Prop) : Prop := ∀ σ B H, Same B H → Rel σ B H Γ → ∀ Q : Bool → Hp → Prop, (∀ b B' H', Step B H B' H' → Φ b → Q b H') → tt σ H Q
def A (ta : TA) (Γ : List Bd) (Φ : List Slot → Prop) : Prop := ∀ σ B H, Same B H → Rel σ B H Γ → ∀ Q : List V → Hp → Prop, (∀ ss vs B' H', Step B H B' H' → PSl vs ss B' → Φ ss → Q vs H') → ta σ H Q
def R (r : R2) (s t : Slot) (Φ : Slot → Prop) : Prop := ∀ x y B H, Same B H → s.P x B → t.P y B → ∀ Q : VK, (∀ s v B' H', Step B H B' H' → s.P v B' → Φ s → Q v H') → r x y H Q
def U (r : V → Hp → VK → Prop) (s : Slot) (Φ : Slot → Prop) : Prop := ∀ x B H, Same B H → s.P x B → ∀ Q : VK, (∀ s v B' H', Step B H B' H' → s.P v B' → Φ s → Q v H') → r x H Q
def C (r : List V → Hp → VK → Prop) (ss : List Slot) (Φ : Slot → Prop) : Prop := ∀ vs B H, Same B H → PSl vs ss B → ∀ Q : VK, (∀ s v B' H', Step B H B' H' → s.P v B' → Φ s → Q v H') → r vs H Q
/-- a method of a built-in type -/
def M (r : V → List V → Hp → VK → Prop) (s : Slot) (ss : List Slot) (Φ : Slot → Prop) : Prop := ∀ x vs B H, Same B H → s.P x B → PSl vs ss B → ∀ Q : VK, (∀ s v B' H', Step B H B' H' → s.P v B' → Φ s → Q v H') → r x vs H Q

section
variable {K : PySem.W.Frag} {Γ : List Bd} {Φ : Slot → Prop} {Φb : Bool → Prop} {Φa : List Slot → Prop} {ta tb te tc : TE} {t u : TT} {tr : TA}
theorem E.imp {Φ' : Slot → Prop} (h : E te Γ Φ) (k : ∀ s, Φ s → Φ' s) : E te Γ Φ' := fun σ B H b r Q q => h σ B H b r Q fun s v B' H' st p f => q s v B' H' st p (k s f)
theorem T.imp {Φ' : Bool → Prop} (h : T t Γ Φb) (k : ∀ s, Φb s → Φ' s) : T t Γ Φ' := fun σ B H b r Q q => h σ B H b r Q fun s B' H' st f => q s B' H' st (k s f)
theorem E_var {i : Nat} {s : Slot} (h : Γ[i]? = some (.pl s)) (k : Φ s) : E (tVar i) Γ Φ := fun σ B H b r Q q => by
  obtain ⟨v, e, p⟩ := r.pl i s h
  exact ⟨v, e, q s v B H (.refl b) p k⟩
theorem E_c {v : V} (k : Φ (vS v)) : E (tC v) Γ Φ := fun σ B H b r Q q => q (vS v) v B H (.refl b) rfl k
/-- an object of the module's own top, by its address -/
theorem E_top {v : V} {s : Slot} (hs : ∀ H, s.P v H) (k : Φ s) : E (tC v) Γ Φ := fun σ B H b r Q q => q s v B H (.refl b) (hs B) k
theorem E_op {r : R2} (h : E ta Γ fun s => E tb Γ fun s' => R r s s' Φ) : E (tOp r ta tb) Γ Φ := fun σ B H b rl Q q =>
  h σ B H b rl _ fun s x B1 H1 st1 p1 h1 => h1 σ B1 H1 st1.inn (rl.step st1) _ fun s' y B2 H2 st2 p2 h2 =>
    h2 x y B2 H2 st2.inn (s.mono st2.base p1) p2 Q fun s'' v B3 H3 st3 p3 f => q s'' v B3 H3 ((st1.trans st2).trans st3) p3 f
theorem E_un {r : V → Hp → VK → Prop} (h : E ta Γ fun s => U r s Φ) : E (tUn r ta) Γ Φ := fun σ B H b rl Q q =>
  h σ B H b rl _ fun s x B1 H1 st1 p1 h1 => h1 x B1 H1 st1.inn p1 Q fun s'' v B3 H3 st3 p3 f => q s'' v B3 H3 (st1.trans st3) p3 f
theorem A_nil (k : Φa []) : A tNil Γ Φa := fun σ B H b rl Q q => q [] [] B H (.refl b) .nil k
theorem A_cons (h : E ta Γ fun s => A tr Γ fun ss => Φa (s :: ss)) : A (tCons ta tr) Γ Φa := fun σ B H b rl Q q =>
  h σ B H b rl _ fun s x B1 H1 st1 p1 h1 => h1 σ B1 H1 st1.inn (rl.step st1) _ fun ss vs B2 H2 st2 p2 f => q (s :: ss) (x :: vs) B2 H2 (st1.trans st2) (.cons (s.mono st2.base p1) p2) f
theorem E_tup (h : A tr Γ fun ss => ss.length ≤ 100000 ∧ Φ (tupS K ss)) : E (tTup tr) Γ Φ := fun σ B H b rl Q q =>
  h σ B H b rl _ fun ss vs B1 H1 st1 p1 ⟨hl, f⟩ => ⟨Nat.le_trans (by rw [p1.length]; exact hl) (by decide), fun p hp => q (tupS K ss) (.ref p) (upd B1 p (.tup vs)) (upd H1 p (.tup vs)) (st1.trans (.new st1.inn hp))
    ⟨p, vs, rfl, .inl (.inl upd_same), p1.mono (Step.new (o := .tup vs) st1.inn hp).base⟩ f⟩
theorem E_lst (h : A tr Γ fun ss => ss.length ≤ 100000 ∧ Φ (lstS ss)) : E (tLst tr) Γ Φ := fun σ B H b rl Q q =>
  h σ B H b rl _ fun ss vs B1 H1 st1 p1 ⟨hl, f⟩ => ⟨Nat.le_trans (by rw [p1.length]; exact hl) (by decide), fun p hp => q (lstS ss) (.ref p) (upd B1 p (.lst vs)) (upd H1 p (.lst vs)) (st1.trans (.new st1.inn hp))
    ⟨p, vs, rfl, upd_same, p1.mono (Step.new (o := .lst vs) st1.inn hp).base⟩ f⟩
theorem E_cb {r : List V → Hp → VK → Prop} (h : A tr Γ fun ss => C r ss Φ) : E (tCB r tr) Γ Φ := fun σ B H b rl Q q =>
  h σ B H b rl _ fun ss vs B1 H1 st1 p1 h1 => h1 vs B1 H1 st1.inn p1 Q fun s'' v B3 H3 st3 p3 f => q s'' v B3 H3 (st1.trans st3) p3 f
theorem E_if (h : T t Γ fun b => (b = true → E ta Γ Φ) ∧ (b = false → E tb Γ Φ)) : E (tIf t ta tb) Γ Φ := fun σ B H b rl Q q =>
  h σ B H b rl _ fun c B1 H1 st1 ⟨h1, h2⟩ => by
    cases c with
    | true => exact iteT (h1 rfl σ B1 H1 st1.inn (rl.step st1) Q fun s v B2 H2 st2 p f => q s v B2 H2 (st1.trans st2) p f)
    | false => exact iteF (h2 rfl σ B1 H1 st1.inn (rl.step st1) Q fun s v B2 H2 st2 p f => q s v B2 H2 (st1.trans st2) p f)
theorem E_fld {f : Str} (h : E ta Γ fun s => ∃ C gs s', s = insS C gs ∧ Cls K C ∧ NoAttr K C f ∧ gs.lookup f = some s' ∧ Φ s') : E (tFld K ta f) Γ Φ := fun σ B H b rl Q q =>
  h σ B H b rl _ fun s x B1 H1 st1 p1 ⟨C, gs, s', e, c, n, l, k⟩ => by
    subst e
    obtain ⟨a, dx, fs, rfl, ha, hf⟩ := p1
    obtain ⟨v, lv, pv⟩ := hf.lookup l
    exact ⟨a, C, dx, fs, v, rfl, st1.inn _ _ ha, c, n, lv, q s' v B1 H1 st1 pv k⟩
theorem E_not (h : E ta Γ fun s => ∃ c, s = vS (.bl c) ∧ Φ (vS (.bl (!c)))) : E (tNotV ta) Γ Φ := fun σ B H b rl Q q =>
  h σ B H b rl _ fun s x B1 H1 st1 p1 ⟨c, e, k⟩ => by
    subst e
    exact ⟨c, p1, q _ _ B1 H1 st1 rfl k⟩
theorem E_and (h : E ta Γ fun s => ∃ c, s = vS (.bl c) ∧ (c = true → E tb Γ Φ) ∧ (c = false → Φ (vS (.bl false)))) : E (tAndV ta tb) Γ Φ := fun σ B H b rl Q q =>
  h σ B H b rl _ fun s x B1 H1 st1 p1 ⟨c, e, k1, k2⟩ => by
    subst e
    refine ⟨c, p1, ?_⟩
    cases c with
    | true => exact iteT (k1 rfl σ B1 H1 st1.inn (rl.step st1) Q fun s v B2 H2 st2 p f => q s v B2 H2 (st1.trans st2) p f)
    | false => exact iteF (q _ _ B1 H1 st1 rfl (k2 rfl))
theorem E_or (h : E ta Γ fun s => ∃ c, s = vS (.bl c) ∧ (c = true → Φ (vS (.bl true))) ∧ (c = false → E tb Γ Φ)) : E (tOrV ta tb) Γ Φ := fun σ B H b rl Q q =>
  h σ B H b rl _ fun s x B1 H1 st1 p1 ⟨c, e, k1, k2⟩ => by
    subst e
    refine ⟨c, p1, ?_⟩
    cases c with
    | true => exact iteT (q _ _ B1 H1 st1 rfl (k1 rfl))
    | false => exact iteF (k2 rfl σ B1 H1 st1.inn (rl.step st1) Q fun s v B2 H2 st2 p f => q s v B2 H2 (st1.trans st2) p f)
theorem E_bm {r : V → List V → Hp → VK → Prop} {ty : String} (h : E ta Γ fun s => (∀ x H, s.P x H → tyV K ty x H) ∧ A tr Γ fun ss => M r s ss Φ) : E (tBM K ty r ta tr) Γ Φ := fun σ B H b rl Q q =>
  h σ B H b rl _ fun s x B1 H1 st1 p1 ⟨hty, h1⟩ => ⟨hty x H1 (s.mono st1.inn p1), h1 σ B1 H1 st1.inn (rl.step st1) _ fun ss vs B2 H2 st2 p2 h2 => h2 x vs B2 H2 st2.inn (s.mono st2.base p1) p2 Q fun s'' v B3 H3 st3 p3 f => q s'' v B3 H3 ((st1.trans st2).trans st3) p3 f⟩
/-! tests -/
theorem T_B (h : E ta Γ fun s => ∃ c, s = vS (.bl c) ∧ Φb c) : T (tB ta) Γ Φb := fun σ B H b rl Q q =>
  h σ B H b rl _ fun s x B1 H1 st1 p1 ⟨c, e, k⟩ => by
    subst e
    exact ⟨c, p1, q c B1 H1 st1 k⟩
theorem T_test (h : E ta Γ fun s => ∃ c, s = vS (.bl c) ∧ Φb c) : T (tTest ta) Γ Φb := fun σ B H b rl Q q =>
  h σ B H b rl _ fun s x B1 H1 st1 p1 ⟨c, e, k⟩ => by
    subst e
    exact ⟨c, p1, q c B1 H1 st1 k⟩
theorem T_and (h : T t Γ fun c => (c = true → T u Γ Φb) ∧ (c = false → Φb false)) : T (tAnd t u) Γ Φb := fun σ B H b rl Q q =>
  h σ B H b rl _ fun c B1 H1 st1 ⟨k1, k2⟩ => by
    cases c with
    | true => exact iteT (k1 rfl σ B1 H1 st1.inn (rl.step st1) Q fun s B2 H2 st2 f => q s B2 H2 (st1.trans st2) f)
    | false => exact iteF (q _ B1 H1 st1 (k2 rfl))
theorem T_or (h : T t Γ fun c => (c = true → Φb true) ∧ (c = false → T u Γ Φb)) : T (tOr t u) Γ Φb := fun σ B H b rl Q q =>
  h σ B H b rl _ fun c B1 H1 st1 ⟨k1, k2⟩ => by
    cases c with
    | true => exact iteT (q _ B1 H1 st1 (k1 rfl))
    | false => exact iteF (k2 rfl σ B1 H1 st1.inn (rl.step st1) Q fun s B2 H2 st2 f => q s B2 H2 (st1.trans st2) f)
theorem T_not (h : T t Γ fun c => Φb (!c)) : T (tNot t) Γ Φb := fun σ B H b rl Q q => h σ B H b rl _ fun c B1 H1 st1 k => q (!c) B1 H1 st1 k
/-! operators on values -/
theorem R_I0 {g : Int → Int → V} {i j : Int} (k : Φ (vS (g i j))) : R (rI0 g) (vS (.int i)) (vS (.int j)) Φ := fun x y B H b p1 p2 Q q => ⟨i, j, p1, p2, q _ _ B H (.refl b) rfl k⟩
theorem R_I {D : Int → Int → Prop} {g : Int → Int → V} {i j : Int} (hc : D i j) (k : Φ (vS (g i j))) : R (rI D g) (vS (.int i)) (vS (.int j)) Φ := fun x y B H b p1 p2 Q q => ⟨i, j, p1, p2, hc, q _ _ B H (.refl b) rfl k⟩
theorem R_eq {v w : V} (hs : scal v w = true) (k : Φ (vS (.bl (decide (v = w))))) : R rEq (vS v) (vS w) Φ := fun x y B H b p1 p2 Q q => by
  obtain rfl : x = v := p1
  obtain rfl : y = w := p2
  exact ⟨hs, q _ _ B H (.refl b) rfl k⟩
theorem R_ne {v w : V} (hs : scal v w = true) (k : Φ (vS (.bl (!decide (v = w))))) : R rNe (vS v) (vS w) Φ := fun x y B H b p1 p2 Q q => by
  obtain rfl : x = v := p1
  obtain rfl : y = w := p2
  exact ⟨hs, q _ _ B H (.refl b) rfl k⟩
theorem PSl.get {vs : List V} {ss : List Slot} {H : Hp} : ∀ {i : Nat} {s : Slot}, PSl vs ss H → ss[i]? = some s → ∃ v, vs[i]? = some v ∧ s.P v H
  | _, _, .nil, e => by simp at e
  | 0, s, .cons r _, e => by simp at e; subst e; exact ⟨_, rfl, r⟩
  | i + 1, s, .cons _ t, e => by
    obtain ⟨v, h1, h2⟩ := PSl.get (i := i) (s := s) t (by simpa using e)
    exact ⟨v, by simpa using h1, h2⟩
theorem PSl.getR {vs : List V} {ss : List Slot} {H : Hp} : ∀ {i : Nat} {v : V}, PSl vs ss H → vs[i]? = some v → ∃ s, ss[i]? = some s ∧ s.P v H
  | _, _, .nil, e => by simp at e
  | 0, s, .cons r _, e => by simp at e; subst e; exact ⟨_, rfl, r⟩
  | i + 1, s, .cons _ t, e => by
    obtain ⟨v, h1, h2⟩ := PSl.getR (i := i) (v := s) t (by simpa using e)
    exact ⟨v, by simpa using h1, h2⟩
theorem PSl.atI {vs : List V} {ss : List Slot} {H : Hp} {i : Int} {s : Slot} (h : PSl vs ss H) (e : L2.atI ss i = some s) : ∃ v, L2.atI vs i = some v ∧ s.P v H := by
  unfold L2.atI at e ⊢
  rw [h.length]
  cases q : ixN ss.length i with
  | none => rw [q] at e; cases e
  | some j =>
    rw [q] at e
    exact h.get e
theorem R_ixT {ss : List Slot} {i : Int} {s : Slot} (h : L2.atI ss i = some s) (k : Φ s) : R (rIxT K) (tupS K ss) (vS (.int i)) Φ := fun x y B H b p1 p2 Q q => by
  obtain ⟨a, vs, rfl, ht, hp⟩ := p1
  obtain ⟨v, e, pv⟩ := hp.atI h
  exact ⟨a, vs, i, v, rfl, p2, Same.tup b ht, e, q s v B H (.refl b) pv k⟩
theorem R_ixL {ss : List Slot} {i : Int} {s : Slot} (h : L2.atI ss i = some s) (k : Φ s) : R (rIxL K) (lstS ss) (vS (.int i)) Φ := fun x y B H b p1 p2 Q q => by
  obtain ⟨a, vs, rfl, ht, hp⟩ := p1
  obtain ⟨v, e, pv⟩ := hp.atI h
  exact ⟨a, vs, i, v, rfl, p2, .inl (.inl (b _ _ ht)), e, q s v B H (.refl b) pv k⟩
theorem U_I {g : Int → V} {i : Int} (k : Φ (vS (g i))) : U (rU g) (vS (.int i)) Φ := fun x B H b p Q q => ⟨i, p, q _ _ B H (.refl b) rfl k⟩
end

/-! ### defs -/
/-- a raised exception: its class and its attributes -/
structure Xs where
  C : Addr
  fs : List (Str × Slot)
def Xs.At (x : Xs) (d : Option Addr) (H : Hp) : Prop := ∃ a fs, d = some a ∧ H a = some (.xd fs) ∧ PFl fs x.fs H
/-- a def by slots: its arguments, what is wanted of its value, of what it raises -/
abbrev FS := List Slot → (Slot → Prop) → (Xs → Prop) → Prop
def spOf (F : FS) : Sp := fun vs H Q Er => ∃ B ss Φ Ψ, Same B H ∧ PSl vs ss B ∧ F ss Φ Ψ ∧ (∀ s v B' H', Step B H B' H' → s.P v B' → Φ s → Q v H') ∧
  (∀ x d B' H', Step B H B' H' → x.At d B' → Ψ x → Er (.ref x.C) d H')
theorem E_call {F : FS} {dvs : List V} {dss : List Slot} {Er : XK} {Γ : List Bd} {Φ : Slot → Prop} {tr : TA} (hd : ∀ H, PSl dvs dss H) (h : A tr Γ fun ss => F (ss ++ dss) Φ fun _ => False) : E (tCall (spOf F) dvs Er tr) Γ Φ := fun σ B H b rl Q q =>
  h σ B H b rl _ fun ss vs B1 H1 st1 p1 f => ⟨B1, ss ++ dss, Φ, fun _ => False, st1.inn, PSl.append p1 (hd B1), f, fun s v B2 H2 st2 p k => q s v B2 H2 (st1.trans st2) p k, fun _ _ _ _ _ _ z => z.elim⟩

/-! ### statements -/
structure Ks where
  nx : List Bd → Prop
  rt : Slot → List Bd → Prop
  bk : List Bd → Prop
  ct : List Bd → Prop
  er : XK := E0
  ex : Xs → Prop := fun _ => False
/-- where one stands in a def that was entered with base B0 in the heap H0 -/
structure At (B0 H0 : Hp) (σ : L2.St) (B H : Hp) (Γ : List Bd) : Prop where
  rel : Rel σ B H Γ
  inn : Same B H
  base : Same B0 B
  out : ∀ a, B0 a = none → H0 a ≠ none → B a = none ∧ H a = H0 a
  mine : ∀ (i : Nat) (p : Addr) (ss : List Slot), Γ[i]? = some (.own p ss) → H0 p = none
theorem At.step {B0 H0 : Hp} {σ : L2.St} {B H B' H' : Hp} {Γ : List Bd} (a : At B0 H0 σ B H Γ) (s : Step B H B' H') : At B0 H0 σ B' H' Γ where
  rel := a.rel.step s
  inn := s.inn
  base := a.base.trans s.base
  out := fun x h1 h2 => by
    obtain ⟨p, q⟩ := a.out x h1 h2
    obtain ⟨r, t⟩ := s.out x p (by rw [q]; exact h2)
    exact ⟨r, t.trans q⟩
  mine := a.mine
theorem At.set {B0 H0 : Hp} {σ : L2.St} {B H : Hp} {Γ : List Bd} {i : Nat} {v : V} {s : Slot} (a : At B0 H0 σ B H Γ) (hs : s.P v B) : At B0 H0 (σ.set i (some v)) B H (Γ.set i (.pl s)) where
  rel := a.rel.set hs
  inn := a.inn
  base := a.base
  out := a.out
  mine := fun j p ss h1 => by
    rcases getElem?_set_some h1 with ⟨rfl, e, hl⟩ | ⟨hj, h1⟩
    · cases e
    · exact a.mine j p ss h1
theorem At.to {B0 H0 : Hp} {σ : L2.St} {B H : Hp} {Γ : List Bd} (a : At B0 H0 σ B H Γ) : Step B0 H0 B H := ⟨a.inn, a.base, a.out⟩
structure DOk (B0 H0 : Hp) (D : Ends) (Φ : Ks) : Prop where
  nx : ∀ Γ σ B H, At B0 H0 σ B H Γ → Φ.nx Γ → D.nx σ H
  rt : ∀ s v Γ σ B H, At B0 H0 σ B H Γ → s.P v B → Φ.rt s Γ → D.rt v H
  bk : ∀ Γ σ B H, At B0 H0 σ B H Γ → Φ.bk Γ → D.bk σ H
  ct : ∀ Γ σ B H, At B0 H0 σ B H Γ → Φ.ct Γ → D.ct σ H
  ex : ∀ x d Γ σ B H, At B0 H0 σ B H Γ → x.At d B → Φ.ex x → Φ.er (.ref x.C) d H
def S (ts : TS) (Γ : List Bd) (Φ : Ks) : Prop := ∀ B0 H0 D σ B H, DOk B0 H0 D Φ → At B0 H0 σ B H Γ → ts D σ H

section
variable {K : PySem.W.Frag} {Γ : List Bd} {Φ : Ks} {te : TE} {tt : TT} {t u : TS} {tr : TA}
theorem S_next (k : Φ.nx Γ) : S tNext Γ Φ := fun B0 H0 D σ B H d a => d.nx Γ σ B H a k
theorem S_brk (k : Φ.bk Γ) : S tBreak Γ Φ := fun B0 H0 D σ B H d a => d.bk Γ σ B H a k
theorem S_cont (k : Φ.ct Γ) : S tCont Γ Φ := fun B0 H0 D σ B H d a => d.ct Γ σ B H a k
theorem S_seq (h : S t Γ { Φ with nx := fun Γ' => S u Γ' Φ }) : S (tSeq t u) Γ Φ := fun B0 H0 D σ B H d a =>
  h B0 H0 { D with nx := u D } σ B H ⟨fun Γ' σ' B' H' a' k => k B0 H0 D σ' B' H' d a', d.rt, d.bk, d.ct, d.ex⟩ a
theorem S_asg {i : Nat} (h : E te Γ fun s => Φ.nx (Γ.set i (.pl s))) : S (tAsg te (gName i)) Γ Φ := fun B0 H0 D σ B H d a =>
  h σ B H a.inn a.rel _ fun s v B' H' st p k => d.nx _ _ B' H' ((a.step st).set p) k
theorem S_ret (h : E te Γ fun s => Φ.rt s Γ) : S (tRet te) Γ Φ := fun B0 H0 D σ B H d a =>
  h σ B H a.inn a.rel _ fun s v B' H' st p k => d.rt s v Γ σ B' H' (a.step st) p k
theorem S_retN (k : Φ.rt (vS .non) Γ) : S tRetN Γ Φ := fun B0 H0 D σ B H d a => d.rt (vS .non) .non Γ σ B H a rfl k
theorem S_drop (h : E te Γ fun _ => Φ.nx Γ) : S (tDrop te) Γ Φ := fun B0 H0 D σ B H d a =>
  h σ B H a.inn a.rel _ fun s v B' H' st p k => d.nx _ _ B' H' (a.step st) k
theorem S_if (h : T tt Γ fun b => (b = true → S t Γ Φ) ∧ (b = false → S u Γ Φ)) : S (tIfS tt t u) Γ Φ := fun B0 H0 D σ B H d a =>
  h σ B H a.inn a.rel _ fun b B' H' st ⟨k1, k2⟩ => by
    cases b with
    | true => exact iteT (k1 rfl B0 H0 D σ B' H' d (a.step st))
    | false => exact iteF (k2 rfl B0 H0 D σ B' H' d (a.step st))
theorem S_aug {i : Nat} {f : Int → Int → Int} {n : Int} (hi : Γ[i]? = some (.pl (vS (.int n)))) (h : E te Γ fun s => ∃ m, s = vS (.int m) ∧ Φ.nx (Γ.set i (.pl (vS (.int (f n m)))))) : S (tAug i te (ipI f)) Γ Φ := fun B0 H0 D σ B H d a => by
  obtain ⟨v, e, p⟩ := a.rel.pl i _ hi
  obtain rfl : v = .int n := p
  refine ⟨_, e, h σ B H a.inn a.rel _ fun s v B' H' st p k => ?_⟩
  obtain ⟨m, rfl, k⟩ := k
  obtain rfl : v = .int m := p
  exact ⟨n, m, rfl, rfl, d.nx _ _ B' H' ((a.step st).set rfl) k⟩
theorem S.imp {Φ' : Ks} (k0 : Φ'.er = Φ.er) (k5 : ∀ x, Φ.ex x → Φ'.ex x) (h : S t Γ Φ) (k1 : ∀ Γ, Φ.nx Γ → Φ'.nx Γ) (k2 : ∀ s Γ, Φ.rt s Γ → Φ'.rt s Γ) (k3 : ∀ Γ, Φ.bk Γ → Φ'.bk Γ) (k4 : ∀ Γ, Φ.ct Γ → Φ'.ct Γ) : S t Γ Φ' := fun B0 H0 D σ B H d a =>
  h B0 H0 D σ B H ⟨fun Γ' σ' B' H' a' k => d.nx Γ' σ' B' H' a' (k1 _ k), fun s v Γ' σ' B' H' st p k => d.rt s v Γ' σ' B' H' st p (k2 _ _ k), fun Γ' σ' B' H' a' k => d.bk Γ' σ' B' H' a' (k3 _ k), fun Γ' σ' B' H' a' k => d.ct Γ' σ' B' H' a' (k4 _ k), fun x dd Γ' σ' B' H' a' xa k => k0 ▸ d.ex x dd Γ' σ' B' H' a' xa (k5 x k)⟩ a
end

/-! ### a def's body -/
def entry (N : List Str) (ss : List Slot) : List Bd := ss.map .pl ++ List.replicate (N.length - ss.length) .no
theorem entry_own {N : List Str} {ss : List Slot} {i : Nat} {p : Addr} {ts : List Slot} (h : (entry N ss)[i]? = some (.own p ts)) : False := by
  unfold entry at h
  by_cases hi : i < ss.length
  · rw [List.getElem?_append_left (by simpa using hi), List.getElem?_map] at h
    cases e : ss[i]? with
    | none => rw [e] at h; cases h
    | some s' => rw [e] at h; cases h
  · rw [List.getElem?_append_right (by simpa using hi), List.getElem?_replicate] at h
    split at h <;> cases h
theorem rel_entry {N : List Str} {vs : List V} {ss : List Slot} {B H : Hp} (p : PSl vs ss B) : Rel (L2.start N vs) B H (entry N ss) where
  len := by unfold L2.start entry; simp [p.length]
  pl := fun i s h => by
    unfold entry at h
    by_cases hi : i < ss.length
    · rw [List.getElem?_append_left (by simpa using hi), List.getElem?_map] at h
      cases e : ss[i]? with
      | none => rw [e] at h; cases h
      | some s' =>
        rw [e] at h; cases h
        obtain ⟨v, ev, pv⟩ := p.get e
        refine ⟨v, ?_, pv⟩
        unfold L2.start
        rw [List.getElem?_append_left (by rw [List.length_map, p.length]; exact hi), List.getElem?_map, ev]; rfl
    · rw [List.getElem?_append_right (by simpa using hi), List.getElem?_replicate] at h
      split at h <;> cases h
  own := fun i p s h => (entry_own h).elim
  dis := fun i j p s s' h _ => (entry_own h).elim
theorem at_entry {N : List Str} {vs : List V} {ss : List Slot} {B H : Hp} (b : Same B H) (p : PSl vs ss B) : At B H (L2.start N vs) B H (entry N ss) :=
  ⟨rel_entry p, b, Same.refl _, fun a h1 _ => ⟨h1, rfl⟩, fun i p' ss' h => (entry_own h).elim⟩
section
variable {P : Program} {w : World} {K : PySem.W.Frag} {mg : Str → Option Value} {base : Heap}
/-- a def that raises nothing -/
theorem ok0 {x qual : Str} {st : Stmt} {f : Addr} {fd : FuncData} {N ps : List Str} {k : Nat} {F : FS} (Fn : Fun K x qual st f fd) (Sc : FnScope N ps (defScope st)) (len : ∀ ss Φ Ψ, F ss Φ Ψ → ss.length = ps.length)
    (hb : ∀ (cdv : Value) (Ar : Around) (outer : List Env) (s : Shared) (H : Hp) (Er : XK), Room k (Ar.deeper (envOfC qual (defScope st) s.heap.objs.size f cdv)) →
      ∃ t, PSs (cxOf CX0 P w K mg base N qual (defScope st) f cdv Ar outer s H Er).nox (defBody st) t ∧ ∀ ss Φ Ψ, F ss Φ Ψ → S t (entry N ss) { nx := fun _ => Φ (vS .non), rt := fun s _ => Φ s, bk := fun _ => False, ct := fun _ => False }) : FnOk P w K mg base CX0 (k + 1) f fd ps (spOf F) := by
  refine Fn.ok Sc (fun vs H Q Er h => ?_) (fun cdv Ar outer s H vs Q Er hr h => ?_)
  · obtain ⟨B, ss, Φ, Ψ, b, p, hf, _⟩ := h
    rw [p.length, len ss Φ Ψ hf]
  · obtain ⟨t, ht, hs⟩ := hb cdv Ar outer s H Er hr
    obtain ⟨B, ss, Φ, Ψ, b, p, hf, k1, k2⟩ := h
    exact ⟨t, ht, hs ss Φ Ψ hf B H _ _ B H ⟨fun Γ σ B' H' a q => k1 _ .non B' H' a.to rfl q, fun s v Γ σ B' H' a pv q => k1 s v B' H' a.to pv q, fun _ _ _ _ _ z => z.elim, fun _ _ _ _ _ z => z.elim, fun _ _ _ _ _ _ _ _ z => z.elim⟩ (at_entry b p)⟩
end
section
variable {P : Program} {w : World} {K : PySem.W.Frag} {mg : Str → Option Value} {base : Heap}
/-- a def that may raise -/
theorem okX {x qual : Str} {st : Stmt} {f : Addr} {fd : FuncData} {N ps : List Str} {k : Nat} {F : FS} (Fn : Fun K x qual st f fd) (Sc : FnScope N ps (defScope st)) (len : ∀ ss Φ Ψ, F ss Φ Ψ → ss.length = ps.length)
    (hb : ∀ (cdv : Value) (Ar : Around) (outer : List Env) (s : Shared) (H : Hp) (Er : XK), Room k (Ar.deeper (envOfC qual (defScope st) s.heap.objs.size f cdv)) →
      ∃ t, PSs (cxOf (L2.CX P w) P w K mg base N qual (defScope st) f cdv Ar outer s H Er) (defBody st) t ∧ ∀ ss Φ Ψ, F ss Φ Ψ → S t (entry N ss) { nx := fun _ => Φ (vS .non), rt := fun s _ => Φ s, bk := fun _ => False, ct := fun _ => False, er := Er, ex := Ψ }) : FnOk P w K mg base (L2.CX P w) (k + 1) f fd ps (spOf F) := by
  refine Fn.okX Sc (fun vs H Q Er h => ?_) (fun cdv Ar outer s H vs Q Er hr h => ?_)
  · obtain ⟨B, ss, Φ, Ψ, b, p, hf, _⟩ := h
    rw [p.length, len ss Φ Ψ hf]
  · obtain ⟨t, ht, hs⟩ := hb cdv Ar outer s H Er hr
    obtain ⟨B, ss, Φ, Ψ, b, p, hf, k1, k2⟩ := h
    exact ⟨t, ht, hs ss Φ Ψ hf B H _ _ B H ⟨fun Γ σ B' H' a q => k1 _ .non B' H' a.to rfl q, fun s v Γ σ B' H' a pv q => k1 s v B' H' a.to pv q, fun _ _ _ _ _ z => z.elim, fun _ _ _ _ _ z => z.elim, fun x d Γ σ B' H' a xa q => k2 x d B' H' a.to xa q⟩ (at_entry b p)⟩
end
section
variable {Γ : List Bd} {Φ : Ks} {tr : TA} {F : FS}
/-- a call that may raise, as a statement, an assignment, a return -/
theorem S_dropX (h : A tr Γ fun ss => F ss (fun _ => Φ.nx Γ) Φ.ex) : S (tDrop (tCall (spOf F) [] Φ.er tr)) Γ Φ := fun B0 H0 D σ B H d a =>
  h σ B H a.inn a.rel _ fun ss vs B1 H1 st p f => by
    rw [List.append_nil]
    exact ⟨B1, ss, _, Φ.ex, st.inn, p, f, fun s v B' H' st' pv k => d.nx _ _ B' H' ((a.step st).step st') k, fun x dd B' H' st' xa k => d.ex x dd _ _ B' H' ((a.step st).step st') xa k⟩
theorem S_asgX {i : Nat} (h : A tr Γ fun ss => F ss (fun s => Φ.nx (Γ.set i (.pl s))) Φ.ex) : S (tAsg (tCall (spOf F) [] Φ.er tr) (gName i)) Γ Φ := fun B0 H0 D σ B H d a =>
  h σ B H a.inn a.rel _ fun ss vs B1 H1 st p f => by
    rw [List.append_nil]
    exact ⟨B1, ss, _, Φ.ex, st.inn, p, f, fun s v B' H' st' pv k => d.nx _ _ B' H' (((a.step st).step st').set pv) k, fun x dd B' H' st' xa k => d.ex x dd _ _ B' H' ((a.step st).step st') xa k⟩
theorem S_retX (h : A tr Γ fun ss => F ss (fun s => Φ.rt s Γ) Φ.ex) : S (tRet (tCall (spOf F) [] Φ.er tr)) Γ Φ := fun B0 H0 D σ B H d a =>
  h σ B H a.inn a.rel _ fun ss vs B1 H1 st p f => by
    rw [List.append_nil]
    exact ⟨B1, ss, _, Φ.ex, st.inn, p, f, fun s v B' H' st' pv k => d.rt s v _ _ B' H' ((a.step st).step st') pv k, fun x dd B' H' st' xa k => d.ex x dd _ _ B' H' ((a.step st).step st') xa k⟩
end
end Ab

/-! AbB -/
namespace Ab
open PySem PySem.Spec PyProof.Rows L2

/-! ### defs of the module's top -/
structure DfG (K : PySem.W.Frag) (mg : Str → Option Value) (x qual : Str) (st : Stmt) (ps : List Str) where
  f : Addr
  fd : FuncData
  F : Fun K x qual st f fd
  b : Binds K fd ps []
  g : mg x = some (.ref f)

section
variable {X : Cx}
/-- // by a divisor that is not nought, of fewer than 9000 bits -/
def CDivNW (_ j : Int) : Prop := j ≠ 0 ∧ j.natAbs.log2 < 9000
theorem op_fdivNW : OpR X (binaryOp .FloorDiv) (rI CDivNW fun i j => .int (i.fdiv j)) := opI fun i j _ _ _ _ _ hc q => floordiv_int hc.1 q (.inl (PyProof.noPylong_of_log2 hc.2))
end
theorem CDivNW.of {i j : Int} {b : Nat} (h : j ≠ 0) (hb : j.natAbs < 2 ^ b) (h0 : 0 < b) (h9 : b ≤ 9000) : CDivNW i j := ⟨h, Nat.lt_of_lt_of_le (PySem.Flt.log2_lt_of h0 hb) h9⟩

section
variable {K : PySem.W.Frag} {Γ : List Bd} {Φ : Slot → Prop} {Φb : Bool → Prop} {Φk : Ks} {ta tb te : TE} {t u : TS} {tr : TA}
theorem C_gcd {a b : Int} (k : Φ (vS (.int ((Nat.gcd a.natAbs b.natAbs : Nat) : Int)))) : C rGcd [vS (.int a), vS (.int b)] Φ := fun vs B H b' p Q q => by
  cases p with
  | cons h1 p => cases p with
    | cons h2 p =>
      cases p
      exact ⟨a, b, by rw [show _ = _ from h1, show _ = _ from h2], q _ _ B H (.refl b') rfl k⟩
/-- a, b = e1, e2 -/
theorem S_par {i j : Nat} (h : A tr Γ fun ss => ∃ s s', ss = [s, s'] ∧ Φk.nx ((Γ.set i (.pl s)).set j (.pl s'))) : S (tPar i j tr) Γ Φk := fun B0 H0 D σ B H d a =>
  h σ B H a.inn a.rel _ fun ss vs B' H' st p ⟨s, s', e, k⟩ => by
    subst e
    cases p with
    | cons h1 p => cases p with
      | cons h2 p =>
        cases p
        exact ⟨_, _, rfl, d.nx _ _ B' H' (((a.step st).set h1).set h2) k⟩
/-- while, by a word of the places and a measure -/
theorem S_while {tt : TT} (W : Nat → List Bd → Prop) (m0 : Nat) (h0 : W m0 Γ)
    (hs : ∀ m Γ', W m Γ' → T tt Γ' fun b => (b = true → S t Γ' { Φk with nx := fun Γ'' => ∃ m', m' < m ∧ W m' Γ'', ct := fun Γ'' => ∃ m', m' < m ∧ W m' Γ'', bk := Φk.nx }) ∧ (b = false → Φk.nx Γ')) : S (tWhile tt t) Γ Φk := fun B0 H0 D σ B H d a => by
  refine ⟨fun m σ' H' => ∃ Γ' B', At B0 H0 σ' B' H' Γ' ∧ W m Γ', ⟨m0, Γ, B, a, h0⟩, ?_⟩
  rintro m σ' H' ⟨Γ', B', a', w⟩
  refine hs m Γ' w σ' B' H' a'.inn a'.rel _ fun b B2 H2 st ⟨k1, k2⟩ => ?_
  have a2 := a'.step st
  cases b with
  | true =>
    refine iteT ⟨fun σ3 H3 => ∃ m', m' < m ∧ ∃ Γ'' B'', At B0 H0 σ3 B'' H3 Γ'' ∧ W m' Γ'', fun σ3 H3 z => z, ?_⟩
    exact k1 rfl B0 H0 _ σ' B2 H2 ⟨fun Γ'' σ'' B'' H'' a'' ⟨m', hm, w'⟩ => ⟨m', hm, Γ'', B'', a'', w'⟩, d.rt, d.nx, fun Γ'' σ'' B'' H'' a'' ⟨m', hm, w'⟩ => ⟨m', hm, Γ'', B'', a'', w'⟩, d.ex⟩ a2
  | false => exact iteF (d.nx Γ' σ' B2 H2 a2 (k2 rfl))
theorem C_abs {a : Int} (k : Φ (vS (.int (if a < 0 then -a else a)))) : C (fun xs H Q => ∃ i : Int, xs = [.int i] ∧ Q (.int (if i < 0 then -i else i)) H) [vS (.int a)] Φ := fun vs B H b' p Q q => by
  cases p with
  | cons h1 p =>
    cases p
    exact ⟨a, by rw [show _ = _ from h1], q _ _ B H (.refl b') rfl k⟩
theorem C_int {a : Int} (k : Φ (vS (.int a))) : C (fun xs H Q => (∃ i : Int, xs = [.int i] ∧ Q (.int i) H) ∨ (∃ k : Bool, xs = [.bl k] ∧ Q (.int (if k then 1 else 0)) H)) [vS (.int a)] Φ := fun vs B H b' p Q q => by
  cases p with
  | cons h1 p =>
    cases p
    exact .inl ⟨a, by rw [show _ = _ from h1], q _ _ B H (.refl b') rfl k⟩
end
def ratS (K : PySem.W.Frag) (q : Rat) : Slot := tupS K [vS (.int q.num), vS (.int q.den)]
end Ab

/-! AbC -/
namespace Ab
open PySem PySem.Spec PyProof.Rows L2

/-! ### targets -/
/-- the target takes a value of the slot s; only the places in vs are written -/
def Gj (g : TG) (vs : List Nat) (s : Slot) (Γ : List Bd) (Ψ : List Bd → Prop) : Prop := ∀ σ B H v, Same B H → Rel σ B H Γ → s.P v B → ∀ Q : L2.St → Hp → Prop,
  (∀ Γ' σ', Rel σ' B H Γ' → (∀ (i : Nat), i ∉ vs → σ'[i]? = σ[i]?) → σ'.length = σ.length → (∀ (i : Nat) (p : Addr) (ss : List Slot), Γ'[i]? = some (.own p ss) → ∃ (j : Nat) (ss' : List Slot), Γ[j]? = some (.own p ss')) → Ψ Γ' → Q σ' H) → g v σ H Q
def Gjs (g : TGs) (vs : List Nat) (ss : List Slot) (Γ : List Bd) (Ψ : List Bd → Prop) : Prop := ∀ σ B H xs, Same B H → Rel σ B H Γ → PSl xs ss B → ∀ Q : L2.St → Hp → Prop,
  (∀ Γ' σ', Rel σ' B H Γ' → (∀ (i : Nat), i ∉ vs → σ'[i]? = σ[i]?) → σ'.length = σ.length → (∀ (i : Nat) (p : Addr) (ss : List Slot), Γ'[i]? = some (.own p ss) → ∃ (j : Nat) (ss' : List Slot), Γ[j]? = some (.own p ss')) → Ψ Γ' → Q σ' H) → g xs σ H Q
section
variable {K : PySem.W.Frag} {Γ : List Bd} {Ψ : List Bd → Prop} {vs : List Nat}
theorem G_name {i : Nat} {s : Slot} (hi : i ∈ vs) (k : Ψ (Γ.set i (.pl s))) : Gj (gName i) vs s Γ Ψ := fun σ B H v b r p Q q =>
  q _ _ (r.set p) (fun j hj => by rw [List.getElem?_set_ne (fun z => hj (by rw [← z]; exact hi))]) (by rw [List.length_set]) (fun j p' ss h1 => by
    rcases getElem?_set_some h1 with ⟨rfl, e, hl⟩ | ⟨hj, h1⟩
    · cases e
    · exact ⟨j, ss, h1⟩) k
theorem G_nil (k : Ψ Γ) : Gjs gNil vs [] Γ Ψ := fun σ B H xs b r p Q q => by
  cases p
  exact ⟨rfl, q _ _ r (fun _ _ => rfl) rfl (fun j p' ss h1 => ⟨j, ss, h1⟩) k⟩
theorem G_cons {t : TG} {u : TGs} {s : Slot} {ss : List Slot} (h : Gj t vs s Γ fun Γ' => Gjs u vs ss Γ' Ψ) : Gjs (gCons t u) vs (s :: ss) Γ Ψ := fun σ B H xs b r p Q q => by
  cases p with
  | cons p1 p2 =>
    refine ⟨_, _, rfl, h σ B H _ b r p1 _ fun Γ' σ' r' o1 l1 w1 k => k σ' B H _ b r' p2 Q fun Γ'' σ'' r'' o2 l2 w2 k2 => q Γ'' σ'' r'' (fun i hi => (o2 i hi).trans (o1 i hi)) (l2.trans l1) (fun i p' s' h1 => ?_) k2⟩
    obtain ⟨j, s'', h3⟩ := w2 i p' s' h1
    exact w1 j p' s'' h3
theorem G_tup {n : Nat} {t : TGs} {ss : List Slot} (hn : ss.length = n) (h : Gjs t vs ss Γ Ψ) : Gj (gTup K n t) vs (tupS K ss) Γ Ψ := fun σ B H v b r p Q q => by
  obtain ⟨a, xs, e, ht, hp⟩ := p
  exact ⟨a, xs, e, Same.tup b ht, by rw [hp.length]; exact hn, h σ B H xs b r hp Q q⟩
end
/-! ### for -/
theorem At.of {B0 H0 : Hp} {σ σ' : L2.St} {B H : Hp} {Γ Γ' : List Bd} (a : At B0 H0 σ B H Γ) (r : Rel σ' B H Γ') (w : ∀ (i : Nat) (p : Addr) (ss : List Slot), Γ'[i]? = some (.own p ss) → ∃ (j : Nat) (ss' : List Slot), Γ[j]? = some (.own p ss')) : At B0 H0 σ' B H Γ' :=
  ⟨r, a.inn, a.base, a.out, fun i p ss h1 => by
    obtain ⟨j, ss', h3⟩ := w i p ss h1
    exact a.mine j p ss' h3⟩
/-- the state at hand as an entry: what was in the heap at the entry stands, and the base of now -/
def mrg (B H0 : Hp) : Hp := fun a => match B a with
  | some o => some o
  | none => H0 a
theorem mrg_some {B H0 : Hp} {a : Addr} {o : HO} (h : B a = some o) : mrg B H0 a = some o := by unfold mrg; rw [h]
theorem mrg_none {B H0 : Hp} {a : Addr} (h : B a = none) : mrg B H0 a = H0 a := by unfold mrg; rw [h]
theorem At.here {B0 H0 : Hp} {σ : L2.St} {B H : Hp} {Γ : List Bd} (a : At B0 H0 σ B H Γ) : At B (mrg B H0) σ B H Γ :=
  ⟨a.rel, a.inn, Same.refl _, fun x h1 h2 => by
    rw [mrg_none h1] at h2 ⊢
    have hb : B0 x = none := a.base.free h1
    exact a.out x hb h2, fun i p ss h1 => by
    obtain ⟨e1, e2, _⟩ := a.rel.own i p ss h1
    rw [mrg_none e2]
    exact a.mine i p ss h1⟩
theorem At.back {B0 H0 : Hp} {σ σ' : L2.St} {B H B' H' : Hp} {Γ Γ' : List Bd} (a : At B0 H0 σ B H Γ) (b : At B (mrg B H0) σ' B' H' Γ') : At B0 H0 σ' B' H' Γ' :=
  ⟨b.rel, b.inn, a.base.trans b.base, fun x h1 h2 => by
    obtain ⟨p, q⟩ := a.out x h1 h2
    have := b.out x p (by rw [mrg_none p]; exact h2)
    rw [mrg_none p] at this
    exact this, fun i p ss h1 => by
    have := b.mine i p ss h1
    cases q : B p with
    | none => rw [mrg_none q] at this; exact this
    | some o => rw [mrg_some q] at this; cases this⟩
theorem Step.back {B0 H0 : Hp} {σ : L2.St} {B H B' H' : Hp} {Γ : List Bd} (a : At B0 H0 σ B H Γ) (b : Step B (mrg B H0) B' H') : Step B0 H0 B' H' :=
  ⟨b.inn, a.base.trans b.base, fun x h1 h2 => by
    obtain ⟨p, q⟩ := a.out x h1 h2
    have := b.out x p (by rw [mrg_none p]; exact h2)
    rw [mrg_none p] at this
    exact this⟩
theorem DOk.here {B0 H0 : Hp} {σ : L2.St} {B H : Hp} {Γ : List Bd} {D : Ends} {Φ : Ks} (a : At B0 H0 σ B H Γ) (d : DOk B0 H0 D Φ) : DOk B (mrg B H0) D Φ :=
  ⟨fun Γ' σ' B' H' b k => d.nx Γ' σ' B' H' (a.back b) k, fun s v Γ' σ' B' H' b p k => d.rt s v Γ' σ' B' H' (a.back b) p k, fun Γ' σ' B' H' b k => d.bk Γ' σ' B' H' (a.back b) k, fun Γ' σ' B' H' b k => d.ct Γ' σ' B' H' (a.back b) k, fun x dd Γ' σ' B' H' b xa k => d.ex x dd Γ' σ' B' H' (a.back b) xa k⟩
section
variable {K : PySem.W.Frag} {Γ : List Bd} {Φ : Ks} {te tl : TE} {t : TS} {g : TG}
/-- for x in a list that the body leaves as it is -/
theorem S_forL {ss : List Slot} (vs : List Nat) (W : Nat → List Bd → Prop) (h : E tl Γ fun s => s = lstS ss ∧ W 0 Γ)
    (hs : ∀ (i : Nat) (s : Slot) Γ', ss[i]? = some s → W i Γ' → Gj g vs s Γ' fun Γ'' => S t Γ'' { Φ with nx := W (i + 1), ct := W (i + 1), bk := Φ.nx }) (hd : ∀ Γ', W ss.length Γ' → Φ.nx Γ') : S (tFor (iList K tl) g t) Γ Φ := fun B0 H0 D σ B H d a =>
  h σ B H a.inn a.rel _ fun s v B1 H1 st p ⟨e, w0⟩ => by
    subst e
    obtain ⟨l, xs, rfl, hl, hp⟩ := p
    have a1 := a.step st
    have d1 := d.here a1
    refine ⟨l, rfl, ⟨xs, SqL.of (st.inn _ _ hl)⟩, for_list (fun i σ' H' => ∃ Γ' B', At B1 (mrg B1 H0) σ' B' H' Γ' ∧ W i Γ') ⟨Γ, B1, a1.here, w0⟩ (fun i σ' H' _ ⟨Γ', B', a', _⟩ => SqL.of (a'.inn _ _ (a'.base _ _ hl))) ?_ ?_⟩
    · rintro i x σ' H' hi ⟨Γ', B', a', w⟩
      obtain ⟨s, es, ps⟩ := hp.getR hi
      refine hs i s Γ' es w σ' B' H' x a'.inn a'.rel (s.mono a'.base ps) _ fun Γ'' σ'' r o l' wn k => ?_
      exact k B1 (mrg B1 H0) _ σ'' B' H' ⟨fun Γ3 σ3 B3 H3 a3 k3 => ⟨Γ3, B3, a3, k3⟩, d1.rt, d1.nx, fun Γ3 σ3 B3 H3 a3 k3 => ⟨Γ3, B3, a3, k3⟩, d1.ex⟩ (a'.of r wn)
    · rintro σ' H' ⟨Γ', B', a', w⟩
      rw [hp.length] at w
      exact d1.nx Γ' σ' B' H' a' (hd Γ' w)
/-- for x in a tuple -/
theorem S_forT {ss : List Slot} (vs : List Nat) (W : Nat → List Bd → Prop) (h : E tl Γ fun s => s = tupS K ss ∧ W 0 Γ)
    (hs : ∀ (i : Nat) (s : Slot) Γ', ss[i]? = some s → W i Γ' → Gj g vs s Γ' fun Γ'' => S t Γ'' { Φ with nx := W (i + 1), ct := W (i + 1), bk := Φ.nx }) (hd : ∀ Γ', W ss.length Γ' → Φ.nx Γ') : S (tFor (iTup K tl) g t) Γ Φ := fun B0 H0 D σ B H d a =>
  h σ B H a.inn a.rel _ fun s v B1 H1 st p ⟨e, w0⟩ => by
    subst e
    obtain ⟨l, xs, rfl, hl, hp⟩ := p
    have a1 := a.step st
    have d1 := d.here a1
    refine ⟨l, rfl, ⟨xs, Same.tup st.inn hl⟩, for_tup (fun i σ' H' => ∃ Γ' B', At B1 (mrg B1 H0) σ' B' H' Γ' ∧ W i Γ') ⟨Γ, B1, a1.here, w0⟩ (fun i σ' H' _ ⟨Γ', B', a', _⟩ => Same.tup a'.inn (Same.tup a'.base hl)) ?_ ?_⟩
    · rintro i x σ' H' hi ⟨Γ', B', a', w⟩
      obtain ⟨s, es, ps⟩ := hp.getR hi
      refine hs i s Γ' es w σ' B' H' x a'.inn a'.rel (s.mono a'.base ps) _ fun Γ'' σ'' r o l' wn k => ?_
      exact k B1 (mrg B1 H0) _ σ'' B' H' ⟨fun Γ3 σ3 B3 H3 a3 k3 => ⟨Γ3, B3, a3, k3⟩, d1.rt, d1.nx, fun Γ3 σ3 B3 H3 a3 k3 => ⟨Γ3, B3, a3, k3⟩, d1.ex⟩ (a'.of r wn)
    · rintro σ' H' ⟨Γ', B', a', w⟩
      rw [hp.length] at w
      exact d1.nx Γ' σ' B' H' a' (hd Γ' w)
end
/-! ### comprehensions -/
theorem wipe_out {σ σ' : L2.St} (hl : σ'.length = σ.length) : ∀ {vs : List Nat}, (∀ i : Nat, i ∉ vs → σ'[i]? = σ[i]?) → wipe σ' vs = wipe σ vs := fun {vs} h => by
  have get : ∀ (τ : L2.St) (vs : List Nat) (i : Nat), (wipe τ vs)[i]? = if i ∈ vs ∧ i < τ.length then some none else τ[i]? := by
    intro τ vs
    induction vs with
    | nil => intro i; simp [wipe]
    | cons v vs ih =>
      intro i
      unfold wipe
      rw [List.getElem?_set, wipe_length, ih]
      by_cases e : v = i
      · subst e
        by_cases hv : v < τ.length
        · simp [hv]
        · simp [hv]
      · have e' : ¬ i = v := fun z => e z.symm
        simp [e, e']
  apply List.ext_getElem?
  intro i
  rw [get, get, hl]
  by_cases hi : i ∈ vs
  · by_cases h2 : i < σ.length
    · simp [hi, h2]
    · simp [hi, h2]; omega
  · simp [hi, h i hi]
def wipeB (Γ : List Bd) : List Nat → List Bd
  | [] => Γ
  | v :: vs => (wipeB Γ vs).set v .no
theorem Rel.wipe {B H : Hp} {Γ : List Bd} {σ : L2.St} (r : Rel σ B H Γ) : ∀ vs : List Nat, Rel (L2.wipe σ vs) B H (wipeB Γ vs)
  | [] => r
  | v :: vs => (Rel.wipe r vs).setNo
end Ab

/-! AbD -/
namespace Ab
open PySem PySem.Spec PyProof.Rows L2

/-! ### comprehensions -/
def LcP (B1 H1 : Hp) (Dl : Addr) (outs : List Slot) (H : Hp) : Prop := ∃ B ys, Step B1 H1 B H ∧ B Dl = none ∧ H Dl = some (.lst ys) ∧ PSl ys outs B
theorem LcP.start {B1 H1 : Hp} {Dl : Addr} (b : Same B1 H1) (hD : H1 Dl = none) : LcP B1 H1 Dl [] (upd H1 Dl (.lst [])) :=
  ⟨B1, [], ⟨fun a o e => by rw [upd_ne (ne_of_none e (b.free hD))]; exact b _ _ e, Same.refl _, fun a h1 h2 => ⟨h1, upd_ne fun z => h2 (by rw [z]; exact hD)⟩⟩, b.free hD, upd_same, .nil⟩
theorem LcP.add {B1 H1 B H : Hp} {Dl : Addr} {outs : List Slot} {ys : List V} {y : V} {o : Slot} (st : Step B1 H1 B H) (hD1 : H1 Dl = none) (hB : B Dl = none) (hH : H Dl = some (.lst ys)) (p : PSl ys outs B) (py : o.P y B) : LcP B1 H1 Dl (outs ++ [o]) (upd H Dl (.lst (ys ++ [y]))) :=
  ⟨B, ys ++ [y], ⟨fun a u e => by rw [upd_ne (ne_of_none e hB)]; exact st.inn _ _ e, st.base, fun a h1 h2 => by
    obtain ⟨q1, q2⟩ := st.out a h1 h2
    exact ⟨q1, by rw [upd_ne fun z => h2 (by rw [z]; exact hD1)]; exact q2⟩⟩, hB, upd_same, p.append (.cons py .nil)⟩
theorem LcP.fin {B1 H1 H : Hp} {Dl : Addr} {outs : List Slot} (b : Same B1 H1) (hD1 : H1 Dl = none) (h : LcP B1 H1 Dl outs H) : ∃ B', Step B1 H1 B' H ∧ (lstS outs).P (.ref Dl) B' := by
  obtain ⟨B, ys, st, hB, hH, p⟩ := h
  have sm : Same B (upd B Dl (.lst ys)) := fun a o e => by rw [upd_ne (ne_of_none e hB)]; exact e
  refine ⟨upd B Dl (.lst ys), ⟨fun a o e => ?_, st.base.trans sm, fun a h1 h2 => ?_⟩, Dl, ys, rfl, upd_same, p.mono sm⟩
  · by_cases ha : a = Dl
    · subst ha; rw [upd_same] at e; cases e; exact hH
    · rw [upd_ne ha] at e; exact st.inn _ _ e
  · obtain ⟨q1, q2⟩ := st.out a h1 h2
    have ha : a ≠ Dl := fun z => h2 (by rw [z]; exact hD1)
    exact ⟨by rw [upd_ne ha]; exact q1, q2⟩
theorem wipe_at {σ : L2.St} {i : Nat} : ∀ {vs : List Nat}, i ∉ vs → (wipe σ vs)[i]? = σ[i]?
  | [], _ => rfl
  | v :: vs, h => by
    unfold wipe
    rw [List.getElem?_set_ne (fun z => h (by rw [z]; exact List.mem_cons_self ..))]
    exact wipe_at (vs := vs) (fun hm => h (List.mem_cons_of_mem _ hm))
theorem PSl.written {H : Hp} : ∀ {cs vs : List V}, PSl vs (cs.map vS) H → vs = cs
  | [], _, .nil => rfl
  | c :: cs, _, .cons a p => by rw [show _ = c from a, PSl.written p]
section
variable {α : Type} {K : PySem.W.Frag} {Γ : List Bd} {Φ : Slot → Prop} {te tl : TE} {tt : TT} {g : TG} {vs : List Nat} {ta : TA}
/-- one turn: from the item's slot s; b tells whether it gives, o what -/
def LcT (g : TG) (tt : TT) (te : TE) (vs : List Nat) (Γ : List Bd) (s : Slot) (b : Bool) (o : Slot) : Prop := Gj g vs s (wipeB Γ vs) fun Γ' => T tt Γ' fun c => c = b ∧ (b = true → E te Γ' fun o' => o' = o)
theorem LcT.run {σ : L2.St} {B1 H1 H' : Hp} {Dl : Addr} {outs : List Slot} {s o : Slot} {b : Bool} {x : V} (h : LcT g tt te vs Γ s b o) (r : Rel σ B1 H1 Γ) (hD1 : H1 Dl = none) {B' : Hp} {ys : List V} (st : Step B1 H1 B' H') (hB : B' Dl = none) (hH : H' Dl = some (.lst ys)) (p : PSl ys outs B') (hl : ys.length < 60000)
    (px : s.P x B') : g x (wipe σ vs) H' fun σ2 H2 => wipe σ2 vs = wipe σ vs ∧ tt σ2 H2 fun c H3 => if c = true then te σ2 H3 fun y H4 => ∃ acc, H4 Dl = some (.lst acc) ∧ acc.length < sizeLine ∧ LcP B1 H1 Dl (if b then outs ++ [o] else outs) (upd H4 Dl (.lst (acc ++ [y]))) else LcP B1 H1 Dl (if b then outs ++ [o] else outs) H3 := by
  refine h (wipe σ vs) B' H' x st.inn ((r.wipe vs).step st) px _ fun Γ' σ' r' out hlen _ hT => ?_
  refine ⟨?_, hT σ' B' H' st.inn r' _ fun c B2 H2 st2 ⟨hc, hE⟩ => ?_⟩
  · rw [wipe_out hlen out]
    exact wipe_out (by rw [wipe_length]) fun i hi => wipe_at hi
  · subst hc
    have s2 := st.trans st2
    obtain ⟨q1, q2⟩ := st2.out Dl hB (by rw [hH]; simp)
    cases c with
    | true =>
      refine iteT (hE rfl σ' B2 H2 st2.inn (r'.step st2) _ fun o' y B3 H3 st3 py ho => ?_)
      subst ho
      obtain ⟨q3, q4⟩ := st3.out Dl q1 (by rw [q2, hH]; simp)
      exact ⟨ys, by rw [q4, q2]; exact hH, Nat.lt_of_lt_of_le hl (by decide), LcP.add (s2.trans st3) hD1 q3 (by rw [q4, q2]; exact hH) (p.mono (st2.base.trans st3.base)) py⟩
    | false => exact iteF ⟨B2, ys, s2, q1, by rw [q2]; exact hH, p.mono st2.base⟩
theorem take_filter {xs : List α} {i : Nat} {x : α} {p : α → Bool} {f : α → Slot} (h : xs[i]? = some x) : ((xs.take (i + 1)).filter p).map f = if p x then ((xs.take i).filter p).map f ++ [f x] else ((xs.take i).filter p).map f := by
  have hi := (List.getElem?_eq_some_iff.mp h).1
  rw [List.take_succ, h]
  simp only [Option.toList_some, List.filter_append, List.map_append]
  cases hp : p x <;> simp [List.filter_cons, hp]
theorem mapGet {xs : List α} {i : Nat} {f : α → Slot} {s : Slot} (h : (xs.map f)[i]? = some s) : ∃ x, xs[i]? = some x ∧ s = f x := by
  rw [List.getElem?_map] at h
  cases e : xs[i]? with
  | none => rw [e] at h; cases h
  | some x => rw [e] at h; exact ⟨x, rfl, (Option.some.inj h).symm⟩
/-- over a list -/
theorem E_lcL (xs : List α) (ps f : α → Slot) (p : α → Bool) (h : E tl Γ fun s => s = lstS (xs.map ps)) (hn : xs.length ≤ 50000) (ht : ∀ x ∈ xs, LcT g tt te vs Γ (ps x) (p x) (f x)) (k : Φ (lstS ((xs.filter p).map f))) : E (tLc (iList K tl) g tt te vs) Γ Φ := fun σ B H b rl Q q =>
  h σ B H b rl _ fun s v B1 H1 st pv e => by
    subst e
    obtain ⟨l, us, rfl, hl, hp⟩ := pv
    have hlen : us.length = xs.length := by rw [hp.length, List.length_map]
    refine ⟨l, rfl, ⟨us, SqL.of (st.inn _ _ hl)⟩, fun Dl hD => lc_list (xs := us) (fun i H' => LcP B1 H1 Dl (((xs.take i).filter p).map f) H') (LcP.start st.inn hD) (fun i H' _ ⟨B', ys, st', _⟩ => SqL.of (st'.inn _ _ (st'.base _ _ hl))) ?_ ?_⟩
    · rintro i x H' hi ⟨B', ys, st', hB, hH, py⟩
      obtain ⟨s, es, ps'⟩ := hp.getR hi
      obtain ⟨z, ez, rfl⟩ := mapGet es
      have hz := List.mem_of_getElem? ez
      have hl2 : ys.length < 60000 := by
        have h1 := List.length_filter_le p (xs.take i)
        rw [py.length, List.length_map]
        rw [List.length_take] at h1
        omega
      have := (ht z hz).run (rl.step st) hD st' hB hH py hl2 ((ps z).mono st'.base ps')
      rw [take_filter ez]
      exact this
    · intro H' w
      rw [hlen, List.take_length] at w
      obtain ⟨B', st', pl⟩ := w.fin st.inn hD
      exact q _ _ B' H' (st.trans st') pl k
/-- over a tuple -/
theorem E_lcT (xs : List α) (ps f : α → Slot) (p : α → Bool) (h : E tl Γ fun s => s = tupS K (xs.map ps)) (hn : xs.length ≤ 50000) (ht : ∀ x ∈ xs, LcT g tt te vs Γ (ps x) (p x) (f x)) (k : Φ (lstS ((xs.filter p).map f))) : E (tLc (iTup K tl) g tt te vs) Γ Φ := fun σ B H b rl Q q =>
  h σ B H b rl _ fun s v B1 H1 st pv e => by
    subst e
    obtain ⟨l, us, rfl, hl, hp⟩ := pv
    have hlen : us.length = xs.length := by rw [hp.length, List.length_map]
    refine ⟨l, rfl, ⟨us, Same.tup st.inn hl⟩, fun Dl hD => lc_tup (xs := us) (fun i H' => LcP B1 H1 Dl (((xs.take i).filter p).map f) H') (LcP.start st.inn hD) (fun i H' _ ⟨B', ys, st', _⟩ => Same.tup st'.inn (Same.tup st'.base hl)) ?_ ?_⟩
    · rintro i x H' hi ⟨B', ys, st', hB, hH, py⟩
      obtain ⟨s, es, ps'⟩ := hp.getR hi
      obtain ⟨z, ez, rfl⟩ := mapGet es
      have hz := List.mem_of_getElem? ez
      have hl2 : ys.length < 60000 := by
        have h1 := List.length_filter_le p (xs.take i)
        rw [py.length, List.length_map]
        rw [List.length_take] at h1
        omega
      have := (ht z hz).run (rl.step st) hD st' hB hH py hl2 ((ps z).mono st'.base ps')
      rw [take_filter ez]
      exact this
    · intro H' w
      rw [hlen, List.take_length] at w
      obtain ⟨B', st', pl⟩ := w.fin st.inn hD
      exact q _ _ B' H' (st.trans st') pl k
/-- over zip of two tuples of one length; the item's slot is a pair -/
theorem E_lcZT (xs : List (Slot × Slot)) (f : Slot × Slot → Slot) (h : A ta Γ fun ss => ss = [tupS K (xs.map (·.1)), tupS K (xs.map (·.2))]) (hn : xs.length ≤ 50000) (ht : ∀ x ∈ xs, LcT g tt te vs Γ (tupS K [x.1, x.2]) true (f x)) (k : Φ (lstS (xs.map f))) : E (tLc (RZ.iZipA K ta) g tt te vs) Γ Φ := fun σ B H b rl Q q =>
  h σ B H b rl _ fun ss vv B1 H1 st pv e => by
    subst e
    cases pv with
    | cons pa pv => cases pv with
      | cons pb pv =>
        cases pv
        obtain ⟨la, ua, rfl, hla, hpa⟩ := pa
        obtain ⟨lb, ub, rfl, hlb, hpb⟩ := pb
        have la1 : ua.length = xs.length := by rw [hpa.length, List.length_map]
        have lb1 : ub.length = xs.length := by rw [hpb.length, List.length_map]
        refine ⟨la, lb, ua, ub, rfl, .inr ⟨Same.tup st.inn hla, Same.tup st.inn hlb, fun Dl hD => ?_⟩⟩
        refine ⟨fun i m H' => m = xs.length - i ∧ i ≤ xs.length ∧ LcP B1 H1 Dl ((xs.take i).map f) H', ⟨xs.length, by simp, Nat.zero_le _, by simpa using LcP.start st.inn hD⟩, ?_⟩
        rintro i m H' ⟨rfl, hi, w⟩
        obtain ⟨B', ys, st', hB, hH, py⟩ := id w
        have qa : SqT K H' la ua := Same.tup st'.inn (Same.tup st'.base hla)
        have qb : SqT K H' lb ub := Same.tup st'.inn (Same.tup st'.base hlb)
        by_cases hlt : i < xs.length
        · refine .inr ⟨⟨ua, ub, ua[i], ub[i], qa, qb, by simp, by simp⟩, LcP B1 H1 Dl ((xs.take (i + 1)).map f), fun H2 p' => ⟨xs.length - (i + 1), by omega, rfl, hlt, p'⟩, fun v H2 y => ?_⟩
          obtain ⟨Tp, x, y, rfl, hT, rfl, ea, eb⟩ := y
          have ex := ea ua qa
          have ey := eb ub qb
          obtain ⟨sa, es, psa⟩ := hpa.getR ex
          obtain ⟨z, ez, rfl⟩ := mapGet es
          obtain ⟨sb, es2, psb⟩ := hpb.getR ey
          obtain ⟨z2, ez2, rfl⟩ := mapGet es2
          rw [ez] at ez2; cases ez2
          have hl2 : ys.length < 60000 := by
            rw [py.length, List.length_map, List.length_take]
            omega
          have hTD : Dl ≠ Tp := fun z => by rw [← z, hH] at hT; cases hT
          have st2 := st'.trans (Step.new (o := .tup [x, y]) st'.inn hT)
          have sm : Same B' (upd B' Tp (.tup [x, y])) := (Step.new (o := .tup [x, y]) st'.inn hT).base
          have := (ht z (List.mem_of_getElem? ez)).run (x := .ref Tp) (rl.step st) hD st2 (by rw [upd_ne hTD]; exact hB) (by rw [upd_ne hTD]; exact hH) (py.mono sm) hl2
            ⟨Tp, [x, y], rfl, .inl (.inl upd_same), .cons (z.1.mono (st'.base.trans sm) psa) (.cons (z.2.mono (st'.base.trans sm) psb) .nil)⟩
          have e : (xs.take (i + 1)).map f = (xs.take i).map f ++ [f z] := by rw [List.take_succ, ez]; simp
          rw [e]
          exact this
        · have e : i = xs.length := by omega
          subst e
          rw [List.take_length] at w
          obtain ⟨B', st', pl⟩ := w.fin st.inn hD
          exact .inl ⟨⟨ua, ub, qa, qb, .inl (by omega)⟩, q _ _ B' H' (st.trans st') pl k⟩
theorem T_yes {Φb : Bool → Prop} (k : Φb true) : T tYes Γ Φb := fun σ B H b rl Q q => q true B H (.refl b) k
end

/-! ### built-ins on slots -/
section
variable {K : PySem.W.Frag} {Γ : List Bd} {Φ : Slot → Prop} {ss tt : List Slot}
theorem C_len (s : Slot) (n : Nat) (hs : (s = lstS ss ∨ s = tupS K ss) ∧ ss.length = n) (k : Φ (vS (.int n))) : C (fun xs H Q => ∃ p ys, xs = [.ref p] ∧ (SqL K H p ys ∨ SqT K H p ys) ∧ Q (.int ys.length) H) [s] Φ := fun vs B H b p Q q => by
  obtain ⟨hs, hn⟩ := hs
  cases p with
  | cons h1 p =>
    cases p
    rcases hs with rfl | rfl
    · obtain ⟨a, us, rfl, hl, hp⟩ := h1
      exact ⟨a, us, rfl, .inl (SqL.of (b _ _ hl)), by rw [hp.length, hn]; exact q _ _ B H (.refl b) rfl k⟩
    · obtain ⟨a, us, rfl, hl, hp⟩ := h1
      exact ⟨a, us, rfl, .inr (Same.tup b hl), by rw [hp.length, hn]; exact q _ _ B H (.refl b) rfl k⟩
theorem PSl.bls {vs : List V} {bs : List Bool} {H : Hp} (h : PSl vs (bs.map fun b => vS (.bl b)) H) : vs = bs.map V.bl := by
  induction bs generalizing vs with
  | nil => cases h; rfl
  | cons b bs ih => cases h with
    | cons h1 h2 => rw [show _ = V.bl b from h1, ih h2]; rfl
theorem PSl.ints {vs : List V} {ns : List Int} {H : Hp} (h : PSl vs (ns.map fun n => vS (.int n)) H) : vs = ns.map V.int := by
  induction ns generalizing vs with
  | nil => cases h; rfl
  | cons b bs ih => cases h with
    | cons h1 h2 => rw [show _ = V.int b from h1, ih h2]; rfl
theorem C_all (bs : List Bool) (hs : ss = [lstS (bs.map fun b => vS (.bl b))]) (k : Φ (vS (.bl (bs.all id)))) : C (rAll K) ss Φ := fun vs B H b p Q q => by
  subst hs
  cases p with
  | cons h1 p =>
    cases p
    obtain ⟨a, us, rfl, hl, hp⟩ := h1
    have := hp.bls; subst this
    exact ⟨a, bs, rfl, SqL.of (b _ _ hl), q _ _ B H (.refl b) rfl k⟩
theorem C_any (bs : List Bool) (hs : ss = [lstS (bs.map fun b => vS (.bl b))]) (k : Φ (vS (.bl (bs.any id)))) : C (rAny K) ss Φ := fun vs B H b p Q q => by
  subst hs
  cases p with
  | cons h1 p =>
    cases p
    obtain ⟨a, us, rfl, hl, hp⟩ := h1
    have := hp.bls; subst this
    exact ⟨a, bs, rfl, SqL.of (b _ _ hl), q _ _ B H (.refl b) rfl k⟩
theorem C_sum (ns : List Int) (hs : ss = [lstS (ns.map fun n => vS (.int n))]) (k : Φ (vS (.int ns.sum))) : C (rSum K) ss Φ := fun vs B H b p Q q => by
  subst hs
  cases p with
  | cons h1 p =>
    cases p
    obtain ⟨a, us, rfl, hl, hp⟩ := h1
    have := hp.ints; subst this
    exact ⟨a, ns, rfl, SqL.of (b _ _ hl), q _ _ B H (.refl b) rfl k⟩
theorem R_cat (hz : ss.length + tt.length ≤ 100000) (k : Φ (lstS (ss ++ tt))) : R rCat (lstS ss) (lstS tt) Φ := fun x y B H b p1 p2 Q q => by
  obtain ⟨a, us, rfl, hl, hp⟩ := p1
  obtain ⟨a2, us2, rfl, hl2, hp2⟩ := p2
  exact ⟨a, a2, us, us2, rfl, rfl, b _ _ hl, b _ _ hl2, Nat.le_trans (by rw [hp.length, hp2.length]; exact hz) (by decide), fun p hp' => q (lstS (ss ++ tt)) _ (upd B p (.lst (us ++ us2))) _ (.new b hp')
    ⟨p, us ++ us2, rfl, upd_same, (hp.append hp2).mono (Step.new (o := .lst (us ++ us2)) b hp').base⟩ k⟩
/-! data for == -/
/-- what a slot is as data -/
def DpS (K : PySem.W.Frag) (s : Slot) (d : PyData) : Prop := ∀ v H, s.P v H → Dp K H v d
theorem dp_int (i : Int) : DpS K (vS (.int i)) (.int i) := fun v H h => by obtain rfl : v = .int i := h; exact .int i
theorem dp_bl (i : Bool) : DpS K (vS (.bl i)) (.bool i) := fun v H h => by obtain rfl : v = .bl i := h; exact .bl i
theorem dp_str (i : Str) : DpS K (vS (.str i)) (.str i) := fun v H h => by obtain rfl : v = .str i := h; exact .str i
theorem dp_non : DpS K (vS .non) .none := fun v H h => by obtain rfl : v = .non := h; exact .non
theorem dp_all : ∀ {ss : List Slot} {ds : List PyData}, Paired (DpS K) ss ds → ∀ vs H, PSl vs ss H → DpAll K H vs ds
  | _, _, .nil, _, _, .nil => .nil
  | _, _, .cons d r, _, _, .cons p q => .cons (d _ _ p) (dp_all r _ _ q)
theorem dp_tup {ds : List PyData} (h : Paired (DpS K) ss ds) : DpS K (tupS K ss) (.tuple ds) := fun v H p => by
  obtain ⟨a, us, rfl, hl, hp⟩ := p
  exact .tup hl (dp_all h _ _ hp)
theorem dp_lst {ds : List PyData} (h : Paired (DpS K) ss ds) : DpS K (lstS ss) (.list ds) := fun v H p => by
  obtain ⟨a, us, rfl, hl, hp⟩ := p
  exact .lst (SqL.of hl) (dp_all h _ _ hp)
theorem R_eqD {s t : Slot} {d e : PyData} (hs : DpS K s d) (ht : DpS K t e) (h1 : SeqAt.shaped d = true) (h2 : SeqAt.shaped e = true) (k : Φ (vS (.bl (PyData.eqv d e)))) : R (rEqD K) s t Φ := fun x y B H b p1 p2 Q q =>
  ⟨d, e, hs x H (s.mono b p1), ht y H (t.mono b p2), h1, h2, q _ _ B H (.refl b) rfl k⟩
theorem R_neD {s t : Slot} {d e : PyData} (hs : DpS K s d) (ht : DpS K t e) (h1 : SeqAt.shaped d = true) (h2 : SeqAt.shaped e = true) (k : Φ (vS (.bl (!PyData.eqv d e)))) : R (rNeD K) s t Φ := fun x y B H b p1 p2 Q q =>
  ⟨d, e, hs x H (s.mono b p1), ht y H (t.mono b p2), h1, h2, q _ _ B H (.refl b) rfl k⟩
/-! types -/
def TyS (K : PySem.W.Frag) (s : Slot) (t : Value) : Prop := ∀ v H, s.P v H → TyX K H v t
theorem ty_int (i : Int) : TyS K (vS (.int i)) (.type "int") := fun v H h => by obtain rfl : v = .int i := h; exact .base (.int i)
theorem ty_bl (i : Bool) : TyS K (vS (.bl i)) (.type "bool") := fun v H h => by obtain rfl : v = .bl i := h; exact .base (.bl i)
theorem ty_str (i : Str) : TyS K (vS (.str i)) (.type "str") := fun v H h => by obtain rfl : v = .str i := h; exact .base (.str i)
theorem ty_non : TyS K (vS .non) (.type "NoneType") := fun v H h => by obtain rfl : v = .non := h; exact .base .non
theorem ty_lst : TyS K (lstS ss) (.type "list") := fun v H p => by
  obtain ⟨a, us, rfl, hl, hp⟩ := p
  exact .base (.lst hl)
theorem ty_tup : TyS K (tupS K ss) (.type "tuple") := fun v H p => by
  obtain ⟨a, us, rfl, hl, hp⟩ := p
  rcases hl with (hl | ⟨o, hl⟩) | ⟨o, its, n, hl, hc, _⟩
  · exact .base (.tup hl)
  · exact .fTuple hl
  · exact .kTuple hl hc
theorem C_isi {s : Slot} {t u : Value} {c : V} {b : Bool} (hs : TyS K s t) (hc : ClsV c u) (hk : PySem.W.kitOne K t u = some b) (k : Φ (vS (.bl b))) : C (rIsi K) [s, vS c] Φ := fun vs B H bb p Q q => by
  cases p with
  | cons h1 p => cases p with
    | cons h2 p =>
      cases p
      exact ⟨_, c, t, u, b, by rw [show _ = c from h2], hc, hs _ H (s.mono bb h1), hk, q _ _ B H (.refl bb) rfl k⟩
theorem C_isiT {s : Slot} {t : Value} {us : List Value} {cs : List V} {b : Bool} (hs : TyS K s t) (hc : Paired ClsV cs us) (hk : PySem.W.kitAny K t us = some b) (k : Φ (vS (.bl b))) : C (rIsiT K) [s, ⟨fun v H => ∃ a, v = .ref a ∧ H a = some (.tup cs), fun e ⟨a, h1, h2⟩ => ⟨a, h1, e _ _ h2⟩⟩] Φ := fun vs B H bb p Q q => by
  cases p with
  | cons h1 p => cases p with
    | cons h2 p =>
      cases p
      obtain ⟨a, rfl, ha⟩ := h2
      exact ⟨_, a, cs, t, us, b, rfl, bb _ _ ha, hc, hs _ H (s.mono bb h1), hk, q _ _ B H (.refl bb) rfl k⟩
/-- a written tuple of classes -/
theorem E_tupC {tr : TA} {cs : List V} (h : A tr Γ fun ss => ss = cs.map vS ∧ cs.length ≤ 1000 ∧ Φ ⟨fun v H => ∃ a, v = .ref a ∧ H a = some (.tup cs), fun e ⟨a, h1, h2⟩ => ⟨a, h1, e _ _ h2⟩⟩) : E (tTup tr) Γ Φ := fun σ B H b rl Q q =>
  h σ B H b rl _ fun ss vs B1 H1 st1 p1 ⟨e, hl, f⟩ => by
    subst e
    have ev : vs = cs := PSl.written p1
    subst ev
    exact ⟨Nat.le_trans hl (by decide), fun p hp => q ⟨fun v H => ∃ a, v = .ref a ∧ H a = some (.tup vs), fun e ⟨a, h1, h2⟩ => ⟨a, h1, e _ _ h2⟩⟩ (.ref p) (upd B1 p (.tup vs)) (upd H1 p (.tup vs)) (st1.trans (.new st1.inn hp)) ⟨p, rfl, upd_same⟩ f⟩
/-! texts -/
theorem C_strI {i : Int} (h : i.natAbs.log2 < 1920) (k : Φ (vS (.str (toString i)))) : C (fun xs H Q => ∃ i : Int, xs = [.int i] ∧ i.natAbs.log2 < 1920 ∧ Q (.str (toString i)) H) [vS (.int i)] Φ := fun vs B H b p Q q => by
  cases p with
  | cons h1 p =>
    cases p
    exact ⟨i, by rw [show _ = _ from h1], h, q _ _ B H (.refl b) rfl k⟩
theorem E_fmtI {te : TE} {i : Int} (h : E te Γ fun s => s = vS (.int i)) (hi : i.natAbs.log2 < 1920) (k : Φ (vS (.str (toString i)))) : E (tFmt te) Γ Φ := fun σ B H b rl Q q =>
  h σ B H b rl _ fun s v B1 H1 st p e => by
    subst e
    exact .inr ⟨i, p, hi, q _ _ B1 H1 st rfl k⟩
theorem E_fmtS {te : TE} (h : E te Γ fun s => ∃ x : Str, s = vS (.str x) ∧ x.length ≤ sizeLine ∧ Φ (vS (.str x))) : E (tFmt te) Γ Φ := fun σ B H b rl Q q =>
  h σ B H b rl _ fun s v B1 H1 st p ⟨x, e, hx, k⟩ => by
    subst e
    exact .inl ⟨x, p, hx, q _ _ B1 H1 st rfl k⟩
theorem R_cats {x y : Str} (h : x.length + y.length ≤ 100000) (k : Φ (vS (.str (x ++ y)))) : R (fun u v H Q => ∃ a b : Str, u = .str a ∧ v = .str b ∧ a.length + b.length ≤ sizeLine ∧ Q (.str (a ++ b)) H) (vS (.str x)) (vS (.str y)) Φ := fun u v B H b p1 p2 Q q =>
  ⟨x, y, p1, p2, Nat.le_trans h (by decide), q _ _ B H (.refl b) rfl k⟩
theorem E_fmt {te : TE} (h : E te Γ fun s => (∃ i : Int, s = vS (.int i) ∧ i.natAbs.log2 < 1920 ∧ Φ (vS (.str (toString i)))) ∨ (∃ x : Str, s = vS (.str x) ∧ x.length ≤ sizeLine ∧ Φ (vS (.str x)))) : E (tFmt te) Γ Φ := fun σ B H b rl Q q =>
  h σ B H b rl _ fun s v B1 H1 st p e => by
    rcases e with ⟨i, rfl, hi, k⟩ | ⟨x, rfl, hx, k⟩
    · exact .inr ⟨i, p, hi, q _ _ B1 H1 st rfl k⟩
    · exact .inl ⟨x, p, hx, q _ _ B1 H1 st rfl k⟩
def Js (ts : List TE) (acc : Str) (Γ : List Bd) (Φ : Str → Prop) : Prop := ∀ σ B H, Same B H → Rel σ B H Γ → ∀ Q : Str → Hp → Prop, (∀ s B' H', Step B H B' H' → Φ s → Q s H') → tJs ts acc σ H Q
theorem J_nil {acc : Str} {Φs : Str → Prop} (k : Φs acc) : Js [] acc Γ Φs := fun σ B H b rl Q q => q acc B H (.refl b) k
theorem J_cons {acc : Str} {t : TE} {ts : List TE} {Φs : Str → Prop} (h : E t Γ fun s => ∃ x : Str, s = vS (.str x) ∧ (acc ++ x).length ≤ 100000 ∧ Js ts (acc ++ x) Γ Φs) : Js (t :: ts) acc Γ Φs := fun σ B H b rl Q q =>
  h σ B H b rl _ fun s v B1 H1 st p ⟨x, e, hx, k⟩ => by
    subst e
    exact ⟨x, p, Nat.le_trans hx (by decide), k σ B1 H1 st.inn (rl.step st) Q fun s' B2 H2 st2 f => q s' B2 H2 (st.trans st2) f⟩
theorem E_joined {ts : List TE} (h : Js ts Str.empty Γ fun out => Φ (vS (.str out))) : E (fun σ H Q => tJs ts Str.empty σ H fun out H1 => Q (.str out) H1) Γ Φ := fun σ B H b rl Q q =>
  h σ B H b rl _ fun s B1 H1 st k => q _ _ B1 H1 st rfl k
end
end Ab

/-! AbE -/
namespace Ab
open PySem PySem.Spec PyProof.Rows L2

/-! ### methods, makers -/
theorem PFl.none_of {m : Str} : ∀ {fs : List (Str × V)} {gs : List (Str × Slot)} {H : Hp}, PFl fs gs H → gs.lookup m = none → fs.lookup m = none
  | _, _, _, .nil, _ => rfl
  | (f, v) :: fs, (g, s) :: gs, H, .cons ⟨e, _⟩ r, h => by
    dsimp only at e
    subst e
    rw [List.lookup_cons] at h ⊢
    cases q : m == f with
    | true => rw [q] at h; cases h
    | false => rw [q] at h; exact PFl.none_of r h
section
variable {K : PySem.W.Frag} {Γ : List Bd} {Φ : Slot → Prop} {ta : TE} {tr : TA} {Er : XK}
theorem E_meth {F : FS} {C : Addr} {m : Str} (h : E ta Γ fun s => ∃ gs, s = insS C gs ∧ gs.lookup m = none ∧ A tr Γ fun ss => F (s :: ss) Φ fun _ => False) : E (tMeth C m (spOf F) [] Er ta tr) Γ Φ := fun σ B H b rl Q q =>
  h σ B H b rl _ fun s v B1 H1 st p ⟨gs, e, hn, hA⟩ => by
    subst e
    obtain ⟨a, dx, fs, rfl, ha, hf⟩ := id p
    refine ⟨a, dx, fs, rfl, st.inn _ _ ha, hf.none_of hn, hA σ B1 H1 st.inn (rl.step st) _ fun ss vs B2 H2 st2 ps k => ?_⟩
    rw [List.append_nil]
    exact ⟨B2, insS C gs :: ss, Φ, fun _ => False, st2.inn, .cons ((insS C gs).mono st2.base p) ps, k, fun s v B' H' st3 p3 f => q s v B' H' ((st.trans st2).trans st3) p3 f, fun _ _ _ _ _ _ z => z.elim⟩
/-- a maker by slots: its arguments, what is wanted of the attributes, of what it raises -/
abbrev FI := List Slot → (List (Str × Slot) → Prop) → (Xs → Prop) → Prop
def spInit (C : Addr) (F : FI) : Sp := fun vs H Q Er => ∃ B x dx rest ss Φ Ψ, vs = .ref x :: rest ∧ H x = some (.ins C dx []) ∧ B x = none ∧ Same B H ∧ PSl rest ss B ∧ F ss Φ Ψ ∧
  (∀ gs fs B' H', Step B H B' H' → PFl fs gs B' → Φ gs → Q .non (upd H' x (.ins C dx fs))) ∧ (∀ e d B' H', Step B H B' H' → e.At d B' → Ψ e → Er (.ref e.C) d H')
theorem E_make {F : FI} {C : Addr} (h : A tr Γ fun ss => F ss (fun gs => Φ (insS C gs)) fun _ => False) : E (tMake C (spInit C F) [] Er tr) Γ Φ := fun σ B H b rl Q q =>
  h σ B H b rl _ fun ss vs B1 H1 st p k x dx hx hdx ne => by
    have hB : B1 x = none := st.inn.free hx
    have hBd : B1 dx = none := st.inn.free hdx
    have hd2 : upd (upd H1 dx (.own x)) x (.ins C dx []) dx = some (.own x) := by rw [upd_ne ne]; exact upd_same
    have s1 : Step B1 H1 (upd B1 dx (.own x)) (upd (upd H1 dx (.own x)) x (.ins C dx [])) := ⟨fun a o e => by
        by_cases ha : a = dx
        · subst ha; rw [upd_same] at e; cases e; exact hd2
        · rw [upd_ne ha] at e
          rw [upd_ne (ne_of_none e hB), upd_ne ha]
          exact st.inn _ _ e, fun a o e => by rw [upd_ne (ne_of_none e hBd)]; exact e, fun a h1 h2 => by
        have n1 : a ≠ dx := fun z => h2 (by rw [z]; exact hdx)
        have n2 : a ≠ x := fun z => h2 (by rw [z]; exact hx)
        rw [upd_ne n1, upd_ne n2, upd_ne n1]
        exact ⟨h1, rfl⟩⟩
    refine ⟨upd B1 dx (.own x), x, dx, vs, ss, _, _, by rw [List.append_nil], upd_same, by rw [upd_ne (fun z => ne z.symm)]; exact hB, s1.inn, p.mono s1.base, k, fun gs fs B' H' st' pf f => ⟨rfl, ?_⟩, fun _ _ _ _ _ _ z => z.elim⟩
    have s2 := st.trans s1
    obtain ⟨q1, q2⟩ := st'.out x (by rw [upd_ne (fun z => ne z.symm)]; exact hB) (by rw [upd_same]; simp)
    have sm : Same B' (upd B' x (.ins C dx fs)) := fun a o e => by rw [upd_ne (ne_of_none e q1)]; exact e
    refine q (insS C gs) (.ref x) (upd B' x (.ins C dx fs)) (upd H' x (.ins C dx fs)) ⟨fun a o e => ?_, (s2.base.trans st'.base).trans sm, fun a h1 h2 => ?_⟩ ⟨x, dx, fs, rfl, upd_same, pf.mono sm⟩ f
    · by_cases ha : a = x
      · subst ha; rw [upd_same] at e ⊢; exact e
      · rw [upd_ne ha] at e ⊢; exact st'.inn _ _ e
    · have h3 := st.out a h1 h2
      have n2 : a ≠ x := fun z => h2 (by
        cases qz : H x with
        | none => rw [z]; exact qz
        | some o => have := st.same b x o qz; rw [hx] at this; cases this)
      obtain ⟨p1, p2⟩ := s2.out a h1 h2
      obtain ⟨p3, p4⟩ := st'.out a p1 (by rw [p2]; exact h2)
      rw [upd_ne n2, upd_ne n2]
      exact ⟨p3, p4.trans p2⟩
end

/-! ### operators of an own class -/
section
variable {X : Cx} {CX : CXT} {n : Nat} {f C : Addr} {fd : FuncData} {ps : List Str} {sp : Sp}
theorem call_own {A : Around} {pins : List (Addr × Obj)} {σ : L2.St} {H : Hp} {s : Shared} {us : List Value} {vs : List V} {Q : VK} {Er : XK} (F : FnOk X.prog X.w X.K X.mg X.base CX n f fd ps sp) (hr : Room n A) (hfr : A.frames = X.A.frames) (hb : Binds X.K fd ps []) (hx : Passes CX X Er) (I : Inv X pins σ H s) (r : Vals vs us) (h : sp vs H Q Er) :
    wpAny (model X.prog X.w) A (call (.ref f) us) (EP X pins σ Q) X.xe s := by
  have e0 : Env0 X.prog X.w X.K X.mg X.base A X.stack s H := by
    have e := I.env0
    exact ⟨by rw [hfr]; exact e.frames, e.mod, e.bs, e.bsz, e.funs, e.frf, e.hok, e.bare⟩
  have hl := F.len _ _ _ _ h
  refine wpAny_call (codeAny_mono (F.run A X.stack s H ⟨us, []⟩ us vs Q Er hr e0 (by
    have := hb s us I.kIn (by rw [List.append_nil, ← r.length]; exact hl)
    simpa using this) r h) fun r s' hq => ?_)
  cases r with
  | error e => exact hx pins σ H s e s' I hq
  | ok fl =>
    cases fl with
    | ret u => exact I.after hq
    | next => exact False.elim hq
    | brk => exact False.elim hq
    | cont => exact False.elim hq
theorem cmpBack {pins : List (Addr × Obj)} {σ : L2.St} {Q : VK} {v : Value} {s : Shared} (h : EP X pins σ Q v s) : PySem.W.CmpBack (EP X pins σ Q) v s := by
  obtain ⟨x, H', I, r, q⟩ := id h
  cases v <;> first | exact h | skip
  case notImplemented =>
    cases x with
    | non => cases r
    | bl b => cases r
    | int i => obtain ⟨t, e⟩ := r; cases e
    | str i => obtain ⟨t, e⟩ := r; cases e
    | byt i => obtain ⟨t, e⟩ := r; cases e
    | flt i => obtain ⟨t, e⟩ := r; cases e
    | ref a => cases r
    | ty a => cases r
theorem rel_ty (n : String) : RelV (.ty n) (.type n) := rfl
theorem rel_ref (a : Addr) : RelV (.ref a) (.ref a) := rfl
/-- x op y, both of the class at C -/
def rOwnB (C : Addr) (sp : Sp) : R2 := fun x y H Q => ∃ a b dx dy fs gs, x = .ref a ∧ y = .ref b ∧ H a = some (.ins C dx fs) ∧ H b = some (.ins C dy gs) ∧ sp [x, y] H Q E0
theorem op_ownB {op : Operator} (F : FnOk X.prog X.w X.K X.mg X.base CX n f fd ps sp) (hr : Room n X.A) (hc : PySem.W.selfFirst X.K C = true) (hs : PySem.W.findIn X.K (.ref C) (PySem.dunder op.info.2) = some (some (.ref f))) (hf : PySem.W.isFn X.K (.ref f) = true)
    (hb : Binds X.K fd ps []) (hx : Passes CX X E0) : OpR X (binaryOp op) (rOwnB C sp) := by
  intro pins s σ H x y u v Q I rx ry h
  obtain ⟨a, b, dx, dy, fs, gs, rfl, rfl, ha, hb', hsp⟩ := h
  cases rx
  cases ry
  obtain ⟨mA, J, _⟩ := ins_get I.hok ha
  obtain ⟨mB, J', _⟩ := ins_get I.hok hb'
  obtain ⟨od, J, _⟩ := J.look
  obtain ⟨od', J', _⟩ := J'.look
  obtain ⟨m, hF⟩ := I.fr
  refine PySem.W.binop_K hF I.ok.mod.kin J J'.type hc hs hf ?_
  exact thn (call_own F hr rfl hb hx I (.cons (rel_ref a) (.cons (rel_ref b) .nil)) hsp) fun v s h => cmpBack h
/-- x == y, x of the class at C, y of the type t -/
def rOwnC (K : PySem.W.Frag) (C : Addr) (sp : Sp) : R2 := fun x y H Q => ∃ a dx fs t, x = .ref a ∧ H a = some (.ins C dx fs) ∧ TyX K H y t ∧ PySem.W.notFirst K C t = true ∧ sp [x, y] H Q E0
theorem op_ownEq (F : FnOk X.prog X.w X.K X.mg X.base CX n f fd ps sp) (hr : Room n X.A) (hs : PySem.W.findIn X.K (.ref C) "__eq__" = some (some (.ref f))) (hf : PySem.W.isFn X.K (.ref f) = true)
    (hb : Binds X.K fd ps []) (hx : Passes CX X E0) : OpR X (compareOp .Eq) (rOwnC X.K C sp) := by
  intro pins s σ H x y u v Q I rx ry h
  obtain ⟨a, dx, fs, t, rfl, ha, ty, hn, hsp⟩ := h
  cases rx
  obtain ⟨mA, J, _⟩ := ins_get I.hok ha
  obtain ⟨od, J, _⟩ := J.look
  obtain ⟨m, hF⟩ := I.fr
  obtain ⟨Pk, Z, p, _⟩ := kit_of I ry ty
  show wpAny (model X.prog X.w) X.A (richCompare .Eq (.ref a) v) _ _ s
  refine PySem.W.cmp_K (op := .Eq) (tb := t) hr.units0 hF I.ok.mod.kin J (Z.ty _ _ I.kIn p) hn hs hf ?_
  exact thn (call_own F hr rfl hb hx I (.cons (rel_ref a) (.cons ry .nil)) hsp) fun v s h => cmpBack h
/-- y in x, x of the class at C; its answer True or False -/
def rOwnIn (C : Addr) (sp : Sp) : R2 := fun y x H Q => ∃ a dx fs, x = .ref a ∧ H a = some (.ins C dx fs) ∧ sp [x, y] H (fun v H' => ∃ b, v = .bl b ∧ Q v H') E0
theorem op_ownIn (F : FnOk X.prog X.w X.K X.mg X.base CX n f fd ps sp) (hr : Room n X.A) (hs : PySem.W.findIn X.K (.ref C) "__contains__" = some (some (.ref f))) (hf : PySem.W.isFn X.K (.ref f) = true)
    (hb : Binds X.K fd ps []) (hx : Passes CX X E0) : OpR X (compareOp .In) (rOwnIn C sp) := by
  intro pins s σ H y x v u Q I ry rx h
  obtain ⟨a, dx, fs, rfl, ha, hsp⟩ := h
  cases rx
  obtain ⟨mA, J, _⟩ := ins_get I.hok ha
  obtain ⟨od, J, _⟩ := J.look
  obtain ⟨m, hF⟩ := I.fr
  refine PySem.W.in_K hF I.ok.mod.kin J hs hf ?_
  refine thn (call_own F hr rfl hb hx I (.cons (rel_ref a) (.cons ry .nil)) hsp) fun w s' h => ?_
  obtain ⟨z, H', I', r, b, e, q⟩ := h
  subst e
  cases r
  exact wpAny_truthy_bool ⟨.bl b, H', I', rfl, q⟩
/-- str(x), x of the class at C; its answer a text -/
def rOwnStr (C : Addr) (sp : Sp) : List V → Hp → VK → Prop := fun xs H Q => ∃ a dx fs, xs = [.ref a] ∧ H a = some (.ins C dx fs) ∧ sp [.ref a] H (fun v H' => ∃ b, v = .str b ∧ Q v H') E0
theorem call_ownStr (F : FnOk X.prog X.w X.K X.mg X.base CX n f fd ps sp) (hr : Room (n + 2) X.A) (hs : PySem.W.findIn X.K (.ref C) "__str__" = some (some (.ref f))) (hf : PySem.W.isFn X.K (.ref f) = true)
    (hb : Binds X.K fd ps []) (hx : Passes CX X E0) : CallR X (.type "str") (rOwnStr C sp) := by
  intro pins s σ H xs us Q I r h
  obtain ⟨a, dx, fs, rfl, ha, hsp⟩ := h
  cases r with
  | cons r1 r2 =>
    cases r1
    cases r2
    obtain ⟨mA, J, _⟩ := ins_get I.hok ha
    obtain ⟨od, J, _⟩ := J.look
    have hr2 : Room n X.A.in1.in1 := (hr.in1).in1
    refine PySem.W.kso_call hr2.units0 I.kIn J hs hf ?_
    refine thn (call_own F hr2 rfl hb hx I (.cons (rel_ref a) .nil) hsp) fun w s' h => ?_
    obtain ⟨z, H', I', r, b, e, q⟩ := h
    subst e
    obtain ⟨t, rfl⟩ := r
    exact ⟨.str b, H', I', ⟨t, rfl⟩, q⟩
end
section
variable {K : PySem.W.Frag} {Φ : Slot → Prop} {F : FS} {C : Addr} {gs hs : List (Str × Slot)}
theorem sp_run {F : FS} {vs : List V} {ss : List Slot} {B H : Hp} {Er : XK} {Q : VK} {Φ : Slot → Prop} (b : Same B H) (p : PSl vs ss B) (h : F ss Φ fun _ => False) (q : ∀ s v B' H', Step B H B' H' → s.P v B' → Φ s → Q v H') : spOf F vs H Q Er :=
  ⟨B, ss, Φ, fun _ => False, b, p, h, q, fun _ _ _ _ _ _ z => z.elim⟩
theorem R_ownB {s t : Slot} (h1 : s = insS C gs) (h2 : t = insS C hs) (h : F [s, t] Φ fun _ => False) : R (rOwnB C (spOf F)) s t Φ := fun x y B H b p1 p2 Q q => by
  subst h1 h2
  obtain ⟨a, dx, fs, rfl, ha, hf⟩ := id p1
  obtain ⟨a2, dy, fs2, rfl, ha2, hf2⟩ := id p2
  exact ⟨a, a2, dx, dy, fs, fs2, rfl, rfl, b _ _ ha, b _ _ ha2, sp_run b (.cons p1 (.cons p2 .nil)) h q⟩
theorem R_ownC {s t : Slot} {ty : Value} (h1 : s = insS C gs) (h2 : TyS K t ty) (h3 : PySem.W.notFirst K C ty = true) (h : F [s, t] Φ fun _ => False) : R (rOwnC K C (spOf F)) s t Φ := fun x y B H b p1 p2 Q q => by
  subst h1
  obtain ⟨a, dx, fs, rfl, ha, hf⟩ := id p1
  exact ⟨a, dx, fs, ty, rfl, b _ _ ha, h2 _ _ (t.mono b p2), h3, sp_run b (.cons p1 (.cons p2 .nil)) h q⟩
theorem R_ownIn {s t : Slot} (h1 : s = insS C gs) (h : F [s, t] (fun r => ∃ b, r = vS (.bl b) ∧ Φ r) fun _ => False) : R (rOwnIn C (spOf F)) t s Φ := fun y x B H b p2 p1 Q q => by
  subst h1
  obtain ⟨a, dx, fs, rfl, ha, hf⟩ := id p1
  refine ⟨a, dx, fs, rfl, b _ _ ha, sp_run b (.cons p1 (.cons p2 .nil)) h fun r v B' H' st pr k => ?_⟩
  obtain ⟨c, rfl, k⟩ := k
  exact ⟨c, pr, q _ _ B' H' st pr k⟩
theorem C_ownStr {s : Slot} (h1 : s = insS C gs) (h : F [s] (fun r => ∃ b, r = vS (.str b) ∧ Φ r) fun _ => False) : Ab.C (rOwnStr C (spOf F)) [s] Φ := fun vs B H b p Q q => by
  subst h1
  cases p with
  | cons p1 p =>
    cases p
    obtain ⟨a, dx, fs, rfl, ha, hf⟩ := id p1
    refine ⟨a, dx, fs, rfl, b _ _ ha, sp_run b (.cons p1 .nil) h fun r v B' H' st pr k => ?_⟩
    obtain ⟨c, rfl, k⟩ := k
    exact ⟨c, pr, q _ _ B' H' st pr k⟩
end
end Ab

/-! AbF -/
namespace Ab
open PySem PySem.Spec PyProof.Rows L2
theorem R_eqI {i j : Int} {Φ : Slot → Prop} (k : Φ (vS (.bl (decide (i = j))))) : R rEq (vS (.int i)) (vS (.int j)) Φ := R_eq rfl (by
  have e : decide (V.int i = V.int j) = decide (i = j) := by
    by_cases h : i = j
    · subst h; simp
    · rw [decide_eq_false h, decide_eq_false]; intro z; exact h (V.int.inj z)
  rw [e]; exact k)
theorem atI0 {α : Type} (s : α) (ss : List α) : L2.atI (s :: ss) 0 = some s := L2.atI_nat (j := 0) rfl
theorem R_ixL0 {K : PySem.W.Frag} {s : Slot} {ss : List Slot} {Φ : Slot → Prop} (k : Φ s) : R (rIxL K) (lstS (s :: ss)) (vS (.int 0)) Φ := R_ixL (atI0 s ss) k
theorem R_eqSame {v : V} {Φ : Slot → Prop} (hs : scal v v = true) (k : Φ (vS (.bl true))) : R rEq (vS v) (vS v) Φ := R_eq hs (by rw [decide_eq_true rfl]; exact k)
theorem R_neSame {v : V} {Φ : Slot → Prop} (hs : scal v v = true) (k : Φ (vS (.bl false))) : R rNe (vS v) (vS v) Φ := R_ne hs (by rw [decide_eq_true rfl]; exact k)
theorem R_eqDs {K : PySem.W.Frag} {s : Slot} {d : PyData} {Φ : Slot → Prop} (hs : DpS K s d) (h1 : SeqAt.shaped d = true) (h2 : d.canLay0 = true) (k : Φ (vS (.bl true))) : R (rEqD K) s s Φ := R_eqD hs hs h1 h1 (by
  rw [SeqAt.eqv_refl _ h2]; exact k)
theorem R_eqS {x y : Str} {Φ : Slot → Prop} (k : Φ (vS (.bl (decide (x = y))))) : R rEq (vS (.str x)) (vS (.str y)) Φ := R_eq rfl (by
  have e : decide (V.str x = V.str y) = decide (x = y) := by
    by_cases h : x = y
    · subst h; simp
    · rw [decide_eq_false h, decide_eq_false]; intro z; exact h (V.str.inj z)
  rw [e]; exact k)
theorem R_neS {x y : Str} {Φ : Slot → Prop} (k : Φ (vS (.bl (!decide (x = y))))) : R rNe (vS (.str x)) (vS (.str y)) Φ := R_ne rfl (by
  have e : decide (V.str x = V.str y) = decide (x = y) := by
    by_cases h : x = y
    · subst h; simp
    · rw [decide_eq_false h, decide_eq_false]; intro z; exact h (V.str.inj z)
  rw [e]; exact k)
theorem C_intB {b : Bool} {Φ : Slot → Prop} (k : Φ (vS (.int (if b then 1 else 0)))) : C (fun xs H Q => (∃ i : Int, xs = [.int i] ∧ Q (.int i) H) ∨ (∃ k : Bool, xs = [.bl k] ∧ Q (.int (if k then 1 else 0)) H)) [vS (.bl b)] Φ := fun vs B H b' p Q q => by
  cases p with
  | cons h1 p =>
    cases p
    exact .inr ⟨b, by rw [show _ = _ from h1], q _ _ B H (.refl b') rfl k⟩
theorem spl {p : Prop} [Decidable p] {A B : Prop} (h1 : p → A) (h2 : ¬ p → B) : (decide p = true → A) ∧ (decide p = false → B) := ⟨fun h => h1 (of_decide_eq_true h), fun h => h2 (of_decide_eq_false h)⟩
theorem splN {p : Prop} [Decidable p] {A B : Prop} (h1 : ¬ p → A) (h2 : p → B) : ((!decide p) = true → A) ∧ ((!decide p) = false → B) := ⟨fun h => h1 (by simpa using h), fun h => h2 (by simpa using h)⟩
theorem splT {A B : Prop} (h1 : A) : (true = true → A) ∧ (true = false → B) := ⟨fun _ => h1, fun h => (nomatch h)⟩
theorem splF {A B : Prop} (h1 : B) : (false = true → A) ∧ (false = false → B) := ⟨fun h => (nomatch h), fun _ => h1⟩
theorem spl2 {b : Bool} {A B : Prop} (h1 : b = true → A) (h2 : b = false → B) : (b = true → A) ∧ (b = false → B) := ⟨h1, h2⟩
theorem len_ok {n m : Nat} {A : Prop} (k : A) (h : n.ble m = true := by rfl) : n ≤ m ∧ A := ⟨Nat.le_of_ble_eq_true h, k⟩
section
variable {P : Program} {w : World} {K : PySem.W.Frag} {mg : Str → Option Value} {base : Heap} {x qual : Str} {params : Arguments} {body : List Stmt} {scope : Scope} {dvs : List V} {kws : List (Str × V)} {f : Addr} {fd : FuncData}
/-- a def with defaults that raises nothing -/
theorem _root_.L2.FunD.ok0 {N ps : List Str} {k : Nat} {F : FS} (Fn : FunD K x qual params body scope dvs kws f fd) (Sc : FnScope N ps scope) (len : ∀ ss Φ Ψ, F ss Φ Ψ → ss.length = ps.length)
    (hb : ∀ (cdv : Value) (Ar : Around) (outer : List Env) (s : Shared) (H : Hp) (Er : XK), Room k (Ar.deeper (envOfC qual scope s.heap.objs.size f cdv)) →
      ∃ t, PSs (cxOf CX0 P w K mg base N qual scope f cdv Ar outer s H Er).nox body t ∧ ∀ ss Φ Ψ, F ss Φ Ψ → S t (entry N ss) { nx := fun _ => Φ (vS .non), rt := fun s _ => Φ s, bk := fun _ => False, ct := fun _ => False }) : FnOk P w K mg base CX0 (k + 1) f fd ps (spOf F) := by
  refine Fn.ok Sc (fun vs H Q Er h => ?_) (fun cdv Ar outer s H vs Q Er hr h => ?_)
  · obtain ⟨B, ss, Φ, Ψ, b, p, hf, _⟩ := h
    rw [p.length, len ss Φ Ψ hf]
  · obtain ⟨t, ht, hs⟩ := hb cdv Ar outer s H Er hr
    obtain ⟨B, ss, Φ, Ψ, b, p, hf, k1, k2⟩ := h
    exact ⟨t, ht.nox, hs ss Φ Ψ hf B H _ _ B H ⟨fun Γ σ B' H' a q => k1 _ .non B' H' a.to rfl q, fun s v Γ σ B' H' a pv q => k1 s v B' H' a.to pv q, fun _ _ _ _ _ z => z.elim, fun _ _ _ _ _ z => z.elim, fun _ _ _ _ _ _ _ _ z => z.elim⟩ (at_entry b p)⟩
end
end Ab

/-! AbX -/
namespace Ab
open PySem PySem.Spec PyProof.Rows L2

/-- the maker of an own exception class that stores its arguments: mk tells the attributes, the last one stored first -/
def spXI (K : PySem.W.Frag) (names : List Str) (n : Nat) (mk : List V → List (Str × V)) : Sp := fun vs H Q _ => ∃ a C args, vs = .ref a :: args ∧ args.length = n ∧ OexC K C ∧ (∀ f ∈ names, PySem.W.findIn K (.ref C) f = some none) ∧ H a = some (exo a C none) ∧
  ∀ dx H', H dx = none → dx ≠ a → H' a = some (exo a C (some dx)) → H' dx = some (exd dx (mk args)) → (∀ b, b ≠ a → b ≠ dx → H' b = H b) → Q .non H'
theorem S_raise {C : Addr} {K : PySem.W.Frag} {names : List Str} {n : Nat} {mk : List V → List (Str × V)} {mkS : List Slot → List (Str × Slot)} {ta : TA} {Γ : List Bd} {Φ : Ks} (T : OexC K C) (hn : ∀ f ∈ names, PySem.W.findIn K (.ref C) f = some none)
    (hm : ∀ vs ss H, PSl vs ss H → PFl (mk vs) (mkS ss) H) (h : A ta Γ fun ss => ss.length = n ∧ n ≤ 900 ∧ Φ.ex ⟨C, mkS ss⟩) : S (fun _ σ H => tMkO C (spXI K names n mk) [] ta σ H fun cls d H' => Φ.er cls d H') Γ Φ := fun B0 H0 D σ B H d at0 =>
  h σ B H at0.inn at0.rel _ fun ss vs B1 H1 st p ⟨hl, hn9, k⟩ => by
    have hv : vs.length = n := p.length.trans hl
    refine ⟨by omega, fun a ha => ⟨a, C, vs, by rw [List.append_nil], hv, T, hn, upd_same, fun dx H' hdx hne e1 e2 e3 => ⟨rfl, dx, mk vs, e1, e2, ?_, ?_⟩⟩⟩
    · rw [upd_ne hne] at hdx; exact hdx
    · have hdx' : H1 dx = none := by rw [upd_ne hne] at hdx; exact hdx
      have eH : upd (del H' a) dx (.xd (mk vs)) = upd H1 dx (.xd (mk vs)) := by
        funext b
        by_cases hb : b = dx
        · subst hb; rw [upd_same, upd_same]
        · rw [upd_ne hb, upd_ne hb]
          by_cases hb2 : b = a
          · subst hb2; rw [del_same, ha]
          · rw [del_ne hb2, e3 b hb2 hb, upd_ne hb2]
      rw [eH]
      have st2 := Step.new (o := .xd (mk vs)) st.inn hdx'
      exact d.ex ⟨C, mkS ss⟩ (some dx) Γ σ _ _ ((at0.step st).step st2) ⟨dx, mk vs, rfl, upd_same, (hm _ _ _ p).mono st2.base⟩ k
end Ab

/-! AbG -/
namespace Ab
open PySem PySem.Spec PyProof.Rows L2

/-! ### a list of the def's own: reading, writing -/
section
variable {K : PySem.W.Frag} {Γ : List Bd} {Φ : Slot → Prop} {ti te : TE} {ss : List Slot} {p : Addr} {i : Nat}
theorem E_ixOwn (hi : Γ[i]? = some (.own p ss)) (h : E ti Γ fun si => ∃ k s s', si = vS (.int k) ∧ L2.atI ss k = some s ∧ (∀ v H, s.P v H → s'.P v H) ∧ Φ s') : E (tOp (rIxL K) (tVar i) ti) Γ Φ := fun σ B H b r Q q => by
  obtain ⟨e, hb, vs, hp, ps⟩ := r.own i p ss hi
  refine ⟨_, e, h σ B H b r _ fun si y B1 H1 st py hk => ?_⟩
  obtain ⟨k, s, s', rfl, ek, hw, hk⟩ := hk
  obtain ⟨v, ev, pv⟩ := (ps.mono st.base).atI ek
  obtain ⟨_, h1⟩ := st.out p hb (by rw [hp]; simp)
  exact ⟨p, vs, k, v, rfl, py, .inl (.inl (h1.trans hp)), ev, q s' v B1 H1 st (hw _ _ pv) hk⟩
theorem S_setOwn {Φk : Ks} (hi : Γ[i]? = some (.own p ss)) (h : E te Γ fun s => E ti Γ fun si => ∃ k j, si = vS (.int k) ∧ ixN ss.length k = some j ∧ Φk.nx (Γ.set i (.own p (ss.set j s)))) : S (tAsg te (gSub (tVar i) ti rSetL)) Γ Φk := fun B0 H0 D σ B H d a => by
  refine h σ B H a.inn a.rel _ fun s v B1 H1 st pv h1 => ?_
  have a1 := a.step st
  obtain ⟨e, hb, vs, hp, ps⟩ := a1.rel.own i p ss hi
  refine ⟨_, e, h1 σ B1 H1 a1.inn a1.rel _ fun si y B2 H2 st2 py hk => ?_⟩
  obtain ⟨k, j, rfl, ej, hk⟩ := hk
  obtain ⟨hb2, hp2⟩ := st2.out p hb (by rw [hp]; simp)
  have a2 := a1.step st2
  have hset : ∀ {vs : List V} {ss : List Slot} {j : Nat} {v : V} {s : Slot} {B : Hp}, PSl vs ss B → s.P v B → PSl (vs.set j v) (ss.set j s) B := by
    intro vs ss j v s B p0 q0
    induction p0 generalizing j with
    | nil => exact .nil
    | cons r t ih =>
      cases j with
      | zero => exact .cons q0 t
      | succ j => exact .cons r ih
  have ps2 := hset (j := j) (ps.mono st2.base) (s.mono st2.base pv)
  refine ⟨p, vs, k, j, rfl, py, hp2.trans hp, by rw [ps.length]; exact ej, d.nx _ _ B2 _ ⟨a2.rel.write hi ps2, ?_, a2.base, ?_, ?_⟩ hk⟩
  · intro c o ec
    rw [upd_ne (ne_of_none ec hb2)]
    exact a2.inn _ _ ec
  · intro c h1 h2
    obtain ⟨q1, q2⟩ := a2.out c h1 h2
    have hm := a2.mine i p ss hi
    exact ⟨q1, by rw [upd_ne (fun z => h2 (by rw [z]; exact hm))]; exact q2⟩
  · intro c p' ss' hc
    rcases getElem?_set_some hc with ⟨rfl, e', _⟩ | ⟨_, hc⟩
    · cases e'
      exact a2.mine _ _ _ hi
    · exact a2.mine _ _ _ hc
end
/-! ### a list lent to the defs that write it -/
/-- the list at b, its items told by Y -/
def lentO (b : Addr) (Y : List V → Prop) : HO := .ext fun h => ∃ (xs : List V) (its : List Value) (n : Nat), Y xs ∧ xs.length ≤ sizeLine ∧ Vals xs its ∧ h.get? b = some { cls := .type "list", data := .seq its.toArray n }
theorem lent_ok {P : Program} {w : World} {H : Hp} {h : Heap} {b : Addr} {Y : List V → Prop} {xs : List V} (x : ObjOk P w H h b (.lst xs)) (y : Y xs) : ObjOk P w H h b (lentO b Y) := by
  obtain ⟨z, its, n, r, e⟩ := x
  exact ⟨⟨xs, its, n, y, z, r, e⟩, ⟨_, e⟩, fun h1 h2 ⟨xs, its, n, y, z, r, e⟩ k => ⟨xs, its, n, y, z, r, k _ e⟩⟩
theorem lent_get {P : Program} {w : World} {H H' : Hp} {h : Heap} {b : Addr} {Y : List V → Prop} (x : ObjOk P w H h b (lentO b Y)) : ∃ xs, Y xs ∧ ObjOk P w H' h b (.lst xs) := by
  obtain ⟨⟨xs, its, n, y, z, r, e⟩, _⟩ := x
  exact ⟨xs, y, z, its, n, r, e⟩
/-- neither a dict of an instance nor a tuple, nor frozen, nor a table -/
def Lsh (H : Hp) (b : Addr) : Prop := (∀ x, H b ≠ some (.own x)) ∧ (∀ xs, H b ≠ some (.tup xs)) ∧ (∀ o u, H b ≠ some (.frz o u)) ∧ ∀ ps, H b ≠ some (.tbl ps)
theorem lsh_lent {H : Hp} {b : Addr} {Y : List V → Prop} (h : H b = some (lentO b Y)) : Lsh H b := by
  unfold lentO at h
  unfold Lsh
  rw [h]
  refine ⟨fun x z => ?_, fun x z => ?_, fun x u z => ?_, fun x z => ?_⟩ <;> (injection z with z; cases z)
theorem lsh_lst {H : Hp} {b : Addr} {xs : List V} (h : H b = some (.lst xs)) : Lsh H b := by
  unfold Lsh
  rw [h]
  refine ⟨fun x z => ?_, fun x z => ?_, fun x u z => ?_, fun x z => ?_⟩ <;> (injection z with z; cases z)
theorem hok_at {P : Program} {w : World} {H : Hp} {h : Heap} {b : Addr} {o : HO} (x : HOk P w H h) (hb : Lsh H b) (hn : ObjOk P w (upd H b o) h b o) : HOk P w (upd H b o) h := fun a u e => by
  by_cases ha : a = b
  · subst ha; rw [upd_same] at e; cases e; exact hn
  · rw [upd_ne ha] at e
    refine (x a u e).stay (fun _ _ _ q => q) (fun c q => ?_) (fun c xs q => ?_)
    · rw [upd_ne (fun z => hb.1 a (by rw [← z]; exact q))]; exact q
    · rw [upd_ne (fun z => hb.2.1 xs (by rw [← z]; exact q))]; exact q
theorem un_at {fs : List Addr} {H H' : Hp} {h h' : Heap} {b : Addr} {o o' : HO} {u : HO} (hb : H b = some u) (l : Lsh H b) (x : Un fs [] (upd H b o) H' h h') : Un fs [] H (upd H' b o') h h' where
  keep := fun c ob e n hf hx => x.keep c ob e (by rw [upd_ne (fun z => by rw [z, hb] at n; cases n)]; exact n) hf hx
  slot := fun c ob e n hf hx => x.slot c ob e (by rw [upd_ne (fun z => by rw [z, hb] at n; cases n)]; exact n) hf hx
  free := fun c ob e n hx => by
    have hc : c ≠ b := fun z => by rw [z, hb] at n; cases n
    rw [upd_ne hc]
    exact x.free c ob e (by rw [upd_ne hc]; exact n) hx
  there := x.there
  tups := fun c xs e => by
    have hc : c ≠ b := fun z => l.2.1 xs (by rw [← z]; exact e)
    rw [upd_ne hc]
    exact x.tups c xs (by rw [upd_ne hc]; exact e)
  frzs := fun c ob v e => by
    have hc : c ≠ b := fun z => l.2.2.1 ob v (by rw [← z]; exact e)
    rw [upd_ne hc]
    exact x.frzs c ob v (by rw [upd_ne hc]; exact e)
  tbls := fun c ps e => by
    have hc : c ≠ b := fun z => l.2.2.2 ps (by rw [← z]; exact e)
    rw [upd_ne hc]
    exact x.tbls c ps (by rw [upd_ne hc]; exact e)
theorem Step.gain {B H H' : Hp} (b : Same B H) (s : Same H H') : Step B H B H' := ⟨b.trans s, Same.refl _, fun a h1 h2 => ⟨h1, by
  cases q : H a with
  | none => exact absurd q h2
  | some o => exact s _ _ q⟩⟩
section
variable {P : Program} {w : World} {K : PySem.W.Frag} {mg : Str → Option Value} {base : Heap} {k : Nat} {f : Addr} {fd : FuncData} {ps : List Str}
/-- what a def that writes the list at b (its first argument) promises: the arguments behind it, how the list's items are told ahead and behind, what is told of its value -/
def spWr (Y : Addr → List V → Prop) (Z : Hp → Addr → List V → Prop) (R : List V → V → Prop) : Sp := fun vs H Q _ => ∃ b cl xs rest, vs = .ref b :: rest ∧ H b = some (.lst xs) ∧ Y cl xs ∧ cl ≠ b ∧ Z H cl rest ∧
  ∀ r ys H', R rest r → Y cl ys → H' b = some (.lst ys) → (∀ a o, a ≠ b → H a = some o → H' a = some o) → Q r H'
/-- .. where the list is lent -/
def spLn (Y : Addr → List V → Prop) (Z : Hp → Addr → List V → Prop) (R : List V → V → Prop) : Sp := fun vs H Q _ => ∃ b cl rest, vs = .ref b :: rest ∧ H b = some (lentO b (Y cl)) ∧ Z H cl rest ∧ cl ≠ b ∧
  ∀ r H', R rest r → Same H H' → Q r H'
theorem ok_lent {Y : Addr → List V → Prop} {Z : Hp → Addr → List V → Prop} {R : List V → V → Prop} (hZ : ∀ H b o cl rest, cl ≠ b → Z H cl rest → Z (upd H b o) cl rest) (F : FnOk P w K mg base CX0 k f fd ps (spWr Y Z R)) (hl : ∀ H cl rest, Z H cl rest → rest.length + 1 = ps.length) : FnOk P w K mg base CX0 k f fd ps (spLn Y Z R) := by
  refine ⟨fun vs H Q E ⟨b, cl, rest, e, _, z, _⟩ => by rw [e]; exact hl _ _ _ z, fun A outer s H args us vs Q E hr e0 hb r h => ?_⟩
  obtain ⟨b, cl, rest, rfl, hbo, z, hne, q⟩ := h
  obtain ⟨xs, y, ox⟩ := lent_get (H' := upd H b (.lst [])) (e0.hok b _ hbo)
  have ox' : ObjOk P w (upd H b (.lst xs)) s.heap b (.lst xs) := ox
  have e1 : Env0 P w K mg base A outer s (upd H b (.lst xs)) := ⟨e0.frames, e0.mod, fun c o e => ?_, e0.bsz, e0.funs, fun c hc => ?_, hok_at e0.hok (lsh_lent hbo) ox', e0.bare⟩
  · refine codeAny_mono (F.run A outer s (upd H b (.lst xs)) args us _ (fun v H' => ∃ ys, Y cl ys ∧ H' b = some (.lst ys) ∧ Q v (upd H' b (lentO b (Y cl)))) E hr e1 hb r ⟨b, cl, xs, rest, rfl, upd_same, y, hne, hZ _ _ _ _ _ hne z, fun v ys H' hv hy hys hs => ⟨ys, hy, hys, q v _ hv fun c o e => ?_⟩⟩) fun res s' hq => ?_
    · by_cases hc : c = b
      · subst hc; rw [upd_same]; rw [hbo] at e; exact e
      · rw [upd_ne hc]; exact hs c o hc (by rw [upd_ne hc]; exact e)
    · cases res with
      | error e => exact hq.elim
      | ok fl =>
        cases fl with
        | ret u =>
          obtain ⟨v, H', h1, h2, h3, h4, h5, ys, hy, hys, h6⟩ := hq
          exact ⟨v, upd H' b (lentO b (Y cl)), h1, h2, un_at hbo (lsh_lent hbo) h3, hok_at h4 (lsh_lst hys) (lent_ok (show ObjOk P w (upd H' b (lentO b (Y cl))) s'.heap b (.lst ys) from h4 b _ hys) hy), h5, h6⟩
        | next => exact hq.elim
        | brk => exact hq.elim
        | cont => exact hq.elim
  · obtain ⟨p1, p2⟩ := e0.bs c o e
    exact ⟨p1, by rw [upd_ne (fun z => by rw [z, hbo] at p2; cases p2)]; exact p2⟩
  · have p2 := e0.frf c hc
    rw [upd_ne (fun z => by rw [z, hbo] at p2; cases p2)]; exact p2
/-- a def that makes a list and gives it: it is lent -/
def spNew (Y : Addr → List V → Prop) (Z : Hp → List V → Prop) (W : Hp → Addr → Prop) : Sp := fun vs H Q _ => ∃ B, Same B H ∧ Z B vs ∧ ∀ b cl ys B' H', H b = none → H' b = some (.lst ys) → Y cl ys → B' b = none → W B' cl → Step B H B' H' → Q (.ref b) H'
def spNl (Y : Addr → List V → Prop) (Z : Hp → List V → Prop) (W : Hp → Addr → Prop) : Sp := fun vs H Q _ => ∃ B, Same B H ∧ Z B vs ∧ ∀ b cl B' H', H b = none → H' b = some (lentO b (Y cl)) → W B' cl → Step B H B' H' → B' b = some (lentO b (Y cl)) → Q (.ref b) H'
theorem Step.lend {B H B' H' : Hp} {b : Addr} {o : HO} (st : Step B H B' H') (hb : H b = none) (hb' : B' b = none) (bs : Same B H) : Step B H (upd B' b o) (upd H' b o) :=
  ⟨fun a u e => by
    by_cases ha : a = b
    · subst ha; rw [upd_same] at e ⊢; exact e
    · rw [upd_ne ha] at e ⊢; exact st.inn _ _ e, fun a u e => by
    rw [upd_ne (ne_of_none (bs _ _ e) hb)]; exact st.base _ _ e, fun a h1 h2 => by
    have ha : a ≠ b := fun z => h2 (by rw [z]; exact hb)
    rw [upd_ne ha, upd_ne ha]; exact st.out a h1 h2⟩
theorem ok_newl {Y : Addr → List V → Prop} {Z : Hp → List V → Prop} {W : Hp → Addr → Prop} (hW : ∀ H b o cl, H b = none → W H cl → W (upd H b o) cl) (F : FnOk P w K mg base CX0 k f fd ps (spNew Y Z W)) : FnOk P w K mg base CX0 k f fd ps (spNl Y Z W) := by
  refine ⟨fun vs H Q E ⟨B, bs, z, _⟩ => F.len vs H (fun _ _ => True) E ⟨B, bs, z, fun _ _ _ _ _ _ _ _ _ _ _ => trivial⟩, fun A outer s H args us vs Q E hr e0 hb r h => ?_⟩
  obtain ⟨B, bs, z, q⟩ := h
  refine codeAny_mono (F.run A outer s H args us _ (fun v H' => ∃ b cl ys, v = .ref b ∧ H b = none ∧ H' b = some (.lst ys) ∧ Y cl ys ∧ Q v (upd H' b (lentO b (Y cl)))) E hr e0 hb r ⟨B, bs, z, fun b cl ys B' H' h1 h2 h3 h4 h5 h6 => ⟨b, cl, ys, rfl, h1, h2, h3, q b cl (upd B' b (lentO b (Y cl))) _ h1 upd_same (hW _ _ _ _ h4 h5) (h6.lend h1 h4 bs) upd_same⟩⟩) fun res s' hq => ?_
  cases res with
  | error e => exact hq.elim
  | ok fl =>
    cases fl with
    | ret u =>
      obtain ⟨v, H', h1, h2, h3, h4, h5, b, cl, ys, rfl, g1, g2, g3, h6⟩ := hq
      refine ⟨_, upd H' b (lentO b (Y cl)), h1, h2, ?_, hok_at h4 (lsh_lst g2) (lent_ok (show ObjOk P w (upd H' b (lentO b (Y cl))) s'.heap b (.lst ys) from h4 b _ g2) g3), h5, h6⟩
      exact ⟨h3.keep, h3.slot, fun c ob e n hx => by
        have m := h3.free c ob e n hx
        rw [upd_ne (fun z => by rw [z, g2] at m; cases m)]; exact m, h3.there, fun c xs e => by
        have m := h3.tups c xs e
        rw [upd_ne (fun z => by rw [z, g2] at m; cases m)]; exact m, fun c ob u' e => by
        have m := h3.frzs c ob u' e
        rw [upd_ne (fun z => by rw [z, g2] at m; cases m)]; exact m, fun c ps' e => by
        obtain ⟨more, m⟩ := h3.tbls c ps' e
        exact ⟨more, by rw [upd_ne (fun z => by rw [z, g2] at m; cases m)]; exact m⟩⟩
    | next => exact hq.elim
    | brk => exact hq.elim
    | cont => exact hq.elim
end
/-! ### the script, its slice -/
/-- the script: a list of these values, known or tracked -/
def seqS (K : PySem.W.Frag) (xs : List V) : Slot := ⟨fun v H => ∃ a, v = .ref a ∧ SqL K H a xs, fun e ⟨a, h1, h2⟩ => ⟨a, h1, by
  rcases h2 with (h | ⟨o, h⟩) | h
  · exact .inl (.inl (e _ _ h))
  · exact .inl (.inr ⟨o, e _ _ h⟩)
  · exact .inr h⟩⟩
theorem cut63 (xs : List V) : cutV xs none (some 63) = xs.take 63 := by
  unfold cutV
  simp [HT.sIx]
theorem E_cut {K : PySem.W.Frag} {Γ : List Bd} {Φ : Slot → Prop} {te : TE} (h : E te Γ fun s => ∃ xs : List V, s = seqS K xs ∧ xs.length ≤ 63 ∧ Φ (lstS (xs.map vS))) : E (tSl (rSlL K) te tNoPart (tPart (tC (.int 63)))) Γ Φ := fun σ B H b r Q q => by
  refine h σ B H b r _ fun s v B1 H1 st pv h1 => ?_
  obtain ⟨xs, rfl, hl, h1⟩ := h1
  obtain ⟨a, rfl, ha⟩ := pv
  refine ⟨63, rfl, a, xs, rfl, ?_, fun p hp => ?_⟩
  · exact (seqS K xs).mono (v := .ref a) st.inn ⟨a, rfl, ha⟩ |>.elim fun a' ⟨e, h⟩ => by cases e; exact h
  · have e : cutV xs none (some 63) = xs := by rw [cut63, List.take_of_length_le hl]
    rw [e]
    have pw : ∀ (ys : List V) (B : Hp), PSl ys (ys.map vS) B := fun ys B => by
      induction ys with
      | nil => exact .nil
      | cons y ys ih => exact .cons rfl ih
    exact q (lstS (xs.map vS)) (.ref p) (upd B1 p (.lst xs)) _ (st.trans (.new st.inn hp)) ⟨p, xs, rfl, upd_same, pw _ _⟩ h1
/-! ### a def whose first argument is a list that it writes -/
def less (H : Hp) (b : Addr) : Hp := fun a => if a = b then none else H a
theorem less_at {H : Hp} {b : Addr} : less H b b = none := by unfold less; rw [if_pos rfl]
theorem less_ne {H : Hp} {a b : Addr} (h : a ≠ b) : less H b a = H a := by unfold less; rw [if_neg h]
theorem less_some {H : Hp} {a b : Addr} {o : HO} (h : less H b a = some o) : a ≠ b ∧ H a = some o := by
  by_cases e : a = b
  · rw [e, less_at] at h; cases h
  · rw [less_ne e] at h; exact ⟨e, h⟩
theorem entry_zero {N : List Str} {s : Slot} {ss : List Slot} : (entry N (s :: ss))[0]? = some (.pl s) := rfl
theorem enter_own {ts : TS} {N : List Str} {b : Addr} {vs xs : List V} {ss rest : List Slot} {H : Hp} {D : Ends} {Φ : Ks} (hHb : H b = some (.lst xs)) (px : PSl xs ss (less H b)) (pr : PSl vs rest (less H b))
    (hD : DOk (less H b) (less H b) D Φ) (hs : S ts ((entry N (vS (.ref b) :: rest)).set 0 (.own b ss)) Φ) : ts D (L2.start N (.ref b :: vs)) H := by
  have sm : Same (less H b) H := fun a o e => (less_some e).2
  have r0 := rel_entry (N := N) (H := H) (show PSl (.ref b :: vs) (vS (.ref b) :: rest) (less H b) from .cons rfl pr)
  refine hs _ _ D _ _ _ hD ⟨⟨?_, ?_, ?_, ?_⟩, sm, Same.refl _, fun a h1 h2 => absurd h1 h2, ?_⟩
  · rw [List.length_set]; exact r0.len
  · intro j s h
    rcases getElem?_set_some h with ⟨_, e, _⟩ | ⟨_, h⟩
    · cases e
    · exact r0.pl j s h
  · intro j p s h
    rcases getElem?_set_some h with ⟨rfl, e, _⟩ | ⟨_, h⟩
    · cases e
      obtain ⟨v, e1, e2⟩ := r0.pl 0 _ entry_zero
      obtain rfl : v = .ref b := e2
      exact ⟨e1, less_at, xs, hHb, px⟩
    · exact (entry_own h).elim
  · intro i j p s s' h1 h2
    rcases getElem?_set_some h1 with ⟨rfl, _, _⟩ | ⟨_, h⟩
    · rcases getElem?_set_some h2 with ⟨rfl, _, _⟩ | ⟨_, h⟩
      · rfl
      · exact (entry_own h).elim
    · exact (entry_own h).elim
  · intro i p s h
    rcases getElem?_set_some h with ⟨_, e, _⟩ | ⟨_, h⟩
    · cases e
      exact less_at
    · exact (entry_own h).elim
theorem At.wrote {B H' : Hp} {H : Hp} {b : Addr} {σ : L2.St} {Γ : List Bd} (a : At (less H b) (less H b) σ B H' Γ) {c : Addr} {o : HO} (hc : c ≠ b) (h : H c = some o) : H' c = some o :=
  a.inn _ _ (a.base _ _ (by rw [less_ne hc]; exact h))
/-- a def of two rows that gives a new list -/
theorem enter_new {t : TS} {tr : TA} {N : List Str} {vs : List V} {rest : List Slot} {B H : Hp} {D : Ends} (W : List Bd → Prop) (Wa : List Slot → Prop) (bs : Same B H) (pr : PSl vs rest B) (h : S t (entry N rest) { nx := W, rt := fun _ _ => False, bk := fun _ => False, ct := fun _ => False })
    (h2 : ∀ Γ, W Γ → A tr Γ fun ss => ss.length ≤ 100000 ∧ Wa ss) (hD : ∀ b ss ys B' H', H b = none → H' b = some (.lst ys) → PSl ys ss B' → B' b = none → Step B H B' H' → Wa ss → D.rt (.ref b) H') : tSeq t (tRet (tLst tr)) D (L2.start N vs) H := by
  refine h B H { D with nx := tRet (tLst tr) D } _ B H ⟨fun Γ σ B1 H1 a k => ?_, fun _ _ _ _ _ _ _ _ z => z.elim, fun _ _ _ _ _ z => z.elim, fun _ _ _ _ _ z => z.elim, fun _ _ _ _ _ _ _ _ z => z.elim⟩ (at_entry bs pr)
  refine h2 Γ k σ B1 H1 a.inn a.rel _ fun ss ys B2 H2 st p ⟨hl, wa⟩ => ⟨Nat.le_trans (by rw [p.length]; exact hl) (by decide), fun b hb => ?_⟩
  have s2 : Step B H B2 H2 := a.to.trans st
  have sH : Same H H2 := s2.same bs
  exact hD b ss ys B2 _ (sH.free hb) upd_same p (st.inn.free hb) ⟨fun c o e => by rw [upd_ne (ne_of_none (st.inn _ _ e) hb)]; exact st.inn _ _ e, s2.base, fun c h1 h3 => by
    rw [upd_ne (fun z => by
      subst z
      cases q : H c with
      | none => exact h3 q
      | some o => have := sH _ _ q; rw [hb] at this; cases this)]
    exact s2.out c h1 h3⟩ wa
/-- C(k = v, ..) -/
theorem E_makeK {F : FI} {C : Addr} {m : Nat} {Er : XK} {Γ : List Bd} {Φ : Slot → Prop} {tr : TA} (h : A tr Γ fun ss => ss.length = m ∧ F ss (fun gs => Φ (insS C gs)) fun _ => False) : E (tMakeK C 0 m (spInit C F) (fun vs zs => vs ++ zs) Er tNil tr) Γ Φ := fun σ B H b rl Q q =>
  h σ B H b rl _ fun ss vs B1 H1 st p k => ⟨rfl, p.length.trans k.1, fun x dx hx hdx ne => by
    have hB : B1 x = none := st.inn.free hx
    have hBd : B1 dx = none := st.inn.free hdx
    have hd2 : upd (upd H1 dx (.own x)) x (.ins C dx []) dx = some (.own x) := by rw [upd_ne ne]; exact upd_same
    have s1 : Step B1 H1 (upd B1 dx (.own x)) (upd (upd H1 dx (.own x)) x (.ins C dx [])) := ⟨fun a o e => by
        by_cases ha : a = dx
        · subst ha; rw [upd_same] at e; cases e; exact hd2
        · rw [upd_ne ha] at e
          rw [upd_ne (ne_of_none e hB), upd_ne ha]
          exact st.inn _ _ e, fun a o e => by rw [upd_ne (ne_of_none e hBd)]; exact e, fun a h1 h2 => by
        have n1 : a ≠ dx := fun z => h2 (by rw [z]; exact hdx)
        have n2 : a ≠ x := fun z => h2 (by rw [z]; exact hx)
        rw [upd_ne n1, upd_ne n2, upd_ne n1]
        exact ⟨h1, rfl⟩⟩
    refine ⟨upd B1 dx (.own x), x, dx, vs, ss, _, _, rfl, upd_same, by rw [upd_ne (fun z => ne z.symm)]; exact hB, s1.inn, p.mono s1.base, k.2, fun gs fs B' H' st' pf f => ⟨rfl, ?_⟩, fun _ _ _ _ _ _ z => z.elim⟩
    have s2 := st.trans s1
    obtain ⟨q1, q2⟩ := st'.out x (by rw [upd_ne (fun z => ne z.symm)]; exact hB) (by rw [upd_same]; simp)
    have sm : Same B' (upd B' x (.ins C dx fs)) := fun a o e => by rw [upd_ne (ne_of_none e q1)]; exact e
    refine q (insS C gs) (.ref x) (upd B' x (.ins C dx fs)) (upd H' x (.ins C dx fs)) ⟨fun a o e => ?_, (s2.base.trans st'.base).trans sm, fun a h1 h2 => ?_⟩ ⟨x, dx, fs, rfl, upd_same, pf.mono sm⟩ f
    · by_cases ha : a = x
      · subst ha; rw [upd_same] at e ⊢; exact e
      · rw [upd_ne ha] at e ⊢; exact st'.inn _ _ e
    · have n2 : a ≠ x := fun z => h2 (by
        cases qz : H x with
        | none => rw [z]; exact qz
        | some o => have := st.same b x o qz; rw [hx] at this; cases this)
      obtain ⟨p1, p2⟩ := s2.out a h1 h2
      obtain ⟨p3, p4⟩ := st'.out a p1 (by rw [p2]; exact h2)
      rw [upd_ne n2, upd_ne n2]
      exact ⟨p3, p4.trans p2⟩⟩
end Ab

/-! AbH -/
/-! Iterating while an exception is handled. -/
namespace AbH
open PySem PySem.Spec PyProof.Rows HotX
section
variable {prog : Program} {w : World} {A : Around} {E : Value → Shared → Prop} {s : Shared}
/-- a StopIteration is made and raised -/
theorem stop_hot {α : Type} {x1 : Addr} {Q : α → Shared → Prop} (hot : HotAt A x1 s.heap)
    (hE : ∀ h' e, (∀ b o, s.heap.get? b = some o → h'.get? b = some o) → (∃ o, h'.get? e = some o ∧ o.cls = .type "StopIteration") → E (.ref e) { s with heap := h' }) :
    wpAny (model prog w) A (newExc (.type "StopIteration") []) (fun v s1 => wpAny (model prog w) A (raiseNew v : Sem α) Q E s1) E s := by
  obtain ⟨hh, o1, vs1, h1, d1, c1⟩ := hot
  have up : ∀ (u v : Obj) (b : Addr) (o : Obj), s.heap.get? b = some o → ((s.heap.push u).push v).get? b = some o := fun u v b o e => Heap.get?_push_of_some v (Heap.get?_push_of_some u e)
  simp only [newExc, newTuple]; refine wpAny_bind (wpAny_newObj_type ?_ (by size_fits)); refine wpAny_bind (m := firstArgMember _ _) (wpAny_of_eq (a := Value.none) (by first | rfl | (simp only [firstArgMember]; rfl)) (wpAny_newObj_type ?_ (by size_fits)))
  refine raiseNew_hot (x1 := x1) ⟨hh, o1, vs1, up _ _ _ _ h1, d1, c1⟩ ?_ (Heap.get?_push_size _ rfl) rfl ?_ (hE _ _ (fun b o e => ?_) ⟨_, Heap.get?_update_self _ (Heap.get?_push_size _ rfl) rfl, rfl⟩)
  · exact Nat.ne_of_lt (Heap.lt_size (Heap.get?_push_of_some _ h1))
  · first | (simp; done) | (simp; omega) | (simp only [Array.size_append]; simp; omega)
  · rw [Heap.get?_update_other _ _ (Nat.ne_of_gt (Heap.lt_size (Heap.get?_push_of_some _ e)))]; exact up _ _ _ _ e
/-- a tuple's iterator at its end -/
theorem tup_end {it t : Addr} {i : Nat} {items : Array Value} {x1 : Addr} {Q : Option Value → Shared → Prop} (hot : HotAt A x1 s.heap) (hne : x1 ≠ it) (hit : IsTupIter s.heap it t i) (ht : IsTup s.heap t items) (hx : items[i]? = none)
    (hQ : ∀ h', Heap.ExtBut it s.heap h' → Q none { s with heap := h' }) : wpAny (model prog w) A (pyNext (.ref it)) Q E s := by
  obtain ⟨⟨o, ho, hc, hd⟩, ⟨ol, hol, _, nl, hdl⟩, hh, o1, vs1, h1, d1, c1⟩ := And.intro hit (And.intro ht hot)
  unfold pyNext; refine wpAny_bind (wpAny_attempt (wpAny_callSpecial?_slot (name := Str.ofString "__next__") hit.typeIs slot_tupleiter_next (wpAny_call_entry slot_tupleiter_next hit.typeIs entry_tupleiter_next ?_ (args_tupleiter_next _))))
  change wpAny _ _ (field (.ref it) 0 >>= _) _ _ s; refine wpAny_bind (wpAny_field ho hd (x := .ref t) rfl ?_)
  change wpAny _ _ (if (Value.ref t == Value.none) = true then _ else _) _ _ s; rw [if_neg (show ¬ ((Value.ref t == Value.none) = true) from Bool.false_ne_true)]
  change wpAny _ _ (field (.ref it) 1 >>= _) _ _ s; refine wpAny_bind (wpAny_field ho hd (x := .int i 0) rfl ?_)
  change wpAny _ _ (seqItems? (.ref t) >>= _) _ _ s; refine wpAny_bind (wpAny_seqItems hol hdl ?_)
  simp only [Int.toNat_natCast, hx]; refine wpAny_bind (wpAny_rule (wpAny_bind (wpAny_setField ho hd (by simp) (wpAny_bind (stop_hot (x1 := x1) ⟨hh, o1, vs1, ?_, d1, c1⟩ fun h' e up he => ?_)))))
  · exact (Heap.get?_update_other _ _ (Ne.symm hne)).trans h1
  · obtain ⟨oe, hoe, hce⟩ := he
    exact wpAny_bind (wpAny_isInstance (T := "StopIteration") (b := true) ⟨oe, hoe, hce⟩ isSubtype_stop (wpAny_pure (hQ _ fun b o hb e => up _ _ ((Heap.get?_update_other _ _ (Ne.symm hb)).trans e))))
/-- a list's iterator at its end -/
theorem lst_end {it l : Addr} {i : Nat} {items : Array Value} {x1 : Addr} {Q : Option Value → Shared → Prop} (hot : HotAt A x1 s.heap) (hne : x1 ≠ it) (hit : s.heap.IsListIter it l i) (hl : s.heap.IsList l items) (hx : items[i]? = none)
    (hQ : ∀ h', Heap.ExtBut it s.heap h' → Q none { s with heap := h' }) : wpAny (model prog w) A (pyNext (.ref it)) Q E s := by
  obtain ⟨⟨o, ho, hc, hd⟩, ⟨ol, hol, _, nl, hdl⟩, hh, o1, vs1, h1, d1, c1⟩ := And.intro hit (And.intro hl hot)
  unfold pyNext; refine wpAny_bind (wpAny_attempt (wpAny_callSpecial?_slot (name := Str.ofString "__next__") hit.typeIs slot_listiter_next (wpAny_call_entry slot_listiter_next hit.typeIs entry_listiter_next ?_ (args_listiter_next _))))
  change wpAny _ _ (field (.ref it) 0 >>= _) _ _ s; refine wpAny_bind (wpAny_field ho hd (x := .ref l) rfl ?_)
  change wpAny _ _ (if (Value.ref l == Value.none) = true then _ else _) _ _ s; rw [if_neg (show ¬ ((Value.ref l == Value.none) = true) from Bool.false_ne_true)]
  change wpAny _ _ (field (.ref it) 1 >>= _) _ _ s; refine wpAny_bind (wpAny_field ho hd (x := .int i 0) rfl ?_)
  change wpAny _ _ (seqItems? (.ref l) >>= _) _ _ s; refine wpAny_bind (wpAny_seqItems hol hdl ?_)
  simp only [Int.toNat_natCast, hx]; refine wpAny_bind (wpAny_rule (wpAny_bind (wpAny_setField ho hd (by simp) (wpAny_bind (stop_hot (x1 := x1) ⟨hh, o1, vs1, ?_, d1, c1⟩ fun h' e up he => ?_)))))
  · exact (Heap.get?_update_other _ _ (Ne.symm hne)).trans h1
  · obtain ⟨oe, hoe, hce⟩ := he
    exact wpAny_bind (wpAny_isInstance (T := "StopIteration") (b := true) ⟨oe, hoe, hce⟩ isSubtype_stop (wpAny_pure (hQ _ fun b o hb e => up _ _ ((Heap.get?_update_other _ _ (Ne.symm hb)).trans e))))
/-- a tuple's iterator at its end, within zip -/
theorem of_end {it l : Addr} {i : Nat} {items : Array Value} {x1 : Addr} {Q : Value → Shared → Prop} (hot : HotAt A x1 s.heap) (hne : x1 ≠ it) (hit : s.heap.IsTupleIter it l i) (hl : s.heap.IsTuple l items) (hx : items[i]? = none)
    (hE : ∀ h' e, Heap.ExtBut it s.heap h' → (∃ o, h'.get? e = some o ∧ o.cls = .type "StopIteration") → E (.ref e) { s with heap := h' }) : wpAny (model prog w) A (Builtin.SmallTypes.nextOf (.ref it)) Q E s := by
  obtain ⟨⟨o, ho, hc, hd⟩, ⟨ol, hol, _, nl, hdl⟩, hh, o1, vs1, h1, d1, c1⟩ := And.intro hit (And.intro hl hot)
  unfold Builtin.SmallTypes.nextOf; refine wpAny_bind (wpAny_callSpecial?_slot (name := Str.ofString "__next__") hit.typeIs F.slot_tuple_iterator_next (wpAny_call_entry F.slot_tuple_iterator_next hit.typeIs F.entry_tuple_iterator_next ?_ (F.args_tuple_iterator_next_1 _)))
  change wpAny _ _ (field (.ref it) 0 >>= _) _ _ s; refine wpAny_bind (wpAny_field ho hd (x := .ref l) rfl ?_)
  change wpAny _ _ (if (Value.ref l == Value.none) = true then _ else _) _ _ s; rw [if_neg (show ¬ ((Value.ref l == Value.none) = true) from Bool.false_ne_true)]
  change wpAny _ _ (field (.ref it) 1 >>= _) _ _ s; refine wpAny_bind (wpAny_field ho hd (x := .int i 0) rfl ?_)
  change wpAny _ _ (seqItems? (.ref l) >>= _) _ _ s; refine wpAny_bind (wpAny_seqItems hol hdl ?_)
  simp only [Int.toNat_natCast, hx]; refine wpAny_bind (wpAny_rule (wpAny_bind (wpAny_setField ho hd (by simp) (wpAny_bind (stop_hot (x1 := x1) ⟨hh, o1, vs1, ?_, d1, c1⟩ fun h' e up he => hE h' e (fun b o hb e => up _ _ ((Heap.get?_update_other _ _ (Ne.symm hb)).trans e)) he)))))
  exact (Heap.get?_update_other _ _ (Ne.symm hne)).trans h1
end

section
open RZ
variable {prog : Program} {w : World} {A : Around} {E : Value → Shared → Prop} {s : Shared}
theorem zip_end {z TI TO i1 i2 l1 l2 : Addr} {k1 k2 : Nat} {xs ys : Array Value} {a b : Value} {x1 : Addr} {Q : Option Value → Shared → Prop} (hot : HotAt A x1 s.heap) (nz : x1 ≠ z) (n1 : x1 ≠ i1) (D : ZipApart z TI TO i1 i2 l1 l2)
    (hz : IsZip s.heap z TI TO .none) (hTI : IsPair s.heap TI (.ref i1) (.ref i2)) (hTO : IsPair s.heap TO a b) (h1 : s.heap.IsTupleIter i1 l1 k1) (h2 : s.heap.IsTupleIter i2 l2 k2) (hl1 : s.heap.IsTuple l1 xs) (hl2 : s.heap.IsTuple l2 ys) (hx : xs[k1]? = none)
    (hQ : ∀ h', (∀ c o, c ≠ z → c ≠ TO → c ≠ i1 → c ≠ i2 → s.heap.get? c = some o → h'.get? c = some o) → Q none { s with heap := h' }) : wpAny (model prog w) A (pyNext (.ref z)) Q E s := by
  have hT : s.TypeIs (.ref z) "zip" := ⟨_, hz, rfl⟩
  obtain ⟨hh, o1, vs1, g1, d1, c1⟩ := hot
  unfold pyNext; refine wpAny_bind (wpAny_attempt (wpAny_callSpecial?_slot (name := Str.ofString "__next__") hT F.slot_zip_next (wpAny_call_entry F.slot_zip_next hT F.entry_zip_next ?_ (F.args_zip_next_1 _))))
  change wpAny _ _ (field (.ref z) 2 >>= _) _ _ _; refine wpAny_bind (wpAny_field hz rfl (x := .bool false) rfl ?_)
  change wpAny _ _ (field (.ref z) 3 >>= _) _ _ _; refine wpAny_bind (wpAny_field hz rfl (x := .ref TI) rfl (wpAny_bind (wpAny_seqItems hTI rfl ?_)))
  change wpAny _ _ (Builtin.SmallTypes.ownedTupleIsFree (.ref z) >>= _) _ _ _; refine wpAny_bind ?_; unfold Builtin.SmallTypes.ownedTupleIsFree; refine wpAny_bind (wpAny_field hz rfl (x := .none) rfl (wpAny_pure ?_))
  simp only [if_true]; refine wpAny_bind (wpAny_rule (wpAny_bind (wpAny_field hz rfl (x := .ref TO) rfl (wpAny_bind (wpAny_setField_rec hz (by simp) fun h₁ hz₁ hs₁ => ?_)))))
  replace hz₁ : IsZip h₁ z TI TO .ellipsis := hz₁; refine wpAny_bind ?_; simp only [List.zipIdx_cons, List.zipIdx_nil, List.forIn_cons, List.forIn_nil]; refine wpAny_bind (wpAny_bind (wpAny_onRaise ?_))
  change wpAny _ _ (Builtin.SmallTypes.nextOf (.ref i1) >>= _) _ _ _; refine wpAny_bind (of_end (x1 := x1) ⟨hh, o1, vs1, hs₁.extBut _ _ nz g1, d1, c1⟩ n1 (h1.extBut hs₁.extBut D.i1z) (hl1.extBut hs₁.extBut D.l1z) hx fun h₂ e hs₂ he => ?_)
  obtain ⟨oe, hoe, hce⟩ := he
  have hz₂ : IsZip h₂ z TI TO .ellipsis := hs₂ _ _ D.i1z.symm hz₁
  have hez : e ≠ z := fun y => by
    rw [y, hz₂] at hoe
    cases hoe
    simp at hce
  refine wpAny_setField_rec hz₂ (by simp) fun h₃ _ hs₃ => wpAny_bind (wpAny_isInstance (T := "StopIteration") (b := true) ⟨oe, hs₃.extBut _ _ hez hoe, hce⟩ isSubtype_stop (wpAny_pure (hQ _ fun c o c1 _ c3 _ y => hs₃.extBut _ _ c1 (hs₂ _ _ c3 (hs₁.extBut _ _ c1 y)))))
end
end AbH

/-! AbI -/
/-! all, targets, zip and list comprehensions while an exception is handled. -/
namespace AbH
open PySem PySem.Spec PyProof.Rows HotX L2 L2H
section
variable {prog : Program} {w : World} {A : Around} {E : Value → Shared → Prop} {s : Shared}
theorem HotAt.keep {x1 : Addr} {h h' : Heap} (a : HotAt A x1 h) (k : ∀ o, h.get? x1 = some o → h'.get? x1 = some o) : HotAt A x1 h' := by
  obtain ⟨hh, o, vs, h1, d, c⟩ := a
  exact ⟨hh, o, vs, k _ h1, d, c⟩
theorem walks_hot (I ax x1 : Addr) (hne : ax ≠ I) (hx : x1 ≠ I) (items : Array Value) : Walks prog w A I [I, ax, x1] [I] items.size (fun i v => items[i]? = some v) (fun i h => (h.IsListIter I ax i ∧ h.IsList ax items) ∧ HotAt A x1 h) := by
  refine ⟨fun b hb => by simp at hb; simp [hb], fun i h h' st hk => ⟨⟨st.1.1.at fun o e => hk I (by simp) o e, st.1.2.at fun o e => hk ax (by simp) o e⟩, HotAt.keep st.2 fun o e => hk x1 (by simp) o e⟩, ?_, ?_, ?_⟩
  · intro i s Q E hi st hQ
    refine wpAny_pyNext_list_item st.1.1 st.1.2 (x := items[i]) (by simp [hi]) fun h' h1 h2 => hQ _ h' s.toks (by simp [hi]) ⟨⟨h1, st.1.2.extBut h2.extBut hne⟩, HotAt.keep st.2 fun o e => h2.extBut x1 o hx e⟩ ?_
    exact fun b o hb e => h2.extBut b o (fun z => hb (by simp [z])) e
  · exact fun s Q E st hQ => lst_end st.2 hx st.1.1 st.1.2 (by simp) fun h' he => hQ h' s.toks fun b o hb e => he b o (fun z => hb (by simp [z])) e
  · exact fun _ _ _ _ st hQ => wpAny_pyIter_listiter st.1.1 hQ
end
/-- all of a list of booleans -/
theorem cr_allH {X : Cx} (hc : HotC X) : CallR X (.builtin "all") (rAll X.K) := by
  rintro pins s σ H vs us Q I r ⟨a, bs, rfl, hs, q⟩
  obtain ⟨its, rv, hl, _⟩ := I.list hs
  obtain ⟨x1, hot⟩ := hc.at I
  have hb := rv.bls
  rw [Vals.ref1 r]
  refine call_all_walk (iter_any hl.isList fun s₂ e2 st hne => ?_)
  subst e2
  have lt1 : x1 < s.heap.objs.size := by obtain ⟨_, o, _, h1, _⟩ := hot; exact Heap.lt_size h1
  refine ⟨_, _, _, _, _, _, _, rfl, walks_hot (A := X.A.in1) _ a x1 hne (Nat.ne_of_lt lt1) its.toArray, ⟨st, HotAt.keep hot fun o e => Heap.get?_push_of_some _ e⟩, truth_bools hb, fun h' tk hk => ⟨.bl _, H, I.kept fun b o eo => hk b o (fun hm => ?_) (Heap.get?_push_of_some _ eo), ?_, q⟩⟩
  · have e1 := List.mem_singleton.mp hm
    exact Nat.lt_irrefl _ (e1 ▸ Heap.lt_size eo)
  · change Value.bool _ = Value.bool _
    rw [← L2.all_range, hb, List.size_toArray, List.length_map] <;> rfl
/-- the items of a tuple, for so many targets -/
theorem items_hot {prog : Program} {w : World} {A : Around} {E : Value → Shared → Prop} {s : Shared} {t x1 : Addr} {items : Array Value} {Q : List Value → Shared → Prop} (hot : HotAt A x1 s.heap) (ht : IsTup s.heap t items)
    (hQ : ∀ h', Heap.ExtBut s.heap.objs.size s.heap h' → Q items.toList { s with heap := h' }) : wpAny (model prog w) A (unpackItems (.ref t) items.size none) Q E s := by
  have hlt : t ≠ s.heap.objs.size := by obtain ⟨o, ho, _⟩ := ht; exact Nat.ne_of_lt (Heap.lt_size ho)
  have hx1 : x1 ≠ s.heap.objs.size := by obtain ⟨_, o, _, ho, _⟩ := hot; exact Nat.ne_of_lt (Heap.lt_size ho)
  unfold unpackItems; refine wpAny_bind ?_; unfold notIterableAtAll; refine wpAny_bind (wpAny_specialOf ht.typeIs slot_tuple_iter.lookup (wpAny_pure ?_))
  simp only [Bool.false_eq_true, if_false]; refine wpAny_bind (wpAny_holding (iter_tuple ht ?_))
  refine wpAny_bind (wpAny_holding (draw_tuple hlt items.size 0 _ _ ⟨_, Heap.get?_push_size _ rfl, rfl, rfl⟩ (ht.push _) (by omega) fun h₁ hit₁ hs₁ => ?_))
  have hall : List.take items.size (List.drop 0 items.toList) = items.toList := by rw [List.drop_zero]; exact List.take_of_length_le (by simp)
  rw [hall, if_neg (by simp)]
  refine wpAny_bind (wpAny_holding (tup_end (x1 := x1) (HotAt.keep hot fun o e => hs₁.extBut _ _ hx1 (Heap.get?_push_of_some _ e)) hx1 hit₁ ((ht.push _).extBut hs₁.extBut hlt) (by simp) fun h₂ he₂ => ?_))
  simp only [Option.isSome_none, Bool.false_eq_true, if_false]; exact wpAny_pure (hQ h₂ fun b o hb e => he₂ b o hb (hs₁.extBut b o hb (Heap.get?_push_of_some _ e)))
/-- (a, b, ..) = a tuple of that length -/
theorem pg_tupH {X : Cx} {pos : Pos} {es : List Expr} {k : Nat} {t : TGs} {n : Nat} (hc : HotC X) (h : PGs X es t) (hn : (assignEach es X.env).length = n := by rfl) (hst : (assignEach es X.env).findIdx? (·.1) = none := by rfl) : PG X (.Tuple es k pos) (gTup X.K n t) := by
  refine ⟨fun pins s σ H v u Q I r hw => ?_⟩
  obtain ⟨a, xs, rfl, hq, hl, hw⟩ := hw
  cases r
  obtain ⟨its, rv, ht, hz⟩ := I.tuple hq
  obtain ⟨x1, hot⟩ := hc.at I
  rw [assign_Tuple]; refine wpAny_bind (wpAny_standAt ?_); unfold unpack; rw [show (assignEach es X.env).length = its.toArray.size by simp [hn, ← hl, rv.length], hst]
  refine wpAny_bind (wpAny_holding (items_hot hot ht fun h' hx => ?_))
  have I1 : Inv X pins σ H { s with heap := h' } := I.kept (t' := s.toks) fun b o e => hx b o (Nat.ne_of_lt (Heap.lt_size e)) e
  exact h.run pins _ σ H xs _ Q I1 (by simpa using rv) hw
/-! ### zip of two tuples -/
section
open RZ
def ItzH (K : PySem.W.Frag) (a b : Addr) : It := ⟨(ItzT K a b).go, (ItzT K a b).yld, fun i H => ∃ xs ys : List V, SqT K H a xs ∧ SqT K H b ys ∧ xs.length ≤ i⟩
def zipTn (z TI TO i1 i2 a b : Addr) (i : Nat) (h : Heap) : Prop := IsZip h z TI TO .none ∧ IsPair h TI (.ref i1) (.ref i2) ∧ (∃ x y, IsPair h TO x y) ∧ h.IsTupleIter i1 a i ∧ h.IsTupleIter i2 b i
theorem five {c z TI TO i1 i2 : Addr} (h : c ∈ [z, TI, TO, i1, i2]) : c = z ∨ c = TI ∨ c = TO ∨ c = i1 ∨ c = i2 := by simpa using h
theorem none5 {c z TI TO i1 i2 : Addr} (h : c ∉ [z, TI, TO, i1, i2]) : c ≠ z ∧ c ≠ TI ∧ c ≠ TO ∧ c ≠ i1 ∧ c ≠ i2 := by simpa using h
theorem turn_zipH {P : Program} {w : World} {K : PySem.W.Frag} {elts : List Expr} {kk : Nat} {tpos : Pos} {a b z TI TO i1 i2 : Addr} (D : ZipApart z TI TO i1 i2 a b) : TurnH P w K (.Tuple elts kk tpos) (ItzH K a b) [z, TI, TO, i1, i2] z (zipTn z TI TO i1 i2 a b) where
  mem := List.mem_cons_self ..
  obj := fun i h ⟨hz, hTI, ⟨x, y, hTO⟩, ⟨o1, e1, _, d1⟩, ⟨o2, e2, _, d2⟩⟩ c hc => by
    rcases five hc with rfl | rfl | rfl | rfl | rfl
    · exact ⟨_, hz, fun v q => nomatch q⟩
    · exact ⟨_, hTI, fun v q => nomatch q⟩
    · exact ⟨_, hTO, fun v q => nomatch q⟩
    · exact ⟨o1, e1, fun v q => nomatch d1.symm.trans q⟩
    · exact ⟨o2, e2, fun v q => nomatch d2.symm.trans q⟩
  keep := fun i h h' ⟨hz, hTI, ⟨x, y, hTO⟩, h1, h2⟩ k => ⟨k z (by simp) _ hz, k TI (by simp) _ hTI, ⟨x, y, k TO (by simp) _ hTO⟩, h1.at fun o q => k i1 (by simp) o q, h2.at fun o q => k i2 (by simp) o q⟩
  item := by
    rintro X rfl rfl rfl hc i pins s σ H E I hf ⟨hz, hTI, ⟨x0, y0, hTO⟩, h1, h2⟩ ⟨xs, ys, x, y, hqx, hqy, hx, hy⟩
    obtain ⟨its, rv, p, _⟩ := I.tuple hqx
    obtain ⟨its2, rv2, p2, _⟩ := I.tuple hqy
    obtain ⟨⟨u, hu, ru⟩, u2, hu2, ru2⟩ := And.intro (rv.get hx) (rv2.get hy)
    refine pyNext_zipT_item D hz hTI hTO h1 h2 p p2 (x := u) (y := u2) (by simpa using hu) (by simpa using hu2) fun h' z' TO' h1' h2' hT hsz hk => ⟨_, rfl, wpAny_letOwnedTupleGo_zip (s := { s with heap := h' }) z' fun h'' z'' sb => ?_⟩
    generalize hn : s.heap.objs.size = n at *
    have hlt : ∀ c ∈ [z, TI, TO, i1, i2], c < n := fun c hcm => by
      rw [← hn]
      rcases five hcm with rfl | rfl | rfl | rfl | rfl
      · exact Heap.lt_size hz
      · exact Heap.lt_size hTI
      · exact Heap.lt_size hTO
      · obtain ⟨_, e1, _⟩ := h1; exact Heap.lt_size e1
      · obtain ⟨_, e2, _⟩ := h2; exact Heap.lt_size e2
    have hT2 := (sb.2 _ (Nat.ne_of_gt (hlt z (List.mem_cons_self ..)))).trans hT
    have new : ObjOk X.prog X.w (upd H n (.tup [x, y])) h'' n (.tup [x, y]) := ⟨by show 2 ≤ sizeLine; decide, [u, u2], .cons ru (.cons ru2 .nil), ⟨_, hT2, rfl, _, rfl⟩⟩
    have I1 : Inv X pins σ (upd H n (.tup [x, y])) { s with heap := h'' } := I.turnedNew (t' := s.toks) (ch := [z, TI, TO, i1, i2]) (fun c o hb q => by
      obtain ⟨n1, n2, n3, n4, n5⟩ := none5 hb
      exact (sb.2 c n1).trans (hk c o n1 n3 n4 n5 q)) hf (Nat.le_of_eq hn) new
    refine ⟨.ref n, _, I1, rfl, ⟨n, x, y, rfl, I.hok.fresh (Nat.le_of_eq hn), rfl, fun l hl => by rw [I.tuple_inj hl hqx]; exact hx, fun l hl => by rw [I.tuple_inj hl hqy]; exact hy⟩, ⟨z'', (sb.2 _ D.TIz).trans (hk _ _ D.TIz D.TITO D.TIi1 D.TIi2 hTI), ⟨u, u2, (sb.2 _ D.TOz).trans TO'⟩, h1'.at fun o q => (sb.2 _ D.i1z).trans q, h2'.at fun o q => (sb.2 _ D.i2z).trans q⟩, fun c hcm => ?_⟩
    rw [upd_ne (Nat.ne_of_lt (hlt c hcm))]
    exact (hf c hcm).1
  done := by
    rintro X rfl rfl rfl hc i pins s σ H E I hf ⟨hz, hTI, ⟨x0, y0, hTO⟩, h1, h2⟩ ⟨xs, ys, hqx, hqy, hend⟩
    obtain ⟨its, rv, p, _⟩ := I.tuple hqx
    obtain ⟨its2, rv2, p2, _⟩ := I.tuple hqy
    have l1 := rv.length
    obtain ⟨q, hq, hqX⟩ := hc
    obtain ⟨g1, v1, g2, g3⟩ := hq
    have hp := I.pin q (List.mem_append_left _ hqX)
    have far : ∀ c ∈ [z, TI, TO, i1, i2], q.1 ≠ c := fun c hcm => (hf c hcm).2.2.2.2.2 q (List.mem_append_left _ hqX)
    exact zip_end (x1 := q.1) ⟨g1, q.2, v1, hp.1, g2, g3⟩ (far _ (by simp)) (far _ (by simp)) D hz hTI hTO h1 h2 p p2 (by simp; omega) fun h' hk => ⟨rfl, I.turnedL (t' := s.toks) (ch := [z, TI, TO, i1, i2]) (fun c o hb e => by
      obtain ⟨n1, n2, n3, n4, n5⟩ := none5 hb
      exact hk c o n1 n3 n4 n5 e) hf⟩
  self := fun A i s Q E st h => wpAny_pyIter_zip st.1 h
def iZipH (K : PySem.W.Frag) (ta : TA) : TI := fun σ H R => ta σ H fun vs H1 => ∃ a b xs ys, vs = [.ref a, .ref b] ∧ SqT K H1 a xs ∧ SqT K H1 b ys ∧ R (ItzH K a b) H1
theorem pi_zipH {X : Cx} {e e2 : Expr} {ta : TA} {p pos tpos : Pos} {elts : List Expr} {kk : Nat} (hg : Gl X "zip") (hm : X.mg "zip" = none) (ha : PA X [e, e2] ta) (hs : starEach [e, e2] X.env = (false, eval e X.env) :: starEach [e2] X.env := by rfl)
    (hpl : (backTo pos (starEach [e2] X.env)).any (·.1) = false := by rfl) : PIH X (.Tuple elts kk tpos) (.Call (.Name "zip" p) [e, e2] [] pos) (iZipH X.K ta) := by
  refine ⟨fun pins s σ H R I h => Call_ (ld_blt I hg hm PyProof.Rows.boot_zip (PyProof.Rows.callWith_type1 (thn (ha.run pos pins s σ H _ I h) fun us s1 ⟨vs, H1, I1, r1, q1⟩ => ?_) hs hpl))⟩
  obtain ⟨a, b, xs, ys, rfl, hqx, hqy, q⟩ := q1
  obtain ⟨u1, u2, rfl, r, r'⟩ := vals2 r1
  cases r
  cases r'
  obtain ⟨its, rv, p1, _⟩ := I1.tuple hqx
  obtain ⟨its2, rv2, p2, _⟩ := I1.tuple hqy
  generalize hn : s1.heap.objs.size = n at *
  have fresh5 : ∀ c ∈ [n + 4, n + 2, n + 3, n, n + 1], FpOk X pins H1 c := fun c hcm => by
    have hle : s1.heap.objs.size ≤ c := by rw [hn]; rcases five hcm with rfl | rfl | rfl | rfl | rfl <;> first | exact Nat.le_refl _ | exact Nat.le_add_right _ _
    exact I1.fpOk hle (I1.hok.fresh hle)
  have lt1 : a < n := by obtain ⟨o1, ho1, _⟩ := id p1; rw [← hn]; exact Heap.lt_size ho1
  have lt2 : b < n := by obtain ⟨o2, ho2, _⟩ := id p2; rw [← hn]; exact Heap.lt_size ho2
  refine call_zipT (show s1.heap.IsTuple a its.toArray from p1) (show s1.heap.IsTuple b its2.toArray from p2) fun h' hz hTI hTO h1 h2 hsz hk => wpAny_pyIter_zip hz ?_
  rw [hn] at hz hTI hTO h1 h2
  exact ⟨n + 4, [n + 4, n + 2, n + 3, n, n + 1], _, _, H1, by rw [hn], I1.kept (t' := s1.toks) hk, turn_zipH (PySem.W.ktu_apart n a b lt1 lt2), ⟨hz, hTI, ⟨_, _, hTO⟩, h1, h2⟩, fresh5, q⟩
end
end AbH

/-! AbJ -/
/-! A list comprehension while an exception is handled. -/
namespace AbH
open PySem PySem.Spec PyProof.Rows HotX L2 L2H
/-- the block's context, the handled exception pinned -/
abbrev blkH (X : Cx) (p : Addr × Obj) (s : Shared) (H : Hp) (scope : Scope) (ce : Env) (fp : List Addr) : Cx := { X.blk s H scope ce fp with pn := [p] }
theorem inv_blkH {X : Cx} {p : Addr × Obj} {s s' : Shared} {H H' : Hp} {scope : Scope} {ce : Env} {fp : List Addr} {σ : L2.St} (I : Inv (X.blk s H scope ce fp) [] σ H' s') (h : s'.heap.get? p.1 = some p.2 ∧ H' p.1 = none ∧ p.1 ≠ ce.locals ∧ p.1 ∉ frs X.stack ∧ ∀ v, p.2.data ≠ .cell v) :
    Inv (blkH X p s H scope ce fp) [] σ H' s' := by
  have k := I.ok
  exact ⟨⟨k.mod, k.kind, k.glob, k.blt, k.above, k.inj, k.has, k.cab, k.hd, k.frames, k.stk, k.exf, k.bs, k.bsz, k.noex, k.exfs, k.funs, k.frf⟩, I.os, I.bare, I.base, I.loc, I.cell, I.free, I.freeC, fun q hq => by
    obtain rfl : q = p := by simpa using hq
    exact h, I.hok, I.len⟩
section
variable {X : Cx} {p : Addr × Obj} {elt tg iter : Expr} {scope : Scope} {own : List (Str × Nat)} {pos : Pos} {wi : TI} {g : TG} {te : TE}
theorem pe_lcH (hot : Hot1 X.A p) (hpx : p ∈ X.pn) (hN : X.N.Nodup) (hi : PIH X tg iter wi) (ok : BlkOk X.N X.env.scope scope own)
    (hg : ∀ (s : Shared) (H : Hp) (C : Addr) (cl : List (Str × Addr)) (fp : List Addr), PG (blkH X p s H scope (compEnvC scope cl C X.env) fp) tg g) (he : ∀ (s : Shared) (H : Hp) (C : Addr) (cl : List (Str × Addr)) (fp : List Addr), PE (blkH X p s H scope (compEnvC scope cl C X.env) fp) elt te)
    (hs : ∀ x, foldedSetIterable iter X.env x = pure x := by intro _; rfl) : PE X (.ListComp elt [⟨tg, iter, [], 0⟩] scope pos) (tLc wi g tYes te (own.map (·.2))) := by
  refine ⟨fun pins s σ H Q I h => ?_⟩
  have hfree : ∀ y ∈ scope.names, y.2 = .free → ∃ c, X.env.cells.lookup y.1 = some c := fun y hy e => (ok.free y hy e).elim (fun k => I.ok.has _ (.inl k)) fun k => I.ok.has _ (.inr k)
  rw [eval_ListComp]; refine wpAny_comprehension_free (use := none) rfl hs (closure_ok hfree) ok.kind (fun y hy e => by rw [ok.uniq y hy, e]) (thn (hi.run pins s σ H _ I h) fun xv s1 hx => thn hx fun itv s2 h2 => ?_)
  obtain ⟨it, fp, tn, J, H2, rfl, I2, T, st2, f2, q⟩ := h2
  refine wpAny_newObj_type (newEnv_comp ?_) (by show 0 ≤ sizeLine; decide); generalize hD : s2.heap.objs.size = D
  obtain ⟨W, ⟨m0, w0⟩, turn⟩ := q D (I2.hok.fresh (Nat.le_of_eq hD))
  generalize hs3 : ({ s2 with heap := s2.heap.push { cls := .type "list", data := .seq ([] : List Value).toArray } } : Shared) = s3
  have up3 : ∀ b o, s2.heap.get? b = some o → s3.heap.get? b = some o := fun b o e => by rw [← hs3]; exact Heap.get?_push_of_some _ e
  have I3 : Inv X pins σ (upd H2 D (.lst [])) s3 := by
    rw [← hs3]; exact I2.laid (t' := s2.toks) (fun b o e => Heap.get?_push_of_some _ e) (Nat.le_of_eq hD) ⟨Nat.zero_le _, [], 0, .nil, by rw [← hD]; exact Heap.get?_push_size _ rfl⟩
  have sz : ∀ b ∈ fp, b < D := fun b hb => by
    obtain ⟨o, e, _⟩ := T.obj _ _ st2 b hb
    rw [← hD]; exact Heap.lt_size e
  have f3 : ∀ b ∈ fp, FpOk X pins (upd H2 D (.lst [])) b ∧ b < s3.heap.objs.size := fun b hb => by
    obtain ⟨o, e, _⟩ := T.obj _ _ st2 b hb
    exact ⟨⟨by rw [upd_ne (Nat.ne_of_lt (sz b hb))]; exact (f2 b hb).1, (f2 b hb).2⟩, Heap.lt_size (up3 _ _ e)⟩
  have st3 : tn 0 s3.heap := T.keep _ _ _ st2 fun b _ o e => up3 b o e
  have I4 := block_start I3 ok hN f3
  generalize hcl : cellsFrom (s3.heap.objs.size + 1) scope.names (cloFrom X.env.cells scope.names []) = cl at I4
  generalize hH3 : upd H2 D (.lst []) = H3 at *
  have pg := hg s3 H3 s3.heap.objs.size cl fp
  have pe := he s3 H3 s3.heap.objs.size cl fp
  show codeAny _ _ (.compStart (.ListComp elt [⟨tg, iter, [], 0⟩] scope pos) 0 (.ref it) (.ref D) (compEnvC scope cl s3.heap.objs.size X.env)) (compPost (model X.prog X.w) X.A X.xe none (EP X pins σ Q) (.ref D) s3.heap.objs.size) _
  generalize hce : compEnvC scope cl s3.heap.objs.size X.env = ce at I4 pg pe ⊢
  have cL : ce.locals = s3.heap.objs.size := by subst hce; rfl
  generalize hs4 : ({ s3 with heap := pushCells (s3.heap.push { cls := .type "dict", data := .dict #[] }) scope.names } : Shared) = s4 at I4 ⊢
  have pin0 := I3.pin p (List.mem_append_left _ hpx)
  have kp4 : ∀ b o, s3.heap.get? b = some o → s4.heap.get? b = some o := fun b o e => by rw [← hs4]; exact pushCells_keeps _ _ _ _ (Heap.get?_push_of_some _ e)
  have npl : p.1 ≠ ce.locals := by rw [cL]; exact Nat.ne_of_lt (Heap.lt_size pin0.1)
  have J4 : Inv (blkH X p s3 H3 scope ce fp) [] (wipe σ (own.map (·.2))) H3 s4 := inv_blkH I4 ⟨kp4 _ _ pin0.1, pin0.2.1, npl, fun hm => (List.mem_cons.mp (I3.stkSub p.1 hm)).elim pin0.2.2.1 pin0.2.2.2.1, pin0.2.2.2.2⟩
  have hcB : HotC (blkH X p s3 H3 scope ce fp) := ⟨p, hot, List.mem_singleton.mpr rfl⟩
  have st4 : tn 0 s4.heap := T.keep _ _ _ st3 fun b _ o e => kp4 b o e
  have stat : ∀ {σ' : L2.St} {H' : Hp} {s' : Shared}, Inv (blkH X p s3 H3 scope ce fp) [] σ' H' s' → (∀ b ∈ fp, H' b = none) → ∀ b ∈ fp, FpOk (blkH X p s3 H3 scope ce fp) [] H' b := fun {σ' H' s'} I' hn b hb =>
    ⟨hn b hb, (I'.ok.exf b hb).1, I'.ok.exfs b hb, .inl hb, fun x c e => (I'.ok.exf b hb).2 x c e, fun r hr => by
      obtain rfl : r = p := by simpa using hr
      exact (f3 b hb).1.2.2.2.2.2 r (List.mem_append_left _ hpx)⟩
  have loop : codeAny (model X.prog X.w) X.A (.compLoop (.ListComp elt [⟨tg, iter, [], 0⟩] scope pos) 0 (.ref it) (.ref D) ce) (compPost (model X.prog X.w) X.A X.xe none (EP X pins σ Q) (.ref D) s3.heap.objs.size) s4 := by
    refine compLoop_any (fun n s' => ∃ i H', Inv (blkH X p s3 H3 scope ce fp) [] (wipe σ (own.map (·.2))) H' s' ∧ tn i s'.heap ∧ (∀ b ∈ fp, H' b = none) ∧ W i n H') ?_ m0 ⟨0, H3, J4, st4, fun b hb => (f3 b hb).1.1, w0⟩
    rintro n s5 ⟨i, H5, I5, st5, n5, w5⟩
    rcases turn i n H5 w5 with ⟨stop, qq⟩ | ⟨go, Nx, hNx, step⟩
    · refine thnF (T.done (blkH X p s3 H3 scope ce fp) rfl rfl rfl hcB i [] s5 _ H5 (fun _ _ => False) I5 (stat I5 n5) st5 stop) fun r s6 ⟨hr, I6⟩ => ?_
      subst hr
      have I7 : Inv X pins σ H5 s6 := I3.call' (ch := fp) I6.os I6.base I6.hok I6.bare fun b hb => (f3 b hb).1.2 |> fun z => ⟨z.2.2.1, z.1, z.2.2.2.1, z.2.2.2.2⟩
      have nC : H5 ce.locals = none := I6.free
      obtain ⟨m, hn, _⟩ := I6.loc
      replace hn : s6.heap.Ns ce.locals m := hn
      rw [cL] at hn nC
      obtain ⟨f0, f1, f2', f4, f5, f6⟩ := I3.fpOk (Nat.le_refl _) nC
      exact ⟨m, hn, fun h'' sb => ⟨.ref D, H5, I7.turned (t' := s6.toks) (fun b o hb e => (sb.2 b hb).trans e) f0 f1 f4 f5 f6, rfl, qq⟩⟩
    · refine thnF (T.item (blkH X p s3 H3 scope ce fp) rfl rfl rfl hcB i [] s5 _ H5 (fun _ _ => False) I5 (stat I5 n5) st5 go) fun r s6 ⟨u, hr, h6⟩ => ?_
      subst hr
      refine thnF h6 fun _ s7 ⟨x, H7, I7, r7, y7, st7, n7⟩ => thnF (pg.run _ s7 _ H7 x u _ (I7.pinned (stat I7 n7) (T.obj _ _ st7)) r7 (step x H7 y7)) fun _ s8 ⟨σ8, H8, I8, hw8, q8⟩ => ?_
      refine thnF ((pts_nil (X := blkH X p s3 H3 scope ce fp)).run _ s8 σ8 H8 _ I8 q8) fun b s9 ⟨H9, I9, q9⟩ => ?_
      have fin : ∀ {s' : Shared} {H' : Hp}, Inv (blkH X p s3 H3 scope ce fp) ([] ++ pinsAt fp s7.heap) σ8 H' s' → Nx H' → ∃ m, m < n ∧ ∃ i H', Inv (blkH X p s3 H3 scope ce fp) [] (wipe σ (own.map (·.2))) H' s' ∧ tn i s'.heap ∧ (∀ b ∈ fp, H' b = none) ∧ W i m H' := fun {s' H'} I' nx => by
        obtain ⟨m', hm, w'⟩ := hNx H' nx
        have keepPin : ∀ b ∈ fp, ∀ o, s7.heap.get? b = some o → s'.heap.get? b = some o ∧ H' b = none := fun b hb o e => (I'.pin (b, o) (List.mem_append_right _ (List.mem_append_right _ (mem_pinsAt hb e)))) |> fun z => ⟨z.1, z.2.1⟩
        refine ⟨m', hm, i + 1, H', (I'.unpinned (pins := [])).weak (by rw [← hw8, wipe_length]) (fun j v e => (wipe_some (by rw [hw8]; exact e)).1), T.keep _ _ _ st7 fun b hb o e => (keepPin b hb o e).1, fun b hb => ?_, w'⟩
        obtain ⟨o, e, _⟩ := T.obj _ _ st7 b hb
        exact (keepPin b hb o e).2
      cases b with
      | false => exact fin I9 (by simpa using q9)
      | true =>
        simp only [if_true] at q9 ⊢
        exact thnF (pe.run _ s9 σ8 H9 _ I9 q9) fun z s10 ⟨yv, H10, I10, r10, acc, hD10, hz10, nx⟩ => app_ok (X := blkH X p s3 H3 scope ce fp) I10 hD10 hz10 r10 fun s11 I11 => fin I11 nx
  exact codeAny_compStart_list loop (T.self X.A 0 _ _ _ st4 loop)
end
end AbH

/-! AbK -/
/-! Own exceptions whose context is known to be None: making, raising, catching; isinstance of one that bears attributes. -/
namespace AbH
open PySem PySem.Spec PyProof.Rows HotX L2 L2H
section
variable {X : Cx} {es : List Expr} {e : Expr} {ta : TA} {p pos : Pos}
/-- C(e, ..) where nothing is handled -/
theorem pmkN_oex {CX : CXT} {x : Str} {C fI : Addr} {k : Nat} {fd : FuncData} {ps : List Str} {sp : Sp} (T : OexC X.K C) (iC : PySem.W.findIn X.K (.ref C) "__init__" = some (some (.ref fI))) (tI : PySem.W.typeIn X.K (.ref fI) = some (.type "function")) (F1 : FnOk X.prog X.w X.K X.mg X.base CX k fI fd ps sp) (hr : Room (k + 1) X.A)
    (hb : Binds X.K fd ps []) (hx : Passes CX X (fun _ _ _ => False)) (hg : Gl X x) (hm : X.mg x = some (.ref C)) (ha : PA X (e :: es) ta) (hdb : (x == ("__debug__" : Str)) = false := by decide) (he : starEach (e :: es) X.env = (false, eval e X.env) :: starEach es X.env := by rfl)
    (hpl : (backTo pos (starEach es X.env)).any (·.1) = false := by rfl) : L2N.PMk X (.Call (.Name x p) (e :: es) [] pos) (tMkO C sp [] ta) := by
  intro pins s σ H Q I h
  obtain ⟨nm, q, N, bs, bm, sn, sub, ab, col, dd, k0, k1, k2, k3, k5, hC, hbm⟩ := T.cls
  refine wpAny_Call_Name_kw (ld_glob I hg hm (PySem.W.callWith_K (h₀ := X.base) I.ok.mod.kin T.kC (thn (ha.run pos pins s σ H _ I h) fun us s1 ⟨vs, H1, I1, r1, hz, q1⟩ => ⟨I1.kIn, ?_⟩) he hpl) hdb)
  change wpAny _ _ (call (.ref C) us) _ _ _; obtain ⟨hp, g, dr, tk, os⟩ := s1
  generalize hn : hp.objs.size + 1 = n
  have le1 : hp.objs.size ≤ n := by rw [← hn]; exact Nat.le_succ _
  have hq := q1 n (I1.hok.fresh le1)
  rw [List.append_nil] at hq
  generalize hh2 : (hp.push (PySem.W.kdv_tup us)).push (PySem.HandSPX.excO C hp.objs.size) = hp2
  have kk : ∀ b o, hp.get? b = some o → hp2.get? b = some o := fun b o e => by rw [← hh2]; exact Heap.get?_push_of_some _ (Heap.get?_push_of_some _ e)
  have hget : hp2.get? n = some (PySem.HandSPX.excO C hp.objs.size) := by rw [← hh2, ← hn]; heap_get
  have I2 : Inv X pins σ (upd H1 n (exo n C none)) ⟨hp2, g, dr, tk, os⟩ := I1.laid (t' := tk) (a := n) (o := exo n C none) (h' := hp2) kk le1 (exo_ok hget)
  have r2 : Vals (V.ref n :: vs) (Value.ref n :: us) := .cons rfl r1
  have hl : (Value.ref n :: us ++ []).length = ps.length := by rw [List.append_nil, ← r2.length, F1.len _ _ _ _ hq]
  have b2 := hb _ (Value.ref n :: us) I2.kIn hl
  rw [List.append_nil] at b2
  have hus : us.length ≤ sizeLine := by rw [← Paired.length r1, sizeLine_eq]; omega
  subst hn hh2
  refine wpAny_call (PySem.HandSPX.call_own F.excBase_ValueError (fun Y => PySem.HandSPX.refsVE_contains Y bm hbm) (I1.kIn _ _ hC) (PySem.W.looks_findIn I1.kIn iC) (fun self => PySem.W.bind_fn I1.kIn self tI) hus (codeAny_mono (F1.run _ X.stack _ _ ⟨_, []⟩ _ _ _ (fun _ _ _ => False) (hr.make C us []) (I2.env0.make C us []) b2 r2 hq) fun r s' hq' => ?_))
  rcases r with er | fl
  · exact hx pins σ _ _ er s' I2 hq'
  · cases fl with
    | ret u =>
      obtain ⟨v, H2, os2, bare2, un2, hok2, rv, rfl, d, fs, ea, ed, hd1, q2⟩ := hq'
      obtain ⟨h2, g2, d2, t2, os'⟩ := s'
      obtain ⟨t0, G, J, kG, ge, hoe, na⟩ := mk_end0 (d2 := d2) (t2 := t2) I1 le1 kk un2 hok2 os2 bare2 ea ed hd1
      exact ⟨rv, _, _, _, ⟨G, g2, d2, t2, os'⟩, _, .ref C, some d, rfl, J, kG, ge, hoe, ⟨rfl, rfl, fun vs hv => by cases hv; rfl⟩, rfl, rfl, na, rfl, bare2, raises_own T.exC T.tyC, q2⟩
    | next => exact hq'.elim
    | brk => exact hq'.elim
    | cont => exact hq'.elim
/-- C(e, ..), what it lets out told by the places -/
def tMakeS (C : Addr) (sp : Sp) (E : L2.St → XK) (t : TA) : TE := fun σ H Q => t σ H fun vs H1 => ∀ x dx, H1 x = none → H1 dx = none → dx ≠ x → sp (.ref x :: vs) (upd (upd H1 dx (.own x)) x (.ins C dx [])) (fun v H2 => v = .non ∧ Q (.ref x) H2) (E σ)
theorem pe_makeS {CX : CXT} {x : Str} {C f : Addr} {k : Nat} {fd : FuncData} {ps : List Str} {sp : Sp} {E : L2.St → XK} (M : Mk X.K C f) (F : FnOk X.prog X.w X.K X.mg X.base CX k f fd ps sp) (hr : Room (k + 1) X.A) (hg : Gl X x) (hm : X.mg x = some (.ref C)) (hb : Binds X.K fd ps []) (hx : ∀ σ, PassesAt CX X σ (E σ)) (ha : PA X (e :: es) ta)
    (hdb : (x == ("__debug__" : Str)) = false := by decide) (he : starEach (e :: es) X.env = (false, eval e X.env) :: starEach es X.env := by rfl) (hpl : (backTo pos (starEach es X.env)).any (·.1) = false := by rfl) : PE X (.Call (.Name x p) (e :: es) [] pos) (tMakeS C sp E ta) := by
  refine ⟨fun pins s σ H Q I h => wpAny_Call_Name_kw (ld_glob I hg hm (PySem.W.callWith_K (h₀ := X.base) I.ok.mod.kin M.kp (thn (ha.run pos pins s σ H _ I h) fun us s1 ⟨vs, H1, I1, r, q⟩ => ⟨I1.kIn, ?_⟩) he hpl) hdb)⟩
  generalize hn : s1.heap.objs.size = n
  have hq := q (n + 1) n (I1.hok.fresh (by rw [hn]; exact Nat.le_succ _)) (I1.hok.fresh (by rw [hn]; exact Nat.le_refl _)) (Nat.ne_of_lt (Nat.lt_succ_self _))
  have I2 := Inv.made (C := C) I1
  rw [hn] at I2
  have r2 : Vals (V.ref (n + 1) :: vs) (Value.ref (n + 1) :: us) := .cons rfl r
  have hl : (Value.ref (n + 1) :: us ++ []).length = ps.length := by rw [List.append_nil, ← r2.length, F.len _ _ _ _ hq]
  have b2 := hb _ (Value.ref (n + 1) :: us) I2.kIn hl
  rw [List.append_nil] at b2
  subst hn
  refine wpAny_call (make_map (f := f) I1.kIn M.makes M.init (beq_iff_eq.mp M.fn) (codeAny_mono (F.run _ X.stack _ _ ⟨_, []⟩ _ _ _ (E σ) (hr.make C us []) (I2.env0.make C us []) b2 r2 hq) fun r s' hq' => ?_))
  rcases r with er | fl
  · exact hx σ pins _ _ er s' I2 hq'
  · cases fl with
    | ret u =>
      obtain ⟨v, H', I3, rv, rfl, q3⟩ := I2.after hq'
      exact ⟨rv, V.ref (s1.heap.objs.size + 1), H', I3, rfl, q3⟩
    | next => exact hq'.elim
    | brk => exact hq'.elim
    | cont => exact hq'.elim
end
section
variable {P : Program} {w : World} {K : PySem.W.Frag} {mg : Str → Option Value} {base : Heap}
/-- a def that may raise, the context of what it raises known -/
theorem _root_.L2.Fun.okN {x qual : Str} {st : Stmt} {f : Addr} {fd : FuncData} {N ps : List Str} {k : Nat} {sp : Sp} (F : Fun K x qual st f fd) (S : FnScope N ps (defScope st)) (len : ∀ vs H Q E, sp vs H Q E → vs.length = ps.length) (hbody : ∀ (cdv : Value) (A : Around) (outer : List Env) (s : Shared) (H : Hp) (vs : List V) (Q : VK) (E : XK),
      Room k (A.deeper (envOfC qual (defScope st) s.heap.objs.size f cdv)) → sp vs H Q E → ∃ t, PSs (cxOf (L2N.CX P w) P w K mg base N qual (defScope st) f cdv A outer s H E) (defBody st) t ∧ t { nx := fun _ H' => Q .non H', rt := Q } (L2.start N vs) H) : FnOk P w K mg base (L2N.CX P w) (k + 1) f fd ps sp := by
  obtain ⟨oc, od, kV, doc, pm, an, cdv, ct, osl, rfl, lk, hcd⟩ := F.ex
  exact fn_of lk hcd S len fun A outer s H vs Q E hr hsp => hbody cdv A outer s H vs Q E hr hsp
/-- a def called while an exception is handled -/
theorem okH {x qual : Str} {st : Stmt} {f : Addr} {fd : FuncData} {N ps : List Str} {k : Nat} {F : Ab.FS} (Fn : Fun K x qual st f fd) (Sc : FnScope N ps (defScope st)) (len : ∀ ss Φ Ψ, F ss Φ Ψ → ss.length = ps.length)
    (hb : ∀ (cdv : Value) (Ar : Around) (outer : List Env) (s : Shared) (H : Hp) (Er : XK) (p : Addr × Obj), Hot1 Ar p → RoomH k (Ar.deeper (envOfC qual (defScope st) s.heap.objs.size f cdv)) →
      ∃ t, PSs (cxH CX0 P w K mg base N qual (defScope st) f cdv Ar outer s H Er p) (defBody st) t ∧ ∀ ss Φ Ψ, F ss Φ Ψ → Ab.S t (Ab.entry N ss) { nx := fun _ => Φ (Ab.vS .non), rt := fun s _ => Φ s, bk := fun _ => False, ct := fun _ => False }) : FnH P w K mg base CX0 (k + 1) f fd ps (Ab.spOf F) := by
  obtain ⟨oc, od, kV, doc, pm, an, cdv, ct, osl, rfl, lk, hcd⟩ := Fn.ex
  refine fn_ofH lk hcd Sc (fun vs H Q E ⟨B, ss, Φ, Ψ, b, p, hf, _⟩ => by rw [p.length, len ss Φ Ψ hf]) fun A outer s H vs Q E p hot hr h => ?_
  obtain ⟨t, ht, hs⟩ := hb cdv A outer s H E p hot hr
  obtain ⟨B, ss, Φ, Ψ, b, ps', hf, k1, k2⟩ := h
  exact ⟨t, ht, hs ss Φ Ψ hf B H _ _ B H ⟨fun Γ σ B' H' a q => k1 _ .non B' H' a.to rfl q, fun s v Γ σ B' H' a pv q => k1 s v B' H' a.to pv q, fun _ _ _ _ _ z => z.elim, fun _ _ _ _ _ z => z.elim, fun _ _ _ _ _ _ _ _ z => z.elim⟩ (Ab.at_entry b ps')⟩
end
end AbH
namespace AbW
open PySem PySem.Spec PySem.Calls PyProof.Rows PySem.W
section
variable {prog : Program} {w : World} {A : Around} {E : Value → Shared → Prop} {s : Shared} {K : Frag} {x D : Addr} {ox : Obj}
theorem find_data {C : Addr} {od : Option Obj} {name : Str} {a g : Value} (hc : (clsIn K C).isSome = true) (ha : findIn K (.ref C) name = some (some a)) (hg : specialIn K a "__get__" = some (some g)) (ht : takesIn K a = some true) : findObj K C od name = some (.bind g a) := by
  obtain ⟨cd, hc⟩ := Option.isSome_iff_exists.mp hc
  simp [findObj, hc, ha, hg, ht]
/-- e.__class__, e an own exception with or without attributes -/
theorem class_of {Q : Option Value → Shared → Prop} {od : Option Obj} (C : L2.ExcC K D) (X : K.In s.heap) (I : InstAt s.heap x ox D od) (h : Q (some (.ref D)) { s with toks := s.toks + 1 }) : wpAny (model prog w) A (getAttr? (.ref x) "__class__") Q E s := by
  have hf : findObj K D od "__class__" = some (.bind (.builtin "getset_descriptor.__get__") (.builtin "object.__class__")) := find_data (by obtain ⟨cd, hc, _⟩ := any_some C.hd; rw [hc]; rfl) C.ha C.hn C.ht
  obtain ⟨hp, g, d, t, os⟩ := s
  have L0 := I.type (M := model prog w)
  have L3 := looks_find (M := model prog w) X I hf
  have sub : Looks (model prog w) hp (isInstance (.ref x) (.type "BaseException")) true := L0.andThen (looks_subIn X C.hs)
  have hx1 : (onTheHeap (Value.ref D) && Value.builtin "BaseException.__getattribute__" == Value.builtin "object.__getattribute__") = false := by rw [show (Value.builtin "BaseException.__getattribute__" == Value.builtin "object.__getattribute__") = false by decide +kernel]; rfl
  unfold getAttr? getAttrBy? getAttrBy; refine wpAny_bind (wpAny_mkText (wpAny_bind (wpAny_attempt (wpAny_holding (wpAny_bind (L0.at (wpAny_bind ((looks_findIn (M := model prog w) X C.hg).at ?_))))))))
  change wpAny _ _ (if (onTheHeap (Value.ref D) && Value.builtin "BaseException.__getattribute__" == Value.builtin "object.__getattribute__") = true then _ else _) _ _ _; rw [hx1, if_neg Bool.false_ne_true]
  unfold getAttrByItsOwn hookBefore; refine wpAny_bind ?_; rw [if_pos (show onTheHeap (Value.ref D) = true from rfl)]; refine (looks_findIn (M := model prog w) X C.hk).at (wpAny_bind (wpAny_attempt (wpAny_holding ?_)))
  unfold callGetattribute; rw [show (false && onTheHeap (Value.builtin "BaseException.__getattribute__")) = false from rfl, if_neg Bool.false_ne_true]; unfold boundAndCalled; rw [PySem.F.excAttr_ValueError.ga.bind (.ref x)]; refine wpAny_bind (wpAny_pure ?_)
  change wpAny _ _ (call (.builtin "BaseException.__getattribute__") [.ref x, .str "__class__" t]) _ _ _; refine wpAny_call (codeAny_call_builtin PySem.F.excAttr_ValueError.ga.plain PySem.F.entry_bexc_ga ?_)
  refine @check_slot (model prog w) _ _ ⟨hp, g, d, t + 1, os⟩ "BaseException.__getattribute__" "BaseException" "__getattribute__" (.ref x) [.str "__class__" t] [] _ (by decide +kernel) (by decide +kernel) sub (PySem.F.args_bexc_ga (.ref x) (.str "__class__" t)) ?_; unfold Builtin.«object.__getattribute__»
  refine wpAny_bind (wpAny_of_eq (a := ((Value.ref x : Value), [Value.str "__class__" t])) (by first | rfl | (simp only [slotArgs]; rfl)) (wpAny_bind (wpAny_pure (wpAny_bind (L0.at (wpAny_bind (L3.at ?_)))))))
  change wpAny _ _ (holding [Value.builtin "object.__class__"] (call (.builtin "getset_descriptor.__get__") [.builtin "object.__class__", .ref x, .ref D]) >>= ret) _ _ _
  refine wpAny_bind (wpAny_holding (wpAny_call (class_get (s := ⟨hp, g, d, t + 1, os⟩) (ox := ox) (od := od) X I C.hm (wpAny_pure ?_))))
  change wpAny _ _ (handedOut (.ref D)) _ _ _; rw [handedOut_of (v := .ref D) rfl]
  first
    | exact wpAny_pure (wpAny_pure h)
    | exact wpAny_pure h
    | exact wpAny_pure (wpAny_bind (wpAny_pure (wpAny_pure h)))
theorem kit_exc (C : L2.ExcC K D) : KitX K (.ref x) (.ref D) (fun h => ∃ od, InstAt h x ox D od) := by
  obtain ⟨cdD, hcD, _⟩ := any_some C.hd
  unfold clsIn at hcD
  split at hcD
  case h_2 => cases hcD
  rename_i c' d' cd' sl' ho
  refine ⟨fun _ _ _ ⟨_, I⟩ => I.type, fun _ _ X _ A' Q' E' s' k q => ?_, fun h tp dd its n sl X htp => Bool.eq_false_iff.mpr fun q => ?_, fun X ⟨_, I⟩ k => class_of C X I k⟩
  · unfold isType loadHead
    exact wpAny_bind (wpAny_loadPart (k _ _ (X _ _ ho)) (wpAny_pure q))
  · obtain rfl : D = tp := Value.ref.inj (beq_iff_eq.mp q)
    exact nomatch (X _ _ ho).symm.trans htp
end
end AbW

/-! AbL -/
namespace AbH
open PySem PySem.Spec PyProof.Rows HotX L2 L2H
/-! ### the caught exception -/
/-- isinstance(e, c), e the exception that the suite holds, its attributes in the dict d -/
def rIsD (K : PySem.W.Frag) (D a : Addr) (cls : Value) (d : Option Addr) : List V → Hp → VK → Prop := fun xs H Q => ∃ (c : V) (cv : Value) (b : Bool) (dd : Addr) (fs : List (Str × V)), xs = [.ref a, c] ∧ cls = .ref D ∧ d = some dd ∧ H dd = some (.xd fs) ∧ (∀ u, RelV c u → u = cv) ∧ PySem.W.kitOne K (.ref D) cv = some b ∧ Q (.bl b) H
theorem call_isD {X : Cx} {a D : Addr} {oe : Obj} {pn : List (Addr × Obj)} {cls : Value} {d : Option Addr} (C : ExcC X.K D) (hz : Zc cls d oe) (hf : ∃ vs, oe.data = .fields vs) : CallR (X.suite a ((a, oe) :: pn)) (.builtin "isinstance") (rIsD X.K D a cls d) := by
  rintro pins s σ H xs us Q I r ⟨c, cv, b, dd, fs, rfl, rfl, rfl, hd, hcv, e, q⟩
  obtain ⟨u1, u2, rfl, rx, rt⟩ := vals2 r
  obtain rfl : u1 = Value.ref a := rx
  obtain rfl := hcv _ rt
  obtain ⟨hget, _⟩ := I.pin (a, oe) (List.mem_append_left _ (List.mem_cons_self ..))
  obtain ⟨⟨vs, hv⟩, hcls, hdict⟩ := And.intro hf hz
  obtain ⟨mA, ⟨od, es, ep, ho, _⟩, _⟩ := (show ObjOk X.prog X.w H s.heap dd (.xd fs) from I.hok dd _ hd)
  have J : PySem.W.InstAt s.heap a oe D (some od) := ⟨hget, hcls, by unfold PySem.W.notCls; rw [hv] <;> rfl, by rw [hdict]; exact ho⟩
  exact PySem.W.kia_one (AbW.kit_exc C) I.kIn ⟨_, J⟩ e (fun z => nomatch z) fun tk => ⟨.bl b, H, I.kept (t' := tk) fun _ _ z => z, rfl, q⟩
theorem hot_suite {X : Cx} {a : Addr} {oe : Obj} {cls : Value} {d : Option Addr} {pn : List (Addr × Obj)} (hz : L2N.Zn cls d oe) (hf : ∃ vs, oe.data = .fields vs) : HotC (X.suite a ((a, oe) :: pn)) := by
  obtain ⟨vs, hv⟩ := hf
  exact ⟨(a, oe), ⟨rfl, vs, hv, hz.2.2 vs hv⟩, List.mem_cons_self ..⟩
theorem takes_noN {X : Cx} : L2N.Takes X (fun _ _ _ _ => False) := fun _ _ ⟨_, _, _, _, _, _, _, _, _, _, _, _, _, _, _, _, w⟩ => w.elim
theorem FnH.imp' {P : Program} {w : World} {K : PySem.W.Frag} {mg : Str → Option Value} {base : Heap} {CX : CXT} {k : Nat} {f : Addr} {fd : FuncData} {ps : List Str} {sp sp' : Sp} (F : FnH P w K mg base CX k f fd ps sp) (h : ∀ vs H Q E, sp' vs H Q E → sp vs H Q E) : FnH P w K mg base CX k f fd ps sp' :=
  ⟨fun vs H Q E q => F.len vs H Q E (h _ _ _ _ q), fun A outer s H args us vs Q E p hr ht hp he hb hv hs => F.run A outer s H args us vs Q E p hr ht hp he hb hv (h _ _ _ _ hs)⟩
end AbH
namespace Ab
open PySem PySem.Spec PyProof.Rows L2 L2H AbH
/-- the caught exception, its attributes -/
def exS (a : Addr) (d : Option Addr) (gs : List (Str × Slot)) : Slot := ⟨fun v H => v = .ref a ∧ ∃ dd fs, d = some dd ∧ H dd = some (.xd fs) ∧ PFl fs gs H, fun e ⟨h1, dd, fs, h2, h3, h4⟩ => ⟨h1, dd, fs, h2, e _ _ h3, h4.mono e⟩⟩
section
variable {K : PySem.W.Frag} {Γ : List Bd} {Φ : Slot → Prop} {te : TE} {tr : TA} {a : Addr} {d : Option Addr} {gs : List (Str × Slot)}
theorem E_xf {cls : Value} {C : Addr} {f : Str} (h : E te Γ fun s => ∃ gs s', s = exS a d gs ∧ cls = .ref C ∧ gs.lookup f = some s' ∧ Φ s') : E (tXf a cls d C f te) Γ Φ := fun σ B H b rl Q q =>
  h σ B H b rl _ fun s v B1 H1 st p ⟨gs, s', e, ec, hl, k⟩ => by
    subst e
    obtain ⟨rfl, dd, fs, rfl, hd, hf⟩ := p
    obtain ⟨u, hu, pu⟩ := hf.lookup hl
    exact ⟨rfl, ec, dd, fs, u, rfl, st.inn _ _ hd, hu, q s' u B1 H1 st pu k⟩
theorem C_isD {D : Addr} {c : V} {cv : Value} {b : Bool} (hc : ∀ u, RelV c u → u = cv) (hk : PySem.W.kitOne K (.ref D) cv = some b) (k : Φ (vS (.bl b))) : Ab.C (rIsD K D a (.ref D) d) [exS a d gs, vS c] Φ := fun vs B H bb p Q q => by
  cases p with
  | cons h1 p => cases p with
    | cons h2 p =>
      cases p
      obtain ⟨rfl, dd, fs, rfl, hd, hf⟩ := h1
      exact ⟨c, cv, b, dd, fs, by rw [show _ = c from h2], rfl, rfl, bb _ _ hd, hc, hk, q _ _ B H (.refl bb) rfl k⟩
theorem E_callH {F : FS} (h : A tr Γ fun ss => F ss Φ fun _ => False) : E (tCallS (spOf F) (fun _ => E0) tr) Γ Φ := fun σ B H b rl Q q =>
  h σ B H b rl _ fun ss vs B1 H1 st1 p1 f => ⟨B1, ss, Φ, fun _ => False, st1.inn, p1, f, fun s v B2 H2 st2 p k => q s v B2 H2 (st1.trans st2) p k, fun _ _ _ _ _ _ z => z.elim⟩
end
section
variable {K : PySem.W.Frag} {Γ : List Bd} {Φ : Ks} {tr : TA}
/-- try: C(..) except D as e: a suite that returns -/
theorem S_tryMake {F : FI} {C CI : Addr} {i : Nat} {ts : Addr → Value → Option Addr → TS} {Wout : WX} (hx : PySem.W.exmOne K (.ref CI) (.ref CI) = some true)
    (h : A tr Γ fun ss => F ss (fun _ => False) fun x => x.C = CI ∧ ∀ a d, S (ts a (.ref CI) d) (Γ.set i (.pl (exS a d x.fs))) { Φ with nx := fun _ => False, bk := fun _ => False, ct := fun _ => False, er := E0, ex := fun _ => False }) :
    S (fun D σ H => tDrop (tMakeS C (spInit C F) (WE (wAs K (.ref CI) i ts Wout D)) tr) D σ H) Γ Φ := fun B0 H0 D σ B H dk at0 =>
  h σ B H at0.inn at0.rel _ fun ss vs B1 H1 st p k x dx hx1 hdx ne => by
    have hB : B1 x = none := st.inn.free hx1
    have hBd : B1 dx = none := st.inn.free hdx
    have hd2 : upd (upd H1 dx (.own x)) x (.ins C dx []) dx = some (.own x) := by rw [upd_ne ne]; exact upd_same
    have s1 : Step B1 H1 (upd B1 dx (.own x)) (upd (upd H1 dx (.own x)) x (.ins C dx [])) := ⟨fun a o e => by
        by_cases ha : a = dx
        · subst ha; rw [upd_same] at e; cases e; exact hd2
        · rw [upd_ne ha] at e
          rw [upd_ne (ne_of_none e hB), upd_ne ha]
          exact st.inn _ _ e, fun a o e => by rw [upd_ne (ne_of_none e hBd)]; exact e, fun a h1 h2 => by
        have n1 : a ≠ dx := fun z => h2 (by rw [z]; exact hdx)
        have n2 : a ≠ x := fun z => h2 (by rw [z]; exact hx1)
        rw [upd_ne n1, upd_ne n2, upd_ne n1]
        exact ⟨h1, rfl⟩⟩
    have a2 := (at0.step st).step s1
    refine ⟨upd B1 dx (.own x), x, dx, vs, ss, _, _, rfl, upd_same, by rw [upd_ne (fun z => ne z.symm)]; exact hB, s1.inn, p.mono s1.base, k, fun gs fs B' H' st' pf f => f.elim, fun e d B' H' st' ea f => ⟨true, by rw [f.1]; exact hx, fun _ a ha => ?_, fun z => nomatch z⟩⟩
    obtain ⟨e1, f⟩ := f
    obtain ⟨dd, fs, rfl, hd, hf⟩ := ea
    rw [e1]
    exact f a (some dd) B0 H0 _ _ B' H' ⟨fun _ _ _ _ _ z => z.elim, fun s v Γ' σ' B2 H2 at2 pv k2 => dk.rt s v Γ' σ' B2 H2 at2 pv k2, fun _ _ _ _ _ z => z.elim, fun _ _ _ _ _ z => z.elim, fun _ _ _ _ _ _ _ _ z => z.elim⟩ ((a2.step st').set (s := exS a (some dd) e.fs) ⟨rfl, dd, fs, rfl, hd, hf⟩)
end
section
variable {K : PySem.W.Frag} {Γ : List Bd} {Φ : Slot → Prop} {ta : TA} {g : TG} {te : TE} {vs : List Nat}
/-- over zip of two tuples of one length, an exception being handled -/
theorem E_lcZH (xs : List (Slot × Slot)) (f : Slot × Slot → Slot) (h : A ta Γ fun ss => ss = [tupS K (xs.map (·.1)), tupS K (xs.map (·.2))]) (hn : xs.length ≤ 50000) (ht : ∀ x ∈ xs, LcT g tYes te vs Γ (tupS K [x.1, x.2]) true (f x)) (k : Φ (lstS (xs.map f))) : E (tLc (iZipH K ta) g tYes te vs) Γ Φ := fun σ B H b rl Q q =>
  h σ B H b rl _ fun ss vv B1 H1 st pv e => by
    subst e
    cases pv with
    | cons pa pv => cases pv with
      | cons pb pv =>
        cases pv
        obtain ⟨la, ua, rfl, hla, hpa⟩ := pa
        obtain ⟨lb, ub, rfl, hlb, hpb⟩ := pb
        have la1 : ua.length = xs.length := by rw [hpa.length, List.length_map]
        have lb1 : ub.length = xs.length := by rw [hpb.length, List.length_map]
        refine ⟨la, lb, ua, ub, rfl, Same.tup st.inn hla, Same.tup st.inn hlb, fun Dl hD => ?_⟩
        refine ⟨fun i m H' => m = xs.length - i ∧ i ≤ xs.length ∧ LcP B1 H1 Dl ((xs.take i).map f) H', ⟨xs.length, by simp, Nat.zero_le _, by simpa using LcP.start st.inn hD⟩, ?_⟩
        rintro i m H' ⟨rfl, hi, w⟩
        obtain ⟨B', ys, st', hB, hH, py⟩ := id w
        have qa : SqT K H' la ua := Same.tup st'.inn (Same.tup st'.base hla)
        have qb : SqT K H' lb ub := Same.tup st'.inn (Same.tup st'.base hlb)
        by_cases hlt : i < xs.length
        · refine .inr ⟨⟨ua, ub, ua[i], ub[i], qa, qb, by simp, by simp⟩, LcP B1 H1 Dl ((xs.take (i + 1)).map f), fun H2 p' => ⟨xs.length - (i + 1), by omega, rfl, hlt, p'⟩, fun v H2 y => ?_⟩
          obtain ⟨Tp, x, y, rfl, hT, rfl, ea, eb⟩ := y
          obtain ⟨sa, es, psa⟩ := hpa.getR (ea ua qa)
          obtain ⟨z, ez, rfl⟩ := mapGet es
          obtain ⟨sb, es2, psb⟩ := hpb.getR (eb ub qb)
          obtain ⟨z2, ez2, rfl⟩ := mapGet es2
          rw [ez] at ez2; cases ez2
          have hl2 : ys.length < 60000 := by
            rw [py.length, List.length_map, List.length_take]
            omega
          have hTD : Dl ≠ Tp := fun z => by rw [← z, hH] at hT; cases hT
          have st2 := st'.trans (Step.new (o := .tup [x, y]) st'.inn hT)
          have sm : Same B' (upd B' Tp (.tup [x, y])) := (Step.new (o := .tup [x, y]) st'.inn hT).base
          have := (ht z (List.mem_of_getElem? ez)).run (x := .ref Tp) (rl.step st) hD st2 (by rw [upd_ne hTD]; exact hB) (by rw [upd_ne hTD]; exact hH) (py.mono sm) hl2
            ⟨Tp, [x, y], rfl, .inl (.inl upd_same), .cons (z.1.mono (st'.base.trans sm) psa) (.cons (z.2.mono (st'.base.trans sm) psb) .nil)⟩
          rw [show (xs.take (i + 1)).map f = (xs.take i).map f ++ [f z] by rw [List.take_succ, ez]; simp]
          exact this
        · have e : i = xs.length := by omega
          subst e
          rw [List.take_length] at w
          obtain ⟨B', st', pl⟩ := w.fin st.inn hD
          exact .inl ⟨⟨ua, ub, qa, qb, by omega⟩, q _ _ B' H' (st.trans st') pl k⟩
end
end Ab

/-! AbM -/
/-! AbM: generator defs whose consumer may change objects of its own between the turns. -/
namespace AbM
open PySem PySem.Spec PyProof.Rows L2 GenW

/-- who takes what is handed out: the objects that it may change meanwhile; what stands in them of all that was handed out -/
structure Tk where
  cs : List Addr
  hist : List V → Heap → Prop
  cong : ∀ (ys : List V) (h h' : Heap), (∀ b ∈ cs, ∀ o, h.get? b = some o → h'.get? b = some o) → hist ys h → hist ys h'
/-- the generator slept from s to s', the taker had v -/
structure Rest (k : Tk) (v : Value) (s s' : Shared) : Prop where
  os : s'.os = s.os
  bare : AllBare s'.gens
  keep : ∀ b o, b ∉ k.cs → s.heap.get? b = some o → s'.heap.get? b = some o
  mine : ∀ b ∈ k.cs, ∃ o, s'.heap.get? b = some o ∧ ∀ v, o.data ≠ .cell v
  own : ∀ ys x, RelV x v → k.hist ys s.heap → k.hist (ys ++ [x]) s'.heap
/-- the taker's objects are none of the generator's -/
def Far (X : Cx) (k : Tk) : Prop := ∀ b ∈ k.cs, X.s_0.heap.objs.size ≤ b ∧ b ≠ X.env.locals ∧ (∀ x c, X.env.cells.lookup x = some c → c ≠ b) ∧ ∀ p ∈ X.pn, p.1 ≠ b
/-- running since s₀; ys is out -/
def NI (X : Cx) (k : Tk) (ys : List V) (σ : L2.St) (H : Hp) (s₀ s : Shared) : Prop :=
  (∀ b ∈ k.cs, ∃ o, s₀.heap.get? b = some o) ∧ k.hist ys s₀.heap ∧ Inv X (pinsAt k.cs s₀.heap) σ H s
section
variable {X : Cx} {k : Tk} {ys : List V} {σ : L2.St} {H : Hp} {s₀ s s' : Shared}
theorem NI.same (h : NI X k ys σ H s₀ s) {b : Addr} (hb : b ∈ k.cs) {o : Obj} (e : s₀.heap.get? b = some o) : s.heap.get? b = some o ∧ H b = none ∧ b ≠ X.env.locals ∧ b ∉ X.fs := by
  obtain ⟨_, _, I⟩ := h
  obtain ⟨q1, q2, q3, q4, _⟩ := I.pin (b, o) (List.mem_append_right _ (mem_pinsAt hb e))
  exact ⟨q1, q2, q3, q4⟩
theorem NI.none (h : NI X k ys σ H s₀ s) {b : Addr} (hb : b ∈ k.cs) : H b = none := by
  obtain ⟨o, e⟩ := h.1 b hb
  exact (h.same hb e).2.1
theorem NI.hist (h : NI X k ys σ H s₀ s) : k.hist ys s.heap := k.cong ys _ _ (fun _ hb _ e => (h.same hb e).1) h.2.1
theorem NI.woken {x : V} {v : Value} (F : Far X k) (h : NI X k ys σ H s₀ s) (rv : RelV x v) (z : Rest k v s s') : NI X k (ys ++ [x]) σ H s' s' := by
  have hh := h.hist
  have hno : ∀ b ∈ k.cs, H b = Option.none := fun b hb => h.none hb
  have hL : ∀ b ∈ k.cs, b ≠ X.env.locals ∧ b ∉ X.fs := fun b hb => by
    obtain ⟨o, e⟩ := h.1 b hb
    exact (h.same hb e).2.2
  obtain ⟨hp, _, I⟩ := h
  have I0 : Inv X [] σ H s := I.pins_of fun p hp => absurd hp (by simp)
  have nt : ∀ b u, H b = some u → b ∉ k.cs := fun b u q hb => by rw [hno b hb] at q; cases q
  have hown := z.own _ _ rv hh
  obtain ⟨z1, z2, z3, z4, _⟩ := z
  obtain ⟨h', g, d, t, o⟩ := s'
  have ho : o = s.os := z1
  subst ho
  have J : Inv X [] σ H { s with heap := h', gens := g, drawn := d, toks := t } := by
    refine I0.step (g' := g) (t' := t) (d' := d) (ch := k.cs) (fun b hb => ?_)
      (fun b ob _ _ hc q _ => z3 b ob hc q) (fun b ob _ _ hc q _ => ⟨ob.slots, z3 b ob hc q⟩) (fun _ _ _ _ n => n) (fun b ob hc q => ⟨ob, z3 b ob hc q⟩)
      (fun _ _ q => q) (fun _ _ _ q => q) (fun b ps q => ⟨#[], by rw [q]; simp⟩) (fun m hm => ?_) (fun b u q => ?_) z2
    · obtain ⟨f1, f2, f3, f4⟩ := F b hb
      exact ⟨.inr f1, f2, f3, fun p hp => f4 p (by simpa using hp)⟩
    · obtain ⟨ob, es, ep, ho, r⟩ := hm
      exact ⟨ob, es, ep, z3 _ ob (fun hb => (F _ hb).2.1 rfl) ho, r⟩
    · refine (I0.hok b u q).stay (fun c v hc y => z3 c v ?_ y) (fun _ y => y) fun _ _ y => y
      rcases hc with y | y
      · rw [y]; exact nt b u q
      · exact nt c _ y
  refine ⟨fun b hb => ?_, hown, J.pins_of fun p hp => ?_⟩
  · obtain ⟨ob, e, _⟩ := z4 b hb
    exact ⟨ob, e⟩
  · obtain ⟨hb, e⟩ := of_pinsAt hp
    obtain ⟨ob, e', nc⟩ := z4 p.1 hb
    rw [e] at e'; cases e'
    exact ⟨e, hno _ hb, (hL _ hb).1, (hL _ hb).2, nc⟩
end

/-- what is wanted of an item, behind those that are out -/
abbrev YK := List V → V → Hp → Prop
def NY (X : Cx) (k : Tk) (Yk : YK) : Protocol := fun n s₀ v s kap =>
  ∃ ys x σ H, n + 1 + ys.length = sizeLine ∧ RelV x v ∧ NI X k ys σ H s₀ s ∧ Yk ys x H ∧ ∀ s', Rest k v s s' → kap (.send .none) s'
def NR (X : Cx) (k : Tk) (Q : List V → VK) (F : Value → Shared → Prop) : GenEnd := fun n s₀ r s => match r with
  | .ok (.ret u) => ∃ ys v σ H, n + ys.length = sizeLine ∧ NI X k ys σ H s₀ s ∧ RelV v u ∧ Q ys v H
  | .ok _ => False
  | .error e => F e s
abbrev TN := YK → GEnds → List V → L2.St → Hp → Prop
def NSP (X : Cx) (k : Tk) (D : GEnds) (ys : List V) (s₀ : Shared) (f : Flow) (s : Shared) : Prop :=
  match f with
  | .next => ∃ σ H, NI X k ys σ H s₀ s ∧ D.nx ys σ H
  | .brk => ∃ σ H, NI X k ys σ H s₀ s ∧ D.bk ys σ H
  | .cont => ∃ σ H, NI X k ys σ H s₀ s ∧ D.ct ys σ H
  | .ret u => ∃ v σ H, NI X k ys σ H s₀ s ∧ RelV v u ∧ D.rt ys v H
structure NC (X : Cx) (k : Tk) (A : Around) (c : Code) (fs : List Frame) (gd : Bool → Bool) : Prop where
  far : Far X k
  over : A.over c fs = X.A
  split : splitAtGen fs = none
  guard : fs.any Frame.guarded = false
  gd : gd false = false
structure NK (X : Cx) (k : Tk) (Yk : YK) (A : Around) (R : GenEnd) (c : Code) (fs : List Frame) (K : Flow → Sem PySem.Fin) (J : Value → Sem PySem.Fin) (D : GEnds) : Prop where
  ok : ∀ (n : Nat) (ys : List V) (s₀ s : Shared) (f : Flow), n + ys.length = sizeLine → NSP X k D ys s₀ f s → Seg (model X.prog X.w) A R (NY X k Yk) n s₀ c (K f) fs s
  exc : ∀ (n : Nat) (s₀ : Shared) (e : Value) (s : Shared), X.xe e s → Seg (model X.prog X.w) A R (NY X k Yk) n s₀ c (J e) fs s
/-- a code run from the state: it reaches what follows -/
def NRun {α : Type} (X : Cx) (m : Sem α) (wr : (Flow → Sem PySem.Fin) → (Value → Sem PySem.Fin) → (Bool → Bool) → (List Value → List Value) → Sem PySem.Fin) (t : TN) : Prop :=
  ∀ (A : Around) (k : Tk) (Yk : YK) (R : GenEnd) (n : Nat) (ys : List V) (s₀ : Shared) (c : Code) (fs : List Frame) (K : Flow → Sem PySem.Fin) (J : Value → Sem PySem.Fin) (gd : Bool → Bool) (lv : List Value → List Value) (s : Shared) (σ : L2.St) (H : Hp) (D : GEnds),
    NC X k A c fs gd → n + ys.length = sizeLine → NK X k Yk A R c fs K J D → NI X k ys σ H s₀ s → t Yk D ys σ H →
    Seg (model X.prog X.w) A R (NY X k Yk) n s₀ c (wr K J gd lv) fs s
structure NS (X : Cx) (st : Stmt) (t : TN) : Prop where
  run : NRun (α := Flow) X (exec st X.env) (fun K J gd lv => (exec st X.env).wrap K J gd lv) t
structure NSs (X : Cx) (st : List Stmt) (t : TN) : Prop where
  run : NRun (α := Flow) X (execs st X.env) (fun K J gd lv => (execs st X.env).wrap K J gd lv) t

section
variable {X : Cx} {st : Stmt} {rest : List Stmt}
def nPlain (t : TS) : TN := fun _ D ys σ H => t (D.at ys) σ H
theorem nsp_of {k : Tk} {D : GEnds} {ys : List V} {s₀ s : Shared} {f : Flow} (h1 : ∀ b ∈ k.cs, ∃ o, s₀.heap.get? b = some o) (h2 : k.hist ys s₀.heap) (h : SP X (pinsAt k.cs s₀.heap) (D.at ys) f s) : NSP X k D ys s₀ f s := by
  cases f with
  | next => obtain ⟨σ, H, I, q⟩ := h; exact ⟨σ, H, ⟨h1, h2, I⟩, q⟩
  | brk => obtain ⟨σ, H, I, q⟩ := h; exact ⟨σ, H, ⟨h1, h2, I⟩, q⟩
  | cont => obtain ⟨σ, H, I, q⟩ := h; exact ⟨σ, H, ⟨h1, h2, I⟩, q⟩
  | ret u => obtain ⟨v, σ, H, I, r1, q⟩ := h; exact ⟨v, σ, H, ⟨h1, h2, I⟩, r1, q⟩
theorem ns_ps {t : TS} (h : PS X st t) : NS X st (nPlain t) := by
  refine ⟨fun A k Yk R n ys s₀ c fs K J gd lv s σ H D g hn kk hI ht => seg_wrap ?_⟩
  obtain ⟨h1, h2, I⟩ := hI
  rw [g.over]
  exact wpAny_mono (h.run _ s σ H (D.at ys) I ht) (fun f s' hs => kk.ok n ys s₀ s' f hn (nsp_of h1 h2 hs)) fun x s' hx => kk.exc n s₀ x s' hx
theorem nss_pss {t : TS} (h : PSs X rest t) : NSs X rest (nPlain t) := by
  refine ⟨fun A k Yk R n ys s₀ c fs K J gd lv s σ H D g hn kk hI ht => seg_wrap ?_⟩
  obtain ⟨h1, h2, I⟩ := hI
  rw [g.over]
  exact wpAny_mono (h.run _ s σ H (D.at ys) I ht) (fun f s' hs => kk.ok n ys s₀ s' f hn (nsp_of h1 h2 hs)) fun x s' hx => kk.exc n s₀ x s' hx
def n0 : TN := fun _ D ys σ H => D.nx ys σ H
theorem nss_nil : NSs X [] n0 :=
  ⟨fun A k Yk R n ys s₀ c fs K J gd lv s σ H D g hn kk hI ht => seg_execs_nil (kk.ok n ys s₀ s .next hn ⟨σ, H, hI, ht⟩)⟩
def nThen (t u : TN) : TN := fun Yk D ys σ H => t Yk { D with nx := fun ys' σ' H' => u Yk D ys' σ' H' } ys σ H
theorem nss_cons {t u : TN} (a : NS X st t) (b : NSs X rest u) : NSs X (st :: rest) (nThen t u) := by
  refine ⟨fun A k Yk R n ys s₀ c fs K J gd lv s σ H D g hn kk hI ht => seg_execs_cons ?_⟩
  refine a.run A k Yk R n ys s₀ c fs _ J gd lv s σ H _ g hn ⟨fun n' ys' s₀' s' f hn' hs => ?_, kk.exc⟩ hI ht
  cases f with
  | next =>
    obtain ⟨σ', H', I', q⟩ := hs
    exact b.run A k Yk R n' ys' s₀' c fs K J gd lv s' σ' H' D g hn' kk I' q
  | brk => exact kk.ok n' ys' s₀' s' .brk hn' hs
  | cont => exact kk.ok n' ys' s₀' s' .cont hn' hs
  | ret u => exact kk.ok n' ys' s₀' s' (.ret u) hn' hs
def nYield (te : TE) : TN := fun Yk D ys σ H => ys.length < sizeLine ∧ te σ H fun x H1 => Yk ys x H1 ∧ D.nx (ys ++ [x]) σ H1
theorem ns_yield {e : Expr} {yp pos : Pos} {te : TE} (he : PE X e te) (hco : X.env.scope.isCoroutine = false := by rfl) (hi : interactive X.env = false := by rfl) : NS X (.Expr (.Yield (some e) yp) pos) (nYield te) := by
  refine ⟨fun A k Yk R n ys s₀ c fs K J gd lv s σ H D g hn kk hI ht => ?_⟩
  obtain ⟨hlt, ht⟩ := ht
  obtain ⟨n, rfl⟩ : ∃ m, n = m + 1 := ⟨n - 1, by omega⟩
  obtain ⟨h1, h2, I⟩ := hI
  refine seg_Expr_Yield g.split g.gd g.guard ?_ hco hi
  rw [g.over]
  refine wpAny_mono (he.run _ s σ H _ I ht) (fun v s' hv => ?_) fun x s' hx => kk.exc _ s₀ x s' hx
  obtain ⟨x, H1, I1, rv, q1, q⟩ := hv
  intro kap hk
  refine ⟨ys, x, σ, H1, hn, rv, ⟨h1, h2, I1⟩, q1, fun s'' z => hk .none s'' ?_⟩
  have G2 := NI.woken g.far ⟨h1, h2, I1⟩ rv z
  refine kk.ok n (ys ++ [x]) s'' s'' .next ?_ ⟨σ, H1, G2, q⟩
  rw [List.length_append, List.length_singleton]; omega

/-! ### while -/
def nWhile (c : TT) (tb : TN) : TN := fun Yk D ys σ H => ∃ W : Nat → List V → L2.St → Hp → Prop, (∃ m, W m ys σ H) ∧ ∀ m ys σ H, W m ys σ H →
  c σ H fun b H1 => if b = true then ∃ N : List V → L2.St → Hp → Prop, (∀ ys' σ' H', N ys' σ' H' → ∃ m', m' < m ∧ W m' ys' σ' H') ∧ tb Yk { D with nx := N, ct := N, bk := D.nx } ys σ H1 else D.nx ys σ H1
theorem nc_loop {k : Tk} {A : Around} {c c' : Code} {fs : List Frame} {gd : Bool → Bool} {kf : Result → Sem PySem.Fin} {l kp : List Value} {p : Pos} (g : NC X k A c fs gd) (hw : c'.weight = 0) (hu : c'.cUnits = 0) :
    NC X k A c' (.ret kf none (gd false) l c p kp :: fs) id where
  far := g.far
  over := (over_loop hw hu).trans g.over
  split := by
    show Option.map _ (splitAtGen fs) = none
    rw [g.split]; rfl
  guard := by
    show (gd false || List.any fs Frame.guarded) = false
    rw [g.gd, g.guard]; rfl
  gd := rfl
/-- an exception comes back out of a loop's code -/
theorem nk_back {k : Tk} {Yk : YK} {A : Around} {R : GenEnd} {c : Code} {fs : List Frame} {K : Flow → Sem PySem.Fin} {J : Value → Sem PySem.Fin} {gd : Bool → Bool} {lv : List Value → List Value} {D : GEnds} {n : Nat} {s₀ s : Shared} {e : Value}
    (g : NC X k A c fs gd) (kk : NK X k Yk A R c fs K J D) (h : cameBackBy (model X.prog X.w) X.A X.env X.xe e s) :
    Seg (model X.prog X.w) A R (NY X k Yk) n s₀ c (((Sem.raise e : Sem Flow).onRaise (cameBack X.env)).wrap K J gd lv) fs s := by
  show Seg _ _ _ _ _ _ _ (((cameBack X.env e).bind fun _ => (Sem.raise e : Sem Flow)).wrap K J gd lv) _ _
  rw [Sem.bind_eq_wrap, Sem.wrap_wrap]
  refine seg_wrap ?_
  rw [g.over]
  exact wpAny_mono h (fun _ s' hx => kk.exc n s₀ e s' hx) fun x s' hx => kk.exc n s₀ x s' hx
theorem ns_while {test : Expr} {body : List Stmt} {pos : Pos} {tc : TT} {tb : TN} (hp : PassesOwn (model X.prog X.w) X.A X.env X.xe) (hc : PT X test tc) (hb : NSs X body tb) : NS X (.While test body [] pos) (nWhile tc tb) := by
  refine ⟨fun A k Yk R n ys s₀ c fs K J gd lv s σ H D g hn kk hI ht => ?_⟩
  obtain ⟨W, ⟨m0, w0⟩, turn⟩ := ht
  refine seg_While fun p => ?_
  have gl := fun (kf : Result → Sem PySem.Fin) => nc_loop (kf := kf) (c' := .whileLoop test body [] X.env) (l := lv []) (kp := []) (p := p) g rfl rfl
  have loop : ∀ (m n : Nat) (ys : List V) (s₀ s : Shared) (σ : L2.St) (H : Hp), n + ys.length = sizeLine → W m ys σ H → NI X k ys σ H s₀ s →
      Seg (model X.prog X.w) A R (NY X k Yk) n s₀ (.whileLoop test body [] X.env) ((model X.prog X.w).den (.whileLoop test body [] X.env))
        (.ret (fun r => ((match r with | .ok f => (.pure f : Sem Flow) | .error e => .raise e).onRaise (cameBack X.env)).wrap K J gd lv) none (gd false) (lv []) c p [] :: fs) s := by
    intro m
    induction m using Nat.strongRecOn with
    | ind m ih =>
      intro n ys s₀ s σ H hn w hI
      have ee : ∀ (n : Nat) (s₀ : Shared) (x : Value) (s' : Shared), X.xe x s' → Seg (model X.prog X.w) A R (NY X k Yk) n s₀ (.whileLoop test body [] X.env)
          ((do noteFrame x X.env; theTreesLotGoes x : Sem Unit).wrap (fun _ => .raise x) .raise id id)
          (.ret (fun r => ((match r with | .ok f => (.pure f : Sem Flow) | .error e => .raise e).onRaise (cameBack X.env)).wrap K J gd lv) none (gd false) (lv []) c p [] :: fs) s' := fun n s₀ x s' hx => by
        refine seg_wrap ?_
        rw [(gl _).over]
        refine wpAny_bind (wpAny_mono (hp x s' hx) (fun _ s'' hcb => wpAny_theTreesLotGoes ?_) fun y s'' hcb => ?_)
        · exact seg_leaf (.error x) (nk_back g kk hcb)
        · exact seg_leaf (.error y) (nk_back g kk hcb)
      obtain ⟨h1, h2, I⟩ := hI
      refine seg_whileLoop ?_
      rw [(gl _).over]
      refine wpAny_mono (hc.run _ s σ H _ I (turn m ys σ H w)) (fun b s' hb' => ?_) fun x s' hx => ee n s₀ x s' hx
      obtain ⟨H2, I2, q2⟩ := hb'
      cases b with
      | true =>
        obtain ⟨N, hN, q2⟩ := q2
        rw [if_pos rfl]
        have back : ∀ {n' ys' s₀' s3}, n' + List.length ys' = sizeLine → (∃ σ H, NI X k ys' σ H s₀' s3 ∧ N ys' σ H) → Seg (model X.prog X.w) A R (NY X k Yk) n' s₀' (.whileLoop test body [] X.env) (.pure (.again (.whileLoop test body [] X.env)))
          (.ret (fun r => ((match r with | .ok f => (.pure f : Sem Flow) | .error e => .raise e).onRaise (cameBack X.env)).wrap K J gd lv) none (gd false) (lv []) c p [] :: fs) s3 := fun hn' ⟨σ3, H3, I3, n3⟩ => by
          obtain ⟨m', hm, w3⟩ := hN _ σ3 H3 n3
          exact seg_again rfl (ih m' hm _ _ _ _ σ3 H3 hn' w3 I3)
        refine hb.run A k Yk R n ys s₀ _ _ _ _ id id s' σ H2 { D with nx := N, ct := N, bk := D.nx } (gl _) hn ⟨fun n' ys' s₀' s3 f hn' hs => ?_, fun n' s₀' x s3 hx => ee n' s₀' x s3 hx⟩ ⟨h1, h2, I2⟩ q2
        cases f with
        | next => exact back hn' hs
        | cont => exact back hn' hs
        | brk => exact seg_leaf (.ok .next) (kk.ok n' ys' s₀' s3 .next hn' hs)
        | ret v => exact seg_leaf (.ok (.ret v)) (kk.ok n' ys' s₀' s3 (.ret v) hn' hs)
      | false =>
        rw [if_neg Bool.false_ne_true]
        exact seg_execs_nil (seg_leaf (.ok .next) (kk.ok n ys s₀ s' .next hn ⟨σ, H2, ⟨h1, h2, I2⟩, q2⟩))
  exact loop m0 n ys s₀ s σ H hn w0 hI
end
end AbM

/-! AbN -/
/-! AbN: a generator def's promise. -/
namespace AbM
open PySem PySem.Spec PyProof.Rows L2 GenW

/-- a generator def's promise: the arguments, the heap, what is wanted of each item, of all that is handed out and the heap at the end, of the exception -/
abbrev SpN := List V → Hp → YK → (List V → Hp → Prop) → XK → Prop
/-- what the taker knows of the state -/
structure Seen (P : Program) (w : World) (outer : List Env) (H : Hp) (s : Shared) (t : Tk) (ys : List V) (H' : Hp) (s₀ s1 : Shared) : Prop where
  os : s1.os = s.os
  bare : AllBare s1.gens
  un : Un (frs outer) [] H H' s.heap s1.heap
  hok : HOk P w H' s1.heap
  cs : ∀ b ∈ t.cs, H' b = none ∧ ∀ o, s₀.heap.get? b = some o → s1.heap.get? b = some o
  hist : t.hist ys s1.heap
def NEnd (P : Program) (w : World) (outer : List Env) (H : Hp) (s : Shared) (t : Tk) (a : Addr) (g : Nat) (Q : List V → Hp → Prop) (E : XK) : GenEnd := fun n s₀ r s1 =>
  ((r = .ok (.ret .none) ∨ r = .ok .next) ∧ ∃ H' ys, Seen P w outer H s t ys H' s₀ s1 ∧ ys.length ≤ sizeLine ∧ Q ys H') ∨
  ∃ e, r = .error e ∧ CX P w outer H s E e s1 ∧ s1.heap.IsGen a g
def NItem (P : Program) (w : World) (outer : List Env) (H : Hp) (s : Shared) (t : Tk) (a : Addr) (g : Nat) (Yk : YK) : Protocol := fun n s₀ v s1 kap =>
  ∃ ys x H', n + 1 + ys.length = sizeLine ∧ RelV x v ∧ s1.heap.NoLimit ∧ s1.heap.IsGen a g ∧ Seen P w outer H s t ys H' s₀ s1 ∧ Yk ys x H' ∧ ∀ s', Rest t v s1 s' → kap (.send .none) s'
/-- a generator that has not begun -/
def NMade (P : Program) (w : World) (k : Nat) (outer : List Env) (H : Hp) (s : Shared) (Yk : YK) (Q : List V → Hp → Prop) (E : XK) (u : Value) (s' : Shared) : Prop :=
  ∃ (a : Addr) (g : Nat) (c : Code), u = .ref a ∧ s.heap.objs.size ≤ a ∧ a < s'.heap.objs.size ∧ s'.heap.IsGen a g ∧ s'.gens[g]? = some (.fresh c) ∧ s'.os = s.os ∧ AllBare s'.gens ∧ s'.heap.NoLimit ∧ (∀ b o, s.heap.get? b = some o → s'.heap.get? b = some o) ∧
    ∀ (A : Around) (t : Tk) (s2 : Shared), Room k A → A.frames = some outer → (∀ b ∈ t.cs, s'.heap.objs.size ≤ b) → (∀ b o, s'.heap.get? b = some o → s2.heap.get? b = some o) → (∀ b ∈ t.cs, ∃ o, s2.heap.get? b = some o ∧ ∀ v, o.data ≠ .cell v) → t.hist [] s2.heap → s2.os = s.os → AllBare s2.gens →
      Seg (model P w) A (NEnd P w outer H s t a g Q E) (NItem P w outer H s t a g Yk) sizeLine s2 c ((model P w).den c) [] s2
structure NFn (P : Program) (w : World) (K : PySem.W.Frag) (mg : Str → Option Value) (base : Heap) (k : Nat) (f : Addr) (fd : FuncData) (ps : List Str) (sp : SpN) : Prop where
  len : ∀ vs H Yk Q E, sp vs H Yk Q E → vs.length = ps.length
  run : ∀ (A : Around) (outer : List Env) (s : Shared) (H : Hp) (args : Args) (us : List Value) (vs : List V) (Yk : YK) (Q : List V → Hp → Prop) (E : XK), Room k A → Env0 P w K mg base A outer s H → BindsTo s fd args (ps.zip us) → Vals vs us → sp vs H Yk Q E →
    codeAny (model P w) A (.call (.ref f) args) (fun r s' => match r with | .ok (.ret u) => NMade P w k outer H s Yk Q E u s' | _ => False) s

/-- a generator def by its body -/
theorem nfn_of {P : Program} {w : World} {K : PySem.W.Frag} {mg : Str → Option Value} {base : Heap} {k : Nat} {f : Addr} {name qual : Str} {params : Arguments} {body : List Stmt} {scope : Scope} {dV kV doc pm cdv ct oc : Value} {an od : Option Addr}
    {osl : Array (Option Value)} {N ps : List Str} {sp : SpN} (lk : K.lookup f = some ⟨oc, od, .func (PySem.W.fnOf name qual params body scope dV kV doc pm an cdv ct), osl⟩) (hcd : PySem.W.codeIn K cdv qual = true) (S : GScope N ps scope)
    (len : ∀ vs H Yk Q E, sp vs H Yk Q E → vs.length = ps.length)
    (hbody : ∀ (A : Around) (outer : List Env) (s : Shared) (H : Hp) (vs : List V) (Yk : YK) (Q : List V → Hp → Prop) (E : XK) (pn : List (Addr × Obj)), Room k (A.deeper (envOfC qual scope s.heap.objs.size f cdv)) → sp vs H Yk Q E →
      ∃ t, NSs (gcxOf P w K mg base N qual scope f cdv A outer s H E pn) body t ∧ t Yk { nx := fun ys _ H' => Q ys H', rt := fun ys v H' => v = .non ∧ Q ys H' } [] (start N vs) H) :
    NFn P w K mg base (k + 1) f (PySem.W.fnOf name qual params body scope dV kV doc pm an cdv ct) ps sp := by
  refine ⟨len, fun A outer s H args us vs Yk Q E hr e0 hb r hsp => ?_⟩
  have hl := len _ _ _ _ _ hsp
  have KX : K.In s.heap := e0.mod.kin.keeps fun b o e => (e0.bs b o e).1
  have lim : s.heap.NoLimit := e0.mod.nolimit.keeps fun b o e => (e0.bs b o e).1
  have hkind : ∀ y ∈ ps.zip us, scope.names.lookup y.1 = some .local ∨ (scope.names.lookup y.1 = some .cell ∧ ((cellsFrom (s.heap.objs.size + 1) scope.names []).lookup y.1).isSome = true) := fun ⟨n, v⟩ hy => by
    rcases S.par n (List.of_mem_zip hy).1 with q | q
    · exact .inl q
    · exact .inr ⟨q, PySem.W.cellsFrom_some _ _ _ (.inl q)⟩
  refine codeAny_call_generator hr.depth (KX _ _ lk) rfl S.co S.gen rfl (PySem.W.codeRec_of KX hcd) (hb _ _ _ _ ?_)
  refine wpAny_newFunctionEnv_cells S.kind hkind fun env he s1 x => ?_
  subst he
  have lim1 : s1.heap.NoLimit := lim.keeps x.toInCall.keep
  refine ⟨lim1, ?_⟩
  obtain ⟨h1, tk, es1, hk1⟩ := x.done
  have os1 : s1.os = s.os := by rw [es1]
  have gen1 : s1.gens = s.gens := by rw [es1]
  have lt1 : s.heap.objs.size < s1.heap.objs.size := x.toInCall.ns.lt
  have kp1 : ∀ b o, s.heap.get? b = some o → s1.heap.get? b = some o := x.toInCall.keep
  suffices main : ∀ (go : Obj) (nm qn : Value) (tk2 : Nat), go.cls = .type "generator" → go.data = .fields #[.int s1.gens.size 0, nm, qn] → go.slots = #[] → (∀ h : Heap, (h.push go).get? h.objs.size = some go) →
      NMade P w (k + 1) outer H s Yk Q E (.ref s1.heap.objs.size) { s1 with gens := s1.gens.push (.fresh (.func body (envOfC qual scope s.heap.objs.size f cdv))), toks := tk2, heap := s1.heap.push go } from
    main _ _ _ _ rfl rfl rfl fun h => Heap.get?_push_size _ rfl
  intro go nm qn tk2 hgc hgd0 hgs hgp
  generalize hL : s.heap.objs.size = L at *
  have hgen : ∀ h : Heap, h.get? s1.heap.objs.size = some go → h.IsGen s1.heap.objs.size s1.gens.size := fun h e => ⟨go, nm, qn, e, hgc, hgd0, hgs⟩
  have hpushed : (s1.heap.push go).get? s1.heap.objs.size = some go := hgp _
  refine ⟨s1.heap.objs.size, s1.gens.size, _, rfl, by rw [hL]; exact Nat.le_of_lt lt1, ?_, hgen _ hpushed, Array.getElem?_push_size .., os1, ?_, lim1.keeps fun b o e => Heap.get?_push_of_some _ e, fun b o e => Heap.get?_push_of_some _ (kp1 b o e), ?_⟩
  · show _ < (s1.heap.push _).objs.size
    rw [Heap.size_push]; exact Nat.lt_succ_self _
  · exact AllBare.push (by rw [gen1]; exact e0.bare) rfl
  subst hL
  intro Aw tt s2 hrw hfr hSx hk2 hSo hh0 hos hba
  have e0w : Env0 P w K mg base Aw outer s H := ⟨hfr, e0.mod, e0.bs, e0.bsz, e0.funs, e0.frf, e0.hok, e0.bare⟩
  obtain ⟨t, ht, hq⟩ := hbody Aw outer s H vs Yk Q E [(s1.heap.objs.size, go)] (hrw.deeper _) hsp
  have I1 : Inv (gcxOf P w K mg base N qual scope f cdv Aw outer s H E []) [] (start N vs) H s1 := inv_startG S hrw.hd e0w hl r x
  have kp2 : ∀ b o, s1.heap.get? b = some o → s2.heap.get? b = some o := fun b o e => hk2 b o (Heap.get?_push_of_some _ e)
  have I2 : Inv (gcxOf P w K mg base N qual scope f cdv Aw outer s H E []) [] (start N vs) H s2 :=
    I1.call' (ch := []) (hos.trans os1.symm) (Un.kept kp2) (I1.hok.kept kp2) hba fun b z => by simp at z
  have hSz : ∀ b ∈ tt.cs, s1.heap.objs.size < b := fun b hb => by
    have h := hSx b hb
    have h' : (s1.heap.push go).objs.size ≤ b := h
    rw [Heap.size_push] at h'
    exact h'
  have hea : s2.heap.get? s1.heap.objs.size = some go := hk2 s1.heap.objs.size go hpushed
  have hgd : ∀ v, go.data ≠ .cell v := fun v q => by rw [hgd0] at q; cases q
  have young : ∀ b, s1.heap.objs.size ≤ b → H b = none ∧ b ≠ s.heap.objs.size ∧ b ∉ frs outer ∧ s.heap.objs.size ≤ b ∧ ∀ y c, (cellsFrom (s.heap.objs.size + 1) scope.names []).lookup y = some c → c ≠ b := fun b hb => by
    refine ⟨I1.hok.fresh hb, Nat.ne_of_gt (Nat.lt_of_lt_of_le lt1 hb), I1.nofs hb, Nat.le_trans (Nat.le_of_lt lt1) hb, fun y c e z => ?_⟩
    obtain ⟨v, ob, ho, _⟩ := I1.cell y c e
    have := Heap.lt_size ho
    rw [z] at this
    exact absurd (Nat.lt_of_lt_of_le this hb) (Nat.lt_irrefl _)
  have hG : NI (gcxOf P w K mg base N qual scope f cdv Aw outer s H E [(s1.heap.objs.size, go)]) tt [] (start N vs) H s2 s2 := by
    refine ⟨fun b hb => let ⟨o, e, _⟩ := hSo b hb; ⟨o, e⟩, hh0, Inv.pinnedG I2 fun p hp => ?_⟩
    rcases List.mem_append.mp hp with z | z
    · rw [List.mem_singleton.mp z]
      obtain ⟨y1, y2, y3, _, _⟩ := young s1.heap.objs.size (Nat.le_refl _)
      exact ⟨hea, y1, y2, y3, hgd⟩
    · obtain ⟨hb, e⟩ := of_pinsAt z
      obtain ⟨o, e', nc⟩ := hSo _ hb
      rw [e] at e'; cases e'
      obtain ⟨y1, y2, y3, _, _⟩ := young p.1 (Nat.le_of_lt (hSz _ hb))
      exact ⟨e, y1, y2, y3, nc⟩
  have hAp : Far (gcxOf P w K mg base N qual scope f cdv Aw outer s H E [(s1.heap.objs.size, go)]) tt := fun b hb => by
    obtain ⟨_, y2, _, y4, y5⟩ := young b (Nat.le_of_lt (hSz _ hb))
    refine ⟨y4, y2, y5, fun p hp => ?_⟩
    rw [List.mem_singleton.mp hp]
    exact Nat.ne_of_lt (hSz _ hb)
  have pinned : ∀ {ys : List V} {s₀ s' : Shared} {σ' : L2.St} {H' : Hp}, NI (gcxOf P w K mg base N qual scope f cdv Aw outer s H E [(s1.heap.objs.size, go)]) tt ys σ' H' s₀ s' → s'.heap.IsGen s1.heap.objs.size s1.gens.size ∧ s'.heap.NoLimit ∧ Seen P w outer H s tt ys H' s₀ s' := fun {ys s₀ s' σ' H'} hI => by
    have J := hI.2.2
    exact ⟨hgen _ (J.pin (s1.heap.objs.size, go) (List.mem_append_left _ (List.mem_singleton.mpr rfl))).1, J.nolimit, J.os, J.bare, J.base, J.hok, fun b hb => ⟨hI.none hb, fun o e => (hI.same hb e).1⟩, hI.hist⟩
  refine seg_func ?_
  refine seg_imp (R := NR (gcxOf P w K mg base N qual scope f cdv Aw outer s H E [(s1.heap.objs.size, go)]) tt (fun ys v H' => v = .non ∧ Q ys H') fun e s' => CX P w outer H s E e s' ∧ ∀ p ∈ [(s1.heap.objs.size, go)], s'.heap.get? p.1 = some p.2)
    (Y := NY (gcxOf P w K mg base N qual scope f cdv Aw outer s H E [(s1.heap.objs.size, go)]) tt Yk) (fun n s₀ r s1' hR => ?_) (fun n s₀ v s1' kap kap' hkk hY => ?_) sizeLine ?_
  · cases r with
    | error e =>
      obtain ⟨q1, q2⟩ := hR
      exact .inr ⟨e, rfl, q1, hgen _ (q2 (s1.heap.objs.size, go) (List.mem_singleton.mpr rfl))⟩
    | ok fl =>
      cases fl with
      | next => exact False.elim hR
      | brk => exact False.elim hR
      | cont => exact False.elim hR
      | ret u =>
        obtain ⟨ys, v, σ', H', hn, hI, rv, ev, hQ⟩ := hR
        subst ev
        have eu : u = Value.none := rv
        subst eu
        exact .inl ⟨.inl rfl, H', ys, (pinned hI).2.2, by omega, hQ⟩
  · obtain ⟨ys, xx, σ', H', hn, h2, hI, hyk, h3⟩ := hY
    obtain ⟨p1, p2, p3⟩ := pinned hI
    exact ⟨ys, xx, H', hn, h2, p2, p1, p3, hyk, fun s' z => hkk _ _ (h3 s' z)⟩
  · refine ht.run Aw tt Yk _ sizeLine [] s2 _ [] _ _ id id s2 (start N vs) H _ ⟨hAp, over_func, rfl, rfl, rfl⟩ (Nat.add_zero _) ⟨fun n ys s₀ s' fl hn hs => ?_, fun n s₀ e s' hx => ?_⟩ hG hq
    · cases fl with
      | next =>
        obtain ⟨σ', H', hI, hQ⟩ := hs
        exact seg_end (.ok (.ret .none)) ⟨ys, .non, σ', H', hn, hI, rfl, rfl, hQ⟩
      | brk => obtain ⟨_, _, _, q⟩ := hs; exact False.elim q
      | cont => obtain ⟨_, _, _, q⟩ := hs; exact False.elim q
      | ret u =>
        obtain ⟨v, σ', H', hI, rv, ev, hQ⟩ := hs
        exact seg_end (.ok (.ret u)) ⟨ys, v, σ', H', hn, hI, rv, ev, hQ⟩
    · refine seg_wrap ?_
      rw [over_func]
      refine wpAny_mono (show wpAny (model P w) (Aw.deeper (envOfC qual scope s.heap.objs.size f cdv)) (leaving (envOfC qual scope s.heap.objs.size f cdv) e) (fun _ s'' => CX P w outer H s E e s'' ∧ ∀ p ∈ [(s1.heap.objs.size, go)], s''.heap.get? p.1 = some p.2) (fun _ _ => False) s' from hx) (fun _ s'' q => ?_) fun _ s'' q => q.elim
      exact seg_end (.error e) q
end AbM

/-! AbO -/
/-! AbO: who takes a generator's items: [x for x in g]; for x in g whose body leaves at its first turn. -/
namespace AbM
open PySem PySem.Spec PyProof.Rows L2 GenW

/-- an expression whose value is a generator that has not begun -/
abbrev TMk := L2.St → Hp → YK → (List V → Hp → Prop) → XK → Prop
structure PN (X : Cx) (k : Nat) (e : Expr) (tg : TMk) : Prop where
  run : ∀ (pins : List (Addr × Obj)) (s : Shared) (σ : L2.St) (H : Hp) (Yk : YK) (Q : List V → Hp → Prop) (E : XK), Inv X pins σ H s → tg σ H Yk Q E → wpAny (model X.prog X.w) X.A (eval e X.env)
    (fun u s' => ∃ H1 sc, Inv X pins σ H1 sc ∧ NMade X.prog X.w k X.stack H1 sc Yk Q E u s') X.xe s
def tMkN (sp : SpN) (t : TA) : TMk := fun σ H Yk Q E => t σ H fun vs H1 => sp vs H1 Yk Q E
def tMkNK (n m : Nat) (gV : List V → List V → List V) (sp : SpN) (t tk : TA) : TMk := fun σ H Yk Q E => t σ H fun vs H1 => tk σ H1 fun zs H2 => vs.length = n ∧ zs.length = m ∧ sp (gV vs zs) H2 Yk Q E
section
variable {X : Cx} {k n : Nat} {f : Addr} {fd : FuncData} {ps ks : List Str} {sp : SpN} {x : Str} {p pos : Pos} {e : Expr} {es : List Expr} {kws : List Keyword} {t tk : TA} {g : List Value → List Value → List Value} {gV : List V → List V → List V}
theorem run_nfn {pins : List (Addr × Obj)} {σ : L2.St} {H : Hp} {s : Shared} {args : Args} {us : List Value} {vs : List V} {Yk : YK} {Q : List V → Hp → Prop} {E : XK} {E1 : Value → Shared → Prop} (F : NFn X.prog X.w X.K X.mg X.base k f fd ps sp) (hr : Room k X.A)
    (hb : BindsTo s fd args (ps.zip us)) (I : Inv X pins σ H s) (r : Vals vs us) (h : sp vs H Yk Q E) :
    codeAny (model X.prog X.w) X.A (.call (.ref f) args) (fun r s' => match r with
      | .ok (.ret u) => ∃ H1 sc, Inv X pins σ H1 sc ∧ NMade X.prog X.w k X.stack H1 sc Yk Q E u s'
      | .ok _ => False
      | .error e => E1 e s') s := by
  refine codeAny_mono (F.run X.A X.stack s H args us vs Yk Q E hr I.env0 hb r h) fun r s' hq => ?_
  cases r with
  | error e => exact False.elim hq
  | ok fl =>
    cases fl with
    | ret u => exact ⟨H, s, I, hq⟩
    | next => exact False.elim hq
    | brk => exact False.elim hq
    | cont => exact False.elim hq
theorem pn_call (F : NFn X.prog X.w X.K X.mg X.base k f fd ps sp) (hr : Room k X.A) (hg : Gl X x) (hm : X.mg x = some (.ref f)) (hk : PySem.W.keepIn X.K (.ref f) = true) (hb : Binds X.K fd ps [])
    (ha : PA X (e :: es) t) (hdb : (x == ("__debug__" : Str)) = false := by decide) (he : starEach (e :: es) X.env = (false, eval e X.env) :: starEach es X.env := by rfl) (hpl : (backTo pos (starEach es X.env)).any (·.1) = false := by rfl) :
    PN X k (.Call (.Name x p) (e :: es) [] pos) (tMkN sp t) := by
  refine ⟨fun pins s σ H Yk Q E I h => ?_⟩
  refine wpAny_Call_Name_kw (ld_glob I hg hm ?_ hdb)
  refine PySem.W.callWith_K (h₀ := X.base) I.ok.mod.kin hk (thn (ha.run pos pins s σ H _ I h) fun us s1 ⟨vs, H1, I1, r, q⟩ => ⟨I1.kIn, ?_⟩) he hpl
  have hl : (us ++ []).length = ps.length := by rw [List.append_nil, ← r.length]; exact F.len _ _ _ _ _ q
  have hb1 := hb s1 us I1.kIn hl
  rw [List.append_nil] at hb1
  refine wpAny_call (codeAny_mono (run_nfn (E1 := X.xe) F hr hb1 I1 r q) fun r s' hq => ?_)
  cases r with
  | error e => exact hq
  | ok fl =>
    cases fl with
    | ret u => exact hq
    | next => exact False.elim hq
    | brk => exact False.elim hq
    | cont => exact False.elim hq
theorem pn_callK (F : NFn X.prog X.w X.K X.mg X.base k f fd ps sp) (hr : Room k X.A) (hg : Gl X x) (hm : X.mg x = some (.ref f)) (hk : PySem.W.keepIn X.K (.ref f) = true) (hb : KBn X.K fd ps n ks g gV)
    (ha : PA X (e :: es) t) (hkw : PK X kws tk) (hall : (backToKw pos (keywordEach kws X.env)).all (·.1.isSome) = true := by rfl) (hks : (backToKw pos (keywordEach kws X.env)).filterMap (·.1) = ks := by rfl)
    (hdb : (x == ("__debug__" : Str)) = false := by decide) (he : starEach (e :: es) X.env = (false, eval e X.env) :: starEach es X.env := by rfl)
    (hpl : ((backTo pos (starEach (e :: es) X.env)).any (·.1) || (backToKw pos (keywordEach kws X.env)).any (·.1.isNone)) = false := by rfl) :
    PN X k (.Call (.Name x p) (e :: es) kws pos) (tMkNK n ks.length gV sp t tk) := by
  refine ⟨fun pins s σ H Yk Q E I h => ?_⟩
  refine wpAny_Call_Name_kw (ld_glob I hg hm ?_ hdb)
  refine PySem.W.callWith_KW (h₀ := X.base) I.ok.mod.kin hk hall (thn (ha.run pos pins s σ H _ I h) fun us s1 ⟨vs, H1, I1, r, q⟩ => ?_) hpl he
  refine thn (hkw.run pos pins s1 σ H1 _ I1 q) fun ws s2 ⟨zs, H2, I2, rz, l1, l2, q2⟩ => ⟨I2.kIn, ?_⟩
  rw [hks]
  refine wpAny_call (codeAny_mono (run_nfn (E1 := X.xe) F hr (hb.to s2 us ws I2.kIn (r.length.symm.trans l1) (rz.length.symm.trans l2)) I2 (hb.rel r rz) q2) fun r s' hq => ?_)
  cases r with
  | error e => exact hq
  | ok fl =>
    cases fl with
    | ret u => exact hq
    | next => exact False.elim hq
    | brk => exact False.elim hq
    | cont => exact False.elim hq
end

/-! ### [x for x in g] -/
def tLcN (tg : TMk) : TE := fun σ H Q => tg σ H (fun _ _ _ => True) (fun ys H1 => ∀ p, H1 p = none → Q (.ref p) (upd H1 p (.lst ys))) (fun _ _ _ => False)
theorem pe_lcN {X : Cx} {k : Nat} {iter : Expr} {y : Str} {py py' pos : Pos} {scope : Scope} {tg : TMk} (hr : Room (k + 1) X.A) (hg : PN X k iter tg) (hn : scope.names = [((".0" : Str), .local), (y, .local)]) (hk : scope.kind = .function) (hy0 : (y == (".0" : Str)) = false)
    (hdb : (y == ("__debug__" : Str)) = false := by decide) (hs : ∀ x, foldedSetIterable iter X.env x = pure x := by intro _; rfl) :
    PE X (.ListComp (.Name y py) [⟨.Name y py', iter, [], 0⟩] scope pos) (tLcN tg) := by
  refine ⟨fun pins s σ H Q I h => ?_⟩
  rw [eval_ListComp]
  have hnm : ∀ z ∈ scope.names, z.2 = .local := fun z hz => by
    rw [hn] at hz
    rcases List.mem_cons.mp hz with e | hz
    · rw [e]
    · rw [List.mem_singleton.mp hz]
  have hly : scope.names.lookup y = some .local := by rw [hn]; simp [List.lookup_cons, hy0]
  refine wpAny_comprehension_free (use := none) rfl hs (closure_ok fun z hz e => by rw [hnm z hz] at e; cases e) hk (fun z hz _ => ?_) (thn (hg.run pins s σ H _ _ _ I h) fun u s1 ⟨H1, sc, I1, hG⟩ => ?_)
  · rw [hn] at hz ⊢
    rcases List.mem_cons.mp hz with e | hz
    · rw [e]; simp [List.lookup_cons]
    · rw [List.mem_singleton.mp hz]; simp [List.lookup_cons, hy0]
  obtain ⟨a, g, c, rfl, ha1, ha2, hgen, hgs, hos, hbr, hlim, hkp, wake⟩ := hG
  refine wpAny_pyIter_gen hgen ?_
  refine wpAny_newObj_type (newEnv_comp ?_) (by show 0 ≤ sizeLine; decide)
  have hcells : ∀ (m : Nat) (acc : List (Str × Addr)), cellsFrom m scope.names acc = acc := fun m acc => by rw [hn]; rfl
  have hpc : ∀ hh : Heap, pushCells hh scope.names = hh := fun hh => by rw [hn]; rfl
  have hclo : cloFrom X.env.cells scope.names [] = [] := by rw [hn]; rfl
  rw [hcells, hpc, hclo]
  generalize hS : s1.heap.objs.size = S at *
  generalize hs3 : s1.heap.push { cls := .type "list", data := .seq #[] } = h3
  have hC : h3.objs.size = S + 1 := by rw [← hs3, Heap.size_push, hS]
  show codeAny _ _ _ _ { s1 with heap := h3.push { cls := .type "dict", data := .dict #[] } }
  rw [show ({ s1 with heap := h3 } : Shared).heap.objs.size = S + 1 from hC]
  show codeAny _ _ (.compStart _ 0 (.ref a) (.ref S) (compEnvC scope [] (S + 1) X.env)) (compPost (model X.prog X.w) X.A X.xe none (EP X pins σ Q) (.ref S) (compEnvC scope [] (S + 1) X.env).locals) _
  generalize hce : compEnvC scope [] (S + 1) X.env = ce
  have cL : ce.locals = S + 1 := by rw [← hce]; rfl
  have cK : ce.scope.kind = .function := by rw [← hce]; exact hk
  have cy : ce.kindOf y = some .local := by rw [← hce]; exact lookup_relabel_local hly
  have hcls : (ce.scope.kind == .class || (ce.scope.kind == .module && ce.locals != ce.globals)) = false := by rw [cK]; rfl
  have eS : h3.get? S = some (lstObj #[] 0) := by rw [← hs3, ← hS]; exact Heap.get?_push_size _ rfl
  have k3 : ∀ b o, s1.heap.get? b = some o → h3.get? b = some o := fun b o e => by rw [← hs3]; exact Heap.get?_push_of_some _ e
  generalize hs4 : ({ s1 with heap := h3.push { cls := .type "dict", data := .dict #[] } } : Shared) = s4
  have k4 : ∀ b o, h3.get? b = some o → s4.heap.get? b = some o := fun b o e => by rw [← hs4]; exact Heap.get?_push_of_some _ e
  have eC : s4.heap.get? (S + 1) = some { cls := .type "dict", data := .dict #[] } := by rw [← hs4, ← hC]; exact Heap.get?_push_size _ rfl
  have nsC : s4.heap.Ns (S + 1) (fun _ => none) := by
    rw [← hs4]
    show (h3.push _).Ns (S + 1) _
    rw [← hC]
    exact Heap.Ns.new _ _
  have g4 : s4.gens = s1.gens := by rw [← hs4]
  have os4 : s4.os = s1.os := by rw [← hs4]
  have k14 : ∀ b o, s1.heap.get? b = some o → s4.heap.get? b = some o := fun b o e => k4 b o (k3 b o e)
  -- who takes
  let tt : Tk := ⟨[S, S + 1], fun ys hh => ∃ acc c, hh.get? S = some (lstObj acc c) ∧ Vals ys acc.toList, fun ys h h' hh ⟨acc, c, e, r⟩ => ⟨acc, c, hh S (by simp) _ e, r⟩⟩
  have hSm : S ∈ tt.cs := List.mem_cons_self
  have hCm : S + 1 ∈ tt.cs := List.mem_cons_of_mem _ (List.mem_singleton.mpr rfl)
  have nsobj : ∀ {hh : Heap} {m}, hh.Ns (S + 1) m → ∃ o, hh.get? (S + 1) = some o ∧ ∀ v, o.data ≠ .cell v := fun {hh m} ⟨o, es, ep, ho, hd, _⟩ => ⟨o, ho, fun v z => by rw [hd] at z; cases z⟩
  let Rs := NEnd X.prog X.w X.stack H1 sc tt a g (fun ys H1 => ∀ p, H1 p = none → Q (.ref p) (upd H1 p (.lst ys))) (fun _ _ _ => False)
  let Ys := NItem X.prog X.w X.stack H1 sc tt a g (fun _ _ _ => True)
  have aS : a < S := ha2
  let Iv : Nat → Shared → Prop := fun n s' => s'.heap.IsGen a g ∧ s'.heap.NoLimit ∧ (∃ m, s'.heap.Ns (S + 1) m) ∧ ∃ gs, s'.gens[g]? = some gs ∧ gs.Goes (model X.prog X.w) X.A.in1 Rs Ys n (.send .none) (s'.setGen g .running)
  have loop : codeAny (model X.prog X.w) X.A (.compLoop (.ListComp (.Name y py) [⟨.Name y py', iter, [], 0⟩] scope pos) 0 (.ref a) (.ref S) ce) (compPost (model X.prog X.w) X.A X.xe none (EP X pins σ Q) (.ref S) ce.locals) s4 := by
    refine compLoop_any Iv (fun n s' hI => ?_) sizeLine ⟨hgen.keeps k14, hlim.keeps k14, ⟨_, nsC⟩, .fresh c, by rw [g4]; exact hgs, rfl, ?_⟩
    · obtain ⟨hg1, hl1, ⟨mC, hm1⟩, gs, hgs1, hgo⟩ := hI
      have hgl : g < s'.gens.size := (Array.getElem?_eq_some_iff.mp hgs1).1
      refine wpAny_gsz (n := g + 1) hgl (next_genG (A := X.A) (F := fun n s₀ s1 => ∃ H' ys, Seen X.prog X.w X.stack H1 sc tt ys H' s₀ s1 ∧ ys.length ≤ sizeLine ∧ ∀ p, H' p = none → Q (.ref p) (upd H' p (.lst ys)))
        (Er := fun e s1 => CX X.prog X.w X.stack H1 sc (fun _ _ _ => False) e s1 ∧ s1.heap.IsGen a g) hr.hd hl1 (by have := hr.dp; omega) hg1 hgs1 (show gs.Goes (model X.prog X.w) X.A.in1 Rs Ys n (.send .none) (s'.setGen g .running) from hgo)
        (fun v s₁ gs' hbare hv => ?_) (fun s₁ hp h' hk' => ?_) fun e s₁ he => ?_)
      · intro hsz
        obtain ⟨ys, xv, H', hlen, rv, lim1, gen1, seen, _, hk'⟩ := hv
        obtain ⟨os1, ba1, un1, hok1, cs1, acc, cc, hSa, hva⟩ := seen
        have hsz1 : g < s₁.gens.size := by
          have q : (s₁.setGen g gs').gens.size = s₁.gens.size := setGen_size _ _ _
          have hsz' : g + 1 ≤ (s₁.setGen g gs').gens.size := hsz
          omega
        obtain ⟨mC', hm1'⟩ : ∃ m, s₁.heap.Ns (S + 1) m := by
          obtain ⟨o, es, ep, ho, hd, rr⟩ := hm1
          exact ⟨mC, o, es, ep, (cs1 (S + 1) hCm).2 o ho, hd, rr⟩
        have hacc : acc.size ≤ sizeLine := by
          have e1 := hva.length
          have e2 : acc.toList.length = acc.size := by simp
          omega
        -- the item goes to its name
        refine wpAny_pure ?_
        refine wpAny_assign_Name (wpAny_storeName_local (m := mC') cy (by rw [cL]; exact hm1') (fun h6 hn6 sb6 => ?_) hcls)
        rw [cL] at hn6 sb6
        refine wpAny_tests_nil ?_
        rw [if_pos rfl]
        refine wpAny_Name (wpAny_loadName_local (m := fun x => if x = y then some v else mC' x) cK cy (by rw [cL]; exact hn6) (if_pos rfl) ?_) hdb
        have eS6 : h6.get? S = some (lstObj acc cc) := (sb6.2 S (Nat.ne_of_lt (Nat.lt_succ_self S))).trans hSa
        refine append_at (hsz := hacc) eS6 fun h7 sb7 ho7 => ?_
        have nm7 : h7.Ns (S + 1) (fun x => if x = y then some v else mC' x) := hn6.sameBut sb7 (Nat.succ_ne_self S)
        have kp7 : ∀ b o, b ≠ S → b ≠ S + 1 → s₁.heap.get? b = some o → h7.get? b = some o := fun b o n1 n2 e => (sb7.2 b n1).trans ((sb6.2 b n2).trans e)
        have rest : ∀ (G : Array GenState) (tk : Nat), AllBare G → Rest tt v s₁ { s₁ with heap := h7, gens := G, toks := tk } := fun G tk hG => by
          refine ⟨rfl, hG, fun b o hb e => ?_, fun b hb => ?_, fun ys' x' rx ⟨acc', c', e', r'⟩ => ?_⟩
          · exact kp7 b o (fun z => hb (by rw [z]; exact hSm)) (fun z => hb (by rw [z]; exact hCm)) e
          · rcases List.mem_cons.mp hb with e | hb
            · rw [e]; exact ⟨_, ho7, fun v z => by cases z⟩
            · rw [List.mem_singleton.mp hb]; exact nsobj nm7
          · rw [hSa] at e'
            cases e'
            exact ⟨acc.push v, cc + 1, ho7, by rw [Array.toList_push]; exact r'.append (.cons rx .nil)⟩
        have bg : AllBare (s₁.setGen g gs').gens := allBare_setGen ba1 hbare
        cases n with
        | zero => exact False.elim (hk' _ (rest (s₁.setGen g gs').gens s₁.toks bg))
        | succ m =>
          refine ⟨m, Nat.lt_succ_self _, ?_, ?_, ⟨_, nm7⟩, gs', setGen_at hsz1, ?_⟩
          · obtain ⟨o, nm, qn, ho, rr⟩ := gen1
            exact ⟨o, nm, qn, kp7 a o (Nat.ne_of_lt aS) (Nat.ne_of_lt (Nat.lt_succ_of_lt aS)) ho, rr⟩
          · obtain ⟨mc, hns, hnn⟩ := lim1
            have hcl : cStatics < S := by
              obtain ⟨_, hn', _⟩ := hlim
              exact hS ▸ hn'.lt
            exact ⟨mc, hns.at' fun o e => kp7 _ o (Nat.ne_of_lt hcl) (Nat.ne_of_lt (Nat.lt_succ_of_lt hcl)) e, hnn⟩
          · refine hk' _ (rest _ _ (allBare_setGen (s := { s₁.setGen g gs' with heap := h7 }) bg rfl))
      · intro hsz
        obtain ⟨H', ys, seen, hle, hQ⟩ := hp
        obtain ⟨os1, ba1, un1, hok1, cs1, acc, cc, hSa, hva⟩ := seen
        show ∃ m, _
        rw [cL]
        obtain ⟨o, es, ep, ho, hd, rr⟩ := hm1
        have hoC := hk' _ _ ((cs1 (S + 1) hCm).2 o ho)
        refine ⟨mC, ⟨o, es, ep, hoC, hd, rr⟩, fun h'' sb => ?_⟩
        have nS := (cs1 S hSm).1
        have nC := (cs1 (S + 1) hCm).1
        have hsS : sc.heap.objs.size ≤ S := Nat.le_trans ha1 (Nat.le_of_lt aS)
        have I7 : Inv X pins σ (upd H' S (.lst ys)) { s₁.setGen g .finished with heap := h' } :=
          I1.drained (sc := sc) (ex := []) hsS hle (hk' _ _ hSa) hva .nil os1 (allBare_setGen ba1 rfl) (un1.trans (Un.kept hk')) (hok1.kept hk') nS
        have nC2 : upd H' S (.lst ys) (S + 1) = none := by rw [upd_ne (Nat.succ_ne_self S)]; exact nC
        obtain ⟨f0, f1, f2, f3, f4, f5⟩ := I1.fpOk (b := S + 1) (Nat.le_succ_of_le hsS) nC2
        exact ⟨.ref S, upd H' S (.lst ys), I7.turned (t' := s₁.toks) (fun b o hb e => (sb.2 b hb).trans e) f0 f1 f3 f4 f5, rfl, hQ S nS⟩
      · obtain ⟨⟨_, _, _, _, _, _, _, _, _, _, _, _, z⟩, _⟩ := he
        exact z.elim
    · refine wake X.A.in1 tt _ hr.in1 I1.ok.frames (fun b hb => ?_) k14 (fun b hb => ?_) ⟨#[], 0, k4 _ _ eS, .nil⟩ (os4.trans hos) (allBare_setGen (s := s4) (by rw [g4]; exact hbr) rfl)
      · rcases List.mem_cons.mp hb with e | hb
        · rw [e]; exact Nat.le_refl _
        · rw [List.mem_singleton.mp hb]; exact Nat.le_succ _
      · rcases List.mem_cons.mp hb with e | hb
        · rw [e]; exact ⟨_, k4 _ _ eS, fun v z => by cases z⟩
        · rw [List.mem_singleton.mp hb]; exact nsobj nsC
  exact codeAny_compStart_list loop (wpAny_pyIter_gen (hgen.keeps k14) loop)

/-! ### for x in g: the body leaves at its first turn -/
def tForN (tg : TMk) (gt : TG) (tb : TS) (E : L2.St → XK) : TS := fun D σ H => ∃ (Yk : YK) (Q : List V → Hp → Prop), tg σ H Yk Q (E σ) ∧
  (∀ x H1, Yk [] x H1 → gt x σ H1 fun σ2 H2 => tb { D with nx := fun _ _ => False, ct := fun _ _ => False, bk := D.nx } σ2 H2) ∧ ∀ H1, Q [] H1 → D.nx σ H1
theorem ps_forN {X : Cx} {k : Nat} {target iter : Expr} {body : List Stmt} {pos : Pos} {tg : TMk} {gt : TG} {tb : TS} {E : L2.St → XK} (hp : PassesOwn (model X.prog X.w) X.A X.env X.xe) (hr : Room (k + 1) X.A) (hg : PN X k iter tg) (ht : PG X target gt) (hb : PSs X body tb)
    (hx : ∀ σ, PassesAt (CX X.prog X.w) X σ (E σ)) (hns : ∀ σ, NoStop X.K (E σ)) (hs : ∀ x, foldedSetIterable iter X.env x = pure x := by intro _; rfl) : PS X (.For target iter body [] pos) (tForN tg gt tb E) := by
  refine ⟨fun pins s σ H D I h => ?_⟩
  obtain ⟨Yk, Q, hmk, hyk, hend⟩ := h
  refine wpAny_For (thn (hg.run pins s σ H _ _ _ I hmk) fun v s1 h1 => ?_) hs
  obtain ⟨H1, sc, I1, a, g, c, rfl, ha1, ha2, hgen, hgs, hos, hbr, hlim, hkp, wake⟩ := h1
  refine wpAny_pyIter_gen hgen ?_
  let tt : Tk := ⟨[], fun ys _ => ys = [], fun _ _ _ _ e => e⟩
  refine codeAny_forLoop_any (fun n s' => s' = s1) (fun n s2 e2 => ?_) 0 rfl
  subst e2
  refine wpAny_passesOwn hp (next_genG (A := X.A) (n := sizeLine) (Y := NItem X.prog X.w X.stack H1 sc tt a g Yk) (F := fun n s₀ s1 => ∃ H' ys, Seen X.prog X.w X.stack H1 sc tt ys H' s₀ s1 ∧ ys.length ≤ sizeLine ∧ Q ys H')
    (Er := fun e s1 => CX X.prog X.w X.stack H1 sc (E σ) e s1 ∧ s1.heap.IsGen a g) hr.hd hlim (by have := hr.dp; omega) hgen hgs ⟨rfl, ?_⟩ (fun v s₁ gs' hbare hv => ?_) (fun s₁ hp' h' hk' => ?_) fun e s₁ he => ?_)
  · exact wake X.A.in1 tt _ hr.in1 I1.ok.frames (fun b hb => by cases hb) (fun b o e => e) (fun b hb => by cases hb) rfl hos (allBare_setGen hbr rfl)
  · obtain ⟨ys, xv, H', hlen, rv, lim1, gen1, ⟨os1, ba1, un1, hok1, cs1, hist⟩, hY, _⟩ := hv
    have hist : ys = [] := hist
    subst hist
    have I2 : Inv X pins σ H' (s₁.setGen g gs') := I1.call' (ch := []) os1 un1 hok1 (allBare_setGen ba1 hbare) fun b z => by cases z
    obtain ⟨o, nm, qn, ho, hc, hd, _⟩ := gen1
    refine wpAny_passesOwn hp (go_of (s := s₁.setGen g gs') (n := "generator") ho hc hd (by decide) ?_)
    refine wpAny_passesOwn hp (thn (ht.run _ _ σ H' xv v _ I2 rv (hyk xv H' hY)) fun _ s6 ⟨σ6, H6, I6, q6⟩ => ?_)
    refine wpAny_passesOwn hp (thn (hb.run _ s6 σ6 H6 _ I6 q6) fun f s7 q7 => ?_)
    cases f with
    | next => obtain ⟨_, _, _, z⟩ := q7; exact False.elim z
    | cont => obtain ⟨_, _, _, z⟩ := q7; exact False.elim z
    | brk => exact q7
    | ret v => exact q7
  · obtain ⟨H', ys, ⟨os1, ba1, un1, hok1, cs1, hist⟩, hle, hQ⟩ := hp'
    have hist : ys = [] := hist
    subst hist
    have I2 : Inv X pins σ H' { s₁.setGen g .finished with heap := h' } := I1.call' (ch := []) os1 (un1.trans (Un.kept hk')) (hok1.kept hk') (allBare_setGen ba1 rfl) fun b z => by cases z
    exact wpAny_execs_nil ⟨σ, H', I2, hend H' hQ⟩
  · obtain ⟨hc, hg1⟩ := he
    have kin : X.K.In s₁.heap := by
      obtain ⟨a, B, H', cls, d, _, fl, _, ub, _⟩ := id hc
      refine I1.ok.mod.kin.keeps fun b o eb => fl.1 b o (ub.keep b o (I1.bs b o eb).1 (I1.bs b o eb).2 fun hm => ?_)
      rcases List.mem_cons.mp (I1.stkSub b hm) with z | z
      · have h1 := Heap.lt_size eb
        have h2 := Nat.le_trans I1.ok.bsz I1.ok.above
        rw [z] at h1
        exact absurd (Nat.lt_of_lt_of_le h1 h2) (Nat.lt_irrefl _)
      · exact I1.ok.nofr eb z
    refine ⟨hg1, notStop_of (hns σ) kin hc, hx σ pins H1 sc e _ I1 ?_⟩
    obtain ⟨a, B, H', cls, d, z1, fl, z2, ub, z3, z4, z5, z6⟩ := hc
    exact ⟨a, B, H', cls, d, z1, fl, z2, ub, z3, z4, allBare_setGen z5 rfl, z6⟩
end AbM

/-! AbP -/
/-! AbP: generators, heap-free. -/
namespace AbM
open PySem PySem.Spec PyProof.Rows L2 Ab

/-- a generator def by slots: its arguments; what is wanted of each item (behind those that are out), of all items, of what it raises -/
abbrev FN := List Slot → (List Slot → Slot → Prop) → (List Slot → Prop) → (Xs → Prop) → Prop
def spN (F : FN) : SpN := fun vs H Yk Q E => ∃ B ss Φy Φ Ψ, Same B H ∧ PSl vs ss B ∧ F ss Φy Φ Ψ ∧
  (∀ ys ts x s B' H', Step B H B' H' → PSl ys ts B' → s.P x B' → Φy ts s → Yk ys x H') ∧
  (∀ ys ts B' H', Step B H B' H' → PSl ys ts B' → Φ ts → Q ys H') ∧
  (∀ x d B' H', Step B H B' H' → x.At d B' → Ψ x → E (.ref x.C) d H')
open Classical in
/-- the places of own lists left out -/
noncomputable def cut (H : Hp) (Γ : List Bd) : Hp := fun a => if ∃ (i : Nat) (ss : List Slot), Γ[i]? = some (.own a ss) then none else H a
section
variable {B0 H0 B H B' H' : Hp} {σ σ' : L2.St} {Γ Γ' : List Bd}
theorem cut_own {p : Addr} {i : Nat} {ss : List Slot} (h : Γ[i]? = some (.own p ss)) : cut H Γ p = none := if_pos ⟨i, ss, h⟩
theorem cut_not {a : Addr} (h : ¬ ∃ (i : Nat) (ss : List Slot), Γ[i]? = some (.own a ss)) : cut H Γ a = H a := if_neg h
theorem cut_ne {a : Addr} (h : cut H Γ a ≠ none) : cut H Γ a = H a ∧ ¬ ∃ (i : Nat) (ss : List Slot), Γ[i]? = some (.own a ss) := by
  unfold cut at h ⊢
  split at h
  · exact absurd rfl h
  · rename_i hn
    exact ⟨if_neg hn, hn⟩
theorem cut_none {a : Addr} (h : cut H Γ a = none) : (∃ (i : Nat) (ss : List Slot), Γ[i]? = some (.own a ss)) ∨ H a = none := by
  unfold cut at h
  split at h
  · exact .inl (by assumption)
  · exact .inr h
theorem at_here (a : At B0 H0 σ B H Γ) : At B (cut H Γ) σ B H Γ where
  rel := a.rel
  inn := a.inn
  base := Same.refl _
  out := fun x h1 h2 => ⟨h1, (cut_ne h2).1.symm⟩
  mine := fun i p ss h => cut_own h
theorem at_then (a : At B0 H0 σ B H Γ) (b : At B (cut H Γ) σ' B' H' Γ') : At B0 H0 σ' B' H' Γ' where
  rel := b.rel
  inn := b.inn
  base := a.base.trans b.base
  out := fun x h1 h2 => by
    obtain ⟨p, q⟩ := a.out x h1 h2
    have hn : ¬ ∃ (i : Nat) (ss : List Slot), Γ[i]? = some (.own x ss) := fun ⟨i, ss, e⟩ => h2 (a.mine i x ss e)
    have e : cut H Γ x = H x := cut_not hn
    obtain ⟨r, t⟩ := b.out x p (by rw [e, q]; exact h2)
    exact ⟨r, t.trans (e.trans q)⟩
  mine := fun i p ss h => by
    rcases cut_none (b.mine i p ss h) with ⟨j, ss', e⟩ | e
    · exact a.mine j p ss' e
    · cases z : H0 p with
      | none => rfl
      | some u =>
        cases y : B0 p with
        | none =>
          have := (a.out p y (by rw [z]; simp)).2
          rw [e, z] at this; cases this
        | some v =>
          have := a.inn _ _ (a.base _ _ y)
          rw [e] at this; cases this
end
/-- what is wanted within a generator: ts is out -/
structure KN where
  nx : List Slot → List Bd → Prop
  rt : List Slot → Slot → List Bd → Prop
  bk : List Slot → List Bd → Prop
  ct : List Slot → List Bd → Prop
  yl : List Slot → Slot → Prop
  er : XK := E0
  ex : Xs → Prop := fun _ => False
/-- the same for a statement that hands out nothing -/
def KN.at (Φ : KN) (ts : List Slot) : Ks := { nx := Φ.nx ts, rt := Φ.rt ts, bk := Φ.bk ts, ct := Φ.ct ts, er := Φ.er, ex := Φ.ex }
structure GOk (B0 H0 : Hp) (Yk : YK) (D : GEnds) (Φ : KN) : Prop where
  nx : ∀ Γ σ B H ys ts, At B0 H0 σ B H Γ → PSl ys ts B → Φ.nx ts Γ → D.nx ys σ H
  rt : ∀ s v Γ σ B H ys ts, At B0 H0 σ B H Γ → PSl ys ts B → s.P v B → Φ.rt ts s Γ → D.rt ys v H
  bk : ∀ Γ σ B H ys ts, At B0 H0 σ B H Γ → PSl ys ts B → Φ.bk ts Γ → D.bk ys σ H
  ct : ∀ Γ σ B H ys ts, At B0 H0 σ B H Γ → PSl ys ts B → Φ.ct ts Γ → D.ct ys σ H
  yl : ∀ s v Γ σ B H ys ts, At B0 H0 σ B H Γ → PSl ys ts B → s.P v B → Φ.yl ts s → Yk ys v H
  ex : ∀ x d Γ σ B H, At B0 H0 σ B H Γ → x.At d B → Φ.ex x → Φ.er (.ref x.C) d H
def Y (t : TN) (ts : List Slot) (Γ : List Bd) (Φ : KN) : Prop := ∀ B0 H0 Yk D σ B H ys, GOk B0 H0 Yk D Φ → At B0 H0 σ B H Γ → PSl ys ts B → t Yk D ys σ H
section
variable {Γ : List Bd} {Φ : KN} {ts : List Slot} {te : TE} {tt : TT} {t u : TN}
theorem Y_plain {t : TS} (h : S t Γ (Φ.at ts)) : Y (nPlain t) ts Γ Φ := fun B0 H0 Yk D σ B H ys ok a p =>
  h B (cut H Γ) (D.at ys) σ B H ⟨fun Γ' σ' B' H' a' k => ok.nx Γ' σ' B' H' ys ts (at_then a a') (p.mono a'.base) k, fun s v Γ' σ' B' H' a' q k => ok.rt s v Γ' σ' B' H' ys ts (at_then a a') (p.mono a'.base) q k,
    fun Γ' σ' B' H' a' k => ok.bk Γ' σ' B' H' ys ts (at_then a a') (p.mono a'.base) k, fun Γ' σ' B' H' a' k => ok.ct Γ' σ' B' H' ys ts (at_then a a') (p.mono a'.base) k, fun x d Γ' σ' B' H' a' q k => ok.ex x d Γ' σ' B' H' (at_then a a') q k⟩ (at_here a)
theorem Y_nil (k : Φ.nx ts Γ) : Y n0 ts Γ Φ := fun B0 H0 Yk D σ B H ys ok a p => ok.nx Γ σ B H ys ts a p k
theorem Y_then (h : Y t ts Γ { Φ with nx := fun ts' Γ' => Y u ts' Γ' Φ }) : Y (nThen t u) ts Γ Φ := fun B0 H0 Yk D σ B H ys ok a p =>
  h B0 H0 Yk _ σ B H ys ⟨fun Γ' σ' B' H' ys' ts' a' p' k => k B0 H0 Yk D σ' B' H' ys' ok a' p', ok.rt, ok.bk, ok.ct, ok.yl, ok.ex⟩ a p
theorem Y_yield (hn : ts.length < 1000000) (h : E te Γ fun s => Φ.yl ts s ∧ Φ.nx (ts ++ [s]) Γ) : Y (nYield te) ts Γ Φ := fun B0 H0 Yk D σ B H ys ok a p => by
  refine ⟨?_, h σ B H a.inn a.rel _ fun s v B' H' st q ⟨k1, k2⟩ => ⟨ok.yl s v Γ σ B' H' ys ts (a.step st) (p.mono st.base) q k1, ok.nx Γ σ B' H' (ys ++ [v]) (ts ++ [s]) (a.step st) (PSl.append (p.mono st.base) (.cons q .nil)) k2⟩⟩
  rw [p.length]
  exact Nat.lt_of_lt_of_le hn (by decide)
theorem Y_while (W : Nat → List Slot → List Bd → Prop) (m0 : Nat) (h0 : W m0 ts Γ)
    (hs : ∀ m ts' Γ', W m ts' Γ' → T tt Γ' fun b => (b = true → Y t ts' Γ' { Φ with nx := fun ts'' Γ'' => ∃ m', m' < m ∧ W m' ts'' Γ'', ct := fun ts'' Γ'' => ∃ m', m' < m ∧ W m' ts'' Γ'', bk := Φ.nx }) ∧ (b = false → Φ.nx ts' Γ')) : Y (nWhile tt t) ts Γ Φ := fun B0 H0 Yk D σ B H ys ok a p => by
  refine ⟨fun m ys' σ' H' => ∃ Γ' ts' B', At B0 H0 σ' B' H' Γ' ∧ PSl ys' ts' B' ∧ W m ts' Γ', ⟨m0, Γ, ts, B, a, p, h0⟩, ?_⟩
  rintro m ys' σ' H' ⟨Γ', ts', B', a', p', w⟩
  refine hs m ts' Γ' w σ' B' H' a'.inn a'.rel _ fun b B2 H2 st ⟨k1, k2⟩ => ?_
  have a2 := a'.step st
  have p2 := p'.mono st.base
  cases b with
  | true =>
    refine iteT ⟨fun ys3 σ3 H3 => ∃ m', m' < m ∧ ∃ Γ'' ts'' B'', At B0 H0 σ3 B'' H3 Γ'' ∧ PSl ys3 ts'' B'' ∧ W m' ts'' Γ'', fun _ σ3 H3 z => z, ?_⟩
    exact k1 rfl B0 H0 Yk _ σ' B2 H2 ys' ⟨fun Γ'' σ'' B'' H'' ys'' ts'' a'' p'' ⟨m', hm, w'⟩ => ⟨m', hm, Γ'', ts'', B'', a'', p'', w'⟩, ok.rt, ok.nx, fun Γ'' σ'' B'' H'' ys'' ts'' a'' p'' ⟨m', hm, w'⟩ => ⟨m', hm, Γ'', ts'', B'', a'', p'', w'⟩, ok.yl, ok.ex⟩ a2 p2
  | false => exact iteF (ok.nx Γ' σ' B2 H2 ys' ts' a2 p2 (k2 rfl))
/-! the takers -/
variable {Φe : Slot → Prop} {Φk : Ks}
/-- [x for x in f(..)] -/
theorem E_lcN {F : FN} {tr : TA} (h : A tr Γ fun ss => F ss (fun _ _ => True) (fun ts => Φe (lstS ts)) fun _ => False) : E (tLcN (tMkN (spN F) tr)) Γ Φe := fun σ B H b rl Q q =>
  h σ B H b rl _ fun ss vs B1 H1 st1 p1 f => ⟨B1, ss, _, _, _, st1.inn, p1, f, fun _ _ _ _ _ _ _ _ _ _ => trivial, fun ys ts B' H' st p k x hx => q (lstS ts) (.ref x) (upd B' x (.lst ys)) (upd H' x (.lst ys)) ((st1.trans st).trans (.new st.inn hx))
    ⟨x, ys, rfl, upd_same, p.mono (Step.new (o := .lst ys) st.inn hx).base⟩ k, fun _ _ _ _ _ _ z => z.elim⟩
theorem E_lcNK {F : FN} {n m : Nat} {tr tk : TA} (h : A tr Γ fun ss => A tk Γ fun zs => ss.length = n ∧ zs.length = m ∧ F (ss ++ zs) (fun _ _ => True) (fun ts => Φe (lstS ts)) fun _ => False) : E (tLcN (tMkNK n m (fun vs zs => vs ++ zs) (spN F) tr tk)) Γ Φe := fun σ B H b rl Q q =>
  h σ B H b rl _ fun ss vs B1 H1 st1 p1 h1 => h1 σ B1 H1 st1.inn (rl.step st1) _ fun zs ws B2 H2 st2 p2 ⟨l1, l2, f⟩ =>
    ⟨p1.length.trans l1, p2.length.trans l2, B2, ss ++ zs, _, _, _, st2.inn, PSl.append (p1.mono st2.base) p2, f, fun _ _ _ _ _ _ _ _ _ _ => trivial, fun ys ts B' H' st p k x hx => q (lstS ts) (.ref x) (upd B' x (.lst ys)) (upd H' x (.lst ys)) (((st1.trans st2).trans st).trans (.new st.inn hx))
      ⟨x, ys, rfl, upd_same, p.mono (Step.new (o := .lst ys) st.inn hx).base⟩ k, fun _ _ _ _ _ _ z => z.elim⟩
end
end AbM

/-! AbQ -/
/-! AbQ: try with several clauses «except X as e»; a generator def's promise by slots. -/
namespace AbM
open PySem PySem.Spec PyProof.Rows L2 Ab

/-- what the clauses wish: each names its class, all store at slot i -/
def wAsMany (K : PySem.W.Frag) (i : Nat) (Wout : WX) (D : Ends) : List (Value × (Addr → Value → Option Addr → TS)) → WX
  | [] => Wout
  | (c, ts) :: r => fun cls d σ H => ∃ b, PySem.W.exmOne K cls c = some b ∧
      (b = true → ∀ a, H a = none → ts a cls d { nx := fun σ' H' => D.nx (σ'.set i none) H', rt := D.rt, bk := fun σ' H' => D.bk (σ'.set i none) H', ct := fun σ' H' => D.ct (σ'.set i none) H' } (σ.set i (some (.ref a))) H) ∧ (b = false → wAsMany K i Wout D r cls d σ H)
inductive HdsAs (X : Cx) (n : Str) : List ExceptHandler → List (Value × (Addr → Value → Option Addr → TS)) → Prop
  | nil : HdsAs X n [] []
  | cons {x : Str} {c : Value} {ts : Addr → Value → Option Addr → TS} {b₀ : Stmt} {suite : List Stmt} {np pos' : Pos} {hds : List ExceptHandler} {l : List (Value × (Addr → Value → Option Addr → TS))} (hc : Names X x c)
      (hsu : ∀ (a : Addr) (oe : Obj) (cls : Value) (d : Option Addr) (pn : List (Addr × Obj)), Zc cls d oe → (∃ vs, oe.data = .fields vs) → PSs (X.suite a ((a, oe) :: pn)) (b₀ :: suite) (ts a cls d)) (r : HdsAs X n hds l) :
      HdsAs X n (.ExceptHandler (some (.Name x np)) (some n) (b₀ :: suite) pos' :: hds) ((c, ts) :: l)
theorem ps_try_asMany {X : Cx} {n : Str} {i : Nat} {body : List Stmt} {h₀ : ExceptHandler} {hds : List ExceptHandler} {l : List (Value × (Addr → Value → Option Addr → TS))} {pos : Pos} {tb : WX → TS} {Wout : WX} (hs : X.stack = X.env :: X.outer) (hf : X.env.frame = some X.env.locals)
    (hN : X.N.Nodup) (hi : X.N[i]? = some n) (hln : X.env.kindOf n = some .local) (tk : Takes X Wout)
    (hb : ∀ (W : WX) (pn : List (Addr × Obj)) (xe : Value → Shared → Prop), Takes (X.tr pn xe) W → PassesOwn (model X.prog X.w) X.A X.env xe → PSs (X.tr pn xe) body (tb W))
    (hh : HdsAs X n (h₀ :: hds) l) : PS X (.Try body (h₀ :: hds) [] [] pos) (fun D σ H => tb (wAsMany X.K i Wout D l) D σ H) := by
  refine ⟨fun pins s σ H D I h => ?_⟩
  have ok := I.ok
  have hfr : X.A.frames = some (X.env :: X.outer) := by rw [ok.frames, hs]
  refine wpAny_Try_except (wpAny_mono ((hb (wAsMany X.K i Wout D l) (X.pn ++ pins) (fun e s₁ => wpAny (model X.prog X.w) X.A (noteFrame e X.env) (fun _ s₂ => wpAny (model X.prog X.w) X.A (setFlight e none) (fun _ s₃ =>
    wpAny (model X.prog X.w) X.A (handleBy e X.env (h₀ :: hds)) (SP X pins D) X.xe s₃) X.xe s₂) X.xe s₁) (fun u s' xx => ?_) PassesOwn.looking).run [] s σ H D (I.toTry _) h) (fun f s1 hsp => ?_) (fun e s1 he => he))
  · obtain ⟨a, B, sI, pins', σ', H', cls, d, rfl, J', nb, up, sky, na, os, ag, w⟩ := xx
    have J : Inv X pins σ' H' sI := J'.ofTry ok
    have sky' : Sky B (X.env :: X.outer) a (Zc cls d) X.env.locals s'.heap := by rw [← hs]; exact sky
    show wpAny (model X.prog X.w) X.A (noteFrame (.ref a) X.env) _ _ _
    refine Sky.land Zc.steady hfr hf sky' fun h3 fl3 up3 => ?_
    have J3 : Inv X pins σ' H' { s' with heap := h3 } := J.landed nb fl3.1 (up.trans up3) os ag
    obtain ⟨oe3, vs3, he3, hz3, hd3⟩ := fl3.there
    have nfr : a ∉ frs (X.env :: X.outer) := fun hm => by
      obtain ⟨_, o', e', hnf⟩ := fl3.2.2.1.mem hm
      rw [he3] at e'; cases e'
      exact hnf _ hd3
    have nL : a ≠ X.env.locals := fun z => nfr (List.mem_filterMap.mpr ⟨X.env, List.mem_cons_self, by rw [hf, z]⟩)
    have nF : a ∉ X.fs := fun hm => by
      obtain ⟨e, he, q⟩ := List.mem_filterMap.mp hm
      exact nfr (List.mem_filterMap.mpr ⟨e, List.mem_cons_of_mem _ he, q⟩)
    have S3 := J3.suite he3 hd3 na nL nF
    suffices go : ∀ {hds' : List ExceptHandler} {l' : List (Value × (Addr → Value → Option Addr → TS))}, HdsAs X n hds' l' → wAsMany X.K i Wout D l' cls d σ' H' →
        wpAny (model X.prog X.w) X.A (handleBy (.ref a) X.env hds') (SP X pins D) X.xe { s' with heap := h3 } from go hh w
    intro hds' l' hk
    induction hk with
    | nil =>
      intro w
      refine wpAny_handleBy_nil ?_
      obtain ⟨k1, k2, k3, oe, vs, T, oT, ts', he, hz, hd, h1, hr⟩ := id fl3
      unfold PySem.passOn
      refine wpAny_bind (wpAny_field he hd h1 ?_)
      rw [if_neg (show ¬ ((Value.ref T == Value.none) = true) from by simp)]
      have fin : wpAny (model X.prog X.w) X.A (setFlight (.ref a) X.env.frame) (fun _ s4 => wpAny (model X.prog X.w) X.A (throw (.ref a) : Sem Flow) (SP X pins D) X.xe s4) X.xe { s' with heap := h3 } := by
        rw [hf]
        refine HandSPX.setFlight_upZ fl3 fun h4 hh4 up4 => wpAny_throw (tk _ _ ?_)
        exact ⟨a, B, sI, pins, σ', H', cls, d, rfl, J, nb, (up.trans up3).trans up4, .inr (.inr (by rw [hs]; exact hh4)), na, os, ag, w⟩
      first
        | exact wpAny_bind (wpAny_pure (wpAny_bind fin))
        | exact wpAny_bind fin
    | @cons x c ts b₀ suite np pos' hds2 l2 hc hsu r ih =>
      intro w
      obtain ⟨b, hb1, hyes, hno⟩ := w
      refine wpAny_handleBy_cons (codeAny_handlers_test ?_) (by intro q; cases q)
      have LT : PySem.W.Looks (model X.prog X.w) h3 (typeOf (.ref a)) cls := fun A Q E s k q => wpAny_typeOf_ref (k _ _ he3) (by rw [hz3.1]; exact q)
      have LM := PySem.W.exm_one (M := model X.prog X.w) (J3.kIn) LT hb1
      have test : ∀ {Q : Value → Shared → Prop} {E : Value → Shared → Prop}, Q c { s' with heap := h3 } → wpAny (model X.prog X.w) (X.A.mark (some (.ref a))) (eval (.Name x np) X.env) Q E { s' with heap := h3 } := fun {Q E} q => by
        obtain ⟨hg, hdbg, hm | ⟨hm, hv, hnn⟩⟩ := hc
        · exact ld_glob (X := X.suite a ((a, oe3) :: (X.pn ++ pins))) S3 hg hm q hdbg
        · exact ld_blt (X := X.suite a ((a, oe3) :: (X.pn ++ pins))) S3 hg hm hv q hnn hdbg
      refine test (LM.here ?_)
      cases b with
      | false =>
        show wpAny _ X.A (handleBy (.ref a) X.env hds2) _ _ _
        exact ih (hno rfl)
      | true =>
        refine codeAny_handlers_suite_as (HandSPX.lands_againZ fl3 fun h4 fl4 up4 => ?_)
        have J4 : Inv X pins σ' H' { s' with heap := h4 } := J.landed nb fl4.1 ((up.trans up3).trans up4) os ag
        obtain ⟨oe4, vs4, he4, hz4, hd4⟩ := fl4.there
        have S4 := J4.suite he4 hd4 na nL nF
        refine store_ok (X := X.suite a ((a, oe4) :: (X.pn ++ pins))) (v := .ref a) S4 hN hi (.inl hln) rfl (fun s5 S5 => ?_) (.inr hln)
        refine wpAny_mono ((hsu a oe4 cls d (X.pn ++ pins) hz4 ⟨_, hd4⟩).run [] s5 _ H' _ S5 (hyes rfl a na)) (fun f s6 hsp => ?_) (fun _ _ z => False.elim z)
        have end_ : ∀ {σ6 : L2.St} {H6 : Hp} {Q : Shared → Prop}, Inv (X.suite a ((a, oe4) :: (X.pn ++ pins))) [] σ6 H6 s6 → (∀ s7, Inv X pins (σ6.set i none) H6 s7 → Q s7) →
            wpAny (model X.prog X.w) X.A (do bindName X.env n .none; unbindBehindTheSuite X.env n pos') (fun _ s7 => Q s7) X.xe s6 := fun {σ6 H6 Q} S6 hq => gone_ok (S6.unsuite ok) hN hi hln hq
        cases f with
        | next => obtain ⟨σ6, H6, S6, q6⟩ := hsp; exact end_ S6 fun s7 J7 => ⟨_, _, J7, q6⟩
        | brk => obtain ⟨σ6, H6, S6, q6⟩ := hsp; exact end_ S6 fun s7 J7 => ⟨_, _, J7, q6⟩
        | cont => obtain ⟨σ6, H6, S6, q6⟩ := hsp; exact end_ S6 fun s7 J7 => ⟨_, _, J7, q6⟩
        | ret u => obtain ⟨v6, σ6, H6, S6, r6, q6⟩ := hsp; exact end_ S6 fun s7 J7 => ⟨_, _, _, J7, r6, q6⟩
  · cases f with
    | next => obtain ⟨σ', H', J', q⟩ := hsp; exact wpAny_execs_nil ⟨σ', H', J'.ofTry ok, q⟩
    | brk => obtain ⟨σ', H', J', q⟩ := hsp; exact ⟨σ', H', J'.ofTry ok, q⟩
    | cont => obtain ⟨σ', H', J', q⟩ := hsp; exact ⟨σ', H', J'.ofTry ok, q⟩
    | ret u => obtain ⟨v, σ', H', J', r, q⟩ := hsp; exact ⟨v, σ', H', J'.ofTry ok, r, q⟩

section
variable {P : Program} {w : World} {K : PySem.W.Frag} {mg : Str → Option Value} {base : Heap}
/-- a generator def -/
theorem okN {x qual : Str} {st : Stmt} {f : Addr} {fd : FuncData} {N ps : List Str} {k : Nat} {F : FN} (Fn : Fun K x qual st f fd) (Sc : GScope N ps (defScope st)) (len : ∀ ss Φy Φ Ψ, F ss Φy Φ Ψ → ss.length = ps.length)
    (hb : ∀ (cdv : Value) (Ar : Around) (outer : List Env) (s : Shared) (H : Hp) (Er : XK) (pn : List (Addr × Obj)), Room k (Ar.deeper (envOfC qual (defScope st) s.heap.objs.size f cdv)) →
      ∃ t, NSs (gcxOf P w K mg base N qual (defScope st) f cdv Ar outer s H Er pn) (defBody st) t ∧
        ∀ ss Φy Φ Ψ, F ss Φy Φ Ψ → Y t [] (entry N ss) { nx := fun ts _ => Φ ts, rt := fun ts s _ => s = vS .non ∧ Φ ts, bk := fun _ _ => False, ct := fun _ _ => False, yl := Φy, er := Er, ex := Ψ }) : NFn P w K mg base (k + 1) f fd ps (spN F) := by
  obtain ⟨oc, od, kV, doc, pm, an, cdv, ct, osl, e, lk, hcd⟩ := Fn.ex
  subst e
  refine nfn_of lk hcd Sc (fun vs H Yk Q E h => ?_) fun A outer s H vs Yk Q E pn hr h => ?_
  · obtain ⟨B, ss, Φy, Φ, Ψ, b, p, hf, _⟩ := h
    rw [p.length, len ss Φy Φ Ψ hf]
  · obtain ⟨t, ht, hs⟩ := hb cdv A outer s H E pn hr
    obtain ⟨B, ss, Φy, Φ, Ψ, b, p, hf, k0, k1, k2⟩ := h
    exact ⟨t, ht, hs ss Φy Φ Ψ hf B H Yk _ _ B H [] ⟨fun Γ σ B' H' ys ts a py q => k1 ys ts B' H' a.to py q, fun s v Γ σ B' H' ys ts a py pv ⟨q1, q2⟩ => ⟨by subst q1; exact pv, k1 ys ts B' H' a.to py q2⟩, fun _ _ _ _ _ _ _ _ z => z.elim, fun _ _ _ _ _ _ _ _ z => z.elim,
      fun s v Γ σ B' H' ys ts a py pv q => k0 ys ts v s B' H' a.to py pv q, fun x d Γ σ B' H' a xa q => k2 x d B' H' a.to xa q⟩ (at_entry b p) .nil⟩
end
end AbM

/-! AbR -/
/-! AbR: within try, heap-free. -/
namespace AbM
open PySem PySem.Spec PyProof.Rows L2 Ab

/-- what is wanted within a try's body -/
structure Kw where
  nx : List Bd → Prop
  rt : Slot → List Bd → Prop
  bk : List Bd → Prop := fun _ => False
  ct : List Bd → Prop := fun _ => False
  w : WX
  ex : Xs → List Bd → Prop
structure WOk (B0 H0 : Hp) (D : Ends) (Φ : Kw) : Prop where
  nx : ∀ Γ σ B H, At B0 H0 σ B H Γ → Φ.nx Γ → D.nx σ H
  rt : ∀ s v Γ σ B H, At B0 H0 σ B H Γ → s.P v B → Φ.rt s Γ → D.rt v H
  bk : ∀ Γ σ B H, At B0 H0 σ B H Γ → Φ.bk Γ → D.bk σ H
  ct : ∀ Γ σ B H, At B0 H0 σ B H Γ → Φ.ct Γ → D.ct σ H
  ex : ∀ x d Γ σ B H, At B0 H0 σ B H Γ → x.At d B → Φ.ex x Γ → Φ.w (.ref x.C) d σ H
def SW (ts : TS) (Γ : List Bd) (Φ : Kw) : Prop := ∀ B0 H0 D σ B H, WOk B0 H0 D Φ → At B0 H0 σ B H Γ → ts D σ H
section
variable {K : PySem.W.Frag} {Γ : List Bd} {Φ : Kw} {te : TE} {tt : TT} {t u : TS} {tr : TA}
theorem SW_plain (h : S t Γ { nx := Φ.nx, rt := Φ.rt, bk := Φ.bk, ct := Φ.ct }) : SW t Γ Φ := fun B0 H0 D σ B H ok a =>
  h B0 H0 D σ B H ⟨ok.nx, ok.rt, ok.bk, ok.ct, fun _ _ _ _ _ _ _ _ z => z.elim⟩ a
theorem SW_next (k : Φ.nx Γ) : SW tNext Γ Φ := fun B0 H0 D σ B H ok a => ok.nx Γ σ B H a k
theorem SW_seq (h : SW t Γ { Φ with nx := fun Γ' => SW u Γ' Φ }) : SW (tSeq t u) Γ Φ := fun B0 H0 D σ B H ok a =>
  h B0 H0 { D with nx := u D } σ B H ⟨fun Γ' σ' B' H' a' k => k B0 H0 D σ' B' H' ok a', ok.rt, ok.bk, ok.ct, ok.ex⟩ a
theorem SW_if (h : T tt Γ fun b => (b = true → SW t Γ Φ) ∧ (b = false → SW u Γ Φ)) : SW (tIfS tt t u) Γ Φ := fun B0 H0 D σ B H ok a =>
  h σ B H a.inn a.rel _ fun c B1 H1 st ⟨h1, h2⟩ => by
    cases c with
    | true => exact iteT (h1 rfl B0 H0 D σ B1 H1 ok (a.step st))
    | false => exact iteF (h2 rfl B0 H0 D σ B1 H1 ok (a.step st))
/-- a call that may raise, its value dropped -/
theorem SW_drop {F : FS} (h : A tr Γ fun ss => F ss (fun _ => Φ.nx Γ) fun x => Φ.ex x Γ) : SW (tDrop (tCallS (spOf F) (WE Φ.w) tr)) Γ Φ := fun B0 H0 D σ B H ok a =>
  h σ B H a.inn a.rel _ fun ss vs B1 H1 st p f =>
    ⟨B1, ss, _, _, (a.step st).inn, p, f, fun s v B2 H2 st2 _ k => ok.nx Γ σ B2 H2 ((a.step st).step st2) k, fun x d B2 H2 st2 xa k => ok.ex x d Γ σ B2 H2 ((a.step st).step st2) xa k⟩
/-- what leaves a generator: what is wanted, if it ends no iteration -/
def WEn (K : PySem.W.Frag) (W : WX) (σ : L2.St) : XK := fun cls d H => PySem.W.subIn K cls (.type "StopIteration") = some false ∧ W cls d σ H
theorem noStop_WEn {K : PySem.W.Frag} {W : WX} (σ : L2.St) : NoStop K (WEn K W σ) := fun _ _ _ h => h.1
theorem passN {X : Cx} {W : WX} (tk : Takes X W) (σ : L2.St) : PassesAt (L2.CX X.prog X.w) X σ (WEn X.K W σ) := fun pins H s e s' I c => by
  obtain ⟨a, B, H', cls, d, z1, fl, z2, ub, z3, z4, z5, z6⟩ := c
  exact passAt tk σ pins H s e s' I ⟨a, B, H', cls, d, z1, fl, z2, ub, z3, z4, z5, z6.2⟩
/-- for x in f(..): its body leaves at its first turn -/
theorem SW_forN {F : FN} {i : Nat} (h : A tr Γ fun ss => F ss (fun ts s => ts = [] → S t (Γ.set i (.pl s)) { nx := fun _ => False, rt := Φ.rt, bk := Φ.nx, ct := fun _ => False }) (fun ts => ts = [] → Φ.nx Γ) fun x => PySem.W.subIn K (.ref x.C) (.type "StopIteration") = some false ∧ Φ.ex x Γ) :
    SW (tForN (tMkN (spN F) tr) (gName i) t (WEn K Φ.w)) Γ Φ := fun B0 H0 D σ B H ok a => by
  refine ⟨fun ys x H1 => ys = [] → gName i x σ H1 fun σ2 H2 => t { D with nx := fun _ _ => False, ct := fun _ _ => False, bk := D.nx } σ2 H2, fun ys H1 => ys = [] → D.nx σ H1, ?_, fun x H1 k => k rfl, fun H1 k => k rfl⟩
  refine h σ B H a.inn a.rel _ fun ss vs B1 H1 st p f => ⟨B1, ss, _, _, _, (a.step st).inn, p, f, fun ys ts x s B2 H2 st2 py px k e => ?_, fun ys ts B2 H2 st2 py k e => ?_, fun x d B2 H2 st2 xa k => ⟨k.1, ok.ex x d Γ σ B2 H2 ((a.step st).step st2) xa k.2⟩⟩
  · subst e
    cases py
    have a2 := ((a.step st).step st2).set (i := i) px
    exact k rfl B0 H0 _ _ B2 H2 ⟨fun _ _ _ _ _ z => z.elim, fun s v Γ' σ' B' H' at' ps q => ok.rt s v Γ' σ' B' H' at' ps q, fun Γ' σ' B' H' at' q => ok.nx Γ' σ' B' H' at' q, fun _ _ _ _ _ z => z.elim, fun _ _ _ _ _ _ _ _ z => z.elim⟩ a2
  · subst e
    cases py
    exact ok.nx Γ σ B2 H2 ((a.step st).step st2) (k rfl)
end
theorem at_setNo {B0 H0 B H : Hp} {σ : L2.St} {Γ : List Bd} {i : Nat} {v : Option V} (a : At B0 H0 σ B H Γ) : At B0 H0 (σ.set i v) B H (Γ.set i .no) where
  rel := a.rel.setNo
  inn := a.inn
  base := a.base
  out := a.out
  mine := fun j p ss h1 => by
    rcases getElem?_set_some h1 with ⟨rfl, e, hl⟩ | ⟨hj, h1⟩
    · cases e
    · exact a.mine j p ss h1
/-- which clause takes it, and what its suite does -/
def Caught (K : PySem.W.Frag) (i : Nat) (Φ : Ks) (x : Xs) (Γ : List Bd) : List (Value × (Addr → Value → Option Addr → TS)) → Prop
  | [] => False
  | (c, ts) :: r => (PySem.W.exmOne K (.ref x.C) c = some true ∧ ∀ a d, S (ts a (.ref x.C) d) (Γ.set i (.pl (exS a d x.fs))) { nx := fun Γ' => Φ.nx (Γ'.set i .no), rt := Φ.rt, bk := fun Γ' => Φ.bk (Γ'.set i .no), ct := fun Γ' => Φ.ct (Γ'.set i .no) }) ∨
      (PySem.W.exmOne K (.ref x.C) c = some false ∧ Caught K i Φ x Γ r)
section
variable {K : PySem.W.Frag} {Γ : List Bd} {Φ : Ks} {i : Nat} {Wout : WX}
theorem caught {B0 H0 : Hp} {D : Ends} (dk : DOk B0 H0 D Φ) {x : Xs} {d : Option Addr} {σ : L2.St} {B H : Hp} (a : At B0 H0 σ B H Γ) (xa : x.At d B) : ∀ {l : List (Value × (Addr → Value → Option Addr → TS))}, Caught K i Φ x Γ l → wAsMany K i Wout D l (.ref x.C) d σ H
  | (c, ts) :: r, h => by
    rcases h with ⟨h1, h2⟩ | ⟨h1, h2⟩
    · refine ⟨true, h1, ⟨fun _ p hp => ?_, fun z => nomatch z⟩⟩
      obtain ⟨dd, fs, rfl, hd, hf⟩ := xa
      exact h2 p (some dd) B0 H0 _ _ B H ⟨fun Γ' σ' B' H' a' k => dk.nx _ _ B' H' (at_setNo a') k, dk.rt, fun Γ' σ' B' H' a' k => dk.bk _ _ B' H' (at_setNo a') k, fun Γ' σ' B' H' a' k => dk.ct _ _ B' H' (at_setNo a') k, fun _ _ _ _ _ _ _ _ z => z.elim⟩
        (a.set (s := exS p (some dd) x.fs) ⟨rfl, dd, fs, rfl, hd, hf⟩)
    · exact ⟨false, h1, ⟨(fun z => nomatch z), fun _ => caught dk a xa h2⟩⟩
theorem S_tryMany {tb : WX → TS} {l : List (Value × (Addr → Value → Option Addr → TS))} (h : ∀ W, SW (tb W) Γ { nx := Φ.nx, rt := Φ.rt, bk := Φ.bk, ct := Φ.ct, w := W, ex := fun x Γ' => Caught K i Φ x Γ' l }) :
    S (fun D σ H => tb (wAsMany K i Wout D l) D σ H) Γ Φ := fun B0 H0 D σ B H dk a =>
  h _ B0 H0 D σ B H ⟨dk.nx, dk.rt, dk.bk, dk.ct, fun x d Γ' σ' B' H' a' xa k => caught dk a' xa k⟩ a
theorem S_tryAs {tb : WX → TS} {c : Value} {ts : Addr → Value → Option Addr → TS} (h : ∀ W, SW (tb W) Γ { nx := Φ.nx, rt := Φ.rt, bk := Φ.bk, ct := Φ.ct, w := W, ex := fun x Γ' => Caught K i Φ x Γ' [(c, ts)] }) :
    S (fun D σ H => tb (wAs K c i ts Wout D) D σ H) Γ Φ := fun B0 H0 D σ B H dk a =>
  h _ B0 H0 D σ B H ⟨dk.nx, dk.rt, dk.bk, dk.ct, fun x d Γ' σ' B' H' a' xa k => caught (l := [(c, ts)]) (Wout := Wout) dk a' xa k⟩ a
end
end AbM

/-! AbS -/
/-! AbS: lists of the def's own by list(..), pop, append, extend; ranges; tuples put together; math.comb. -/
namespace Ab
open PySem PySem.Spec PyProof.Rows L2

/-! ### an expression that makes a new list -/
def EN (te : TE) (Γ : List Bd) (Φ : List Slot → Prop) : Prop := ∀ σ B H, Same B H → Rel σ B H Γ → ∀ Q : VK, (∀ ss vs p B' H', Step B H B' H' → PSl vs ss B' → H' p = none → Φ ss → Q (.ref p) (upd H' p (.lst vs))) → te σ H Q
def rgS (a b : Int) : List Slot := (rgV a b).map vS
theorem psl_vS (vs : List V) (H : Hp) : PSl vs (vs.map vS) H := by
  induction vs with
  | nil => exact .nil
  | cons v vs ih => exact .cons rfl ih
section
variable {K : PySem.W.Frag} {Γ : List Bd} {Φ : Slot → Prop} {Φl : List Slot → Prop} {Φk : Ks} {te ta tb : TE} {tr : TA} {i j : Nat}
theorem EN.E (h : EN te Γ fun ss => Φ (lstS ss)) : E te Γ Φ := fun σ B H b r Q q =>
  h σ B H b r Q fun ss vs p B' H' st ps hp k => q (lstS ss) (.ref p) (upd B' p (.lst vs)) (upd H' p (.lst vs)) (st.trans (.new st.inn hp)) ⟨p, vs, rfl, upd_same, ps.mono (Step.new (o := .lst vs) st.inn hp).base⟩ k
theorem EN_lst (h : A tr Γ fun ss => ss.length ≤ 100000 ∧ Φl ss) : EN (tLst tr) Γ Φl := fun σ B H b r Q q =>
  h σ B H b r _ fun ss vs B' H' st p ⟨hl, k⟩ => ⟨Nat.le_trans (by rw [p.length]; exact hl) (by decide), fun x hx => q ss vs x B' H' st p hx k⟩
theorem EN_rg1 (h : E ta Γ fun s => ∃ n : Int, s = vS (.int n) ∧ 0 ≤ n ∧ n ≤ 16777216 ∧ Φl (rgS 0 n)) : EN (tLstRg (tRg1 ta)) Γ Φl := fun σ B H b r Q q =>
  h σ B H b r _ fun s v B' H' st p ⟨n, e, h0, h1, k⟩ => by
    subst e
    exact ⟨n, p, RgOk.of_le (by decide) h1 (by decide) h0, fun x hx => q _ _ x B' H' st (psl_vS _ _) hx k⟩
theorem EN_copyL (h : E ta Γ fun s => ∃ ss, s = lstS ss ∧ Φl ss) : EN (tCB (fun xs H Q => ∃ p ys, xs = [.ref p] ∧ (SqL K H p ys ∨ SqT K H p ys) ∧ ∀ l, H l = none → Q (.ref l) (upd H l (.lst ys))) (tCons ta tNil)) Γ Φl := fun σ B H b r Q q =>
  h σ B H b r _ fun s v B' H' st p ⟨ss, e, k⟩ => by
    subst e
    obtain ⟨a, vs, rfl, ha, ps⟩ := p
    exact ⟨a, vs, rfl, .inl (SqL.of (st.inn _ _ ha)), fun x hx => q ss vs x B' H' st ps hx k⟩
/-! ### its owner -/
theorem at_own {B0 H0 B H : Hp} {σ : L2.St} {p : Addr} {vs : List V} {ss : List Slot} (a : At B0 H0 σ B H Γ) (hp : H p = none) (q : PSl vs ss B) : At B0 H0 (σ.set i (some (.ref p))) B (upd H p (.lst vs)) (Γ.set i (.own p ss)) where
  rel := a.rel.setOwn a.inn hp q
  inn := fun x o e => by rw [upd_ne (ne_of_none (a.inn _ _ e) hp)]; exact a.inn _ _ e
  base := a.base
  out := fun x h1 h2 => by
    obtain ⟨q1, q2⟩ := a.out x h1 h2
    exact ⟨q1, by rw [upd_ne (fun z => h2 (by rw [← q2, z]; exact hp))]; exact q2⟩
  mine := fun k p' ss' h1 => by
    rcases getElem?_set_some h1 with ⟨rfl, e, _⟩ | ⟨_, h1⟩
    · cases e
      cases z : H0 p with
      | none => rfl
      | some u =>
        cases y : B0 p with
        | none =>
          have := (a.out p y (by rw [z]; simp)).2
          rw [hp, z] at this; cases this
        | some w =>
          have := a.inn _ _ (a.base _ _ y)
          rw [hp] at this; cases this
    · exact a.mine k p' ss' h1
theorem S_own (h : EN te Γ fun ss => ∀ p, Φk.nx (Γ.set i (.own p ss))) : S (tAsg te (gName i)) Γ Φk := fun B0 H0 D σ B H d a =>
  h σ B H a.inn a.rel _ fun ss vs p B' H' st ps hp k => d.nx _ _ B' _ (at_own (a.step st) hp ps) (k p)
/-- x, y = two new lists -/
theorem S_parOwn (h : EN ta Γ fun ss => EN tb Γ fun ts => ∀ p q, Φk.nx ((Γ.set i (.own p ss)).set j (.own q ts))) : S (tPar i j (tCons ta (tCons tb tNil))) Γ Φk := fun B0 H0 D σ B H d a => by
  refine h σ B H a.inn a.rel _ fun ss vs p B1 H1 st ps hp k => ?_
  have a1 := a.step st
  have hB1 : B1 p = none := st.inn.free hp
  have s1 : Same B1 (upd H1 p (.lst vs)) := fun x o e => by rw [upd_ne (ne_of_none (a1.inn _ _ e) hp)]; exact a1.inn _ _ e
  have r1 : Rel σ B1 (upd H1 p (.lst vs)) Γ := ⟨a1.rel.len, a1.rel.pl, fun n p' ss' e => by
    obtain ⟨e1, e2, vs', e3, e4⟩ := a1.rel.own n p' ss' e
    exact ⟨e1, e2, vs', by rw [upd_ne (ne_of_none e3 hp)]; exact e3, e4⟩, a1.rel.dis⟩
  refine k σ B1 _ s1 r1 _ fun ts ws q B2 H2 st2 qs hq k2 => ⟨_, _, rfl, ?_⟩
  obtain ⟨o1, o2⟩ := st2.out p hB1 (by rw [upd_same]; simp)
  rw [upd_same] at o2
  -- both as owned: the first one as it was made, ahead of the second
  have hH0 : H0 p = none := by
    cases z : H0 p with
    | none => rfl
    | some u =>
      cases y : B0 p with
      | none =>
        have := (a1.out p y (by rw [z]; simp)).2
        rw [hp, z] at this; cases this
      | some w =>
        have := a1.inn _ _ (a1.base _ _ y)
        rw [hp] at this; cases this
  have a2 : At B0 H0 (σ.set i (some (.ref p))) B2 H2 (Γ.set i (.own p ss)) := by
    refine ⟨⟨by rw [List.length_set, List.length_set]; exact a.rel.len, fun n s e => ?_, fun n p' ss' e => ?_, fun n m p' s1' s2' e1 e2 => ?_⟩, st2.inn, a1.base.trans st2.base, fun x h1 h2 => ?_, fun n p' ss' e => ?_⟩
    · rcases getElem?_set_some e with ⟨rfl, e', _⟩ | ⟨hn, e⟩
      · cases e'
      · obtain ⟨v, e1, e2⟩ := a1.rel.pl n s e
        exact ⟨v, by rw [List.getElem?_set_ne (fun z => hn z.symm)]; exact e1, s.mono st2.base e2⟩
    · rcases getElem?_set_some e with ⟨rfl, e', hl⟩ | ⟨hn, e⟩
      · cases e'
        exact ⟨by rw [List.getElem?_set_self (by rw [a.rel.len]; exact hl)], o1, vs, o2, ps.mono st2.base⟩
      · obtain ⟨e1, e2, vs', e3, e4⟩ := r1.own n p' ss' e
        obtain ⟨q1, q2⟩ := st2.out p' e2 (by rw [e3]; simp)
        exact ⟨by rw [List.getElem?_set_ne (fun z => hn z.symm)]; exact e1, q1, vs', q2.trans e3, e4.mono st2.base⟩
    · rcases getElem?_set_some e1 with ⟨hn, e', _⟩ | ⟨hn, f1⟩
      · cases e'
        rcases getElem?_set_some e2 with ⟨hm, e', _⟩ | ⟨hm, f2⟩
        · exact hn.trans hm.symm
        · obtain ⟨_, _, vs', e3, _⟩ := a1.rel.own m p s2' f2
          rw [hp] at e3; cases e3
      · rcases getElem?_set_some e2 with ⟨hm, e', _⟩ | ⟨hm, f2⟩
        · cases e'
          obtain ⟨_, _, vs', e3, _⟩ := a1.rel.own n p s1' f1
          rw [hp] at e3; cases e3
        · exact a1.rel.dis n m p' s1' s2' f1 f2
    · obtain ⟨q1, q2⟩ := a1.out x h1 h2
      have hx : x ≠ p := fun z => h2 (by rw [← q2, z]; exact hp)
      obtain ⟨q3, q4⟩ := st2.out x q1 (by rw [upd_ne hx, q2]; exact h2)
      exact ⟨q3, by rw [q4, upd_ne hx]; exact q2⟩
    · rcases getElem?_set_some e with ⟨rfl, e', _⟩ | ⟨hn, e⟩
      · cases e'; exact hH0
      · exact a1.mine n p' ss' e
  exact d.nx _ _ B2 _ (at_own a2 hq qs) (k2 p q)
/-- the owner gives it up: from here it is only read -/
theorem S_give {t : TS} {p : Addr} {ss : List Slot} (hi : Γ[i]? = some (.own p ss)) (h : S t (Γ.set i (.pl (lstS ss))) Φk) : S t Γ Φk := fun B0 H0 D σ B H d a => by
  obtain ⟨e, hb, vs, hp, ps⟩ := a.rel.own i p ss hi
  have sm : Same B (upd B p (.lst vs)) := fun x o e => by rw [upd_ne (ne_of_none e hb)]; exact e
  have hl : i < Γ.length := (List.getElem?_eq_some_iff.mp hi).1
  refine h B0 H0 D σ (upd B p (.lst vs)) H d ⟨⟨by rw [List.length_set]; exact a.rel.len, fun n s en => ?_, fun n p' ss' en => ?_, fun n m p' s1 s2 e1 e2 => ?_⟩, fun x o ex => ?_, a.base.trans sm, fun x h1 h2 => ?_, fun n p' ss' en => ?_⟩
  · rcases getElem?_set_some en with ⟨rfl, e', _⟩ | ⟨hn, en⟩
    · cases e'
      exact ⟨.ref p, e, p, vs, rfl, upd_same, ps.mono sm⟩
    · obtain ⟨v, e1, e2⟩ := a.rel.pl n s en
      exact ⟨v, e1, s.mono sm e2⟩
  · rcases getElem?_set_some en with ⟨rfl, e', _⟩ | ⟨hn, en⟩
    · cases e'
    · obtain ⟨e1, e2, vs', e3, e4⟩ := a.rel.own n p' ss' en
      have hne : p' ≠ p := fun z => hn (a.rel.dis n i p _ _ (z ▸ en) hi)
      exact ⟨e1, by rw [upd_ne hne]; exact e2, vs', e3, e4.mono sm⟩
  · rcases getElem?_set_some e1 with ⟨rfl, e', _⟩ | ⟨_, e1⟩
    · cases e'
    · rcases getElem?_set_some e2 with ⟨rfl, e', _⟩ | ⟨_, e2⟩
      · cases e'
      · exact a.rel.dis n m p' s1 s2 e1 e2
  · by_cases hx : x = p
    · subst hx; rw [upd_same] at ex; cases ex; exact hp
    · rw [upd_ne hx] at ex; exact a.inn _ _ ex
  · obtain ⟨q1, q2⟩ := a.out x h1 h2
    have hx : x ≠ p := fun z => h2 (by rw [z]; exact a.mine i p ss hi)
    exact ⟨by rw [upd_ne hx]; exact q1, q2⟩
  · rcases getElem?_set_some en with ⟨rfl, e', _⟩ | ⟨_, en⟩
    · cases e'
    · exact a.mine n p' ss' en
theorem at_write {B0 H0 B H : Hp} {σ : L2.St} {p : Addr} {vs : List V} {ss ss0 : List Slot} (a : At B0 H0 σ B H Γ) (hi : Γ[i]? = some (.own p ss0)) (q : PSl vs ss B) : At B0 H0 σ B (upd H p (.lst vs)) (Γ.set i (.own p ss)) := by
  obtain ⟨e, hb, _⟩ := a.rel.own i p ss0 hi
  refine ⟨a.rel.write hi q, fun c o ec => ?_, a.base, fun c h1 h2 => ?_, fun c p' ss' hc => ?_⟩
  · rw [upd_ne (ne_of_none ec hb)]; exact a.inn _ _ ec
  · obtain ⟨q1, q2⟩ := a.out c h1 h2
    exact ⟨q1, by rw [upd_ne (fun z => h2 (by rw [z]; exact a.mine i p ss0 hi))]; exact q2⟩
  · rcases getElem?_set_some hc with ⟨rfl, e', _⟩ | ⟨_, hc⟩
    · cases e'
      exact a.mine _ _ _ hi
    · exact a.mine _ _ _ hc
theorem S_appOwn {p : Addr} {ss : List Slot} (hi : Γ[i]? = some (.own p ss)) (h : E te Γ fun s => ss.length < 100000 ∧ Φk.nx (Γ.set i (.own p (ss ++ [s])))) : S (tDrop (tBM K "list" rAppend (tVar i) (tCons te tNil))) Γ Φk := fun B0 H0 D σ B H d a => by
  obtain ⟨e, hb, vs, hp, ps⟩ := a.rel.own i p ss hi
  refine ⟨_, e, .inl ⟨rfl, vs, SqL.of hp⟩, h σ B H a.inn a.rel _ fun s v B1 H1 st pv ⟨hl, k⟩ => ?_⟩
  have a1 := a.step st
  obtain ⟨q1, q2⟩ := st.out p hb (by rw [hp]; simp)
  exact ⟨p, vs, v, rfl, rfl, q2.trans hp, by rw [ps.length]; exact Nat.lt_of_lt_of_le hl (by decide), d.nx _ _ B1 _ (at_write a1 hi (PSl.append (ps.mono st.base) (.cons pv .nil))) k⟩
theorem S_extOwn {p : Addr} {ss : List Slot} (hi : Γ[i]? = some (.own p ss)) (h : E te Γ fun s => ∃ ts, s = lstS ts ∧ ss.length + ts.length ≤ 100000 ∧ Φk.nx (Γ.set i (.own p (ss ++ ts)))) : S (tDrop (tBM K "list" rExtend (tVar i) (tCons te tNil))) Γ Φk := fun B0 H0 D σ B H d a => by
  obtain ⟨e, hb, vs, hp, ps⟩ := a.rel.own i p ss hi
  refine ⟨_, e, .inl ⟨rfl, vs, SqL.of hp⟩, h σ B H a.inn a.rel _ fun s v B1 H1 st pv ⟨ts, es, hl, k⟩ => ?_⟩
  subst es
  obtain ⟨b, ws, rfl, hw, pw⟩ := pv
  have a1 := a.step st
  obtain ⟨q1, q2⟩ := st.out p hb (by rw [hp]; simp)
  exact ⟨p, b, vs, ws, rfl, rfl, q2.trans hp, st.inn _ _ hw, Nat.le_trans (by rw [ps.length, pw.length]; exact hl) (by decide), d.nx _ _ B1 _ (at_write a1 hi (PSl.append (ps.mono st.base) pw)) k⟩
theorem PSl.erase {vs : List V} {ss : List Slot} {H : Hp} : ∀ {k : Nat}, PSl vs ss H → PSl (vs.eraseIdx k) (ss.eraseIdx k) H := fun {k} h => by
  induction h generalizing k with
  | nil => exact .nil
  | cons r t ih =>
    cases k with
    | zero => exact t
    | succ k => exact .cons r ih
/-- y.append(x.pop(e)) -/
theorem S_appPop {p q : Addr} {ss ts : List Slot} (hne : i ≠ j) (hi : Γ[i]? = some (.own p ss)) (hj : Γ[j]? = some (.own q ts)) (h : E te Γ fun s => ∃ (n : Nat) (x : Slot), s = vS (.int n) ∧ ss[n]? = some x ∧ ss.length < 100000 ∧ ts.length < 100000 ∧ Φk.nx ((Γ.set i (.own p (ss.eraseIdx n))).set j (.own q (ts ++ [x])))) :
    S (tDrop (tBM K "list" rAppend (tVar j) (tCons (tBM K "list" rPopAt (tVar i) (tCons te tNil)) tNil))) Γ Φk := fun B0 H0 D σ B H d a => by
  obtain ⟨ei, hbi, vs, hpi, psi⟩ := a.rel.own i p ss hi
  obtain ⟨ej, hbj, ws, hpj, psj⟩ := a.rel.own j q ts hj
  have hpq : p ≠ q := fun z => hne (a.rel.dis i j p _ _ hi (z ▸ hj))
  refine ⟨_, ej, .inl ⟨rfl, ws, SqL.of hpj⟩, _, ei, .inl ⟨rfl, vs, SqL.of hpi⟩, h σ B H a.inn a.rel _ fun s v B1 H1 st pv ⟨n, x, es, hx, l1, l2, k⟩ => ?_⟩
  subst es
  obtain rfl : v = .int n := pv
  have a1 := a.step st
  obtain ⟨q1, q2⟩ := st.out p hbi (by rw [hpi]; simp)
  obtain ⟨r1, r2⟩ := st.out q hbj (by rw [hpj]; simp)
  obtain ⟨y, ey, py⟩ := (psi.mono st.base).get hx
  have hn : n < ss.length := (List.getElem?_eq_some_iff.mp hx).1
  refine ⟨p, vs, n, n, y, rfl, rfl, q2.trans hpi, by omega, by omega, ?_, ey, ?_⟩
  · rw [psi.length]
    unfold seqIndex?
    have h1 : ¬ ((n : Int) < 0) := by omega
    have h2 : (n : Int) < (ss.length : Int) := by omega
    simp [h1, h2, hn]
  have a2 := at_write a1 hi ((psi.mono st.base).erase (k := n))
  have hj2 : (Γ.set i (.own p (ss.eraseIdx n)))[j]? = some (.own q ts) := by rw [List.getElem?_set_ne hne]; exact hj
  refine ⟨q, ws, y, rfl, rfl, by rw [upd_ne (fun z => hpq z.symm)]; exact r2.trans hpj, by rw [psj.length]; exact Nat.lt_of_lt_of_le l2 (by decide), d.nx _ _ B1 _ (at_write a2 hj2 (PSl.append (psj.mono st.base) (.cons py .nil))) k⟩
/-- tuple(x), len(x) of an own list -/
theorem E_tupOwn {p : Addr} {ss : List Slot} (hi : Γ[i]? = some (.own p ss)) (k : Φ (tupS K ss)) : E (tCB (fun xs H Q => ∃ p ys, xs = [.ref p] ∧ ((SqL K H p ys ∧ ∀ l, H l = none → Q (.ref l) (upd H l (.tup ys))) ∨ (SqT K H p ys ∧ Q (.ref p) H))) (tCons (tVar i) tNil)) Γ Φ := fun σ B H b r Q q => by
  obtain ⟨e, hb, vs, hp, ps⟩ := r.own i p ss hi
  exact ⟨_, e, p, vs, rfl, .inl ⟨SqL.of hp, fun x hx => q (tupS K ss) (.ref x) (upd B x (.tup vs)) (upd H x (.tup vs)) (.new b hx) ⟨x, vs, rfl, .inl (.inl upd_same), ps.mono (Step.new (o := .tup vs) b hx).base⟩ k⟩⟩
theorem E_lenOwn {p : Addr} {ss : List Slot} (hi : Γ[i]? = some (.own p ss)) (k : Φ (vS (.int ss.length))) : E (tCB (fun xs H Q => ∃ p ys, xs = [.ref p] ∧ (SqL K H p ys ∨ SqT K H p ys) ∧ Q (.int ys.length) H) (tCons (tVar i) tNil)) Γ Φ := fun σ B H b r Q q => by
  obtain ⟨e, hb, vs, hp, ps⟩ := r.own i p ss hi
  exact ⟨_, e, p, vs, rfl, .inl (SqL.of hp), q _ _ B H (.refl b) (by rw [ps.length]; rfl) k⟩
/-! ### tuples, ranges -/
theorem E_tupRg1 (h : E ta Γ fun s => ∃ n : Int, s = vS (.int n) ∧ 0 ≤ n ∧ n ≤ 16777216 ∧ Φ (tupS K (rgS 0 n))) : E (tTupRg (tRg1 ta)) Γ Φ := fun σ B H b r Q q =>
  h σ B H b r _ fun s v B' H' st p ⟨n, e, h0, h1, k⟩ => by
    subst e
    exact ⟨n, p, RgOk.of_le (by decide) h1 (by decide) h0, fun x hx => q (tupS K (rgS 0 n)) (.ref x) (upd B' x (.tup (rgV 0 n))) _ (st.trans (.new st.inn hx)) ⟨x, _, rfl, .inl (.inl upd_same), psl_vS _ _⟩ k⟩
theorem R_catA {ss ts : List Slot} (hl : ss.length + ts.length ≤ 100000) (k : Φ (tupS K (ss ++ ts))) : R (rCatA K) (tupS K ss) (tupS K ts) Φ := fun x y B H b p1 p2 Q q => by
  obtain ⟨a, vs, rfl, ha, pa⟩ := p1
  obtain ⟨a', ws, rfl, ha', pa'⟩ := p2
  have la := pa.length
  have lb := pa'.length
  refine ⟨a, a', vs, ws, rfl, rfl, Same.tup b ha, Same.tup b ha', Nat.le_trans (by rw [la, lb]; exact hl) (by decide), fun e => ?_, fun _ e => ?_, fun _ _ p hp => ?_⟩
  · subst e
    cases pa
    exact q (tupS K ts) (.ref a') B H (.refl b) ⟨a', ws, rfl, ha', pa'⟩ k
  · subst e
    cases pa'
    rw [List.append_nil] at k
    exact q (tupS K ss) (.ref a) B H (.refl b) ⟨a, vs, rfl, ha, pa⟩ k
  · exact q (tupS K (ss ++ ts)) (.ref p) (upd B p (.tup (vs ++ ws))) _ (.new b hp) ⟨p, _, rfl, .inl (.inl upd_same), PSl.append (pa.mono (Step.new (o := .tup (vs ++ ws)) b hp).base) (pa'.mono (Step.new (o := .tup (vs ++ ws)) b hp).base)⟩ k
theorem C_min2 {a b : Int} (k : Φ (vS (.int (if b < a then b else a)))) : C (fun xs H Q => ∃ i j, xs = [.int i, .int j] ∧ Q (.int (if j < i then j else i)) H) [vS (.int a), vS (.int b)] Φ := fun vs B H b' p Q q => by
  cases p with
  | cons h1 p => cases p with
    | cons h2 p =>
      cases p
      exact ⟨a, b, by rw [show _ = V.int a from h1, show _ = V.int b from h2], q _ _ B H (.refl b') rfl k⟩
theorem PSl.vals : ∀ {cs vs : List V} {H : Hp}, PSl vs (cs.map vS) H → vs = cs
  | [], _, _, .nil => rfl
  | c :: cs, _, _, .cons a p => by rw [show _ = c from a, PSl.vals p]
theorem R_inL {x : V} {cs : List V} (fx : flatV x = true) (fs : cs.all flatV = true) (k : Φ (vS (.bl (inV x cs)))) : R (rIn K false) (vS x) (lstS (cs.map vS)) Φ := fun u y B H b p1 p2 Q q => by
  obtain rfl : u = x := p1
  obtain ⟨a, vs, rfl, ha, pa⟩ := p2
  obtain rfl := pa.vals
  exact ⟨a, vs, rfl, .inl (SqL.of (b _ _ ha)), fx, fs, q _ _ B H (.refl b) rfl k⟩
/-- xs[:n] -/
theorem E_cutTo (h : E te Γ fun s => E ta Γ fun t => ∃ (ss : List Slot) (n : Nat), s = lstS ss ∧ t = vS (.int n) ∧ Φ (lstS (ss.take n))) : E (tSl (rSlL K) te tNoPart (tPart ta)) Γ Φ := fun σ B H b r Q q => by
  refine h σ B H b r _ fun s v B1 H1 st pv h1 => h1 σ B1 H1 st.inn (r.step st) _ fun t w B2 H2 st2 pw ⟨ss, n, e1, e2, k⟩ => ?_
  subst e1; subst e2
  obtain ⟨a, vs, rfl, ha, pa⟩ := pv
  refine ⟨n, pw, a, vs, rfl, SqL.of (st2.inn _ _ (st2.base _ _ ha)), fun p hp => ?_⟩
  have e : cutV vs none (some (n : Int)) = vs.take n := by
    unfold cutV
    rw [HT.sIx_none, HT.sIx_nat, List.drop_zero, Nat.sub_zero]
    by_cases hn : n ≤ vs.length
    · rw [Nat.min_eq_left hn]
    · rw [Nat.min_eq_right (by omega), List.take_of_length_le (Nat.le_refl _), List.take_of_length_le (by omega)]
  rw [e]
  have tk : ∀ {vs : List V} {ss : List Slot} {B : Hp} {n : Nat}, PSl vs ss B → PSl (vs.take n) (ss.take n) B := fun {vs ss B n} h => by
    induction h generalizing n with
    | nil => rw [List.take_nil, List.take_nil]; exact .nil
    | cons r t ih =>
      cases n with
      | zero => exact .nil
      | succ n => exact .cons r ih
  have st3 := Step.new (o := .lst (vs.take n)) st2.inn hp
  exact q (lstS (ss.take n)) (.ref p) (upd B2 p (.lst (vs.take n))) _ ((st.trans st2).trans st3) ⟨p, _, rfl, upd_same, tk (pa.mono (st2.base.trans st3.base))⟩ k
/-- f(e, .., k = v, ..) -/
theorem E_callN {F : FS} {n m : Nat} {Er : XK} {tk : TA} (h : A tr Γ fun ss => A tk Γ fun zs => ss.length = n ∧ zs.length = m ∧ F (ss ++ zs) Φ fun _ => False) : E (tCallN n m (spOf F) (fun vs zs => vs ++ zs) Er tr tk) Γ Φ := fun σ B H b r Q q =>
  h σ B H b r _ fun ss vs B1 H1 st1 p1 h1 => h1 σ B1 H1 st1.inn (r.step st1) _ fun zs ws B2 H2 st2 p2 ⟨l1, l2, f⟩ =>
    ⟨p1.length.trans l1, p2.length.trans l2, B2, ss ++ zs, Φ, fun _ => False, st2.inn, PSl.append (p1.mono st2.base) p2, f, fun s v B3 H3 st3 p k => q s v B3 H3 ((st1.trans st2).trans st3) p k, fun _ _ _ _ _ _ z => z.elim⟩
/-- x, y = e -/
theorem S_asgG {g : TG} (vs : List Nat) (h : E te Γ fun s => Gj g vs s Γ Φk.nx) : S (tAsg te g) Γ Φk := fun B0 H0 D σ B H d a =>
  h σ B H a.inn a.rel _ fun s v B1 H1 st p k => by
    have a1 := a.step st
    exact k σ B1 H1 v a1.inn a1.rel p _ fun Γ' σ' r' _ _ w k' => d.nx Γ' σ' B1 H1 (a1.of r' w) k'
/-- for x in range(..) -/
theorem S_forR {g : TG} {t : TS} {lo : Int} {n : Nat} {iR : TI} (vs : List Nat) (W : Nat → List Bd → Prop)
    (hr : ∀ σ B H, Same B H → Rel σ B H Γ → ∀ R : It → Hp → Prop, (∀ B' H', Step B H B' H' → R (Itr lo n) H') → iR σ H R) (w0 : W 0 Γ)
    (hs : ∀ (i : Nat) Γ', i < n → W i Γ' → Gj g vs (vS (.int (lo + i))) Γ' fun Γ'' => S t Γ'' { Φk with nx := W (i + 1), ct := W (i + 1), bk := Φk.nx }) (hd : ∀ Γ', W n Γ' → Φk.nx Γ') : S (tFor iR g t) Γ Φk := fun B0 H0 D σ B H d a =>
  hr σ B H a.inn a.rel _ fun B1 H1 st => by
    have a1 := a.step st
    have d1 := d.here a1
    refine for_range (fun i σ' H' => ∃ Γ' B', At B1 (mrg B1 H0) σ' B' H' Γ' ∧ W i Γ') ⟨Γ, B1, a1.here, w0⟩ ?_ ?_
    · rintro i σ' H' hi ⟨Γ', B', a', w⟩
      refine hs i Γ' hi w σ' B' H' _ a'.inn a'.rel rfl _ fun Γ'' σ'' r o l' wn k => ?_
      exact k B1 (mrg B1 H0) _ σ'' B' H' ⟨fun Γ3 σ3 B3 H3 a3 k3 => ⟨Γ3, B3, a3, k3⟩, d1.rt, d1.nx, fun Γ3 σ3 B3 H3 a3 k3 => ⟨Γ3, B3, a3, k3⟩, d1.ex⟩ (a'.of r wn)
    · rintro σ' H' ⟨Γ', B', a', w⟩
      exact d1.nx Γ' σ' B' H' a' (hd Γ' w)
theorem rng1 {n : Int} (h : A tr Γ fun ss => ss = [vS (.int n)] ∧ -(2 ^ 62) ≤ n ∧ n < 2 ^ 62) : ∀ σ B H, Same B H → Rel σ B H Γ → ∀ R : It → Hp → Prop, (∀ B' H', Step B H B' H' → R (Itr 0 n.toNat) H') → iRng1 tr σ H R := fun σ B H b r R q =>
  h σ B H b r _ fun ss vs B' H' st p ⟨e, h1, h2⟩ => by
    subst e
    cases p with
    | cons h3 p => cases p; exact ⟨n, by rw [show _ = V.int n from h3], h1, h2, q B' H' st⟩
theorem rng2 {lo hi : Int} (h : A tr Γ fun ss => ss = [vS (.int lo), vS (.int hi)] ∧ -(2 ^ 62) ≤ lo ∧ lo < 2 ^ 62 ∧ -(2 ^ 62) ≤ hi ∧ hi < 2 ^ 62) : ∀ σ B H, Same B H → Rel σ B H Γ → ∀ R : It → Hp → Prop, (∀ B' H', Step B H B' H' → R (Itr lo (hi - lo).toNat) H') → iRng2 tr σ H R := fun σ B H b r R q =>
  h σ B H b r _ fun ss vs B' H' st p ⟨e, h1, h2, h3, h4⟩ => by
    subst e
    cases p with
    | cons h5 p => cases p with
      | cons h6 p => cases p; exact ⟨lo, hi, by rw [show _ = V.int lo from h5, show _ = V.int hi from h6], ⟨h1, h2, h3, h4⟩, q B' H' st⟩
/-- [.. for x in range(..) ..] -/
theorem E_lcR {g : TG} {tt : TT} {vs : List Nat} {lo : Int} {n : Nat} {iR : TI} (f : Nat → Slot) (p : Nat → Bool) (hr : ∀ σ B H, Same B H → Rel σ B H Γ → ∀ R : It → Hp → Prop, (∀ B' H', Step B H B' H' → R (Itr lo n) H') → iR σ H R) (hn : n ≤ 50000)
    (ht : ∀ i < n, LcT g tt te vs Γ (vS (.int (lo + i))) (p i) (f i)) (k : Φ (lstS (((List.range n).filter p).map f))) : E (tLc iR g tt te vs) Γ Φ := fun σ B H b rl Q q =>
  hr σ B H b rl _ fun B1 H1 st => fun Dl hD => lc_range (fun i H' => LcP B1 H1 Dl (((((List.range n).take i)).filter p).map f) H') (LcP.start st.inn hD) (by
      rintro i H' hi ⟨B', ys, st', hB, hH, py⟩
      have hl2 : ys.length < 60000 := by
        have h1 := List.length_filter_le p ((List.range n).take i)
        rw [py.length, List.length_map]
        rw [List.length_take, List.length_range] at h1
        omega
      have := (ht i hi).run (rl.step st) hD st' hB hH py hl2 rfl
      rw [take_filter (x := i) (by rw [List.getElem?_range hi])]
      exact this) (by
      intro H' w
      rw [List.take_of_length_le (by rw [List.length_range]; exact Nat.le_refl _)] at w
      obtain ⟨B', st', pl⟩ := w.fin st.inn hD
      exact q _ _ B' H' (st.trans st') pl k)
end
/-! ### x[i] += e of an own list -/
section
variable {X : Cx} {Γ : List Bd} {Φk : Ks} {ti te : TE} {i : Nat}
theorem get_list : PGet X (rIxL X.K) := by
  intro pins s σ H o i ov iv Q I ro ri h
  obtain ⟨p, xs, k, z, rfl, rfl, hq, he, q⟩ := h
  cases ro
  obtain ⟨t, rfl⟩ := ri
  obtain ⟨its, r, pl, hz⟩ := I.list hq
  obtain ⟨j, h1, h2, h3, h4, h5⟩ := atI_get he
  obtain ⟨w, ew, rw'⟩ := r.get h2
  have hl := r.length
  have hn := line63
  have fin : EP X pins σ Q w s := ⟨z, H, I, rw', q⟩
  by_cases h0 : 0 ≤ k
  · have hj : k.toNat = j := by
      rw [seqIndex_of h0 h5] at h1
      exact Option.some.inj h1
    exact wpAny_getItem_list pl.isList h0 (by omega) (by rw [hj]; simpa using ew) fin
  · have hj : (k + (its.toArray.size : Int)).toNat = j := by
      rw [seqIndex_neg (by omega) h4] at h1
      rw [List.size_toArray, ← hl]
      exact Option.some.inj h1
    exact wpAny_getItem_list_neg pl.isList (by omega) (by rw [List.size_toArray] <;> omega) (by omega) (by rw [hj]; simpa using ew) fin
theorem S_augOwn {K : PySem.W.Frag} {f : Int → Int → Int} {p : Addr} {ss : List Slot} (hi : Γ[i]? = some (.own p ss))
    (h : E ti Γ fun si => ∃ (k : Int) (j : Nat) (n : Int), si = vS (.int k) ∧ ixN ss.length k = some j ∧ ss[j]? = some (vS (.int n)) ∧ E te Γ fun s => ∃ m : Int, s = vS (.int m) ∧ Φk.nx (Γ.set i (.own p (ss.set j (vS (.int (f n m))))))) :
    S (tAugS (tVar i) ti te (rIxL K) (ipI f) rSetL) Γ Φk := fun B0 H0 D σ B H d a => by
  obtain ⟨e, hb, vs, hp, ps⟩ := a.rel.own i p ss hi
  refine ⟨_, e, h σ B H a.inn a.rel _ fun si y B1 H1 st py h1 => ?_⟩
  obtain ⟨k, j, n, rfl, ej, en, h1⟩ := h1
  obtain rfl : y = .int k := py
  have a1 := a.step st
  obtain ⟨q1, q2⟩ := st.out p hb (by rw [hp]; simp)
  obtain ⟨v, ev, pv⟩ := (ps.mono st.base).get en
  obtain rfl : v = .int n := pv
  have hat : L2.atI vs k = some (.int n) := by
    unfold L2.atI
    rw [ps.length, ej]
    exact ev
  refine ⟨p, vs, k, _, rfl, rfl, SqL.of (q2.trans hp), hat, h1 σ B1 H1 a1.inn a1.rel _ fun s w B2 H2 st2 pw h2 => ?_⟩
  obtain ⟨m, rfl, h2⟩ := h2
  obtain rfl : w = .int m := pw
  have a2 := a1.step st2
  obtain ⟨q3, q4⟩ := st2.out p q1 (by rw [q2, hp]; simp)
  have hset : ∀ {vs : List V} {ss : List Slot} {j : Nat} {v : V} {s : Slot} {B : Hp}, PSl vs ss B → s.P v B → PSl (vs.set j v) (ss.set j s) B := by
    intro vs ss j v s B p0 q0
    induction p0 generalizing j with
    | nil => exact .nil
    | cons r t ih =>
      cases j with
      | zero => exact .cons q0 t
      | succ j => exact .cons r ih
  exact ⟨n, m, rfl, rfl, p, vs, k, j, rfl, rfl, q4.trans (q2.trans hp), by rw [ps.length]; exact ej, d.nx _ _ B2 _ (at_write a2 hi (hset (j := j) (s := vS (.int (f n m))) (ps.mono (st.base.trans st2.base)) rfl)) h2⟩
end
/-! ### math.comb -/
def rComb : List V → Hp → VK → Prop := fun vs H Q => ∃ a b : Int, vs = [.int a, .int b] ∧ 0 ≤ a ∧ 0 ≤ b ∧ a ≤ 18000 ∧ Q (.int (PySem.W.mcComb a b)) H
theorem cr_comb {X : Cx} : CallR X (.builtin "math.comb") rComb := by
  intro pins s σ H vs us Q I r h
  obtain ⟨a, b, rfl, h1, h2, h3, q⟩ := h
  obtain ⟨t, u, rfl⟩ := Vals.int2 r
  exact PySem.W.mc_comb h1 h2 (by omega) (.inr h3) fun _ => ⟨.int _, H, I.tok _, ⟨_, rfl⟩, q⟩
theorem C_comb {a b : Int} {Φ : Slot → Prop} (h1 : 0 ≤ a) (h2 : 0 ≤ b) (h3 : a ≤ 18000) (k : Φ (vS (.int (PySem.W.mcComb a b)))) : C rComb [vS (.int a), vS (.int b)] Φ := fun vs B H b' p Q q => by
  cases p with
  | cons g1 p => cases p with
    | cons g2 p =>
      cases p
      exact ⟨a, b, by rw [show _ = V.int a from g1, show _ = V.int b from g2], h1, h2, h3, q _ _ B H (.refl b') rfl k⟩
end Ab

/-! AbT -/
/-! AbT: chains, any value's kind, own exceptions that store their arguments. -/
namespace Ab
open PySem PySem.Spec PyProof.Rows L2 AbM
section
variable {K : PySem.W.Frag} {Γ : List Bd} {Φ : Slot → Prop} {ta tb tc : TE} {r r' : R2}
theorem E_chain (h : E ta Γ fun s => E tb Γ fun t => R r s t fun u => ∃ k, u = vS (.bl k) ∧ (k = true → E tc Γ fun w => R r' t w Φ) ∧ (k = false → Φ (vS (.bl false)))) : E (tChain r r' ta tb tc) Γ Φ := fun σ B H b rl Q q =>
  h σ B H b rl _ fun s x B1 H1 st1 p1 h1 => h1 σ B1 H1 st1.inn (rl.step st1) _ fun t y B2 H2 st2 p2 h2 => h2 x y B2 H2 st2.inn (s.mono st2.base p1) p2 _ fun u z B3 H3 st3 p3 ⟨k, e, k1, k2⟩ => by
    subst e
    have s12 := st1.trans st2
    refine ⟨k, p3, ?_⟩
    cases k with
    | true =>
      refine iteT (k1 rfl σ B3 H3 st3.inn (rl.step (s12.trans st3)) _ fun w v B4 H4 st4 p4 h4 => ?_)
      exact h4 y v B4 H4 st4.inn (t.mono (st3.base.trans st4.base) p2) p4 Q fun w' v' B5 H5 st5 p5 f => q w' v' B5 H5 (((s12.trans st3).trans st4).trans st5) p5 f
    | false => exact iteF (q _ _ B3 H3 (s12.trans st3) rfl (k2 rfl))
end
/-- a value that is no number -/
def Odd (K : PySem.W.Frag) (s : Slot) : Prop := (∃ b, s = vS (.bl b)) ∨ ∃ t, TyS K s (.type t) ∧ PySem.W.kitOne K (.type t) (.type "bool") = some false ∧ PySem.W.kitOne K (.type t) (.type "int") = some false
section
variable {K : PySem.W.Frag}
theorem odd_bl (b : Bool) : Odd K (vS (.bl b)) := .inl ⟨b, rfl⟩
theorem odd_non : Odd K (vS .non) := .inr ⟨_, ty_non, kit_ty (by decide +kernel), kit_ty (by decide +kernel)⟩
theorem odd_str (x : Str) : Odd K (vS (.str x)) := .inr ⟨_, ty_str x, kit_ty (by decide +kernel), kit_ty (by decide +kernel)⟩
theorem odd_tup (ss : List Slot) : Odd K (tupS K ss) := .inr ⟨_, ty_tup, kit_ty (by decide +kernel), kit_ty (by decide +kernel)⟩
theorem odd_lst (ss : List Slot) : Odd K (lstS ss) := .inr ⟨_, ty_lst, kit_ty (by decide +kernel), kit_ty (by decide +kernel)⟩
end
section
variable {α : Type} {K : PySem.W.Frag} {Γ : List Bd} {Φ : Slot → Prop} {te tl : TE} {tt : TT} {g : TG} {vs : List Nat} {ta : TA}
/-- over zip of two lists of one length -/
theorem E_lcZL (xs : List (Slot × Slot)) (f : Slot × Slot → Slot) (h : A ta Γ fun ss => ss = [lstS (xs.map (·.1)), lstS (xs.map (·.2))]) (hn : xs.length ≤ 50000) (ht : ∀ x ∈ xs, LcT g tt te vs Γ (tupS K [x.1, x.2]) true (f x)) (k : Φ (lstS (xs.map f))) : E (tLc (RZ.iZipA K ta) g tt te vs) Γ Φ := fun σ B H b rl Q q =>
  h σ B H b rl _ fun ss vv B1 H1 st pv e => by
    subst e
    cases pv with
    | cons pa pv => cases pv with
      | cons pb pv =>
        cases pv
        obtain ⟨la, ua, rfl, hla, hpa⟩ := pa
        obtain ⟨lb, ub, rfl, hlb, hpb⟩ := pb
        have la1 : ua.length = xs.length := by rw [hpa.length, List.length_map]
        have lb1 : ub.length = xs.length := by rw [hpb.length, List.length_map]
        refine ⟨la, lb, ua, ub, rfl, .inl ⟨SqL.of (st.inn _ _ hla), SqL.of (st.inn _ _ hlb), fun Dl hD => ?_⟩⟩
        refine ⟨fun i m H' => m = xs.length - i ∧ i ≤ xs.length ∧ LcP B1 H1 Dl ((xs.take i).map f) H', ⟨xs.length, by simp, Nat.zero_le _, by simpa using LcP.start st.inn hD⟩, ?_⟩
        rintro i m H' ⟨rfl, hi, w⟩
        obtain ⟨B', ys, st', hB, hH, py⟩ := id w
        have qa : SqL K H' la ua := SqL.of (st'.inn _ _ (st'.base _ _ hla))
        have qb : SqL K H' lb ub := SqL.of (st'.inn _ _ (st'.base _ _ hlb))
        by_cases hlt : i < xs.length
        · refine .inr ⟨⟨ua, ub, ua[i], ub[i], qa, qb, by simp, by simp⟩, LcP B1 H1 Dl ((xs.take (i + 1)).map f), fun H2 p' => ⟨xs.length - (i + 1), by omega, rfl, hlt, p'⟩, fun v H2 y => ?_⟩
          obtain ⟨Tp, x, y, rfl, hT, rfl, ea, eb⟩ := y
          have ex := ea ua qa
          have ey := eb ub qb
          obtain ⟨sa, es, psa⟩ := hpa.getR ex
          obtain ⟨z, ez, rfl⟩ := mapGet es
          obtain ⟨sb, es2, psb⟩ := hpb.getR ey
          obtain ⟨z2, ez2, rfl⟩ := mapGet es2
          rw [ez] at ez2; cases ez2
          have hl2 : ys.length < 60000 := by
            rw [py.length, List.length_map, List.length_take]
            omega
          have hTD : Dl ≠ Tp := fun z => by rw [← z, hH] at hT; cases hT
          have st2 := st'.trans (Step.new (o := .tup [x, y]) st'.inn hT)
          have sm : Same B' (upd B' Tp (.tup [x, y])) := (Step.new (o := .tup [x, y]) st'.inn hT).base
          have := (ht z (List.mem_of_getElem? ez)).run (x := .ref Tp) (rl.step st) hD st2 (by rw [upd_ne hTD]; exact hB) (by rw [upd_ne hTD]; exact hH) (py.mono sm) hl2
            ⟨Tp, [x, y], rfl, .inl (.inl upd_same), .cons (z.1.mono (st'.base.trans sm) psa) (.cons (z.2.mono (st'.base.trans sm) psb) .nil)⟩
          have e : (xs.take (i + 1)).map f = (xs.take i).map f ++ [f z] := by rw [List.take_succ, ez]; simp
          rw [e]
          exact this
        · have e : i = xs.length := by omega
          subst e
          rw [List.take_length] at w
          obtain ⟨B', st', pl⟩ := w.fin st.inn hD
          exact .inl ⟨⟨ua, ub, qa, qb, .inl (by omega)⟩, q _ _ B' H' (st.trans st') pl k⟩
end
section
variable {K : PySem.W.Frag}
theorem R_isNi {i : Int} {Φ : Slot → Prop} (k : Φ (vS (.bl false))) : R (fun x y H Q => y = .non ∧ Q (.bl (decide (x = .non))) H) (vS (.int i)) (vS .non) Φ := fun x y B H b p1 p2 Q q => by
  obtain rfl : x = .int i := p1
  exact ⟨p2, q _ _ B H (.refl b) rfl k⟩
theorem R_isNb {i : Bool} {Φ : Slot → Prop} (k : Φ (vS (.bl false))) : R (fun x y H Q => y = .non ∧ Q (.bl (decide (x = .non))) H) (vS (.bl i)) (vS .non) Φ := fun x y B H b p1 p2 Q q => by
  obtain rfl : x = .bl i := p1
  exact ⟨p2, q _ _ B H (.refl b) rfl k⟩
theorem R_isNs {i : Str} {Φ : Slot → Prop} (k : Φ (vS (.bl false))) : R (fun x y H Q => y = .non ∧ Q (.bl (decide (x = .non))) H) (vS (.str i)) (vS .non) Φ := fun x y B H b p1 p2 Q q => by
  obtain rfl : x = .str i := p1
  exact ⟨p2, q _ _ B H (.refl b) rfl k⟩
theorem R_isNn {Φ : Slot → Prop} (k : Φ (vS (.bl true))) : R (fun x y H Q => y = .non ∧ Q (.bl (decide (x = .non))) H) (vS .non) (vS .non) Φ := fun x y B H b p1 p2 Q q => by
  obtain rfl : x = .non := p1
  exact ⟨p2, q _ _ B H (.refl b) rfl k⟩
theorem R_isNt {ss : List Slot} {Φ : Slot → Prop} (k : Φ (vS (.bl false))) : R (fun x y H Q => y = .non ∧ Q (.bl (decide (x = .non))) H) (tupS K ss) (vS .non) Φ := fun x y B H b p1 p2 Q q => by
  obtain ⟨a, vs, rfl, _⟩ := p1
  exact ⟨p2, q _ _ B H (.refl b) rfl k⟩
theorem R_isNl {ss : List Slot} {Φ : Slot → Prop} (k : Φ (vS (.bl false))) : R (fun x y H Q => y = .non ∧ Q (.bl (decide (x = .non))) H) (lstS ss) (vS .non) Φ := fun x y B H b p1 p2 Q q => by
  obtain ⟨a, vs, rfl, _⟩ := p1
  exact ⟨p2, q _ _ B H (.refl b) rfl k⟩
theorem clsLT : Paired ClsV [V.ty "list", V.ty "tuple"] [Value.type "list", Value.type "tuple"] := .cons (.ty _) (.cons (.ty _) .nil)
theorem kitLT {t : String} {b1 b2 : Bool} (h1 : kitB t "list" = some b1) (h2 : kitB t "tuple" = some b2) : PySem.W.kitAny K (.type t) [Value.type "list", Value.type "tuple"] = some (b1 || b2) := by
  unfold PySem.W.kitAny
  rw [kit_ty h1]
  cases b1 with
  | true => rfl
  | false =>
    show PySem.W.kitAny K (.type t) [Value.type "tuple"] = some (false || b2)
    unfold PySem.W.kitAny
    rw [kit_ty h2]
    cases b2 <;> rfl
end
theorem S_mid {t u : TS} {Γ : List Bd} {Φ : Ks} (M : List Bd → Prop) (h : S t Γ { Φ with nx := M }) (k : ∀ Γ', M Γ' → S u Γ' Φ) : S (tSeq t u) Γ Φ := fun B0 H0 D σ B H d a => h B0 H0 { D with nx := u D } σ B H ⟨fun Γ' σ' B' H' a' m => k Γ' m B0 H0 D σ' B' H' d a', d.rt, d.bk, d.ct, d.ex⟩ a
end Ab
namespace Ab
open PySem PySem.Spec PyProof.Rows L2
/-- f(k = v, ..) -/
theorem pe_callN0 {X : Cx} {CX : CXT} {k : Nat} {f : Addr} {fd : FuncData} {ps ks : List Str} {sp : Sp} {E : XK} {x : Str} {p pos : Pos} {kws : List Keyword} {tk : TA} {g : List Value → List Value → List Value} {gV : List V → List V → List V}
    (F : FnOk X.prog X.w X.K X.mg X.base CX k f fd ps sp) (hr : Room k X.A) (hg : Gl X x) (hm : X.mg x = some (.ref f)) (hk : PySem.W.keepIn X.K (.ref f) = true) (hb : KBn X.K fd ps 0 ks g gV) (hx : Passes CX X E)
    (hkw : PK X kws tk) (hall : (backToKw pos (keywordEach kws X.env)).all (·.1.isSome) = true := by rfl) (hks : (backToKw pos (keywordEach kws X.env)).filterMap (·.1) = ks := by rfl)
    (hdb : (x == ("__debug__" : Str)) = false := by decide)
    (hpl : ((backTo pos (starEach [] X.env)).any (·.1) || (backToKw pos (keywordEach kws X.env)).any (·.1.isNone)) = false := by rfl) :
    PE X (.Call (.Name x p) [] kws pos) (tCallN 0 ks.length sp gV E tNil tk) := by
  refine ⟨fun pins s σ H Q I h => ?_⟩
  refine wpAny_Call_Name_kw (ld_glob I hg hm ?_ hdb)
  refine PySem.W.callWith_KW0 (h₀ := X.base) I.ok.mod.kin hk hall ?_ hpl
  refine thn (hkw.run pos pins s σ H _ I h) fun ws s2 ⟨zs, H2, I2, rz, l1, l2, q2⟩ => ⟨I2.kIn, ?_⟩
  rw [hks]
  exact run_fnN F hr hb hx I2 (us := []) .nil rz l1 l2 q2
end Ab

/-! K78M -/
/-! The worths as Rat: what the program's and the law's own reckoning of lowest terms give. -/
namespace RatM
theorem gcd_int (t b : Int) : ((Nat.gcd t.natAbs b.natAbs : Nat) : Int) = (b.gcd t : Int) := by
  rw [Int.gcd, Nat.gcd_comm]
theorem gcd_pos {t b : Int} (h : b ≠ 0) : (0 : Int) < (b.gcd t : Int) := by
  have : b.gcd t ≠ 0 := by
    intro z
    exact h (Int.gcd_eq_zero_iff.mp z).1
  omega
theorem gcd_le {t b : Int} (h : b ≠ 0) : b.gcd t ≤ b.natAbs := Int.gcd_le_natAbs_left t h
theorem fdiv_pos {a g : Int} (hg : 0 < g) : a.fdiv g = a / g := Int.fdiv_eq_ediv_of_nonneg a (Int.le_of_lt hg)
theorem fdiv_neg' {a g : Int} (hg : 0 < g) (hd : g ∣ a) : a.fdiv (-g) = (-a) / g := by
  obtain ⟨c, rfl⟩ := hd
  have h1 : g * c = (-g) * (-c) := by rw [Int.neg_mul_neg]
  rw [h1, Int.mul_fdiv_cancel_left _ (by omega), ← h1, ← Int.mul_neg, Int.mul_ediv_cancel_left _ (by omega)]
theorem num_pos {t b : Int} (hb : 0 < b) : t.fdiv (b.gcd t : Int) = (Rat.divInt t b).num := by
  rw [Rat.num_divInt, fdiv_pos (gcd_pos (by omega)), Int.sign_eq_one_of_pos hb, Int.one_mul]
theorem den_pos {t b : Int} (hb : 0 < b) : b.fdiv (b.gcd t : Int) = ((Rat.divInt t b).den : Int) := by
  rw [Rat.den_divInt, if_neg (by omega), fdiv_pos (gcd_pos (by omega)), Int.natCast_ediv, Int.natAbs_of_nonneg (by omega)]
theorem num_neg {t b : Int} (hb : b < 0) : t.fdiv (-(b.gcd t : Int)) = (Rat.divInt t b).num := by
  rw [Rat.num_divInt, fdiv_neg' (g := (b.gcd t : Int)) (gcd_pos (by omega)) (Int.gcd_dvd_right _ _), Int.sign_eq_neg_one_of_neg hb]
  congr 1
  omega
theorem den_neg {t b : Int} (hb : b < 0) : b.fdiv (-(b.gcd t : Int)) = ((Rat.divInt t b).den : Int) := by
  rw [Rat.den_divInt, if_neg (by omega), fdiv_neg' (g := (b.gcd t : Int)) (gcd_pos (by omega)) (Int.gcd_dvd_left _ _), Int.natCast_ediv]
  congr 1
  omega
theorem add_eq (p q : Rat) : Rat.divInt (p.num * q.den + q.num * p.den) ((p.den : Int) * q.den) = p + q := by
  have := Rat.add_def' p q
  rw [this, ← Rat.divInt_ofNat]
  rfl
theorem sub_eq (p q : Rat) : Rat.divInt (p.num * q.den - q.num * p.den) ((p.den : Int) * q.den) = p - q := by
  have := Rat.sub_def' p q
  rw [this, ← Rat.divInt_ofNat]
  rfl
theorem mul_eq (p q : Rat) : Rat.divInt (p.num * q.num) ((p.den : Int) * q.den) = p * q := by
  have := Rat.mul_def' p q
  rw [this, ← Rat.divInt_ofNat]
  rfl
theorem div_eq (p q : Rat) : Rat.divInt (p.num * q.den) ((p.den : Int) * q.num) = p / q := by
  rw [Rat.div_def, Rat.inv_def, ← Rat.divInt_mul_divInt, Rat.num_divInt_den]
theorem lt_eq (p q : Rat) : (p.num * q.den < q.num * p.den) = (p < q) := propext (Rat.lt_iff p q).symm
/-- a worth whose numerator and denominator have at most n and d bits -/
def Sz (n d : Nat) (q : Rat) : Prop := q.num.natAbs < 2 ^ n ∧ q.den < 2 ^ d
theorem Sz.mono {n d n' d' : Nat} {q : Rat} (h : Sz n d q) (hn : n ≤ n') (hd : d ≤ d') : Sz n' d' q :=
  ⟨Nat.lt_of_lt_of_le h.1 (Nat.pow_le_pow_right (by decide) hn), Nat.lt_of_lt_of_le h.2 (Nat.pow_le_pow_right (by decide) hd)⟩
theorem div_le_self' (a b : Nat) : a / b ≤ a := Nat.div_le_self a b
theorem sz_divInt {t b : Int} {n d : Nat} (ht : t.natAbs < 2 ^ n) (hb : b.natAbs < 2 ^ d) (hd : 0 < d) : Sz n d (Rat.divInt t b) := by
  have hp : 1 < 2 ^ d := by
    obtain ⟨k, rfl⟩ : ∃ k, d = k + 1 := ⟨d - 1, by omega⟩
    have := Nat.pos_of_ne_zero (show 2 ^ k ≠ 0 from Nat.pos_iff_ne_zero.mp (Nat.two_pow_pos k))
    rw [Nat.pow_succ]; omega
  refine ⟨?_, ?_⟩
  · rw [Rat.num_divInt]
    refine Nat.lt_of_le_of_lt ?_ ht
    by_cases h0 : b = 0
    · subst h0; simp
    · have hg := gcd_pos (t := t) h0
      have h1 : (b.sign * t / (b.gcd t : Int)).natAbs ≤ (b.sign * t).natAbs := Int.natAbs_ediv_le_natAbs _ _
      have h2 : (b.sign * t).natAbs ≤ t.natAbs := by
        rw [Int.natAbs_mul]
        have h3 : b.sign.natAbs ≤ 1 := by
          rw [Int.natAbs_sign]
          split <;> omega
        calc b.sign.natAbs * t.natAbs ≤ 1 * t.natAbs := Nat.mul_le_mul_right _ h3
          _ = t.natAbs := Nat.one_mul _
      omega
  · rw [Rat.den_divInt]
    split
    · exact hp
    · exact Nat.lt_of_le_of_lt (Nat.div_le_self _ _) hb
theorem mul_lt {a b n m : Nat} (ha : a < 2 ^ n) (hb : b < 2 ^ m) : a * b < 2 ^ (n + m) := by
  rw [Nat.pow_add]; exact Nat.mul_lt_mul'' ha hb
theorem le_max_pow {a n m : Nat} (h : a < 2 ^ n) (hm : n ≤ m) : a < 2 ^ m := Nat.lt_of_lt_of_le h (Nat.pow_le_pow_right (by decide) hm)
theorem sz_addnum {p q : Rat} {n d n' d' k : Nat} (hp : Sz n d p) (hq : Sz n' d' q) (h1 : n + d' + 1 ≤ k) (h2 : n' + d + 1 ≤ k) : (p.num * q.den + q.num * p.den).natAbs < 2 ^ k := by
  have a := mul_lt hp.1 hq.2
  have b := mul_lt hq.1 hp.2
  obtain ⟨j, rfl⟩ : ∃ j, k = j + 1 := ⟨k - 1, by omega⟩
  have a' := le_max_pow a (show n + d' ≤ j by omega)
  have b' := le_max_pow b (show n' + d ≤ j by omega)
  have e1 : (p.num * (q.den : Int)).natAbs = p.num.natAbs * q.den := by rw [Int.natAbs_mul, Int.natAbs_natCast]
  have e2 : (q.num * (p.den : Int)).natAbs = q.num.natAbs * p.den := by rw [Int.natAbs_mul, Int.natAbs_natCast]
  have e3 := Int.natAbs_add_le (p.num * (q.den : Int)) (q.num * (p.den : Int))
  rw [Nat.pow_succ]
  omega
theorem sz_subnum {p q : Rat} {n d n' d' k : Nat} (hp : Sz n d p) (hq : Sz n' d' q) (h1 : n + d' + 1 ≤ k) (h2 : n' + d + 1 ≤ k) : (p.num * q.den - q.num * p.den).natAbs < 2 ^ k := by
  have a := mul_lt hp.1 hq.2
  have b := mul_lt hq.1 hp.2
  obtain ⟨j, rfl⟩ : ∃ j, k = j + 1 := ⟨k - 1, by omega⟩
  have a' := le_max_pow a (show n + d' ≤ j by omega)
  have b' := le_max_pow b (show n' + d ≤ j by omega)
  have e1 : (p.num * (q.den : Int)).natAbs = p.num.natAbs * q.den := by rw [Int.natAbs_mul, Int.natAbs_natCast]
  have e2 : (q.num * (p.den : Int)).natAbs = q.num.natAbs * p.den := by rw [Int.natAbs_mul, Int.natAbs_natCast]
  have e3 : (p.num * (q.den : Int) - q.num * (p.den : Int)).natAbs ≤ (p.num * (q.den : Int)).natAbs + (q.num * (p.den : Int)).natAbs := by omega
  rw [Nat.pow_succ]
  omega
theorem sz_den {p q : Rat} {n d n' d' k : Nat} (hp : Sz n d p) (hq : Sz n' d' q) (h : d + d' ≤ k) : ((p.den : Int) * q.den).natAbs < 2 ^ k := by
  rw [Int.natAbs_mul, Int.natAbs_natCast, Int.natAbs_natCast]
  exact le_max_pow (mul_lt hp.2 hq.2) h
theorem sz_add {p q : Rat} {n d n' d' k l : Nat} (hp : Sz n d p) (hq : Sz n' d' q) (h1 : n + d' + 1 ≤ k) (h2 : n' + d + 1 ≤ k) (h3 : d + d' ≤ l) (hl : 0 < l) : Sz k l (p + q) := by
  rw [← add_eq]; exact sz_divInt (sz_addnum hp hq h1 h2) (sz_den hp hq h3) hl
theorem sz_sub {p q : Rat} {n d n' d' k l : Nat} (hp : Sz n d p) (hq : Sz n' d' q) (h1 : n + d' + 1 ≤ k) (h2 : n' + d + 1 ≤ k) (h3 : d + d' ≤ l) (hl : 0 < l) : Sz k l (p - q) := by
  rw [← sub_eq]; exact sz_divInt (sz_subnum hp hq h1 h2) (sz_den hp hq h3) hl
theorem sz_mul {p q : Rat} {n d n' d' k l : Nat} (hp : Sz n d p) (hq : Sz n' d' q) (h1 : n + n' ≤ k) (h3 : d + d' ≤ l) (hl : 0 < l) : Sz k l (p * q) := by
  rw [← mul_eq]
  refine sz_divInt ?_ (sz_den hp hq h3) hl
  rw [Int.natAbs_mul]
  exact le_max_pow (mul_lt hp.1 hq.1) h1
theorem sz_div {p q : Rat} {n d n' d' k l : Nat} (hp : Sz n d p) (hq : Sz n' d' q) (h1 : n + d' ≤ k) (h3 : d + n' ≤ l) (hl : 0 < l) : Sz k l (p / q) := by
  rw [← div_eq]
  refine sz_divInt ?_ ?_ hl
  · rw [Int.natAbs_mul, Int.natAbs_natCast]
    exact le_max_pow (mul_lt hp.1 hq.2) h1
  · rw [Int.natAbs_mul, Int.natAbs_natCast]
    exact le_max_pow (mul_lt hp.2 hq.1) h3
/-! the law's own gcd -/
theorem gcd_step (a b : Int) : Int.gcd b (a.fmod b) = Int.gcd a b := by
  rw [Int.gcd_comm a b, Int.fmod_def]
  have : a - b * a.fdiv b = a + b * (-(a.fdiv b)) := by rw [Int.mul_neg]; omega
  rw [this, Int.gcd_add_mul_left_right]
end RatM

/-! K83M -/
/-! The draws: all ascending rows in order, their number, their successors. -/
namespace Dr
open PySem
/-! ### numbers of ways -/
abbrev C2 (n k : Nat) : Int := PySem.W.mcComb n k
theorem c2_zero : ∀ n : Fin 41, C2 n 0 = 1 := by decide +kernel
theorem c2_out : ∀ k : Fin 40, C2 0 (k + 1) = 0 := by decide +kernel
theorem c2_pascal : ∀ n k : Fin 40, C2 (n + 1) (k + 1) = C2 n k + C2 n (k + 1) := by decide +kernel
theorem c2_size : ∀ n k : Fin 41, 0 ≤ C2 n k ∧ C2 n k < 2 ^ 40 := by decide +kernel
theorem c2_pos : ∀ n k : Fin 41, k.1 ≤ n.1 → 0 < C2 n k := by decide +kernel
def ch : Nat → Nat → Nat
  | _, 0 => 1
  | 0, _ + 1 => 0
  | n + 1, k + 1 => ch n k + ch n (k + 1)
theorem ch_c2 : ∀ (n : Nat), n ≤ 40 → ∀ (k : Nat), k ≤ 40 → (ch n k : Int) = C2 n k
  | n, hn, 0, _ => by
    rw [show ch n 0 = 1 by cases n <;> rfl]
    exact (c2_zero ⟨n, by omega⟩).symm
  | 0, _, k + 1, hk => by
    exact (c2_out ⟨k, by omega⟩).symm
  | n + 1, hn, k + 1, hk => by
    have h1 := ch_c2 n (by omega) k (by omega)
    have h2 := ch_c2 n (by omega) (k + 1) hk
    have h3 := c2_pascal ⟨n, by omega⟩ ⟨k, by omega⟩
    show ((ch n k + ch n (k + 1) : Nat) : Int) = _
    rw [Int.natCast_add, h1, h2]
    exact h3.symm
def ways (a b : Nat) : Int := (List.range (min a b)).foldl (fun (f : Int) (k : Nat) => (f * ((a : Int) - (k : Int))).fdiv ((k : Int) + 1)) (if b ≤ a then 1 else 0)
/-- on the way -/
def waysTo (a b j : Nat) : Int := (List.range j).foldl (fun (f : Int) (k : Nat) => (f * ((a : Int) - (k : Int))).fdiv ((k : Int) + 1)) (if b ≤ a then 1 else 0)
theorem waysTo_succ (a b j : Nat) : waysTo a b (j + 1) = (waysTo a b j * ((a : Int) - (j : Int))).fdiv ((j : Int) + 1) := by
  unfold waysTo
  rw [List.range_succ, List.foldl_append]
  rfl
theorem c2_step : ∀ a j : Fin 41, j.1 < a.1 → C2 a (j.1 + 1) = (C2 a j * ((a.1 : Int) - (j.1 : Int))).fdiv ((j.1 : Int) + 1) := by decide +kernel
theorem waysTo_c2 {a b : Nat} (ha : a ≤ 40) (hb : b ≤ 40) : ∀ j, j ≤ min a b → waysTo a b j = if b ≤ a then C2 a j else 0
  | 0, _ => by
    show (if b ≤ a then (1 : Int) else 0) = _
    by_cases h : b ≤ a
    · rw [if_pos h, if_pos h]; exact (c2_zero ⟨a, by omega⟩).symm
    · rw [if_neg h, if_neg h]
  | j + 1, hj => by
    rw [waysTo_succ, waysTo_c2 ha hb j (by omega)]
    by_cases h : b ≤ a
    · rw [if_pos h, if_pos h]; exact (c2_step ⟨a, by omega⟩ ⟨j, by omega⟩ (by show j < a; omega)).symm
    · rw [if_neg h, if_neg h, Int.zero_mul, Int.zero_fdiv]
theorem ways_small {a b : Nat} (ha : a ≤ 40) (hb : b ≤ 40) {j : Nat} (hj : j ≤ min a b) : 0 ≤ waysTo a b j ∧ waysTo a b j < 2 ^ 40 := by
  rw [waysTo_c2 ha hb j hj]
  split
  · exact c2_size ⟨a, by omega⟩ ⟨j, by omega⟩
  · exact ⟨by decide, by decide⟩
theorem ways_c2 {a b : Nat} (ha : a ≤ 40) (hb : b ≤ 40) : ways a b = C2 a b := by
  have h := waysTo_c2 ha hb (min a b) (Nat.le_refl _)
  rw [show ways a b = waysTo a b (min a b) from rfl, h]
  by_cases hle : b ≤ a
  · rw [if_pos hle, Nat.min_eq_right hle]
  · rw [if_neg hle]
    exact (PySem.W.mcComb_above (by omega)).symm
/-! ### rows -/
/-- rises: sequences of length s that never fall, from g - d to g, in order -/
def M (g : Nat) : Nat → Nat → List (List Nat)
  | 0 => fun _ => [[]]
  | s + 1 => fun d => Nat.rec ((M g s 0).map (g :: ·)) (fun d ih => (M g s (d + 1)).map ((g - (d + 1)) :: ·) ++ ih) d
theorem M_z (g d : Nat) : M g 0 d = [[]] := rfl
theorem M_s0 (g s : Nat) : M g (s + 1) 0 = (M g s 0).map (g :: ·) := rfl
theorem M_ss (g s d : Nat) : M g (s + 1) (d + 1) = (M g s (d + 1)).map ((g - (d + 1)) :: ·) ++ M g (s + 1) d := rfl
theorem M_len (g : Nat) : ∀ s d, (M g s d).length = ch (s + d) s
  | 0, d => by rw [M_z]; cases d <;> rfl
  | s + 1, 0 => by
    rw [M_s0, List.length_map, M_len g s 0]
    have h : ∀ s, ch s s = 1 := by
      have o : ∀ s t, ch s (s + t + 1) = 0 := by
        intro s
        induction s with
        | zero => intro t; rfl
        | succ s ih =>
          intro t
          have e1 := ih t
          have e2 := ih (t + 1)
          rw [show s + 1 + t + 1 = (s + t + 1) + 1 by omega]
          show ch s (s + t + 1) + ch s (s + t + 1 + 1) = 0
          rw [e1, show s + t + 1 + 1 = s + (t + 1) + 1 by omega, e2]
      intro s
      induction s with
      | zero => rfl
      | succ s ih =>
        show ch s s + ch s (s + 1) = 1
        rw [ih, o s 0]
    show ch s s = ch (s + 1) (s + 1)
    rw [h, h]
  | s + 1, d + 1 => by
    rw [M_ss, List.length_append, List.length_map, M_len g s (d + 1), M_len g (s + 1) d]
    rw [show s + 1 + (d + 1) = (s + d + 1) + 1 by omega, show s + (d + 1) = s + d + 1 by omega, show s + 1 + d = s + d + 1 by omega]
    rfl
  termination_by s d => (s, d)
theorem M_all (g : Nat) : ∀ s d, d ≤ g → ∀ e ∈ M g s d, e.length = s ∧ ∀ x ∈ e, x ≤ g
  | 0, d, _, e, he => by rw [M_z] at he; rw [List.mem_singleton.mp he]; simp
  | s + 1, 0, hd, e, he => by
    rw [M_s0] at he
    obtain ⟨f, hf, rfl⟩ := List.mem_map.mp he
    obtain ⟨h1, h2⟩ := M_all g s 0 hd f hf
    refine ⟨by simp [h1], fun x hx => ?_⟩
    rcases List.mem_cons.mp hx with rfl | hx
    · exact Nat.le_refl _
    · exact h2 x hx
  | s + 1, d + 1, hd, e, he => by
    rw [M_ss] at he
    rcases List.mem_append.mp he with he | he
    · obtain ⟨f, hf, rfl⟩ := List.mem_map.mp he
      obtain ⟨h1, h2⟩ := M_all g s (d + 1) hd f hf
      refine ⟨by simp [h1], fun x hx => ?_⟩
      rcases List.mem_cons.mp hx with rfl | hx
      · omega
      · exact h2 x hx
    · exact M_all g (s + 1) d (by omega) e he
  termination_by s d => (s, d)
/-- b is next behind a -/
def Nx (g : Nat) (a b : List Nat) : Prop := ∃ pre v t, a = pre ++ v :: List.replicate t g ∧ v < g ∧ b = pre ++ List.replicate (t + 1) (v + 1)
theorem Nx.cons {g x : Nat} {a b : List Nat} (h : Nx g a b) : Nx g (x :: a) (x :: b) := by
  obtain ⟨pre, v, t, rfl, hv, rfl⟩ := h
  exact ⟨x :: pre, v, t, rfl, hv, rfl⟩
def Cn (g : Nat) (l : List (List Nat)) : Prop := ∀ i a b, l[i]? = some a → l[i + 1]? = some b → Nx g a b
theorem Cn.map {g x : Nat} {l : List (List Nat)} (h : Cn g l) : Cn g (l.map (x :: ·)) := fun i a b ha hb => by
  rw [List.getElem?_map] at ha hb
  cases e : l[i]? with
  | none => rw [e] at ha; cases ha
  | some a' =>
    cases e' : l[i + 1]? with
    | none => rw [e'] at hb; cases hb
    | some b' =>
      rw [e] at ha; rw [e'] at hb
      cases ha; cases hb
      exact (h i a' b' e e').cons
theorem Cn.append {g : Nat} {l m : List (List Nat)} {a b : List Nat} (h1 : Cn g (l ++ [a])) (h2 : Cn g (b :: m)) (hj : Nx g a b) : Cn g (l ++ [a] ++ b :: m) := fun i x y hx hy => by
  have hl : (l ++ [a]).length = l.length + 1 := by simp
  by_cases hi : i + 1 < l.length + 1
  · rw [List.getElem?_append_left (by omega)] at hx hy
    exact h1 i x y hx hy
  · by_cases he : i = l.length
    · subst he
      rw [List.getElem?_append_left (by omega)] at hx
      rw [List.getElem?_append_right (by omega)] at hy
      simp at hx hy
      subst hx hy
      exact hj
    · rw [List.getElem?_append_right (by omega)] at hx hy
      refine h2 (i - (l ++ [a]).length) x y hx ?_
      rw [show i - (l ++ [a]).length + 1 = i + 1 - (l ++ [a]).length by omega]
      exact hy
/-- first, last, and each behind the one before -/
theorem M_chain (g : Nat) : ∀ s d, d ≤ g → (∃ m, M g s d = List.replicate s (g - d) :: m) ∧ (∃ l, M g s d = l ++ [List.replicate s g]) ∧ Cn g (M g s d)
  | 0, d, _ => by
    rw [M_z]
    exact ⟨⟨[], rfl⟩, ⟨[], rfl⟩, fun i a b ha hb => by simp at hb⟩
  | s + 1, 0, hd => by
    obtain ⟨⟨m, e1⟩, ⟨l, e2⟩, h⟩ := M_chain g s 0 hd
    rw [M_s0]
    refine ⟨⟨m.map (g :: ·), ?_⟩, ⟨l.map (g :: ·), ?_⟩, h.map⟩
    · rw [e1]; rfl
    · rw [e2, List.map_append]; rfl
  | s + 1, d + 1, hd => by
    obtain ⟨⟨m, e1⟩, ⟨l, e2⟩, h⟩ := M_chain g s (d + 1) hd
    obtain ⟨⟨m', e1'⟩, ⟨l', e2'⟩, h'⟩ := M_chain g (s + 1) d (by omega)
    rw [M_ss]
    refine ⟨⟨m.map ((g - (d + 1)) :: ·) ++ M g (s + 1) d, ?_⟩, ⟨(M g s (d + 1)).map ((g - (d + 1)) :: ·) ++ l', ?_⟩, ?_⟩
    · rw [e1]; rfl
    · rw [e2', List.append_assoc]
    · have hm := h.map (x := g - (d + 1))
      rw [e2, List.map_append] at hm ⊢
      rw [e1'] at h' ⊢
      refine Cn.append hm h' ⟨[], g - (d + 1), s, rfl, by omega, ?_⟩
      rw [show g - (d + 1) + 1 = g - d by omega]; rfl
  termination_by s d => (s, d)
/-- the row of a rise -/
def rw_ : Nat → List Nat → List Int
  | _, [] => []
  | k, x :: xs => ((x + k : Nat) : Int) :: rw_ (k + 1) xs
theorem rw_len : ∀ (k : Nat) (e : List Nat), (rw_ k e).length = e.length
  | _, [] => rfl
  | k, x :: xs => by show (rw_ (k + 1) xs).length + 1 = xs.length + 1; rw [rw_len]
theorem rw_get : ∀ (k : Nat) (e : List Nat) (i : Nat), (rw_ k e)[i]? = (e[i]?).map fun x => ((x + (k + i) : Nat) : Int)
  | _, [], _ => by simp [rw_]
  | k, x :: xs, 0 => rfl
  | k, x :: xs, i + 1 => by
    show (rw_ (k + 1) xs)[i]? = (xs[i]?).map _
    rw [rw_get (k + 1) xs i]
    congr 1
    funext y
    rw [show k + 1 + i = k + (i + 1) by omega]
theorem rw_set : ∀ (k : Nat) (e : List Nat) (i x : Nat), (rw_ k e).set i ((x + (k + i) : Nat) : Int) = rw_ k (e.set i x)
  | _, [], _, _ => by simp [rw_]
  | k, y :: xs, 0, x => rfl
  | k, y :: xs, i + 1, x => by
    show _ :: (rw_ (k + 1) xs).set i _ = _ :: rw_ (k + 1) (xs.set i x)
    rw [← rw_set (k + 1) xs i x, show k + 1 + i = k + (i + 1) by omega]
theorem rw_range (s : Nat) : rw_ 0 (List.replicate s 0) = (List.range s).map fun (i : Nat) => (i : Int) := by
  apply List.ext_getElem?
  intro i
  rw [rw_get, List.getElem?_map]
  by_cases h : i < s
  · rw [List.getElem?_replicate, if_pos h, List.getElem?_range h]; simp
  · rw [List.getElem?_replicate, if_neg h, List.getElem?_eq_none (by simpa using h)]; rfl
def rows (n s : Nat) : List (List Int) := (M (n - s) s (n - s)).map (rw_ 0)
/-! ### as the law lists them -/
def lo (k : Nat) (row : List Int) : Int := if 0 < k then row.getLastD 0 + 1 else 0
def ext (a k : Nat) (rs : List (List Int)) : List (List Int) := rs.flatMap fun row => (List.range ((a : Int) - lo k row).toNat).map fun (i : Nat) => row ++ [lo k row + (i : Int)]
def lst (a : Nat) : Nat → List (List Int)
  | 0 => [[]]
  | k + 1 => ext a k (lst a k)
def cmb : List Int → Nat → List (List Int)
  | _, 0 => [[]]
  | [], _ + 1 => []
  | x :: xs, b + 1 => (cmb xs b).map (x :: ·) ++ cmb xs (b + 1)
def rng (a : Nat) : List Int := (List.range a).map fun (i : Nat) => (i : Int)

theorem lst_rows : ∀ a b : Fin 13, b.1 ≤ a.1 → lst a b = rows a b := by decide +kernel
theorem lst_cmb : ∀ a b : Fin 13, b.1 ≤ a.1 → lst a b = cmb (rng a) b := by decide +kernel
theorem lst_len : ∀ a b : Fin 13, b.1 ≤ a.1 → (lst a b).length ≤ 1000 := by decide +kernel
theorem lst_in : ∀ a b : Fin 13, b.1 ≤ a.1 → ∀ r ∈ lst a b, r.length = b.1 ∧ ∀ x ∈ r, 0 ≤ x ∧ x < a.1 := by decide +kernel
def prs (w : Nat) : List (List Int) := (List.range w).flatMap fun (a : Nat) => (List.range ((w : Int) - ((a : Int) + 1)).toNat).map fun (i : Nat) => [(a : Int), (a : Int) + 1 + (i : Int)]
theorem prs_rows : ∀ w : Fin 41, 2 ≤ w.1 → prs w = rows w 2 ∧ (prs w).length ≤ 1000 := by decide +kernel
theorem cmb_len : ∀ (l : List Int) (b : Nat), (cmb l b).length = ch l.length b
  | l, 0 => by cases l <;> rfl
  | [], b + 1 => rfl
  | x :: xs, b + 1 => by
    show ((cmb xs b).map (x :: ·) ++ cmb xs (b + 1)).length = ch xs.length b + ch xs.length (b + 1)
    rw [List.length_append, List.length_map, cmb_len xs b, cmb_len xs (b + 1)]
theorem cmb_filter (p : Int → Bool) : ∀ (l : List Int) (b : Nat), (cmb l b).filter (fun r => !(r.any p)) = cmb (l.filter fun x => !(p x)) b
  | l, 0 => by cases l <;> simp [cmb]
  | [], b + 1 => rfl
  | x :: xs, b + 1 => by
    show ((cmb xs b).map (x :: ·) ++ cmb xs (b + 1)).filter _ = _
    rw [List.filter_append, cmb_filter p xs (b + 1), List.filter_map]
    cases hp : p x with
    | true =>
      have h0 : ((cmb xs b).filter ((fun r => !(r.any p)) ∘ (x :: ·))) = [] := by
        rw [List.filter_eq_nil_iff]
        intro r _
        simp [hp]
      rw [h0, List.filter_cons_of_neg (by simp [hp])]
      rfl
    | false =>
      have h0 : ((cmb xs b).filter ((fun r => !(r.any p)) ∘ (x :: ·))) = (cmb xs b).filter (fun r => !(r.any p)) := by
        congr 1
        funext r
        simp [hp]
      rw [h0, cmb_filter p xs b, List.filter_cons_of_pos (by simp [hp])]
      rfl
/-- the rows that meet none of a set of m numbers -/
theorem free_len {a b : Nat} (ha : a ≤ 12) (hb : b ≤ a) (S : List Int) (hn : S.Nodup) (hs : ∀ x ∈ S, 0 ≤ x ∧ x < a) : ((lst a b).filter fun r => !(r.any fun x => decide (x ∈ S))).length = ch (a - S.length) b := by
  have e : lst a b = cmb (rng a) b := lst_cmb ⟨a, by omega⟩ ⟨b, by omega⟩ hb
  rw [e, cmb_filter, cmb_len]
  congr 1
  have hr : (rng a).Nodup := by
    unfold rng
    exact List.pairwise_map.mpr (List.nodup_range.imp fun h e => h (Int.ofNat.inj e))
  have hl : (rng a).length = a := by unfold rng; simp
  -- those within and those without
  have hsplit : ((rng a).filter fun x => decide (x ∈ S)).length + ((rng a).filter fun x => !decide (x ∈ S)).length = a := by
    have flen : ∀ l : List Int, (l.filter fun x => decide (x ∈ S)).length + (l.filter fun x => !decide (x ∈ S)).length = l.length := fun l => by
      induction l with
      | nil => rfl
      | cons x l ih =>
        by_cases h : x ∈ S
        · rw [List.filter_cons_of_pos (by simpa using h), List.filter_cons_of_neg (by simpa using h)]
          simp only [List.length_cons]; omega
        · rw [List.filter_cons_of_neg (by simpa using h), List.filter_cons_of_pos (by simpa using h)]
          simp only [List.length_cons]; omega
    have := flen (rng a)
    omega
  have hperm : ((rng a).filter fun x => decide (x ∈ S)).Perm S := by
    refine (List.perm_ext_iff_of_nodup (hr.filter _) hn).mpr fun x => ?_
    rw [List.mem_filter]
    constructor
    · intro h; simpa using h.2
    · intro h
      refine ⟨?_, by simpa using h⟩
      obtain ⟨h0, h1⟩ := hs x h
      unfold rng
      exact List.mem_map.mpr ⟨x.toNat, List.mem_range.mpr (by omega), by omega⟩
  have := hperm.length_eq
  omega
end Dr

/-! K83H -/
namespace K83
open PySem PySem.Spec PyProof.Rows L2 Ab RatM AbM
theorem rel_int (i : Int) {t : Tok} : RelV (.int i) (.int i t) := ⟨t, rfl⟩
def top (i : Nat) : Stmt := PySem.Challenge.pw_soleheld_k83_risks_and_draws.main.body.getD i (.Pass ⟨0, 0, 0, 0⟩)
abbrev s_InvalidNumber_Dinit : Stmt := inClass (top 3) 0
abbrev n_InvalidNumber_Dinit : List Str := ["self", "value"]
abbrev p_InvalidNumber_Dinit : List Str := ["self", "value"]
theorem sc_InvalidNumber_Dinit : FnScope n_InvalidNumber_Dinit p_InvalidNumber_Dinit (defScope s_InvalidNumber_Dinit) := ⟨rfl, rfl, rfl, by decide +kernel, rfl, by decide +kernel, by decide +kernel⟩
abbrev s_TooMany_Dinit : Stmt := inClass (top 4) 0
abbrev n_TooMany_Dinit : List Str := ["self", "what", "most"]
abbrev p_TooMany_Dinit : List Str := ["self", "what", "most"]
theorem sc_TooMany_Dinit : FnScope n_TooMany_Dinit p_TooMany_Dinit (defScope s_TooMany_Dinit) := ⟨rfl, rfl, rfl, by decide +kernel, rfl, by decide +kernel, by decide +kernel⟩
abbrev s_worth : Stmt := top 6
abbrev n_worth : List Str := ["top", "bottom", "shared"]
abbrev p_worth : List Str := ["top", "bottom"]
theorem sc_worth : FnScope n_worth p_worth (defScope s_worth) := ⟨rfl, rfl, rfl, by decide +kernel, rfl, by decide +kernel, by decide +kernel⟩
abbrev s_is_less : Stmt := top 7
abbrev n_is_less : List Str := ["a", "b"]
abbrev p_is_less : List Str := ["a", "b"]
theorem sc_is_less : FnScope n_is_less p_is_less (defScope s_is_less) := ⟨rfl, rfl, rfl, by decide +kernel, rfl, by decide +kernel, by decide +kernel⟩
abbrev s_is_number : Stmt := top 9
abbrev n_is_number : List Str := ["value", "least", "most"]
abbrev p_is_number : List Str := ["value", "least", "most"]
theorem sc_is_number : FnScope n_is_number p_is_number (defScope s_is_number) := ⟨rfl, rfl, rfl, by decide +kernel, rfl, by decide +kernel, by decide +kernel⟩
abbrev s_check_number : Stmt := top 13
abbrev n_check_number : List Str := ["value", "most"]
abbrev p_check_number : List Str := ["value", "most"]
theorem sc_check_number : FnScope n_check_number p_check_number (defScope s_check_number) := ⟨rfl, rfl, rfl, by decide +kernel, rfl, by decide +kernel, by decide +kernel⟩
abbrev s_is_share : Stmt := top 14
abbrev n_is_share : List Str := ["value", "part"]
abbrev p_is_share : List Str := ["value"]
theorem sc_is_share : FnScope n_is_share p_is_share (defScope s_is_share) := ⟨rfl, rfl, rfl, by decide +kernel, rfl, by decide +kernel, by decide +kernel⟩
abbrev s_check_limit : Stmt := top 15
abbrev n_check_limit : List Str := ["limit"]
abbrev p_check_limit : List Str := ["limit"]
theorem sc_check_limit : FnScope n_check_limit p_check_limit (defScope s_check_limit) := ⟨rfl, rfl, rfl, by decide +kernel, rfl, by decide +kernel, by decide +kernel⟩
abbrev s_risk : Stmt := top 16
abbrev n_risk : List Str := ["ballots", "unlike", "drawn"]
abbrev p_risk : List Str := ["ballots", "unlike", "drawn"]
theorem sc_risk : FnScope n_risk p_risk (defScope s_risk) := ⟨rfl, rfl, rfl, by decide +kernel, rfl, by decide +kernel, by decide +kernel⟩
abbrev s_least_draws : Stmt := top 17
abbrev n_least_draws : List Str := ["ballots", "unlike", "limit", "drawn"]
abbrev p_least_draws : List Str := ["ballots", "unlike", "limit"]
theorem sc_least_draws : FnScope n_least_draws p_least_draws (defScope s_least_draws) := ⟨rfl, rfl, rfl, by decide +kernel, rfl, by decide +kernel, by decide +kernel⟩
abbrev s_draws : Stmt := top 18
abbrev n_draws : List Str := ["ballots", "drawn", "draw", "going", "at", "later"]
abbrev p_draws : List Str := ["ballots", "drawn"]
theorem sc_draws : GScope n_draws p_draws (defScope s_draws) := ⟨rfl, rfl, rfl, by decide +kernel, rfl, by decide +kernel, by decide +kernel⟩
abbrev s_lbag : Stmt := top 20
abbrev n_lbag : List Str := ["script", "first", "cell"]
abbrev p_lbag : List Str := ["script"]
theorem sc_lbag : FnScope n_lbag p_lbag (defScope s_lbag) := ⟨rfl, rfl, rfl, by decide +kernel, rfl, by decide +kernel, by decide +kernel⟩
abbrev s_lpull : Stmt := top 21
abbrev n_lpull : List Str := ["bag", "many", "cell", "digit", "twice"]
abbrev p_lpull : List Str := ["bag", "many"]
theorem sc_lpull : FnScope n_lpull p_lpull (defScope s_lpull) := ⟨rfl, rfl, rfl, by decide +kernel, rfl, by decide +kernel, by decide +kernel⟩
abbrev s_lof : Stmt := top 22
abbrev n_lof : List Str := ["bag", "some"]
abbrev p_lof : List Str := ["bag", "some"]
theorem sc_lof : FnScope n_lof p_lof (defScope s_lof) := ⟨rfl, rfl, rfl, by decide +kernel, rfl, by decide +kernel, by decide +kernel⟩
abbrev s_lturned : Stmt := top 23
abbrev n_lturned : List Str := ["bag", "some", "left", "found", "k"]
abbrev p_lturned : List Str := ["bag", "some"]
theorem sc_lturned : FnScope n_lturned p_lturned (defScope s_lturned) := ⟨rfl, rfl, rfl, by decide +kernel, rfl, by decide +kernel, by decide +kernel⟩
abbrev s_llike : Stmt := top 24
abbrev n_llike : List Str := ["found", "due", "a", "b"]
abbrev p_llike : List Str := ["found", "due"]
theorem sc_llike : FnScope n_llike p_llike (defScope s_llike) := ⟨rfl, rfl, rfl, by decide +kernel, rfl, by decide +kernel, by decide +kernel⟩
abbrev s_lfit : Stmt := top 25
abbrev n_lfit : List Str := ["top", "bottom", "a", "b", "sign"]
abbrev p_lfit : List Str := ["top", "bottom"]
theorem sc_lfit : FnScope n_lfit p_lfit (defScope s_lfit) := ⟨rfl, rfl, rfl, by decide +kernel, rfl, by decide +kernel, by decide +kernel⟩
abbrev s_ltimes : Stmt := top 26
abbrev n_ltimes : List Str := ["a", "b"]
abbrev p_ltimes : List Str := ["a", "b"]
theorem sc_ltimes : FnScope n_ltimes p_ltimes (defScope s_ltimes) := ⟨rfl, rfl, rfl, by decide +kernel, rfl, by decide +kernel, by decide +kernel⟩
abbrev s_lless : Stmt := top 27
abbrev n_lless : List Str := ["a", "b"]
abbrev p_lless : List Str := ["a", "b"]
theorem sc_lless : FnScope n_lless p_lless (defScope s_lless) := ⟨rfl, rfl, rfl, by decide +kernel, rfl, by decide +kernel, by decide +kernel⟩
abbrev s_lways_of : Stmt := top 28
abbrev n_lways_of : List Str := ["a", "b", "found", "k"]
abbrev p_lways_of : List Str := ["a", "b"]
theorem sc_lways_of : FnScope n_lways_of p_lways_of (defScope s_lways_of) := ⟨rfl, rfl, rfl, by decide +kernel, rfl, by decide +kernel, by decide +kernel⟩
abbrev s_llisted : Stmt := top 29
abbrev n_llisted : List Str := ["a", "b", "rows", "k", "longer", "row", "x"]
abbrev p_llisted : List Str := ["a", "b"]
theorem sc_llisted : FnScope n_llisted p_llisted (defScope s_llisted) := ⟨rfl, rfl, rfl, by decide +kernel, rfl, by decide +kernel, by decide +kernel⟩
abbrev s_lpart_of : Stmt := top 30
abbrev n_lpart_of : List Str := ["a", "unlike_n", "b"]
abbrev p_lpart_of : List Str := ["a", "unlike_n", "b"]
theorem sc_lpart_of : FnScope n_lpart_of p_lpart_of (defScope s_lpart_of) := ⟨rfl, rfl, rfl, by decide +kernel, rfl, by decide +kernel, by decide +kernel⟩
abbrev s_lfirst_draw : Stmt := top 31
abbrev n_lfirst_draw : List Str := ["a", "b", "row", "e"]
abbrev p_lfirst_draw : List Str := ["a", "b"]
theorem sc_lfirst_draw : FnScope n_lfirst_draw p_lfirst_draw (defScope s_lfirst_draw) := ⟨rfl, rfl, rfl, by decide +kernel, rfl, by decide +kernel, by decide +kernel⟩
abbrev s_lrefused : Stmt := top 32
abbrev n_lrefused : List Str := ["way", "a", "b", "c", "e"]
abbrev p_lrefused : List Str := ["way", "a", "b", "c"]
theorem sc_lrefused : FnScope n_lrefused p_lrefused (defScope s_lrefused) := ⟨rfl, rfl, rfl, by decide +kernel, rfl, by decide +kernel, by decide +kernel⟩
abbrev s_lerrors : Stmt := top 33
abbrev n_lerrors : List Str := ["bag", "n", "odd", "wrong", "m", "bound", "k"]
abbrev p_lerrors : List Str := ["bag", "n"]
theorem sc_lerrors : FnScope n_lerrors p_lerrors (defScope s_lerrors) := ⟨rfl, rfl, rfl, by decide +kernel, rfl, by decide +kernel, by decide +kernel⟩
abbrev s_law : Stmt := top 34
abbrev n_law : List Str := ["script", "bag", "few", "unlike_n", "b", "listed", "some", "free_of", "n", "m", "s", "near", "bound", "enough", "odd", "wide", "pairs", "a", "due", "row", "x", "k"]
abbrev p_law : List Str := ["script"]
theorem sc_law : FnScope n_law p_law (defScope s_law) := ⟨rfl, rfl, rfl, by decide +kernel, rfl, by decide +kernel, by decide +kernel⟩
def asgScope (s : Stmt) (i : Nat) : Scope := match (defBody s)[i]? with
  | some (.Assign _ (.ListComp _ _ sc _) _) => sc
  | _ => { kind := .function, names := [], isGenerator := false, isCoroutine := false }
/-- a method, as the written part has it -/
structure DfM (K : PySem.W.Frag) (C : Addr) (x qual : Str) (st : Stmt) (ps : List Str) where
  f : Addr
  fd : FuncData
  F : Fun K x qual st f fd
  b : Binds K fd ps []
  s : PySem.W.findIn K (.ref C) x = some (some (.ref f))
  i : PySem.W.isFn K (.ref f) = true
structure Tx (K : PySem.W.Frag) (mg : Str → Option Value) where
  CInvalidNumber : Addr
  InvalidNumber_Dinit : DfM K CInvalidNumber "__init__" "InvalidNumber.__init__" s_InvalidNumber_Dinit p_InvalidNumber_Dinit
  xInvalidNumber : OexC K CInvalidNumber
  fInvalidNumber : XfC K CInvalidNumber
  cInvalidNumber : ExcC K CInvalidNumber
  gInvalidNumber : mg "InvalidNumber" = some (.ref CInvalidNumber)
  stInvalidNumber : PySem.W.subIn K (.ref CInvalidNumber) (.type "StopIteration") = some false
  CTooMany : Addr
  TooMany_Dinit : DfM K CTooMany "__init__" "TooMany.__init__" s_TooMany_Dinit p_TooMany_Dinit
  xTooMany : OexC K CTooMany
  fTooMany : XfC K CTooMany
  cTooMany : ExcC K CTooMany
  gTooMany : mg "TooMany" = some (.ref CTooMany)
  stTooMany : PySem.W.subIn K (.ref CTooMany) (.type "StopIteration") = some false
  nInvalidNumber_value : PySem.W.findIn K (.ref CInvalidNumber) "value" = some none
  nInvalidNumber_code : PySem.W.findIn K (.ref CInvalidNumber) "code" = some none
  nTooMany_what : PySem.W.findIn K (.ref CTooMany) "what" = some none
  nTooMany_most : PySem.W.findIn K (.ref CTooMany) "most" = some none
  nTooMany_code : PySem.W.findIn K (.ref CTooMany) "code" = some none
  CCE : Addr
  gCountError : mg "CountError" = some (.ref CCE)
  isE : PySem.W.kitOne K (.ref CTooMany) (.ref CCE) = some true
  exII : PySem.W.exmOne K (.ref CInvalidNumber) (.ref CInvalidNumber) = some true
  exMI : PySem.W.exmOne K (.ref CTooMany) (.ref CInvalidNumber) = some false
  exMM : PySem.W.exmOne K (.ref CTooMany) (.ref CTooMany) = some true
  fworth : Addr
  fdworth : FuncData
  Fworth : ∃ dvs, FunD K "worth" "worth" (defArgs s_worth) (defBody s_worth) (defScope s_worth) dvs [] fworth fdworth
  bworth : Binds K fdworth p_worth []
  gworth : mg "worth" = some (.ref fworth)
  kworth : PySem.W.keepIn K (.ref fworth) = true
  gcd : mg "gcd" = some (.builtin "math.gcd")
  comb : mg "comb" = some (.builtin "math.comb")
  uB : Tok
  uD : Tok
  gMOST_BALLOTS : mg "MOST_BALLOTS" = some (.int 40 uB)
  gMOST_DRAWS : mg "MOST_DRAWS" = some (.int 20000 uD)
  is_less : DfG K mg "is_less" "is_less" s_is_less p_is_less
  is_number : DfG K mg "is_number" "is_number" s_is_number p_is_number
  check_number : DfG K mg "check_number" "check_number" s_check_number p_check_number
  is_share : DfG K mg "is_share" "is_share" s_is_share p_is_share
  check_limit : DfG K mg "check_limit" "check_limit" s_check_limit p_check_limit
  risk : DfG K mg "risk" "risk" s_risk p_risk
  least_draws : DfG K mg "least_draws" "least_draws" s_least_draws p_least_draws
  draws : DfG K mg "draws" "draws" s_draws p_draws
  lbag : DfG K mg "_law_bag" "_law_bag" s_lbag p_lbag
  lpull : DfG K mg "_law_pull" "_law_pull" s_lpull p_lpull
  lof : DfG K mg "_law_of" "_law_of" s_lof p_lof
  lturned : DfG K mg "_law_turned" "_law_turned" s_lturned p_lturned
  llike : DfG K mg "_law_like" "_law_like" s_llike p_llike
  lfit : DfG K mg "_law_fit" "_law_fit" s_lfit p_lfit
  ltimes : DfG K mg "_law_times" "_law_times" s_ltimes p_ltimes
  lless : DfG K mg "_law_less" "_law_less" s_lless p_lless
  lways_of : DfG K mg "_law_ways_of" "_law_ways_of" s_lways_of p_lways_of
  llisted : DfG K mg "_law_listed" "_law_listed" s_llisted p_llisted
  lpart_of : DfG K mg "_law_part_of" "_law_part_of" s_lpart_of p_lpart_of
  lfirst_draw : DfG K mg "_law_first_draw" "_law_first_draw" s_lfirst_draw p_lfirst_draw
  lrefused : DfG K mg "_law_refused" "_law_refused" s_lrefused p_lrefused
  lerrors : DfG K mg "_law_errors" "_law_errors" s_lerrors p_lerrors
  law : DfG K mg "law" "law" s_law p_law
  len : mg "len" = none
  abs : mg "abs" = none
  int : mg "int" = none
  str : mg "str" = none
  isinstance : mg "isinstance" = none
  zip : mg "zip" = none
  all : mg "all" = none
  any : mg "any" = none
  sum : mg "sum" = none
  list : mg "list" = none
  tuple : mg "tuple" = none
  bool : mg "bool" = none
  range : mg "range" = none
  min : mg "min" = none
end K83

/-! K83A -/
namespace K83
open PySem PySem.Spec PyProof.Rows L2 Ab RatM AbM

local macro_rules | `(tactic| walk_at "ab") => `(tactic| first
  | (with_reducible refine S_seq ?_) | (with_reducible refine S_ret ?_) | (with_reducible refine S_asg ?_) | (with_reducible refine S_if ?_) | (with_reducible refine S_next ?_) | (with_reducible refine S_par ?_) | (with_reducible refine S_drop ?_) | (with_reducible refine S_retN ?_)
  | (with_reducible refine E_c ?_) | (with_reducible refine E_op ?_) | (with_reducible refine E_un ?_) | (with_reducible refine E_tup (K := ‹PySem.W.Frag›) ?_) | (with_reducible refine E_lst ?_) | (with_reducible refine E_cb ?_) | (with_reducible refine E_if ?_)
  | (with_reducible refine E_fld ?_) | (with_reducible refine E_not ?_) | (with_reducible refine E_and ?_) | (with_reducible refine E_or ?_) | (with_reducible refine E_meth ?_) | (with_reducible refine E_make ?_)
  | (with_reducible refine A_cons ?_) | (with_reducible refine A_nil ?_) | (with_reducible refine E_call (dss := []) (fun _ => .nil) ?_)
  | (with_reducible refine T_test ?_) | (with_reducible refine T_B ?_) | (with_reducible refine T_not ?_) | (with_reducible refine T_and ?_) | (with_reducible refine T_or ?_)
  | (refine E_var rfl ?_) | (refine R_I0 ?_) | (refine R_ixT rfl ?_) | (refine R_ixL rfl ?_) | (refine R_eqI ?_) | (refine R_eqS ?_) | (refine R_neS ?_) | (refine R_eq rfl ?_) | (refine R_ne rfl ?_) | (refine U_I ?_) | (refine R_I ?_ ?_)
  | (refine C_gcd ?_) | (refine C_abs ?_) | (refine C_int ?_) | (refine C_intB ?_)
  | ((with_reducible show ∃ (s s' : Slot), _ = [s, s'] ∧ _); refine ⟨_, _, rfl, ?_⟩)
  | (refine ⟨_, rfl, ?_⟩)
  | (refine spl (fun h => ?_) (fun h => ?_)) | (refine splN (fun h => ?_) (fun h => ?_)) | (refine splT ?_) | (refine splF ?_) | (refine spl2 (fun h => ?_) (fun h => ?_))
  | (refine len_ok ?_) | fail)

local macro_rules | `(tactic| walk_at "len") => `(tactic| first
  | (rintro ⟨_, e, _⟩; rw [e]; rfl) | (rintro ⟨_, _, e, _⟩; rw [e]; rfl) | (rintro ⟨_, _, _, e, _⟩; rw [e]; rfl) | (rintro ⟨_, _, _, _, e, _⟩; rw [e]; rfl) | (rintro ⟨_, _, _, _, _, e, _⟩; rw [e]; rfl) | (rintro ⟨_, _, _, _, _, _, e, _⟩; rw [e]; rfl))
section
variable {P : Program} {w : World} {K : PySem.W.Frag} {mg : Str → Option Value} {base : Heap}
/-! ### the exceptions -/
def invMk (vs : List V) : List (Str × V) := [("code", .str "InvalidNumber"), ("value", vs.getD 0 .non)]
def invS (ss : List Slot) : List (Str × Slot) := [("code", vS (.str "InvalidNumber")), ("value", ss.getD 0 (vS .non))]
def invN : List Str := ["value", "code"]
theorem inv_pfl (vs : List V) (ss : List Slot) (H : Hp) (p : PSl vs ss H) : PFl (invMk vs) (invS ss) H := by
  refine .cons ⟨rfl, rfl⟩ (.cons ⟨rfl, ?_⟩ .nil)
  cases p with
  | nil => rfl
  | cons h _ => exact h
theorem ok_InvalidNumber_Dinit (T : Tx K mg) : FnOk P w K mg base CX0 1 T.InvalidNumber_Dinit.f T.InvalidNumber_Dinit.fd p_InvalidNumber_Dinit (spXI K invN 1 invMk) := by
  refine T.InvalidNumber_Dinit.F.ok sc_InvalidNumber_Dinit (fun vs H Q E h => ?_) (fun cdv A outer s H vs Q E hr h => ?_)
  · obtain ⟨a, C, args, rfl, hl, _⟩ := h
    rw [List.length_cons, hl]; rfl
  · obtain ⟨a, C, args, rfl, hl, O, hn, e, k⟩ := h
    obtain ⟨v, rfl⟩ : ∃ v, args = [v] := by
      match args, hl with
      | [v], _ => exact ⟨v, rfl⟩
    refine ⟨_, pss_cons (ps_ost (pv 0) (pv 1)) (pss_one (ps_ost (pv 0) pe_str)), ?_⟩
    refine ⟨_, rfl, _, rfl, a, C, rfl, O, hn _ (List.mem_cons_self ..), .inl ⟨e, fun dx hd ne => ?_⟩⟩
    refine ⟨_, rfl, a, C, rfl, O, hn _ (List.mem_cons_of_mem _ (List.mem_cons_self ..)), .inr ⟨dx, _, upd_same, (by rw [upd_ne ne]; exact upd_same), (by show 1 ≤ 900; decide), ?_⟩⟩
    refine k dx _ hd ne (by rw [upd_ne (fun z => ne z.symm)]; exact upd_same) upd_same fun b h1 h2 => ?_
    rw [upd_ne h2, upd_ne h1, upd_ne h2]
def tmMk (vs : List V) : List (Str × V) := [("code", .str "TooMany"), ("most", vs.getD 1 .non), ("what", vs.getD 0 .non)]
def tmS (ss : List Slot) : List (Str × Slot) := [("code", vS (.str "TooMany")), ("most", ss.getD 1 (vS .non)), ("what", ss.getD 0 (vS .non))]
def tmN : List Str := ["what", "most", "code"]
theorem tm_pfl (vs : List V) (ss : List Slot) (H : Hp) (p : PSl vs ss H) : PFl (tmMk vs) (tmS ss) H := by
  cases p with
  | nil => exact .cons ⟨rfl, rfl⟩ (.cons ⟨rfl, rfl⟩ (.cons ⟨rfl, rfl⟩ .nil))
  | cons h p => cases p with
    | nil => exact .cons ⟨rfl, rfl⟩ (.cons ⟨rfl, rfl⟩ (.cons ⟨rfl, h⟩ .nil))
    | cons h' p => exact .cons ⟨rfl, rfl⟩ (.cons ⟨rfl, h'⟩ (.cons ⟨rfl, h⟩ .nil))
theorem ok_TooMany_Dinit (T : Tx K mg) : FnOk P w K mg base CX0 1 T.TooMany_Dinit.f T.TooMany_Dinit.fd p_TooMany_Dinit (spXI K tmN 2 tmMk) := by
  refine T.TooMany_Dinit.F.ok sc_TooMany_Dinit (fun vs H Q E h => ?_) (fun cdv A outer s H vs Q E hr h => ?_)
  · obtain ⟨a, C, args, rfl, hl, _⟩ := h
    rw [List.length_cons, hl]; rfl
  · obtain ⟨a, C, args, rfl, hl, O, hn, e, k⟩ := h
    obtain ⟨v, v2, rfl⟩ : ∃ v v2, args = [v, v2] := by
      match args, hl with
      | [v, v2], _ => exact ⟨v, v2, rfl⟩
    refine ⟨_, pss_cons (ps_ost (pv 0) (pv 1)) (pss_cons (ps_ost (pv 0) (pv 2)) (pss_one (ps_ost (pv 0) pe_str))), ?_⟩
    refine ⟨_, rfl, _, rfl, a, C, rfl, O, hn _ (List.mem_cons_self ..), .inl ⟨e, fun dx hd ne => ?_⟩⟩
    refine ⟨_, rfl, _, rfl, a, C, rfl, O, hn _ (List.mem_cons_of_mem _ (List.mem_cons_self ..)), .inr ⟨dx, _, upd_same, (by rw [upd_ne ne]; exact upd_same), (by show 1 ≤ 900; decide), ?_⟩⟩
    refine ⟨_, rfl, a, C, rfl, O, hn _ (List.mem_cons_of_mem _ (List.mem_cons_of_mem _ (List.mem_cons_self ..))), .inr ⟨dx, _, (by rw [upd_ne (fun z => ne z.symm)]; exact upd_same), upd_same, (by show 2 ≤ 900; decide), ?_⟩⟩
    refine k dx _ hd ne (by rw [upd_ne (fun z => ne z.symm), upd_ne (fun z => ne z.symm)]; exact upd_same) upd_same fun b h1 h2 => ?_
    rw [upd_ne h2, upd_ne h2, upd_ne h1, upd_ne h2]
def invX (C : Addr) (s : Slot) : Xs := ⟨C, invS [s]⟩
/-! ### worths -/
abbrev Bq (q : Rat) : Prop := Sz 3000 3000 q
def F_worth (K : PySem.W.Frag) : FS := fun ss Φ _ => ∃ t b : Int, ss = [vS (.int t), vS (.int b)] ∧ b.natAbs < 2 ^ 8000 ∧ Φ (ratS K (Rat.divInt t b))
def F_less (K : PySem.W.Frag) : FS := fun ss Φ _ => ∃ p q : Rat, ss = [ratS K p, ratS K q] ∧ Bq p ∧ Bq q ∧ Φ (vS (.bl (decide (p < q))))
def F2 (K : PySem.W.Frag) (f : Rat → Rat → Rat) : FS := fun ss Φ _ => ∃ p q : Rat, ss = [ratS K p, ratS K q] ∧ Bq p ∧ Bq q ∧ Φ (ratS K (f p q))
theorem cmul {p q : Rat} (hp : Bq p) (hq : Bq q) : CMulW p.num (q.den : Int) := wide_mul hp.1 (by rw [Int.natAbs_natCast]; exact hq.2) (by decide) (by decide) (by decide)
theorem cmulD {p q : Rat} (hp : Bq p) (hq : Bq q) : CMulW (p.den : Int) (q.den : Int) := wide_mul (by rw [Int.natAbs_natCast]; exact hp.2) (by rw [Int.natAbs_natCast]; exact hq.2) (by decide) (by decide) (by decide)
theorem cmulN {p q : Rat} (hp : Bq p) (hq : Bq q) : CMulW p.num q.num := wide_mul hp.1 hq.1 (by decide) (by decide) (by decide)
theorem dd {p q : Rat} (hp : Bq p) (hq : Bq q) : ((p.den : Int) * q.den).natAbs < 2 ^ 8000 := sz_den hp hq (by decide)
theorem cdivN {t b : Int} (hb : b.natAbs < 2 ^ 8000) (h0 : b ≠ 0) : CDivNW t (-((Nat.gcd t.natAbs b.natAbs : Nat) : Int)) := by
  have h1 := gcd_pos (t := t) h0
  have h2 := gcd_le (t := t) h0
  rw [gcd_int]
  exact CDivNW.of (by omega) (b := 8000) (by omega) (by decide) (by decide)
theorem cdivP {t b : Int} (hb : b.natAbs < 2 ^ 8000) (h0 : b ≠ 0) : CDivNW t ((Nat.gcd t.natAbs b.natAbs : Nat) : Int) := by
  have h1 := gcd_pos (t := t) h0
  have h2 := gcd_le (t := t) h0
  rw [gcd_int]
  exact CDivNW.of (by omega) (b := 8000) (by omega) (by decide) (by decide)
theorem cdivN' {t b : Int} (hb : b.natAbs < 2 ^ 8000) (h0 : b ≠ 0) : CDivNW b (-((Nat.gcd t.natAbs b.natAbs : Nat) : Int)) := ⟨(cdivN (t := t) hb h0).1, (cdivN (t := t) hb h0).2⟩
theorem cdivP' {t b : Int} (hb : b.natAbs < 2 ^ 8000) (h0 : b ≠ 0) : CDivNW b ((Nat.gcd t.natAbs b.natAbs : Nat) : Int) := ⟨(cdivP (t := t) hb h0).1, (cdivP (t := t) hb h0).2⟩
theorem ok_worth (T : Tx K mg) : FnOk P w K mg base CX0 1 T.fworth T.fdworth p_worth (spOf (F_worth K)) := by
  obtain ⟨dvs, F⟩ := T.Fworth
  refine FunD.ok0 F sc_worth (by intro ss Φ Ψ h; revert h; walk_at "len") (fun cdv Ar outer s H Er hr => ⟨_, (pss_cons (ps_if (pt_cmpR op_eq (pv 1) pe_int (nomark _))
  (pss_one (ps_ret (pe_tup (pa_cons pe_int (pa_cons pe_int pa_nil)))))
  pss_nil)
  (pss_cons (ps_set (i := 2) sc_worth.nd rfl (by first | exact Or.inl rfl | exact Or.inr rfl) (pe_callBfun cr_gcd (by rfl) T.gcd (pa_cons (pv 0) (pa_cons (pv 1) pa_nil))))
  (pss_cons (ps_if (pt_cmpR op_lt (pv 1) pe_int (nomark _))
  (pss_one (ps_set (i := 2) sc_worth.nd rfl (by first | exact Or.inl rfl | exact Or.inr rfl) (pe_un un_neg (pv 2))))
  pss_nil)
  (pss_one (ps_ret (pe_tup (pa_cons (pe_op op_fdivNW (pv 0) (pv 2)) (pa_cons (pe_op op_fdivNW (pv 1) (pv 2)) pa_nil)))))))), fun ss Φ Ψ h => ?_⟩)
  obtain ⟨t, b, rfl, hb, k⟩ := h
  repeat' walk_at "ab"
  · rename_i h0
    subst h0
    rw [Rat.divInt_zero] at k
    exact k
  · exact cdivN hb (by assumption)
  · exact cdivN' hb (by assumption)
  · rename_i h0 h1
    show Φ (tupS K _)
    rw [gcd_int, num_neg h1, RatM.den_neg h1]
    exact k
  · exact cdivP hb (by assumption)
  · exact cdivP' hb (by assumption)
  · rename_i h0 h1
    show Φ (tupS K _)
    rw [gcd_int, num_pos (by omega), RatM.den_pos (by omega)]
    exact k
theorem ok_is_less (T : Tx K mg) : FnOk P w K mg base CX0 1 T.is_less.f T.is_less.fd p_is_less (spOf (F_less K)) := by
  refine ok0 T.is_less.F sc_is_less (by intro ss Φ Ψ h; revert h; walk_at "len") (fun cdv Ar outer s H Er hr => ⟨_, (pss_one (ps_ret (pe_cmpR op_lt (pe_op op_mulW (pe_ix ix_tup (pv 0) pe_int (fun _ _ => rfl)) (pe_ix ix_tup (pv 1) pe_int (fun _ _ => rfl))) (pe_op op_mulW (pe_ix ix_tup (pv 1) pe_int (fun _ _ => rfl)) (pe_ix ix_tup (pv 0) pe_int (fun _ _ => rfl))) (nomark _)))), fun ss Φ Ψ h => ?_⟩)
  obtain ⟨p, q, rfl, hp, hq, k⟩ := h
  repeat' walk_at "ab"
  · exact cmul hp hq
  · exact cmul hq hp
  · have e : decide (p.num * (q.den : Int) < q.num * (p.den : Int)) = decide (p < q) := by simp only [lt_eq]
    show Φ (vS (V.bl (decide (p.num * (q.den : Int) < q.num * (p.den : Int)))))
    rw [e]
    exact k
/-! ### numbers -/
def F_isnum (K : PySem.W.Frag) : FS := fun ss Φ _ => ∃ (s : Slot) (lo hi : Int), ss = [s, vS (.int lo), vS (.int hi)] ∧ ((∃ i : Int, s = vS (.int i) ∧ Φ (vS (.bl (decide (lo ≤ i ∧ i ≤ hi))))) ∨ (Odd K s ∧ Φ (vS (.bl false))))
theorem ok_is_number (T : Tx K mg) : FnOk P w K mg base CX0 1 T.is_number.f T.is_number.fd p_is_number (spOf (F_isnum K)) := by
  refine ok0 T.is_number.F sc_is_number (by intro ss Φ Ψ h; revert h; walk_at "len") (fun cdv Ar outer s H Er hr => ⟨_, (pss_cons (ps_if (PW.pt (pw_or (pt_val (pe_callB call_isi (by rfl) T.isinstance (by decide +kernel) (pa_cons (pv 0) (pa_cons (pe_bltn (by rfl) T.bool (by decide +kernel) (rel_ty "bool")) pa_nil)))) (pw_or1 (pt_not (pt_val (pe_callB call_isi (by rfl) T.isinstance (by decide +kernel) (pa_cons (pv 0) (pa_cons (pe_bltn (by rfl) T.int (by decide +kernel) (rel_ty "int")) pa_nil))))))))
  (pss_one (ps_ret pe_bl))
  pss_nil)
  (pss_one (ps_ret (pe_chain op_le op_le (pv 1) (pv 0) (pv 2))))), fun ss Φ Ψ h => ?_⟩)
  obtain ⟨s, lo, hi, rfl, ⟨i, rfl, k⟩ | ⟨⟨b, rfl⟩ | ⟨t, ht, h1, h2⟩, k⟩⟩ := h
  · repeat' first | (refine C_isi (b := false) (ty_int _) (.ty _) (kit_ty (by decide +kernel)) ?_) | (refine C_isi (b := true) (ty_int _) (.ty _) (kit_ty (by decide +kernel)) ?_) | (refine E_chain ?_) | walk_at "ab" | fail
    · rename_i h
      have e : decide (lo ≤ i ∧ i ≤ hi) = decide (i ≤ hi) := by
        have h : lo ≤ i := h
        simp [h]
      rw [e] at k; exact k
    · rename_i h
      have e : decide (lo ≤ i ∧ i ≤ hi) = false := by
        have h : ¬ lo ≤ i := h
        simp [h]
      rw [e] at k; exact k
  · repeat' first | (refine C_isi (b := true) (ty_bl _) (.ty _) (kit_ty (by decide +kernel)) ?_) | walk_at "ab" | fail
    exact k
  · repeat' first | (refine C_isi ht (.ty _) h1 ?_) | (refine C_isi ht (.ty _) h2 ?_) | walk_at "ab" | fail
    exact k
def Bad (K : PySem.W.Frag) (s : Slot) (most : Int) : Prop := (∃ i : Int, s = vS (.int i) ∧ ¬ (0 ≤ i ∧ i ≤ most)) ∨ Odd K s
def F_check (K : PySem.W.Frag) (C : Addr) : FS := fun ss Φ Ψ => ∃ (s : Slot) (most : Int), ss = [s, vS (.int most)] ∧ ((∃ i : Int, s = vS (.int i) ∧ 0 ≤ i ∧ i ≤ most ∧ Φ (vS .non)) ∨ (Bad K s most ∧ Ψ (invX C s)))
theorem ok_check_number (T : Tx K mg) : FnOk P w K mg base (L2.CX P w) 3 T.check_number.f T.check_number.fd p_check_number (spOf (F_check K T.CInvalidNumber)) := by
  refine okX T.check_number.F sc_check_number (by intro ss Φ Ψ h; revert h; walk_at "len") (fun cdv Ar outer s H Er hr => ⟨_, (pss_one (ps_if (pt_not (pt_val (pe_call (ok_is_number T) (hr.mono (by decide)) rfl T.is_number.g T.is_number.F.kp T.is_number.b .nil pass0 (pa_cons (pv 0) (pa_cons pe_int (pa_cons (pv 1) pa_nil))))))
  (pss_one (ps_raise rfl (takes_of rfl rfl rfl rfl) (pmk_oex T.xInvalidNumber T.InvalidNumber_Dinit.s (beq_iff_eq.mp T.InvalidNumber_Dinit.i) (ok_InvalidNumber_Dinit T) (hr.mono (by decide)) T.InvalidNumber_Dinit.b .nil pass0 rfl T.gInvalidNumber (pa_cons (pv 0) pa_nil))))
  pss_nil)), fun ss Φ Ψ h => ?_⟩)
  obtain ⟨s, most, rfl, ⟨i, rfl, h0, h1, k⟩ | ⟨hb, k⟩⟩ := h
  · repeat' walk_at "ab"
    refine ⟨_, _, _, rfl, .inl ⟨i, rfl, ?_⟩⟩
    repeat' walk_at "ab"
    · rename_i h; exact absurd ⟨h0, h1⟩ h
    · exact k
  · repeat' walk_at "ab"
    have hr : ∀ Γ : List Bd, S (fun _ σ H => tMkO T.CInvalidNumber (spXI K invN 1 invMk) [] (tCons (tVar 0) tNil) σ H fun cls d H' => Er cls d H') [.pl s, .pl (vS (.int most))] { nx := fun _ => Φ (vS .non), rt := fun s _ => Φ s, bk := fun _ => False, ct := fun _ => False, er := Er, ex := Ψ } := fun Γ =>
      S_raise T.xInvalidNumber (fun f hf => by
        rcases List.mem_cons.mp hf with rfl | hf
        · exact T.nInvalidNumber_value
        · rw [List.mem_singleton.mp hf]; exact T.nInvalidNumber_code) inv_pfl (A_cons (E_var rfl (A_nil ⟨rfl, by decide, k⟩)))
    rcases hb with ⟨i, rfl, hi⟩ | hb
    · refine ⟨_, _, _, rfl, .inl ⟨i, rfl, ?_⟩⟩
      repeat' walk_at "ab"
      · exact hr []
      · rename_i h; exact absurd h hi
    · refine ⟨_, _, _, rfl, .inr ⟨hb, ?_⟩⟩
      repeat' walk_at "ab"
      exact hr []
end
end K83

/-! K83B -/
namespace K83
open PySem PySem.Spec PyProof.Rows L2 Ab RatM AbM

local macro_rules | `(tactic| walk_at "ab") => `(tactic| first
  | (with_reducible refine S_seq ?_) | (with_reducible refine S_ret ?_) | (with_reducible refine S_asg ?_) | (with_reducible refine S_if ?_) | (with_reducible refine S_next ?_) | (with_reducible refine S_par ?_) | (with_reducible refine S_drop ?_) | (with_reducible refine S_retN ?_)
  | (with_reducible refine E_c ?_) | (with_reducible refine E_op ?_) | (with_reducible refine E_un ?_) | (with_reducible refine E_tup (K := ‹PySem.W.Frag›) ?_) | (with_reducible refine E_lst ?_) | (with_reducible refine E_cb ?_) | (with_reducible refine E_if ?_)
  | (with_reducible refine E_fld ?_) | (with_reducible refine E_not ?_) | (with_reducible refine E_and ?_) | (with_reducible refine E_or ?_) | (with_reducible refine E_meth ?_) | (with_reducible refine E_make ?_)
  | (with_reducible refine A_cons ?_) | (with_reducible refine A_nil ?_) | (with_reducible refine E_call (dss := []) (fun _ => .nil) ?_)
  | (with_reducible refine T_test ?_) | (with_reducible refine T_B ?_) | (with_reducible refine T_not ?_) | (with_reducible refine T_and ?_) | (with_reducible refine T_or ?_)
  | (refine E_var rfl ?_) | (refine R_I0 ?_) | (refine R_ixT rfl ?_) | (refine R_ixL rfl ?_) | (refine R_eqI ?_) | (refine R_eqS ?_) | (refine R_neS ?_) | (refine R_eq rfl ?_) | (refine R_ne rfl ?_) | (refine U_I ?_) | (refine R_I ?_ ?_)
  | (refine C_gcd ?_) | (refine C_abs ?_) | (refine C_int ?_) | (refine C_intB ?_)
  | ((with_reducible show ∃ (s s' : Slot), _ = [s, s'] ∧ _); refine ⟨_, _, rfl, ?_⟩)
  | (refine ⟨_, rfl, ?_⟩)
  | (refine spl (fun h => ?_) (fun h => ?_)) | (refine splN (fun h => ?_) (fun h => ?_)) | (refine splT ?_) | (refine splF ?_) | (refine spl2 (fun h => ?_) (fun h => ?_))
  | (refine len_ok ?_) | fail)

local macro_rules | `(tactic| walk_at "len") => `(tactic| first
  | (rintro ⟨_, e, _⟩; rw [e]; rfl) | (rintro ⟨_, _, e, _⟩; rw [e]; rfl) | (rintro ⟨_, _, _, e, _⟩; rw [e]; rfl) | (rintro ⟨_, _, _, _, e, _⟩; rw [e]; rfl) | (rintro ⟨_, _, _, _, _, e, _⟩; rw [e]; rfl) | (rintro ⟨_, _, _, _, _, _, e, _⟩; rw [e]; rfl))
section
variable {P : Program} {w : World} {K : PySem.W.Frag} {mg : Str → Option Value} {base : Heap}
/-! ### limits -/
def IsI (s : Slot) : Prop := ∃ i : Int, s = vS (.int i)
/-- a value that is no worth from 0 to 1 -/
def BadL (K : PySem.W.Frag) (s : Slot) : Prop := (∃ t, TyS K s (.type t) ∧ PySem.W.kitOne K (.type t) (.type "tuple") = some false) ∨ (∃ ss, s = tupS K ss ∧ ss.length ≠ 2) ∨
  (∃ a b, s = tupS K [a, b] ∧ (Odd K a ∨ (IsI a ∧ Odd K b))) ∨ ∃ i j : Int, s = tupS K [vS (.int i), vS (.int j)] ∧ ¬ (0 ≤ i ∧ i ≤ j ∧ Nat.gcd i.natAbs j.natAbs = 1)
def F_share (K : PySem.W.Frag) : FS := fun ss Φ _ => ∃ s : Slot, ss = [s] ∧ ((∃ q : Rat, s = ratS K q ∧ 0 ≤ q ∧ q ≤ 1 ∧ Φ (vS (.bl true))) ∨ (BadL K s ∧ Φ (vS (.bl false))))
theorem rat_ends {q : Rat} (h0 : 0 ≤ q) (h1 : q ≤ 1) : 0 ≤ q.num ∧ q.num ≤ (q.den : Int) := by
  refine ⟨Rat.num_nonneg.mpr h0, ?_⟩
  have := (Rat.le_iff q 1).mp h1
  simpa using this
theorem gcdI {a b : Int} {n : Nat} (h : Nat.gcd a.natAbs b.natAbs = n) {k : Int} : decide (((Nat.gcd a.natAbs b.natAbs : Nat) : Int) = k) = decide ((n : Int) = k) := by rw [h]
/-- the loop over the parts, where all of them are ints -/
theorem C_isiI {i : Int} {Φ : Slot → Prop} (k : Φ (vS (.bl true))) : Ab.C (rIsi K) [vS (.int i), vS (.ty "int")] Φ := C_isi (b := true) (ty_int _) (.ty _) (kit_ty (by decide +kernel)) k
theorem C_isiB {i : Int} {Φ : Slot → Prop} (k : Φ (vS (.bl false))) : Ab.C (rIsi K) [vS (.int i), vS (.ty "bool")] Φ := C_isi (b := false) (ty_int _) (.ty _) (kit_ty (by decide +kernel)) k
theorem C_isTup {ss : List Slot} {Φ : Slot → Prop} (k : Φ (vS (.bl true))) : Ab.C (rIsi K) [tupS K ss, vS (.ty "tuple")] Φ := C_isi (b := true) ty_tup (.ty _) (kit_ty (by decide +kernel)) k
theorem tupS2 (ss : List Slot) (h : ss.length = 2) : ∃ a b, ss = [a, b] := by
  match ss, h with
  | [a, b], _ => exact ⟨a, b, rfl⟩
theorem ok_is_share (T : Tx K mg) : FnOk P w K mg base CX0 1 T.is_share.f T.is_share.fd p_is_share (spOf (F_share K)) := by
  refine ok0 T.is_share.F sc_is_share (by intro ss Φ Ψ h; revert h; walk_at "len") (fun cdv Ar outer s H Er hr => ⟨_, (pss_cons (ps_if (PW.pt (pw_or (pt_not (pt_val (pe_callB call_isi (by rfl) T.isinstance (by decide +kernel) (pa_cons (pv 0) (pa_cons (pe_bltn (by rfl) T.tuple (by decide +kernel) (rel_ty "tuple")) pa_nil))))) (pw_or1 (pt_cmpR op_ne (pe_callB call_len_seq (by rfl) T.len PySem.boot_len (pa_cons (pv 0) pa_nil)) pe_int (nomark _)))))
  (pss_one (ps_ret pe_bl))
  pss_nil)
  (pss_cons (ps_for PassesOwn.never rfl (pi_tup (pv 0)) (pg_name (i := 1) sc_is_share.nd rfl (by first | exact Or.inl rfl | exact Or.inr rfl))
  (pss_one (ps_if (PW.pt (pw_or (pt_not (pt_val (pe_callB call_isi (by rfl) T.isinstance (by decide +kernel) (pa_cons (pv 1) (pa_cons (pe_bltn (by rfl) T.int (by decide +kernel) (rel_ty "int")) pa_nil))))) (pw_or1 (pt_val (pe_callB call_isi (by rfl) T.isinstance (by decide +kernel) (pa_cons (pv 1) (pa_cons (pe_bltn (by rfl) T.bool (by decide +kernel) (rel_ty "bool")) pa_nil)))))))
  (pss_one (ps_ret pe_bl))
  pss_nil)))
  (pss_one (ps_ret (pe_and (pe_chain op_le op_le pe_int (pe_ix ix_tup (pv 0) pe_int (fun _ _ => rfl)) (pe_ix ix_tup (pv 0) pe_int (fun _ _ => rfl))) (pe_one (pe_cmpR op_eq (pe_callBfun cr_gcd (by rfl) T.gcd (pa_cons (pe_ix ix_tup (pv 0) pe_int (fun _ _ => rfl)) (pa_cons (pe_ix ix_tup (pv 0) pe_int (fun _ _ => rfl)) pa_nil))) pe_int (nomark _)))))))), fun ss Φ Ψ h => ?_⟩)
  obtain ⟨s, rfl, h⟩ := h
  have body : ∀ (a : Slot) (s : Slot) (Φ0 : Ks), ((IsI a ∧ Φ0.nx [.pl s, .pl a]) ∨ (Odd K a ∧ Φ0.rt (vS (.bl false)) [.pl s, .pl a])) →
      S (tIfS (tOr (tNot (tB (tCB (rIsi K) (tCons (tVar 1) (tCons (tC (.ty "int")) tNil))))) (tB (tCB (rIsi K) (tCons (tVar 1) (tCons (tC (.ty "bool")) tNil))))) (tRet (tC (.bl false))) tNext) [.pl s, .pl a] Φ0 := by
    intro a s Φ0 h3
    rcases h3 with ⟨⟨i, rfl⟩, h1⟩ | ⟨h3, h2⟩
    · repeat' first | (refine C_isiI ?_) | (refine C_isiB ?_) | walk_at "ab" | fail
      exact h1
    · rcases h3 with ⟨b, rfl⟩ | ⟨t, ht, g1, g2⟩
      · repeat' first | (refine C_isi (b := true) (ty_bl _) (.ty _) (kit_ty (by decide +kernel)) ?_) | walk_at "ab" | fail
        exact h2
      · repeat' first | (refine C_isi ht (.ty _) g2 ?_) | walk_at "ab" | fail
        exact h2
  have loop : ∀ (a b : Slot) (m : Nat) (k : m = 2 → ∀ o, S (tRet (tAndV (tChain (rI0 fun i j => .bl (decide (i ≤ j))) (rI0 fun i j => .bl (decide (i ≤ j))) (tC (.int 0)) (tOp (rIxT K) (tVar 0) (tC (.int 0))) (tOp (rIxT K) (tVar 0) (tC (.int 1))))
        (tOp rEq (tCB rGcd (tCons (tOp (rIxT K) (tVar 0) (tC (.int 0))) (tCons (tOp (rIxT K) (tVar 0) (tC (.int 1))) tNil))) (tC (.int 1))))) [.pl (tupS K [a, b]), o] { nx := fun _ => Φ (vS .non), rt := fun s _ => Φ s, bk := fun _ => False, ct := fun _ => False })
      (hm : m ≤ 2) (hi : ∀ n s, [a, b][n]? = some s → n < m → IsI s) (ho : ∀ n s, [a, b][n]? = some s → n = m → Odd K s ∧ Φ (vS (.bl false))),
      S (tSeq (tFor (iTup K (tVar 0)) (gName 1) (tIfS (tOr (tNot (tB (tCB (rIsi K) (tCons (tVar 1) (tCons (tC (.ty "int")) tNil))))) (tB (tCB (rIsi K) (tCons (tVar 1) (tCons (tC (.ty "bool")) tNil))))) (tRet (tC (.bl false))) tNext))
        (tRet (tAndV (tChain (rI0 fun i j => .bl (decide (i ≤ j))) (rI0 fun i j => .bl (decide (i ≤ j))) (tC (.int 0)) (tOp (rIxT K) (tVar 0) (tC (.int 0))) (tOp (rIxT K) (tVar 0) (tC (.int 1))))
        (tOp rEq (tCB rGcd (tCons (tOp (rIxT K) (tVar 0) (tC (.int 0))) (tCons (tOp (rIxT K) (tVar 0) (tC (.int 1))) tNil))) (tC (.int 1)))))) [.pl (tupS K [a, b]), .no] { nx := fun _ => Φ (vS .non), rt := fun s _ => Φ s, bk := fun _ => False, ct := fun _ => False } := by
    intro a b m k hm hi ho
    refine S_seq (S_forT (ss := [a, b]) [1] (fun i Γ => i ≤ m ∧ ∃ o, Γ = [.pl (tupS K [a, b]), o]) (E_var rfl ⟨rfl, Nat.zero_le _, _, rfl⟩) ?_ ?_)
    · rintro n s Γ hn ⟨h1, o, rfl⟩
      refine G_name (by decide) ?_
      by_cases hlt : n < m
      · exact body s _ _ (.inl ⟨hi n s hn hlt, hlt, _, rfl⟩)
      · exact body s _ _ (.inr ⟨(ho n s hn (by omega)).1, (ho n s hn (by omega)).2⟩)
    · rintro Γ ⟨h1, o, rfl⟩
      exact k (by have h1 : 2 ≤ m := h1; omega) o
  have fin : ∀ (i j : Int) (o : Bd) (hk : Φ (vS (.bl (decide (0 ≤ i ∧ i ≤ j ∧ Nat.gcd i.natAbs j.natAbs = 1))))), S (tRet (tAndV (tChain (rI0 fun i j => .bl (decide (i ≤ j))) (rI0 fun i j => .bl (decide (i ≤ j))) (tC (.int 0)) (tOp (rIxT K) (tVar 0) (tC (.int 0))) (tOp (rIxT K) (tVar 0) (tC (.int 1))))
        (tOp rEq (tCB rGcd (tCons (tOp (rIxT K) (tVar 0) (tC (.int 0))) (tCons (tOp (rIxT K) (tVar 0) (tC (.int 1))) tNil))) (tC (.int 1))))) [.pl (tupS K [vS (.int i), vS (.int j)]), o] { nx := fun _ => Φ (vS .non), rt := fun s _ => Φ s, bk := fun _ => False, ct := fun _ => False } := by
    intro i j o hk
    repeat' first | (refine E_chain ?_) | walk_at "ab" | fail
    · rename_i h1 h2
      have h1 : 0 ≤ i := h1
      have h2 : i ≤ j := h2
      have e : decide ((0 : Int) ≤ i ∧ i ≤ j ∧ Nat.gcd i.natAbs j.natAbs = 1) = decide (((Nat.gcd i.natAbs j.natAbs : Nat) : Int) = 1) := by
        simp only [h1, h2, true_and]
        congr 1
        apply propext
        omega
      rw [e] at hk; exact hk
    · rename_i h1 h2
      have h2 : ¬ i ≤ j := h2
      have e : decide ((0 : Int) ≤ i ∧ i ≤ j ∧ Nat.gcd i.natAbs j.natAbs = 1) = false := by simp [h2]
      rw [e] at hk; exact hk
    · rename_i h1
      have h1 : ¬ 0 ≤ i := h1
      have e : decide ((0 : Int) ≤ i ∧ i ≤ j ∧ Nat.gcd i.natAbs j.natAbs = 1) = false := by simp [h1]
      rw [e] at hk; exact hk
  have enter : ∀ (a b : Slot) (u : TS), S u [.pl (tupS K [a, b]), .no] { nx := fun _ => Φ (vS .non), rt := fun s _ => Φ s, bk := fun _ => False, ct := fun _ => False } →
      S (tSeq (tIfS (tOr (tNot (tB (tCB (rIsi K) (tCons (tVar 0) (tCons (tC (.ty "tuple")) tNil))))) (tTest (tOp rNe (tCB (fun xs H Q => ∃ p ys, xs = [.ref p] ∧ (SqL K H p ys ∨ SqT K H p ys) ∧ Q (.int ys.length) H) (tCons (tVar 0) tNil)) (tC (.int 2))))) (tRet (tC (.bl false))) tNext) u) [.pl (tupS K [a, b]), .no] { nx := fun _ => Φ (vS .non), rt := fun s _ => Φ s, bk := fun _ => False, ct := fun _ => False } := by
    intro a b u hu
    refine S_mid (fun Γ => Γ = [.pl (tupS K [a, b]), .no]) ?_ (fun Γ e => by subst e; exact hu)
    repeat' first | (refine C_isTup ?_) | (refine C_len _ 2 ⟨.inr rfl, rfl⟩ ?_) | walk_at "ab" | fail
    · rename_i h; exact absurd rfl h
    · rfl
  rcases h with ⟨q, rfl, q0, q1, k⟩ | ⟨⟨t, ht, hk⟩ | ⟨ss, rfl, hl⟩ | ⟨a, b, rfl, h⟩ | ⟨i, j, rfl, h⟩, k⟩
  · refine enter _ _ _ (loop _ _ 2 (fun _ o => fin _ _ o ?_) (Nat.le_refl _) ?_ ?_)
    · obtain ⟨n0, n1⟩ := rat_ends q0 q1
      rw [decide_eq_true ⟨n0, n1, by rw [Int.natAbs_natCast]; exact q.reduced⟩]
      exact k
    · intro n s hn _
      match n, hn with
      | 0, hn => cases hn; exact ⟨_, rfl⟩
      | 1, hn => cases hn; exact ⟨_, rfl⟩
    · intro n s hn e; subst e; simp at hn
  · repeat' first | (refine C_isi ht (.ty _) hk ?_) | walk_at "ab" | fail
    exact k
  · refine S_seq ?_
    repeat' first | (refine C_isTup ?_) | (refine C_len _ ss.length ⟨.inr rfl, rfl⟩ ?_) | walk_at "ab" | fail
    all_goals first | exact k | skip
    all_goals
      rename_i h
      exact absurd (by
        have h : V.int ss.length = V.int 2 := h
        have := V.int.inj h
        omega) hl
  · rcases h with h | ⟨h1, h⟩
    · refine enter a b _ (loop a b 0 (fun z => absurd z (by decide)) (by decide) (fun n s _ hn => absurd hn (by omega)) ?_)
      · intro n s hn e; subst e; cases hn; exact ⟨h, k⟩
    · refine enter a b _ (loop a b 1 (fun z => absurd z (by decide)) (by decide) (fun n s hn hlt => ?_) ?_)
      · match n, hn with
        | 0, hn => cases hn; exact h1
        | n + 1, hn => omega
      · intro n s hn e; subst e; cases hn; exact ⟨h, k⟩
  · refine enter _ _ _ (loop _ _ 2 (fun _ o => fin _ _ o ?_) (Nat.le_refl _) ?_ ?_)
    · rw [decide_eq_false h]
      exact k
    · intro n s hn _
      match n, hn with
      | 0, hn => cases hn; exact ⟨_, rfl⟩
      | 1, hn => cases hn; exact ⟨_, rfl⟩
    · intro n s hn e; subst e; simp at hn
end
end K83

/-! K83C -/
namespace K83
open PySem PySem.Spec PyProof.Rows L2 Ab RatM AbM

local macro_rules | `(tactic| walk_at "ab") => `(tactic| first
  | (with_reducible refine S_seq ?_) | (with_reducible refine S_ret ?_) | (with_reducible refine S_asg ?_) | (with_reducible refine S_if ?_) | (with_reducible refine S_next ?_) | (with_reducible refine S_par ?_) | (with_reducible refine S_drop ?_) | (with_reducible refine S_retN ?_)
  | (with_reducible refine E_c ?_) | (with_reducible refine E_op ?_) | (with_reducible refine E_un ?_) | (with_reducible refine E_tup (K := ‹PySem.W.Frag›) ?_) | (with_reducible refine E_lst ?_) | (with_reducible refine E_cb ?_) | (with_reducible refine E_if ?_)
  | (with_reducible refine E_fld ?_) | (with_reducible refine E_not ?_) | (with_reducible refine E_and ?_) | (with_reducible refine E_or ?_) | (with_reducible refine E_meth ?_) | (with_reducible refine E_make ?_)
  | (with_reducible refine A_cons ?_) | (with_reducible refine A_nil ?_) | (with_reducible refine E_call (dss := []) (fun _ => .nil) ?_)
  | (with_reducible refine T_test ?_) | (with_reducible refine T_B ?_) | (with_reducible refine T_not ?_) | (with_reducible refine T_and ?_) | (with_reducible refine T_or ?_)
  | (refine E_var rfl ?_) | (refine R_I0 ?_) | (refine R_ixT rfl ?_) | (refine R_ixL rfl ?_) | (refine R_eqI ?_) | (refine R_eqS ?_) | (refine R_neS ?_) | (refine R_eq rfl ?_) | (refine R_ne rfl ?_) | (refine U_I ?_) | (refine R_I ?_ ?_)
  | (refine C_gcd ?_) | (refine C_abs ?_) | (refine C_int ?_) | (refine C_intB ?_)
  | ((with_reducible show ∃ (s s' : Slot), _ = [s, s'] ∧ _); refine ⟨_, _, rfl, ?_⟩)
  | (refine ⟨_, rfl, ?_⟩)
  | (refine spl (fun h => ?_) (fun h => ?_)) | (refine splN (fun h => ?_) (fun h => ?_)) | (refine splT ?_) | (refine splF ?_) | (refine spl2 (fun h => ?_) (fun h => ?_))
  | (refine len_ok ?_) | fail)

local macro_rules | `(tactic| walk_at "len") => `(tactic| first
  | (rintro ⟨_, e, _⟩; rw [e]; rfl) | (rintro ⟨_, _, e, _⟩; rw [e]; rfl) | (rintro ⟨_, _, _, e, _⟩; rw [e]; rfl) | (rintro ⟨_, _, _, _, e, _⟩; rw [e]; rfl) | (rintro ⟨_, _, _, _, _, e, _⟩; rw [e]; rfl) | (rintro ⟨_, _, _, _, _, _, e, _⟩; rw [e]; rfl))
local macro_rules | `(tactic| walk_at "side") => `(tactic| first
  | assumption | exact cmul (by assumption) (by assumption) | exact cmulD (by assumption) (by assumption) | exact cmulN (by assumption) (by assumption))
section
variable {P : Program} {w : World} {K : PySem.W.Frag} {mg : Str → Option Value} {base : Heap}
theorem inv_names (T : Tx K mg) : ∀ f ∈ invN, PySem.W.findIn K (.ref T.CInvalidNumber) f = some none := fun f hf => by
  rcases List.mem_cons.mp hf with rfl | hf
  · exact T.nInvalidNumber_value
  · rw [List.mem_singleton.mp hf]; exact T.nInvalidNumber_code
def F_limit (K : PySem.W.Frag) (C : Addr) : FS := fun ss Φ Ψ => ∃ s : Slot, ss = [s] ∧ ((∃ q : Rat, s = ratS K q ∧ 0 ≤ q ∧ q ≤ 1 ∧ Φ (vS .non)) ∨ (BadL K s ∧ Ψ (invX C s)))
theorem ok_check_limit (T : Tx K mg) : FnOk P w K mg base (L2.CX P w) 3 T.check_limit.f T.check_limit.fd p_check_limit (spOf (F_limit K T.CInvalidNumber)) := by
  refine okX T.check_limit.F sc_check_limit (by intro ss Φ Ψ h; revert h; walk_at "len") (fun cdv Ar outer s H Er hr => ⟨_, (pss_one (ps_if (pt_not (pt_val (pe_call (ok_is_share T) (hr.mono (by decide)) rfl T.is_share.g T.is_share.F.kp T.is_share.b .nil pass0 (pa_cons (pv 0) pa_nil))))
  (pss_one (ps_raise rfl (takes_of rfl rfl rfl rfl) (pmk_oex T.xInvalidNumber T.InvalidNumber_Dinit.s (beq_iff_eq.mp T.InvalidNumber_Dinit.i) (ok_InvalidNumber_Dinit T) (hr.mono (by decide)) T.InvalidNumber_Dinit.b .nil pass0 rfl T.gInvalidNumber (pa_cons (pv 0) pa_nil))))
  pss_nil)), fun ss Φ Ψ h => ?_⟩)
  obtain ⟨s, rfl, ⟨q, rfl, q0, q1, k⟩ | ⟨hb, k⟩⟩ := h
  · repeat' walk_at "ab"
    refine .inl ⟨q, rfl, q0, q1, ?_⟩
    repeat' walk_at "ab"
    exact k
  · repeat' walk_at "ab"
    refine .inr ⟨hb, ?_⟩
    repeat' walk_at "ab"
    exact S_raise T.xInvalidNumber (inv_names T) inv_pfl (A_cons (E_var rfl (A_nil ⟨rfl, by decide, k⟩)))
/-! ### the law's worths -/
def F_fit (K : PySem.W.Frag) : FS := fun ss Φ _ => ∃ t b : Int, ss = [vS (.int t), vS (.int b)] ∧ t.natAbs < 2 ^ 8000 ∧ b.natAbs < 2 ^ 8000 ∧ Φ (ratS K (Rat.divInt t b))
theorem fit_turn {x y : Int} (hy : 0 < y) : 0 ≤ x.fmod y ∧ x.fmod y < y := by
  rw [Int.fmod_eq_emod_of_nonneg x (by omega)]
  exact ⟨Int.emod_nonneg x (by omega), Int.emod_lt_of_pos x hy⟩
theorem cm1 {i t : Int} (hi : i.natAbs < 2 ^ 2) (ht : t.natAbs < 2 ^ 8000) : CMulW i t := wide_mul hi ht (by decide) (by decide) (by decide)
theorem cdG {b t z : Int} (hb : b.natAbs < 2 ^ 8000) (h0 : ¬ b = 0) : CDivNW z (b.gcd t : Int) := by
  have h1 := gcd_pos (t := t) h0
  have h2 := gcd_le (t := t) h0
  exact CDivNW.of (by omega) (b := 8000) (by omega) (by decide) (by decide)
theorem fdm {a g : Int} (hg : 0 < g) (hd : g ∣ a) : (-1 * a).fdiv g = a.fdiv (-g) := by
  rw [fdiv_neg' hg hd, RatM.fdiv_pos hg]
  congr 1
  omega
theorem ok_lfit (T : Tx K mg) : FnOk P w K mg base CX0 1 T.lfit.f T.lfit.fd p_lfit (spOf (F_fit K)) := by
  refine ok0 T.lfit.F sc_lfit (by intro ss Φ Ψ h; revert h; walk_at "len") (fun cdv Ar outer s H Er hr => ⟨_, (pss_cons (ps_if (pt_cmpR op_eq (pv 1) pe_int (nomark _))
  (pss_one (ps_ret (pe_tup (pa_cons pe_int (pa_cons pe_int pa_nil)))))
  pss_nil)
  (pss_cons (ps_par (i := 2) (j := 3) (by rfl) sc_lfit.nd rfl rfl (by decide) rfl rfl (pa_cons (pe_callB call_abs (by rfl) T.abs (by decide +kernel) (pa_cons (pv 0) pa_nil)) (pa_cons (pe_callB call_abs (by rfl) T.abs (by decide +kernel) (pa_cons (pv 1) pa_nil)) pa_nil)) (by rfl))
  (pss_cons (ps_while PassesOwn.never (pt_cmpR op_gt (pv 3) pe_int (nomark _))
  (pss_one (ps_par (i := 2) (j := 3) (by rfl) sc_lfit.nd rfl rfl (by decide) rfl rfl (pa_cons (pv 3) (pa_cons (pe_op op_modN (pe_callTy call_int1 (by rfl) T.int (by decide +kernel) (pa_cons (pv 2) pa_nil)) (pv 3)) pa_nil)) (by rfl))))
  (pss_cons (ps_set (i := 4) sc_lfit.nd rfl (by first | exact Or.inl rfl | exact Or.inr rfl) (pe_ifExp (pt_cmpR op_gt (pv 1) pe_int (nomark _)) pe_int (pe_un un_neg pe_int)))
  (pss_one (ps_ret (pe_tup (pa_cons (pe_op op_fdivNW (pe_op op_mulW (pv 4) (pv 0)) (pv 2)) (pa_cons (pe_op op_fdivNW (pe_op op_mulW (pv 4) (pv 1)) (pv 2)) pa_nil))))))))), fun ss Φ Ψ h => ?_⟩)
  obtain ⟨t, b, rfl, ht, hb, k⟩ := h
  repeat' first | walk_at "ab" | fail
  · rename_i h0; subst h0; rw [Rat.divInt_zero] at k; exact k
  · rename_i h0
    refine S_while (fun m Γ => ∃ x y : Int, 0 ≤ x ∧ 0 ≤ y ∧ Int.gcd x y = Int.gcd b t ∧ m = y.toNat ∧ Γ = [.pl (vS (.int t)), .pl (vS (.int b)), .pl (vS (.int x)), .pl (vS (.int y)), .no]) _ ⟨_, _, ?_, ?_, ?_, rfl, rfl⟩ ?_
    · split <;> omega
    · split <;> omega
    · rw [Int.gcd_comm b t]
      unfold Int.gcd
      congr 1 <;> (split <;> omega)
    · rintro m Γ ⟨x, y, hx, hy, hg, rfl, rfl⟩
      repeat' first | walk_at "ab" | fail
      · omega
      · rename_i hy0
        obtain ⟨h1, h2⟩ := fit_turn (x := x) hy0
        exact ⟨_, by omega, y, x.fmod y, hy, h1, by rw [gcd_step]; exact hg, rfl, rfl⟩
      all_goals
        have hy0 : y = 0 := by omega
        subst hy0
        have hxg : x = (b.gcd t : Int) := by
          rw [← hg, Int.gcd_zero_right]
          omega
        subst hxg
      · exact cm1 (by decide) ht
      · exact cdG hb (by assumption)
      · exact cm1 (by decide) hb
      · exact cdG hb (by assumption)
      · show Φ (tupS K _)
        rw [Int.one_mul, Int.one_mul, num_pos (by assumption), RatM.den_pos (by assumption)]
        exact k
      · exact cm1 (by decide) ht
      · exact cdG hb (by assumption)
      · exact cm1 (by decide) hb
      · exact cdG hb (by assumption)
      · have h4 : b < 0 := by omega
        show Φ (tupS K _)
        rw [fdm (gcd_pos h0) (Int.gcd_dvd_right _ _), fdm (gcd_pos h0) (Int.gcd_dvd_left _ _), num_neg h4, RatM.den_neg h4]
        exact k
theorem ok_ltimes (T : Tx K mg) : FnOk P w K mg base CX0 2 T.ltimes.f T.ltimes.fd p_ltimes (spOf (F2 K (· * ·))) := by
  refine ok0 T.ltimes.F sc_ltimes (by intro ss Φ Ψ h; revert h; walk_at "len") (fun cdv Ar outer s H Er hr => ⟨_, (pss_one (ps_ret (pe_call (ok_lfit T) (hr.mono (by decide)) rfl T.lfit.g T.lfit.F.kp T.lfit.b .nil pass0 (pa_cons (pe_op op_mulW (pe_ix ix_tup (pv 0) pe_int (fun _ _ => rfl)) (pe_ix ix_tup (pv 1) pe_int (fun _ _ => rfl))) (pa_cons (pe_op op_mulW (pe_ix ix_tup (pv 0) pe_int (fun _ _ => rfl)) (pe_ix ix_tup (pv 1) pe_int (fun _ _ => rfl))) pa_nil))))), fun ss Φ Ψ h => ?_⟩)
  obtain ⟨p, q, rfl, hp, hq, k⟩ := h
  repeat' first | walk_at "ab" | walk_at "side" | fail
  refine ⟨_, _, rfl, ?_, dd hp hq, ?_⟩
  · rw [Int.natAbs_mul]; exact le_max_pow (mul_lt hp.1 hq.1) (by decide)
  rw [mul_eq]
  exact k
theorem ok_lless (T : Tx K mg) : FnOk P w K mg base CX0 1 T.lless.f T.lless.fd p_lless (spOf (F_less K)) := by
  refine ok0 T.lless.F sc_lless (by intro ss Φ Ψ h; revert h; walk_at "len") (fun cdv Ar outer s H Er hr => ⟨_, (pss_one (ps_ret (pe_cmpR op_lt (pe_op op_mulW (pe_ix ix_tup (pv 0) pe_int (fun _ _ => rfl)) (pe_ix ix_tup (pv 1) pe_int (fun _ _ => rfl))) (pe_op op_mulW (pe_ix ix_tup (pv 1) pe_int (fun _ _ => rfl)) (pe_ix ix_tup (pv 0) pe_int (fun _ _ => rfl))) (nomark _)))), fun ss Φ Ψ h => ?_⟩)
  obtain ⟨p, q, rfl, hp, hq, k⟩ := h
  repeat' walk_at "ab"
  · exact cmul hp hq
  · exact cmul hq hp
  · have e : decide (p.num * (q.den : Int) < q.num * (p.den : Int)) = decide (p < q) := by simp only [lt_eq]
    show Φ (vS (V.bl (decide (p.num * (q.den : Int) < q.num * (p.den : Int)))))
    rw [e]
    exact k
/-! ### numbers of ways -/
def F_ways (K : PySem.W.Frag) : FS := fun ss Φ _ => ∃ a b : Nat, ss = [vS (.int a), vS (.int b)] ∧ a ≤ 40 ∧ b ≤ 40 ∧ Φ (vS (.int (Dr.C2 a b)))
theorem small40 {z : Int} (h : 0 ≤ z ∧ z < 2 ^ 40) : z.natAbs < 2 ^ 40 := by omega
theorem min_nat (a b : Nat) : (if (b : Int) < (a : Int) then (b : Int) else (a : Int)) = ((min a b : Nat) : Int) := by
  split <;> omega
theorem ok_lways_of (T : Tx K mg) : FnOk P w K mg base CX0 1 T.lways_of.f T.lways_of.fd p_lways_of (spOf (F_ways K)) := by
  refine ok0 T.lways_of.F sc_lways_of (by intro ss Φ Ψ h; revert h; walk_at "len") (fun cdv Ar outer s H Er hr => ⟨_, (pss_cons (ps_set (i := 2) sc_lways_of.nd rfl (by first | exact Or.inl rfl | exact Or.inr rfl) (pe_callTy call_int1 (by rfl) T.int (by decide +kernel) (pa_cons (pe_cmpR op_le (pv 1) (pv 0) (nomark _)) pa_nil)))
  (pss_cons (ps_for PassesOwn.never rfl (pi_range1 rfl T.range (pa_cons (pe_callB (call_min2 rfl) (by rfl) T.min (by decide +kernel) (pa_cons (pv 0) (pa_cons (pv 1) pa_nil))) pa_nil)) (pg_name (i := 3) sc_lways_of.nd rfl (by first | exact Or.inl rfl | exact Or.inr rfl))
  (pss_one (ps_set (i := 2) sc_lways_of.nd rfl (by first | exact Or.inl rfl | exact Or.inr rfl) (pe_op op_fdivNW (pe_op op_mulW (pv 2) (pe_op op_sub (pv 0) (pv 3))) (pe_op op_add (pv 3) pe_int)))))
  (pss_one (ps_ret (pv 2))))), fun ss Φ Ψ h => ?_⟩)
  obtain ⟨a, b, rfl, ha, hb, k⟩ := h
  refine S_mid (fun Γ => Γ = [.pl (vS (.int a)), .pl (vS (.int b)), .pl (vS (.int (Dr.waysTo a b 0))), .no]) ?_ ?_
  · repeat' first | walk_at "ab" | fail
    show _ = _
    have e : (if decide ((b : Int) ≤ (a : Int)) = true then (1 : Int) else 0) = Dr.waysTo a b 0 := by
      show _ = (if b ≤ a then (1 : Int) else 0)
      by_cases h : b ≤ a
      · simp [h]
      · simp [h]
    first | rw [← e]; rfl | rw [e]
  · rintro Γ rfl
    refine S_seq (S_forR (lo := 0) (n := min a b) [3] (fun i Γ => ∃ o, Γ = [.pl (vS (.int a)), .pl (vS (.int b)), .pl (vS (.int (Dr.waysTo a b i))), o]) ?_ ⟨_, rfl⟩ ?_ ?_)
    · have hr := rng1 (Γ := [.pl (vS (.int a)), .pl (vS (.int b)), .pl (vS (.int (Dr.waysTo a b 0))), .no]) (n := ((min a b : Nat) : Int)) (tr := tCons (tCB (fun xs H Q => ∃ i j, xs = [.int i, .int j] ∧ Q (.int (if j < i then j else i)) H) (tCons (tVar 0) (tCons (tVar 1) tNil))) tNil) (A_cons (E_cb (A_cons (E_var rfl (A_cons (E_var rfl (A_nil (C_min2 (A_nil ⟨by rw [min_nat], by omega, by omega⟩)))))))))
      exact hr
    · rintro i Γ hi ⟨o, rfl⟩
      have hs := Dr.ways_small ha hb (j := i) (Nat.le_of_lt hi)
      refine G_name (by decide) ?_
      repeat' first | walk_at "ab" | fail
      · exact wide_mul (a := 40) (b := 10) (small40 hs) (by omega) (by decide) (by decide) (by decide)
      · exact CDivNW.of (b := 64) (by omega) (by omega) (by decide) (by decide)
      · rw [Int.zero_add, ← Dr.waysTo_succ]
        exact ⟨_, rfl⟩
    · rintro Γ ⟨o, rfl⟩
      repeat' first | walk_at "ab" | fail
      rw [← Dr.ways_c2 ha hb] at k
      exact k
theorem c2_sz {a b : Nat} (ha : a ≤ 40) (hb : b ≤ 40) : (Dr.C2 a b).natAbs < 2 ^ 8000 := by
  have h := small40 (Dr.c2_size ⟨a, by omega⟩ ⟨b, by omega⟩)
  exact Nat.lt_of_lt_of_le h (Nat.pow_le_pow_right (by decide) (by decide))
/-- the part of all draws of s that meet none of m of n -/
def part (n m s : Nat) : Rat := Rat.divInt (Dr.C2 (n - m) s) (Dr.C2 n s)
theorem part_sz {n m s : Nat} (hn : n ≤ 40) (hs : s ≤ n) : Sz 40 40 (part n m s) :=
  sz_divInt (small40 (Dr.c2_size ⟨n - m, by omega⟩ ⟨s, by omega⟩)) (small40 (Dr.c2_size ⟨n, by omega⟩ ⟨s, by omega⟩)) (by decide)
theorem part_q {n m s : Nat} (hn : n ≤ 40) (hs : s ≤ n) : Bq (part n m s) := (part_sz hn hs).mono (by decide) (by decide)
theorem ok_lpart_of (T : Tx K mg) : FnOk P w K mg base CX0 2 T.lpart_of.f T.lpart_of.fd p_lpart_of (spOf ((fun ss Φ _ => ∃ n m s : Nat, ss = [vS (.int n), vS (.int m), vS (.int s)] ∧ n ≤ 40 ∧ m ≤ n ∧ s ≤ n ∧ Φ (ratS K (part n m s))))) := by
  refine ok0 T.lpart_of.F sc_lpart_of (by intro ss Φ Ψ h; revert h; walk_at "len") (fun cdv Ar outer s H Er hr => ⟨_, (pss_one (ps_ret (pe_call (ok_lfit T) (hr.mono (by decide)) rfl T.lfit.g T.lfit.F.kp T.lfit.b .nil pass0 (pa_cons (pe_call (ok_lways_of T) (hr.mono (by decide)) rfl T.lways_of.g T.lways_of.F.kp T.lways_of.b .nil pass0 (pa_cons (pe_op op_sub (pv 0) (pv 1)) (pa_cons (pv 2) pa_nil))) (pa_cons (pe_call (ok_lways_of T) (hr.mono (by decide)) rfl T.lways_of.g T.lways_of.F.kp T.lways_of.b .nil pass0 (pa_cons (pv 0) (pa_cons (pv 2) pa_nil))) pa_nil))))), fun ss Φ Ψ h => ?_⟩)
  obtain ⟨n, m, s', rfl, hn, hm, hs, k⟩ := h
  repeat' first | walk_at "ab" | fail
  refine ⟨n - m, s', by rw [Int.ofNat_sub hm]; rfl, by omega, by omega, ?_⟩
  repeat' first | walk_at "ab" | fail
  refine ⟨n, s', rfl, by omega, by omega, ?_⟩
  repeat' first | walk_at "ab" | fail
  exact ⟨_, _, rfl, c2_sz (by omega) (by omega), c2_sz hn (by omega), k⟩
/-! ### risk, least_draws -/
def F_risk (K : PySem.W.Frag) (C : Addr) : FS := fun ss Φ Ψ => ∃ s1 s2 s3 : Slot, ss = [s1, s2, s3] ∧ ((Bad K s1 40 ∧ Ψ (invX C s1)) ∨ ∃ n : Nat, s1 = vS (.int n) ∧ n ≤ 40 ∧ ((Bad K s2 n ∧ Ψ (invX C s2)) ∨ ∃ m : Nat, s2 = vS (.int m) ∧ m ≤ n ∧
  ((Bad K s3 n ∧ Ψ (invX C s3)) ∨ ∃ s : Nat, s3 = vS (.int s) ∧ s ≤ n ∧ Φ (ratS K (part n m s)))))
local macro_rules | `(tactic| walk_at "rs") => `(tactic| first | (refine S_dropX ?_) | (with_reducible refine S_seq ?_) | (with_reducible refine A_cons ?_) | (with_reducible refine A_nil ?_) | (refine E_var rfl ?_) | (with_reducible refine E_c ?_) | fail)
theorem ok_risk (T : Tx K mg) : FnOk P w K mg base (L2.CX P w) 4 T.risk.f T.risk.fd p_risk (spOf (F_risk K T.CInvalidNumber)) := by
  refine okX T.risk.F sc_risk (by intro ss Φ Ψ h; revert h; walk_at "len") (fun cdv Ar outer s H Er hr => ⟨_, (pss_cons (ps_expr (pe_call (ok_check_number T) (hr.mono (by decide)) rfl T.check_number.g T.check_number.F.kp T.check_number.b .nil (passes_call (takes_of rfl rfl rfl rfl) (fun _ _ _ _ h => h)) (pa_cons (pv 0) (pa_cons (pe_glob rfl T.gMOST_BALLOTS (rel_int 40)) pa_nil))))
  (pss_cons (ps_expr (pe_call (ok_check_number T) (hr.mono (by decide)) rfl T.check_number.g T.check_number.F.kp T.check_number.b .nil (passes_call (takes_of rfl rfl rfl rfl) (fun _ _ _ _ h => h)) (pa_cons (pv 1) (pa_cons (pv 0) pa_nil))))
  (pss_cons (ps_expr (pe_call (ok_check_number T) (hr.mono (by decide)) rfl T.check_number.g T.check_number.F.kp T.check_number.b .nil (passes_call (takes_of rfl rfl rfl rfl) (fun _ _ _ _ h => h)) (pa_cons (pv 2) (pa_cons (pv 0) pa_nil))))
  (pss_one (ps_ret (pe_call (ok_worth T) (hr.mono (by decide)) rfl T.gworth T.kworth T.bworth .nil pass0 (pa_cons (pe_callBfun cr_comb (by rfl) T.comb (pa_cons (pe_op op_sub (pv 0) (pv 1)) (pa_cons (pv 2) pa_nil))) (pa_cons (pe_callBfun cr_comb (by rfl) T.comb (pa_cons (pv 0) (pa_cons (pv 2) pa_nil))) pa_nil)))))))), fun ss Φ Ψ h => ?_⟩)
  obtain ⟨s1, s2, s3, rfl, ⟨hb, k⟩ | ⟨n, rfl, hn, ⟨hb, k⟩ | ⟨m, rfl, hm, ⟨hb, k⟩ | ⟨s', rfl, hs, k⟩⟩⟩⟩ := h
  · repeat' walk_at "rs"
    exact ⟨_, _, rfl, .inr ⟨hb, k⟩⟩
  · repeat' walk_at "rs"
    refine ⟨_, _, rfl, .inl ⟨n, rfl, by omega, by omega, ?_⟩⟩
    repeat' walk_at "rs"
    exact ⟨_, _, rfl, .inr ⟨hb, k⟩⟩
  · repeat' walk_at "rs"
    refine ⟨_, _, rfl, .inl ⟨n, rfl, by omega, by omega, ?_⟩⟩
    repeat' walk_at "rs"
    refine ⟨_, _, rfl, .inl ⟨m, rfl, by omega, by omega, ?_⟩⟩
    repeat' walk_at "rs"
    exact ⟨_, _, rfl, .inr ⟨hb, k⟩⟩
  · repeat' walk_at "rs"
    refine ⟨_, _, rfl, .inl ⟨n, rfl, by omega, by omega, ?_⟩⟩
    repeat' walk_at "rs"
    refine ⟨_, _, rfl, .inl ⟨m, rfl, by omega, by omega, ?_⟩⟩
    repeat' walk_at "rs"
    refine ⟨_, _, rfl, .inl ⟨s', rfl, by omega, by omega, ?_⟩⟩
    repeat' first | (refine C_comb ?_ ?_ ?_ ?_) | walk_at "ab" | fail
    all_goals first | (refine ⟨_, _, rfl, c2_sz hn (by omega), ?_⟩; rw [← Int.ofNat_sub hm]; exact k) | omega
end
end K83

/-! K83D -/
namespace K83
open PySem PySem.Spec PyProof.Rows L2 Ab RatM AbM

local macro_rules | `(tactic| walk_at "ab") => `(tactic| first
  | (with_reducible refine S_seq ?_) | (with_reducible refine S_ret ?_) | (with_reducible refine S_asg ?_) | (with_reducible refine S_if ?_) | (with_reducible refine S_next ?_) | (with_reducible refine S_par ?_) | (with_reducible refine S_drop ?_) | (with_reducible refine S_retN ?_)
  | (with_reducible refine E_c ?_) | (with_reducible refine E_op ?_) | (with_reducible refine E_un ?_) | (with_reducible refine E_tup (K := ‹PySem.W.Frag›) ?_) | (with_reducible refine E_lst ?_) | (with_reducible refine E_cb ?_) | (with_reducible refine E_if ?_)
  | (with_reducible refine E_fld ?_) | (with_reducible refine E_not ?_) | (with_reducible refine E_and ?_) | (with_reducible refine E_or ?_) | (with_reducible refine E_meth ?_) | (with_reducible refine E_make ?_)
  | (with_reducible refine A_cons ?_) | (with_reducible refine A_nil ?_) | (with_reducible refine E_call (dss := []) (fun _ => .nil) ?_)
  | (with_reducible refine T_test ?_) | (with_reducible refine T_B ?_) | (with_reducible refine T_not ?_) | (with_reducible refine T_and ?_) | (with_reducible refine T_or ?_)
  | (refine E_var rfl ?_) | (refine R_I0 ?_) | (refine R_ixT rfl ?_) | (refine R_ixL rfl ?_) | (refine R_eqI ?_) | (refine R_eqS ?_) | (refine R_neS ?_) | (refine R_eq rfl ?_) | (refine R_ne rfl ?_) | (refine U_I ?_) | (refine R_I ?_ ?_)
  | (refine C_gcd ?_) | (refine C_abs ?_) | (refine C_int ?_) | (refine C_intB ?_)
  | ((with_reducible show ∃ (s s' : Slot), _ = [s, s'] ∧ _); refine ⟨_, _, rfl, ?_⟩)
  | (refine ⟨_, rfl, ?_⟩)
  | (refine spl (fun h => ?_) (fun h => ?_)) | (refine splN (fun h => ?_) (fun h => ?_)) | (refine splT ?_) | (refine splF ?_) | (refine spl2 (fun h => ?_) (fun h => ?_))
  | (refine len_ok ?_) | fail)

local macro_rules | `(tactic| walk_at "len") => `(tactic| first
  | (rintro ⟨_, e, _⟩; rw [e]; rfl) | (rintro ⟨_, _, e, _⟩; rw [e]; rfl) | (rintro ⟨_, _, _, e, _⟩; rw [e]; rfl) | (rintro ⟨_, _, _, _, e, _⟩; rw [e]; rfl) | (rintro ⟨_, _, _, _, _, e, _⟩; rw [e]; rfl) | (rintro ⟨_, _, _, _, _, _, e, _⟩; rw [e]; rfl))
local macro_rules | `(tactic| walk_at "rs") => `(tactic| first | (refine S_dropX ?_) | (with_reducible refine S_seq ?_) | (with_reducible refine A_cons ?_) | (with_reducible refine A_nil ?_) | (refine E_var rfl ?_) | (with_reducible refine E_c ?_) | fail)
section
variable {P : Program} {w : World} {K : PySem.W.Frag} {mg : Str → Option Value} {base : Heap}
/-! ### least_draws -/
def leastF (n m : Nat) (q : Rat) : Option Nat := (List.range (n + 1)).find? fun k => decide (¬ q < part n m k)
def optS : Option Nat → Slot
  | some k => vS (.int k)
  | none => vS .non
def F_least (K : PySem.W.Frag) (C : Addr) : FS := fun ss Φ Ψ => ∃ s1 s2 s3 : Slot, ss = [s1, s2, s3] ∧ ((Bad K s1 40 ∧ Ψ (invX C s1)) ∨ ∃ n : Nat, s1 = vS (.int n) ∧ n ≤ 40 ∧ ((Bad K s2 n ∧ Ψ (invX C s2)) ∨ ∃ m : Nat, s2 = vS (.int m) ∧ m ≤ n ∧
  ((BadL K s3 ∧ Ψ (invX C s3)) ∨ ∃ q : Rat, s3 = ratS K q ∧ 0 ≤ q ∧ q ≤ 1 ∧ Bq q ∧ Φ (optS (leastF n m q)))))
theorem ok_least_draws (T : Tx K mg) : FnOk P w K mg base (L2.CX P w) 5 T.least_draws.f T.least_draws.fd p_least_draws (spOf (F_least K T.CInvalidNumber)) := by
  refine okX T.least_draws.F sc_least_draws (by intro ss Φ Ψ h; revert h; walk_at "len") (fun cdv Ar outer s H Er hr => ⟨_, (pss_cons (ps_expr (pe_call (ok_check_number T) (hr.mono (by decide)) rfl T.check_number.g T.check_number.F.kp T.check_number.b .nil (passes_call (takes_of rfl rfl rfl rfl) (fun _ _ _ _ h => h)) (pa_cons (pv 0) (pa_cons (pe_glob rfl T.gMOST_BALLOTS (rel_int 40)) pa_nil))))
  (pss_cons (ps_expr (pe_call (ok_check_number T) (hr.mono (by decide)) rfl T.check_number.g T.check_number.F.kp T.check_number.b .nil (passes_call (takes_of rfl rfl rfl rfl) (fun _ _ _ _ h => h)) (pa_cons (pv 1) (pa_cons (pv 0) pa_nil))))
  (pss_cons (ps_expr (pe_call (ok_check_limit T) (hr.mono (by decide)) rfl T.check_limit.g T.check_limit.F.kp T.check_limit.b .nil (passes_call (takes_of rfl rfl rfl rfl) (fun _ _ _ _ h => h)) (pa_cons (pv 2) pa_nil)))
  (pss_cons (ps_for (passes_of rfl) rfl (pi_range1 rfl T.range (pa_cons (pe_op op_add (pv 0) pe_int) pa_nil)) (pg_name (i := 3) sc_least_draws.nd rfl (by first | exact Or.inl rfl | exact Or.inr rfl))
  (pss_one (ps_if (pt_not (pt_val (pe_call (ok_is_less T) (hr.mono (by decide)) rfl T.is_less.g T.is_less.F.kp T.is_less.b .nil pass0 (pa_cons (pv 2) (pa_cons (pe_call (ok_risk T) (hr.mono (by decide)) rfl T.risk.g T.risk.F.kp T.risk.b .nil (passes_call (takes_of rfl rfl rfl rfl) (fun _ _ _ _ h => h)) (pa_cons (pv 0) (pa_cons (pv 1) (pa_cons (pv 3) pa_nil)))) pa_nil)))))
  (pss_one (ps_ret (pv 3)))
  pss_nil)))
  (pss_one (ps_ret pe_non)))))), fun ss Φ Ψ h => ?_⟩)
  obtain ⟨s1, s2, s3, rfl, ⟨hb, k⟩ | ⟨n, rfl, hn, ⟨hb, k⟩ | ⟨m, rfl, hm, ⟨hb, k⟩ | ⟨q, rfl, q0, q1, hq, k⟩⟩⟩⟩ := h
  · repeat' walk_at "rs"
    exact ⟨_, _, rfl, .inr ⟨hb, k⟩⟩
  · repeat' walk_at "rs"
    refine ⟨_, _, rfl, .inl ⟨n, rfl, by omega, by omega, ?_⟩⟩
    repeat' walk_at "rs"
    exact ⟨_, _, rfl, .inr ⟨hb, k⟩⟩
  · repeat' walk_at "rs"
    refine ⟨_, _, rfl, .inl ⟨n, rfl, by omega, by omega, ?_⟩⟩
    repeat' walk_at "rs"
    refine ⟨_, _, rfl, .inl ⟨m, rfl, by omega, by omega, ?_⟩⟩
    repeat' walk_at "rs"
    exact ⟨_, rfl, .inr ⟨hb, k⟩⟩
  · repeat' walk_at "rs"
    refine ⟨_, _, rfl, .inl ⟨n, rfl, by omega, by omega, ?_⟩⟩
    repeat' walk_at "rs"
    refine ⟨_, _, rfl, .inl ⟨m, rfl, by omega, by omega, ?_⟩⟩
    repeat' walk_at "rs"
    refine ⟨_, rfl, .inl ⟨q, rfl, q0, q1, ?_⟩⟩
    refine S_seq (S_forR (lo := 0) (n := n + 1) [3] (fun i Γ => (∀ k < i, q < part n m k) ∧ ∃ o, Γ = [.pl (vS (.int n)), .pl (vS (.int m)), .pl (ratS K q), o]) ?_ ⟨fun k hk => absurd hk (by omega), _, rfl⟩ ?_ ?_)
    · have hr := rng1 (Γ := [.pl (vS (.int n)), .pl (vS (.int m)), .pl (ratS K q), .no]) (n := (n : Int) + 1) (tr := tCons (tOp (rI0 fun i j => .int (i + j)) (tVar 0) (tC (.int 1))) tNil) (A_cons (E_op (E_var rfl (E_c (R_I0 (A_nil ⟨rfl, by omega, by omega⟩))))))
      exact hr
    · rintro i Γ hi ⟨hbelow, o, rfl⟩
      refine G_name (by decide) ?_
      rw [Int.zero_add]
      repeat' walk_at "ab"
      refine ⟨_, _, _, rfl, .inr ⟨n, rfl, hn, .inr ⟨m, rfl, hm, .inr ⟨i, rfl, by omega, ?_⟩⟩⟩⟩
      repeat' walk_at "ab"
      refine ⟨_, _, rfl, hq, part_q hn (by omega), ?_⟩
      repeat' walk_at "ab"
      · rename_i h
        have e : leastF n m q = some i := by
          unfold leastF
          rw [List.find?_range_eq_some]
          exact ⟨by simpa using h, List.mem_range.mpr hi, fun j hj => by simpa using hbelow j hj⟩
        rw [e] at k
        exact k
      · rename_i h
        refine ⟨fun k hk => ?_, _, rfl⟩
        by_cases e : k = i
        · subst e; exact h
        · exact hbelow k (by omega)
    · rintro Γ ⟨hbelow, o, rfl⟩
      repeat' walk_at "ab"
      have e : leastF n m q = none := by
        unfold leastF
        rw [List.find?_range_eq_none]
        intro j hj
        simpa using hbelow j hj
      rw [e] at k
      exact k
/-! ### draws -/
def rowS (K : PySem.W.Frag) (r : List Int) : Slot := tupS K (r.map fun x => vS (.int x))
def eS (e : List Nat) : List Slot := (Dr.rw_ 0 e).map fun x => vS (.int x)
def F_draws (K : PySem.W.Frag) (CI CM : Addr) : FN := fun ss Φy Φ Ψ => ∃ s1 s2 : Slot, ss = [s1, s2] ∧ ((Bad K s1 40 ∧ Ψ (invX CI s1)) ∨ ∃ n : Nat, s1 = vS (.int n) ∧ n ≤ 40 ∧ ((Bad K s2 n ∧ Ψ (invX CI s2)) ∨ ∃ s : Nat, s2 = vS (.int s) ∧ s ≤ n ∧
  ((20000 < Dr.C2 n s ∧ Ψ ⟨CM, tmS [vS (.str "draws"), vS (.int 20000)]⟩) ∨ (Dr.C2 n s ≤ 20000 ∧ (∀ i r, (Dr.rows n s)[i]? = some r → Φy (((Dr.rows n s).take i).map (rowS K)) (rowS K r)) ∧ Φ ((Dr.rows n s).map (rowS K))))))
theorem eS_len (e : List Nat) : (eS e).length = e.length := by unfold eS; rw [List.length_map, Dr.rw_len]
theorem eS_get {e : List Nat} {i x : Nat} (h : e[i]? = some x) : (eS e)[i]? = some (vS (.int ((x + i : Nat) : Int))) := by
  unfold eS
  rw [List.getElem?_map, Dr.rw_get, h]
  simp
theorem eS_set (e : List Nat) (i x : Nat) : (eS e).set i (vS (.int ((x + i : Nat) : Int))) = eS (e.set i x) := by
  unfold eS
  rw [← Dr.rw_set 0 e i x, List.map_set, Nat.zero_add]
theorem eS_range (s : Nat) : rgS 0 (s : Int) = eS (List.replicate s 0) := by
  unfold rgS eS
  rw [Dr.rw_range]
  unfold rgV
  rw [List.map_map, List.map_map]
  simp only [Int.sub_zero, Int.toNat_natCast]
  congr 1
  funext i
  simp
theorem ixN_nat {n i : Nat} (h : i < n) : ixN n (i : Int) = some i := by
  unfold ixN
  rw [if_pos (by omega), if_pos (by omega)]
  rfl
def dΓ (n s : Nat) (p : Addr) (e : List Nat) (b : Bool) (o4 o5 : Bd) : List Bd := [.pl (vS (.int n)), .pl (vS (.int s)), .own p (eS e), .pl (vS (.bl b)), o4, o5]
/-- what stands behind the yield -/
def tStep (K : PySem.W.Frag) : TS :=
  tSeq (tAsg (tOp (rI0 fun i j => .int (i - j)) (tVar 1) (tC (.int 1))) (gName 4))
  (tSeq (tWhile (tAnd (tTest (tOp (rI0 fun i j => .bl (decide (i ≥ j))) (tVar 4) (tC (.int 0)))) (tTest (tOp rEq (tOp (rIxL K) (tVar 2) (tVar 4)) (tOp (rI0 fun i j => .int (i + j)) (tOp (rI0 fun i j => .int (i - j)) (tVar 0) (tVar 1)) (tVar 4))))) (tAug 4 (tC (.int 1)) (ipI fun i j => i - j)))
  (tSeq (tAsg (tOp (rI0 fun i j => .bl (decide (i ≥ j))) (tVar 4) (tC (.int 0))) (gName 3))
  (tIfS (tB (tVar 3)) (tSeq (tAugS (tVar 2) (tVar 4) (tC (.int 1)) (rIxL K) (ipI fun i j => i + j) rSetL)
    (tFor (iRng2 (tCons (tOp (rI0 fun i j => .int (i + j)) (tVar 4) (tC (.int 1))) (tCons (tVar 1) tNil))) (gName 5) (tAsg (tOp (rI0 fun i j => .int (i + j)) (tOp (rIxL K) (tVar 2) (tOp (rI0 fun i j => .int (i - j)) (tVar 5) (tC (.int 1)))) (tC (.int 1))) (gSub (tVar 2) (tVar 5) rSetL)))) tNext)))
theorem step_ok {n s : Nat} (hn : n ≤ 40) (hs : s ≤ n) {p : Addr} {e : List Nat} (hl : e.length = s) (o4 o5 : Bd) (Φ : Ks)
    (c : (∃ e', Dr.Nx (n - s) e e' ∧ ∀ o4 o5, Φ.nx (dΓ n s p e' true o4 o5)) ∨ (e = List.replicate s (n - s) ∧ ∀ o4 o5, Φ.nx (dΓ n s p e false o4 o5))) : S (tStep K) (dΓ n s p e true o4 o5) Φ := by
  refine S_mid (fun Γ => Γ = dΓ n s p e true (.pl (vS (.int ((s : Int) - 1)))) o5) ?_ ?_
  · repeat' first | walk_at "ab" | fail
    rfl
  rintro Γ rfl
  refine S_mid (fun Γ => ∃ k : Nat, k ≤ s ∧ (∀ j, k ≤ j → j < s → e[j]? = some (n - s)) ∧ (k = 0 ∨ ∃ x, e[k - 1]? = some x ∧ x ≠ n - s) ∧ Γ = dΓ n s p e true (.pl (vS (.int ((k : Int) - 1)))) o5) ?_ ?_
  · refine S_while (fun m Γ => m ≤ s ∧ (∀ j, m ≤ j → j < s → e[j]? = some (n - s)) ∧ Γ = dΓ n s p e true (.pl (vS (.int ((m : Int) - 1)))) o5) s ⟨Nat.le_refl _, fun j h1 h2 => absurd h1 (by omega), rfl⟩ ?_
    rintro m Γ ⟨hm, hall, rfl⟩
    have hget : ∀ (h : 0 < m), ∃ x, e[m - 1]? = some x := fun h => ⟨e[m - 1], List.getElem?_eq_getElem (by omega)⟩
    refine T_and (T_test (E_op (E_var rfl (E_c (R_I0 ⟨_, rfl, fun h => ?_, fun h => ?_⟩)))))
    · have h0 : 0 < m := by
        have h : decide ((m : Int) - 1 ≥ 0) = true := h
        have := of_decide_eq_true h
        omega
      obtain ⟨x, hx⟩ := hget h0
      have em : (m : Int) - 1 = ((m - 1 : Nat) : Int) := by omega
      have hat : L2.atI (eS e) ((m : Int) - 1) = some (vS (.int ((x + (m - 1) : Nat) : Int))) := by
        rw [em]
        unfold L2.atI
        rw [ixN_nat (by rw [eS_len]; omega)]
        exact eS_get hx
      refine T_test (E_op (E_ixOwn rfl (E_var rfl ⟨_, _, _, rfl, hat, fun _ _ h => h, E_op (E_op (E_var rfl (E_var rfl (R_I0 (E_var rfl (R_I0 ?_))))))⟩)))
      refine R_eqI ⟨_, rfl, fun h2 => ?_, fun h2 => ?_⟩
      · have h2 := of_decide_eq_true h2
        refine S_aug rfl (E_c ⟨1, rfl, m - 1, by omega, by omega, fun j h3 h4 => ?_, ?_⟩)
        · by_cases hj : j = m - 1
          · subst hj
            rw [hx]
            congr 1
            omega
          · exact hall j (by omega) h4
        · show List.set _ _ _ = _
          rw [← em]
          rfl
      · have h2 := of_decide_eq_false h2
        exact ⟨m, hm, hall, .inr ⟨x, hx, by omega⟩, rfl⟩
    · have h0 : m = 0 := by
        have h : decide ((m : Int) - 1 ≥ 0) = false := h
        have := of_decide_eq_false h
        omega
      subst h0
      exact ⟨(fun h => nomatch h), fun _ => ⟨0, Nat.zero_le _, hall, .inl rfl, rfl⟩⟩
  rintro Γ ⟨k, hk, hall, hend, rfl⟩
  rcases c with ⟨e', ⟨pre, v, t, rfl, hv, rfl⟩, hnx⟩ | ⟨rfl, hnx⟩
  · -- the place is the one behind pre
    have hlen : pre.length + (t + 1) = s := by simpa using hl
    have hkp : k = pre.length + 1 := by
      have hat : (pre ++ v :: List.replicate t (n - s))[pre.length]? = some v := by
        rw [List.getElem?_append_right (Nat.le_refl _), Nat.sub_self]; rfl
      by_cases h1 : k ≤ pre.length
      · have := hall pre.length h1 (by omega)
        rw [hat] at this
        have := Option.some.inj this
        omega
      · by_cases h2 : k = pre.length + 1
        · exact h2
        · rcases hend with h3 | ⟨x, hx, hne⟩
          · omega
          · rw [List.getElem?_append_right (by omega), show k - 1 - pre.length = (k - 2 - pre.length) + 1 by omega, List.getElem?_cons_succ, List.getElem?_replicate] at hx
            split at hx
            · cases hx; exact absurd rfl hne
            · cases hx
    subst hkp
    refine S_mid (fun Γ => Γ = dΓ n s p (pre ++ v :: List.replicate t (n - s)) true (.pl (vS (.int (pre.length : Int)))) o5) ?_ ?_
    · repeat' first | walk_at "ab" | fail
      show List.set _ _ _ = _
      have e1 : decide (((pre.length + 1 : Nat) : Int) - 1 ≥ 0) = true := decide_eq_true (by omega)
      rw [e1, show (((pre.length + 1 : Nat) : Int) - 1) = (pre.length : Int) by omega]
      rfl
    rintro Γ rfl
    refine S_if (T_B (E_var rfl ⟨true, rfl, fun _ => ?_, (fun h => nomatch h)⟩))
    have hget : (eS (pre ++ v :: List.replicate t (n - s)))[pre.length]? = some (vS (.int ((v + pre.length : Nat) : Int))) := eS_get (by
      rw [List.getElem?_append_right (Nat.le_refl _), Nat.sub_self]; rfl)
    refine S_seq (S_augOwn rfl (E_var rfl ⟨_, pre.length, _, rfl, ixN_nat (by rw [eS_len, hl]; omega), hget, E_c ⟨1, rfl, ?_⟩⟩))
    have eset : (eS (pre ++ v :: List.replicate t (n - s))).set pre.length (vS (.int (((v + pre.length : Nat) : Int) + 1))) = eS (pre ++ List.replicate 1 (v + 1) ++ List.replicate t (n - s)) := by
      rw [show (((v + pre.length : Nat) : Int) + 1) = (((v + 1) + pre.length : Nat) : Int) by omega, eS_set]
      congr 1
      rw [List.set_append_right _ _ (Nat.le_refl _), Nat.sub_self]
      simp
    show S _ (List.set (dΓ n s p _ true _ _) 2 _) Φ
    rw [eset]
    refine S_forR (lo := (pre.length : Int) + 1) (n := t) [5] (fun i Γ => i ≤ t ∧ ∃ o5, Γ = dΓ n s p (pre ++ List.replicate (i + 1) (v + 1) ++ List.replicate (t - i) (n - s)) true (.pl (vS (.int (pre.length : Int)))) o5) ?_ ⟨Nat.zero_le _, o5, rfl⟩ ?_ ?_
    · have hr := rng2 (Γ := dΓ n s p (pre ++ List.replicate 1 (v + 1) ++ List.replicate t (n - s)) true (.pl (vS (.int (pre.length : Int)))) o5) (lo := (pre.length : Int) + 1) (hi := (s : Int))
        (tr := tCons (tOp (rI0 fun i j => .int (i + j)) (tVar 4) (tC (.int 1))) (tCons (tVar 1) tNil)) (A_cons (E_op (E_var rfl (E_c (R_I0 (A_cons (E_var rfl (A_nil ⟨rfl, by omega, by omega, by omega, by omega⟩))))))))
      rw [show ((s : Int) - ((pre.length : Int) + 1)).toNat = t by omega] at hr
      exact hr
    · rintro i Γ hi ⟨_, o5, rfl⟩
      refine G_name (by decide) ?_
      have g1 : (eS (pre ++ List.replicate (i + 1) (v + 1) ++ List.replicate (t - i) (n - s)))[pre.length + i]? = some (vS (.int ((v + 1 + (pre.length + i) : Nat) : Int))) := eS_get (by
        rw [List.getElem?_append_left (by simp), List.getElem?_append_right (by omega), List.getElem?_replicate, if_pos (by omega)])
      have hlen2 : (eS (pre ++ List.replicate (i + 1) (v + 1) ++ List.replicate (t - i) (n - s))).length = s := by
        rw [eS_len]; simp; omega
      have hat : L2.atI (eS (pre ++ List.replicate (i + 1) (v + 1) ++ List.replicate (t - i) (n - s))) ((pre.length : Int) + 1 + (i : Int) - 1) = some (vS (.int ((v + 1 + (pre.length + i) : Nat) : Int))) := by
        rw [show ((pre.length : Int) + 1 + (i : Int) - 1) = ((pre.length + i : Nat) : Int) by omega]
        unfold L2.atI
        rw [ixN_nat (by rw [hlen2]; omega)]
        exact g1
      refine S_setOwn rfl (E_op (E_ixOwn rfl (E_op (E_var rfl (E_c (R_I0 ⟨_, _, _, rfl, hat, fun _ _ h => h, E_c (R_I0 (E_var rfl ⟨_, pre.length + 1 + i, rfl, ?_, by omega, .pl (vS (.int ((pre.length : Int) + 1 + (i : Int)))), ?_⟩))⟩))))))
      · rw [show ((pre.length : Int) + 1 + (i : Int)) = ((pre.length + 1 + i : Nat) : Int) by omega]
        exact ixN_nat (by rw [hlen2]; omega)
      · have e2 : (eS (pre ++ List.replicate (i + 1) (v + 1) ++ List.replicate (t - i) (n - s))).set (pre.length + 1 + i) (vS (.int (((v + 1 + (pre.length + i) : Nat) : Int) + 1))) = eS (pre ++ List.replicate (i + 1 + 1) (v + 1) ++ List.replicate (t - (i + 1)) (n - s)) := by
          rw [show (((v + 1 + (pre.length + i) : Nat) : Int) + 1) = (((v + 1) + (pre.length + 1 + i) : Nat) : Int) by omega, eS_set]
          congr 1
          rw [List.set_append_right _ _ (by simp; omega)]
          rw [show pre.length + 1 + i - (pre ++ List.replicate (i + 1) (v + 1)).length = 0 by simp; omega]
          rw [show t - i = (t - (i + 1)) + 1 by omega, List.replicate_succ (n := t - (i + 1)), List.set_cons_zero, List.replicate_succ' (n := i + 1)]
          simp
        show List.set (List.set _ _ _) 2 _ = _
        rw [e2]
        rfl
    · rintro Γ ⟨_, o5, rfl⟩
      rw [Nat.sub_self]
      have := hnx (.pl (vS (.int (pre.length : Int)))) o5
      simpa using this
  · have hk0 : k = 0 := by
      rcases hend with h | ⟨x, hx, hne⟩
      · exact h
      · rw [List.getElem?_replicate] at hx
        split at hx
        · cases hx; exact absurd rfl hne
        · cases hx
    subst hk0
    repeat' first | walk_at "ab" | fail
    · rename_i h; revert h; simp
    · exact hnx _ _
theorem ok_draws (T : Tx K mg) : NFn P w K mg base 4 T.draws.f T.draws.fd p_draws (spN (F_draws K T.CInvalidNumber T.CTooMany)) := by
  refine okN T.draws.F sc_draws (fun ss Φy Φ Ψ h => ?_) (fun cdv Ar outer s H Er pn hr => ⟨_, (nss_cons (ns_ps (ps_expr (pe_call (ok_check_number T) (hr.mono (by decide)) rfl T.check_number.g T.check_number.F.kp T.check_number.b .nil (passes_call takes_gcx (fun _ _ _ _ h => h)) (pa_cons (pv 0) (pa_cons (pe_glob rfl T.gMOST_BALLOTS (rel_int 40)) pa_nil)))))
  (nss_cons (ns_ps (ps_expr (pe_call (ok_check_number T) (hr.mono (by decide)) rfl T.check_number.g T.check_number.F.kp T.check_number.b .nil (passes_call takes_gcx (fun _ _ _ _ h => h)) (pa_cons (pv 1) (pa_cons (pv 0) pa_nil)))))
  (nss_cons (ns_ps (ps_if (pt_cmpR op_gt (pe_callBfun cr_comb (by rfl) T.comb (pa_cons (pv 0) (pa_cons (pv 1) pa_nil))) (pe_glob rfl T.gMOST_DRAWS (rel_int 20000)) (nomark _))
  (pss_one (ps_raise rfl takes_gcx (pmk_oex T.xTooMany T.TooMany_Dinit.s (beq_iff_eq.mp T.TooMany_Dinit.i) (ok_TooMany_Dinit T) (hr.mono (by decide)) T.TooMany_Dinit.b .nil pass0 rfl T.gTooMany (pa_cons pe_str (pa_cons (pe_glob rfl T.gMOST_DRAWS (rel_int 20000)) pa_nil)))))
  pss_nil))
  (nss_cons (ns_ps (ps_set (i := 2) sc_draws.nd rfl (by first | exact Or.inl rfl | exact Or.inr rfl) (pe_listRg rfl rfl T.list (prg_1 rfl T.range (pv 1)))))
  (nss_cons (ns_ps (ps_set (i := 3) sc_draws.nd rfl (by first | exact Or.inl rfl | exact Or.inr rfl) pe_bl))
  (nss_cons (ns_while owns_gcx (pt_val (pv 3))
  (nss_cons (ns_yield (pe_callTy call_tuple_of (by rfl) T.tuple (by decide +kernel) (pa_cons (pv 2) pa_nil)))
  (nss_pss (pss_cons (ps_set (i := 4) sc_draws.nd rfl (by first | exact Or.inl rfl | exact Or.inr rfl) (pe_op op_sub (pv 1) pe_int))
  (pss_cons (ps_while owns_gcx (PW.pt (pw_and (pt_cmpR op_ge (pv 4) pe_int (nomark _)) (pw_and1 (pt_cmpR op_eq (pe_ix ix_list (pv 2) (pv 4) (fun _ _ => rfl)) (pe_op op_add (pe_op op_sub (pv 0) (pv 1)) (pv 4)) (nomark _)))))
  (pss_one (ps_aug (i := 4) sc_draws.nd rfl (.inl rfl) pe_int ip_sub)))
  (pss_cons (ps_set (i := 3) sc_draws.nd rfl (by first | exact Or.inl rfl | exact Or.inr rfl) (pe_cmpR op_ge (pv 4) pe_int (nomark _)))
  (pss_one (ps_if (pt_val (pv 3))
  (pss_cons (ps_augS (pv 2) (pv 4) get_list pe_int ip_add set_list)
  (pss_one (ps_for owns_gcx rfl (pi_range2 rfl T.range (pa_cons (pe_op op_add (pv 4) pe_int) (pa_cons (pv 1) pa_nil))) (pg_name (i := 5) sc_draws.nd rfl (by first | exact Or.inl rfl | exact Or.inr rfl))
  (pss_one (ps_asg (pe_op op_add (pe_ix ix_list (pv 2) (pe_op op_sub (pv 5) pe_int) (fun _ _ => rfl)) pe_int) (pg_sub (pv 2) (pv 5) set_list))))))
  pss_nil))))))))
  nss_nil)))))), fun ss Φy Φ Ψ h => ?_⟩)
  · obtain ⟨_, _, e, _⟩ := h; rw [e]; rfl
  · have tmn : ∀ f ∈ tmN, PySem.W.findIn K (.ref T.CTooMany) f = some none := fun f hf => by
      rcases List.mem_cons.mp hf with rfl | hf
      · exact T.nTooMany_what
      · rcases List.mem_cons.mp hf with rfl | hf
        · exact T.nTooMany_most
        · rw [List.mem_singleton.mp hf]; exact T.nTooMany_code
    obtain ⟨s1, s2, rfl, ⟨hb, k⟩ | ⟨n, rfl, hn, ⟨hb, k⟩ | ⟨s', rfl, hs, h⟩⟩⟩ := h
    · refine Y_then (Y_plain ?_)
      repeat' walk_at "rs"
      exact ⟨_, _, rfl, .inr ⟨hb, k⟩⟩
    · refine Y_then (Y_plain ?_)
      repeat' walk_at "rs"
      refine ⟨_, _, rfl, .inl ⟨n, rfl, by omega, by omega, ?_⟩⟩
      refine Y_then (Y_plain ?_)
      repeat' walk_at "rs"
      exact ⟨_, _, rfl, .inr ⟨hb, k⟩⟩
    refine Y_then (Y_plain ?_)
    repeat' walk_at "rs"
    refine ⟨_, _, rfl, .inl ⟨n, rfl, by omega, by omega, ?_⟩⟩
    refine Y_then (Y_plain ?_)
    repeat' walk_at "rs"
    refine ⟨_, _, rfl, .inl ⟨s', rfl, by omega, by omega, ?_⟩⟩
    refine Y_then (Y_plain ?_)
    refine S_if (T_test (E_op (E_cb (A_cons (E_var rfl (A_cons (E_var rfl (A_nil (C_comb (by omega) (by omega) (by omega) (E_c (R_I0 ⟨_, rfl, fun hgt => ?_, fun hle => ?_⟩)))))))))))
    · have hgt : 20000 < Dr.C2 n s' := of_decide_eq_true hgt
      rcases h with ⟨_, k⟩ | ⟨h2, _⟩
      · exact S_raise T.xTooMany tmn tm_pfl (A_cons (E_c (A_cons (E_c (A_nil ⟨rfl, by decide, k⟩)))))
      · omega
    have hle : ¬ 20000 < Dr.C2 n s' := of_decide_eq_false hle
    rcases h with ⟨h2, _⟩ | ⟨hsz, hyl, hfin⟩
    · omega
    refine S_next ?_
    refine Y_then (Y_plain (S_own (EN_rg1 (E_var rfl ⟨s', rfl, by omega, by omega, fun p => ?_⟩))))
    refine Y_then (Y_plain (S_asg (E_c ?_)))
    -- the rows
    have hg : n - s' ≤ n - s' := Nat.le_refl _
    obtain ⟨⟨m1, hfirst⟩, ⟨l1, hlast⟩, hchain⟩ := Dr.M_chain (n - s') s' (n - s') hg
    have hall := Dr.M_all (n - s') s' (n - s') hg
    have hrows : ∀ i : Nat, (Dr.rows n s')[i]? = ((Dr.M (n - s') s' (n - s'))[i]?).map (Dr.rw_ 0) := fun i => by unfold Dr.rows; rw [List.getElem?_map]
    have hlenM : (Dr.rows n s').length = (Dr.M (n - s') s' (n - s')).length := by unfold Dr.rows; rw [List.length_map]
    have hbig : (Dr.M (n - s') s' (n - s')).length ≤ 20000 := by
      have h1 := Dr.M_len (n - s') s' (n - s')
      have h2 := Dr.ch_c2 n hn s' (by omega)
      rw [show s' + (n - s') = n by omega] at h1
      omega
    refine Y_then (Y_while (fun m ts Γ => (∃ (i : Nat) (e : List Nat) (o4 o5 : Bd), (Dr.M (n - s') s' (n - s'))[i]? = some e ∧ m + i = (Dr.M (n - s') s' (n - s')).length ∧ ts = ((Dr.rows n s').take i).map (rowS K) ∧ Γ = dΓ n s' p e true o4 o5) ∨
        (m = 0 ∧ ts = (Dr.rows n s').map (rowS K) ∧ ∃ (e : List Nat) (o4 o5 : Bd), Γ = dΓ n s' p e false o4 o5)) (Dr.M (n - s') s' (n - s')).length (.inl ⟨0, List.replicate s' 0, .no, .no, ?_, rfl, rfl, ?_⟩) ?_)
    · rw [hfirst, Nat.sub_self]; rfl
    · unfold dΓ
      rw [← eS_range]
      rfl
    · rintro m ts Γ (⟨i, e, o4, o5, he, hm, rfl, rfl⟩ | ⟨rfl, rfl, e, o4, o5, rfl⟩)
      · refine T_B (E_var rfl ⟨true, rfl, fun _ => ?_, (fun h => nomatch h)⟩)
        have hi : i < (Dr.M (n - s') s' (n - s')).length := (List.getElem?_eq_some_iff.mp he).1
        have her : (Dr.rows n s')[i]? = some (Dr.rw_ 0 e) := by rw [hrows, he]; rfl
        obtain ⟨hel, heg⟩ := hall e (List.mem_of_getElem? he)
        have htake : ((Dr.rows n s').take (i + 1)).map (rowS K) = ((Dr.rows n s').take i).map (rowS K) ++ [rowS K (Dr.rw_ 0 e)] := by
          rw [List.take_succ, her]; simp
        refine Y_then (Y_yield (by rw [List.length_map, List.length_take]; omega) (E_tupOwn rfl ⟨hyl i _ her, ?_⟩))
        refine Eq.mp (congrArg (fun l => Y (nPlain (tStep K)) l (dΓ n s' p e true o4 o5) _) htake) (Y_plain (step_ok hn hs hel o4 o5 _ ?_))
        by_cases hlt : i + 1 < (Dr.M (n - s') s' (n - s')).length
        · obtain ⟨e', he'⟩ : ∃ e', (Dr.M (n - s') s' (n - s'))[i + 1]? = some e' := ⟨_, List.getElem?_eq_getElem hlt⟩
          refine .inl ⟨e', hchain i e e' he he', fun o4 o5 => ⟨m - 1, by omega, .inl ⟨i + 1, e', o4, o5, he', by omega, rfl, rfl⟩⟩⟩
        · refine .inr ⟨?_, fun o4 o5 => ⟨0, by omega, .inr ⟨rfl, ?_, e, o4, o5, rfl⟩⟩⟩
          · have : i = l1.length := by
              have h1 : (Dr.M (n - s') s' (n - s')).length = l1.length + 1 := by rw [hlast]; simp
              omega
            rw [hlast, this, List.getElem?_append_right (Nat.le_refl _), Nat.sub_self] at he
            exact (Option.some.inj he).symm
          · rw [List.take_of_length_le (by omega)]
      · refine T_B (E_var rfl ⟨false, rfl, (fun h => nomatch h), fun _ => ?_⟩)
        exact Y_nil hfin
theorem kw_draws (T : Tx K mg) : KBn K T.draws.fd p_draws 1 ["drawn"] (fun us ws => us ++ ws) (fun vs zs => vs ++ zs) := by
  obtain ⟨oc, od, kV, doc, pm, an, cdv, ct, osl, e, lk, hcd⟩ := T.draws.F.ex
  rw [e]
  refine ⟨fun s us ws _ l1 l2 => ?_, fun r1 r2 => r1.append r2⟩
  match us, ws, l1, l2 with
  | [u], [a], _, _ => exact .of_eq rfl
theorem kw_risk (T : Tx K mg) : KBn K T.risk.fd p_risk 1 ["unlike", "drawn"] (fun us ws => us ++ ws) (fun vs zs => vs ++ zs) := by
  obtain ⟨oc, od, kV, doc, pm, an, cdv, ct, osl, e, lk, hcd⟩ := T.risk.F.ex
  rw [e]
  refine ⟨fun s us ws _ l1 l2 => ?_, fun r1 r2 => r1.append r2⟩
  match us, ws, l1, l2 with
  | [u], [a, b], _, _ => exact .of_eq rfl
theorem kw_risk0 (T : Tx K mg) : KBn K T.risk.fd p_risk 0 ["ballots", "unlike", "drawn"] (fun us ws => us ++ ws) (fun vs zs => vs ++ zs) := by
  obtain ⟨oc, od, kV, doc, pm, an, cdv, ct, osl, e, lk, hcd⟩ := T.risk.F.ex
  rw [e]
  refine ⟨fun s us ws _ l1 l2 => ?_, fun r1 r2 => r1.append r2⟩
  match us, ws, l1, l2 with
  | [], [a, b, c], _, _ => exact .of_eq rfl
end
end K83

/-! K83E -/
namespace K83
open PySem PySem.Spec PyProof.Rows L2 Ab RatM AbM

local macro_rules | `(tactic| walk_at "ab") => `(tactic| first
  | (with_reducible refine S_seq ?_) | (with_reducible refine S_ret ?_) | (with_reducible refine S_asg ?_) | (with_reducible refine S_if ?_) | (with_reducible refine S_next ?_) | (with_reducible refine S_par ?_) | (with_reducible refine S_drop ?_) | (with_reducible refine S_retN ?_)
  | (with_reducible refine E_c ?_) | (with_reducible refine E_op ?_) | (with_reducible refine E_un ?_) | (with_reducible refine E_tup (K := ‹PySem.W.Frag›) ?_) | (with_reducible refine E_lst ?_) | (with_reducible refine E_cb ?_) | (with_reducible refine E_if ?_)
  | (with_reducible refine E_fld ?_) | (with_reducible refine E_not ?_) | (with_reducible refine E_and ?_) | (with_reducible refine E_or ?_) | (with_reducible refine E_meth ?_) | (with_reducible refine E_make ?_)
  | (with_reducible refine A_cons ?_) | (with_reducible refine A_nil ?_) | (with_reducible refine E_call (dss := []) (fun _ => .nil) ?_)
  | (with_reducible refine T_test ?_) | (with_reducible refine T_B ?_) | (with_reducible refine T_not ?_) | (with_reducible refine T_and ?_) | (with_reducible refine T_or ?_)
  | (refine E_var rfl ?_) | (refine R_I0 ?_) | (refine R_ixT rfl ?_) | (refine R_ixL rfl ?_) | (refine R_eqI ?_) | (refine R_eqS ?_) | (refine R_neS ?_) | (refine R_eq rfl ?_) | (refine R_ne rfl ?_) | (refine U_I ?_) | (refine R_I ?_ ?_)
  | (refine C_gcd ?_) | (refine C_abs ?_) | (refine C_int ?_) | (refine C_intB ?_)
  | ((with_reducible show ∃ (s s' : Slot), _ = [s, s'] ∧ _); refine ⟨_, _, rfl, ?_⟩)
  | (refine ⟨_, rfl, ?_⟩)
  | (refine spl (fun h => ?_) (fun h => ?_)) | (refine splN (fun h => ?_) (fun h => ?_)) | (refine splT ?_) | (refine splF ?_) | (refine spl2 (fun h => ?_) (fun h => ?_))
  | (refine len_ok ?_) | fail)

local macro_rules | `(tactic| walk_at "len") => `(tactic| first
  | (rintro ⟨e, _⟩; rw [e]; rfl) | (rintro ⟨_, e, _⟩; rw [e]; rfl) | (rintro ⟨_, _, e, _⟩; rw [e]; rfl) | (rintro ⟨_, _, _, e, _⟩; rw [e]; rfl) | (rintro ⟨_, _, _, _, e, _⟩; rw [e]; rfl) | (rintro ⟨_, _, _, _, _, e, _⟩; rw [e]; rfl) | (rintro ⟨_, _, _, _, _, _, e, _⟩; rw [e]; rfl))
section
variable {P : Program} {w : World} {K : PySem.W.Frag} {mg : Str → Option Value} {base : Heap}
def bagY (cl : Addr) (ys : List V) : Prop := ∃ p a s n : Int, ys = [.ref cl, .int p, .int a, .int s, .int n] ∧ 0 ≤ p ∧ 0 ≤ a ∧ 0 ≤ s ∧ s < 4294967296
def pullZ (H : Hp) (cl : Addr) (rest : List V) : Prop := ∃ (m : Int) (ns : List Int), rest = [.int m] ∧ 0 < m ∧ m < 2 ^ 64 ∧ H cl = some (.lst (ns.map V.int))
def pullR (rest : List V) (r : V) : Prop := ∃ m d : Int, rest = [.int m] ∧ r = .int d ∧ 0 ≤ d ∧ d < m
def clS (cl : Addr) (ns : List Int) : Slot := ⟨fun v H => v = .ref cl ∧ H cl = some (.lst (ns.map V.int)), fun e ⟨h1, h2⟩ => ⟨h1, e _ _ h2⟩⟩
def intsS (ns : List Int) : List Slot := ns.map fun n => vS (.int n)
theorem intsS_len (ns : List Int) : (intsS ns).length = ns.length := by unfold intsS; rw [List.length_map]
theorem psl_ints (ns : List Int) (H : Hp) : PSl (ns.map V.int) (intsS ns) H := by
  unfold intsS
  induction ns with
  | nil => exact .nil
  | cons n ns ih => exact .cons rfl ih
theorem cl_lst {cl : Addr} {ns : List Int} (v : V) (H : Hp) (h : (clS cl ns).P v H) : (lstS (intsS ns)).P v H := ⟨cl, _, h.1, h.2, psl_ints _ _⟩
theorem at_ints {ns : List Int} {p : Int} (h0 : 0 ≤ p) (h1 : p < (ns.length : Nat)) : ∃ c, L2.atI (intsS ns) p = some (vS (.int c)) := by
  obtain ⟨j, rfl⟩ : ∃ j : Nat, p = (j : Int) := ⟨p.toNat, by omega⟩
  have hj : j < ns.length := by omega
  refine ⟨ns[j], L2.atI_nat ?_⟩
  unfold intsS
  rw [List.getElem?_map, List.getElem?_eq_getElem hj]; rfl
def bagL (cl : Addr) (ns : List Int) (p a s n : Int) : List Slot := [clS cl ns, vS (.int p), vS (.int a), vS (.int s), vS (.int n)]
local macro_rules | `(tactic| walk_at "bag") => `(tactic| first
  | (refine E_ixOwn rfl (E_c ⟨_, _, _, rfl, rfl, cl_lst, ?_⟩)) | (refine E_ixOwn rfl (E_c ⟨_, _, _, rfl, rfl, fun _ _ h => h, ?_⟩)) | (refine S_setOwn rfl ?_) | (refine ⟨_, _, rfl, rfl, ?_⟩)
  | ((with_reducible show Ab.C _ [lstS (intsS _)] _); refine C_len _ _ ⟨.inl rfl, intsS_len _⟩ ?_) | ((with_reducible show _ ≠ (0 : Int)); omega) | (refine R_ixL (at_ints (by assumption) (by assumption)).choose_spec ?_)
  | ((with_reducible show CMul _ _); (first | exact .inr ⟨by decide, by decide⟩ | exact .inl ⟨by decide, by decide⟩ | exact .inl ⟨by omega, by omega⟩))
  | ((with_reducible show CPow _ _); exact ⟨by decide, by decide, by decide⟩) | ((with_reducible show CDivNW _ _); exact CDivNW.of (b := 64) (by omega) (by omega) (by decide) (by decide)) | fail)
theorem fmod_in {x y : Int} (h : 0 < y) : 0 ≤ x.fmod y ∧ x.fmod y < y := fit_turn h
theorem ok_pull0 (T : Tx K mg) : FnOk P w K mg base CX0 1 T.lpull.f T.lpull.fd p_lpull (spWr bagY pullZ pullR) := by
  refine T.lpull.F.ok sc_lpull (fun vs H Q E h => ?_) (fun cdv Ar outer s H vs Q Er hr h => ⟨_, (pss_cons (ps_if (PW.pt (pw_and (pt_cmpR op_eq (pe_ix ix_list (pv 0) pe_int (fun _ _ => rfl)) pe_int (nomark _)) (pw_and1 (pt_cmpR op_lt (pe_ix ix_list (pv 0) pe_int (fun _ _ => rfl)) (pe_callB call_len_seq (by rfl) T.len PySem.boot_len (pa_cons (pe_ix ix_list (pv 0) pe_int (fun _ _ => rfl)) pa_nil)) (nomark _)))))
  (pss_cons (ps_set (i := 2) sc_lpull.nd rfl (by first | exact Or.inl rfl | exact Or.inr rfl) (pe_ix ix_list (pe_ix ix_list (pv 0) pe_int (fun _ _ => rfl)) (pe_ix ix_list (pv 0) pe_int (fun _ _ => rfl)) (fun _ _ => rfl)))
  (pss_cons (ps_asg (pe_op op_add (pe_ix ix_list (pv 0) pe_int (fun _ _ => rfl)) pe_int) (pg_sub (pv 0) pe_int set_list))
  (pss_one (ps_if (pt_cmpR op_ge (pe_callB call_abs (by rfl) T.abs (by decide +kernel) (pa_cons (pv 2) pa_nil)) (pe_op op_pow pe_int pe_int) (nomark _))
  (pss_one (ps_asg (pe_callB call_abs (by rfl) T.abs (by decide +kernel) (pa_cons (pv 2) pa_nil)) (pg_sub (pv 0) pe_int set_list)))
  (pss_one (ps_asg (pe_op op_modN (pe_callTy call_int1 (by rfl) T.int (by decide +kernel) (pa_cons (pe_op op_add (pe_op op_add (pe_op op_mul (pe_ix ix_list (pv 0) pe_int (fun _ _ => rfl)) pe_int) (pe_op op_mul (pe_op op_modN (pe_callTy call_int1 (by rfl) T.int (by decide +kernel) (pa_cons (pv 2) pa_nil)) pe_int) pe_int)) pe_int) pa_nil)) pe_int) (pg_sub (pv 0) pe_int set_list)))))))
  pss_nil)
  (pss_cons (ps_if (pt_cmpR op_gt (pe_ix ix_list (pv 0) pe_int (fun _ _ => rfl)) pe_int (nomark _))
  (pss_cons (ps_set (i := 3) sc_lpull.nd rfl (by first | exact Or.inl rfl | exact Or.inr rfl) (pe_op op_modN (pe_callTy call_int1 (by rfl) T.int (by decide +kernel) (pa_cons (pe_ix ix_list (pv 0) pe_int (fun _ _ => rfl)) pa_nil)) (pv 1)))
  (pss_cons (ps_asg (pe_op op_fdivNW (pe_ix ix_list (pv 0) pe_int (fun _ _ => rfl)) (pv 1)) (pg_sub (pv 0) pe_int set_list))
  (pss_one (ps_ret (pv 3)))))
  pss_nil)
  (pss_cons (ps_asg (pe_op op_add (pe_ix ix_list (pv 0) pe_int (fun _ _ => rfl)) pe_int) (pg_sub (pv 0) pe_int set_list))
  (pss_cons (ps_set (i := 4) sc_lpull.nd rfl (by first | exact Or.inl rfl | exact Or.inr rfl) (pe_op op_modN (pe_callTy call_int1 (by rfl) T.int (by decide +kernel) (pa_cons (pe_op op_add (pe_op op_mul (pe_ix ix_list (pv 0) pe_int (fun _ _ => rfl)) (pe_ix ix_list (pv 0) pe_int (fun _ _ => rfl))) (pe_op op_mul (pe_ix ix_list (pv 0) pe_int (fun _ _ => rfl)) pe_int)) pa_nil)) pe_int))
  (pss_cons (ps_asg (pe_op op_modN (pe_callTy call_int1 (by rfl) T.int (by decide +kernel) (pa_cons (pe_op op_add (pe_op op_add (pe_op op_mul (pv 4) pe_int) (pe_op op_mul (pe_ix ix_list (pv 0) pe_int (fun _ _ => rfl)) pe_int)) pe_int) pa_nil)) pe_int) (pg_sub (pv 0) pe_int set_list))
  (pss_one (ps_ret (pe_op op_modN (pe_callTy call_int1 (by rfl) T.int (by decide +kernel) (pa_cons (pe_op op_fdivNW (pe_ix ix_list (pv 0) pe_int (fun _ _ => rfl)) pe_int) pa_nil)) (pv 1))))))))), ?_⟩)
  · obtain ⟨b, cl, xs, rest, rfl, _, _, _, ⟨m, ns, rfl, _⟩, _⟩ := h
    rfl
  · obtain ⟨b, cl, xs, rest, rfl, hb, ⟨p, a, s', n, rfl, p0, a0, s0, s1⟩, hne, ⟨m, ns, rfl, m0, m1, hcl⟩, q⟩ := h
    refine enter_own (ss := bagL cl ns p a s' n) (rest := [vS (.int m)]) (Φ := { nx := fun _ => False, rt := fun s Γ => ∃ (p a s' n d : Int) (Γ' : List Bd), Γ = .own b (bagL cl ns p a s' n) :: Γ' ∧ 0 ≤ p ∧ 0 ≤ a ∧ 0 ≤ s' ∧ s' < 4294967296 ∧ s = vS (.int d) ∧ 0 ≤ d ∧ d < m, bk := fun _ => False, ct := fun _ => False })
      hb (.cons ⟨rfl, by rw [less_ne hne]; exact hcl⟩ (.cons rfl (.cons rfl (.cons rfl (.cons rfl .nil))))) (.cons rfl .nil) ⟨fun _ _ _ _ _ z => z.elim, ?_, fun _ _ _ _ _ z => z.elim, fun _ _ _ _ _ z => z.elim, fun _ _ _ _ _ _ _ _ z => z.elim⟩ ?_
    · rintro s v Γ σ B H' at' pv ⟨p', a', s'', n', d, Γ', rfl, p0', a0', s0', s1', rfl, d0, d1⟩
      obtain ⟨_, _, ys, hy, py⟩ := at'.rel.own 0 b _ rfl
      obtain rfl : v = .int d := pv
      refine q _ ys H' ⟨m, d, rfl, rfl, d0, d1⟩ ?_ hy fun c o h1 h2 => at'.wrote h1 h2
      cases py with
      | cons h1 py => cases py with
        | cons h2 py => cases py with
          | cons h3 py => cases py with
            | cons h4 py => cases py with
              | cons h5 py =>
                cases py
                exact ⟨p', a', s'', n', by rw [h1.1, show _ = V.int p' from h2, show _ = V.int a' from h3, show _ = V.int s'' from h4, show _ = V.int n' from h5], p0', a0', s0', s1'⟩
    · have hmod : ∀ x : Int, 0 ≤ x.fmod 2147483629 ∧ x.fmod 2147483629 < 4294967296 := fun x => ⟨(fmod_in (by decide)).1, Int.lt_trans (fmod_in (x := x) (y := 2147483629) (by decide)).2 (by decide)⟩
      refine S_mid (fun Γ => ∃ (p a s' n : Int) (o : Bd), Γ = [.own b (bagL cl ns p a s' n), .pl (vS (.int m)), o, .no, .no] ∧ 0 ≤ p ∧ 0 ≤ a ∧ 0 ≤ s' ∧ s' < 4294967296) ?_ ?_
      · repeat' first | walk_at "bag" | walk_at "ab" | fail
        · exact ⟨_, _, _, _, _, rfl, by omega, by split <;> omega, s0, s1⟩
        · exact ⟨_, _, _, _, _, rfl, by omega, a0, (hmod _).1, (hmod _).2⟩
        · exact ⟨_, _, _, _, _, rfl, p0, a0, s0, s1⟩
        · exact ⟨_, _, _, _, _, rfl, p0, a0, s0, s1⟩
      · rintro Γ ⟨p, a, s', n, o, rfl, p0, a0, s0, s1⟩
        repeat' first | walk_at "bag" | walk_at "ab" | fail
        · exact ⟨_, _, _, _, _, _, rfl, p0, Int.fdiv_nonneg a0 (by omega), s0, s1, rfl, (fmod_in m0).1, (fmod_in m0).2⟩
        · exact ⟨_, _, _, _, _, _, rfl, p0, a0, (hmod _).1, (hmod _).2, rfl, (fmod_in m0).1, (fmod_in m0).2⟩
theorem pullZ_upd (H : Hp) (b : Addr) (o : HO) (cl : Addr) (rest : List V) (hne : cl ≠ b) (h : pullZ H cl rest) : pullZ (upd H b o) cl rest := by
  obtain ⟨m, ns, h1, h2, h3, h4⟩ := h
  exact ⟨m, ns, h1, h2, h3, by rw [upd_ne hne]; exact h4⟩
def bagS : Slot := ⟨fun v H => ∃ (b cl : Addr) (ns : List Int), v = .ref b ∧ H b = some (lentO b (bagY cl)) ∧ cl ≠ b ∧ H cl = some (.lst (ns.map V.int)), fun e ⟨b, cl, ns, h1, h2, h3, h4⟩ => ⟨b, cl, ns, h1, e _ _ h2, h3, e _ _ h4⟩⟩
def F_pull : FS := fun ss Φ _ => ∃ m : Int, ss = [bagS, vS (.int m)] ∧ 0 < m ∧ m < 2 ^ 64 ∧ ∀ r : Int, 0 ≤ r → r < m → Φ (vS (.int r))
theorem ok_lpull (T : Tx K mg) : FnOk P w K mg base CX0 1 T.lpull.f T.lpull.fd p_lpull (spOf F_pull) := by
  refine (ok_lent pullZ_upd (ok_pull0 T) (fun H cl rest ⟨m, ns, e, _⟩ => by rw [e]; rfl)).imp fun vs H Q E h => ?_
  obtain ⟨B, ss, Φ, Ψ, bs, p, ⟨m, rfl, m0, m1, k⟩, q, _⟩ := h
  cases p with
  | cons pb p => cases p with
    | cons pm p =>
      cases p
      obtain ⟨b, cl, ns, rfl, h2, h3, h4⟩ := pb
      refine ⟨b, cl, _, rfl, bs _ _ h2, ⟨m, ns, by rw [show _ = V.int m from pm], m0, m1, bs _ _ h4⟩, h3, fun r H' hr hs => ?_⟩
      obtain ⟨m', d, e, rfl, d0, d1⟩ := hr
      have em : V.int m = V.int m' := (show _ = V.int m from pm).symm.trans (List.cons.inj e).1
      cases em
      exact q (vS (.int d)) _ B H' (.gain bs hs) rfl (k d d0 d1)
local macro_rules | `(tactic| walk_at "pull") => `(tactic| ((with_reducible show F_pull _ _ _); refine ⟨_, rfl, (by first | decide | omega), (by first | decide | omega), fun r r0 r1 => ?_⟩))
theorem at_any {ss : List Slot} {p : Int} (h0 : 0 ≤ p) (h1 : p < (ss.length : Nat)) : ∃ s, L2.atI ss p = some s ∧ s ∈ ss := by
  obtain ⟨j, rfl⟩ : ∃ j : Nat, p = (j : Int) := ⟨p.toNat, by omega⟩
  have hj : j < ss.length := by omega
  exact ⟨ss[j], L2.atI_nat (List.getElem?_eq_getElem hj), List.getElem_mem hj⟩
def F_of : FS := fun ss Φ _ => ∃ l : List Slot, ss = [bagS, lstS l] ∧ 0 < l.length ∧ l.length < 100 ∧ ∀ s ∈ l, Φ s
theorem ok_lof (T : Tx K mg) : FnOk P w K mg base CX0 2 T.lof.f T.lof.fd p_lof (spOf (F_of)) := by
  refine ok0 T.lof.F sc_lof (by intro ss Φ Ψ h; revert h; walk_at "len") (fun cdv Ar outer s H Er hr => ⟨_, (pss_one (ps_ret (pe_ix ix_list (pv 1) (pe_call (ok_lpull T) (hr.mono (by decide)) rfl T.lpull.g T.lpull.F.kp T.lpull.b .nil pass0 (pa_cons (pv 0) (pa_cons (pe_callB call_len_seq (by rfl) T.len PySem.boot_len (pa_cons (pv 1) pa_nil)) pa_nil))) (fun _ _ => rfl)))), fun ss Φ Ψ h => ?_⟩)
  obtain ⟨l, rfl, l0, l1, k⟩ := h
  repeat' first | walk_at "pull" | (refine C_len _ l.length ⟨.inl rfl, rfl⟩ ?_) | walk_at "ab" | fail
  rename_i r r0 r1
  obtain ⟨s, e, hs⟩ := at_any r0 r1
  exact R_ixL e (k s hs)
theorem p10 : (10 : Int) ^ Int.toNat 10 = 10000000000 := by decide
theorem p15 : (10 : Int) ^ Int.toNat 15 = 1000000000000000 := by decide
theorem p18 : (10 : Int) ^ Int.toNat 18 = 1000000000000000000 := by decide
theorem p20 : (10 : Int) ^ Int.toNat 20 = 100000000000000000000 := by decide
def bagZ (K : PySem.W.Frag) (H : Hp) (vs : List V) : Prop := ∃ (ns : List Int) (v : V), vs = [v] ∧ (seqS K (ns.map V.int)).P v H ∧ ns.length ≤ 63
def bagW (H : Hp) (cl : Addr) : Prop := ∃ ns : List Int, H cl = some (.lst (ns.map V.int))
theorem fm_sum (ns : List Int) : 0 ≤ (ns.map fun n => n.fmod 1000003).sum ∧ (ns.map fun n => n.fmod 1000003).sum ≤ 1000003 * ns.length := by
  induction ns with
  | nil => simp
  | cons n ns ih =>
    have := fmod_in (x := n) (y := 1000003) (by decide)
    rw [List.map_cons, List.sum_cons, List.length_cons]
    omega
theorem filt (ns : List Int) (f : Int → Int) : (ns.filter fun _ => true).map (fun n => vS (.int (f n))) = (ns.map f).map fun n => vS (.int n) := by
  rw [List.filter_eq_self.mpr (fun _ _ => rfl), List.map_map]; rfl
theorem E_cutI {Γ : List Bd} {Φ : Slot → Prop} {te : TE} {ns : List Int} (hl : ns.length ≤ 63) (h : E te Γ fun s => s = seqS K (ns.map V.int)) (k : Φ (lstS (ns.map fun n => vS (.int n)))) : E (tSl (rSlL K) te tNoPart (tPart (tC (.int 63)))) Γ Φ :=
  E_cut (h.imp fun s e => ⟨_, e, by rw [List.length_map]; exact hl, by rw [List.map_map]; exact k⟩)
theorem ok_bag0 (T : Tx K mg) : FnOk P w K mg base CX0 1 T.lbag.f T.lbag.fd p_lbag (spNew bagY (bagZ K) bagW) := by
  refine T.lbag.F.ok sc_lbag (fun vs H Q E h => ?_) (fun cdv Ar outer s H vs Q Er hr h => ⟨_, (pss_cons (ps_set (i := 1) sc_lbag.nd rfl (by first | exact Or.inl rfl | exact Or.inr rfl) (pe_op op_add (pe_op op_add pe_int (pe_op op_mul pe_int (pe_callB call_len_seq (by rfl) T.len PySem.boot_len (pa_cons (pe_slice sl_list (pv 0) po_none (po_some pe_int)) pa_nil)))) (pe_callB (cr_sum rfl) (by rfl) T.sum (by decide +kernel) (pa_cons (pe_lc (own := [("cell", 2)]) (g := (gName 2)) (tt := tYes) (by rfl) sc_lbag.nd (pi_list (pe_slice sl_list (pv 0) po_none (po_some pe_int))) (blkOk_by (own := [("cell", 2)]) (N := n_lbag) (sc := defScope s_lbag) (by decide +kernel)) (fun _ _ _ _ _ => (pg_name (i := 2) sc_lbag.nd rfl (Or.inl rfl) (Or.inr rfl))) (fun _ _ _ _ _ => pts_nil) (fun _ _ _ _ _ => (pe_op op_modN (pe_callTy call_int1 (by rfl) T.int (by decide +kernel) (pa_cons (pv 2) pa_nil)) pe_int))) pa_nil))))
  (pss_one (ps_ret (pe_lst (pa_cons (pe_lc (own := [("cell", 2)]) (g := (gName 2)) (tt := tYes) (by rfl) sc_lbag.nd (pi_list (pe_slice sl_list (pv 0) po_none (po_some pe_int))) (blkOk_by (own := [("cell", 2)]) (N := n_lbag) (sc := defScope s_lbag) (by decide +kernel)) (fun _ _ _ _ _ => (pg_name (i := 2) sc_lbag.nd rfl (Or.inl rfl) (Or.inr rfl))) (fun _ _ _ _ _ => pts_nil) (fun _ _ _ _ _ => (pe_callTy call_int1 (by rfl) T.int (by decide +kernel) (pa_cons (pv 2) pa_nil)))) (pa_cons pe_int (pa_cons pe_int (pa_cons (pv 1) (pa_cons pe_int pa_nil))))))))), ?_⟩)
  · obtain ⟨B, bs, ⟨ns, v, rfl, _⟩, _⟩ := h
    rfl
  · obtain ⟨B0, bs, ⟨ns, v, rfl, hv, hl⟩, q⟩ := h
    have em : (ns.map V.int).map vS = ns.map fun n => vS (.int n) := by rw [List.map_map]; rfl
    have hs := fm_sum ns
    refine enter_new (rest := [seqS K (ns.map V.int)]) (fun Γ => ∃ f : Int, 0 ≤ f ∧ f < 4294967296 ∧ Γ = [.pl (seqS K (ns.map V.int)), .pl (vS (.int f)), .no]) (fun ss => ∃ f : Int, 0 ≤ f ∧ f < 4294967296 ∧ ss = [lstS (ns.map fun n => vS (.int n)), vS (.int 0), vS (.int 0), vS (.int f), vS (.int 0)]) bs (.cons hv .nil) ?_ ?_ ?_
    · repeat' first | (refine E_cutI hl (E_var rfl rfl) ?_) | (refine C_len _ ns.length ⟨.inl rfl, by rw [List.length_map]⟩ ?_) | walk_at "bag" | walk_at "ab" | fail
      refine E_lcL ns (fun n => vS (.int n)) (fun n => vS (.int (n.fmod 1000003))) (fun _ => true) (E_cutI hl (E_var rfl rfl) rfl) (by omega) ?_ ?_
      · intro n _
        refine G_name (by decide) (T_yes ⟨rfl, fun _ => ?_⟩)
        repeat' first | walk_at "bag" | walk_at "ab" | fail
        rfl
      · rw [filt ns fun n => n.fmod 1000003]
        repeat' first | walk_at "bag" | walk_at "ab" | (refine C_sum (ns.map fun n => n.fmod 1000003) rfl ?_) | fail
        exact ⟨_, by omega, by omega, rfl⟩
    · rintro Γ ⟨f, f0, f1, rfl⟩
      refine A_cons (E_lcL ns (fun n => vS (.int n)) (fun n => vS (.int n)) (fun _ => true) (E_cutI hl (E_var rfl rfl) rfl) (by omega) ?_ ?_)
      · intro n _
        refine G_name (by decide) (T_yes ⟨rfl, fun _ => ?_⟩)
        repeat' first | walk_at "bag" | walk_at "ab" | fail
        rfl
      · rw [filt ns fun n => n, List.map_id']
        repeat' first | walk_at "bag" | walk_at "ab" | fail
        exact ⟨f, f0, f1, rfl⟩
    · rintro b ss ys B H' hb hy p hB st ⟨f, f0, f1, rfl⟩
      cases p with
      | cons h1 p => cases p with
        | cons h2 p => cases p with
          | cons h3 p => cases p with
            | cons h4 p => cases p with
              | cons h5 p =>
                cases p
                obtain ⟨cl, us, rfl, hcl, pu⟩ := h1
                have := pu.ints; subst this
                exact q b cl _ B H' hb hy ⟨0, 0, f, 0, by rw [show _ = V.int 0 from h2, show _ = V.int 0 from h3, show _ = V.int f from h4, show _ = V.int 0 from h5], by decide, by decide, f0, f1⟩ hB ⟨ns, hcl⟩ st
theorem bagW_upd (H : Hp) (b : Addr) (o : HO) (cl : Addr) (hb : H b = none) (h : bagW H cl) : bagW (upd H b o) cl := by
  obtain ⟨ns, h⟩ := h
  exact ⟨ns, by rw [upd_ne (ne_of_none h hb)]; exact h⟩
def F_bag (K : PySem.W.Frag) : FS := fun ss Φ _ => ∃ ns : List Int, ss = [seqS K (ns.map V.int)] ∧ ns.length ≤ 63 ∧ Φ bagS
theorem ok_lbag (T : Tx K mg) : FnOk P w K mg base CX0 1 T.lbag.f T.lbag.fd p_lbag (spOf (F_bag K)) := by
  refine (ok_newl bagW_upd (ok_bag0 T)).imp fun vs H Q E h => ?_
  obtain ⟨B, ss, Φ, Ψ, bs, p, ⟨ns, rfl, hl, k⟩, q, _⟩ := h
  cases p with
  | cons pv p =>
    cases p
    refine ⟨B, bs, ⟨ns, _, rfl, pv, hl⟩, fun b cl B' H' hb hH hW st hB => ?_⟩
    obtain ⟨us, hW⟩ := hW
    have hne : cl ≠ b := by
      intro z
      subst z
      have e := hB.symm.trans hW
      unfold lentO at e
      injection e with e
      cases e
    exact q bagS _ B' H' st ⟨b, cl, us, rfl, hB, hne, hW⟩ k

/-! ### alike -/
def Flat (s : Slot) : Prop := s = vS .non ∨ (∃ i, s = vS (.int i)) ∨ (∃ b, s = vS (.bl b)) ∨ ∃ x : Str, s = vS (.str x) ∧ (PyData.str x).canLay0 = true
def F_likeG (K : PySem.W.Frag) (F' : FS) : FS := fun ss Φ _ => ∃ s, ss = [s, s] ∧ Φ (vS (.bl true)) ∧ (Flat s ∨ ∃ l, (s = tupS K l ∨ s = lstS l) ∧ l.length ≤ 50000 ∧ ∀ x ∈ l, ∀ Φ' : Slot → Prop, Φ' (vS (.bl true)) → F' [x, x] Φ' fun _ => False)
local macro_rules | `(tactic| walk_at "isi") => `(tactic| first
  | (refine C_isi (b := true) (ty_int _) (.ty _) (kit_ty (by decide +kernel)) ?_)
  | (refine C_isi (b := false) (ty_int _) (.ty _) (kit_ty (by decide +kernel)) ?_)
  | (refine C_isi (b := true) (ty_bl _) (.ty _) (kit_ty (by decide +kernel)) ?_)
  | (refine C_isi (b := false) (ty_bl _) (.ty _) (kit_ty (by decide +kernel)) ?_)
  | (refine C_isi (b := true) (ty_str _) (.ty _) (kit_ty (by decide +kernel)) ?_)
  | (refine C_isi (b := false) (ty_str _) (.ty _) (kit_ty (by decide +kernel)) ?_)
  | (refine C_isi (b := true) ty_tup (.ty _) (kit_ty (by decide +kernel)) ?_)
  | (refine C_isi (b := false) ty_tup (.ty _) (kit_ty (by decide +kernel)) ?_)
  | (refine C_isi (b := true) ty_lst (.ty _) (kit_ty (by decide +kernel)) ?_)
  | (refine C_isi (b := false) ty_lst (.ty _) (kit_ty (by decide +kernel)) ?_)
  | (refine C_isiT (ty_int _) clsLT (kitLT (b1 := false) (b2 := false) (by decide +kernel) (by decide +kernel)) ?_)
  | (refine C_isiT (ty_bl _) clsLT (kitLT (b1 := false) (b2 := false) (by decide +kernel) (by decide +kernel)) ?_)
  | (refine C_isiT (ty_str _) clsLT (kitLT (b1 := false) (b2 := false) (by decide +kernel) (by decide +kernel)) ?_)
  | (refine C_isiT ty_tup clsLT (kitLT (b1 := false) (b2 := true) (by decide +kernel) (by decide +kernel)) ?_)
  | (refine C_isiT ty_lst clsLT (kitLT (b1 := true) (b2 := false) (by decide +kernel) (by decide +kernel)) ?_))
local macro_rules | `(tactic| walk_at "lk") => `(tactic| first | (refine R_neSame rfl ?_) | (refine R_eqSame rfl ?_) | (refine R_isNi ?_) | (refine R_isNb ?_) | (refine R_isNs ?_) | (refine R_isNn ?_) | (refine R_isNt ?_) | (refine R_isNl ?_) | (with_reducible refine E_tupC (cs := [.ty "list", .ty "tuple"]) ?_) | walk_at "ab" | (refine ⟨rfl, by decide, ?_⟩) | walk_at "isi" | fail)
theorem all_true {α : Type} (l : List α) : (l.map fun _ => true).all id = true := by
  induction l with
  | nil => rfl
  | cons x l ih => simpa using ih
theorem like_gen (T : Tx K mg) {j : Nat} {F' : FS} (G : FnOk P w K mg base CX0 j T.llike.f T.llike.fd p_llike (spOf F')) : FnOk P w K mg base CX0 (j + 1) T.llike.f T.llike.fd p_llike (spOf (F_likeG K F')) := by
  refine ok0 T.llike.F sc_llike (by
    intro ss Φ Ψ h
    obtain ⟨_, e, _⟩ := h
    rw [e]; rfl) (fun cdv Ar outer s H Er hr => ⟨_, (pss_cons (ps_if (PW.pt (pw_or (pt_cmpR op_isN (pv 1) pe_non (nomark _)) (pw_or1 (pt_cmpR op_isN (pv 0) pe_non (nomark _)))))
  (pss_one (ps_ret (pe_and (pe_cmpR op_isN (pv 1) pe_non (nomark _)) (pe_one (pe_cmpR op_isN (pv 0) pe_non (nomark _))))))
  pss_nil)
  (pss_cons (ps_if (pt_val (pe_callB call_isiT (by rfl) T.isinstance (by decide +kernel) (pa_cons (pv 1) (pa_cons (pe_tup (pa_cons (pe_bltn (by rfl) T.list (by decide +kernel) (rel_ty "list")) (pa_cons (pe_bltn (by rfl) T.tuple (by decide +kernel) (rel_ty "tuple")) pa_nil))) pa_nil))))
  (pss_cons (ps_if (PW.pt (pw_or (pt_cmpR op_ne (pe_callB call_isi (by rfl) T.isinstance (by decide +kernel) (pa_cons (pv 0) (pa_cons (pe_bltn (by rfl) T.list (by decide +kernel) (rel_ty "list")) pa_nil))) (pe_callB call_isi (by rfl) T.isinstance (by decide +kernel) (pa_cons (pv 1) (pa_cons (pe_bltn (by rfl) T.list (by decide +kernel) (rel_ty "list")) pa_nil))) (nomark _)) (pw_or1 (pt_cmpR op_ne (pe_callB call_isi (by rfl) T.isinstance (by decide +kernel) (pa_cons (pv 0) (pa_cons (pe_bltn (by rfl) T.tuple (by decide +kernel) (rel_ty "tuple")) pa_nil))) (pe_callB call_isi (by rfl) T.isinstance (by decide +kernel) (pa_cons (pv 1) (pa_cons (pe_bltn (by rfl) T.tuple (by decide +kernel) (rel_ty "tuple")) pa_nil))) (nomark _)))))
  (pss_one (ps_ret pe_bl))
  pss_nil)
  (pss_one (ps_ret (pe_and (pe_cmpR op_eq (pe_callB call_len_seq (by rfl) T.len PySem.boot_len (pa_cons (pv 0) pa_nil)) (pe_callB call_len_seq (by rfl) T.len PySem.boot_len (pa_cons (pv 1) pa_nil)) (nomark _)) (pe_one (pe_callB (cr_all rfl) (by rfl) T.all (by decide +kernel) (pa_cons (pe_lc (own := [("a", 2), ("b", 3)]) (g := (gTup K 2 (gCons (gName 2) (gCons (gName 3) gNil)))) (tt := tYes) (by rfl) sc_llike.nd (RZ.pi_zipA (by rfl) T.zip (pa_cons (pv 0) (pa_cons (pv 1) pa_nil))) (blkOk_by (own := [("a", 2), ("b", 3)]) (N := n_llike) (sc := defScope s_llike) (by decide +kernel)) (fun _ _ _ _ _ => (pg_tup rfl (pgs_cons (pg_name (i := 2) sc_llike.nd rfl (Or.inl rfl) (Or.inr rfl)) (pgs_cons (pg_name (i := 3) sc_llike.nd rfl (Or.inl rfl) (Or.inr rfl)) pgs_nil)))) (fun _ _ _ _ _ => pts_nil) (fun _ _ _ _ _ => (pe_call G hr rfl T.llike.g T.llike.F.kp T.llike.b .nil pass0 (pa_cons (pv 2) (pa_cons (pv 3) pa_nil))))) pa_nil)))))))
  pss_nil)
  (pss_cons (ps_if (PW.pt (pw_or (pt_cmpR op_ne (pe_callB call_isi (by rfl) T.isinstance (by decide +kernel) (pa_cons (pv 1) (pa_cons (pe_bltn (by rfl) T.bool (by decide +kernel) (rel_ty "bool")) pa_nil))) (pe_callB call_isi (by rfl) T.isinstance (by decide +kernel) (pa_cons (pv 0) (pa_cons (pe_bltn (by rfl) T.bool (by decide +kernel) (rel_ty "bool")) pa_nil))) (nomark _)) (pw_or1 (pt_cmpR op_ne (pe_callB call_isi (by rfl) T.isinstance (by decide +kernel) (pa_cons (pv 1) (pa_cons (pe_bltn (by rfl) T.int (by decide +kernel) (rel_ty "int")) pa_nil))) (pe_callB call_isi (by rfl) T.isinstance (by decide +kernel) (pa_cons (pv 0) (pa_cons (pe_bltn (by rfl) T.int (by decide +kernel) (rel_ty "int")) pa_nil))) (nomark _)))))
  (pss_one (ps_ret pe_bl))
  pss_nil)
  (pss_one (ps_ret (pe_and (pe_cmpR op_eq (pe_callB call_isi (by rfl) T.isinstance (by decide +kernel) (pa_cons (pv 0) (pa_cons (pe_bltn (by rfl) T.str (by decide +kernel) (rel_ty "str")) pa_nil))) (pe_callB call_isi (by rfl) T.isinstance (by decide +kernel) (pa_cons (pv 1) (pa_cons (pe_bltn (by rfl) T.str (by decide +kernel) (rel_ty "str")) pa_nil))) (nomark _)) (pe_one (pe_cmpR (op_eqD hr.units) (pv 0) (pv 1) (nomark _))))))))), fun ss Φ Ψ h => ?_⟩)
  have el : ∀ l : List Slot, (l.map fun s => (s, s)).map (·.1) = l := fun l => by rw [List.map_map]; exact List.map_id' l
  have el2 : ∀ l : List Slot, (l.map fun s => (s, s)).map (·.2) = l := fun l => by rw [List.map_map]; exact List.map_id' l
  have ea : ∀ l : List Slot, (l.map fun s => (s, s)).map (fun _ => vS (.bl true)) = (l.map fun _ => true).map fun b => vS (.bl b) := fun l => by rw [List.map_map, List.map_map]; rfl
  obtain ⟨s, rfl, k, (rfl | ⟨i, rfl⟩ | ⟨b, rfl⟩ | ⟨x, rfl, hx⟩) | ⟨l, rfl | rfl, hl, hF⟩⟩ := h
  · repeat' walk_at "lk"
    exact k
  · repeat' first | walk_at "lk" | (refine R_eqDs (dp_int _) rfl rfl ?_) | fail
    exact k
  · repeat' first | walk_at "lk" | (refine R_eqDs (dp_bl _) rfl rfl ?_) | fail
    exact k
  · repeat' first | walk_at "lk" | (refine R_eqDs (dp_str _) (by unfold SeqAt.shaped; rw [hx]; rfl) hx ?_) | fail
    exact k
  · repeat' first | (refine C_len _ l.length ⟨.inr rfl, rfl⟩ ?_) | walk_at "lk" | fail
    refine E_lcZT (l.map fun s => (s, s)) (fun _ => vS (.bl true)) ?_ (by rw [List.length_map]; exact hl) ?_ ?_
    · rw [el, el2]
      repeat' first | walk_at "ab" | fail
      rfl
    · intro x hx
      obtain ⟨s, hs, rfl⟩ := List.mem_map.mp hx
      refine G_tup rfl (G_cons (G_name (by decide) (G_cons (G_name (by decide) (G_nil ?_)))))
      refine T_yes ⟨rfl, fun _ => ?_⟩
      repeat' first | walk_at "ab" | fail
      exact hF s hs _ rfl
    · rw [ea]
      repeat' first | walk_at "ab" | (refine C_all (l.map fun _ => true) rfl ?_) | fail
      rw [all_true]
      exact k
  · repeat' first | (refine C_len _ l.length ⟨.inl rfl, rfl⟩ ?_) | walk_at "lk" | fail
    refine E_lcZL (l.map fun s => (s, s)) (fun _ => vS (.bl true)) ?_ (by rw [List.length_map]; exact hl) ?_ ?_
    · rw [el, el2]
      repeat' first | walk_at "ab" | fail
      rfl
    · intro x hx
      obtain ⟨s, hs, rfl⟩ := List.mem_map.mp hx
      refine G_tup rfl (G_cons (G_name (by decide) (G_cons (G_name (by decide) (G_nil ?_)))))
      refine T_yes ⟨rfl, fun _ => ?_⟩
      repeat' first | walk_at "ab" | fail
      exact hF s hs _ rfl
    · rw [ea]
      repeat' first | walk_at "ab" | (refine C_all (l.map fun _ => true) rfl ?_) | fail
      rw [all_true]
      exact k
/-- made of flat values, to a depth -/
def Lk (K : PySem.W.Frag) : Nat → Slot → Prop
  | 0, s => Flat s
  | n + 1, s => Flat s ∨ ∃ l, (s = tupS K l ∨ s = lstS l) ∧ l.length ≤ 50000 ∧ ∀ x ∈ l, Lk K n x
def F_likeN (K : PySem.W.Frag) (n : Nat) : FS := fun ss Φ _ => ∃ s, ss = [s, s] ∧ Φ (vS (.bl true)) ∧ Lk K n s
theorem ok_likeN (T : Tx K mg) : ∀ n : Nat, FnOk P w K mg base CX0 (n + 1) T.llike.f T.llike.fd p_llike (spOf (F_likeN K n))
  | 0 => by
    have G0 : FnOk P w K mg base CX0 0 T.llike.f T.llike.fd p_llike (spOf fun _ _ _ => False) := ⟨fun vs H Q E ⟨_, _, _, _, _, _, h, _⟩ => h.elim, fun _ _ _ _ _ _ _ _ _ _ _ _ _ ⟨_, _, _, _, _, _, h, _⟩ => h.elim⟩
    exact (like_gen T G0).imp fun vs H Q E ⟨B, ss, Φ, Ψ, b, p, ⟨s, e, k, h⟩, k1, k2⟩ => ⟨B, ss, Φ, Ψ, b, p, ⟨s, e, k, .inl h⟩, k1, k2⟩
  | n + 1 => (like_gen T (ok_likeN T n)).imp fun vs H Q E ⟨B, ss, Φ, Ψ, b, p, ⟨s, e, k, h⟩, k1, k2⟩ => ⟨B, ss, Φ, Ψ, b, p, ⟨s, e, k, by
      rcases h with h | ⟨l, hl, hn, hx⟩
      · exact .inl h
      · exact .inr ⟨l, hl, hn, fun x hm Φ' k' => ⟨x, rfl, k', hx x hm⟩⟩⟩, k1, k2⟩
def F_like (K : PySem.W.Frag) : FS := F_likeN K 3
theorem ok_llike (T : Tx K mg) : FnOk P w K mg base CX0 4 T.llike.f T.llike.fd p_llike (spOf (F_like K)) := ok_likeN T 3
theorem Lk.up {n : Nat} {s : Slot} (h : Lk K n s) : Lk K (n + 1) s := by
  induction n generalizing s with
  | zero => exact .inl h
  | succ n ih =>
    rcases h with h | ⟨l, h1, h2, h3⟩
    · exact .inl h
    · exact .inr ⟨l, h1, h2, fun x hx => ih (h3 x hx)⟩
theorem lk_int (i : Int) : Flat (vS (.int i)) := .inr (.inl ⟨i, rfl⟩)
theorem lk_row (r : List Int) (h : r.length ≤ 50000) : Lk K 1 (rowS K r) := .inr ⟨_, .inl rfl, by rw [List.length_map]; exact h, fun x hx => by
  obtain ⟨i, _, rfl⟩ := List.mem_map.mp hx
  exact lk_int i⟩
theorem lk_rows (rs : List (List Int)) (h : rs.length ≤ 50000) (hr : ∀ r ∈ rs, r.length ≤ 50000) : Lk K 2 (lstS (rs.map (rowS K))) := .inr ⟨_, .inr rfl, by rw [List.length_map]; exact h, fun x hx => by
  obtain ⟨r, hm, rfl⟩ := List.mem_map.mp hx
  exact lk_row r (hr r hm)⟩
theorem lk_rat (q : Rat) : Lk K 1 (ratS K q) := .inr ⟨_, .inl rfl, by show 2 ≤ 50000; decide, fun x hx => by
  rcases List.mem_cons.mp hx with rfl | hx
  · exact lk_int _
  · rw [List.mem_singleton.mp hx]; exact lk_int _⟩
end
end K83

/-! K83F -/
namespace K83
open PySem PySem.Spec PyProof.Rows L2 Ab RatM AbM

local macro_rules | `(tactic| walk_at "ab") => `(tactic| first
  | (with_reducible refine S_seq ?_) | (with_reducible refine S_ret ?_) | (with_reducible refine S_asg ?_) | (with_reducible refine S_if ?_) | (with_reducible refine S_next ?_) | (with_reducible refine S_par ?_) | (with_reducible refine S_drop ?_) | (with_reducible refine S_retN ?_)
  | (with_reducible refine E_c ?_) | (with_reducible refine E_op ?_) | (with_reducible refine E_un ?_) | (with_reducible refine E_tup (K := ‹PySem.W.Frag›) ?_) | (with_reducible refine E_lst ?_) | (with_reducible refine E_cb ?_) | (with_reducible refine E_if ?_)
  | (with_reducible refine E_fld ?_) | (with_reducible refine E_not ?_) | (with_reducible refine E_and ?_) | (with_reducible refine E_or ?_) | (with_reducible refine E_meth ?_) | (with_reducible refine E_make ?_)
  | (with_reducible refine A_cons ?_) | (with_reducible refine A_nil ?_) | (with_reducible refine E_call (dss := []) (fun _ => .nil) ?_)
  | (with_reducible refine T_test ?_) | (with_reducible refine T_B ?_) | (with_reducible refine T_not ?_) | (with_reducible refine T_and ?_) | (with_reducible refine T_or ?_)
  | (refine E_var rfl ?_) | (refine R_I0 ?_) | (refine R_ixT rfl ?_) | (refine R_ixL rfl ?_) | (refine R_eqI ?_) | (refine R_eqS ?_) | (refine R_neS ?_) | (refine R_eq rfl ?_) | (refine R_ne rfl ?_) | (refine U_I ?_) | (refine R_I ?_ ?_)
  | (refine C_gcd ?_) | (refine C_abs ?_) | (refine C_int ?_) | (refine C_intB ?_)
  | ((with_reducible show ∃ (s s' : Slot), _ = [s, s'] ∧ _); refine ⟨_, _, rfl, ?_⟩)
  | (refine ⟨_, rfl, ?_⟩)
  | (refine spl (fun h => ?_) (fun h => ?_)) | (refine splN (fun h => ?_) (fun h => ?_)) | (refine splT ?_) | (refine splF ?_) | (refine spl2 (fun h => ?_) (fun h => ?_))
  | (refine len_ok ?_) | fail)

local macro_rules | `(tactic| walk_at "len") => `(tactic| first
  | (rintro ⟨e, _⟩; rw [e]; rfl) | (rintro ⟨_, e, _⟩; rw [e]; rfl) | (rintro ⟨_, _, e, _⟩; rw [e]; rfl) | (rintro ⟨_, _, _, e, _⟩; rw [e]; rfl) | (rintro ⟨_, _, _, _, e, _⟩; rw [e]; rfl) | (rintro ⟨_, _, _, _, _, e, _⟩; rw [e]; rfl) | (rintro ⟨_, _, _, _, _, _, e, _⟩; rw [e]; rfl))
section
variable {P : Program} {w : World} {K : PySem.W.Frag} {mg : Str → Option Value} {base : Heap}
abbrev iS (l : List Int) : List Slot := l.map fun x => vS (.int x)
theorem erase_map {α β : Type} (f : α → β) : ∀ (l : List α) (i : Nat), (l.map f).eraseIdx i = (l.eraseIdx i).map f
  | [], _ => by simp
  | x :: l, 0 => rfl
  | x :: l, i + 1 => by
    show f x :: (l.map f).eraseIdx i = f x :: (l.eraseIdx i).map f
    rw [erase_map f l i]
theorem perm_erase {α : Type} : ∀ (l : List α) (i : Nat) (h : i < l.length), (l[i] :: l.eraseIdx i).Perm l
  | x :: l, 0, _ => List.Perm.refl _
  | x :: l, i + 1, h => by
    have h' : i < l.length := by simpa using h
    exact (List.Perm.swap x l[i] _).trans ((perm_erase l i h').cons x)
/-! ### in a drawn order -/
theorem ok_lturned (T : Tx K mg) : FnOk P w K mg base CX0 2 T.lturned.f T.lturned.fd p_lturned (spOf ((fun ss Φ _ => ∃ l : List Int, ss = [bagS, lstS (iS l)] ∧ l.length ≤ 1000 ∧ ∀ l' : List Int, l'.Perm l → Φ (lstS (iS l'))))) := by
  refine ok0 T.lturned.F sc_lturned (by intro ss Φ Ψ h; revert h; walk_at "len") (fun cdv Ar outer s H Er hr => ⟨_, (pss_cons (ps_par (i := 2) (j := 3) (by rfl) sc_lturned.nd rfl rfl (by decide) rfl rfl (pa_cons (pe_callTy call_list_of (by rfl) T.list (by decide +kernel) (pa_cons (pv 1) pa_nil)) (pa_cons (pe_lst pa_nil) pa_nil)) (by rfl))
  (pss_cons (ps_for PassesOwn.never rfl (pi_range1 rfl T.range (pa_cons (pe_callB call_len_seq (by rfl) T.len PySem.boot_len (pa_cons (pv 1) pa_nil)) pa_nil)) (pg_name (i := 4) sc_lturned.nd rfl (by first | exact Or.inl rfl | exact Or.inr rfl))
  (pss_one (ps_expr (pe_bm PySem.F.plainAttrs_list PySem.F.slot_list_append PySem.F.type_list_append mt_append (pv 3) (pa_cons (pe_bm PySem.F.plainAttrs_list PySem.F.slot_list_pop PySem.F.type_list_pop mt_popAt (pv 2) (pa_cons (pe_call (ok_lpull T) (hr.mono (by decide)) rfl T.lpull.g T.lpull.F.kp T.lpull.b .nil pass0 (pa_cons (pv 0) (pa_cons (pe_callB call_len_seq (by rfl) T.len PySem.boot_len (pa_cons (pv 2) pa_nil)) pa_nil))) pa_nil)) pa_nil)))))
  (pss_one (ps_ret (pv 3))))), fun ss Φ Ψ h => ?_⟩)
  obtain ⟨l, rfl, hl, k⟩ := h
  refine S_seq (S_parOwn (EN_copyL (E_var rfl ⟨_, rfl, EN_lst (A_nil ⟨by decide, fun p q => ?_⟩)⟩)))
  refine S_seq (S_forR (lo := 0) (n := l.length) [4] (fun i Γ => ∃ (left found : List Int) (o : Bd), left.length + i = l.length ∧ found.length = i ∧ (found ++ left).Perm l ∧ Γ = [.pl bagS, .pl (lstS (iS l)), .own p (iS left), .own q (iS found), o]) ?_ ⟨l, [], .no, rfl, rfl, List.Perm.refl _, rfl⟩ ?_ ?_)
  · have hr := rng1 (Γ := [.pl bagS, .pl (lstS (iS l)), .own p (iS l), .own q [], .no]) (n := (l.length : Int)) (tr := tCons (tCB (fun xs H Q => ∃ p ys, xs = [.ref p] ∧ (SqL K H p ys ∨ SqT K H p ys) ∧ Q (.int ys.length) H) (tCons (tVar 1) tNil)) tNil)
      (A_cons (E_cb (A_cons (E_var rfl (A_nil (C_len _ l.length ⟨.inl rfl, by rw [List.length_map]⟩ (A_nil ⟨rfl, by omega, by omega⟩)))))))
    exact hr
  · rintro i Γ hi ⟨left, found, o, h1, h2, h3, rfl⟩
    refine G_name (by decide) ?_
    refine S_appPop (by decide) rfl rfl (E_call (dss := []) (fun _ => .nil) (A_cons (E_var rfl (A_cons (E_lenOwn rfl (A_nil ⟨_, rfl, ?_, ?_, fun r r0 r1 => ?_⟩))))))
    · rw [List.length_map]; omega
    · rw [List.length_map]; omega
    · rw [List.length_map] at r1
      have hr : r.toNat < left.length := by omega
      refine ⟨r.toNat, vS (.int left[r.toNat]), by rw [Int.toNat_of_nonneg r0], ?_, by rw [List.length_map]; omega, by rw [List.length_map]; omega, ?_⟩
      · rw [List.getElem?_map, List.getElem?_eq_getElem hr]; rfl
      · refine ⟨left.eraseIdx r.toNat, found ++ [left[r.toNat]], .pl (vS (.int (0 + (i : Int)))), ?_, ?_, ?_, ?_⟩
        · rw [List.length_eraseIdx, if_pos hr]; omega
        · simp [h2]
        · refine List.Perm.trans ?_ h3
          rw [List.append_assoc]
          refine List.Perm.append_left _ ?_
          exact perm_erase left _ hr
        · have e1 : (iS left).eraseIdx r.toNat = iS (left.eraseIdx r.toNat) := by
            unfold iS
            rw [erase_map]
          have e2 : iS found ++ [vS (.int left[r.toNat])] = iS (found ++ [left[r.toNat]]) := by
            unfold iS
            rw [List.map_append]; rfl
          show List.set (List.set _ 2 _) 3 _ = _
          rw [e1, e2]
          rfl
  · rintro Γ ⟨left, found, o, h1, h2, h3, rfl⟩
    have e : left = [] := List.eq_nil_of_length_eq_zero (by omega)
    subst e
    rw [List.append_nil] at h3
    refine S_give (i := 3) rfl (S_ret (E_var rfl ?_))
    exact k found h3
/-! ### the law's list of rows -/
theorem lst_le {a k : Nat} (ha : a ≤ 12) (hk : k ≤ a) : (Dr.lst a k).length ≤ 1000 := Dr.lst_len ⟨a, by omega⟩ ⟨k, by omega⟩ hk
theorem lst_mem {a k : Nat} (ha : a ≤ 12) (hk : k ≤ a) {r : List Int} (hr : r ∈ Dr.lst a k) : r.length = k ∧ ∀ x ∈ r, 0 ≤ x ∧ x < (a : Int) := Dr.lst_in ⟨a, by omega⟩ ⟨k, by omega⟩ hk r hr
theorem ext_take_le {a k : Nat} {rs : List (List Int)} (j : Nat) : (Dr.ext a k (rs.take j)).length ≤ (Dr.ext a k rs).length := by
  have e : Dr.ext a k rs = Dr.ext a k (rs.take j) ++ Dr.ext a k (rs.drop j) := by
    unfold Dr.ext
    rw [← List.flatMap_append, List.take_append_drop]
  rw [e, List.length_append]
  omega
theorem ok_llisted (T : Tx K mg) : FnOk P w K mg base CX0 1 T.llisted.f T.llisted.fd p_llisted (spOf ((fun ss Φ _ => ∃ a b : Nat, ss = [vS (.int a), vS (.int b)] ∧ a ≤ 12 ∧ b ≤ a ∧ Φ (lstS ((Dr.lst a b).map (rowS K)))))) := by
  refine ok0 T.llisted.F sc_llisted (by intro ss Φ Ψ h; revert h; walk_at "len") (fun cdv Ar outer s H Er hr => ⟨_, (pss_cons (ps_set (i := 2) sc_llisted.nd rfl (by first | exact Or.inl rfl | exact Or.inr rfl) (pe_lst (pa_cons (pe_tup pa_nil) pa_nil)))
  (pss_cons (ps_for PassesOwn.never rfl (pi_range1 rfl T.range (pa_cons (pv 1) pa_nil)) (pg_name (i := 3) sc_llisted.nd rfl (by first | exact Or.inl rfl | exact Or.inr rfl))
  (pss_cons (ps_set (i := 4) sc_llisted.nd rfl (by first | exact Or.inl rfl | exact Or.inr rfl) (pe_lst pa_nil))
  (pss_cons (ps_for PassesOwn.never rfl (pi_list (pv 2)) (pg_name (i := 5) sc_llisted.nd rfl (by first | exact Or.inl rfl | exact Or.inr rfl))
  (pss_one (ps_set (i := 4) sc_llisted.nd rfl (by first | exact Or.inl rfl | exact Or.inr rfl) (pe_op op_cat (pv 4) (pe_lc (own := [("x", 6)]) (g := (gName 6)) (tt := tYes) (by rfl) sc_llisted.nd (pi_range2 rfl T.range (pa_cons (pe_ifExp (pt_cmpR op_gt (pv 3) pe_int (nomark _)) (pe_op op_add (pe_ix ix_tup (pv 5) (pe_un un_neg pe_int) (fun _ _ => rfl)) pe_int) pe_int) (pa_cons (pv 0) pa_nil))) (blkOk_by (own := [("x", 6)]) (N := n_llisted) (sc := defScope s_llisted) (by decide +kernel)) (fun _ _ _ _ _ => (pg_name (i := 6) sc_llisted.nd rfl (Or.inl rfl) (Or.inr rfl))) (fun _ _ _ _ _ => pts_nil) (fun _ _ _ _ _ => (pe_op (show OpR _ (binaryOp .Add) (rCatA K) from op_catA) (pv 5) (pe_tup (pa_cons (pv 6) pa_nil)))))))))
  (pss_one (ps_set (i := 2) sc_llisted.nd rfl (by first | exact Or.inl rfl | exact Or.inr rfl) (pv 4))))))
  (pss_one (ps_ret (pv 2))))), fun ss Φ Ψ h => ?_⟩)
  obtain ⟨a, b, rfl, ha, hb, k⟩ := h
  refine S_mid (fun Γ => Γ = [.pl (vS (.int a)), .pl (vS (.int b)), .pl (lstS ((Dr.lst a 0).map (rowS K))), .no, .no, .no, .no]) ?_ ?_
  · repeat' first | walk_at "ab" | fail
    rfl
  rintro Γ rfl
  refine S_seq (S_forR (lo := 0) (n := b) [3] (fun i Γ => i ≤ b ∧ ∃ o3 o4 o5 o6 : Bd, Γ = [.pl (vS (.int a)), .pl (vS (.int b)), .pl (lstS ((Dr.lst a i).map (rowS K))), o3, o4, o5, o6]) ?_ ⟨Nat.zero_le _, .no, .no, .no, .no, rfl⟩ ?_ ?_)
  · have hr := rng1 (Γ := [.pl (vS (.int a)), .pl (vS (.int b)), .pl (lstS ((Dr.lst a 0).map (rowS K))), .no, .no, .no, .no]) (n := (b : Int)) (tr := tCons (tVar 1) tNil) (A_cons (E_var rfl (A_nil ⟨rfl, by omega, by omega⟩)))
    exact hr
  · rintro i Γ hi ⟨_, o3, o4, o5, o6, rfl⟩
    refine G_name (by decide) ?_
    rw [Int.zero_add]
    refine S_mid (fun Γ => Γ = [.pl (vS (.int a)), .pl (vS (.int b)), .pl (lstS ((Dr.lst a i).map (rowS K))), .pl (vS (.int i)), .pl (lstS ((Dr.ext a i ((Dr.lst a i).take 0)).map (rowS K))), o5, o6]) ?_ ?_
    · repeat' first | walk_at "ab" | fail
      rfl
    rintro Γ rfl
    refine S_mid (fun Γ => ∃ o5 o6 : Bd, Γ = [.pl (vS (.int a)), .pl (vS (.int b)), .pl (lstS ((Dr.lst a i).map (rowS K))), .pl (vS (.int i)), .pl (lstS ((Dr.lst a (i + 1)).map (rowS K))), o5, o6]) ?_ ?_
    · refine S_forL (ss := (Dr.lst a i).map (rowS K)) [5] (fun j Γ => ∃ o5 o6 : Bd, Γ = [.pl (vS (.int a)), .pl (vS (.int b)), .pl (lstS ((Dr.lst a i).map (rowS K))), .pl (vS (.int i)), .pl (lstS ((Dr.ext a i ((Dr.lst a i).take j)).map (rowS K))), o5, o6]) (E_var rfl ⟨rfl, _, _, rfl⟩) ?_ ?_
      · rintro j s Γ hj ⟨o5, o6, rfl⟩
        obtain ⟨row, hrow, rfl⟩ := mapGet hj
        refine G_name (by decide) ?_
        have hmem := List.mem_of_getElem? hrow
        obtain ⟨rl, rb⟩ := lst_mem ha (Nat.le_trans (Nat.le_of_lt hi) hb) hmem
        have elo : Dr.lo i row = if 0 < i then row.getLastD 0 + 1 else 0 := rfl
        have hlo : 0 ≤ Dr.lo i row ∧ Dr.lo i row ≤ a := by
          rw [elo]
          split
          · have hne : row ≠ [] := fun z => by rw [z] at rl; simp at rl; omega
            have := rb (row.getLastD 0) (by rw [List.getLastD_eq_getLast?, List.getLast?_eq_some_getLast hne]; exact List.getLast_mem hne)
            omega
          · omega
        have hat : 0 < i → L2.atI (iS row) (-1) = some (vS (.int (row.getLastD 0))) := fun h => by
          have hne : row ≠ [] := fun z => by rw [z] at rl; simp at rl; omega
          unfold L2.atI
          have e : ixN (iS row).length (-1) = some (row.length - 1) := by
            unfold ixN
            rw [List.length_map, if_neg (by decide), if_pos (by omega)]
            congr 1
            omega
          rw [e]
          show (iS row)[row.length - 1]? = _
          unfold iS
          rw [List.getElem?_map, ← List.getLast?_eq_getElem?, List.getLast?_eq_some_getLast hne, List.getLastD_eq_getLast?, List.getLast?_eq_some_getLast hne]
          rfl
        refine S_asg (E_op (E_var rfl ?_))
        refine E_lcR (lo := Dr.lo i row) (n := ((a : Int) - Dr.lo i row).toNat) (fun x => tupS K (iS row ++ [vS (.int (Dr.lo i row + (x : Int)))])) (fun _ => true) ?_ (by omega) ?_ ?_
        · refine rng2 (A_cons (E_if (T_test (E_op (E_var rfl (E_c (R_I0 ⟨_, rfl, fun h => ?_, fun h => ?_⟩)))))))
          · have h0 : 0 < i := by
              have := of_decide_eq_true h
              omega
            rw [elo, if_pos h0] at hlo ⊢
            refine E_op (E_op (E_var rfl (E_un (E_c (U_I (R_ixT (hat h0) (E_c (R_I0 (A_cons (E_var rfl (A_nil ⟨rfl, ?_, ?_, ?_, ?_⟩)))))))))))
            all_goals omega
          · have h0 : ¬ 0 < i := by
              have := of_decide_eq_false h
              omega
            rw [elo, if_neg h0] at hlo ⊢
            refine E_c (A_cons (E_var rfl (A_nil ⟨rfl, ?_, ?_, ?_, ?_⟩)))
            all_goals omega
        · intro x hx
          refine G_name (by decide) (T_yes ⟨rfl, fun _ => ?_⟩)
          refine E_op (E_var rfl (E_tup (A_cons (E_var rfl (A_nil ⟨by show 1 ≤ 100000; decide, R_catA (by show (iS row).length + 1 ≤ 100000; rw [List.length_map, rl]; omega) rfl⟩)))))
        · have hsucc : Dr.ext a i ((Dr.lst a i).take (j + 1)) = Dr.ext a i ((Dr.lst a i).take j) ++ (List.range ((a : Int) - Dr.lo i row).toNat).map fun (x : Nat) => row ++ [Dr.lo i row + (x : Int)] := by
            rw [List.take_succ, hrow]
            unfold Dr.ext
            rw [List.flatMap_append]
            simp
          have hle : (Dr.ext a i ((Dr.lst a i).take (j + 1))).length ≤ 1000 := Nat.le_trans (ext_take_le _) (lst_le (k := i + 1) ha (by omega))
          have heq : (Dr.ext a i ((Dr.lst a i).take j)).map (rowS K) ++ ((List.range ((a : Int) - Dr.lo i row).toNat).filter fun _ => true).map (fun (x : Nat) => tupS K (iS row ++ [vS (.int (Dr.lo i row + (x : Int)))])) = (Dr.ext a i ((Dr.lst a i).take (j + 1))).map (rowS K) := by
            rw [hsucc, List.map_append, List.filter_eq_self.mpr (fun _ _ => rfl), List.map_map]
            congr 1
            apply List.map_congr_left
            intro x _
            show _ = tupS K (iS (row ++ _))
            unfold iS
            rw [List.map_append]
            rfl
          refine R_cat ?_ ⟨.pl (rowS K row), o6, ?_⟩
          · rw [← List.length_append, heq, List.length_map]
            omega
          · rw [heq]
            rfl
      · rintro Γ ⟨o5, o6, rfl⟩
        refine ⟨o5, o6, ?_⟩
        rw [List.length_map, List.take_length]
        rfl
    · rintro Γ ⟨o5, o6, rfl⟩
      refine S_asg (E_var rfl ⟨by omega, _, _, _, _, rfl⟩)
  · rintro Γ ⟨_, o3, o4, o5, o6, rfl⟩
    exact S_ret (E_var rfl k)
end
end K83

/-! K83G -/
namespace K83
open PySem PySem.Spec PyProof.Rows L2 Ab RatM AbM

local macro_rules | `(tactic| walk_at "ab") => `(tactic| first
  | (with_reducible refine S_seq ?_) | (with_reducible refine S_ret ?_) | (with_reducible refine S_asg ?_) | (with_reducible refine S_if ?_) | (with_reducible refine S_next ?_) | (with_reducible refine S_par ?_) | (with_reducible refine S_drop ?_) | (with_reducible refine S_retN ?_)
  | (with_reducible refine E_c ?_) | (with_reducible refine E_op ?_) | (with_reducible refine E_un ?_) | (with_reducible refine E_tup (K := ‹PySem.W.Frag›) ?_) | (with_reducible refine E_lst ?_) | (with_reducible refine E_cb ?_) | (with_reducible refine E_if ?_)
  | (with_reducible refine E_fld ?_) | (with_reducible refine E_not ?_) | (with_reducible refine E_and ?_) | (with_reducible refine E_or ?_) | (with_reducible refine E_meth ?_) | (with_reducible refine E_make ?_)
  | (with_reducible refine A_cons ?_) | (with_reducible refine A_nil ?_) | (with_reducible refine E_call (dss := []) (fun _ => .nil) ?_)
  | (with_reducible refine T_test ?_) | (with_reducible refine T_B ?_) | (with_reducible refine T_not ?_) | (with_reducible refine T_and ?_) | (with_reducible refine T_or ?_)
  | (refine E_var rfl ?_) | (refine R_I0 ?_) | (refine R_ixT rfl ?_) | (refine R_ixL rfl ?_) | (refine R_eqI ?_) | (refine R_eqS ?_) | (refine R_neS ?_) | (refine R_eq rfl ?_) | (refine R_ne rfl ?_) | (refine U_I ?_) | (refine R_I ?_ ?_)
  | (refine C_gcd ?_) | (refine C_abs ?_) | (refine C_int ?_) | (refine C_intB ?_)
  | ((with_reducible show ∃ (s s' : Slot), _ = [s, s'] ∧ _); refine ⟨_, _, rfl, ?_⟩)
  | (refine ⟨_, rfl, ?_⟩)
  | (refine spl (fun h => ?_) (fun h => ?_)) | (refine splN (fun h => ?_) (fun h => ?_)) | (refine splT ?_) | (refine splF ?_) | (refine spl2 (fun h => ?_) (fun h => ?_))
  | (refine len_ok ?_) | fail)

local macro_rules | `(tactic| walk_at "len") => `(tactic| first
  | (rintro ⟨e, _⟩; rw [e]; rfl) | (rintro ⟨_, e, _⟩; rw [e]; rfl) | (rintro ⟨_, _, e, _⟩; rw [e]; rfl) | (rintro ⟨_, _, _, e, _⟩; rw [e]; rfl) | (rintro ⟨_, _, _, _, e, _⟩; rw [e]; rfl) | (rintro ⟨_, _, _, _, _, e, _⟩; rw [e]; rfl) | (rintro ⟨_, _, _, _, _, _, e, _⟩; rw [e]; rfl))
section
variable {P : Program} {w : World} {K : PySem.W.Frag} {mg : Str → Option Value} {base : Heap}
def numS (K : PySem.W.Frag) (s : Ab.Slot) : Ab.Slot := tupS K [vS (.str "number"), s]
def manyS (K : PySem.W.Frag) : Ab.Slot := tupS K [vS (.str "many"), vS (.str "draws"), vS (.int 20000), vS (.bl true)]
def drawS (K : PySem.W.Frag) (s : Nat) : Ab.Slot := tupS K [vS (.str "draw"), rowS K ((List.range s).map fun (i : Nat) => (i : Int))]
theorem lk_value (s : Ab.Slot) : (invS [s]).lookup ("value" : Str) = some s := rfl
theorem lk_what (s t : Ab.Slot) : (tmS [s, t]).lookup ("what" : Str) = some s := rfl
theorem lk_most (s t : Ab.Slot) : (tmS [s, t]).lookup ("most" : Str) = some t := rfl
theorem rows_first {n s : Nat} (hs : s ≤ n) : (Dr.rows n s)[0]? = some ((List.range s).map fun (i : Nat) => (i : Int)) := by
  obtain ⟨⟨m, h⟩, _⟩ := Dr.M_chain (n - s) s (n - s) (Nat.le_refl _)
  unfold Dr.rows
  rw [h, Nat.sub_self, List.map_cons, Dr.rw_range]
  rfl
theorem rows_ne {n s : Nat} (hs : s ≤ n) : Dr.rows n s ≠ [] := fun h => by
  have := rows_first hs
  rw [h] at this
  cases this
def F_first (K : PySem.W.Frag) : FS := fun ss Φ _ => ∃ s1 s2 : Ab.Slot, ss = [s1, s2] ∧ ((Bad K s1 40 ∧ Φ (numS K s1)) ∨ ∃ n : Nat, s1 = vS (.int n) ∧ n ≤ 40 ∧ ((Bad K s2 n ∧ Φ (numS K s2)) ∨ ∃ s : Nat, s2 = vS (.int s) ∧ s ≤ n ∧
  ((20000 < Dr.C2 n s ∧ Φ (manyS K)) ∨ (Dr.C2 n s ≤ 20000 ∧ Φ (drawS K s)))))
local macro_rules | `(tactic| walk_at "hd") => `(tactic| first | (with_reducible refine E_xf (E_var rfl ⟨_, _, rfl, rfl, lk_value _, ?_⟩)) | (with_reducible refine E_xf (E_var rfl ⟨_, _, rfl, rfl, lk_what _ _, ?_⟩)) | (with_reducible refine E_xf (E_var rfl ⟨_, _, rfl, rfl, lk_most _ _, ?_⟩)) | walk_at "ab" | fail)
theorem ok_lfirst_draw (T : Tx K mg) : FnOk P w K mg base CX0 6 T.lfirst_draw.f T.lfirst_draw.fd p_lfirst_draw (spOf (F_first K)) := by
  refine ok0 T.lfirst_draw.F sc_lfirst_draw (by intro ss Φ Ψ h; revert h; walk_at "len") (fun cdv Ar outer s H Er hr => ⟨_, (pss_cons (ps_try_asMany (i := 3) rfl rfl sc_lfirst_draw.nd rfl rfl takes0 (fun W pn xe tk po => (pss_one (ps_forN po (hr.mono (by decide)) (pn_call (ok_draws T) (hr.mono (by decide)) rfl T.draws.g T.draws.F.kp T.draws.b (pa_cons (pv 0) (pa_cons (pv 1) pa_nil))) (pg_name (i := 2) sc_lfirst_draw.nd rfl (by first | exact Or.inl rfl | exact Or.inr rfl))
  (pss_one (ps_ret (pe_tup (pa_cons pe_str (pa_cons (pv 2) pa_nil))))) (fun σ => passN tk σ) (fun σ => noStop_WEn σ))))
  (.cons ⟨rfl, by decide, .inl T.gInvalidNumber⟩ (fun a oe cls d pn hz hf => (pss_one (ps_ret (pe_tup (pa_cons pe_str (pa_cons (pe_xf T.fInvalidNumber T.nInvalidNumber_value hz hf (pv 3)) pa_nil)))))) (.cons ⟨rfl, by decide, .inl T.gTooMany⟩ (fun a oe cls d pn hz hf => (pss_one (ps_ret (pe_tup (pa_cons pe_str (pa_cons (pe_xf T.fTooMany T.nTooMany_what hz hf (pv 3)) (pa_cons (pe_xf T.fTooMany T.nTooMany_most hz hf (pv 3)) (pa_cons (pe_callB (AbH.call_isD T.cTooMany hz hf) (by rfl) T.isinstance (by decide +kernel) (pa_cons (pv 3) (pa_cons (pe_glob rfl T.gCountError (rel_ref _)) pa_nil))) pa_nil)))))))) .nil)))
  (pss_one (ps_ret (pe_tup (pa_cons pe_str pa_nil))))), fun ss Φ Ψ h => ?_⟩)
  obtain ⟨s1, s2, rfl, h⟩ := h
  refine S_seq (S_tryMany (tb := fun W => tForN (tMkN (spN (F_draws K T.CInvalidNumber T.CTooMany)) (tCons (tVar 0) (tCons (tVar 1) tNil))) (gName 2) (tRet (tTup (tCons (tC (V.str (Str.ofString "draw"))) (tCons (tVar 2) tNil)))) (WEn K W)) fun W => ?_)
  refine SW_forN (A_cons (E_var rfl (A_cons (E_var rfl (A_nil ⟨s1, s2, rfl, ?_⟩)))))
  rcases h with ⟨hb, k⟩ | ⟨n, rfl, hn, ⟨hb, k⟩ | ⟨s', rfl, hs, ⟨hc, k⟩ | ⟨hc, k⟩⟩⟩
  · refine .inl ⟨hb, T.stInvalidNumber, .inl ⟨T.exII, fun a d => ?_⟩⟩
    repeat' walk_at "hd"
    exact k
  · refine .inr ⟨n, rfl, hn, .inl ⟨hb, T.stInvalidNumber, .inl ⟨T.exII, fun a d => ?_⟩⟩⟩
    repeat' walk_at "hd"
    exact k
  · refine .inr ⟨n, rfl, hn, .inr ⟨s', rfl, hs, .inl ⟨hc, T.stTooMany, .inr ⟨T.exMI, .inl ⟨T.exMM, fun a d => ?_⟩⟩⟩⟩⟩
    repeat' first | (refine C_isD (cv := .ref T.CCE) (fun u h => h) T.isE ?_) | walk_at "hd" | fail
    exact k
  · refine .inr ⟨n, rfl, hn, .inr ⟨s', rfl, hs, .inr ⟨hc, fun i r hr e => ?_, fun e => ?_⟩⟩⟩
    · have hi : i = 0 := by
        have hl := congrArg List.length e
        rw [List.length_map, List.length_take, List.length_nil] at hl
        have := (List.getElem?_eq_some_iff.mp hr).1
        omega
      subst hi
      rw [rows_first hs] at hr
      cases hr
      repeat' walk_at "hd"
      exact k
    · exact absurd (List.map_eq_nil_iff.mp e) (rows_ne hs)
/-! ### _law_refused -/
def F_refused (K : PySem.W.Frag) : FS := fun ss Φ _ => ∃ (way : Int) (s1 s2 s3 : Ab.Slot), ss = [vS (.int way), s1, s2, s3] ∧ ((Bad K s1 40 ∧ Φ (numS K s1)) ∨ ∃ n : Nat, s1 = vS (.int n) ∧ n ≤ 40 ∧ ((Bad K s2 n ∧ Φ (numS K s2)) ∨ ∃ m : Nat, s2 = vS (.int m) ∧ m ≤ n ∧
  ((way = 0 ∧ Bad K s3 n ∧ Φ (numS K s3)) ∨ (way ≠ 0 ∧ BadL K s3 ∧ Φ (numS K s3)))))
theorem ok_lrefused (T : Tx K mg) : FnOk P w K mg base CX0 6 T.lrefused.f T.lrefused.fd p_lrefused (spOf (F_refused K)) := by
  refine ok0 T.lrefused.F sc_lrefused (by intro ss Φ Ψ h; revert h; walk_at "len") (fun cdv Ar outer s H Er hr => ⟨_, (pss_cons (ps_try_as (i := 4) rfl rfl sc_lrefused.nd rfl rfl ⟨rfl, by decide, .inl T.gInvalidNumber⟩ takes0 (fun W pn xe tk po => (pss_one (ps_if (pt_cmpR op_eq (pv 0) pe_int (nomark _))
  (pss_one (ps_expr (pe_callS (ok_risk T) (hr.mono (by decide)) rfl T.risk.g T.risk.F.kp T.risk.b (fun σ => passAt tk σ) (pa_cons (pv 1) (pa_cons (pv 2) (pa_cons (pv 3) pa_nil))))))
  (pss_one (ps_expr (pe_callS (ok_least_draws T) (hr.mono (by decide)) rfl T.least_draws.g T.least_draws.F.kp T.least_draws.b (fun σ => passAt tk σ) (pa_cons (pv 1) (pa_cons (pv 2) (pa_cons (pv 3) pa_nil)))))))))
  (fun a oe cls d pn hz hf => (pss_one (ps_ret (pe_tup (pa_cons pe_str (pa_cons (pe_xf T.fInvalidNumber T.nInvalidNumber_value hz hf (pv 4)) pa_nil)))))))
  (pss_one (ps_ret (pe_tup (pa_cons pe_str pa_nil))))), fun ss Φ Ψ h => ?_⟩)
  obtain ⟨way, s1, s2, s3, rfl, h⟩ := h
  refine S_seq (S_tryAs (tb := fun W => tIfS (tTest (tOp rEq (tVar 0) (tC (V.int 0)))) (tDrop (tCallS (spOf (F_risk K T.CInvalidNumber)) (WE W) (tCons (tVar 1) (tCons (tVar 2) (tCons (tVar 3) tNil))))) (tDrop (tCallS (spOf (F_least K T.CInvalidNumber)) (WE W) (tCons (tVar 1) (tCons (tVar 2) (tCons (tVar 3) tNil)))))) fun W => SW_if ?_)
  refine T_test (E_op (E_var rfl (E_c (R_eqI ⟨_, rfl, fun hw => ?_, fun hw => ?_⟩))))
  · have hw : way = 0 := of_decide_eq_true hw
    refine SW_drop (A_cons (E_var rfl (A_cons (E_var rfl (A_cons (E_var rfl (A_nil ⟨s1, s2, s3, rfl, ?_⟩)))))))
    rcases h with ⟨hb, k⟩ | ⟨n, rfl, hn, ⟨hb, k⟩ | ⟨m, rfl, hm, ⟨_, hb, k⟩ | ⟨hz, _⟩⟩⟩
    · refine .inl ⟨hb, .inl ⟨T.exII, fun a d => ?_⟩⟩
      repeat' walk_at "hd"
      exact k
    · refine .inr ⟨n, rfl, hn, .inl ⟨hb, .inl ⟨T.exII, fun a d => ?_⟩⟩⟩
      repeat' walk_at "hd"
      exact k
    · refine .inr ⟨n, rfl, hn, .inr ⟨m, rfl, hm, .inl ⟨hb, .inl ⟨T.exII, fun a d => ?_⟩⟩⟩⟩
      repeat' walk_at "hd"
      exact k
    · exact absurd hw hz
  · have hw : ¬ way = 0 := of_decide_eq_false hw
    refine SW_drop (A_cons (E_var rfl (A_cons (E_var rfl (A_cons (E_var rfl (A_nil ⟨s1, s2, s3, rfl, ?_⟩)))))))
    rcases h with ⟨hb, k⟩ | ⟨n, rfl, hn, ⟨hb, k⟩ | ⟨m, rfl, hm, ⟨hz, _⟩ | ⟨_, hb, k⟩⟩⟩
    · refine .inl ⟨hb, .inl ⟨T.exII, fun a d => ?_⟩⟩
      repeat' walk_at "hd"
      exact k
    · refine .inr ⟨n, rfl, hn, .inl ⟨hb, .inl ⟨T.exII, fun a d => ?_⟩⟩⟩
      repeat' walk_at "hd"
      exact k
    · exact absurd hz hw
    · refine .inr ⟨n, rfl, hn, .inr ⟨m, rfl, hm, .inl ⟨hb, .inl ⟨T.exII, fun a d => ?_⟩⟩⟩⟩
      repeat' walk_at "hd"
      exact k
end
end K83

/-! K83I -/
namespace K83
open PySem PySem.Spec PyProof.Rows L2 Ab RatM AbM

local macro_rules | `(tactic| walk_at "ab") => `(tactic| first
  | (with_reducible refine S_seq ?_) | (with_reducible refine S_ret ?_) | (with_reducible refine S_asg ?_) | (with_reducible refine S_if ?_) | (with_reducible refine S_next ?_) | (with_reducible refine S_par ?_) | (with_reducible refine S_drop ?_) | (with_reducible refine S_retN ?_)
  | (with_reducible refine E_c ?_) | (with_reducible refine E_op ?_) | (with_reducible refine E_un ?_) | (with_reducible refine E_tup (K := ‹PySem.W.Frag›) ?_) | (with_reducible refine E_lst ?_) | (with_reducible refine E_cb ?_) | (with_reducible refine E_if ?_)
  | (with_reducible refine E_fld ?_) | (with_reducible refine E_not ?_) | (with_reducible refine E_and ?_) | (with_reducible refine E_or ?_) | (with_reducible refine E_meth ?_) | (with_reducible refine E_make ?_)
  | (with_reducible refine A_cons ?_) | (with_reducible refine A_nil ?_) | (with_reducible refine E_call (dss := []) (fun _ => .nil) ?_)
  | (with_reducible refine T_test ?_) | (with_reducible refine T_B ?_) | (with_reducible refine T_not ?_) | (with_reducible refine T_and ?_) | (with_reducible refine T_or ?_)
  | (refine E_var rfl ?_) | (refine R_I0 ?_) | (refine R_ixT rfl ?_) | (refine R_ixL rfl ?_) | (refine R_eqI ?_) | (refine R_eqS ?_) | (refine R_neS ?_) | (refine R_eq rfl ?_) | (refine R_ne rfl ?_) | (refine U_I ?_) | (refine R_I ?_ ?_)
  | (refine C_gcd ?_) | (refine C_abs ?_) | (refine C_int ?_) | (refine C_intB ?_)
  | ((with_reducible show ∃ (s s' : Slot), _ = [s, s'] ∧ _); refine ⟨_, _, rfl, ?_⟩)
  | (refine ⟨_, rfl, ?_⟩)
  | (refine spl (fun h => ?_) (fun h => ?_)) | (refine splN (fun h => ?_) (fun h => ?_)) | (refine splT ?_) | (refine splF ?_) | (refine spl2 (fun h => ?_) (fun h => ?_))
  | (refine len_ok ?_) | fail)

local macro_rules | `(tactic| walk_at "len") => `(tactic| first
  | (rintro ⟨e, _⟩; rw [e]; rfl) | (rintro ⟨_, e, _⟩; rw [e]; rfl) | (rintro ⟨_, _, e, _⟩; rw [e]; rfl) | (rintro ⟨_, _, _, e, _⟩; rw [e]; rfl) | (rintro ⟨_, _, _, _, e, _⟩; rw [e]; rfl) | (rintro ⟨_, _, _, _, _, e, _⟩; rw [e]; rfl) | (rintro ⟨_, _, _, _, _, _, e, _⟩; rw [e]; rfl))
local macro_rules | `(tactic| walk_at "pull") => `(tactic| ((with_reducible show F_pull _ _ _); refine ⟨_, rfl, (by first | decide | omega), (by first | decide | omega), fun r r0 r1 => ?_⟩))
local macro_rules | `(tactic| walk_at "pw") => `(tactic| first | ((with_reducible show CPow _ _); exact ⟨by decide, by decide, by decide⟩) | fail)
local macro_rules | `(tactic| walk_at "of") => `(tactic| ((with_reducible show F_of _ _ _); refine ⟨_, rfl, Nat.le_of_ble_eq_true rfl, Nat.le_of_ble_eq_true rfl, fun s hs => ?_⟩))
section
variable {P : Program} {w : World} {K : PySem.W.Frag} {mg : Str → Option Value} {base : Heap}
theorem p9 : (10 : Int) ^ Int.toNat 9 = 1000000000 := by decide
theorem p6 : (10 : Int) ^ Int.toNat 6 = 1000000 := by decide
theorem lk_num {s : Ab.Slot} (h : Lk K 1 s) : Lk K 3 (numS K s) := .inr ⟨_, .inl rfl, by show 2 ≤ 50000; decide, fun x hx => by
  rcases List.mem_cons.mp hx with rfl | hx
  · exact .inl (.inr (.inr (.inr ⟨_, rfl, by decide +kernel⟩)))
  · rw [List.mem_singleton.mp hx]; exact h.up⟩
def WrongS (K : PySem.W.Frag) (n : Nat) (s : Ab.Slot) : Prop := Bad K s n ∧ Lk K 1 s ∧ BadL K s
theorem badL_ty {s : Ab.Slot} {t : String} (h : TyS K s (.type t)) (hk : kitB t "tuple" = some false) : BadL K s := .inl ⟨t, h, kit_ty hk⟩
theorem wr_int {i : Int} {n : Nat} (h : ¬ (0 ≤ i ∧ i ≤ n)) : WrongS K n (vS (.int i)) := ⟨.inl ⟨i, rfl, h⟩, .inl (lk_int i), badL_ty (ty_int i) (by decide +kernel)⟩
theorem wr_bl {b : Bool} {n : Nat} : WrongS K n (vS (.bl b)) := ⟨.inr (odd_bl b), .inl (.inr (.inr (.inl ⟨b, rfl⟩))), badL_ty (ty_bl b) (by decide +kernel)⟩
theorem wr_non {n : Nat} : WrongS K n (vS .non) := ⟨.inr odd_non, .inl (.inl rfl), badL_ty ty_non (by decide +kernel)⟩
theorem wr_str {x : Str} {n : Nat} (h : (PyData.str x).canLay0 = true) : WrongS K n (vS (.str x)) := ⟨.inr (odd_str x), .inl (.inr (.inr (.inr ⟨x, rfl, h⟩))), badL_ty (ty_str x) (by decide +kernel)⟩
theorem wr_lst {l : List Int} {n : Nat} (h : l.length ≤ 50000) : WrongS K n (lstS (iS l)) := ⟨.inr (odd_lst _), .inr ⟨_, .inr rfl, by rw [List.length_map]; exact h, fun x hx => by
  obtain ⟨i, _, rfl⟩ := List.mem_map.mp hx
  exact lk_int i⟩, badL_ty ty_lst (by decide +kernel)⟩
theorem bad_tup {l : List Int} {n : Nat} (h : l.length ≤ 50000) : Bad K (tupS K (iS l)) n ∧ Lk K 1 (tupS K (iS l)) := ⟨.inr (odd_tup _), lk_row l h⟩
theorem badL_pair {i j : Int} (h : ¬ (0 ≤ i ∧ i ≤ j ∧ Nat.gcd i.natAbs j.natAbs = 1)) : BadL K (tupS K [vS (.int i), vS (.int j)]) := .inr (.inr (.inr ⟨i, j, rfl, h⟩))
theorem wr_odd {s : Ab.Slot} (h : s ∈ [vS (V.int (-1)), vS (V.int 41), vS (V.bl true), vS (V.bl false), vS V.non, vS (V.str (Str.ofString "3")), tupS K [vS (V.int 1)], vS (V.int (10 ^ Int.toNat 15))]) : WrongS K 40 s := by
  simp only [List.mem_cons, List.not_mem_nil, or_false] at h
  rcases h with rfl | rfl | rfl | rfl | rfl | rfl | rfl | rfl
  · exact wr_int (by omega)
  · exact wr_int (by omega)
  · exact wr_bl
  · exact wr_bl
  · exact wr_non
  · exact wr_str (by decide +kernel)
  · exact ⟨(bad_tup (l := [1]) (by decide)).1, (bad_tup (l := [1]) (n := 40) (by decide)).2, .inr (.inl ⟨_, rfl, by show 1 ≠ 2; decide⟩)⟩
  · exact wr_int (by rw [p15]; omega)
theorem wr_wrong {s : Ab.Slot} {n : Nat} (h : s ∈ [vS (V.int (-1)), vS (V.int ((n : Int) + 1)), vS (V.bl true), vS V.non, vS (V.str (Str.ofString "0")), lstS [vS (V.int 0)], vS (V.int (10 ^ Int.toNat 9))]) (hn : n ≤ 40) : WrongS K n s := by
  simp only [List.mem_cons, List.not_mem_nil, or_false] at h
  rcases h with rfl | rfl | rfl | rfl | rfl | rfl | rfl
  · exact wr_int (by omega)
  · exact wr_int (by omega)
  · exact wr_bl
  · exact wr_non
  · exact wr_str (by decide +kernel)
  · exact wr_lst (l := [0]) (by decide)
  · exact wr_int (by rw [p9]; omega)
theorem wr_bound {s : Ab.Slot} (h : s ∈ [tupS K [vS (V.int (-1)), vS (V.int 1)], tupS K [vS (V.int 2), vS (V.int 1)], tupS K [vS (V.int 3), vS (V.int 2)], tupS K [vS (V.int (-1)), vS (V.int (10 ^ Int.toNat 9))], tupS K [vS (V.int (10 ^ Int.toNat 9 + 1)), vS (V.int (10 ^ Int.toNat 9))]]) : BadL K s ∧ Lk K 1 s := by
  simp only [List.mem_cons, List.not_mem_nil, or_false] at h
  rcases h with rfl | rfl | rfl | rfl | rfl
  · exact ⟨badL_pair (by decide), lk_row [_, _] (by decide)⟩
  · exact ⟨badL_pair (by decide), lk_row [_, _] (by decide)⟩
  · exact ⟨badL_pair (by decide), lk_row [_, _] (by decide)⟩
  · exact ⟨badL_pair (by omega), lk_row [_, _] (by decide)⟩
  · exact ⟨badL_pair (by omega), lk_row [_, _] (by decide)⟩
theorem walk_L {s : Ab.Slot} {Φ : Ab.Slot → Prop} {Ψ} (h : Lk K 3 s) (k : Φ (vS (.bl true))) : F_like K [s, s] Φ Ψ := ⟨_, rfl, k, h⟩
theorem walk_R1 {way : Int} {s1 s2 s3 : Ab.Slot} {Φ : Ab.Slot → Prop} {Ψ} (h : (Bad K s1 40 ∧ Φ (numS K s1)) ∨ ∃ n : Nat, s1 = vS (.int n) ∧ n ≤ 40 ∧ ((Bad K s2 n ∧ Φ (numS K s2)) ∨ ∃ m : Nat, s2 = vS (.int m) ∧ m ≤ n ∧
  ((way = 0 ∧ Bad K s3 n ∧ Φ (numS K s3)) ∨ (way ≠ 0 ∧ BadL K s3 ∧ Φ (numS K s3))))) : F_refused K [vS (.int way), s1, s2, s3] Φ Ψ := ⟨_, _, _, _, rfl, h⟩
theorem walk_F {s1 s2 : Ab.Slot} {Φ : Ab.Slot → Prop} {Ψ} (h : (Bad K s1 40 ∧ Φ (numS K s1)) ∨ ∃ n : Nat, s1 = vS (.int n) ∧ n ≤ 40 ∧ ((Bad K s2 n ∧ Φ (numS K s2)) ∨ ∃ s : Nat, s2 = vS (.int s) ∧ s ≤ n ∧
  ((20000 < Dr.C2 n s ∧ Φ (manyS K)) ∨ (Dr.C2 n s ≤ 20000 ∧ Φ (drawS K s))))) : F_first K [s1, s2] Φ Ψ := ⟨_, _, rfl, h⟩
theorem ok_lerrors (T : Tx K mg) : FnOk P w K mg base CX0 7 T.lerrors.f T.lerrors.fd p_lerrors (spOf ((fun ss Φ _ => ∃ n : Nat, ss = [bagS, vS (.int n)] ∧ n ≤ 40 ∧ Φ (vS (.bl true))))) := by
  refine ok0 T.lerrors.F sc_lerrors (by intro ss Φ Ψ h; revert h; walk_at "len") (fun cdv Ar outer s H Er hr => ⟨_, (pss_cons (ps_set (i := 2) sc_lerrors.nd rfl (by first | exact Or.inl rfl | exact Or.inr rfl) (pe_call (ok_lof T) (hr.mono (by decide)) rfl T.lof.g T.lof.F.kp T.lof.b .nil pass0 (pa_cons (pv 0) (pa_cons (pe_lst (pa_cons (pe_un un_neg pe_int) (pa_cons pe_int (pa_cons pe_bl (pa_cons pe_bl (pa_cons pe_non (pa_cons pe_str (pa_cons (pe_tup (pa_cons pe_int pa_nil)) (pa_cons (pe_op op_pow pe_int pe_int) pa_nil))))))))) pa_nil))))
  (pss_cons (ps_set (i := 3) sc_lerrors.nd rfl (by first | exact Or.inl rfl | exact Or.inr rfl) (pe_call (ok_lof T) (hr.mono (by decide)) rfl T.lof.g T.lof.F.kp T.lof.b .nil pass0 (pa_cons (pv 0) (pa_cons (pe_lst (pa_cons (pe_un un_neg pe_int) (pa_cons (pe_op op_add (pv 1) pe_int) (pa_cons pe_bl (pa_cons pe_non (pa_cons pe_str (pa_cons (pe_lst (pa_cons pe_int pa_nil)) (pa_cons (pe_op op_pow pe_int pe_int) pa_nil)))))))) pa_nil))))
  (pss_cons (ps_set (i := 4) sc_lerrors.nd rfl (by first | exact Or.inl rfl | exact Or.inr rfl) (pe_call (ok_lpull T) (hr.mono (by decide)) rfl T.lpull.g T.lpull.F.kp T.lpull.b .nil pass0 (pa_cons (pv 0) (pa_cons (pe_op op_add (pv 1) pe_int) pa_nil))))
  (pss_cons (ps_if (pt_not (pt_val (pe_callB (cr_all rfl) (by rfl) T.all (by decide +kernel) (pa_cons (pe_lc (own := [("k", 6)]) (g := (gName 6)) (tt := tYes) (by rfl) sc_lerrors.nd (pi_list (pe_lst (pa_cons pe_int (pa_cons pe_int pa_nil)))) (blkOk_by (own := [("k", 6)]) (N := n_lerrors) (sc := defScope s_lerrors) (by decide +kernel)) (fun _ _ _ _ _ => (pg_name (i := 6) sc_lerrors.nd rfl (Or.inl rfl) (Or.inr rfl))) (fun _ _ _ _ _ => pts_nil) (fun _ _ _ _ _ => (pe_call (ok_llike T) (hr.mono (by decide)) rfl T.llike.g T.llike.F.kp T.llike.b .nil pass0 (pa_cons (pe_call (ok_lrefused T) (hr.mono (by decide)) rfl T.lrefused.g T.lrefused.F.kp T.lrefused.b .nil pass0 (pa_cons (pv 6) (pa_cons (pv 2) (pa_cons (pv 3) (pa_cons (pe_tup (pa_cons pe_int (pa_cons pe_int pa_nil))) pa_nil))))) (pa_cons (pe_tup (pa_cons pe_str (pa_cons (pv 2) pa_nil))) pa_nil))))) pa_nil))))
  (pss_one (ps_ret pe_bl))
  pss_nil)
  (pss_cons (ps_if (pt_not (pt_val (pe_callB (cr_all rfl) (by rfl) T.all (by decide +kernel) (pa_cons (pe_lc (own := [("k", 6)]) (g := (gName 6)) (tt := tYes) (by rfl) sc_lerrors.nd (pi_list (pe_lst (pa_cons pe_int (pa_cons pe_int pa_nil)))) (blkOk_by (own := [("k", 6)]) (N := n_lerrors) (sc := defScope s_lerrors) (by decide +kernel)) (fun _ _ _ _ _ => (pg_name (i := 6) sc_lerrors.nd rfl (Or.inl rfl) (Or.inr rfl))) (fun _ _ _ _ _ => pts_nil) (fun _ _ _ _ _ => (pe_call (ok_llike T) (hr.mono (by decide)) rfl T.llike.g T.llike.F.kp T.llike.b .nil pass0 (pa_cons (pe_call (ok_lrefused T) (hr.mono (by decide)) rfl T.lrefused.g T.lrefused.F.kp T.lrefused.b .nil pass0 (pa_cons (pv 6) (pa_cons (pv 1) (pa_cons (pv 3) (pa_cons (pe_tup (pa_cons pe_int (pa_cons pe_int pa_nil))) pa_nil))))) (pa_cons (pe_tup (pa_cons pe_str (pa_cons (pv 3) pa_nil))) pa_nil))))) pa_nil))))
  (pss_one (ps_ret pe_bl))
  pss_nil)
  (pss_cons (ps_set (i := 5) sc_lerrors.nd rfl (by first | exact Or.inl rfl | exact Or.inr rfl) (pe_call (ok_lof T) (hr.mono (by decide)) rfl T.lof.g T.lof.F.kp T.lof.b .nil pass0 (pa_cons (pv 0) (pa_cons (pe_lst (pa_cons (pe_tup (pa_cons (pe_un un_neg pe_int) (pa_cons pe_int pa_nil))) (pa_cons (pe_tup (pa_cons pe_int (pa_cons pe_int pa_nil))) (pa_cons (pe_tup (pa_cons pe_int (pa_cons pe_int pa_nil))) (pa_cons (pe_tup (pa_cons (pe_un un_neg pe_int) (pa_cons (pe_op op_pow pe_int pe_int) pa_nil))) (pa_cons (pe_tup (pa_cons (pe_op op_add (pe_op op_pow pe_int pe_int) pe_int) (pa_cons (pe_op op_pow pe_int pe_int) pa_nil))) pa_nil)))))) pa_nil))))
  (pss_cons (ps_if (PW.pt (pw_or (pt_not (pt_val (pe_call (ok_llike T) (hr.mono (by decide)) rfl T.llike.g T.llike.F.kp T.llike.b .nil pass0 (pa_cons (pe_call (ok_lrefused T) (hr.mono (by decide)) rfl T.lrefused.g T.lrefused.F.kp T.lrefused.b .nil pass0 (pa_cons pe_int (pa_cons (pv 1) (pa_cons (pv 4) (pa_cons (pv 3) pa_nil))))) (pa_cons (pe_tup (pa_cons pe_str (pa_cons (pv 3) pa_nil))) pa_nil))))) (pw_or1 (pt_not (pt_val (pe_call (ok_llike T) (hr.mono (by decide)) rfl T.llike.g T.llike.F.kp T.llike.b .nil pass0 (pa_cons (pe_call (ok_lrefused T) (hr.mono (by decide)) rfl T.lrefused.g T.lrefused.F.kp T.lrefused.b .nil pass0 (pa_cons pe_int (pa_cons (pv 1) (pa_cons (pv 4) (pa_cons (pv 5) pa_nil))))) (pa_cons (pe_tup (pa_cons pe_str (pa_cons (pv 5) pa_nil))) pa_nil))))))))
  (pss_one (ps_ret pe_bl))
  pss_nil)
  (pss_one (ps_ret (pe_and (pe_call (ok_llike T) (hr.mono (by decide)) rfl T.llike.g T.llike.F.kp T.llike.b .nil pass0 (pa_cons (pe_call (ok_lfirst_draw T) (hr.mono (by decide)) rfl T.lfirst_draw.g T.lfirst_draw.F.kp T.lfirst_draw.b .nil pass0 (pa_cons (pv 2) (pa_cons (pv 3) pa_nil))) (pa_cons (pe_tup (pa_cons pe_str (pa_cons (pv 2) pa_nil))) pa_nil))) (pe_one (pe_call (ok_llike T) (hr.mono (by decide)) rfl T.llike.g T.llike.F.kp T.llike.b .nil pass0 (pa_cons (pe_call (ok_lfirst_draw T) (hr.mono (by decide)) rfl T.lfirst_draw.g T.lfirst_draw.F.kp T.lfirst_draw.b .nil pass0 (pa_cons (pv 1) (pa_cons (pv 3) pa_nil))) (pa_cons (pe_tup (pa_cons pe_str (pa_cons (pv 3) pa_nil))) pa_nil)))))))))))))), fun ss Φ Ψ h => ?_⟩)
  obtain ⟨n, rfl, hn, k⟩ := h
  repeat' first | walk_at "of" | walk_at "pull" | walk_at "pw" | walk_at "ab" | fail
  rename_i s1 h1 s2 h2 r r0 r1
  have w1 : WrongS K 40 s1 := wr_odd h1
  have w2 : WrongS K n s2 := wr_wrong h2 hn
  obtain ⟨m, rfl⟩ : ∃ m : Nat, r = (m : Int) := ⟨r.toNat, by omega⟩
  clear h1 h2
  refine E_lcL [0, 1] (fun k => vS (.int k)) (fun _ => vS (.bl true)) (fun _ => true) ?_ (by decide) ?_ ?_
  · repeat' first | walk_at "ab" | fail
    rfl
  · intro i _
    refine G_name (by decide) (T_yes ⟨rfl, fun _ => ?_⟩)
    repeat' first | (refine walk_R1 (.inl ⟨w1.1, ?_⟩)) | (refine walk_L (lk_num w1.2.1) ?_) | walk_at "ab" | fail
    rfl
  refine A_nil (C_all [true, true] rfl ?_)
  repeat' first | walk_at "ab" | fail
  refine E_lcL [0, 1] (fun k => vS (.int k)) (fun _ => vS (.bl true)) (fun _ => true) ?_ (by decide) ?_ ?_
  · repeat' first | walk_at "ab" | fail
    rfl
  · intro i _
    refine G_name (by decide) (T_yes ⟨rfl, fun _ => ?_⟩)
    repeat' first | (refine walk_R1 (.inr ⟨n, rfl, hn, .inl ⟨w2.1, ?_⟩⟩)) | (refine walk_L (lk_num w2.2.1) ?_) | walk_at "ab" | fail
    rfl
  refine A_nil (C_all [true, true] rfl ?_)
  repeat' first | (refine walk_R1 (.inr ⟨n, rfl, hn, .inr ⟨m, rfl, by omega, .inl ⟨rfl, w2.1, ?_⟩⟩⟩)) | (refine walk_L (lk_num w2.2.1) ?_) | walk_at "of" | walk_at "pull" | walk_at "pw" | walk_at "ab" | fail
  rename_i s3 h3
  have w3 := wr_bound (K := K) h3
  clear h3
  refine walk_R1 (.inr ⟨n, rfl, hn, .inr ⟨m, rfl, by omega, .inr ⟨by decide, w3.1, ?_⟩⟩⟩)
  repeat' first | (refine walk_L (lk_num w3.2) ?_) | walk_at "ab" | fail
  refine walk_F (.inl ⟨w1.1, ?_⟩)
  repeat' first | (refine walk_L (lk_num w1.2.1) ?_) | walk_at "ab" | fail
  refine walk_F (.inr ⟨n, rfl, hn, .inl ⟨w2.1, ?_⟩⟩)
  repeat' first | (refine walk_L (lk_num w2.2.1) ?_) | walk_at "ab" | fail
  exact k
end
end K83

/-! K83J -/
namespace K83
open PySem PySem.Spec PyProof.Rows L2 Ab RatM AbM

local macro_rules | `(tactic| walk_at "ab") => `(tactic| first
  | (with_reducible refine S_seq ?_) | (with_reducible refine S_ret ?_) | (with_reducible refine S_asg ?_) | (with_reducible refine S_if ?_) | (with_reducible refine S_next ?_) | (with_reducible refine S_par ?_) | (with_reducible refine S_drop ?_) | (with_reducible refine S_retN ?_)
  | (with_reducible refine E_c ?_) | (with_reducible refine E_op ?_) | (with_reducible refine E_un ?_) | (with_reducible refine E_tup (K := ‹PySem.W.Frag›) ?_) | (with_reducible refine E_lst ?_) | (with_reducible refine E_cb ?_) | (with_reducible refine E_if ?_)
  | (with_reducible refine E_fld ?_) | (with_reducible refine E_not ?_) | (with_reducible refine E_and ?_) | (with_reducible refine E_or ?_) | (with_reducible refine E_meth ?_) | (with_reducible refine E_make ?_)
  | (with_reducible refine A_cons ?_) | (with_reducible refine A_nil ?_) | (with_reducible refine E_call (dss := []) (fun _ => .nil) ?_)
  | (with_reducible refine T_test ?_) | (with_reducible refine T_B ?_) | (with_reducible refine T_not ?_) | (with_reducible refine T_and ?_) | (with_reducible refine T_or ?_)
  | (refine E_var rfl ?_) | (refine R_I0 ?_) | (refine R_ixT rfl ?_) | (refine R_ixL rfl ?_) | (refine R_eqI ?_) | (refine R_eqS ?_) | (refine R_neS ?_) | (refine R_eq rfl ?_) | (refine R_ne rfl ?_) | (refine U_I ?_) | (refine R_I ?_ ?_)
  | (refine C_gcd ?_) | (refine C_abs ?_) | (refine C_int ?_) | (refine C_intB ?_)
  | ((with_reducible show ∃ (s s' : Slot), _ = [s, s'] ∧ _); refine ⟨_, _, rfl, ?_⟩)
  | (refine ⟨_, rfl, ?_⟩)
  | (refine spl (fun h => ?_) (fun h => ?_)) | (refine splN (fun h => ?_) (fun h => ?_)) | (refine splT ?_) | (refine splF ?_) | (refine spl2 (fun h => ?_) (fun h => ?_))
  | (refine len_ok ?_) | fail)

local macro_rules | `(tactic| walk_at "len") => `(tactic| first
  | (rintro ⟨e, _⟩; rw [e]; rfl) | (rintro ⟨_, e, _⟩; rw [e]; rfl) | (rintro ⟨_, _, e, _⟩; rw [e]; rfl) | (rintro ⟨_, _, _, e, _⟩; rw [e]; rfl) | (rintro ⟨_, _, _, _, e, _⟩; rw [e]; rfl) | (rintro ⟨_, _, _, _, _, e, _⟩; rw [e]; rfl) | (rintro ⟨_, _, _, _, _, _, e, _⟩; rw [e]; rfl))
local macro_rules | `(tactic| walk_at "pull") => `(tactic| ((with_reducible show F_pull _ _ _); refine ⟨_, rfl, (by first | decide | omega), (by first | decide | omega), fun r r0 r1 => ?_⟩))
local macro_rules | `(tactic| walk_at "pw") => `(tactic| first | ((with_reducible show CPow _ _); exact ⟨by decide, by decide, by decide⟩) | fail)
local macro_rules | `(tactic| walk_at "of") => `(tactic| ((with_reducible show F_of _ _ _); refine ⟨_, rfl, Nat.le_of_ble_eq_true rfl, Nat.le_of_ble_eq_true rfl, fun s hs => ?_⟩))
section
variable {P : Program} {w : World} {K : PySem.W.Frag} {mg : Str → Option Value} {base : Heap}

theorem unit_divInt {a b : Int} (h0 : 0 ≤ a) (h1 : a ≤ b) (hb : 0 < b) : 0 ≤ Rat.divInt a b ∧ Rat.divInt a b ≤ 1 := by
  refine ⟨Rat.divInt_nonneg h0 (Int.le_of_lt hb), ?_⟩
  rw [Rat.le_iff]
  have hn := RatM.num_pos (t := a) hb
  have hd := RatM.den_pos (t := a) hb
  have hg := gcd_pos (t := a) (b := b) (by omega)
  rw [RatM.fdiv_pos hg] at hn hd
  show (Rat.divInt a b).num * 1 ≤ 1 * ((Rat.divInt a b).den : Int)
  rw [Int.mul_one, Int.one_mul, ← hn, ← hd]
  exact Int.ediv_le_ediv hg h1
theorem c2_mono1 : ∀ n k : Fin 41, n.1 < 40 → Dr.C2 n k ≤ Dr.C2 (n.1 + 1) k := by decide +kernel
theorem c2_mono {n k : Nat} (hn : n ≤ 40) (hk : k ≤ 40) : ∀ d, d ≤ n → Dr.C2 (n - d) k ≤ Dr.C2 n k
  | 0, _ => by rw [Nat.sub_zero]; exact Int.le_refl _
  | d + 1, h => by
    have h1 := c2_mono hn hk d (by omega)
    have h2 := c2_mono1 ⟨n - (d + 1), by omega⟩ ⟨k, by omega⟩ (by show n - (d + 1) < 40; omega)
    have e : n - (d + 1) + 1 = n - d := by omega
    rw [show (⟨n - (d + 1), by omega⟩ : Fin 41).1 + 1 = n - d from e] at h2
    exact Int.le_trans h2 h1
theorem part_unit {n m s : Nat} (hn : n ≤ 40) (hm : m ≤ n) (hs : s ≤ n) : 0 ≤ part n m s ∧ part n m s ≤ 1 :=
  unit_divInt (Dr.c2_size ⟨n - m, by omega⟩ ⟨s, by omega⟩).1 (c2_mono hn (by omega) m hm) (Dr.c2_pos ⟨n, by omega⟩ ⟨s, by omega⟩ hs)
theorem c2_few : ∀ n k : Fin 13, Dr.C2 n k ≤ 20000 := by decide +kernel
theorem c2_two : ∀ n : Fin 41, Dr.C2 n 2 ≤ 20000 := by decide +kernel
/-- the state of law -/
def lG (K : PySem.W.Frag) (ns : List Int) (l : List Bd) : List Bd := .pl (seqS K (ns.map V.int)) :: .pl bagS :: (l ++ List.replicate (20 - l.length) .no)
local macro_rules | `(tactic| walk_at "like") => `(tactic| (refine walk_L ?_ ?_))
/-- a limit: a worth from 0 to 1 -/
def Lim (K : PySem.W.Frag) (s : Ab.Slot) : Prop := ∃ q : Rat, s = ratS K q ∧ 0 ≤ q ∧ q ≤ 1 ∧ Bq q
theorem lim_of {s : Ab.Slot} {a b c d : Int} {n m t : Nat} {r1 r2 : Int} (hn : n ≤ 40) (hm : m ≤ n) (ht : t ≤ n) (h1 : 0 ≤ r1 ∧ r1 < 10) (h2 : 0 ≤ r2 ∧ r2 < 400) (h : s ∈ [tupS K [vS (V.int 0), vS (V.int 1)], tupS K [vS (V.int 1), vS (V.int 1)], ratS K (part n m t), ratS K (part n m t), ratS K (part n m t * Rat.divInt 999999 1000000), ratS K (Rat.divInt r1 9), ratS K (Rat.divInt 1 (1 + r2))]) : Lim K s := by
  have hp := part_unit hn hm ht
  have hu : (0 : Rat) ≤ Rat.divInt 999999 1000000 ∧ Rat.divInt 999999 1000000 ≤ 1 := unit_divInt (by decide) (by decide) (by decide)
  simp only [List.mem_cons, List.not_mem_nil, or_false] at h
  rcases h with rfl | rfl | rfl | rfl | rfl | rfl | rfl
  · exact ⟨0, rfl, by decide, by decide, by decide, by decide⟩
  · exact ⟨1, rfl, by decide, by decide, by decide, by decide⟩
  · exact ⟨_, rfl, hp.1, hp.2, part_q hn ht⟩
  · exact ⟨_, rfl, hp.1, hp.2, part_q hn ht⟩
  · refine ⟨_, rfl, Rat.mul_nonneg hp.1 hu.1, ?_, ?_⟩
    · have := Rat.mul_le_mul_of_nonneg_left hu.2 hp.1
      rw [Rat.mul_one] at this
      exact Rat.le_trans this hp.2
    · exact sz_mul (part_sz hn ht) (sz_divInt (n := 20) (d := 20) (by decide) (by decide) (by decide)) (by decide) (by decide) (by decide)
  · exact ⟨_, rfl, (unit_divInt (by omega) (by omega) (by omega)).1, (unit_divInt (by omega) (by omega) (by omega)).2, sz_divInt (by omega) (by decide) (by decide)⟩
  · exact ⟨_, rfl, (unit_divInt (by omega) (by omega) (by omega)).1, (unit_divInt (by omega) (by omega) (by omega)).2, sz_divInt (by decide) (by omega) (by decide)⟩
theorem odd_of {s : Ab.Slot} (h : s ∈ [tupS K [vS (V.int 2), vS (V.int 4)], tupS K [vS (V.bl true), vS (V.int 1)], tupS K [vS (V.int 1), vS (V.int 0)], lstS [vS (V.int 1), vS (V.int 2)], vS V.non, vS (V.str (Str.ofString "1")), vS (V.int 1), tupS K [vS (V.int 0), vS (V.int 2)], tupS K [vS (V.int 1), vS (V.int 2), vS (V.int 1)], tupS K [vS (V.int (-1)), vS (V.int 2)], tupS K [vS (V.int 3), vS (V.int 2)], tupS K [vS (V.int 1), vS (V.bl true)]]) : BadL K s ∧ Lk K 1 s := by
  simp only [List.mem_cons, List.not_mem_nil, or_false] at h
  rcases h with rfl | rfl | rfl | rfl | rfl | rfl | rfl | rfl | rfl | rfl | rfl | rfl
  · exact ⟨badL_pair (by decide), lk_row [_, _] (by decide)⟩
  · exact ⟨.inr (.inr (.inl ⟨_, _, rfl, .inl (odd_bl _)⟩)), .inr ⟨_, .inl rfl, by show 2 ≤ 50000; decide, fun x hx => by
      rcases List.mem_cons.mp hx with rfl | hx
      · exact .inr (.inr (.inl ⟨_, rfl⟩))
      · rw [List.mem_singleton.mp hx]; exact lk_int _⟩⟩
  · exact ⟨badL_pair (by decide), lk_row [_, _] (by decide)⟩
  · exact ⟨(wr_lst (l := [1, 2]) (n := 0) (by decide)).2.2, (wr_lst (K := K) (l := [1, 2]) (n := 0) (by decide)).2.1⟩
  · exact ⟨(wr_non (n := 0)).2.2, (wr_non (K := K) (n := 0)).2.1⟩
  · exact ⟨(wr_str (n := 0) (by decide +kernel)).2.2, (wr_str (K := K) (n := 0) (by decide +kernel)).2.1⟩
  · exact ⟨badL_ty (ty_int _) (by decide +kernel), .inl (lk_int _)⟩
  · exact ⟨badL_pair (by decide), lk_row [_, _] (by decide)⟩
  · exact ⟨.inr (.inl ⟨_, rfl, by show 3 ≠ 2; decide⟩), lk_row [_, _, _] (by decide)⟩
  · exact ⟨badL_pair (by decide), lk_row [_, _] (by decide)⟩
  · exact ⟨badL_pair (by decide), lk_row [_, _] (by decide)⟩
  · exact ⟨.inr (.inr (.inl ⟨_, _, rfl, .inr ⟨⟨_, rfl⟩, odd_bl _⟩⟩)), .inr ⟨_, .inl rfl, by show 2 ≤ 50000; decide, fun x hx => by
      rcases List.mem_cons.mp hx with rfl | hx
      · exact lk_int _
      · rw [List.mem_singleton.mp hx]; exact .inr (.inr (.inl ⟨_, rfl⟩))⟩⟩
theorem pair_of {s : Ab.Slot} (h : s ∈ [tupS K [vS (V.int 17), vS (V.int 7)], tupS K [vS (V.int 17), vS (V.int 10)], tupS K [vS (V.int 18), vS (V.int 6)], tupS K [vS (V.int 21), vS (V.int 5)], tupS K [vS (V.int 21), vS (V.int 16)], tupS K [vS (V.int 28), vS (V.int 4)]]) : ∃ n t : Nat, n ≤ 40 ∧ t ≤ n ∧ s = tupS K [vS (.int n), vS (.int t)] := by
  simp only [List.mem_cons, List.not_mem_nil, or_false] at h
  rcases h with rfl | rfl | rfl | rfl | rfl | rfl
  · exact ⟨17, 7, by decide, by decide, rfl⟩
  · exact ⟨17, 10, by decide, by decide, rfl⟩
  · exact ⟨18, 6, by decide, by decide, rfl⟩
  · exact ⟨21, 5, by decide, by decide, rfl⟩
  · exact ⟨21, 16, by decide, by decide, rfl⟩
  · exact ⟨28, 4, by decide, by decide, rfl⟩
theorem rg_row (s : Nat) : rgS 0 (s : Int) = iS ((List.range s).map fun (i : Nat) => (i : Int)) := by
  unfold rgS rgV iS
  rw [List.map_map, List.map_map]
  simp only [Int.sub_zero, Int.toNat_natCast]
  apply List.map_congr_left
  intro i _
  simp
theorem lk_draw (s : Nat) (h : s ≤ 40) : Lk K 3 (drawS K s) := .inr ⟨_, .inl rfl, by show 2 ≤ 50000; decide, fun x hx => by
  rcases List.mem_cons.mp hx with rfl | hx
  · exact .inl (.inr (.inr (.inr ⟨_, rfl, by decide +kernel⟩)))
  · rw [List.mem_singleton.mp hx]; exact (lk_row _ (by rw [List.length_map, List.length_range]; omega)).up⟩
theorem lk_many : Lk K 3 (manyS K) := .inr ⟨_, .inl rfl, by show 4 ≤ 50000; decide, fun x hx => by
  simp only [List.mem_cons, List.not_mem_nil, or_false] at hx
  rcases hx with rfl | rfl | rfl | rfl
  · exact .inl (.inr (.inr (.inr ⟨_, rfl, by decide +kernel⟩)))
  · exact .inl (.inr (.inr (.inr ⟨_, rfl, by decide +kernel⟩)))
  · exact .inl (lk_int _)
  · exact .inl (.inr (.inr (.inl ⟨_, rfl⟩)))⟩
theorem S_parPO {i j : Nat} {ta tb : TE} {Γ : List Bd} {Φk : Ks} (h : E ta Γ fun s => EN tb Γ fun ts => ∀ q, Φk.nx ((Γ.set i (.pl s)).set j (.own q ts))) : S (tPar i j (tCons ta (tCons tb tNil))) Γ Φk := fun B0 H0 D σ B H d a =>
  h σ B H a.inn a.rel _ fun s v B1 H1 st pv k => by
    have a1 := a.step st
    exact k σ B1 H1 a1.inn a1.rel _ fun ts ws q B2 H2 st2 qs hq k2 => ⟨_, _, rfl, d.nx _ _ B2 _ (at_own ((a1.step st2).set (i := i) (s.mono st2.base pv)) hq qs) (k2 q)⟩
def prsTo (w k : Nat) : List (List Int) := (List.range k).flatMap fun (a : Nat) => (List.range ((w : Int) - ((a : Int) + 1)).toNat).map fun (i : Nat) => [(a : Int), (a : Int) + 1 + (i : Int)]
theorem prsTo_succ (w k : Nat) : prsTo w (k + 1) = prsTo w k ++ (List.range ((w : Int) - ((k : Int) + 1)).toNat).map fun (i : Nat) => [(k : Int), (k : Int) + 1 + (i : Int)] := by
  unfold prsTo
  rw [List.range_succ, List.flatMap_append]
  simp
theorem prsTo_len (w : Nat) (hw : w ≤ 40) : ∀ k, k ≤ w → (prsTo w k).length ≤ 40 * k
  | 0, _ => Nat.le_refl _
  | k + 1, h => by
    have := prsTo_len w hw k (by omega)
    rw [prsTo_succ, List.length_append, List.length_map, List.length_range]
    omega
theorem rng_nodup {a : Nat} : (Dr.rng a).Nodup := by
  unfold Dr.rng
  exact List.Pairwise.map _ (fun a b h z => h (by exact Int.ofNat.inj z)) List.nodup_range
theorem rng_mem {a : Nat} {x : Int} (h : x ∈ Dr.rng a) : 0 ≤ x ∧ x < (a : Int) := by
  unfold Dr.rng at h
  obtain ⟨i, hi, rfl⟩ := List.mem_map.mp h
  have := List.mem_range.mp hi
  omega
theorem small_len {n : Nat} (h : n ≤ 1000) : ((n : Nat) : Int).natAbs < 2 ^ 8000 := by
  rw [Int.natAbs_natCast]
  exact Nat.lt_of_le_of_lt h (Nat.lt_of_lt_of_le (by decide : 1000 < 2 ^ 10) (Nat.pow_le_pow_right (by decide) (by decide)))
theorem lst_ch {a b : Nat} (ha : a ≤ 12) (hb : b ≤ a) : (Dr.lst a b).length = Dr.ch a b := by
  have h := Dr.free_len ha hb [] List.nodup_nil (fun x hx => nomatch hx)
  rw [List.filter_eq_self.mpr (fun r _ => by simp)] at h
  exact h
theorem free_part {few u b : Nat} (hf : few ≤ 12) (hu : u ≤ few) (hb : b ≤ few) (S : List Int) (h1 : S.Nodup) (h2 : ∀ x ∈ S, 0 ≤ x ∧ x < (few : Int)) (h3 : S.length = u) :
    Rat.divInt ((((Dr.lst few b).filter fun r => !(r.any fun x => decide (x ∈ S))).length : Nat) : Int) (((Dr.lst few b).length : Nat) : Int) = part few u b := by
  rw [Dr.free_len hf hb S h1 h2, lst_ch hf hb, Dr.ch_c2 _ (by omega) _ (by omega), Dr.ch_c2 _ (by omega) _ (by omega), h3]
  rfl
theorem inV_int (x : Int) (S : List Int) : inV (.int x) (S.map V.int) = decide (x ∈ S) := by
  unfold inV
  rw [List.any_map]
  have e : ((fun y => eqV y (.int x)) ∘ V.int) = fun y => y == x := rfl
  rw [e, Bool.eq_iff_iff]
  simp
theorem R_inI {x : Int} {S : List Int} {Φ : Ab.Slot → Prop} (k : Φ (vS (.bl (decide (x ∈ S))))) : R (rIn K false) (vS (.int x)) (lstS (iS S)) Φ := by
  have h := R_inL (K := K) (x := .int x) (cs := S.map V.int) (Φ := Φ) rfl (by rw [List.all_map]; exact List.all_eq_true.mpr fun _ _ => rfl) (by rw [inV_int]; exact k)
  rw [List.map_map] at h
  exact h
theorem mil_num : (Rat.divInt 999999 1000000).num = 999999 := by decide +kernel
theorem mil_den : (Rat.divInt 999999 1000000).den = 1000000 := by decide +kernel
theorem mil : tupS K [vS (V.int (10 ^ Int.toNat 6 - 1)), vS (V.int (10 ^ Int.toNat 6))] = ratS K (Rat.divInt 999999 1000000) := by
  unfold ratS
  rw [mil_num, mil_den, p6]
  rfl
theorem mil_q : Bq (Rat.divInt 999999 1000000) := sz_divInt (by decide) (by decide) (by decide)
theorem ints_lay : ∀ L : List Nat, PyData.canLayAll0 (L.map fun (k : Nat) => PyData.int k) = true
  | [] => rfl
  | a :: L => by
    show (PyData.canLay0 (.int a) && PyData.canLayAll0 _) = true
    rw [ints_lay L]
    rfl
theorem ints_depth : ∀ L : List Nat, PyData.depthAll (L.map fun (k : Nat) => PyData.int k) ≤ 2
  | [] => by simp [PyData.depthAll]
  | a :: L => by
    have h1 := ints_depth L
    simp only [List.map_cons, PyData.depthAll, PyData.depth]
    omega
theorem ints_shaped (L : List Nat) : SeqAt.shaped (.list (L.map fun (k : Nat) => PyData.int k)) = true := by
  have h1 := ints_depth L
  have h2 : PyData.depth (.list (L.map fun (k : Nat) => PyData.int k)) ≤ 64 := by
    simp only [PyData.depth]
    omega
  show (PyData.canLay0 (.list (L.map fun (k : Nat) => PyData.int k)) && decide (PyData.depth (.list (L.map fun (k : Nat) => PyData.int k)) ≤ 64)) = true
  rw [Bool.and_eq_true]
  exact ⟨by simp only [PyData.canLay0]; exact ints_lay L, decide_eq_true h2⟩
theorem dp_ints : ∀ L : List Nat, Paired (DpS K) (L.map fun (k : Nat) => vS (.int k)) (L.map fun (k : Nat) => PyData.int k)
  | [] => .nil
  | a :: L => .cons (dp_int _) (dp_ints L)
theorem ok_law (T : Tx K mg) : FnOk P w K mg base CX0 8 T.law.f T.law.fd p_law (spOf ((fun ss Φ _ => ∃ ns : List Int, ss = [seqS K (ns.map V.int)] ∧ ns.length ≤ 63 ∧ Φ (vS (.bl true))))) := by
  refine ok0 T.law.F sc_law (by intro ss Φ Ψ h; revert h; walk_at "len") (fun cdv Ar outer s H Er hr => ⟨_, (pss_cons (ps_set (i := 1) sc_law.nd rfl (by first | exact Or.inl rfl | exact Or.inr rfl) (pe_call (ok_lbag T) (hr.mono (by decide)) rfl T.lbag.g T.lbag.F.kp T.lbag.b .nil pass0 (pa_cons (pv 0) pa_nil)))
  (pss_cons (ps_set (i := 2) sc_law.nd rfl (by first | exact Or.inl rfl | exact Or.inr rfl) (pe_call (ok_lpull T) (hr.mono (by decide)) rfl T.lpull.g T.lpull.F.kp T.lpull.b .nil pass0 (pa_cons (pv 1) (pa_cons pe_int pa_nil))))
  (pss_cons (ps_if (pt_cmpR op_eq (pe_call (ok_lpull T) (hr.mono (by decide)) rfl T.lpull.g T.lpull.F.kp T.lpull.b .nil pass0 (pa_cons (pv 1) (pa_cons pe_int pa_nil))) pe_int (nomark _))
  (pss_one (ps_set (i := 2) sc_law.nd rfl (by first | exact Or.inl rfl | exact Or.inr rfl) (pe_op op_sub pe_int (pe_call (ok_lpull T) (hr.mono (by decide)) rfl T.lpull.g T.lpull.F.kp T.lpull.b .nil pass0 (pa_cons (pv 1) (pa_cons pe_int pa_nil))))))
  pss_nil)
  (pss_cons (ps_par (i := 3) (j := 4) (by rfl) sc_law.nd rfl rfl (by decide) rfl rfl (pa_cons (pe_call (ok_lpull T) (hr.mono (by decide)) rfl T.lpull.g T.lpull.F.kp T.lpull.b .nil pass0 (pa_cons (pv 1) (pa_cons (pe_op op_add (pv 2) pe_int) pa_nil))) (pa_cons (pe_call (ok_lpull T) (hr.mono (by decide)) rfl T.lpull.g T.lpull.F.kp T.lpull.b .nil pass0 (pa_cons (pv 1) (pa_cons (pe_op op_add (pv 2) pe_int) pa_nil))) pa_nil)) (by rfl))
  (pss_cons (ps_set (i := 5) sc_law.nd rfl (by first | exact Or.inl rfl | exact Or.inr rfl) (pe_call (ok_llisted T) (hr.mono (by decide)) rfl T.llisted.g T.llisted.F.kp T.llisted.b .nil pass0 (pa_cons (pv 2) (pa_cons (pv 4) pa_nil))))
  (pss_cons (ps_if (pt_not (pt_val (pe_call (ok_llike T) (hr.mono (by decide)) rfl T.llike.g T.llike.F.kp T.llike.b .nil pass0 (pa_cons (pe_lcN (hr.mono (by decide)) (pn_callK (ok_draws T) (hr.mono (by decide)) rfl T.draws.g T.draws.F.kp (kw_draws T) (pa_cons (pv 2) pa_nil) (pk_cons (pv 4) pk_nil)) rfl rfl (by decide +kernel)) (pa_cons (pv 5) pa_nil)))))
  (pss_one (ps_ret pe_bl))
  pss_nil)
  (pss_cons (ps_set (i := 6) sc_law.nd rfl (by first | exact Or.inl rfl | exact Or.inr rfl) (pe_slice sl_list (pe_call (ok_lturned T) (hr.mono (by decide)) rfl T.lturned.g T.lturned.F.kp T.lturned.b .nil pass0 (pa_cons (pv 1) (pa_cons (pe_listRg rfl rfl T.list (prg_1 rfl T.range (pv 2))) pa_nil))) po_none (po_some (pv 3))))
  (pss_cons (ps_setLc (i := 7) (own := [("row", 19)]) (g := (gName 19)) (by rfl) sc_law.nd rfl rfl (sw_true rfl rfl rfl (by decide +kernel)) (pi_list (pv 5)) (blkOk_by (own := [("row", 19)]) (N := n_law) (sc := defScope s_law) (by decide +kernel)) (fun _ _ _ _ _ => (pg_name (i := 19) sc_law.nd rfl (Or.inl rfl) (Or.inr rfl))) (fun _ _ _ _ _ => (pts_one (pt_not (pt_val (pe_callB (show CallR _ _ (rAny K) from cr_any rfl) (by rfl) T.any (by decide +kernel) (pa_cons (pe_lc (own := [("x", 20)]) (g := (gName 20)) (tt := tYes) (by rfl) sc_law.nd (show PI _ _ _ (iTup K _) from (pi_tup (pv 19))) (blkOk_by (own := [("x", 20)]) (N := n_law) (sc := relS (asgScope s_law 7) (defScope s_law)) (by decide +kernel)) (fun _ _ _ _ _ => (pg_name (i := 20) sc_law.nd rfl (Or.inl rfl) (Or.inr rfl))) (fun _ _ _ _ _ => pts_nil) (fun _ _ _ _ _ => (pe_cmpR (show OpR _ (compareOp .In) (rIn K false) from op_in_seq) (pv 20) (pv 6) (by rfl)))) pa_nil)))))) (fun _ _ _ _ _ => (pv 19)))
  (pss_cons (ps_if (pt_not (pt_val (pe_call (ok_llike T) (hr.mono (by decide)) rfl T.llike.g T.llike.F.kp T.llike.b .nil pass0 (pa_cons (pe_callN (ok_risk T) (hr.mono (by decide)) rfl T.risk.g T.risk.F.kp (kw_risk T) passL (pa_cons (pv 2) pa_nil) (pk_cons (pv 3) (pk_cons (pv 4) pk_nil))) (pa_cons (pe_call (ok_lfit T) (hr.mono (by decide)) rfl T.lfit.g T.lfit.F.kp T.lfit.b .nil pass0 (pa_cons (pe_callB call_len_seq (by rfl) T.len PySem.boot_len (pa_cons (pv 7) pa_nil)) (pa_cons (pe_callB call_len_seq (by rfl) T.len PySem.boot_len (pa_cons (pv 5) pa_nil)) pa_nil))) pa_nil)))))
  (pss_one (ps_ret pe_bl))
  pss_nil)
  (pss_cons (ps_set (i := 8) sc_law.nd rfl (by first | exact Or.inl rfl | exact Or.inr rfl) (pe_call (ok_lof T) (hr.mono (by decide)) rfl T.lof.g T.lof.F.kp T.lof.b .nil pass0 (pa_cons (pv 1) (pa_cons (pe_lst (pa_cons (pv 2) (pa_cons (pe_call (ok_lpull T) (hr.mono (by decide)) rfl T.lpull.g T.lpull.F.kp T.lpull.b .nil pass0 (pa_cons (pv 1) (pa_cons pe_int pa_nil))) (pa_cons (pe_op op_sub pe_int (pe_call (ok_lpull T) (hr.mono (by decide)) rfl T.lpull.g T.lpull.F.kp T.lpull.b .nil pass0 (pa_cons (pv 1) (pa_cons pe_int pa_nil)))) pa_nil)))) pa_nil))))
  (pss_cons (ps_asg (pe_tup (pa_cons (pe_call (ok_lpull T) (hr.mono (by decide)) rfl T.lpull.g T.lpull.F.kp T.lpull.b .nil pass0 (pa_cons (pv 1) (pa_cons (pe_op op_add (pv 8) pe_int) pa_nil))) (pa_cons (pe_call (ok_lpull T) (hr.mono (by decide)) rfl T.lpull.g T.lpull.F.kp T.lpull.b .nil pass0 (pa_cons (pv 1) (pa_cons (pe_op op_add (pv 8) pe_int) pa_nil))) pa_nil))) (pg_tup rfl (pgs_cons (pg_name (i := 9) sc_law.nd rfl (by first | exact Or.inl rfl | exact Or.inr rfl)) (pgs_cons (pg_name (i := 10) sc_law.nd rfl (by first | exact Or.inl rfl | exact Or.inr rfl)) pgs_nil))))
  (pss_cons (ps_if (pt_cmpR op_eq (pe_call (ok_lpull T) (hr.mono (by decide)) rfl T.lpull.g T.lpull.F.kp T.lpull.b .nil pass0 (pa_cons (pv 1) (pa_cons pe_int pa_nil))) pe_int (nomark _))
  (pss_cons (ps_asg (pe_call (ok_lof T) (hr.mono (by decide)) rfl T.lof.g T.lof.F.kp T.lof.b .nil pass0 (pa_cons (pv 1) (pa_cons (pe_lst (pa_cons (pe_tup (pa_cons pe_int (pa_cons pe_int pa_nil))) (pa_cons (pe_tup (pa_cons pe_int (pa_cons pe_int pa_nil))) (pa_cons (pe_tup (pa_cons pe_int (pa_cons pe_int pa_nil))) (pa_cons (pe_tup (pa_cons pe_int (pa_cons pe_int pa_nil))) (pa_cons (pe_tup (pa_cons pe_int (pa_cons pe_int pa_nil))) (pa_cons (pe_tup (pa_cons pe_int (pa_cons pe_int pa_nil))) pa_nil))))))) pa_nil))) (pg_tup rfl (pgs_cons (pg_name (i := 8) sc_law.nd rfl (by first | exact Or.inl rfl | exact Or.inr rfl)) (pgs_cons (pg_name (i := 10) sc_law.nd rfl (by first | exact Or.inl rfl | exact Or.inr rfl)) pgs_nil))))
  (pss_one (ps_set (i := 9) sc_law.nd rfl (by first | exact Or.inl rfl | exact Or.inr rfl) (pe_call (ok_lpull T) (hr.mono (by decide)) rfl T.lpull.g T.lpull.F.kp T.lpull.b .nil pass0 (pa_cons (pv 1) (pa_cons (pe_op op_add (pv 8) pe_int) pa_nil))))))
  pss_nil)
  (pss_cons (ps_if (pt_not (pt_val (pe_call (ok_llike T) (hr.mono (by decide)) rfl T.llike.g T.llike.F.kp T.llike.b .nil pass0 (pa_cons (pe_callN0 (ok_risk T) (hr.mono (by decide)) rfl T.risk.g T.risk.F.kp (kw_risk0 T) passL (pk_cons (pv 8) (pk_cons (pv 9) (pk_cons (pv 10) pk_nil)))) (pa_cons (pe_call (ok_lpart_of T) (hr.mono (by decide)) rfl T.lpart_of.g T.lpart_of.F.kp T.lpart_of.b .nil pass0 (pa_cons (pv 8) (pa_cons (pv 9) (pa_cons (pv 10) pa_nil)))) pa_nil)))))
  (pss_one (ps_ret pe_bl))
  pss_nil)
  (pss_cons (ps_set (i := 11) sc_law.nd rfl (by first | exact Or.inl rfl | exact Or.inr rfl) (pe_call (ok_lpart_of T) (hr.mono (by decide)) rfl T.lpart_of.g T.lpart_of.F.kp T.lpart_of.b .nil pass0 (pa_cons (pv 8) (pa_cons (pv 9) (pa_cons (pv 10) pa_nil)))))
  (pss_cons (ps_set (i := 12) sc_law.nd rfl (by first | exact Or.inl rfl | exact Or.inr rfl) (pe_call (ok_lof T) (hr.mono (by decide)) rfl T.lof.g T.lof.F.kp T.lof.b .nil pass0 (pa_cons (pv 1) (pa_cons (pe_lst (pa_cons (pe_tup (pa_cons pe_int (pa_cons pe_int pa_nil))) (pa_cons (pe_tup (pa_cons pe_int (pa_cons pe_int pa_nil))) (pa_cons (pv 11) (pa_cons (pv 11) (pa_cons (pe_call (ok_ltimes T) (hr.mono (by decide)) rfl T.ltimes.g T.ltimes.F.kp T.ltimes.b .nil pass0 (pa_cons (pv 11) (pa_cons (pe_tup (pa_cons (pe_op op_sub (pe_op op_pow pe_int pe_int) pe_int) (pa_cons (pe_op op_pow pe_int pe_int) pa_nil))) pa_nil))) (pa_cons (pe_call (ok_lfit T) (hr.mono (by decide)) rfl T.lfit.g T.lfit.F.kp T.lfit.b .nil pass0 (pa_cons (pe_call (ok_lpull T) (hr.mono (by decide)) rfl T.lpull.g T.lpull.F.kp T.lpull.b .nil pass0 (pa_cons (pv 1) (pa_cons pe_int pa_nil))) (pa_cons pe_int pa_nil))) (pa_cons (pe_call (ok_lfit T) (hr.mono (by decide)) rfl T.lfit.g T.lfit.F.kp T.lfit.b .nil pass0 (pa_cons pe_int (pa_cons (pe_op op_add pe_int (pe_call (ok_lpull T) (hr.mono (by decide)) rfl T.lpull.g T.lpull.F.kp T.lpull.b .nil pass0 (pa_cons (pv 1) (pa_cons pe_int pa_nil)))) pa_nil))) pa_nil)))))))) pa_nil))))
  (pss_cons (ps_setLc (i := 13) (own := [("k", 21)]) (g := (gName 21)) (by rfl) sc_law.nd rfl rfl (sw_true rfl rfl rfl (by decide +kernel)) (pi_range1 rfl T.range (pa_cons (pe_op op_add (pv 8) pe_int) pa_nil)) (blkOk_by (own := [("k", 21)]) (N := n_law) (sc := defScope s_law) (by decide +kernel)) (fun _ _ _ _ _ => (pg_name (i := 21) sc_law.nd rfl (Or.inl rfl) (Or.inr rfl))) (fun _ _ _ _ _ => (pts_one (pt_not (pt_val (pe_call (ok_lless T) (hr.mono (by decide)) rfl T.lless.g T.lless.F.kp T.lless.b .nil pass0 (pa_cons (pv 12) (pa_cons (pe_call (ok_lpart_of T) (hr.mono (by decide)) rfl T.lpart_of.g T.lpart_of.F.kp T.lpart_of.b .nil pass0 (pa_cons (pv 8) (pa_cons (pv 9) (pa_cons (pv 21) pa_nil)))) pa_nil))))))) (fun _ _ _ _ _ => (pv 21)))
  (pss_cons (ps_if (pt_not (pt_val (pe_call (ok_llike T) (hr.mono (by decide)) rfl T.llike.g T.llike.F.kp T.llike.b .nil pass0 (pa_cons (pe_call (ok_least_draws T) (hr.mono (by decide)) rfl T.least_draws.g T.least_draws.F.kp T.least_draws.b .nil passL (pa_cons (pv 8) (pa_cons (pv 9) (pa_cons (pv 12) pa_nil)))) (pa_cons (pe_ifExp (pt_cmpR (op_neD hr.units) (pv 13) (pe_lst pa_nil) (nomark _)) (pe_ix ix_list (pv 13) pe_int (fun _ _ => rfl)) pe_non) pa_nil)))))
  (pss_one (ps_ret pe_bl))
  pss_nil)
  (pss_cons (ps_set (i := 14) sc_law.nd rfl (by first | exact Or.inl rfl | exact Or.inr rfl) (pe_call (ok_lof T) (hr.mono (by decide)) rfl T.lof.g T.lof.F.kp T.lof.b .nil pass0 (pa_cons (pv 1) (pa_cons (pe_lst (pa_cons (pe_tup (pa_cons pe_int (pa_cons pe_int pa_nil))) (pa_cons (pe_tup (pa_cons pe_bl (pa_cons pe_int pa_nil))) (pa_cons (pe_tup (pa_cons pe_int (pa_cons pe_int pa_nil))) (pa_cons (pe_lst (pa_cons pe_int (pa_cons pe_int pa_nil))) (pa_cons pe_non (pa_cons pe_str (pa_cons pe_int (pa_cons (pe_tup (pa_cons pe_int (pa_cons pe_int pa_nil))) (pa_cons (pe_tup (pa_cons pe_int (pa_cons pe_int (pa_cons pe_int pa_nil)))) (pa_cons (pe_tup (pa_cons (pe_un un_neg pe_int) (pa_cons pe_int pa_nil))) (pa_cons (pe_tup (pa_cons pe_int (pa_cons pe_int pa_nil))) (pa_cons (pe_tup (pa_cons pe_int (pa_cons pe_bl pa_nil))) pa_nil))))))))))))) pa_nil))))
  (pss_cons (ps_if (pt_not (pt_val (pe_call (ok_llike T) (hr.mono (by decide)) rfl T.llike.g T.llike.F.kp T.llike.b .nil pass0 (pa_cons (pe_call (ok_lrefused T) (hr.mono (by decide)) rfl T.lrefused.g T.lrefused.F.kp T.lrefused.b .nil pass0 (pa_cons pe_int (pa_cons (pv 8) (pa_cons (pv 9) (pa_cons (pv 14) pa_nil))))) (pa_cons (pe_tup (pa_cons pe_str (pa_cons (pv 14) pa_nil))) pa_nil)))))
  (pss_one (ps_ret pe_bl))
  pss_nil)
  (pss_cons (ps_if (pt_cmpR op_eq (pe_call (ok_lpull T) (hr.mono (by decide)) rfl T.lpull.g T.lpull.F.kp T.lpull.b .nil pass0 (pa_cons (pv 1) (pa_cons pe_int pa_nil))) pe_int (nomark _))
  (pss_cons (ps_par (i := 15) (j := 16) (by rfl) sc_law.nd rfl rfl (by decide) rfl rfl (pa_cons (pe_op op_add pe_int (pe_call (ok_lpull T) (hr.mono (by decide)) rfl T.lpull.g T.lpull.F.kp T.lpull.b .nil pass0 (pa_cons (pv 1) (pa_cons pe_int pa_nil)))) (pa_cons (pe_lst pa_nil) pa_nil)) (by rfl))
  (pss_cons (ps_for PassesOwn.never rfl (pi_range1 rfl T.range (pa_cons (pv 15) pa_nil)) (pg_name (i := 17) sc_law.nd rfl (by first | exact Or.inl rfl | exact Or.inr rfl))
  (pss_one (ps_expr (pe_bm PySem.F.plainAttrs_list PySem.F.slot_list_extend PySem.F.type_list_extend mt_extend (pv 16) (pa_cons (pe_lc (own := [("x", 20)]) (g := (gName 20)) (tt := tYes) (by rfl) sc_law.nd (pi_range2 rfl T.range (pa_cons (pe_op op_add (pv 17) pe_int) (pa_cons (pv 15) pa_nil))) (blkOk_by (own := [("x", 20)]) (N := n_law) (sc := defScope s_law) (by decide +kernel)) (fun _ _ _ _ _ => (pg_name (i := 20) sc_law.nd rfl (Or.inl rfl) (Or.inr rfl))) (fun _ _ _ _ _ => pts_nil) (fun _ _ _ _ _ => (pe_tup (pa_cons (pv 17) (pa_cons (pv 20) pa_nil))))) pa_nil)))))
  (pss_one (ps_if (pt_not (pt_val (pe_call (ok_llike T) (hr.mono (by decide)) rfl T.llike.g T.llike.F.kp T.llike.b .nil pass0 (pa_cons (pe_lcN (hr.mono (by decide)) (pn_call (ok_draws T) (hr.mono (by decide)) rfl T.draws.g T.draws.F.kp T.draws.b (pa_cons (pv 15) (pa_cons pe_int pa_nil))) rfl rfl (by decide +kernel)) (pa_cons (pv 16) pa_nil)))))
  (pss_one (ps_ret pe_bl))
  pss_nil))))
  pss_nil)
  (pss_cons (ps_set (i := 18) sc_law.nd rfl (by first | exact Or.inl rfl | exact Or.inr rfl) (pe_tup (pa_cons pe_str (pa_cons (pe_tupRg rfl rfl T.tuple (prg_1 rfl T.range (pv 10))) pa_nil))))
  (pss_cons (ps_if (pt_cmpR op_gt (pe_call (ok_lways_of T) (hr.mono (by decide)) rfl T.lways_of.g T.lways_of.F.kp T.lways_of.b .nil pass0 (pa_cons (pv 8) (pa_cons (pv 10) pa_nil))) pe_int (nomark _))
  (pss_one (ps_set (i := 18) sc_law.nd rfl (by first | exact Or.inl rfl | exact Or.inr rfl) (pe_tup (pa_cons pe_str (pa_cons pe_str (pa_cons pe_int (pa_cons pe_bl pa_nil)))))))
  pss_nil)
  (pss_one (ps_ret (pe_and (pe_call (ok_llike T) (hr.mono (by decide)) rfl T.llike.g T.llike.F.kp T.llike.b .nil pass0 (pa_cons (pe_call (ok_lfirst_draw T) (hr.mono (by decide)) rfl T.lfirst_draw.g T.lfirst_draw.F.kp T.lfirst_draw.b .nil pass0 (pa_cons (pv 8) (pa_cons (pv 10) pa_nil))) (pa_cons (pv 18) pa_nil))) (pe_one (pe_call (ok_lerrors T) (hr.mono (by decide)) rfl T.lerrors.g T.lerrors.F.kp T.lerrors.b .nil pass0 (pa_cons (pv 1) (pa_cons (pv 8) pa_nil))))))))))))))))))))))))))))), fun ss Φ Ψ h => ?_⟩)
  obtain ⟨ns, rfl, hl, k⟩ := h
  refine S_seq (S_asg (E_call (dss := []) (fun _ => .nil) (A_cons (E_var rfl (A_nil ⟨ns, rfl, hl, ?_⟩)))))
  refine S_seq (S_asg (E_call (dss := []) (fun _ => .nil) (A_cons (E_var rfl (A_cons (E_c (A_nil ⟨_, rfl, by decide, by decide, fun r r0 r1 => ?_⟩)))))))
  -- few
  refine S_mid (fun Γ => ∃ few : Nat, few ≤ 12 ∧ Γ = lG K ns [.pl (vS (.int few))]) ?_ ?_
  · repeat' first | walk_at "pull" | walk_at "ab" | fail
    · rename_i r2 r20 r21
      obtain ⟨few, h, e⟩ : ∃ few : Nat, few ≤ 12 ∧ (12 - r2) = (few : Int) := ⟨(12 - r2).toNat, by omega, by omega⟩
      refine ⟨few, h, ?_⟩
      rw [e]
      rfl
    · obtain ⟨few, h, e⟩ : ∃ few : Nat, few ≤ 12 ∧ r = (few : Int) := ⟨r.toNat, by omega, by omega⟩
      refine ⟨few, h, ?_⟩
      rw [e]
      rfl
  rintro Γ ⟨few, hf, rfl⟩
  refine S_mid (fun Γ => ∃ u b : Nat, u ≤ few ∧ b ≤ few ∧ Γ = lG K ns [.pl (vS (.int few)), .pl (vS (.int u)), .pl (vS (.int b))]) ?_ ?_
  · repeat' first | walk_at "pull" | walk_at "ab" | fail
    rename_i r1 r10 r11 r2 r20 r21
    obtain ⟨u, h1, rfl⟩ : ∃ u : Nat, u ≤ few ∧ r1 = (u : Int) := ⟨r1.toNat, by omega, by omega⟩
    obtain ⟨b, h2, rfl⟩ : ∃ u : Nat, u ≤ few ∧ r2 = (u : Int) := ⟨r2.toNat, by omega, by omega⟩
    exact ⟨u, b, h1, h2, rfl⟩
  rintro Γ ⟨u, b, hu, hb, rfl⟩
  have e4 : Dr.rows few b = Dr.lst few b := (Dr.lst_rows ⟨few, by omega⟩ ⟨b, by omega⟩ hb).symm
  have l4 : (Dr.lst few b).length ≤ 1000 := lst_le hf hb
  refine S_seq (S_asg (E_call (dss := []) (fun _ => .nil) (A_cons (E_var rfl (A_cons (E_var rfl (A_nil ⟨few, b, rfl, hf, hb, ?_⟩)))))))
  refine S_mid (fun Γ => Γ = lG K ns [.pl (vS (.int few)), .pl (vS (.int u)), .pl (vS (.int b)), .pl (lstS ((Dr.lst few b).map (rowS K)))]) ?_ ?_
  · refine S_if (T_not (T_B (E_call (dss := []) (fun _ => .nil) (A_cons (E_lcNK (A_cons (E_var rfl (A_nil (A_cons (E_var rfl (A_nil ⟨rfl, rfl, _, _, rfl, .inr ⟨few, rfl, by omega, .inr ⟨b, rfl, hb, .inr ⟨c2_few ⟨few, by omega⟩ ⟨b, by omega⟩, fun _ _ _ => True.intro, ?_⟩⟩⟩⟩)))))))))))
    rw [e4]
    refine A_cons (E_var rfl (A_nil (walk_L (lk_rows _ (by omega) fun r hr => ?_).up ?_)))
    · rw [(lst_mem hf hb hr).1]; omega
    repeat' first | walk_at "ab" | fail
    rfl
  rintro Γ rfl
  -- some
  refine S_mid (fun Γ => ∃ S : List Int, S.Nodup ∧ (∀ x ∈ S, 0 ≤ x ∧ x < (few : Int)) ∧ S.length = u ∧ Γ = lG K ns [.pl (vS (.int few)), .pl (vS (.int u)), .pl (vS (.int b)), .pl (lstS ((Dr.lst few b).map (rowS K))), .pl (lstS (iS S))]) ?_ ?_
  · refine S_asg (E_cutTo (E_call (dss := []) (fun _ => .nil) (A_cons (E_var rfl (A_cons (EN.E (EN_rg1 (E_var rfl ⟨_, rfl, by omega, by omega, ?_⟩))))))))
    rw [rg_row]
    refine A_nil ⟨Dr.rng few, rfl, by unfold Dr.rng; rw [List.length_map, List.length_range]; omega, fun l' hp => ?_⟩
    refine E_var rfl ⟨_, u, rfl, rfl, l'.take u, ?_, ?_, ?_, ?_⟩
    · exact List.Nodup.sublist (List.take_sublist _ _) (hp.nodup_iff.mpr rng_nodup)
    · intro x hx
      exact rng_mem (hp.mem_iff.mp (List.mem_of_mem_take hx))
    · rw [List.length_take, hp.length_eq]
      unfold Dr.rng
      rw [List.length_map, List.length_range]
      omega
    · rw [← List.map_take]
      rfl
  rintro Γ ⟨S, hS, hS2, hS3, rfl⟩
  refine S_mid (fun Γ => Γ = lG K ns [.pl (vS (.int few)), .pl (vS (.int u)), .pl (vS (.int b)), .pl (lstS ((Dr.lst few b).map (rowS K))), .pl (lstS (iS S)), .pl (lstS (((Dr.lst few b).filter fun r => !(r.any fun x => decide (x ∈ S))).map (rowS K)))]) ?_ ?_
  · refine S_asg (E_lcL (Dr.lst few b) (rowS K) (rowS K) (fun r => !(r.any fun x => decide (x ∈ S))) (E_var rfl rfl) (by omega) ?_ rfl)
    intro r hr
    have hrl := (lst_mem hf hb hr).1
    refine G_name (by decide) (T_not (T_B (E_cb (A_cons (E_lcT r (fun x => vS (.int x)) (fun x => vS (.bl (decide (x ∈ S)))) (fun _ => true) (E_var rfl rfl) (by omega) ?_ (A_nil (C_any (r.map fun x => decide (x ∈ S)) ?_ ?_)))))))
    · intro x hx
      exact G_name (by decide) (T_yes ⟨rfl, fun _ => E_op (E_var rfl (E_var rfl (R_inI rfl)))⟩)
    · rw [List.filter_eq_self.mpr (fun _ _ => rfl), List.map_map]
      rfl
    · exact ⟨_, rfl, by rw [List.any_map]; rfl, fun _ => E_var rfl rfl⟩
  rintro Γ rfl
  -- risk of few
  refine S_mid (fun Γ => ∃ o7 : Bd, Γ = lG K ns [.pl (vS (.int few)), .pl (vS (.int u)), .pl (vS (.int b)), .pl (lstS ((Dr.lst few b).map (rowS K))), .pl (lstS (iS S)), o7]) ?_ ?_
  · refine S_if (T_not (T_B (E_call (dss := []) (fun _ => .nil) (A_cons (E_callN (A_cons (E_var rfl (A_nil (A_cons (E_var rfl (A_cons (E_var rfl (A_nil ⟨rfl, rfl, _, _, _, rfl, .inr ⟨few, rfl, by omega, .inr ⟨u, rfl, hu, .inr ⟨b, rfl, hb, ?_⟩⟩⟩⟩)))))))))))))
    refine A_cons (E_call (dss := []) (fun _ => .nil) (A_cons (E_cb (A_cons (E_var rfl (A_nil (C_len _ _ ⟨.inl rfl, rfl⟩ (A_cons (E_cb (A_cons (E_var rfl (A_nil (C_len _ _ ⟨.inl rfl, rfl⟩ (A_nil ⟨_, _, rfl, ?_, ?_, A_nil ?_⟩))))))))))))))
    · rw [List.length_map]
      exact small_len (Nat.le_trans (List.length_filter_le _ _) l4)
    · rw [List.length_map]
      exact small_len l4
    · rw [List.length_map, List.length_map, free_part hf hu hb S hS hS2 hS3]
      refine walk_L (lk_rat _).up.up ?_
      repeat' first | walk_at "ab" | fail
      exact ⟨_, rfl⟩
  rintro Γ ⟨o7, rfl⟩
  -- n, m, s
  refine S_mid (fun Γ => ∃ n : Nat, n ≤ 40 ∧ ∃ o2 o3 o4 o5 o6 o7 : Bd, Γ = lG K ns [o2, o3, o4, o5, o6, o7, .pl (vS (.int n))]) ?_ ?_
  · repeat' first | walk_at "of" | walk_at "pull" | walk_at "ab" | fail
    rename_i r1 r10 r11 r2 r20 r21 s1 hs1
    simp only [List.mem_cons, List.not_mem_nil, or_false] at hs1
    obtain ⟨n, hn, rfl⟩ : ∃ n : Nat, n ≤ 40 ∧ s1 = vS (.int n) := by
      rcases hs1 with rfl | rfl | rfl
      · exact ⟨few, by omega, rfl⟩
      · exact ⟨r1.toNat, by omega, by rw [Int.toNat_of_nonneg r10]⟩
      · exact ⟨(40 - r2).toNat, by omega, by rw [Int.toNat_of_nonneg (by omega)]⟩
    exact ⟨n, hn, _, _, _, _, _, _, rfl⟩
  rintro Γ ⟨n, hn, o2, o3, o4, o5, o6, o7, rfl⟩
  refine S_mid (fun Γ => ∃ m t : Nat, m ≤ n ∧ t ≤ n ∧ Γ = lG K ns [o2, o3, o4, o5, o6, o7, .pl (vS (.int n)), .pl (vS (.int m)), .pl (vS (.int t))]) ?_ ?_
  · refine S_asgG [9, 10] ?_
    repeat' first | walk_at "pull" | walk_at "ab" | fail
    rename_i r1 r10 r11 r2 r20 r21
    obtain ⟨m, h1, rfl⟩ : ∃ u : Nat, u ≤ n ∧ r1 = (u : Int) := ⟨r1.toNat, by omega, by omega⟩
    obtain ⟨t, h2, rfl⟩ : ∃ u : Nat, u ≤ n ∧ r2 = (u : Int) := ⟨r2.toNat, by omega, by omega⟩
    exact G_tup rfl (G_cons (G_name (by decide) (G_cons (G_name (by decide) (G_nil ⟨m, t, h1, h2, rfl⟩)))))
  rintro Γ ⟨m, t, hm, ht, rfl⟩
  refine S_mid (fun Γ => ∃ n m t : Nat, n ≤ 40 ∧ m ≤ n ∧ t ≤ n ∧ Γ = lG K ns [o2, o3, o4, o5, o6, o7, .pl (vS (.int n)), .pl (vS (.int m)), .pl (vS (.int t))]) ?_ ?_
  · refine S_if (T_test (E_op (E_call (dss := []) (fun _ => .nil) (A_cons (E_var rfl (A_cons (E_c (A_nil ⟨_, rfl, by decide, by decide, fun r r0 r1 => E_c (R_eqI ⟨_, rfl, fun _ => ?_, fun _ => ?_⟩)⟩))))))))
    · refine S_seq (S_asgG [8, 10] ?_)
      repeat' first | walk_at "of" | walk_at "ab" | fail
      rename_i s1 hs1
      obtain ⟨n', t', hn', ht', rfl⟩ := pair_of (K := K) hs1
      refine G_tup rfl (G_cons (G_name (by decide) (G_cons (G_name (by decide) (G_nil ?_)))))
      repeat' first | walk_at "pull" | walk_at "ab" | fail
      rename_i r1 r10 r11
      obtain ⟨m', h1, rfl⟩ : ∃ u : Nat, u ≤ n' ∧ r1 = (u : Int) := ⟨r1.toNat, by omega, by omega⟩
      exact ⟨n', m', t', hn', h1, ht', rfl⟩
    · exact S_next ⟨n, m, t, hn, hm, ht, rfl⟩
  clear hn hm ht
  rintro Γ ⟨n, m, t, hn, hm, ht, rfl⟩
  have hX := True.intro
  -- risk
  refine S_mid (fun Γ => Γ = lG K ns [o2, o3, o4, o5, o6, o7, .pl (vS (.int n)), .pl (vS (.int m)), .pl (vS (.int t))]) ?_ ?_
  · refine S_if (T_not (T_B (E_call (dss := []) (fun _ => .nil) (A_cons (E_callN (A_nil (A_cons (E_var rfl (A_cons (E_var rfl (A_cons (E_var rfl (A_nil ⟨rfl, rfl, _, _, _, rfl, .inr ⟨n, rfl, hn, .inr ⟨m, rfl, hm, .inr ⟨t, rfl, ht, ?_⟩⟩⟩⟩)))))))))))))
    refine A_cons (E_call (dss := []) (fun _ => .nil) (A_cons (E_var rfl (A_cons (E_var rfl (A_cons (E_var rfl (A_nil ⟨n, m, t, rfl, hn, hm, ht, A_nil ?_⟩))))))))
    refine walk_L (lk_rat _).up.up ?_
    repeat' first | walk_at "ab" | fail
    rfl
  rintro Γ rfl
  refine S_seq (S_asg (E_call (dss := []) (fun _ => .nil) (A_cons (E_var rfl (A_cons (E_var rfl (A_cons (E_var rfl (A_nil ⟨n, m, t, rfl, hn, hm, ht, ?_⟩)))))))))
  -- bound
  refine S_mid (fun Γ => ∃ q : Rat, 0 ≤ q ∧ q ≤ 1 ∧ Bq q ∧ Γ = lG K ns [o2, o3, o4, o5, o6, o7, .pl (vS (.int n)), .pl (vS (.int m)), .pl (vS (.int t)), .pl (ratS K (part n m t)), .pl (ratS K q)]) ?_ ?_
  · refine S_asg (E_call (dss := []) (fun _ => .nil) (A_cons (E_var rfl (A_cons (E_lst ?_)))))
    refine A_cons (E_tup (K := K) (A_cons (E_c (A_cons (E_c (A_nil ⟨by show 2 ≤ 100000; decide, ?_⟩))))))
    refine A_cons (E_tup (K := K) (A_cons (E_c (A_cons (E_c (A_nil ⟨by show 2 ≤ 100000; decide, ?_⟩))))))
    refine A_cons (E_var rfl (A_cons (E_var rfl ?_)))
    refine A_cons (E_call (dss := []) (fun _ => .nil) (A_cons (E_var rfl (A_cons (E_tup (K := K) ?_)))))
    repeat' first | walk_at "pw" | walk_at "ab" | fail
    rw [mil]
    refine ⟨_, _, rfl, part_q hn ht, mil_q, ?_⟩
    refine A_cons (E_call (dss := []) (fun _ => .nil) (A_cons (E_call (dss := []) (fun _ => .nil) (A_cons (E_var rfl (A_cons (E_c (A_nil ⟨_, rfl, by decide, by decide, fun r1 r10 r11 => A_cons (E_c (A_nil ⟨_, _, rfl, ?_, ?_, ?_⟩))⟩))))))))
    · exact Nat.lt_of_lt_of_le (by omega : r1.natAbs < 2 ^ 10) (Nat.pow_le_pow_right (by decide) (by decide))
    · exact Nat.lt_of_lt_of_le (by decide : Int.natAbs 9 < 2 ^ 10) (Nat.pow_le_pow_right (by decide) (by decide))
    refine A_cons (E_call (dss := []) (fun _ => .nil) (A_cons (E_c (A_cons (E_op (E_c (E_call (dss := []) (fun _ => .nil) (A_cons (E_var rfl (A_cons (E_c (A_nil ⟨_, rfl, by decide, by decide, fun r2 r20 r21 => R_I0 (A_nil ⟨_, _, rfl, ?_, ?_, ?_⟩)⟩))))))))))))
    · exact Nat.lt_of_lt_of_le (by decide : Int.natAbs 1 < 2 ^ 10) (Nat.pow_le_pow_right (by decide) (by decide))
    · exact Nat.lt_of_lt_of_le (by omega : (1 + r2).natAbs < 2 ^ 10) (Nat.pow_le_pow_right (by decide) (by decide))
    refine A_nil ⟨by show 7 ≤ 100000; decide, A_nil ?_⟩
    walk_at "of"
    rename_i s1 hs1
    obtain ⟨q, rfl, q0, q1, hq⟩ := lim_of (a := 0) (b := 0) (c := 0) (d := 0) hn hm ht ⟨r10, r11⟩ ⟨r20, r21⟩ hs1
    exact ⟨q, q0, q1, hq, rfl⟩
  rintro Γ ⟨q, q0, q1, hq, rfl⟩
  -- enough
  refine S_mid (fun Γ => Γ = lG K ns [o2, o3, o4, o5, o6, o7, .pl (vS (.int n)), .pl (vS (.int m)), .pl (vS (.int t)), .pl (ratS K (part n m t)), .pl (ratS K q), .pl (lstS (((List.range (n + 1)).filter fun k => decide (¬ q < part n m k)).map fun (k : Nat) => vS (.int k)))]) ?_ ?_
  · have hr := rng1 (Γ := lG K ns [o2, o3, o4, o5, o6, o7, .pl (vS (.int n)), .pl (vS (.int m)), .pl (vS (.int t)), .pl (ratS K (part n m t)), .pl (ratS K q)]) (n := (n : Int) + 1) (tr := tCons (tOp (rI0 fun i j => .int (i + j)) (tVar 8) (tC (.int 1))) tNil) (A_cons (E_op (E_var rfl (E_c (R_I0 (A_nil ⟨rfl, by omega, by omega⟩))))))
    refine S_asg (E_lcR (lo := 0) (n := n + 1) (fun (k : Nat) => vS (.int k)) (fun k => decide (¬ q < part n m k)) hr (by omega) ?_ rfl)
    intro i hi
    rw [Int.zero_add]
    refine G_name (by decide) (T_not (T_B (E_call (dss := []) (fun _ => .nil) (A_cons (E_var rfl (A_cons (E_call (dss := []) (fun _ => .nil) (A_cons (E_var rfl (A_cons (E_var rfl (A_cons (E_var rfl (A_nil ⟨n, m, i, rfl, hn, hm, by omega, A_nil ⟨_, _, rfl, hq, part_q hn (by omega), ?_⟩⟩))))))))))))))
    exact ⟨_, rfl, by rw [decide_not], fun _ => E_var rfl rfl⟩
  rintro Γ rfl
  -- least
  refine S_mid (fun Γ => Γ = lG K ns [o2, o3, o4, o5, o6, o7, .pl (vS (.int n)), .pl (vS (.int m)), .pl (vS (.int t)), .pl (ratS K (part n m t)), .pl (ratS K q), .pl (lstS (((List.range (n + 1)).filter fun k => decide (¬ q < part n m k)).map fun (k : Nat) => vS (.int k)))]) ?_ ?_
  · have hh : leastF n m q = ((List.range (n + 1)).filter fun k => decide (¬ q < part n m k)).head? := List.head?_filter.symm
    refine S_if (T_not (T_B (E_call (dss := []) (fun _ => .nil) (A_cons (E_call (dss := []) (fun _ => .nil) (A_cons (E_var rfl (A_cons (E_var rfl (A_cons (E_var rfl (A_nil ⟨_, _, _, rfl, .inr ⟨n, rfl, hn, .inr ⟨m, rfl, hm, .inr ⟨q, rfl, q0, q1, hq, ?_⟩⟩⟩⟩))))))))))))
    refine A_cons (E_if (T_test (E_op (E_var rfl (E_lst (A_nil ⟨by show 0 ≤ 100000; decide, ?_⟩))))))
    revert hh
    generalize (List.range (n + 1)).filter (fun k => decide (¬ q < part n m k)) = L
    intro hh
    cases L with
    | nil =>
      rw [hh]
      refine R_neD (d := .list []) (e := .list []) (dp_lst .nil) (dp_lst .nil) rfl rfl ?_
      refine ⟨false, rfl, (fun h => nomatch h), fun _ => E_c (A_nil (walk_L (.inl (.inl rfl)) ?_))⟩
      repeat' first | walk_at "ab" | fail
      rfl
    | cons a L =>
      rw [hh]
      refine R_neD (d := .list ((a :: L).map fun (k : Nat) => .int k)) (e := .list []) (dp_lst (dp_ints _)) (dp_lst .nil) (ints_shaped _) rfl ?_
      refine ⟨true, rfl, fun _ => E_op (E_var rfl (E_c (R_ixL (s := vS (.int a)) (atI0 _ _) (A_nil (walk_L (.inl (lk_int _)) ?_))))), (fun h => nomatch h)⟩
      repeat' first | walk_at "ab" | fail
      rfl
  rintro Γ rfl
  -- odd
  refine S_mid (fun Γ => ∃ (o11 o12 o13 : Bd) (s : Ab.Slot), BadL K s ∧ Lk K 1 s ∧ Γ = lG K ns [o2, o3, o4, o5, o6, o7, .pl (vS (.int n)), .pl (vS (.int m)), .pl (vS (.int t)), o11, o12, o13, .pl s]) ?_ ?_
  · refine S_asg (E_call (dss := []) (fun _ => .nil) (A_cons (E_var rfl (A_cons (E_lst ?_)))))
    repeat' first | walk_at "of" | walk_at "ab" | fail
    rename_i s1 hs1
    obtain ⟨h1, h2⟩ := odd_of (K := K) hs1
    exact ⟨_, _, _, s1, h1, h2, rfl⟩
  rintro Γ ⟨o11, o12, o13, s1, hs1, hs2, rfl⟩
  refine S_mid (fun Γ => Γ = lG K ns [o2, o3, o4, o5, o6, o7, .pl (vS (.int n)), .pl (vS (.int m)), .pl (vS (.int t)), o11, o12, o13, .pl s1]) ?_ ?_
  · repeat' first | (refine walk_R1 (.inr ⟨n, rfl, hn, .inr ⟨m, rfl, hm, .inr ⟨by decide, hs1, ?_⟩⟩⟩)) | (refine walk_L (lk_num hs2) ?_) | walk_at "ab" | fail
    rfl
  rintro Γ rfl
  -- wide
  refine S_mid (fun Γ => ∃ o15 o16 o17 : Bd, Γ = lG K ns [o2, o3, o4, o5, o6, o7, .pl (vS (.int n)), .pl (vS (.int m)), .pl (vS (.int t)), o11, o12, o13, .pl s1, o15, o16, o17]) ?_ ?_
  · refine S_if (T_test (E_op (E_call (dss := []) (fun _ => .nil) (A_cons (E_var rfl (A_cons (E_c (A_nil ⟨_, rfl, by decide, by decide, fun r r0 r1 => E_c (R_eqI ⟨_, rfl, fun _ => ?_, fun _ => ?_⟩)⟩))))))))
    · refine S_mid (fun Γ => ∃ (w : Nat) (p : Addr), 13 ≤ w ∧ w ≤ 40 ∧ Γ = lG K ns [o2, o3, o4, o5, o6, o7, .pl (vS (.int n)), .pl (vS (.int m)), .pl (vS (.int t)), o11, o12, o13, .pl s1, .pl (vS (.int w)), .own p []]) ?_ ?_
      · refine S_parPO (E_op (E_c (E_call (dss := []) (fun _ => .nil) (A_cons (E_var rfl (A_cons (E_c (A_nil ⟨_, rfl, by decide, by decide, fun r2 r20 r21 => R_I0 (EN_lst (A_nil ⟨by show 0 ≤ 100000; decide, fun p => ?_⟩))⟩))))))))
        obtain ⟨w, h1, h2, e⟩ : ∃ w : Nat, 13 ≤ w ∧ w ≤ 40 ∧ (13 + r2) = (w : Int) := ⟨(13 + r2).toNat, by omega, by omega, by omega⟩
        refine ⟨w, p, h1, h2, ?_⟩
        rw [e]
        rfl
      rintro Γ ⟨w, p, h1, h2, rfl⟩
      refine S_mid (fun Γ => ∃ o17 : Bd, Γ = lG K ns [o2, o3, o4, o5, o6, o7, .pl (vS (.int n)), .pl (vS (.int m)), .pl (vS (.int t)), o11, o12, o13, .pl s1, .pl (vS (.int w)), .own p ((prsTo w w).map (rowS K)), o17]) ?_ ?_
      · have hr := rng1 (Γ := lG K ns [o2, o3, o4, o5, o6, o7, .pl (vS (.int n)), .pl (vS (.int m)), .pl (vS (.int t)), o11, o12, o13, .pl s1, .pl (vS (.int w)), .own p []]) (n := (w : Int)) (tr := tCons (tVar 15) tNil) (A_cons (E_var rfl (A_nil ⟨rfl, by omega, by omega⟩)))
        refine S_forR (lo := 0) (n := w) [17] (fun i Γ => i ≤ w ∧ ∃ o17 : Bd, Γ = lG K ns [o2, o3, o4, o5, o6, o7, .pl (vS (.int n)), .pl (vS (.int m)), .pl (vS (.int t)), o11, o12, o13, .pl s1, .pl (vS (.int w)), .own p ((prsTo w i).map (rowS K)), o17]) hr ⟨Nat.zero_le _, .no, rfl⟩ ?_ ?_
        · rintro i Γ hi ⟨_, o17, rfl⟩
          refine G_name (by decide) ?_
          rw [Int.zero_add]
          have hr2 := rng2 (Γ := (lG K ns [o2, o3, o4, o5, o6, o7, .pl (vS (.int n)), .pl (vS (.int m)), .pl (vS (.int t)), o11, o12, o13, .pl s1, .pl (vS (.int w)), .own p ((prsTo w i).map (rowS K)), o17]).set 17 (.pl (vS (.int i)))) (lo := (i : Int) + 1) (hi := (w : Int))
            (tr := tCons (tOp (rI0 fun i j => .int (i + j)) (tVar 17) (tC (.int 1))) (tCons (tVar 15) tNil)) (A_cons (E_op (E_var rfl (E_c (R_I0 (A_cons (E_var rfl (A_nil ⟨rfl, by omega, by omega, by omega, by omega⟩))))))))
          refine S_extOwn rfl (E_lcR (lo := (i : Int) + 1) (n := ((w : Int) - ((i : Int) + 1)).toNat) (fun x => tupS K [vS (.int i), vS (.int ((i : Int) + 1 + (x : Int)))]) (fun _ => true) hr2 (by omega) ?_ ?_)
          · intro x hx
            exact G_name (by decide) (T_yes ⟨rfl, fun _ => E_tup (K := K) (A_cons (E_var rfl (A_cons (E_var rfl (A_nil ⟨by show 2 ≤ 100000; decide, rfl⟩)))))⟩)
          · have e : (prsTo w i).map (rowS K) ++ ((List.range ((w : Int) - ((i : Int) + 1)).toNat).filter fun _ => true).map (fun (x : Nat) => tupS K [vS (.int i), vS (.int ((i : Int) + 1 + (x : Int)))]) = (prsTo w (i + 1)).map (rowS K) := by
              rw [prsTo_succ, List.map_append, List.filter_eq_self.mpr (fun _ _ => rfl), List.map_map]
              rfl
            have hl := prsTo_len w h2 (i + 1) (by omega)
            refine ⟨_, rfl, ?_, by omega, .pl (vS (.int i)), ?_⟩
            · rw [← List.length_append, e, List.length_map]; omega
            · rw [e]; rfl
        · rintro Γ ⟨_, o17, rfl⟩
          exact ⟨o17, rfl⟩
      rintro Γ ⟨o17, rfl⟩
      refine S_give (i := 16) rfl ?_
      obtain ⟨hp1, hp2⟩ := Dr.prs_rows ⟨w, by omega⟩ (by show 2 ≤ w; omega)
      refine S_if (T_not (T_B (E_call (dss := []) (fun _ => .nil) (A_cons (E_lcN (A_cons (E_var rfl (A_cons (E_c (A_nil ⟨_, _, rfl, .inr ⟨w, rfl, h2, .inr ⟨2, rfl, by omega, .inr ⟨c2_two ⟨w, by omega⟩, fun _ _ _ => True.intro, ?_⟩⟩⟩⟩))))))))))
      rw [← hp1]
      refine A_cons (E_var rfl (A_nil (walk_L (lk_rows _ (by omega) fun r hr => ?_).up ?_)))
      · have hr' : r ∈ prsTo w w := hr
        unfold prsTo at hr'
        obtain ⟨a, _, ha⟩ := List.mem_flatMap.mp hr'
        obtain ⟨i, _, rfl⟩ := List.mem_map.mp ha
        show 2 ≤ 50000
        decide
      repeat' first | walk_at "ab" | fail
      exact ⟨_, _, _, rfl⟩
    · exact S_next ⟨_, _, _, rfl⟩
  rintro Γ ⟨o15, o16, o17, rfl⟩
  -- due
  refine S_mid (fun Γ => Γ = lG K ns [o2, o3, o4, o5, o6, o7, .pl (vS (.int n)), .pl (vS (.int m)), .pl (vS (.int t)), o11, o12, o13, .pl s1, o15, o16, o17, .pl (drawS K t)]) ?_ ?_
  · refine S_asg (E_tup (K := K) (A_cons (E_c (A_cons (E_tupRg1 (K := K) (E_var rfl ⟨_, rfl, by omega, by omega, ?_⟩))))))
    rw [rg_row]
    exact A_nil ⟨by show 2 ≤ 100000; decide, rfl⟩
  rintro Γ rfl
  refine S_mid (fun Γ => ∃ d : Ab.Slot, ((20000 < Dr.C2 n t ∧ d = manyS K) ∨ (Dr.C2 n t ≤ 20000 ∧ d = drawS K t)) ∧ Γ = lG K ns [o2, o3, o4, o5, o6, o7, .pl (vS (.int n)), .pl (vS (.int m)), .pl (vS (.int t)), o11, o12, o13, .pl s1, o15, o16, o17, .pl d]) ?_ ?_
  · refine S_if (T_test (E_op (E_call (dss := []) (fun _ => .nil) (A_cons (E_var rfl (A_cons (E_var rfl (A_nil ⟨n, t, rfl, hn, by omega, E_c (R_I0 ⟨_, rfl, fun h => ?_, fun h => ?_⟩)⟩))))))))
    · have h : decide ((20000 : Int) < Dr.C2 n t) = true := h
      repeat' first | walk_at "ab" | fail
      exact ⟨_, .inl ⟨of_decide_eq_true h, rfl⟩, rfl⟩
    · have h : decide ((20000 : Int) < Dr.C2 n t) = false := h
      exact S_next ⟨_, .inr ⟨by have := of_decide_eq_false h; omega, rfl⟩, rfl⟩
  rintro Γ ⟨d, hd, rfl⟩
  have hld : Lk K 3 d := by
    rcases hd with ⟨_, rfl⟩ | ⟨_, rfl⟩
    · exact lk_many
    · exact lk_draw t (by omega)
  refine S_ret (E_and ?_)
  refine E_call (dss := []) (fun _ => .nil) (A_cons (E_call (dss := []) (fun _ => .nil) (A_cons (E_var rfl (A_cons (E_var rfl (A_nil ?_)))))))
  refine walk_F (.inr ⟨n, rfl, hn, .inr ⟨t, rfl, ht, ?_⟩⟩)
  rcases hd with ⟨h, rfl⟩ | ⟨h, rfl⟩
  · refine .inl ⟨h, A_cons (E_var rfl (A_nil (walk_L hld ?_)))⟩
    refine ⟨true, rfl, fun _ => E_call (dss := []) (fun _ => .nil) (A_cons (E_var rfl (A_cons (E_var rfl (A_nil ⟨n, rfl, hn, ?_⟩))))), (fun h => nomatch h)⟩
    exact k
  · refine .inr ⟨h, A_cons (E_var rfl (A_nil (walk_L hld ?_)))⟩
    refine ⟨true, rfl, fun _ => E_call (dss := []) (fun _ => .nil) (A_cons (E_var rfl (A_cons (E_var rfl (A_nil ⟨n, rfl, hn, ?_⟩))))), (fun h => nomatch h)⟩
    exact k
end
end K83

/-! K83Z -/
namespace K83
open PySem PySem.Spec PyProof.Rows L2 Ab RatM AbM
theorem kit_mk {K : PySem.W.Frag} {t : Value} {C : Addr} {b : Bool} (h1 : PySem.W.isClsIn K C = true) (h2 : PySem.W.typeIn K (.ref C) = some (.type "type")) (h3 : PySem.W.subIn K t (.ref C) = some b) (he : (t == .ref C) = true → b = true) : PySem.W.kitOne K t (.ref C) = some b := by
  unfold PySem.W.kitOne
  split
  · rename_i e; rw [he e]
  · show (if ((PySem.W.clsIn K C).isSome && PySem.W.typeIn K (.ref C) == some (.type "type")) = true then PySem.W.subIn K t (.ref C) else none) = some b
    rw [if_pos (by rw [show (PySem.W.clsIn K C).isSome = true from h1, h2]; rfl)]; exact h3
theorem sub_nf {K : PySem.W.Frag} {T : String} {C : Addr} (h : PySem.W.notFirst K C (.type T) = true) : PySem.W.subIn K (.type T) (.ref C) = some false := by
  unfold PySem.W.notFirst at h
  rw [show (Value.type T == Value.ref C) = false from rfl, Bool.false_or] at h
  exact beq_iff_eq.mp h
theorem fundW {K : PySem.W.Frag} {fW aD : Addr} {ocW kVW dcW pmW cdW ctW oD : Value} {odW anW odD : Option Addr} {slW slD : Array (Option Value)} {tD : Tok} {nD : Nat} (l : K.lookup fW = some ⟨ocW, odW, .func (PySem.W.fnOf "worth" "worth" (defArgs s_worth) (defBody s_worth) (defScope s_worth) (.ref aD) kVW dcW pmW anW cdW ctW), slW⟩)
    (c : PySem.W.codeIn K cdW "worth" = true) (k : PySem.W.keepIn K (.ref fW) = true) (d : K.lookup aD = some ⟨oD, odD, .seq #[.int 1 tD] nD, slD⟩) : FunD K "worth" "worth" (defArgs s_worth) (defBody s_worth) (defScope s_worth) [.int 1] [] fW (PySem.W.fnOf "worth" "worth" (defArgs s_worth) (defBody s_worth) (defScope s_worth) (.ref aD) kVW dcW pmW anW cdW ctW) :=
  ⟨⟨ocW, odW, .ref aD, kVW, dcW, pmW, anW, cdW, ctW, slW, rfl, l, c, .inr ⟨by decide, aD, _, [.int 1 tD], nD, rfl, d, rfl, .cons ⟨tD, rfl⟩ .nil⟩, .inl rfl⟩, k⟩
theorem bindW {K : PySem.W.Frag} {f : Addr} {fd : FuncData} (F : FunD K "worth" "worth" (defArgs s_worth) (defBody s_worth) (defScope s_worth) [.int 1] [] f fd) : Binds K fd p_worth [] := by
  obtain ⟨ds, hv, hb⟩ := F.binds1 (ps := p_worth) 2 1 (by decide) rfl fun T kV doc pm an cdv ct us its hl hi => match us, its, hl, hi with | [_, _], [_], _, _ => ⟨_, rfl, rfl⟩
  cases hv
  exact hb
noncomputable section
def mkTx {K : PySem.W.Frag} {h : Heap} {mg : Str → Option Value} {CI CT CE fW aD : Addr} (X : K.In h) (G : h.Ns mainGlobals mg)
    {f_InvalidNumber_Dinit : Addr} {od_InvalidNumber_Dinit an_InvalidNumber_Dinit : Option Addr} {sl_InvalidNumber_Dinit : Array (Option Value)} {oc_InvalidNumber_Dinit kV_InvalidNumber_Dinit dc_InvalidNumber_Dinit pm_InvalidNumber_Dinit cd_InvalidNumber_Dinit ct_InvalidNumber_Dinit : Value}
    {f_TooMany_Dinit : Addr} {od_TooMany_Dinit an_TooMany_Dinit : Option Addr} {sl_TooMany_Dinit : Array (Option Value)} {oc_TooMany_Dinit kV_TooMany_Dinit dc_TooMany_Dinit pm_TooMany_Dinit cd_TooMany_Dinit ct_TooMany_Dinit : Value}
    {f_is_less : Addr} {od_is_less an_is_less : Option Addr} {sl_is_less : Array (Option Value)} {oc_is_less kV_is_less dc_is_less pm_is_less cd_is_less ct_is_less : Value}
    {f_is_number : Addr} {od_is_number an_is_number : Option Addr} {sl_is_number : Array (Option Value)} {oc_is_number kV_is_number dc_is_number pm_is_number cd_is_number ct_is_number : Value}
    {f_check_number : Addr} {od_check_number an_check_number : Option Addr} {sl_check_number : Array (Option Value)} {oc_check_number kV_check_number dc_check_number pm_check_number cd_check_number ct_check_number : Value}
    {f_is_share : Addr} {od_is_share an_is_share : Option Addr} {sl_is_share : Array (Option Value)} {oc_is_share kV_is_share dc_is_share pm_is_share cd_is_share ct_is_share : Value}
    {f_check_limit : Addr} {od_check_limit an_check_limit : Option Addr} {sl_check_limit : Array (Option Value)} {oc_check_limit kV_check_limit dc_check_limit pm_check_limit cd_check_limit ct_check_limit : Value}
    {f_risk : Addr} {od_risk an_risk : Option Addr} {sl_risk : Array (Option Value)} {oc_risk kV_risk dc_risk pm_risk cd_risk ct_risk : Value}
    {f_least_draws : Addr} {od_least_draws an_least_draws : Option Addr} {sl_least_draws : Array (Option Value)} {oc_least_draws kV_least_draws dc_least_draws pm_least_draws cd_least_draws ct_least_draws : Value}
    {f_draws : Addr} {od_draws an_draws : Option Addr} {sl_draws : Array (Option Value)} {oc_draws kV_draws dc_draws pm_draws cd_draws ct_draws : Value}
    {f_lbag : Addr} {od_lbag an_lbag : Option Addr} {sl_lbag : Array (Option Value)} {oc_lbag kV_lbag dc_lbag pm_lbag cd_lbag ct_lbag : Value}
    {f_lpull : Addr} {od_lpull an_lpull : Option Addr} {sl_lpull : Array (Option Value)} {oc_lpull kV_lpull dc_lpull pm_lpull cd_lpull ct_lpull : Value}
    {f_lof : Addr} {od_lof an_lof : Option Addr} {sl_lof : Array (Option Value)} {oc_lof kV_lof dc_lof pm_lof cd_lof ct_lof : Value}
    {f_lturned : Addr} {od_lturned an_lturned : Option Addr} {sl_lturned : Array (Option Value)} {oc_lturned kV_lturned dc_lturned pm_lturned cd_lturned ct_lturned : Value}
    {f_llike : Addr} {od_llike an_llike : Option Addr} {sl_llike : Array (Option Value)} {oc_llike kV_llike dc_llike pm_llike cd_llike ct_llike : Value}
    {f_lfit : Addr} {od_lfit an_lfit : Option Addr} {sl_lfit : Array (Option Value)} {oc_lfit kV_lfit dc_lfit pm_lfit cd_lfit ct_lfit : Value}
    {f_ltimes : Addr} {od_ltimes an_ltimes : Option Addr} {sl_ltimes : Array (Option Value)} {oc_ltimes kV_ltimes dc_ltimes pm_ltimes cd_ltimes ct_ltimes : Value}
    {f_lless : Addr} {od_lless an_lless : Option Addr} {sl_lless : Array (Option Value)} {oc_lless kV_lless dc_lless pm_lless cd_lless ct_lless : Value}
    {f_lways_of : Addr} {od_lways_of an_lways_of : Option Addr} {sl_lways_of : Array (Option Value)} {oc_lways_of kV_lways_of dc_lways_of pm_lways_of cd_lways_of ct_lways_of : Value}
    {f_llisted : Addr} {od_llisted an_llisted : Option Addr} {sl_llisted : Array (Option Value)} {oc_llisted kV_llisted dc_llisted pm_llisted cd_llisted ct_llisted : Value}
    {f_lpart_of : Addr} {od_lpart_of an_lpart_of : Option Addr} {sl_lpart_of : Array (Option Value)} {oc_lpart_of kV_lpart_of dc_lpart_of pm_lpart_of cd_lpart_of ct_lpart_of : Value}
    {f_lfirst_draw : Addr} {od_lfirst_draw an_lfirst_draw : Option Addr} {sl_lfirst_draw : Array (Option Value)} {oc_lfirst_draw kV_lfirst_draw dc_lfirst_draw pm_lfirst_draw cd_lfirst_draw ct_lfirst_draw : Value}
    {f_lrefused : Addr} {od_lrefused an_lrefused : Option Addr} {sl_lrefused : Array (Option Value)} {oc_lrefused kV_lrefused dc_lrefused pm_lrefused cd_lrefused ct_lrefused : Value}
    {f_lerrors : Addr} {od_lerrors an_lerrors : Option Addr} {sl_lerrors : Array (Option Value)} {oc_lerrors kV_lerrors dc_lerrors pm_lerrors cd_lerrors ct_lerrors : Value}
    {f_law : Addr} {od_law an_law : Option Addr} {sl_law : Array (Option Value)} {oc_law kV_law dc_law pm_law cd_law ct_law : Value}
    {Ix1 Ix2 : Str} {Ix3 : Addr} {Ix4 Ix5 Ix7 : List Value} {Ix6 : List Str} {Ix8 : Bool} {Ix9 : Option Bool} {Ix10 : Option Addr} {Iy0 Iy1 Iy2 Iy3 Iy5 : Option Value} {Tx1 Tx2 : Str} {Tx3 : Addr} {Tx4 Tx5 Tx7 : List Value} {Tx6 : List Str} {Tx8 : Bool} {Tx9 : Option Bool} {Tx10 : Option Addr} {Ty0 Ty1 Ty2 Ty3 Ty5 : Option Value}
    {ocW kVW dcW pmW cdW ctW oD : Value} {odW anW odD : Option Addr} {slW slD : Array (Option Value)} {tD uB uD : Tok} {nD : Nat}
    (aInv : PySem.W.nsIn K mainGlobals "InvalidNumber" = some (some (.ref CI)))
    (aTM : PySem.W.nsIn K mainGlobals "TooMany" = some (some (.ref CT)))
    (aCE : PySem.W.nsIn K mainGlobals "CountError" = some (some (.ref CE)))
    (aW : PySem.W.nsIn K mainGlobals "worth" = some (some (.ref fW)))
    (a_InvalidNumber_Dinit : PySem.W.findIn K (.ref CI) "__init__" = some (some (.ref f_InvalidNumber_Dinit)))
    (i_InvalidNumber_Dinit : PySem.W.isFn K (.ref f_InvalidNumber_Dinit) = true)
    (l_InvalidNumber_Dinit : K.lookup f_InvalidNumber_Dinit = some ⟨oc_InvalidNumber_Dinit, od_InvalidNumber_Dinit, .func (PySem.W.fnOf "__init__" "InvalidNumber.__init__" (defArgs s_InvalidNumber_Dinit) (defBody s_InvalidNumber_Dinit) (defScope s_InvalidNumber_Dinit) .none kV_InvalidNumber_Dinit dc_InvalidNumber_Dinit pm_InvalidNumber_Dinit an_InvalidNumber_Dinit cd_InvalidNumber_Dinit ct_InvalidNumber_Dinit), sl_InvalidNumber_Dinit⟩)
    (c_InvalidNumber_Dinit : PySem.W.codeIn K cd_InvalidNumber_Dinit "InvalidNumber.__init__" = true)
    (k_InvalidNumber_Dinit : PySem.W.keepIn K (.ref f_InvalidNumber_Dinit) = true)
    (a_TooMany_Dinit : PySem.W.findIn K (.ref CT) "__init__" = some (some (.ref f_TooMany_Dinit)))
    (i_TooMany_Dinit : PySem.W.isFn K (.ref f_TooMany_Dinit) = true)
    (l_TooMany_Dinit : K.lookup f_TooMany_Dinit = some ⟨oc_TooMany_Dinit, od_TooMany_Dinit, .func (PySem.W.fnOf "__init__" "TooMany.__init__" (defArgs s_TooMany_Dinit) (defBody s_TooMany_Dinit) (defScope s_TooMany_Dinit) .none kV_TooMany_Dinit dc_TooMany_Dinit pm_TooMany_Dinit an_TooMany_Dinit cd_TooMany_Dinit ct_TooMany_Dinit), sl_TooMany_Dinit⟩)
    (c_TooMany_Dinit : PySem.W.codeIn K cd_TooMany_Dinit "TooMany.__init__" = true)
    (k_TooMany_Dinit : PySem.W.keepIn K (.ref f_TooMany_Dinit) = true)
    (a_is_less : PySem.W.nsIn K mainGlobals "is_less" = some (some (.ref f_is_less)))
    (l_is_less : K.lookup f_is_less = some ⟨oc_is_less, od_is_less, .func (PySem.W.fnOf "is_less" "is_less" (defArgs s_is_less) (defBody s_is_less) (defScope s_is_less) .none kV_is_less dc_is_less pm_is_less an_is_less cd_is_less ct_is_less), sl_is_less⟩)
    (c_is_less : PySem.W.codeIn K cd_is_less "is_less" = true)
    (k_is_less : PySem.W.keepIn K (.ref f_is_less) = true)
    (a_is_number : PySem.W.nsIn K mainGlobals "is_number" = some (some (.ref f_is_number)))
    (l_is_number : K.lookup f_is_number = some ⟨oc_is_number, od_is_number, .func (PySem.W.fnOf "is_number" "is_number" (defArgs s_is_number) (defBody s_is_number) (defScope s_is_number) .none kV_is_number dc_is_number pm_is_number an_is_number cd_is_number ct_is_number), sl_is_number⟩)
    (c_is_number : PySem.W.codeIn K cd_is_number "is_number" = true)
    (k_is_number : PySem.W.keepIn K (.ref f_is_number) = true)
    (a_check_number : PySem.W.nsIn K mainGlobals "check_number" = some (some (.ref f_check_number)))
    (l_check_number : K.lookup f_check_number = some ⟨oc_check_number, od_check_number, .func (PySem.W.fnOf "check_number" "check_number" (defArgs s_check_number) (defBody s_check_number) (defScope s_check_number) .none kV_check_number dc_check_number pm_check_number an_check_number cd_check_number ct_check_number), sl_check_number⟩)
    (c_check_number : PySem.W.codeIn K cd_check_number "check_number" = true)
    (k_check_number : PySem.W.keepIn K (.ref f_check_number) = true)
    (a_is_share : PySem.W.nsIn K mainGlobals "is_share" = some (some (.ref f_is_share)))
    (l_is_share : K.lookup f_is_share = some ⟨oc_is_share, od_is_share, .func (PySem.W.fnOf "is_share" "is_share" (defArgs s_is_share) (defBody s_is_share) (defScope s_is_share) .none kV_is_share dc_is_share pm_is_share an_is_share cd_is_share ct_is_share), sl_is_share⟩)
    (c_is_share : PySem.W.codeIn K cd_is_share "is_share" = true)
    (k_is_share : PySem.W.keepIn K (.ref f_is_share) = true)
    (a_check_limit : PySem.W.nsIn K mainGlobals "check_limit" = some (some (.ref f_check_limit)))
    (l_check_limit : K.lookup f_check_limit = some ⟨oc_check_limit, od_check_limit, .func (PySem.W.fnOf "check_limit" "check_limit" (defArgs s_check_limit) (defBody s_check_limit) (defScope s_check_limit) .none kV_check_limit dc_check_limit pm_check_limit an_check_limit cd_check_limit ct_check_limit), sl_check_limit⟩)
    (c_check_limit : PySem.W.codeIn K cd_check_limit "check_limit" = true)
    (k_check_limit : PySem.W.keepIn K (.ref f_check_limit) = true)
    (a_risk : PySem.W.nsIn K mainGlobals "risk" = some (some (.ref f_risk)))
    (l_risk : K.lookup f_risk = some ⟨oc_risk, od_risk, .func (PySem.W.fnOf "risk" "risk" (defArgs s_risk) (defBody s_risk) (defScope s_risk) .none kV_risk dc_risk pm_risk an_risk cd_risk ct_risk), sl_risk⟩)
    (c_risk : PySem.W.codeIn K cd_risk "risk" = true)
    (k_risk : PySem.W.keepIn K (.ref f_risk) = true)
    (a_least_draws : PySem.W.nsIn K mainGlobals "least_draws" = some (some (.ref f_least_draws)))
    (l_least_draws : K.lookup f_least_draws = some ⟨oc_least_draws, od_least_draws, .func (PySem.W.fnOf "least_draws" "least_draws" (defArgs s_least_draws) (defBody s_least_draws) (defScope s_least_draws) .none kV_least_draws dc_least_draws pm_least_draws an_least_draws cd_least_draws ct_least_draws), sl_least_draws⟩)
    (c_least_draws : PySem.W.codeIn K cd_least_draws "least_draws" = true)
    (k_least_draws : PySem.W.keepIn K (.ref f_least_draws) = true)
    (a_draws : PySem.W.nsIn K mainGlobals "draws" = some (some (.ref f_draws)))
    (l_draws : K.lookup f_draws = some ⟨oc_draws, od_draws, .func (PySem.W.fnOf "draws" "draws" (defArgs s_draws) (defBody s_draws) (defScope s_draws) .none kV_draws dc_draws pm_draws an_draws cd_draws ct_draws), sl_draws⟩)
    (c_draws : PySem.W.codeIn K cd_draws "draws" = true)
    (k_draws : PySem.W.keepIn K (.ref f_draws) = true)
    (a_lbag : PySem.W.nsIn K mainGlobals "_law_bag" = some (some (.ref f_lbag)))
    (l_lbag : K.lookup f_lbag = some ⟨oc_lbag, od_lbag, .func (PySem.W.fnOf "_law_bag" "_law_bag" (defArgs s_lbag) (defBody s_lbag) (defScope s_lbag) .none kV_lbag dc_lbag pm_lbag an_lbag cd_lbag ct_lbag), sl_lbag⟩)
    (c_lbag : PySem.W.codeIn K cd_lbag "_law_bag" = true)
    (k_lbag : PySem.W.keepIn K (.ref f_lbag) = true)
    (a_lpull : PySem.W.nsIn K mainGlobals "_law_pull" = some (some (.ref f_lpull)))
    (l_lpull : K.lookup f_lpull = some ⟨oc_lpull, od_lpull, .func (PySem.W.fnOf "_law_pull" "_law_pull" (defArgs s_lpull) (defBody s_lpull) (defScope s_lpull) .none kV_lpull dc_lpull pm_lpull an_lpull cd_lpull ct_lpull), sl_lpull⟩)
    (c_lpull : PySem.W.codeIn K cd_lpull "_law_pull" = true)
    (k_lpull : PySem.W.keepIn K (.ref f_lpull) = true)
    (a_lof : PySem.W.nsIn K mainGlobals "_law_of" = some (some (.ref f_lof)))
    (l_lof : K.lookup f_lof = some ⟨oc_lof, od_lof, .func (PySem.W.fnOf "_law_of" "_law_of" (defArgs s_lof) (defBody s_lof) (defScope s_lof) .none kV_lof dc_lof pm_lof an_lof cd_lof ct_lof), sl_lof⟩)
    (c_lof : PySem.W.codeIn K cd_lof "_law_of" = true)
    (k_lof : PySem.W.keepIn K (.ref f_lof) = true)
    (a_lturned : PySem.W.nsIn K mainGlobals "_law_turned" = some (some (.ref f_lturned)))
    (l_lturned : K.lookup f_lturned = some ⟨oc_lturned, od_lturned, .func (PySem.W.fnOf "_law_turned" "_law_turned" (defArgs s_lturned) (defBody s_lturned) (defScope s_lturned) .none kV_lturned dc_lturned pm_lturned an_lturned cd_lturned ct_lturned), sl_lturned⟩)
    (c_lturned : PySem.W.codeIn K cd_lturned "_law_turned" = true)
    (k_lturned : PySem.W.keepIn K (.ref f_lturned) = true)
    (a_llike : PySem.W.nsIn K mainGlobals "_law_like" = some (some (.ref f_llike)))
    (l_llike : K.lookup f_llike = some ⟨oc_llike, od_llike, .func (PySem.W.fnOf "_law_like" "_law_like" (defArgs s_llike) (defBody s_llike) (defScope s_llike) .none kV_llike dc_llike pm_llike an_llike cd_llike ct_llike), sl_llike⟩)
    (c_llike : PySem.W.codeIn K cd_llike "_law_like" = true)
    (k_llike : PySem.W.keepIn K (.ref f_llike) = true)
    (a_lfit : PySem.W.nsIn K mainGlobals "_law_fit" = some (some (.ref f_lfit)))
    (l_lfit : K.lookup f_lfit = some ⟨oc_lfit, od_lfit, .func (PySem.W.fnOf "_law_fit" "_law_fit" (defArgs s_lfit) (defBody s_lfit) (defScope s_lfit) .none kV_lfit dc_lfit pm_lfit an_lfit cd_lfit ct_lfit), sl_lfit⟩)
    (c_lfit : PySem.W.codeIn K cd_lfit "_law_fit" = true)
    (k_lfit : PySem.W.keepIn K (.ref f_lfit) = true)
    (a_ltimes : PySem.W.nsIn K mainGlobals "_law_times" = some (some (.ref f_ltimes)))
    (l_ltimes : K.lookup f_ltimes = some ⟨oc_ltimes, od_ltimes, .func (PySem.W.fnOf "_law_times" "_law_times" (defArgs s_ltimes) (defBody s_ltimes) (defScope s_ltimes) .none kV_ltimes dc_ltimes pm_ltimes an_ltimes cd_ltimes ct_ltimes), sl_ltimes⟩)
    (c_ltimes : PySem.W.codeIn K cd_ltimes "_law_times" = true)
    (k_ltimes : PySem.W.keepIn K (.ref f_ltimes) = true)
    (a_lless : PySem.W.nsIn K mainGlobals "_law_less" = some (some (.ref f_lless)))
    (l_lless : K.lookup f_lless = some ⟨oc_lless, od_lless, .func (PySem.W.fnOf "_law_less" "_law_less" (defArgs s_lless) (defBody s_lless) (defScope s_lless) .none kV_lless dc_lless pm_lless an_lless cd_lless ct_lless), sl_lless⟩)
    (c_lless : PySem.W.codeIn K cd_lless "_law_less" = true)
    (k_lless : PySem.W.keepIn K (.ref f_lless) = true)
    (a_lways_of : PySem.W.nsIn K mainGlobals "_law_ways_of" = some (some (.ref f_lways_of)))
    (l_lways_of : K.lookup f_lways_of = some ⟨oc_lways_of, od_lways_of, .func (PySem.W.fnOf "_law_ways_of" "_law_ways_of" (defArgs s_lways_of) (defBody s_lways_of) (defScope s_lways_of) .none kV_lways_of dc_lways_of pm_lways_of an_lways_of cd_lways_of ct_lways_of), sl_lways_of⟩)
    (c_lways_of : PySem.W.codeIn K cd_lways_of "_law_ways_of" = true)
    (k_lways_of : PySem.W.keepIn K (.ref f_lways_of) = true)
    (a_llisted : PySem.W.nsIn K mainGlobals "_law_listed" = some (some (.ref f_llisted)))
    (l_llisted : K.lookup f_llisted = some ⟨oc_llisted, od_llisted, .func (PySem.W.fnOf "_law_listed" "_law_listed" (defArgs s_llisted) (defBody s_llisted) (defScope s_llisted) .none kV_llisted dc_llisted pm_llisted an_llisted cd_llisted ct_llisted), sl_llisted⟩)
    (c_llisted : PySem.W.codeIn K cd_llisted "_law_listed" = true)
    (k_llisted : PySem.W.keepIn K (.ref f_llisted) = true)
    (a_lpart_of : PySem.W.nsIn K mainGlobals "_law_part_of" = some (some (.ref f_lpart_of)))
    (l_lpart_of : K.lookup f_lpart_of = some ⟨oc_lpart_of, od_lpart_of, .func (PySem.W.fnOf "_law_part_of" "_law_part_of" (defArgs s_lpart_of) (defBody s_lpart_of) (defScope s_lpart_of) .none kV_lpart_of dc_lpart_of pm_lpart_of an_lpart_of cd_lpart_of ct_lpart_of), sl_lpart_of⟩)
    (c_lpart_of : PySem.W.codeIn K cd_lpart_of "_law_part_of" = true)
    (k_lpart_of : PySem.W.keepIn K (.ref f_lpart_of) = true)
    (a_lfirst_draw : PySem.W.nsIn K mainGlobals "_law_first_draw" = some (some (.ref f_lfirst_draw)))
    (l_lfirst_draw : K.lookup f_lfirst_draw = some ⟨oc_lfirst_draw, od_lfirst_draw, .func (PySem.W.fnOf "_law_first_draw" "_law_first_draw" (defArgs s_lfirst_draw) (defBody s_lfirst_draw) (defScope s_lfirst_draw) .none kV_lfirst_draw dc_lfirst_draw pm_lfirst_draw an_lfirst_draw cd_lfirst_draw ct_lfirst_draw), sl_lfirst_draw⟩)
    (c_lfirst_draw : PySem.W.codeIn K cd_lfirst_draw "_law_first_draw" = true)
    (k_lfirst_draw : PySem.W.keepIn K (.ref f_lfirst_draw) = true)
    (a_lrefused : PySem.W.nsIn K mainGlobals "_law_refused" = some (some (.ref f_lrefused)))
    (l_lrefused : K.lookup f_lrefused = some ⟨oc_lrefused, od_lrefused, .func (PySem.W.fnOf "_law_refused" "_law_refused" (defArgs s_lrefused) (defBody s_lrefused) (defScope s_lrefused) .none kV_lrefused dc_lrefused pm_lrefused an_lrefused cd_lrefused ct_lrefused), sl_lrefused⟩)
    (c_lrefused : PySem.W.codeIn K cd_lrefused "_law_refused" = true)
    (k_lrefused : PySem.W.keepIn K (.ref f_lrefused) = true)
    (a_lerrors : PySem.W.nsIn K mainGlobals "_law_errors" = some (some (.ref f_lerrors)))
    (l_lerrors : K.lookup f_lerrors = some ⟨oc_lerrors, od_lerrors, .func (PySem.W.fnOf "_law_errors" "_law_errors" (defArgs s_lerrors) (defBody s_lerrors) (defScope s_lerrors) .none kV_lerrors dc_lerrors pm_lerrors an_lerrors cd_lerrors ct_lerrors), sl_lerrors⟩)
    (c_lerrors : PySem.W.codeIn K cd_lerrors "_law_errors" = true)
    (k_lerrors : PySem.W.keepIn K (.ref f_lerrors) = true)
    (a_law : PySem.W.nsIn K mainGlobals "law" = some (some (.ref f_law)))
    (l_law : K.lookup f_law = some ⟨oc_law, od_law, .func (PySem.W.fnOf "law" "law" (defArgs s_law) (defBody s_law) (defScope s_law) .none kV_law dc_law pm_law an_law cd_law ct_law), sl_law⟩)
    (c_law : PySem.W.codeIn K cd_law "law" = true)
    (k_law : PySem.W.keepIn K (.ref f_law) = true)
    (xlI : K.lookup CI = some (excClassObj Ix1 Ix2 CI Ix3 Ix4 Ix5 true Ix6 Ix7 Ix8 Ix9 Ix10 Iy0 Iy1 Iy2 Iy3 Iy5 "ValueError.__new__"))
    (xrI : PySem.HandSPX.refsVE Ix5 = true)
    (xsaI : PySem.W.findIn K (.ref CI) "__setattr__" = some (some (.builtin "object.__setattr__")))
    (xexI : PySem.W.subIn K (.ref CI) (.type "BaseException") = some true)
    (xtyI : PySem.W.typeIn K (.ref CI) = some (.type "type"))
    (xkcI : PySem.W.keepIn K (.ref CI) = true)
    (hgI : PySem.W.findIn K (.ref CI) "__getattribute__" = some (some (.builtin "BaseException.__getattribute__")))
    (hkI : PySem.W.findIn K (.ref CI) "__getattr__" = some none)
    (hdI : PySem.W.hasDictIn K CI = true)
    (haI : PySem.W.findIn K (.ref CI) "__class__" = some (some (.builtin "object.__class__")))
    (hmI : PySem.W.mroIn K CI (.type "object") = some true)
    (stI : PySem.W.subIn K (.ref CI) (.type "StopIteration") = some false)
    (xlT : K.lookup CT = some (excClassObj Tx1 Tx2 CT Tx3 Tx4 Tx5 true Tx6 Tx7 Tx8 Tx9 Tx10 Ty0 Ty1 Ty2 Ty3 Ty5 "ValueError.__new__"))
    (xrT : PySem.HandSPX.refsVE Tx5 = true)
    (xsaT : PySem.W.findIn K (.ref CT) "__setattr__" = some (some (.builtin "object.__setattr__")))
    (xexT : PySem.W.subIn K (.ref CT) (.type "BaseException") = some true)
    (xtyT : PySem.W.typeIn K (.ref CT) = some (.type "type"))
    (xkcT : PySem.W.keepIn K (.ref CT) = true)
    (hgT : PySem.W.findIn K (.ref CT) "__getattribute__" = some (some (.builtin "BaseException.__getattribute__")))
    (hkT : PySem.W.findIn K (.ref CT) "__getattr__" = some none)
    (hdT : PySem.W.hasDictIn K CT = true)
    (haT : PySem.W.findIn K (.ref CT) "__class__" = some (some (.builtin "object.__class__")))
    (hmT : PySem.W.mroIn K CT (.type "object") = some true)
    (stT : PySem.W.subIn K (.ref CT) (.type "StopIteration") = some false)
    (nI_value : PySem.W.findIn K (.ref CI) "value" = some none)
    (nI_code : PySem.W.findIn K (.ref CI) "code" = some none)
    (nT_what : PySem.W.findIn K (.ref CT) "what" = some none)
    (nT_most : PySem.W.findIn K (.ref CT) "most" = some none)
    (nT_code : PySem.W.findIn K (.ref CT) "code" = some none)
    (clE : PySem.W.isClsIn K CE = true)
    (tyE : PySem.W.typeIn K (.ref CE) = some (.type "type"))
    (suE : PySem.W.subIn K (.ref CT) (.ref CE) = some true)
    (suI : PySem.W.subIn K (.ref CI) (.ref CI) = some true)
    (suTI : PySem.W.subIn K (.ref CT) (.ref CI) = some false)
    (suT : PySem.W.subIn K (.ref CT) (.ref CT) = some true)
    (clsN : PySem.W.specialIn K (.builtin "object.__class__") "__get__" = some (some (.builtin "getset_descriptor.__get__")))
    (clsT : PySem.W.takesIn K (.builtin "object.__class__") = some true)
    (aMB : PySem.W.nsIn K mainGlobals "MOST_BALLOTS" = some (some (.int 40 uB)))
    (aMD : PySem.W.nsIn K mainGlobals "MOST_DRAWS" = some (some (.int 20000 uD)))
    (aCo : PySem.W.nsIn K mainGlobals "comb" = some (some (.builtin "math.comb")))
    (lW : K.lookup fW = some ⟨ocW, odW, .func (PySem.W.fnOf "worth" "worth" (defArgs s_worth) (defBody s_worth) (defScope s_worth) (.ref aD) kVW dcW pmW anW cdW ctW), slW⟩)
    (cW : PySem.W.codeIn K cdW "worth" = true)
    (kW : PySem.W.keepIn K (.ref fW) = true)
    (lD : K.lookup aD = some ⟨oD, odD, .seq #[.int 1 tD] nD, slD⟩)
    (aG : PySem.W.nsIn K mainGlobals "gcd" = some (some (.builtin "math.gcd")))
    (z_len : PySem.W.nsIn K mainGlobals "len" = some none)
    (z_abs : PySem.W.nsIn K mainGlobals "abs" = some none)
    (z_int : PySem.W.nsIn K mainGlobals "int" = some none)
    (z_str : PySem.W.nsIn K mainGlobals "str" = some none)
    (z_isinstance : PySem.W.nsIn K mainGlobals "isinstance" = some none)
    (z_zip : PySem.W.nsIn K mainGlobals "zip" = some none)
    (z_all : PySem.W.nsIn K mainGlobals "all" = some none)
    (z_any : PySem.W.nsIn K mainGlobals "any" = some none)
    (z_sum : PySem.W.nsIn K mainGlobals "sum" = some none)
    (z_list : PySem.W.nsIn K mainGlobals "list" = some none)
    (z_tuple : PySem.W.nsIn K mainGlobals "tuple" = some none)
    (z_bool : PySem.W.nsIn K mainGlobals "bool" = some none)
    (z_range : PySem.W.nsIn K mainGlobals "range" = some none)
    (z_min : PySem.W.nsIn K mainGlobals "min" = some none) : Tx K mg where
  CInvalidNumber := CI
  CTooMany := CT
  InvalidNumber_Dinit := ⟨f_InvalidNumber_Dinit, _, fun_mk (st := s_InvalidNumber_Dinit) l_InvalidNumber_Dinit c_InvalidNumber_Dinit k_InvalidNumber_Dinit, (fun_mk (st := s_InvalidNumber_Dinit) l_InvalidNumber_Dinit c_InvalidNumber_Dinit k_InvalidNumber_Dinit).binds (ps := p_InvalidNumber_Dinit) fun _ _ _ _ _ _ us hl => match us, hl with | [_, _], _ => rfl, a_InvalidNumber_Dinit, i_InvalidNumber_Dinit⟩
  TooMany_Dinit := ⟨f_TooMany_Dinit, _, fun_mk (st := s_TooMany_Dinit) l_TooMany_Dinit c_TooMany_Dinit k_TooMany_Dinit, (fun_mk (st := s_TooMany_Dinit) l_TooMany_Dinit c_TooMany_Dinit k_TooMany_Dinit).binds (ps := p_TooMany_Dinit) fun _ _ _ _ _ _ us hl => match us, hl with | [_, _, _], _ => rfl, a_TooMany_Dinit, i_TooMany_Dinit⟩
  is_less := ⟨f_is_less, _, fun_mk (st := s_is_less) l_is_less c_is_less k_is_less, (fun_mk (st := s_is_less) l_is_less c_is_less k_is_less).binds (ps := p_is_less) fun _ _ _ _ _ _ us hl => match us, hl with | [_, _], _ => rfl, PySem.W.mg_of X G a_is_less⟩
  is_number := ⟨f_is_number, _, fun_mk (st := s_is_number) l_is_number c_is_number k_is_number, (fun_mk (st := s_is_number) l_is_number c_is_number k_is_number).binds (ps := p_is_number) fun _ _ _ _ _ _ us hl => match us, hl with | [_, _, _], _ => rfl, PySem.W.mg_of X G a_is_number⟩
  check_number := ⟨f_check_number, _, fun_mk (st := s_check_number) l_check_number c_check_number k_check_number, (fun_mk (st := s_check_number) l_check_number c_check_number k_check_number).binds (ps := p_check_number) fun _ _ _ _ _ _ us hl => match us, hl with | [_, _], _ => rfl, PySem.W.mg_of X G a_check_number⟩
  is_share := ⟨f_is_share, _, fun_mk (st := s_is_share) l_is_share c_is_share k_is_share, (fun_mk (st := s_is_share) l_is_share c_is_share k_is_share).binds (ps := p_is_share) fun _ _ _ _ _ _ us hl => match us, hl with | [_], _ => rfl, PySem.W.mg_of X G a_is_share⟩
  check_limit := ⟨f_check_limit, _, fun_mk (st := s_check_limit) l_check_limit c_check_limit k_check_limit, (fun_mk (st := s_check_limit) l_check_limit c_check_limit k_check_limit).binds (ps := p_check_limit) fun _ _ _ _ _ _ us hl => match us, hl with | [_], _ => rfl, PySem.W.mg_of X G a_check_limit⟩
  risk := ⟨f_risk, _, fun_mk (st := s_risk) l_risk c_risk k_risk, (fun_mk (st := s_risk) l_risk c_risk k_risk).binds (ps := p_risk) fun _ _ _ _ _ _ us hl => match us, hl with | [_, _, _], _ => rfl, PySem.W.mg_of X G a_risk⟩
  least_draws := ⟨f_least_draws, _, fun_mk (st := s_least_draws) l_least_draws c_least_draws k_least_draws, (fun_mk (st := s_least_draws) l_least_draws c_least_draws k_least_draws).binds (ps := p_least_draws) fun _ _ _ _ _ _ us hl => match us, hl with | [_, _, _], _ => rfl, PySem.W.mg_of X G a_least_draws⟩
  draws := ⟨f_draws, _, fun_mk (st := s_draws) l_draws c_draws k_draws, (fun_mk (st := s_draws) l_draws c_draws k_draws).binds (ps := p_draws) fun _ _ _ _ _ _ us hl => match us, hl with | [_, _], _ => rfl, PySem.W.mg_of X G a_draws⟩
  lbag := ⟨f_lbag, _, fun_mk (st := s_lbag) l_lbag c_lbag k_lbag, (fun_mk (st := s_lbag) l_lbag c_lbag k_lbag).binds (ps := p_lbag) fun _ _ _ _ _ _ us hl => match us, hl with | [_], _ => rfl, PySem.W.mg_of X G a_lbag⟩
  lpull := ⟨f_lpull, _, fun_mk (st := s_lpull) l_lpull c_lpull k_lpull, (fun_mk (st := s_lpull) l_lpull c_lpull k_lpull).binds (ps := p_lpull) fun _ _ _ _ _ _ us hl => match us, hl with | [_, _], _ => rfl, PySem.W.mg_of X G a_lpull⟩
  lof := ⟨f_lof, _, fun_mk (st := s_lof) l_lof c_lof k_lof, (fun_mk (st := s_lof) l_lof c_lof k_lof).binds (ps := p_lof) fun _ _ _ _ _ _ us hl => match us, hl with | [_, _], _ => rfl, PySem.W.mg_of X G a_lof⟩
  lturned := ⟨f_lturned, _, fun_mk (st := s_lturned) l_lturned c_lturned k_lturned, (fun_mk (st := s_lturned) l_lturned c_lturned k_lturned).binds (ps := p_lturned) fun _ _ _ _ _ _ us hl => match us, hl with | [_, _], _ => rfl, PySem.W.mg_of X G a_lturned⟩
  llike := ⟨f_llike, _, fun_mk (st := s_llike) l_llike c_llike k_llike, (fun_mk (st := s_llike) l_llike c_llike k_llike).binds (ps := p_llike) fun _ _ _ _ _ _ us hl => match us, hl with | [_, _], _ => rfl, PySem.W.mg_of X G a_llike⟩
  lfit := ⟨f_lfit, _, fun_mk (st := s_lfit) l_lfit c_lfit k_lfit, (fun_mk (st := s_lfit) l_lfit c_lfit k_lfit).binds (ps := p_lfit) fun _ _ _ _ _ _ us hl => match us, hl with | [_, _], _ => rfl, PySem.W.mg_of X G a_lfit⟩
  ltimes := ⟨f_ltimes, _, fun_mk (st := s_ltimes) l_ltimes c_ltimes k_ltimes, (fun_mk (st := s_ltimes) l_ltimes c_ltimes k_ltimes).binds (ps := p_ltimes) fun _ _ _ _ _ _ us hl => match us, hl with | [_, _], _ => rfl, PySem.W.mg_of X G a_ltimes⟩
  lless := ⟨f_lless, _, fun_mk (st := s_lless) l_lless c_lless k_lless, (fun_mk (st := s_lless) l_lless c_lless k_lless).binds (ps := p_lless) fun _ _ _ _ _ _ us hl => match us, hl with | [_, _], _ => rfl, PySem.W.mg_of X G a_lless⟩
  lways_of := ⟨f_lways_of, _, fun_mk (st := s_lways_of) l_lways_of c_lways_of k_lways_of, (fun_mk (st := s_lways_of) l_lways_of c_lways_of k_lways_of).binds (ps := p_lways_of) fun _ _ _ _ _ _ us hl => match us, hl with | [_, _], _ => rfl, PySem.W.mg_of X G a_lways_of⟩
  llisted := ⟨f_llisted, _, fun_mk (st := s_llisted) l_llisted c_llisted k_llisted, (fun_mk (st := s_llisted) l_llisted c_llisted k_llisted).binds (ps := p_llisted) fun _ _ _ _ _ _ us hl => match us, hl with | [_, _], _ => rfl, PySem.W.mg_of X G a_llisted⟩
  lpart_of := ⟨f_lpart_of, _, fun_mk (st := s_lpart_of) l_lpart_of c_lpart_of k_lpart_of, (fun_mk (st := s_lpart_of) l_lpart_of c_lpart_of k_lpart_of).binds (ps := p_lpart_of) fun _ _ _ _ _ _ us hl => match us, hl with | [_, _, _], _ => rfl, PySem.W.mg_of X G a_lpart_of⟩
  lfirst_draw := ⟨f_lfirst_draw, _, fun_mk (st := s_lfirst_draw) l_lfirst_draw c_lfirst_draw k_lfirst_draw, (fun_mk (st := s_lfirst_draw) l_lfirst_draw c_lfirst_draw k_lfirst_draw).binds (ps := p_lfirst_draw) fun _ _ _ _ _ _ us hl => match us, hl with | [_, _], _ => rfl, PySem.W.mg_of X G a_lfirst_draw⟩
  lrefused := ⟨f_lrefused, _, fun_mk (st := s_lrefused) l_lrefused c_lrefused k_lrefused, (fun_mk (st := s_lrefused) l_lrefused c_lrefused k_lrefused).binds (ps := p_lrefused) fun _ _ _ _ _ _ us hl => match us, hl with | [_, _, _, _], _ => rfl, PySem.W.mg_of X G a_lrefused⟩
  lerrors := ⟨f_lerrors, _, fun_mk (st := s_lerrors) l_lerrors c_lerrors k_lerrors, (fun_mk (st := s_lerrors) l_lerrors c_lerrors k_lerrors).binds (ps := p_lerrors) fun _ _ _ _ _ _ us hl => match us, hl with | [_, _], _ => rfl, PySem.W.mg_of X G a_lerrors⟩
  law := ⟨f_law, _, fun_mk (st := s_law) l_law c_law k_law, (fun_mk (st := s_law) l_law c_law k_law).binds (ps := p_law) fun _ _ _ _ _ _ us hl => match us, hl with | [_], _ => rfl, PySem.W.mg_of X G a_law⟩
  xInvalidNumber := ⟨⟨_, _, _, _, _, _, _, _, _, _, _, _, _, _, _, xlI, xrI⟩, xsaI, xexI, xtyI, xkcI⟩
  xTooMany := ⟨⟨_, _, _, _, _, _, _, _, _, _, _, _, _, _, _, xlT, xrT⟩, xsaT, xexT, xtyT, xkcT⟩
  fInvalidNumber := ⟨hgI, hkI, xexI, hdI⟩
  fTooMany := ⟨hgT, hkT, xexT, hdT⟩
  cInvalidNumber := ⟨hgI, hkI, xexI, hdI, haI, clsN, clsT, hmI⟩
  cTooMany := ⟨hgT, hkT, xexT, hdT, haT, clsN, clsT, hmT⟩
  gInvalidNumber := PySem.W.mg_of X G aInv
  gTooMany := PySem.W.mg_of X G aTM
  stInvalidNumber := stI
  stTooMany := stT
  nInvalidNumber_value := nI_value
  nInvalidNumber_code := nI_code
  nTooMany_what := nT_what
  nTooMany_most := nT_most
  nTooMany_code := nT_code
  CCE := CE
  gCountError := PySem.W.mg_of X G aCE
  isE := kit_mk clE tyE suE fun _ => rfl
  exII := PySem.W.exm_ref xexI hdI xtyI suI
  exMI := PySem.W.exm_ref xexI hdI xtyI suTI
  exMM := PySem.W.exm_ref xexT hdT xtyT suT
  fworth := fW
  fdworth := _
  Fworth := ⟨_, fundW lW cW kW lD⟩
  bworth := bindW (fundW lW cW kW lD)
  gworth := PySem.W.mg_of X G aW
  kworth := kW
  gcd := PySem.W.mg_of X G aG
  comb := PySem.W.mg_of X G aCo
  uB := uB
  uD := uD
  gMOST_BALLOTS := PySem.W.mg_of X G aMB
  gMOST_DRAWS := PySem.W.mg_of X G aMD
  len := PySem.W.mg_none_of X G z_len
  abs := PySem.W.mg_none_of X G z_abs
  int := PySem.W.mg_none_of X G z_int
  str := PySem.W.mg_none_of X G z_str
  isinstance := PySem.W.mg_none_of X G z_isinstance
  zip := PySem.W.mg_none_of X G z_zip
  all := PySem.W.mg_none_of X G z_all
  any := PySem.W.mg_none_of X G z_any
  sum := PySem.W.mg_none_of X G z_sum
  list := PySem.W.mg_none_of X G z_list
  tuple := PySem.W.mg_none_of X G z_tuple
  bool := PySem.W.mg_none_of X G z_bool
  range := PySem.W.mg_none_of X G z_range
  min := PySem.W.mg_none_of X G z_min
end
def F_law (K : PySem.W.Frag) : FS := fun ss Φ _ => ∃ ns : List Int, ss = [seqS K (ns.map V.int)] ∧ ns.length ≤ 63 ∧ Φ (vS (.bl true))
theorem all_mk {l : PySem.W.OpenLaw} {w : World} {K : PySem.W.Frag} {mg : Str → Option Value} {fa : Addr} (T : Tx K mg) (hfa : mg "law" = some (.ref fa)) :
    ∃ fd : FuncData, (∀ (s : Shared) (v : Value), BindsTo s fd ⟨[v], []⟩ [("script", v)]) ∧ ∀ base : Heap, K.In base → base.Ns mainGlobals mg → FnOk l.prog w K mg base CX0 8 fa fd ["script"] (spOf (F_law K)) := by
  have e := hfa.symm.trans T.law.g
  cases e
  obtain ⟨oc, od, kV, doc, pm, an, cdv, ct, osl, e, lk, hcd⟩ := T.law.F.ex
  exact ⟨T.law.fd, fun s v => by rw [e]; exact .of_eq rfl, fun base _ _ => ok_law T⟩
theorem walk {l : PySem.W.OpenLaw} {q : Program} {loose : List Str} {XP : (Str → Option Value) → Heap → Prop} {YP : World → Heap → Prop} {d : DefRec} {K : Params → PySem.W.Frag} (hn : l.most = some 63) (hdf : d.params.defaults = [])
    (hY : ∀ (w : World) (h : Heap), YP w h → (K w.params).In h)
    (F : ∀ (w : World) (mg : Str → Option Value) (fa : Addr) (h : Heap), (K w.params).In h → h.Ns mainGlobals mg → mg d.name = some (.ref fa) →
      ∃ fd : FuncData, (∀ (s : Shared) (u : Value), BindsTo s fd ⟨[u], []⟩ [("script", u)]) ∧ ∀ base : Heap, (K w.params).In base → base.Ns mainGlobals mg → FnOk l.prog w (K w.params) mg base CX0 8 fa fd ["script"] (spOf (F_law (K w.params)))) :
    PySem.W.WalkO q loose XP YP l.row.toRowW d [] (fun f vs => PySem.call f vs) :=
  L2.walk_of (n := 63) (k := 8) (x := "script") (CX := fun _ => CX0) (sp := fun w => spOf (F_law (K w.params))) hn (by decide) hdf ⟨rfl, by decide, by decide⟩ hY F
    (fun _ H a ns hl _ hS => ⟨H, [seqS _ (ns.map V.int)], fun s => s = vS (.bl true), fun _ => False, Same.refl _, .cons ⟨a, rfl, hS⟩ .nil, ⟨ns, rfl, hl, rfl⟩, fun s v B' H' _ p e => by subst e; exact p, fun _ _ _ _ _ _ z => z.elim⟩) fun _ _ _ _ _ z => z
end K83

/-! K83Y -/
namespace K83
open PySem PySem.Spec PyProof.Rows L2 Ab RatM AbM
end K83
open PySem PySem.W PyProof.Rows in
set_option maxRecDepth 100000 in
set_option maxHeartbeats 0 in
set_option pp.maxSteps 150 in
set_option pp.deepTerms false in
theorem PySem.Challenge.cw_soleheld_k83_risks_and_draws_holds : PySem.Challenge.rw_soleheld_k83_risks_and_draws.Holds := by
  w_on; o_law; k_head; (case hw => w_witness2)
  k_fill
  refine K83.walk (l := PySem.Challenge.rw_soleheld_k83_risks_and_draws) rfl rfl (fun w h Y => PySem.W.kIn_of Y) ?F
  case F =>
    intro w mg fa h KX G hmg
    refine K83.all_mk ?T hmg
    case T =>
      clear hmg
      refine' K83.mkTx KX G ?aInv ?aTM ?aCE ?aW ?a_InvalidNumber_Dinit ?i_InvalidNumber_Dinit ?l_InvalidNumber_Dinit ?c_InvalidNumber_Dinit ?k_InvalidNumber_Dinit ?a_TooMany_Dinit ?i_TooMany_Dinit ?l_TooMany_Dinit ?c_TooMany_Dinit ?k_TooMany_Dinit ?a_is_less ?l_is_less ?c_is_less ?k_is_less ?a_is_number ?l_is_number ?c_is_number ?k_is_number ?a_check_number ?l_check_number ?c_check_number ?k_check_number ?a_is_share ?l_is_share ?c_is_share ?k_is_share ?a_check_limit ?l_check_limit ?c_check_limit ?k_check_limit ?a_risk ?l_risk ?c_risk ?k_risk ?a_least_draws ?l_least_draws ?c_least_draws ?k_least_draws ?a_draws ?l_draws ?c_draws ?k_draws ?a_lbag ?l_lbag ?c_lbag ?k_lbag ?a_lpull ?l_lpull ?c_lpull ?k_lpull ?a_lof ?l_lof ?c_lof ?k_lof ?a_lturned ?l_lturned ?c_lturned ?k_lturned ?a_llike ?l_llike ?c_llike ?k_llike ?a_lfit ?l_lfit ?c_lfit ?k_lfit ?a_ltimes ?l_ltimes ?c_ltimes ?k_ltimes ?a_lless ?l_lless ?c_lless ?k_lless ?a_lways_of ?l_lways_of ?c_lways_of ?k_lways_of ?a_llisted ?l_llisted ?c_llisted ?k_llisted ?a_lpart_of ?l_lpart_of ?c_lpart_of ?k_lpart_of ?a_lfirst_draw ?l_lfirst_draw ?c_lfirst_draw ?k_lfirst_draw ?a_lrefused ?l_lrefused ?c_lrefused ?k_lrefused ?a_lerrors ?l_lerrors ?c_lerrors ?k_lerrors ?a_law ?l_law ?c_law ?k_law ?xlI ?xrI ?xsaI ?xexI ?xtyI ?xkcI ?hgI ?hkI ?hdI ?haI ?hmI ?stI ?xlT ?xrT ?xsaT ?xexT ?xtyT ?xkcT ?hgT ?hkT ?hdT ?haT ?hmT ?stT ?nI_value ?nI_code ?nT_what ?nT_most ?nT_code ?clE ?tyE ?suE ?suI ?suTI ?suT ?clsN ?clsT ?aMB ?aMD ?aCo ?lW ?cW ?kW ?lD ?aG ?z_len ?z_abs ?z_int ?z_str ?z_isinstance ?z_zip ?z_all ?z_any ?z_sum ?z_list ?z_tuple ?z_bool ?z_range ?z_min
      (case aInv => k_is)
      (case aTM => k_is)
      (case aCE => k_is)
      (case aW => k_is)
      (case a_InvalidNumber_Dinit => k_is)
      (case i_InvalidNumber_Dinit => k_is)
      (case l_InvalidNumber_Dinit => k_is)
      (case c_InvalidNumber_Dinit => k_is)
      (case k_InvalidNumber_Dinit => k_is)
      (case a_TooMany_Dinit => k_is)
      (case i_TooMany_Dinit => k_is)
      (case l_TooMany_Dinit => k_is)
      (case c_TooMany_Dinit => k_is)
      (case k_TooMany_Dinit => k_is)
      (case a_is_less => k_is)
      (case l_is_less => k_is)
      (case c_is_less => k_is)
      (case k_is_less => k_is)
      (case a_is_number => k_is)
      (case l_is_number => k_is)
      (case c_is_number => k_is)
      (case k_is_number => k_is)
      (case a_check_number => k_is)
      (case l_check_number => k_is)
      (case c_check_number => k_is)
      (case k_check_number => k_is)
      (case a_is_share => k_is)
      (case l_is_share => k_is)
      (case c_is_share => k_is)
      (case k_is_share => k_is)
      (case a_check_limit => k_is)
      (case l_check_limit => k_is)
      (case c_check_limit => k_is)
      (case k_check_limit => k_is)
      (case a_risk => k_is)
      (case l_risk => k_is)
      (case c_risk => k_is)
      (case k_risk => k_is)
      (case a_least_draws => k_is)
      (case l_least_draws => k_is)
      (case c_least_draws => k_is)
      (case k_least_draws => k_is)
      (case a_draws => k_is)
      (case l_draws => k_is)
      (case c_draws => k_is)
      (case k_draws => k_is)
      (case a_lbag => k_is)
      (case l_lbag => k_is)
      (case c_lbag => k_is)
      (case k_lbag => k_is)
      (case a_lpull => k_is)
      (case l_lpull => k_is)
      (case c_lpull => k_is)
      (case k_lpull => k_is)
      (case a_lof => k_is)
      (case l_lof => k_is)
      (case c_lof => k_is)
      (case k_lof => k_is)
      (case a_lturned => k_is)
      (case l_lturned => k_is)
      (case c_lturned => k_is)
      (case k_lturned => k_is)
      (case a_llike => k_is)
      (case l_llike => k_is)
      (case c_llike => k_is)
      (case k_llike => k_is)
      (case a_lfit => k_is)
      (case l_lfit => k_is)
      (case c_lfit => k_is)
      (case k_lfit => k_is)
      (case a_ltimes => k_is)
      (case l_ltimes => k_is)
      (case c_ltimes => k_is)
      (case k_ltimes => k_is)
      (case a_lless => k_is)
      (case l_lless => k_is)
      (case c_lless => k_is)
      (case k_lless => k_is)
      (case a_lways_of => k_is)
      (case l_lways_of => k_is)
      (case c_lways_of => k_is)
      (case k_lways_of => k_is)
      (case a_llisted => k_is)
      (case l_llisted => k_is)
      (case c_llisted => k_is)
      (case k_llisted => k_is)
      (case a_lpart_of => k_is)
      (case l_lpart_of => k_is)
      (case c_lpart_of => k_is)
      (case k_lpart_of => k_is)
      (case a_lfirst_draw => k_is)
      (case l_lfirst_draw => k_is)
      (case c_lfirst_draw => k_is)
      (case k_lfirst_draw => k_is)
      (case a_lrefused => k_is)
      (case l_lrefused => k_is)
      (case c_lrefused => k_is)
      (case k_lrefused => k_is)
      (case a_lerrors => k_is)
      (case l_lerrors => k_is)
      (case c_lerrors => k_is)
      (case k_lerrors => k_is)
      (case a_law => k_is)
      (case l_law => k_is)
      (case c_law => k_is)
      (case k_law => k_is)
      (case xlI => k_is)
      (case xrI => first | rfl | decide +kernel)
      (case xsaI => k_is)
      (case xexI => k_is)
      (case xtyI => k_is)
      (case xkcI => k_is)
      (case hgI => k_is)
      (case hkI => k_is)
      (case hdI => k_is)
      (case haI => k_is)
      (case hmI => k_is)
      (case stI => k_is)
      (case xlT => k_is)
      (case xrT => first | rfl | decide +kernel)
      (case xsaT => k_is)
      (case xexT => k_is)
      (case xtyT => k_is)
      (case xkcT => k_is)
      (case hgT => k_is)
      (case hkT => k_is)
      (case hdT => k_is)
      (case haT => k_is)
      (case hmT => k_is)
      (case stT => k_is)
      (case nI_value => k_is)
      (case nI_code => k_is)
      (case nT_what => k_is)
      (case nT_most => k_is)
      (case nT_code => k_is)
      (case clE => k_is)
      (case tyE => k_is)
      (case suE => k_is)
      (case suI => k_is)
      (case suTI => k_is)
      (case suT => k_is)
      (case clsN => k_is)
      (case clsT => k_is)
      (case aMB => k_is)
      (case aMD => k_is)
      (case aCo => k_is)
      (case lW => k_is)
      (case cW => k_is)
      (case kW => k_is)
      (case lD => k_is)
      (case aG => k_is)
      (case z_len => k_is)
      (case z_abs => k_is)
      (case z_int => k_is)
      (case z_str => k_is)
      (case z_isinstance => k_is)
      (case z_zip => k_is)
      (case z_all => k_is)
      (case z_any => k_is)
      (case z_sum => k_is)
      (case z_list => k_is)
      (case z_tuple => k_is)
      (case z_bool => k_is)
      (case z_range => k_is)
      (case z_min => k_is)
