import PyProof.Rows.All
import Wide.All
import OpenK.AllK
import Wide.FinOn
import HandS.ForMost
import HandS.Evl
import HandS.HeadHook1
import HandS.HeadHook2
import KE.KMathGC
import HandS.Wide
import HandS.Gcd
import HandS.TupAny
import HandS.IsInst
import HandS.Style
import HandS.Flow
import HandS.HeadWalk
import HandS.More
import HandS.NoneIn
import HandS.Rev
import HandS.Zip
import HandS.Steps
import HandS.List
import HandS.Defaults
import HandS.Words
import HandS.Head3
import HandS.HeadEnd
import PySem.Challenge.RW_fairmarks_k78_whole_audits_and_samples
set_option Elab.async false
set_option linter.all false
set_option maxRecDepth 100000
set_option maxHeartbeats 0
/-! Trees of values, and what stands for them in the abstract heap. -/
namespace Pv
open PySem L2
abbrev Ex := Evl.Ex
abbrev FP := Addr → Prop
def Dj (p q : FP) : Prop := ∀ a, p a → q a → False
theorem Dj.symm {p q : FP} (h : Dj p q) : Dj q p := fun a x y => h a y x

inductive T where
  | hole | non | bl (b : Bool) | int (i : Int) | str (x : Str)
  | tup (ts : List T)
  | lst (o : Bool) (ts : List T)
  | dct (o kd : Bool) (ks : List (List Key)) (ts : List T)
  | ins (o : Bool) (c : Str) (ns : List Str) (ts : List T)

mutual
def frz : T → T
  | .tup ts => .tup (frzs ts)
  | .lst _ ts => .lst false (frzs ts)
  | .dct _ k ks ts => .dct false k ks (frzs ts)
  | .ins _ c ns ts => .ins false c ns (frzs ts)
  | .hole => .hole
  | .non => .non
  | .bl b => .bl b
  | .int i => .int i
  | .str x => .str x
def frzs : List T → List T
  | [] => []
  | t :: ts => frz t :: frzs ts
end
mutual
/-- nothing owned in it -/
def isF : T → Bool
  | .tup ts => isFs ts
  | .lst o ts => !o && isFs ts
  | .dct o _ _ ts => !o && isFs ts
  | .ins o _ _ ts => !o && isFs ts
  | .hole => false
  | .non => true
  | .bl _ => true
  | .int _ => true
  | .str _ => true
def isFs : List T → Bool
  | [] => true
  | t :: ts => isF t && isFs ts
end

/-- the keys of a dict as HandS has them -/
def key1 : List Key → Key
  | k :: _ => k
  | [] => .inl 0
def dho (kd : Bool) (ks : List (List Key)) (vs : List V) : HO := if kd then .dT (ks.zip vs) else .dK ((ks.map key1).zip vs)
structure DW (kd : Bool) (ks : List (List Key)) (n : Nat) : Prop where
  len : ks.length = n
  one : kd = false → ∀ k ∈ ks, ∃ x, k = [x]
  nd : ks.Nodup

mutual
inductive Rep (K : PySem.W.Frag) (F H : Hp) : T → V → FP → Prop
  | hole {v p} (e : ∀ a, ¬ p a) : Rep K F H .hole v p
  | non {p} (e : ∀ a, ¬ p a) : Rep K F H .non .non p
  | bl {b p} (e : ∀ a, ¬ p a) : Rep K F H (.bl b) (.bl b) p
  | int {i p} (e : ∀ a, ¬ p a) : Rep K F H (.int i) (.int i) p
  | str {x p} (e : ∀ a, ¬ p a) : Rep K F H (.str x) (.str x) p
  | tup {a xs ts p} (s : SqT K F a xs) (r : Reps K F H ts xs p) : Rep K F H (.tup ts) (.ref a) p
  | lstF {a xs ts p} (s : Rd F a (.lst xs)) (r : Reps K F H ts xs p) : Rep K F H (.lst false ts) (.ref a) p
  | lstO {a xs ts p q} (n : F a = none) (h : H a = some (.lst xs)) (r : Reps K F H ts xs q) (d : ¬ q a) (e : ∀ b, p b ↔ b = a ∨ q b) : Rep K F H (.lst true ts) (.ref a) p
  | dctF {a xs kd ks ts p} (h : F a = some (dho kd ks xs)) (w : DW kd ks xs.length) (r : Reps K F H ts xs p) : Rep K F H (.dct false kd ks ts) (.ref a) p
  | dctO {a xs kd ks ts p q} (n : F a = none) (h : H a = some (dho kd ks xs)) (w : DW kd ks xs.length) (r : Reps K F H ts xs q) (d : ¬ q a) (e : ∀ b, p b ↔ b = a ∨ q b) : Rep K F H (.dct true kd ks ts) (.ref a) p
  | insF {a dx c fs ns ts p} (h : F a = some (.ins (He.ga K c) dx fs)) (w : fs.map (·.1) = ns) (r : Reps K F H ts (fs.map (·.2)) p) : Rep K F H (.ins false c ns ts) (.ref a) p
  | insO {a dx c fs ns ts p q} (n : F a = none) (h : H a = some (.ins (He.ga K c) dx fs)) (w : fs.map (·.1) = ns) (r : Reps K F H ts (fs.map (·.2)) q) (d : ¬ q a) (e : ∀ b, p b ↔ b = a ∨ q b) : Rep K F H (.ins true c ns ts) (.ref a) p
inductive Reps (K : PySem.W.Frag) (F H : Hp) : List T → List V → FP → Prop
  | nil {p} (e : ∀ a, ¬ p a) : Reps K F H [] [] p
  | cons {t v ts vs p q r} (h : Rep K F H t v p) (hs : Reps K F H ts vs q) (d : Dj p q) (e : ∀ b, r b ↔ p b ∨ q b) : Reps K F H (t :: ts) (v :: vs) r
end

section
variable {K : PySem.W.Frag} {F F' H H' : Hp}

theorem Reps.length : ∀ {ts vs p}, Reps K F H ts vs p → ts.length = vs.length
  | _, _, _, .nil _ => rfl
  | _, _, _, .cons _ hs _ _ => congrArg Nat.succ (Reps.length hs)

mutual
theorem Rep.cg : ∀ {t v p p'}, Rep K F H t v p → (∀ b, p b ↔ p' b) → Rep K F H t v p'
  | _, _, _, _, .hole e, g => .hole fun a x => e a ((g a).mpr x)
  | _, _, _, _, .non e, g => .non fun a x => e a ((g a).mpr x)
  | _, _, _, _, .bl e, g => .bl fun a x => e a ((g a).mpr x)
  | _, _, _, _, .int e, g => .int fun a x => e a ((g a).mpr x)
  | _, _, _, _, .str e, g => .str fun a x => e a ((g a).mpr x)
  | _, _, _, _, .tup s r, g => .tup s (Reps.cg r g)
  | _, _, _, _, .lstF s r, g => .lstF s (Reps.cg r g)
  | _, _, _, _, .lstO n h r d e, g => .lstO n h r d fun b => (g b).symm.trans (e b)
  | _, _, _, _, .dctF h w r, g => .dctF h w (Reps.cg r g)
  | _, _, _, _, .dctO n h w r d e, g => .dctO n h w r d fun b => (g b).symm.trans (e b)
  | _, _, _, _, .insF h w r, g => .insF h w (Reps.cg r g)
  | _, _, _, _, .insO n h w r d e, g => .insO n h w r d fun b => (g b).symm.trans (e b)
theorem Reps.cg : ∀ {t v p p'}, Reps K F H t v p → (∀ b, p b ↔ p' b) → Reps K F H t v p'
  | _, _, _, _, .nil e, g => .nil fun a x => e a ((g a).mpr x)
  | _, _, _, _, .cons h hs d e, g => .cons h hs d fun b => (g b).symm.trans (e b)
end
theorem Rep.eq {t v p p'} (h : Rep K F H t v p) (e : p = p') : Rep K F H t v p' := e ▸ h

mutual
/-- what is owned is not frozen, and stands -/
theorem Rep.own : ∀ {t v p}, Rep K F H t v p → ∀ a, p a → F a = none ∧ ∃ o, H a = some o
  | _, _, _, .hole e, a, x => (e a x).elim
  | _, _, _, .non e, a, x => (e a x).elim
  | _, _, _, .bl e, a, x => (e a x).elim
  | _, _, _, .int e, a, x => (e a x).elim
  | _, _, _, .str e, a, x => (e a x).elim
  | _, _, _, .tup s r, a, x => Reps.own r a x
  | _, _, _, .lstF s r, a, x => Reps.own r a x
  | _, _, _, .lstO n h r d e, a, x => ((e a).mp x).elim (fun z => z ▸ ⟨n, _, h⟩) (Reps.own r a)
  | _, _, _, .dctF h w r, a, x => Reps.own r a x
  | _, _, _, .dctO n h w r d e, a, x => ((e a).mp x).elim (fun z => z ▸ ⟨n, _, h⟩) (Reps.own r a)
  | _, _, _, .insF h w r, a, x => Reps.own r a x
  | _, _, _, .insO n h w r d e, a, x => ((e a).mp x).elim (fun z => z ▸ ⟨n, _, h⟩) (Reps.own r a)
theorem Reps.own : ∀ {ts vs p}, Reps K F H ts vs p → ∀ a, p a → F a = none ∧ ∃ o, H a = some o
  | _, _, _, .nil e, a, x => (e a x).elim
  | _, _, _, .cons h hs _ e, a, x => ((e a).mp x).elim (Rep.own h a) (Reps.own hs a)
end

mutual
/-- FRAME: what is frozen stays, what is owned here is left alone -/
theorem Rep.frame (ex : Ex F F') : ∀ {t v p}, Rep K F H t v p → (∀ a, p a → F' a = none ∧ H' a = H a) → Rep K F' H' t v p
  | _, _, _, .hole e, _ => .hole e
  | _, _, _, .non e, _ => .non e
  | _, _, _, .bl e, _ => .bl e
  | _, _, _, .int e, _ => .int e
  | _, _, _, .str e, _ => .str e
  | _, _, _, .tup s r, g => .tup (Evl.ex_t ex s) (Reps.frame ex r g)
  | _, _, _, .lstF s r, g => .lstF (Evl.ex_rd ex s) (Reps.frame ex r g)
  | _, _, _, .lstO n h r d e, g => .lstO (g _ ((e _).mpr (.inl rfl))).1 ((g _ ((e _).mpr (.inl rfl))).2.trans h) (Reps.frame ex r fun b x => g b ((e b).mpr (.inr x))) d e
  | _, _, _, .dctF h w r, g => .dctF (ex _ _ h) w (Reps.frame ex r g)
  | _, _, _, .dctO n h w r d e, g => .dctO (g _ ((e _).mpr (.inl rfl))).1 ((g _ ((e _).mpr (.inl rfl))).2.trans h) w (Reps.frame ex r fun b x => g b ((e b).mpr (.inr x))) d e
  | _, _, _, .insF h w r, g => .insF (ex _ _ h) w (Reps.frame ex r g)
  | _, _, _, .insO n h w r d e, g => .insO (g _ ((e _).mpr (.inl rfl))).1 ((g _ ((e _).mpr (.inl rfl))).2.trans h) w (Reps.frame ex r fun b x => g b ((e b).mpr (.inr x))) d e
theorem Reps.frame (ex : Ex F F') : ∀ {ts vs p}, Reps K F H ts vs p → (∀ a, p a → F' a = none ∧ H' a = H a) → Reps K F' H' ts vs p
  | _, _, _, .nil e, _ => .nil e
  | _, _, _, .cons h hs d e, g => .cons (Rep.frame ex h fun b x => g b ((e b).mpr (.inl x))) (Reps.frame ex hs fun b x => g b ((e b).mpr (.inr x))) d e
end

mutual
/-- what holds nothing owned -/
theorem Rep.of_isF : ∀ {t v p}, Rep K F H t v p → isF t = true → ∀ a, ¬ p a
  | _, _, _, .hole e, _ => e
  | _, _, _, .non e, _ => e
  | _, _, _, .bl e, _ => e
  | _, _, _, .int e, _ => e
  | _, _, _, .str e, _ => e
  | _, _, _, .tup s r, g => Reps.of_isFs r (by simpa [isF] using g)
  | _, _, _, .lstF s r, g => Reps.of_isFs r (by simpa [isF] using g)
  | _, _, _, .lstO n h r d e, g => by simp [isF] at g
  | _, _, _, .dctF h w r, g => Reps.of_isFs r (by simpa [isF] using g)
  | _, _, _, .dctO n h w r d e, g => by simp [isF] at g
  | _, _, _, .insF h w r, g => Reps.of_isFs r (by simpa [isF] using g)
  | _, _, _, .insO n h w r d e, g => by simp [isF] at g
theorem Reps.of_isFs : ∀ {ts vs p}, Reps K F H ts vs p → isFs ts = true → ∀ a, ¬ p a
  | _, _, _, .nil e, _ => e
  | _, _, _, .cons h hs d e, g => fun a x => by
    simp only [isFs, Bool.and_eq_true] at g
    rcases (e a).mp x with x | x
    · exact Rep.of_isF h g.1 a x
    · exact Reps.of_isFs hs g.2 a x
end

def nop : FP := fun _ => False
/-- the owned addresses p frozen -/
noncomputable def frF (F H : Hp) (p : FP) : Hp := fun a => open Classical in if p a then H a else F a
theorem frF_in {p : FP} {a : Addr} (h : p a) : frF F H p a = H a := if_pos h
theorem frF_out {p : FP} {a : Addr} (h : ¬ p a) : frF F H p a = F a := if_neg h
theorem frF_ex {p : FP} (h : ∀ a, p a → F a = none) : Ex F (frF F H p) := fun a o e => by
  by_cases x : p a
  · rw [h a x] at e; cases e
  · rw [frF_out x]; exact e
theorem frF_sub {p : FP} (h : Ex F H) : Ex (frF F H p) H := fun a o e => by
  by_cases x : p a
  · rw [frF_in x] at e; exact e
  · rw [frF_out x] at e; exact h a o e
mutual
theorem Rep.frz (ex : Ex F F') : ∀ {t v p}, Rep K F H t v p → (∀ a, p a → F' a = H a) → Rep K F' H' (frz t) v nop
  | _, _, _, .hole e, _ => .hole fun _ x => x
  | _, _, _, .non e, _ => .non fun _ x => x
  | _, _, _, .bl e, _ => .bl fun _ x => x
  | _, _, _, .int e, _ => .int fun _ x => x
  | _, _, _, .str e, _ => .str fun _ x => x
  | _, _, _, .tup s r, g => .tup (Evl.ex_t ex s) (Reps.frz ex r g)
  | _, _, _, .lstF s r, g => .lstF (Evl.ex_rd ex s) (Reps.frz ex r g)
  | _, _, _, .lstO n h r d e, g => .lstF (.inl ((g _ ((e _).mpr (.inl rfl))).trans h)) (Reps.frz ex r fun b x => g b ((e b).mpr (.inr x)))
  | _, _, _, .dctF h w r, g => .dctF (ex _ _ h) w (Reps.frz ex r g)
  | _, _, _, .dctO n h w r d e, g => .dctF ((g _ ((e _).mpr (.inl rfl))).trans h) w (Reps.frz ex r fun b x => g b ((e b).mpr (.inr x)))
  | _, _, _, .insF h w r, g => .insF (ex _ _ h) w (Reps.frz ex r g)
  | _, _, _, .insO n h w r d e, g => .insF ((g _ ((e _).mpr (.inl rfl))).trans h) w (Reps.frz ex r fun b x => g b ((e b).mpr (.inr x)))
theorem Reps.frz (ex : Ex F F') : ∀ {ts vs p}, Reps K F H ts vs p → (∀ a, p a → F' a = H a) → Reps K F' H' (frzs ts) vs nop
  | _, _, _, .nil e, _ => .nil fun _ x => x
  | _, _, _, .cons h hs d e, g => .cons (Rep.frz ex h fun b x => g b ((e b).mpr (.inl x))) (Reps.frz ex hs fun b x => g b ((e b).mpr (.inr x))) (fun _ x => x.elim) fun b => ⟨fun x => .inl x, fun x => x.elim id id⟩
end

/-! ### rows -/
theorem Reps.focus : ∀ {ts vs p} {i : Nat} {t : T}, Reps K F H ts vs p → ts[i]? = some t →
    ∃ v q r, vs[i]? = some v ∧ Rep K F H t v q ∧ Dj q r ∧ (∀ b, p b ↔ q b ∨ r b) ∧ Reps K F H (ts.set i .hole) vs r
  | _, _, _, i, t, .nil e, h => by simp at h
  | _, _, _, 0, t, .cons (q := q) h hs d e, g => by
    simp at g; subst g
    exact ⟨_, _, q, rfl, h, d, e, .cons (.hole (p := nop) fun _ x => x) hs (fun _ x => x.elim) fun b => ⟨.inr, fun x => x.elim (fun z => z.elim) id⟩⟩
  | _, _, _, i + 1, t, .cons (p := p0) h hs d e, g => by
    obtain ⟨v, q, r, e1, r1, dj, e2, r2⟩ := Reps.focus (i := i) (t := t) hs (by simpa using g)
    refine ⟨v, q, fun b => p0 b ∨ r b, by simpa using e1, r1, fun b x y => ?_, fun b => ?_, .cons h r2 (fun b x y => d b x ((e2 b).mpr (.inr y))) fun b => Iff.rfl⟩
    · rcases y with y | y
      · exact d b y ((e2 b).mpr (.inl x))
      · exact dj b x y
    · rw [e b, e2 b]
      exact or_left_comm
theorem Reps.put : ∀ {ts vs r} {i : Nat} {t : T} {v : V} {q : FP}, Reps K F H ts vs r → ts[i]? = some .hole → Rep K F H t v q → Dj q r →
    Reps K F H (ts.set i t) (vs.set i v) (fun b => q b ∨ r b)
  | _, _, _, i, t, v, q, .nil e, h, _, _ => by simp at h
  | _, _, _, 0, t, v, q, .cons (p := p0) (q := q0) h hs d e, g, ht, dj => by
    simp at g; subst g
    have e0 : ∀ a, ¬ p0 a := by cases h with | hole e => exact e
    exact .cons ht hs (fun b x y => dj b x ((e b).mpr (.inr y))) fun b => ⟨fun x => x.elim .inl fun y => ((e b).mp y).elim (fun z => (e0 b z).elim) .inr, fun x => x.elim .inl fun y => .inr ((e b).mpr (.inr y))⟩
  | _, _, _, i + 1, t, v, q, .cons (p := p0) (q := q0) h hs d e, g, ht, dj => by
    have z := Reps.put (i := i) (t := t) (v := v) (q := q) hs (by simpa using g) ht fun b x y => dj b x ((e b).mpr (.inr y))
    refine .cons h z (fun b x y => ?_) fun b => ?_
    · rcases y with y | y
      · exact dj b y ((e b).mpr (.inl x))
      · exact d b x y
    · rw [e b]
      exact or_left_comm
theorem Reps.app : ∀ {ts vs p us ws q}, Reps K F H ts vs p → Reps K F H us ws q → Dj p q → Reps K F H (ts ++ us) (vs ++ ws) (fun b => p b ∨ q b)
  | _, _, _, _, _, _, .nil e, s, _ => Reps.cg s fun b => ⟨.inr, fun x => x.elim (fun y => (e b y).elim) id⟩
  | _, _, _, _, _, _, .cons h hs d e, s, dj => by
    refine .cons h (Reps.app hs s fun b x y => dj b ((e b).mpr (.inr x)) y) (fun b x y => ?_) fun b => ?_
    · rcases y with y | y
      · exact d b x y
      · exact dj b ((e b).mpr (.inl x)) y
    · rw [e b]; exact or_assoc
theorem Reps.get {ts vs p} (h : Reps K F H ts vs p) (f : isFs ts = true) {i : Nat} {t : T} (g : ts[i]? = some t) : ∃ v, vs[i]? = some v ∧ Rep K F H t v nop := by
  obtain ⟨v, q, r, e1, r1, _, e2, _⟩ := h.focus g
  have z := h.of_isFs f
  exact ⟨v, e1, r1.cg fun b => ⟨fun x => z b ((e2 b).mpr (.inl x)), fun x => x.elim⟩⟩
end

/-! ### a step of the world -/
structure Stp (p : FP) (F H : Hp) (p' : FP) (F' H' : Hp) : Prop where
  ex : Ex F F'
  keep : ∀ a o, H a = some o → ¬ p a → H' a = some o
  grow : ∀ a o, H a = some o → ¬ p a → F' a = F a
  own : ∀ a, p' a → p a ∨ H a = none
section
variable {K : PySem.W.Frag} {F F' F'' H H' H'' : Hp} {p p' p'' q r : FP}
theorem Stp.refl : Stp p F H p F H := ⟨Evl.Ex.refl F, fun _ _ h _ => h, fun _ _ _ _ => rfl, fun _ h => .inl h⟩
theorem Stp.sub (s : Stp p F H p' F' H') (h : ∀ a, q a → p' a) : Stp p F H q F' H' := ⟨s.ex, s.keep, s.grow, fun a x => s.own a (h a x)⟩
theorem Stp.cg (s : Stp p F H p' F' H') (h : ∀ a, p a ↔ q a) : Stp q F H p' F' H' :=
  ⟨s.ex, fun a o e n => s.keep a o e fun x => n ((h a).mp x), fun a o e n => s.grow a o e fun x => n ((h a).mp x), fun a x => (s.own a x).imp (h a).mp id⟩
/-- more may be owned ahead -/
theorem Stp.more (s : Stp p F H p' F' H') (h : ∀ a, p a → q a) : Stp q F H p' F' H' :=
  ⟨s.ex, fun a o e n => s.keep a o e fun x => n (h a x), fun a o e n => s.grow a o e fun x => n (h a x), fun a x => (s.own a x).imp (h a) id⟩
theorem Stp.trans (s : Stp p F H p' F' H') (t : Stp p' F' H' p'' F'' H'') : Stp p F H p'' F'' H'' where
  ex := s.ex.trans t.ex
  keep := fun a o h n => by
    have h1 := s.keep a o h n
    refine t.keep a o h1 fun x => ?_
    rcases s.own a x with y | y
    · exact n y
    · rw [h] at y; cases y
  grow := fun a o h n => by
    have h1 := s.keep a o h n
    rw [t.grow a o h1 fun x => ?_]
    · exact s.grow a o h n
    · rcases s.own a x with y | y
      · exact n y
      · rw [h] at y; cases y
  own := fun a x => by
    rcases t.own a x with y | y
    · exact s.own a y
    · by_cases z : p a
      · exact .inl z
      · refine .inr ?_
        cases e : H a with
        | none => rfl
        | some o => rw [s.keep a o e z] at y; cases y
/-- what is beside is left alone -/
theorem Stp.frame (s : Stp p F H p' F' H') (hr : ∀ a, r a → F a = none ∧ ∃ o, H a = some o) (d : Dj p r) : (∀ a, r a → F' a = none ∧ H' a = H a) ∧ Dj p' r ∧ Stp (fun a => p a ∨ r a) F H (fun a => p' a ∨ r a) F' H' := by
  refine ⟨fun a x => ?_, fun a x y => ?_, s.ex, fun a o e n => s.keep a o e fun x => n (.inl x), fun a o e n => s.grow a o e fun x => n (.inl x), fun a x => ?_⟩
  · obtain ⟨e1, o, e2⟩ := hr a x
    have n : ¬ p a := fun z => d a z x
    exact ⟨(s.grow a o e2 n).trans e1, (s.keep a o e2 n).trans e2.symm⟩
  · obtain ⟨e1, o, e2⟩ := hr a y
    rcases s.own a x with z | z
    · exact d a z y
    · rw [e2] at z; cases z
  · rcases x with x | x
    · exact (s.own a x).imp .inl id
    · exact .inl (.inr x)
end
end Pv

/-! The small language and its evaluator over trees. -/
namespace Pv
open PySem L2

inductive O1 where
  | neg | len | list | tuple | sum | sorted | abs | int | str | all | any | isi (k : Nat)
  | lenset | sortset | dict | max1 | min1 | revl | vals | keysl
inductive O2 where
  | add | sub | mul | fdiv | mod | pow | bxor | lt | le | gt | ge | eq | ne | isS | notS | isin | notin | min2 | max2 | gcd | comb | slcl | slcr
inductive MK where
  | append | extend | insert | pop | popi | setdef | update
  deriving DecidableEq
/-- a target: a name, a tuple of names -/
inductive G0 where
  | nm (i : Nat) | tp (is : List Nat) | at (r : Nat) (f : Str)
inductive G where
  | one (g : G0) | tp (gs : List G0)
inductive Md where
  | o | e | t
  deriving DecidableEq

mutual
inductive E where
  | var (i : Nat) | mov (i : Nat) | cst (t : T) | glb (x : Str) (t : T)
  | op1 (o : O1) (a : E) | op2 (o : O2) (a b : E) | idx (a b : E) | slc (a b c : E)
  | fld (a : E) (f : Str)
  | nt (a : E) | an (a b : E) | orr (a b : E) | ite (c a b : E) | chn (a : E) (c : Ch)
  | tup (es : Es) | lst (es : Es) | dnew
  | call (f : Nat) (es : Es) | mk (c : Str) (f : Nat) (es : Es) | meth (i : Nat) (m : Str) (es : Es)
  | mut (i : Nat) (m : MK) (es : Es) | mutp (pl : E) (m : MK) (es : Es)
  | lc (own : List Nat) (g : G) (it : It) (c : E) (elt : E) | bad | frzp (e pl : E)
inductive Es where
  | nil | cons (e : E) (es : Es)
inductive Ch where
  | last (o : O2) (e : E) | more (o : O2) (e : E) (c : Ch)
inductive It where
  | seq (e : E) | rng1 (a : E) | rng2 (a b : E) | rng3 (a b c : E) | enum (e : E) | zip (a b : E) | rev (e : E) | bad
end
mutual
inductive S where
  | asg (g : G) (e : E) | par (is : List Nat) (es : Es)
  | aug (i : Nat) (o : O2) (e : E)
  | faug (r : Nat) (f : Str) (o : O2) (e : E)
  | pst (pl k e : E) | paug (pl k : E) (o : O2) (e : E)
  | exp (e : E) | ret (e : E) | retn | pass | brk | cnt | bad
  | iff (c : E) (a b : Ss) | whl (c : E) (a : Ss) | forr (g : G) (it : It) (a : Ss)
inductive Ss where
  | nil | cons (s : S) (ss : Ss)
end

/-! ### operations on values -/
mutual
def pd : T → Option PyData
  | .non => some .none
  | .bl b => some (.bool b)
  | .int i => some (.int i)
  | .str x => some (.str x)
  | .tup ts => (pds ts).map .tuple
  | .lst _ ts => (pds ts).map .list
  | .hole => none
  | .dct .. => none
  | .ins .. => none
def pds : List T → Option (List PyData)
  | [] => some []
  | t :: ts => match pd t, pds ts with
    | some d, some ds => some (d :: ds)
    | _, _ => none
end
def eqT (t u : T) : Option Bool := match pd t, pd u with
  | some d, some e => if SeqAt.shaped d && SeqAt.shaped e then some (PyData.eqv d e) else none
  | _, _ => none
def tru : T → Option Bool
  | .non => some false
  | .bl b => some b
  | .int i => some (i != 0)
  | .str x => if x.length ≤ sizeLine then some (x.length != 0) else none
  | .tup ts => some (!ts.isEmpty)
  | .lst _ ts => some (!ts.isEmpty)
  | .dct _ false ks _ => some (!ks.isEmpty)
  | .dct _ true _ _ => none
  | .hole => none
  | .ins .. => none
def items : T → Option (List T)
  | .tup ts => some ts
  | .lst _ ts => some ts
  | _ => none
def intsT : List T → Option (List Int)
  | [] => some []
  | .int i :: ts => (intsT ts).map (i :: ·)
  | _ :: _ => none
def boolsT : List T → Option (List Bool)
  | [] => some []
  | .bl i :: ts => (boolsT ts).map (i :: ·)
  | _ :: _ => none
/-- whole numbers that are not too large -/
def smallI (i : Int) : Bool := decide (i.natAbs.log2 < 400000)
def tinyI (i : Int) : Bool := decide (i.natAbs.log2 < 60)
def mulOk (i j : Int) : Bool := (smallI i && smallI j) || (tinyI i || tinyI j)
def isNon : T → Option Bool
  | .non => some true
  | .hole => none
  | _ => some false
def op2 : O2 → T → T → Option T
  | .add, .int i, .int j => some (.int (i + j))
  | .add, .str i, .str j => if i.length + j.length ≤ sizeLine then some (.str (i ++ j)) else none
  | .add, .lst _ ts, .lst _ us => if isFs ts && isFs us && decide (ts.length + us.length < 10000000) then some (.lst true (ts ++ us)) else none
  | .add, .tup ts, .tup us => if isFs ts && isFs us && decide (ts.length + us.length < 10000000) then some (.tup (ts ++ us)) else none
  | .sub, .int i, .int j => some (.int (i - j))
  | .mul, .int i, .int j => if mulOk i j then some (.int (i * j)) else none
  | .fdiv, .int i, .int j => if decide (0 < j) && decide (j.natAbs.log2 < 9000) then some (.int (i / j)) else none
  | .mod, .int i, .int j => if decide (0 < j) then some (.int (i % j)) else none
  | .pow, .int i, .int j => if decide (0 ≤ j) && decide (j ≤ 1000000) && decide (i.natAbs < 2 ^ 64) then some (.int (i ^ j.toNat)) else none
  | .bxor, .int i, .int j => some (.int (Builtin.bitXor i j))
  | .lt, .int i, .int j => some (.bl (decide (i < j)))
  | .le, .int i, .int j => some (.bl (decide (i ≤ j)))
  | .gt, .int i, .int j => some (.bl (decide (j < i)))
  | .ge, .int i, .int j => some (.bl (decide (j ≤ i)))
  | .eq, t, u => (eqT t u).map .bl
  | .ne, t, u => (eqT t u).map fun b => .bl (!b)
  | .min2, .int i, .int j => some (.int (if j < i then j else i))
  | .max2, .int i, .int j => some (.int (if j > i then j else i))
  | .isS, .bl a, .bl b => some (.bl (decide (a = b)))
  | .isS, t, .non => (isNon t).map .bl
  | .notS, .bl a, .bl b => some (.bl (!decide (a = b)))
  | .notS, t, .non => (isNon t).map fun b => .bl (!b)
  | .comb, .int i, .int j => if decide (0 ≤ i) && decide (0 ≤ j) && decide (i ≤ 18000) then some (.int (PySem.W.mcComb i j)) else none
  | .gcd, .int i, .int j => some (.int ((Nat.gcd i.natAbs j.natAbs : Nat) : Int))
  | _, _, _ => none
/-- x op= y -/
def iop : O2 → T → T → Option T
  | .add, .int i, .int j => some (.int (i + j))
  | .sub, .int i, .int j => some (.int (i - j))
  | _, _, _ => none
def idxT : T → T → Option T
  | .lst _ ts, .int i => atI ts i
  | .tup ts, .int i => atI ts i
  | _, _ => none
def op1 : O1 → T → Option T
  | .neg, .int i => some (.int (-i))
  | .abs, .int i => some (.int (if i < 0 then -i else i))
  | .int, .int i => some (.int i)
  | .int, .bl b => some (.int (if b then 1 else 0))
  | .len, .lst _ ts => some (.int ts.length)
  | .len, .tup ts => some (.int ts.length)
  | .list, .lst _ ts => if isFs ts then some (.lst true ts) else none
  | .list, .tup ts => if isFs ts then some (.lst true ts) else none
  | .sum, .lst _ ts => (intsT ts).map fun is => .int is.sum
  | .all, .lst _ ts => (boolsT ts).map fun bs => .bl (bs.all id)
  | .any, .lst _ ts => (boolsT ts).map fun bs => .bl (bs.any id)
  -- isinstance: 0 bool, 1 int, 2 str, 3 tuple, 4 list, 5 dict
  | .isi k, .non => some (.bl false)
  | .isi k, .bl _ => some (.bl (k == 0 || k == 1))
  | .isi k, .int _ => some (.bl (k == 1))
  | .isi k, .str _ => some (.bl (k == 2))
  | .isi k, .tup _ => some (.bl (k == 3))
  | .isi k, .lst _ _ => some (.bl (k == 4))
  | _, _ => none

/-! ### the evaluator -/
abbrev SL := List T
abbrev CF := Nat → List T → Option (T × List T)
def fin (m : Md) (path : Bool) (t : T) (sl : SL) : Option (T × SL) := match m with
  | .o => some (t, sl)
  | .e => if path && !isF t then none else some (t, sl)
  | .t => (tru t).map fun b => (.bl b, sl)
def isHole : T → Bool
  | .hole => true
  | _ => false
/-- only what is frozen is to be seen -/
def fro (sl : SL) : SL := sl.map fun t => if isF t then t else .hole
/-- everything frozen for a while -/
def brw (sl : SL) : SL := frzs sl
def atom : T → Bool
  | .non => true
  | .bl _ => true
  | .int _ => true
  | .str _ => true
  | _ => false
mutual
/-- nothing in it stood before -/
def flat : T → Bool
  | .non => true
  | .bl _ => true
  | .int _ => true
  | .str _ => true
  | .tup ts => flats ts
  | .lst true ts => flats ts
  | .lst false _ => false
  | .hole => false
  | .dct .. => false
  | .ins .. => false
def flats : List T → Bool
  | [] => true
  | t :: ts => flat t && flats ts
end
/-- read only -/
def bor2 (vs : List Nat) (f : SL → Option (T × SL)) (sl : SL) : Option T := if vs.all fun i => match sl[i]? with
    | some t => isF t
    | none => true
  then (f (fro sl)).bind fun r => some r.1
  else (f (brw sl)).bind fun r => if flat r.1 then some r.1 else none
mutual
/-- the names that are read -/
def vars : E → List Nat
  | .var i => [i]
  | .mov i => [i]
  | .cst _ => []
  | .glb _ _ => []
  | .op1 _ a => vars a
  | .op2 _ a b => vars a ++ vars b
  | .idx a b => vars a ++ vars b
  | .slc a b c => vars a ++ vars b ++ vars c
  | .fld a _ => vars a
  | .nt a => vars a
  | .an a b => vars a ++ vars b
  | .orr a b => vars a ++ vars b
  | .ite a b c => vars a ++ vars b ++ vars c
  | .chn a c => vars a ++ varsC c
  | .tup es => varsL es
  | .lst es => varsL es
  | .dnew => []
  | .call _ es => varsL es
  | .mk _ _ es => varsL es
  | .meth i _ es => i :: varsL es
  | .mut i _ es => i :: varsL es
  | .mutp a _ es => vars a ++ varsL es
  | .lc _ _ it c e => varsI it ++ vars c ++ vars e
  | .bad => []
  | .frzp e pl => vars e ++ vars pl
def varsL : Es → List Nat
  | .nil => []
  | .cons e es => vars e ++ varsL es
def varsC : Ch → List Nat
  | .last _ e => vars e
  | .more _ e c => vars e ++ varsC c
def varsI : It → List Nat
  | .seq e => vars e
  | .rng1 a => vars a
  | .rng2 a b => vars a ++ vars b
  | .rng3 a b c => vars a ++ vars b ++ vars c
  | .enum e => vars e
  | .zip a b => vars a ++ vars b
  | .rev e => vars e
  | .bad => []
end
/-- may the operand's value be a part of the slots? -/
def over : E → Bool
  | .var _ => true
  | .fld a _ => over a
  | .idx a _ => over a
  | .frzp a _ => over a
  | _ => false
/-- the slot's value taken out -/
def look (sl : SL) (i : Nat) : Option T := match sl[i]? with
  | some .hole => none
  | some t => some t
  | none => none
def rngU (lo hi : Int) : List T := (List.range (hi - lo).toNat).map fun (k : Nat) => T.int (lo + (k : Int))
def rngD (lo hi : Int) : List T := (List.range (lo - hi).toNat).map fun (k : Nat) => T.int (lo + (k : Int) * -1)
def rngOk (lo hi : Int) : Bool := decide (-(2 ^ 60) ≤ lo) && decide (lo < 2 ^ 60) && decide (-(2 ^ 60) ≤ hi) && decide (hi < 2 ^ 60)
def okN (n : Nat) : Bool := decide (n < 10000000)
def mutT : MK → T → List T → Option (T × T)
  | .append, .lst true ts, [x] => if okN ts.length then some (.lst true (ts ++ [x]), .non) else none
  | .extend, .lst true ts, [.lst _ us] => if okN (ts.length + us.length) then some (.lst true (ts ++ us), .non) else none
  | .insert, .lst true ts, [.int i, x] => if decide (0 ≤ i) && decide (i < 2 ^ 62) && okN ts.length then some (.lst true (ts.take i.toNat ++ [x] ++ ts.drop i.toNat), .non) else none
  | .pop, .lst true ts, [] => (ts[ts.length - 1]?).map fun t => (.lst true ts.dropLast, t)
  | .popi, .lst true ts, [.int i] => if okN ts.length then (ixN ts.length i).bind fun j => (ts[j]?).map fun t => (.lst true (ts.eraseIdx j), t) else none
  | _, _, _ => none
/-- the receiver is what the method is of -/
def kindM : MK → T → Bool
  | .setdef, _ => false
  | .update, _ => false
  | _, .lst _ _ => true
  | _, _ => false
/-- the borrowed values put back -/
def back : List (Option Nat) → List T → SL → SL
  | some i :: bs, t :: ts, sl => back bs ts (sl.set i t)
  | none :: bs, _ :: ts, sl => back bs ts sl
  | _, _, sl => sl
/-- a turn of a comprehension -/
def lcGo (set : T → SL → Option SL) (cnd elt : SL → Option (T × SL)) (wipe : SL → SL) : List T → SL → List T → Option (List T × SL)
  | [], sl, acc => some (acc, sl)
  | x :: xs, sl, acc => (set x (wipe sl)).bind fun sl1 => (cnd sl1).bind fun r => match r.1 with
    | .bl true => (elt r.2).bind fun r2 => if okN acc.length then lcGo set cnd elt wipe xs r2.2 (acc ++ [r2.1]) else none
    | .bl false => lcGo set cnd elt wipe xs r.2 acc
    | _ => none
def wipeS : List Nat → SL → SL
  | [], sl => sl
  | i :: is, sl => (wipeS is sl).set i .hole
/-- the block's own slots as they were -/
def restS (sl0 : SL) : List Nat → SL → SL
  | [], sl => sl
  | i :: is, sl => (restS sl0 is sl).set i (sl0.getD i .hole)
def ownOk (own : List Nat) (sl : SL) : Bool := own.all fun i => match sl[i]? with
  | some t => isF t || isHole t
  | none => true

/-- what the evaluator knows of the program: its defs, the methods of its classes, the attributes of its instances -/
structure Pg where
  cf : CF
  mt : Str → Str → Option Nat
  fd : Str → Str → Bool
def child (P : Pg) (t : T) (f : Str) : Option T := match t with
  | .ins _ c ns ts => if P.fd c f then (ns.idxOf? f).bind fun i => ts[i]? else none
  | _ => none

def setC (P : Pg) (t : T) (f : Str) (x : T) : Option T := match t with
  | .ins o c ns ts => if P.fd c f && decide (ns.length < 900) then (match ns.idxOf? f with
    | some i => some (.ins o c ns (ts.set i x))
    | none => some (.ins o c (ns ++ [f]) (ts ++ [x]))) else none
  | _ => none
def setNs : List Nat → List T → SL → Option SL
  | [], [], sl => some sl
  | i :: is, t :: ts, sl => setNs is ts (sl.set i t)
  | _, _, _ => none
def setG0 (P : Pg) : G0 → T → SL → Option SL
  | .nm i, t, sl => some (sl.set i t)
  | .tp is, .tup ts, sl => setNs is ts sl
  | .tp _, _, _ => none
  | .at r f, t, sl => (look sl r).bind fun z => match z with
    | .ins true c ns ts => (setC P z f t).bind fun z' => some (sl.set r z')
    | _ => none
def setGs (P : Pg) : List G0 → List T → SL → Option SL
  | [], [], sl => some sl
  | g :: gs, t :: ts, sl => (setG0 P g t sl).bind fun sl => setGs P gs ts sl
  | _, _, _ => none
def setG (P : Pg) : G → T → SL → Option SL
  | .one g, t, sl => setG0 P g t sl
  | .tp gs, .tup ts, sl => setGs P gs ts sl
  | .tp _, _, _ => none
mutual
def ev (P : Pg) : Md → E → SL → Option (T × SL)
  | m, .var i, sl => (look sl i).bind fun t => match m with
    | .o => some (t, sl)
    | .e => some (frz t, sl.set i (frz t))
    | .t => (tru t).map fun b => (.bl b, sl)
  | m, .mov i, sl => (look sl i).bind fun t => fin m false t (sl.set i .hole)
  | m, .cst t, sl => fin m false t sl
  | m, .glb _ t, sl => fin m false t sl
  | m, .op1 o a, sl => (ev P .o a sl).bind fun r => (op1 o r.1).bind fun t => fin m false t r.2
  | m, .op2 o a b, sl => (ev P .o a sl).bind fun r =>
      (if over a && !isF r.1 then (ev P .o b (brw r.2)).bind fun r2 => if atom r2.1 then some (r2.1, r.2) else none else ev P .o b r.2).bind fun r2 =>
      (op2 o r.1 r2.1).bind fun t => fin m false t r2.2
  | m, .idx a b, sl => (ev P .o a sl).bind fun r =>
      (if over a && !isF r.1 then (ev P .o b (brw r.2)).bind fun r2 => if atom r2.1 then some (r2.1, r.2) else none else ev P .o b r.2).bind fun r2 =>
      (idxT r.1 r2.1).bind fun t => fin m true t r2.2
  | m, .slc a b c, sl => none
  | m, .bad, sl => none
  | .e, .frzp e pl, sl => (ev P .o e sl).bind fun r => if isF r.1 then some r else (plc P pl sl).bind fun z => some (frz z.1, z.2 (frz z.1))
  | m, .frzp e pl, sl => ev P m e sl
  | m, .fld a f, sl => (ev P .o a sl).bind fun r => (child P r.1 f).bind fun t => fin m true t r.2
  | .t, .nt a, sl => (ev P .t a sl).bind fun r => match r.1 with
    | .bl b => some (.bl (!b), r.2)
    | _ => none
  | _, .nt a, sl => (ev P .o a sl).bind fun r => (tru r.1).bind fun b => some (.bl (!b), r.2)
  | .t, .an a b, sl => (ev P .t a sl).bind fun r => match r.1 with
    | .bl true => ev P .t b r.2
    | .bl false => some (.bl false, r.2)
    | _ => none
  | _, .an a b, sl => (ev P .e a sl).bind fun r => (tru r.1).bind fun k => if k then ev P .e b r.2 else some r
  | .t, .orr a b, sl => (ev P .t a sl).bind fun r => match r.1 with
    | .bl true => some (.bl true, r.2)
    | .bl false => ev P .t b r.2
    | _ => none
  | _, .orr a b, sl => (ev P .e a sl).bind fun r => (tru r.1).bind fun k => if k then some r else ev P .e b r.2
  | .t, .ite c a b, sl => none
  | _, .ite c a b, sl => (ev P .t c sl).bind fun r => match r.1 with
    | .bl true => ev P .e a r.2
    | .bl false => ev P .e b r.2
    | _ => none
  | m, .chn a c, sl => (ev P .e a sl).bind fun r => (evC P r.1 c r.2).bind fun z => match z.1 with
    | .bl b => some (.bl b, z.2)
    | _ => none
  | m, .tup es, sl => (evL P es sl).bind fun r => if okN r.1.length then fin m false (.tup r.1) r.2 else none
  | m, .lst es, sl => (evL P es sl).bind fun r => if okN r.1.length then fin m false (.lst true r.1) r.2 else none
  | m, .dnew, sl => fin m false (.dct true false [] []) sl
  | m, .call f es, sl => (evA P es sl).bind fun r => (P.cf f r.1).bind fun z => fin m false z.1 (back r.2.1 z.2 r.2.2)
  | m, .mk c f es, sl => (evA P es sl).bind fun r => (P.cf f (.ins true c [] [] :: r.1)).bind fun z => match z with
    | (.non, t :: ts) => fin m false t (back r.2.1 ts r.2.2)
    | _ => none
  | m, .meth i q es, sl => (look sl i).bind fun t0 => match t0 with
    | .ins _ c0 ns0 _ => if ns0.contains q then none else (P.mt c0 q).bind fun f => (evA P es sl).bind fun r => (look r.2.2 i).bind fun t =>
      if isF t then (P.cf f (t :: r.1)).bind fun z => match z.2 with
        | _ :: ts' => fin m false z.1 (back r.2.1 ts' r.2.2)
        | [] => none
      else (P.cf f (t :: r.1)).bind fun z => fin m false z.1 (back (some i :: r.2.1) z.2 (r.2.2.set i .hole))
    | _ => none
  | m, .mut i q es, sl => (look sl i).bind fun t0 => if kindM q t0 then (evL P es sl).bind fun r => (look r.2 i).bind fun t => (mutT q t r.1).bind fun z => fin m false z.2 (r.2.set i z.1) else none
  | m, .mutp pl q es, sl => (plc P pl sl).bind fun y => if kindM q y.1 then (evBs P es sl).bind fun us => (mutT q y.1 us).bind fun z => fin m false z.2 (y.2 z.1) else none
  | m, .lc own g it c elt, sl => (evI P it sl).bind fun r => if ownOk own r.2 then
      (lcGo (setG P g) (ev P .t c) (ev P .e elt) (wipeS own) r.1 r.2 []).bind fun z => fin m false (.lst true z.1) (restS r.2 own (wipeS own z.2)) else none
/-- read only, in a row -/
def evBs (P : Pg) : Es → SL → Option (List T)
  | .nil, _ => some []
  | .cons e es, sl => (bor2 (vars e) (ev P .e e) sl).bind fun t => (evBs P es sl).bind fun ts => some (t :: ts)
/-- a chain of comparisons, the value to its left -/
def evC (P : Pg) : T → Ch → SL → Option (T × SL)
  | t, .last o e, sl => (ev P .e e sl).bind fun r => (op2 o t r.1).bind fun z => some (z, r.2)
  | t, .more o e c, sl => (ev P .e e sl).bind fun r => (op2 o t r.1).bind fun z => match z with
    | .bl true => evC P r.1 c r.2
    | .bl false => some (.bl false, r.2)
    | _ => none
def evL (P : Pg) : Es → SL → Option (List T × SL)
  | .nil, sl => some ([], sl)
  | .cons e es, sl => (ev P .e e sl).bind fun r => (evL P es r.2).bind fun r2 => some (r.1 :: r2.1, r2.2)
/-- arguments: a name whose value is owned is lent -/
def evA (P : Pg) : Es → SL → Option (List T × List (Option Nat) × SL)
  | .nil, sl => some ([], [], sl)
  | .cons (.var i) es, sl => (look sl i).bind fun t => if isF t then (evA P es sl).bind fun r => some (t :: r.1, none :: r.2.1, r.2.2)
      else (evA P es (sl.set i .hole)).bind fun r => some (t :: r.1, some i :: r.2.1, r.2.2)
  | .cons e es, sl => (ev P .e e sl).bind fun r => (evA P es r.2).bind fun r2 => some (r.1 :: r2.1, none :: r2.2.1, r2.2.2)
/-- a place: what stands there, and the slots with another value there -/
def plc (P : Pg) : E → SL → Option (T × (T → SL))
  | .var i, sl => (look sl i).bind fun t => some (t, fun u => sl.set i u)
  | .fld a f, sl => (plc P a sl).bind fun z => match z.1 with
    | .ins o c ns ts => if P.fd c f then (ns.idxOf? f).bind fun j => (ts[j]?).bind fun t => some (t, fun u => z.2 (.ins o c ns (ts.set j u))) else none
    | _ => none
  | .idx a b, sl => (plc P a sl).bind fun z => (ev P .o b (brw sl)).bind fun y => match z.1, y.1 with
    | .lst o ts, .int i => (ixN ts.length i).bind fun j => (ts[j]?).bind fun t => some (t, fun u => z.2 (.lst o (ts.set j u)))
    | .tup ts, .int i => (ixN ts.length i).bind fun j => (ts[j]?).bind fun t => some (t, fun u => z.2 (.tup (ts.set j u)))
    | _, _ => none
  | _, _ => none
/-- what is walked, frozen -/
def evI (P : Pg) : It → SL → Option (List T × SL)
  | .seq e, sl => (ev P .e e sl).bind fun r => (items r.1).bind fun ts => some (frzs ts, r.2)
  | .rng1 a, sl => (ev P .e a sl).bind fun r => match r.1 with
    | .int n => if rngOk 0 n then some (rngU 0 n, r.2) else none
    | _ => none
  | .rng2 a b, sl => (ev P .e a sl).bind fun r => (ev P .e b r.2).bind fun r2 => match r.1, r2.1 with
    | .int n, .int k => if rngOk n k then some (rngU n k, r2.2) else none
    | _, _ => none
  | .rng3 a b c, sl => (ev P .e a sl).bind fun r => (ev P .e b r.2).bind fun r2 => (ev P .e c r2.2).bind fun r3 => match r.1, r2.1, r3.1 with
    | .int n, .int k, .int j => if rngOk n k && decide (j = -1) then some (rngD n k, r3.2) else none
    | _, _, _ => none
  | .enum e, sl => (ev P .e e sl).bind fun r => match r.1 with
    | .lst _ ts => some ((frzs ts).mapIdx fun i t => .tup [.int (i : Nat), t], r.2)
    | _ => none
  | .zip a b, sl => (ev P .e a sl).bind fun r => (ev P .e b r.2).bind fun r2 => match r.1, r2.1 with
    | .lst _ ts, .lst _ us => some (List.zipWith (fun t u => .tup [t, u]) (frzs ts) (frzs us), r2.2)
    | .tup ts, .tup us => some (List.zipWith (fun t u => .tup [t, u]) (frzs ts) (frzs us), r2.2)
    | _, _ => none
  | .bad, sl => none
  | .rev e, sl => (ev P .e e sl).bind fun r => (items r.1).bind fun ts => some ((frzs ts).reverse, r.2)
end

inductive Fl where
  | nx | rt (t : T) | bk | ct
abbrev Out := Option (Fl × SL)
def whlGo (c : SL → Option (T × SL)) (b : SL → Out) : Nat → SL → Out
  | 0, _ => none
  | n + 1, sl => (c sl).bind fun r => match r.1 with
    | .bl true => (b r.2).bind fun z => match z.1 with
      | .nx => whlGo c b n z.2
      | .ct => whlGo c b n z.2
      | .bk => some (.nx, z.2)
      | .rt t => some (.rt t, z.2)
    | .bl false => some (.nx, r.2)
    | _ => none
def forGo (set : T → SL → Option SL) (b : SL → Out) : List T → SL → Out
  | [], sl => some (.nx, sl)
  | x :: xs, sl => (set x sl).bind fun sl1 => (b sl1).bind fun z => match z.1 with
      | .nx => forGo set b xs z.2
      | .ct => forGo set b xs z.2
      | .bk => some (.nx, z.2)
      | .rt t => some (.rt t, z.2)
def fuel : Nat := 1000000
mutual
def evS (P : Pg) : S → SL → Out
  | .asg g e, sl => (ev P .e e sl).bind fun r => (setG P g r.1 r.2).bind fun sl => some (.nx, sl)
  | .par is es, sl => (evL P es sl).bind fun r => (setNs is r.1 r.2).bind fun sl => some (.nx, sl)
  | .aug i o e, sl => (look sl i).bind fun t => (ev P .e e sl).bind fun r => (iop o t r.1).bind fun z => some (.nx, r.2.set i z)
  | .faug r f o e, sl => (look sl r).bind fun t => match t with
    | .ins true c ns ts => (child P t f).bind fun x => (ev P .o e (brw sl)).bind fun z => (iop o x z.1).bind fun y => (setC P t f y).bind fun t' => some (.nx, sl.set r t')
    | _ => none
  | .pst pl k e, sl => (ev P .e e sl).bind fun z => (plc P pl z.2).bind fun y => (ev P .o k (brw z.2)).bind fun zk => match y.1, zk.1 with
    | .lst true ts, .int i => (ixN ts.length i).bind fun j => some (.nx, y.2 (.lst true (ts.set j z.1)))
    | _, _ => none
  | .paug pl k o e, sl => (plc P pl sl).bind fun y => (ev P .o k (brw sl)).bind fun zk => match y.1, zk.1 with
    | .lst true ts, .int i => (ixN ts.length i).bind fun j => (ts[j]?).bind fun x => (ev P .o e (brw sl)).bind fun z => (iop o x z.1).bind fun w => some (.nx, y.2 (.lst true (ts.set j w)))
    | _, _ => none
  | .exp e, sl => (ev P .e e sl).bind fun r => some (.nx, r.2)
  | .ret e, sl => (ev P .e e sl).bind fun r => some (.rt r.1, r.2)
  | .retn, sl => some (.rt .non, sl)
  | .pass, sl => some (.nx, sl)
  | .bad, sl => none
  | .brk, sl => some (.bk, sl)
  | .cnt, sl => some (.ct, sl)
  | .iff c a b, sl => (ev P .t c sl).bind fun r => match r.1 with
    | .bl true => evSs P a r.2
    | .bl false => evSs P b r.2
    | _ => none
  | .whl c a, sl => whlGo (ev P .t c) (evSs P a) fuel sl
  | .forr g it a, sl => (evI P it sl).bind fun r => forGo (setG P g) (evSs P a) r.1 r.2
def evSs (P : Pg) : Ss → SL → Out
  | .nil, sl => some (.nx, sl)
  | .cons s ss, sl => (evS P s sl).bind fun z => match z.1 with
    | .nx => evSs P ss z.2
    | _ => some z
end
def stG0 : G0 → List Nat
  | .nm i => [i]
  | .tp is => is
  | .at _ _ => []
def stG : G → List Nat
  | .one g => stG0 g
  | .tp gs => gs.flatMap stG0
mutual
/-- the slots that are stored -/
def stS : S → List Nat
  | .asg g _ => stG g
  | .par is _ => is
  | .aug i _ _ => [i]
  | .iff _ a b => stSs a ++ stSs b
  | .whl _ a => stSs a
  | .forr g _ a => stG g ++ stSs a
  | _ => []
def stSs : Ss → List Nat
  | .nil => []
  | .cons s ss => stS s ++ stSs ss
end
/-- a def: parameters, slots, the parameters that it never stores, its body -/
structure Fn where
  np : Nat
  ns : Nat
  st : List Nat
  body : Ss
def runF (P : Pg) (f : Fn) (ts : List T) : Option (T × List T) := if ts.length = f.np then
    (evSs P f.body (ts ++ List.replicate (f.ns - f.np) .hole)).bind fun z => match z.1 with
      | .rt t => some (t, (wipeS f.st z.2).take f.np)
      | .nx => some (.non, (wipeS f.st z.2).take f.np)
      | _ => none
  else none
structure Prg where
  fns : List Fn
  mt : List ((Str × Str) × Nat)
  fd : List (Str × Str)
def callF (R : Prg) : Nat → CF
  | 0, _, _ => none
  | n + 1, f, ts => (R.fns[f]?).bind fun fn => runF ⟨callF R n, fun c m => R.mt.lookup (c, m), fun c f => R.fd.contains (c, f)⟩ fn ts
end Pv

/-! The slots and the abstract heap; what the evaluator says as a reading. -/
namespace Pv
open PySem L2
section
variable {K : PySem.W.Frag} {F F' H H' : Hp} {σ : L2.St} {sl sl' : SL} {p p' q r : FP}
/-! ### weaker readings -/
section
variable {X : Cx}
theorem pe_any {e : Expr} {t' : TE} (h : ∀ σ H Q, t' σ H Q → ∃ t, PE X e t ∧ t σ H Q) : PE X e t' := ⟨fun pins s σ H Q I w => let ⟨t, h1, h2⟩ := h σ H Q w; h1.run pins s σ H Q I h2⟩
theorem pe_imp {e : Expr} {t t' : TE} (h1 : PE X e t) (h : ∀ σ H Q, t' σ H Q → t σ H Q) : PE X e t' := ⟨fun pins s σ H Q I w => h1.run pins s σ H Q I (h σ H Q w)⟩
theorem pt_imp {e : Expr} {t t' : TT} (h1 : PT X e t) (h : ∀ σ H Q, t' σ H Q → t σ H Q) : PT X e t' := ⟨fun pins s σ H Q I w => h1.run pins s σ H Q I (h σ H Q w)⟩
theorem pa_imp {e : List Expr} {t t' : TA} (h1 : PA X e t) (h : ∀ σ H Q, t' σ H Q → t σ H Q) : PA X e t' := ⟨fun pos pins s σ H Q I w => h1.run pos pins s σ H Q I (h σ H Q w)⟩
theorem ps_imp {e : Stmt} {t t' : TS} (h1 : PS X e t) (h : ∀ D σ H, t' D σ H → t D σ H) : PS X e t' := ⟨fun pins s σ H D I w => h1.run pins s σ H D I (h D σ H w)⟩
theorem ps_any {e : Stmt} {t' : TS} (h : ∀ D σ H, t' D σ H → ∃ t, PS X e t ∧ t D σ H) : PS X e t' := ⟨fun pins s σ H D I w => let ⟨t, h1, h2⟩ := h D σ H w; h1.run pins s σ H D I h2⟩
theorem pss_imp {e : List Stmt} {t t' : TS} (h1 : PSs X e t) (h : ∀ D σ H, t' D σ H → t D σ H) : PSs X e t' := ⟨fun pins s σ H D I w => h1.run pins s σ H D I (h D σ H w)⟩
theorem pi_any {tg e : Expr} {t' : TI} (h : ∀ σ H Q, t' σ H Q → ∃ t, PI X tg e t ∧ t σ H Q) : PI X tg e t' := ⟨fun pins s σ H Q I w => let ⟨t, h1, h2⟩ := h σ H Q w; h1.run pins s σ H Q I h2⟩
theorem pi_imp {tg e : Expr} {t t' : TI} (h1 : PI X tg e t) (h : ∀ σ H Q, t' σ H Q → t σ H Q) : PI X tg e t' := ⟨fun pins s σ H Q I w => h1.run pins s σ H Q I (h σ H Q w)⟩
theorem pg_any {e : Expr} {t' : TG} (h : ∀ v σ H Q, t' v σ H Q → ∃ t, PG X e t ∧ t v σ H Q) : PG X e t' := ⟨fun pins s σ H v u Q I r w => let ⟨t, h1, h2⟩ := h v σ H Q w; h1.run pins s σ H v u Q I r h2⟩
theorem opr_any {f : Value → Value → Sem Value} {r' : R2} (h : ∀ x y H Q, r' x y H Q → ∃ r, OpR X f r ∧ r x y H Q) : OpR X f r' := fun pins s σ H x y v u Q I rx ry w => let ⟨r, h1, h2⟩ := h x y H Q w; h1 pins s σ H x y v u Q I rx ry h2
theorem unr_any {f : Value → Sem Value} {r' : V → Hp → VK → Prop} (h : ∀ x H Q, r' x H Q → ∃ r, UnR X f r ∧ r x H Q) : UnR X f r' := fun pins s σ H x v Q I rx w => let ⟨r, h1, h2⟩ := h x H Q w; h1 pins s σ H x v Q I rx h2
theorem callr_any {f : Value} {r' : List V → Hp → VK → Prop} (h : ∀ x H Q, r' x H Q → ∃ r, CallR X f r ∧ r x H Q) : CallR X f r' := fun pins s σ H x v Q I rx w => let ⟨r, h1, h2⟩ := h x H Q w; h1 pins s σ H x v Q I rx h2
end

/-! ### slots -/
def SlR (K : PySem.W.Frag) (F H : Hp) (sl : SL) (σ : L2.St) (p : FP) : Prop :=
  ∃ vs : List V, Reps K F H sl vs p ∧ sl.length = σ.length ∧ ∀ (i : Nat) (t : T) (v : V), sl[i]? = some t → isHole t = false → vs[i]? = some v → σ[i]? = some (some v)
theorem isHole_eq {t : T} (h : isHole t = true) : t = .hole := by
  cases t <;> first | rfl | cases h
theorem look_some {i : Nat} {t : T} (h : look sl i = some t) : sl[i]? = some t ∧ isHole t = false := by
  unfold look at h
  cases e : sl[i]? with
  | none => rw [e] at h; cases h
  | some u =>
    rw [e] at h
    cases u <;> first | (cases h; done) | (cases h; exact ⟨rfl, rfl⟩)
theorem SlR.own (s : SlR K F H sl σ p) : ∀ a, p a → F a = none ∧ ∃ o, H a = some o := let ⟨_, h, _⟩ := s; h.own
theorem SlR.cg (s : SlR K F H sl σ p) (h : ∀ a, p a ↔ q a) : SlR K F H sl σ q := let ⟨vs, a, b⟩ := s; ⟨vs, a.cg h, b⟩
theorem SlR.frame (s : SlR K F H sl σ p) (ex : Ex F F') (h : ∀ a, p a → F' a = none ∧ H' a = H a) : SlR K F' H' sl σ p := let ⟨vs, a, b⟩ := s; ⟨vs, a.frame ex h, b⟩
theorem SlR.len (s : SlR K F H sl σ p) : sl.length = σ.length := s.choose_spec.2.1
/-- a slot's value is taken out -/
theorem SlR.take {i : Nat} {t : T} (s : SlR K F H sl σ p) (h : look sl i = some t) :
    ∃ v q r, σ[i]? = some (some v) ∧ Rep K F H t v q ∧ Dj q r ∧ (∀ b, p b ↔ q b ∨ r b) ∧ SlR K F H (sl.set i .hole) σ r := by
  obtain ⟨vs, R, l, ag⟩ := s
  obtain ⟨h1, h2⟩ := look_some h
  obtain ⟨v, q, r, e1, r1, dj, e2, r2⟩ := R.focus h1
  refine ⟨v, q, r, ag i t v h1 h2 e1, r1, dj, e2, vs, r2, by simpa using l, fun j u w g1 g2 g3 => ?_⟩
  by_cases hj : i = j
  · subst hj
    have hi : i < sl.length := (List.getElem?_eq_some_iff.mp h1).1
    rw [List.getElem?_set_self hi] at g1
    cases g1; cases g2
  · rw [List.getElem?_set_ne hj] at g1
    exact ag j u w g1 g2 g3
/-- .. and put back -/
theorem SlR.put {i : Nat} {t : T} {v : V} (s : SlR K F H sl σ r) (h : sl[i]? = some .hole) (hv : σ[i]? = some (some v)) (ht : Rep K F H t v q) (dj : Dj q r) : SlR K F H (sl.set i t) σ (fun b => q b ∨ r b) := by
  obtain ⟨vs, R, l, ag⟩ := s
  refine ⟨vs.set i v, R.put h ht dj, by simpa using l, fun j u w g1 g2 g3 => ?_⟩
  have hi : i < sl.length := (List.getElem?_eq_some_iff.mp h).1
  by_cases hj : i = j
  · subst hj
    have hi2 : i < vs.length := by rw [← R.length]; exact hi
    rw [List.getElem?_set_self hi2] at g3
    cases g3; exact hv
  · rw [List.getElem?_set_ne hj] at g1 g3
    exact ag j u w g1 g2 g3
theorem SlR.peek {i : Nat} {t : T} (s : SlR K F H sl σ p) (h : look sl i = some t) : ∃ v q, σ[i]? = some (some v) ∧ Rep K F H t v q ∧ ∀ a, q a → p a := by
  obtain ⟨v, q, r, e, h1, _, h2, _⟩ := s.take h
  exact ⟨v, q, e, h1, fun a x => (h2 a).mpr (.inl x)⟩
theorem set_hole_put {i : Nat} {t : T} (h : look sl i = some t) : (sl.set i .hole)[i]? = some .hole := by
  rw [List.getElem?_set_self (List.getElem?_eq_some_iff.mp (look_some h).1).1]
/-- what stood in a slot is forgotten, whatever is stored there -/
theorem SlR.drop (s : SlR K F H sl σ p) (i : Nat) (x : Option V) : ∃ r, (∀ a, r a → p a) ∧ SlR K F H (sl.set i .hole) (σ.set i x) r := by
  obtain ⟨vs, R, l, ag⟩ := s
  by_cases hi : i < sl.length
  · obtain ⟨t, ht⟩ : ∃ t, sl[i]? = some t := ⟨sl[i], by simp [hi]⟩
    obtain ⟨v, q, r, e1, r1, dj, e2, r2⟩ := R.focus ht
    refine ⟨r, fun a x => (e2 a).mpr (.inr x), vs, r2, by simpa using l, fun j u w g1 g2 g3 => ?_⟩
    by_cases hj : i = j
    · subst hj
      rw [List.getElem?_set_self hi] at g1
      cases g1; cases g2
    · rw [List.getElem?_set_ne hj] at g1 ⊢
      exact ag j u w g1 g2 g3
  · have e1 : sl.set i .hole = sl := List.set_eq_of_length_le (by omega)
    have e2 : σ.set i x = σ := List.set_eq_of_length_le (by omega)
    rw [e1, e2]
    exact ⟨p, fun _ x => x, vs, R, l, ag⟩
theorem SlR.put2 {i : Nat} {t : T} {v : V} (s : SlR K F H (sl.set i .hole) (σ.set i (some v)) r) (hi : i < sl.length) (ht : Rep K F H t v q) (dj : Dj q r) : SlR K F H (sl.set i t) (σ.set i (some v)) (fun b => q b ∨ r b) := by
  have l := s.len
  have z := s.put (i := i) (t := t) (v := v) (q := q) (by rw [List.getElem?_set_self hi]) (by rw [List.getElem?_set_self (by simp at l; omega)]) ht dj
  rw [List.set_set] at z
  exact z
/-- only what is frozen -/
theorem Reps.fro : ∀ {sl : List T} {vs p}, Reps K F H sl vs p → Reps K F H (fro sl) vs nop
  | _, _, _, .nil e => .nil fun _ x => x
  | t :: _, _, _, .cons h hs d e => by
    have ih := Reps.fro hs
    show Reps K F H ((if isF t then t else .hole) :: Pv.fro _) _ _
    refine .cons (p := nop) ?_ ih (fun _ x => x.elim) fun b => ⟨fun x => x.elim, fun x => x.elim id id⟩
    by_cases f : isF t = true
    · rw [if_pos f]; exact h.cg fun b => ⟨fun x => h.of_isF f b x, fun x => x.elim⟩
    · rw [if_neg f]; exact .hole fun _ x => x
theorem SlR.fro (s : SlR K F H sl σ p) : SlR K F H (fro sl) σ nop := by
  obtain ⟨vs, R, l, ag⟩ := s
  refine ⟨vs, R.fro, by simpa [Pv.fro] using l, fun j u w g1 g2 g3 => ?_⟩
  unfold Pv.fro at g1
  rw [List.getElem?_map] at g1
  cases e : sl[j]? with
  | none => rw [e] at g1; cases g1
  | some t =>
    rw [e] at g1
    by_cases f : isF t = true
    · simp [f] at g1; subst g1
      exact ag j t w e (by cases t <;> first | rfl | (simp [isF] at f)) g3
    · simp [f] at g1; subst g1; cases g2

/-! ### reading values -/
theorem Rep.seqL {o : Bool} {ts : List T} {v : V} (h : Rep K F H (.lst o ts) v p) (ex : Ex F H) : ∃ a xs q, v = .ref a ∧ Rd H a (.lst xs) ∧ Reps K F H ts xs q ∧ (∀ b, q b → p b) ∧ (o = true → H a = some (.lst xs) ∧ p a ∧ F a = none ∧ ¬ q a ∧ ∀ b, p b ↔ b = a ∨ q b) := by
  cases h with
  | lstF s r => exact ⟨_, _, _, rfl, Evl.ex_rd ex s, r, fun _ x => x, fun z => by cases z⟩
  | lstO n h r d e => exact ⟨_, _, _, rfl, .inl h, r, fun b x => (e b).mpr (.inr x), fun _ => ⟨h, (e _).mpr (.inl rfl), n, d, e⟩⟩
theorem Rep.seqT {ts : List T} {v : V} (h : Rep K F H (.tup ts) v p) (ex : Ex F H) : ∃ a xs, v = .ref a ∧ SqT K H a xs ∧ Reps K F H ts xs p := by
  cases h with
  | tup s r => exact ⟨_, _, rfl, Evl.ex_t ex s, r⟩
theorem Rep.int' {i : Int} {v : V} (h : Rep K F H (.int i) v p) : v = .int i ∧ ∀ a, ¬ p a := by cases h with | int e => exact ⟨rfl, e⟩
theorem Rep.bl' {i : Bool} {v : V} (h : Rep K F H (.bl i) v p) : v = .bl i ∧ ∀ a, ¬ p a := by cases h with | bl e => exact ⟨rfl, e⟩
theorem Rep.str' {i : Str} {v : V} (h : Rep K F H (.str i) v p) : v = .str i ∧ ∀ a, ¬ p a := by cases h with | str e => exact ⟨rfl, e⟩
theorem Rep.non' {v : V} (h : Rep K F H .non v p) : v = .non ∧ ∀ a, ¬ p a := by cases h with | non e => exact ⟨rfl, e⟩
/-- at one place of a row: the value there -/
theorem Reps.at_ {ts : List T} {xs : List V} (h : Reps K F H ts xs p) {i : Nat} {t : T} (g : ts[i]? = some t) : ∃ v q, xs[i]? = some v ∧ Rep K F H t v q ∧ ∀ a, q a → p a := by
  obtain ⟨v, q, r, e1, r1, _, e2, _⟩ := h.focus g
  exact ⟨v, q, e1, r1, fun a x => (e2 a).mpr (.inl x)⟩
theorem truV {t : T} {v : V} {b : Bool} (h : Rep K F H t v p) (ex : Ex F H) (e : tru t = some b) : TruV K v H b := by
  cases t with
  | hole => cases e
  | non => obtain ⟨rfl, _⟩ := h.non'; cases e; rfl
  | bl c => obtain ⟨rfl, _⟩ := h.bl'; cases e; rfl
  | int i => obtain ⟨rfl, _⟩ := h.int'; cases e; rfl
  | str x =>
    obtain ⟨rfl, _⟩ := h.str'
    have e' : (if x.length ≤ sizeLine then some (x.length != 0) else none) = some b := e
    by_cases hz : x.length ≤ sizeLine
    · rw [if_pos hz] at e'
      cases e'
      refine ⟨hz, ?_⟩
      by_cases hx : x.length = 0
      · rw [hx]; rfl
      · have h2 : (x.length : Int) ≠ 0 := by omega
        rw [bne_iff_ne.mpr hx, bne_iff_ne.mpr h2]
    · rw [if_neg hz] at e'; cases e'
  | tup ts =>
    obtain ⟨a, xs, rfl, s, r⟩ := h.seqT ex
    cases e
    refine .inr (.inl ⟨xs, s, ?_⟩)
    have := r.length
    cases ts <;> cases xs <;> first | rfl | cases this
  | lst o ts =>
    obtain ⟨a, xs, q, rfl, s, r, _⟩ := h.seqL ex
    cases e
    refine .inl ⟨xs, .inl s, ?_⟩
    have := r.length
    cases ts <;> cases xs <;> first | rfl | cases this
  | dct o kd ks ts =>
    cases kd with
    | true => cases e
    | false =>
      cases e
      have main : ∀ {a : Addr} {xs : List V}, H a = some (dho false ks xs) → DW false ks xs.length → TruV K (.ref a) H (!ks.isEmpty) := fun {a xs} h w => by
        refine .inr (.inr ⟨(ks.map key1).zip xs, h, ?_⟩)
        have := w.len
        cases ks <;> cases xs <;> first | rfl | cases this
      cases h with
      | dctF h w r => exact main (ex _ _ h) w
      | dctO n h w r d e => exact main h w
  | ins o c ns ts => cases e
end
end Pv

/-! Operations on values, by the rules of HandS. -/
namespace Pv
open PySem L2 PyProof.Rows
/-- what an operation leaves: a value, new objects alone -/
def rT2 (K : PySem.W.Frag) (o : O2) : R2 := fun x y H Q => ∃ F t u p q r, Ex F H ∧ Rep K F H t x p ∧ Rep K F H u y q ∧ op2 o t u = some r ∧
  ∀ v F' H' pv, Ex F' H' → Rep K F' H' r v pv → Stp nop F H pv F' H' → Q v H'
def rT1 (K : PySem.W.Frag) (o : O1) : V → Hp → VK → Prop := fun x H Q => ∃ F t p r, Ex F H ∧ Rep K F H t x p ∧ op1 o t = some r ∧
  ∀ v F' H' pv, Ex F' H' → Rep K F' H' r v pv → Stp nop F H pv F' H' → Q v H'
section
variable {K : PySem.W.Frag} {F F' H H' : Hp} {σ : L2.St} {sl sl' : SL} {p p' q r : FP}
/-- a value without objects -/
theorem done0 {t : T} {v : V} {Q : VK} (k : ∀ v F' H' pv, Ex F' H' → Rep K F' H' t v pv → Stp nop F H pv F' H' → Q v H') (ex : Ex F H) (h : Rep K F H t v nop) : Q v H := k v F H nop ex h Stp.refl
theorem d_int {i : Int} {Q : VK} (k : ∀ v F' H' pv, Ex F' H' → Rep K F' H' (.int i) v pv → Stp nop F H pv F' H' → Q v H') (ex : Ex F H) : Q (.int i) H := done0 k ex (.int fun _ x => x)
theorem d_bl {i : Bool} {Q : VK} (k : ∀ v F' H' pv, Ex F' H' → Rep K F' H' (.bl i) v pv → Stp nop F H pv F' H' → Q v H') (ex : Ex F H) : Q (.bl i) H := done0 k ex (.bl fun _ x => x)
theorem d_str {i : Str} {Q : VK} (k : ∀ v F' H' pv, Ex F' H' → Rep K F' H' (.str i) v pv → Stp nop F H pv F' H' → Q v H') (ex : Ex F H) : Q (.str i) H := done0 k ex (.str fun _ x => x)
theorem fresh_F (ex : Ex F H) {a : Addr} (h : H a = none) : F a = none := by
  cases e : F a with
  | none => rfl
  | some o => rw [ex a o e] at h; cases h
theorem ne_own {q : FP} (h : ∀ a, q a → F a = none ∧ ∃ o, H a = some o) {a : Addr} (n : H a = none) : ¬ q a := fun x => by
  obtain ⟨_, o, e⟩ := h a x
  rw [n] at e; cases e
/-- a new list that holds these -/
theorem new_lst {ts : List T} {xs : List V} {a : Addr} (ex : Ex F H) (n : H a = none) (r : Reps K F H ts xs q) :
    Ex F (upd H a (.lst xs)) ∧ Rep K F (upd H a (.lst xs)) (.lst true ts) (.ref a) (fun b => b = a ∨ q b) ∧ Stp q F H (fun b => b = a ∨ q b) F (upd H a (.lst xs)) := by
  have own := r.own
  have nq := ne_own own n
  refine ⟨ex.trans (Evl.Ex.new n), .lstO (fresh_F ex n) upd_same (r.frame (Evl.Ex.refl F) fun b x => ⟨(own b x).1, upd_ne fun e => nq (e ▸ x)⟩) nq fun b => Iff.rfl, Evl.Ex.refl F, fun b o e _ => ?_, fun _ _ _ _ => rfl, fun b x => ?_⟩
  · rw [upd_ne (ne_of_none e n)]; exact e
  · rcases x with rfl | x
    · exact .inr n
    · exact .inl x
/-- a new tuple that holds these -/
theorem new_tup {ts : List T} {xs : List V} {a : Addr} (ex : Ex F H) (n : H a = none) (r : Reps K F H ts xs q) :
    Ex (upd F a (.tup xs)) (upd H a (.tup xs)) ∧ Rep K (upd F a (.tup xs)) (upd H a (.tup xs)) (.tup ts) (.ref a) q ∧ Stp q F H q (upd F a (.tup xs)) (upd H a (.tup xs)) := by
  have own := r.own
  have nq := ne_own own n
  have nF := fresh_F ex n
  refine ⟨fun b o e => ?_, .tup (.inl (.inl upd_same)) (r.frame (Evl.Ex.new nF) fun b x => have hb : b ≠ a := fun e => nq (e ▸ x); ⟨(upd_ne hb).trans (own b x).1, upd_ne hb⟩), Evl.Ex.new nF, fun b o e _ => ?_, fun b o e _ => upd_ne (ne_of_none e n), fun b x => .inl x⟩
  · by_cases h : b = a
    · subst h; rw [upd_same] at e; rw [upd_same]; exact e
    · rw [upd_ne h] at e; rw [upd_ne h]; exact ex b o e
  · rw [upd_ne (ne_of_none e n)]; exact e
theorem Stp.nop_of (s : Stp q F H p F' H') (h : ∀ a, ¬ q a) : Stp nop F H p F' H' := s.cg fun a => ⟨fun x => h a x, fun x => x.elim⟩
theorem isFs_app : ∀ {ts us : List T}, isFs (ts ++ us) = (isFs ts && isFs us)
  | [], us => by simp [isFs]
  | t :: ts, us => by simp [isFs, isFs_app (ts := ts), Bool.and_assoc]
theorem app_nop {ts us : List T} {xs ys : List V} (h1 : Reps K F H ts xs p) (h2 : Reps K F H us ys q) (f1 : isFs ts = true) (f2 : isFs us = true) : Reps K F H (ts ++ us) (xs ++ ys) nop :=
  ((h1.cg fun b => ⟨fun x => h1.of_isFs f1 b x, fun x => x.elim⟩ : Reps K F H ts xs nop).app (h2.cg fun b => ⟨fun x => h2.of_isFs f2 b x, fun x => x.elim⟩ : Reps K F H us ys nop) fun _ x => x.elim).cg fun b => ⟨fun x => x.elim id id, fun x => x.elim⟩
end

section
variable {X : Cx} {F H : Hp} {p q : FP}
theorem Inv.lstR {pins : List (Addr × Obj)} {σ : L2.St} {s : Shared} {l : Addr} {xs : List V} (I : Inv X pins σ H s) (hH : Rd H l (.lst xs)) : xs.length ≤ sizeLine ∧ ∃ (its : List Value) (n : Nat), Vals xs its ∧ xs.length = its.length ∧ s.heap.get? l = some { cls := .type "list", data := .seq its.toArray n } := by
  obtain ⟨z, its, n, r, e⟩ := hH.ok I.hok
  exact ⟨z, its, n, r, r.length, e⟩
/-- list + list, whatever is known of them -/
def rCatR : R2 := fun x y H Q => ∃ l b xs zs, x = .ref l ∧ y = .ref b ∧ Rd H l (.lst xs) ∧ Rd H b (.lst zs) ∧ xs.length + zs.length ≤ sizeLine ∧ ∀ p, H p = none → Q (.ref p) (upd H p (.lst (xs ++ zs)))
theorem op_catR : OpR X (binaryOp .Add) rCatR := by
  intro pins s σ H x y v u Q I rx ry h
  obtain ⟨l, b, xs, zs, rfl, rfl, hH, hB, hz, q⟩ := h
  cases rx
  cases ry
  obtain ⟨z, its, n, r, hl, e⟩ := Pv.Inv.lstR I hH
  obtain ⟨z2, its2, n2, r2, hl2, e2⟩ := Pv.Inv.lstR I hB
  refine PySem.P.add_list e e2 ?_ (by rw [List.size_toArray, List.size_toArray]; omega)
  have ea : its.toArray ++ its2.toArray = (its ++ its2).toArray := by simp
  rw [ea]
  exact ⟨.ref _, _, I.lnew (t' := s.toks) (r.append r2) (by rw [List.length_append]; omega), rfl, q _ I.fresh⟩
theorem szl {n : Nat} (h : n < 10000000) : n ≤ sizeLine := by rw [sizeLine_eq]; omega

theorem or_add : OpR X (binaryOp .Add) (rT2 X.K .add) := opr_any fun x y H Q h => by
  obtain ⟨F, t, u, p, q, r, ex, ht, hu, e, k⟩ := h
  cases t <;> cases u <;> first | (cases e; done) | skip
  · obtain ⟨rfl, _⟩ := ht.int'; obtain ⟨rfl, _⟩ := hu.int'
    cases e
    exact ⟨_, op_add, _, _, rfl, rfl, d_int k ex⟩
  · rename_i i j
    obtain ⟨rfl, _⟩ := ht.str'; obtain ⟨rfl, _⟩ := hu.str'
    have e' : (if i.length + j.length ≤ sizeLine then some (T.str (i ++ j)) else none) = some r := e
    by_cases hz : i.length + j.length ≤ sizeLine
    · rw [if_pos hz] at e'; cases e'
      exact ⟨_, op_add_str, _, _, rfl, rfl, hz, d_str k ex⟩
    · rw [if_neg hz] at e'; cases e'
  · rename_i ts us
    obtain ⟨a, xs, rfl, s1, r1⟩ := ht.seqT ex
    obtain ⟨b, ys, rfl, s2, r2⟩ := hu.seqT ex
    have e' : (if isFs ts && isFs us && decide (ts.length + us.length < 10000000) then some (T.tup (ts ++ us)) else none) = some r := e
    by_cases hz : (isFs ts && isFs us && decide (ts.length + us.length < 10000000)) = true
    · rw [if_pos hz] at e'; cases e'
      simp only [Bool.and_eq_true, decide_eq_true_eq] at hz
      obtain ⟨⟨f1, f2⟩, hz⟩ := hz
      have l1 := r1.length
      have l2 := r2.length
      have R := app_nop r1 r2 f1 f2
      have z1 := r1.of_isFs f1
      have z2 := r2.of_isFs f2
      refine ⟨_, op_catA, a, b, xs, ys, rfl, rfl, s1, s2, szl (by omega), fun hx => ?_, fun hx hy => ?_, fun hx hy c nc => ?_⟩
      · have e0 : ts = [] := List.length_eq_zero_iff.mp (by rw [l1, hx]; rfl)
        subst e0
        exact k _ F H nop ex (hu.cg fun b => ⟨fun x => z2 b x, fun x => x.elim⟩) Stp.refl
      · have e0 : us = [] := List.length_eq_zero_iff.mp (by rw [l2, hy]; rfl)
        subst e0
        rw [List.append_nil] at k
        exact k _ F H nop ex (ht.cg fun b => ⟨fun x => z1 b x, fun x => x.elim⟩) Stp.refl
      · obtain ⟨a1, a2, a3⟩ := new_tup ex nc R
        exact k _ _ _ nop a1 a2 a3
    · rw [if_neg hz] at e'; cases e'
  · rename_i o1 ts o2 us
    obtain ⟨a, xs, q1, rfl, s1, r1, _, _⟩ := ht.seqL ex
    obtain ⟨b, ys, q2, rfl, s2, r2, _, _⟩ := hu.seqL ex
    have e' : (if isFs ts && isFs us && decide (ts.length + us.length < 10000000) then some (T.lst true (ts ++ us)) else none) = some r := e
    by_cases hz : (isFs ts && isFs us && decide (ts.length + us.length < 10000000)) = true
    · rw [if_pos hz] at e'; cases e'
      simp only [Bool.and_eq_true, decide_eq_true_eq] at hz
      obtain ⟨⟨f1, f2⟩, hz⟩ := hz
      have l1 := r1.length
      have l2 := r2.length
      refine ⟨_, op_catR, a, b, xs, ys, rfl, rfl, s1, s2, szl (by omega), fun c nc => ?_⟩
      obtain ⟨a1, a2, a3⟩ := new_lst ex nc (app_nop r1 r2 f1 f2)
      exact k _ _ _ _ a1 a2 a3
    · rw [if_neg hz] at e'; cases e'
theorem or_sub : OpR X (binaryOp .Sub) (rT2 X.K .sub) := opr_any fun x y H Q h => by
  obtain ⟨F, t, u, p, q, r, ex, ht, hu, e, k⟩ := h
  cases t <;> cases u <;> first | (cases e; done) | skip
  obtain ⟨rfl, _⟩ := ht.int'; obtain ⟨rfl, _⟩ := hu.int'
  cases e
  exact ⟨_, op_sub, _, _, rfl, rfl, d_int k ex⟩
theorem op_mulX : OpR X (binaryOp .Mult) (rI IntMulOk fun i j => .int (i * j)) := opI fun _ _ _ _ _ _ _ hc q => mul_int q hc
theorem mulOk_ok {i j : Int} (h : mulOk i j = true) : IntMulOk i j := by
  have b : ∀ x : Int, Builtin.Int.intBits x ≤ x.natAbs.log2 + 1 := fun x => by
    unfold Builtin.Int.intBits
    split <;> omega
  simp only [mulOk, smallI, tinyI, Bool.or_eq_true, Bool.and_eq_true, decide_eq_true_eq] at h
  rcases h with h | h | h
  · exact CMulW.ok (by unfold CMulW; omega)
  · exact IntMulOk.of_left (by have := b i; omega)
  · exact IntMulOk.of_right (by have := b j; omega)
theorem or_mul : OpR X (binaryOp .Mult) (rT2 X.K .mul) := opr_any fun x y H Q h => by
  obtain ⟨F, t, u, p, q, r, ex, ht, hu, e, k⟩ := h
  cases t <;> cases u <;> first | (cases e; done) | skip
  rename_i i j
  obtain ⟨rfl, _⟩ := ht.int'; obtain ⟨rfl, _⟩ := hu.int'
  have e' : (if mulOk i j then some (T.int (i * j)) else none) = some r := e
  by_cases hz : mulOk i j = true
  · rw [if_pos hz] at e'; cases e'
    exact ⟨_, op_mulX, _, _, rfl, rfl, mulOk_ok hz, d_int k ex⟩
  · rw [if_neg hz] at e'; cases e'
theorem or_fdiv : OpR X (binaryOp .FloorDiv) (rT2 X.K .fdiv) := opr_any fun x y H Q h => by
  obtain ⟨F, t, u, p, q, r, ex, ht, hu, e, k⟩ := h
  cases t <;> cases u <;> first | (cases e; done) | skip
  rename_i i j
  obtain ⟨rfl, _⟩ := ht.int'; obtain ⟨rfl, _⟩ := hu.int'
  have e' : (if decide (0 < j) && decide (j.natAbs.log2 < 9000) then some (T.int (i / j)) else none) = some r := e
  by_cases hz : (decide (0 < j) && decide (j.natAbs.log2 < 9000)) = true
  · rw [if_pos hz] at e'; cases e'
    simp only [Bool.and_eq_true, decide_eq_true_eq] at hz
    exact ⟨_, op_fdivW, _, _, rfl, rfl, hz, d_int k ex⟩
  · rw [if_neg hz] at e'; cases e'
theorem or_mod : OpR X (binaryOp .Mod) (rT2 X.K .mod) := opr_any fun x y H Q h => by
  obtain ⟨F, t, u, p, q, r, ex, ht, hu, e, k⟩ := h
  cases t <;> cases u <;> first | (cases e; done) | skip
  rename_i i j
  obtain ⟨rfl, _⟩ := ht.int'; obtain ⟨rfl, _⟩ := hu.int'
  have e' : (if decide (0 < j) then some (T.int (i % j)) else none) = some r := e
  by_cases hz : decide (0 < j) = true
  · rw [if_pos hz] at e'; cases e'
    exact ⟨_, op_mod, _, _, rfl, rfl, of_decide_eq_true hz, d_int k ex⟩
  · rw [if_neg hz] at e'; cases e'
theorem or_pow : OpR X (binaryOp .Pow) (rT2 X.K .pow) := opr_any fun x y H Q h => by
  obtain ⟨F, t, u, p, q, r, ex, ht, hu, e, k⟩ := h
  cases t <;> cases u <;> first | (cases e; done) | skip
  rename_i i j
  obtain ⟨rfl, _⟩ := ht.int'; obtain ⟨rfl, _⟩ := hu.int'
  have e' : (if decide (0 ≤ j) && decide (j ≤ 1000000) && decide (i.natAbs < 2 ^ 64) then some (T.int (i ^ j.toNat)) else none) = some r := e
  by_cases hz : (decide (0 ≤ j) && decide (j ≤ 1000000) && decide (i.natAbs < 2 ^ 64)) = true
  · rw [if_pos hz] at e'; cases e'
    simp only [Bool.and_eq_true, decide_eq_true_eq] at hz
    exact ⟨_, op_pow, _, _, rfl, rfl, ⟨hz.1.1, hz.1.2, hz.2⟩, d_int k ex⟩
  · rw [if_neg hz] at e'; cases e'
theorem or_xor : OpR X (binaryOp .BitXor) (rT2 X.K .bxor) := opr_any fun x y H Q h => by
  obtain ⟨F, t, u, p, q, r, ex, ht, hu, e, k⟩ := h
  cases t <;> cases u <;> first | (cases e; done) | skip
  obtain ⟨rfl, _⟩ := ht.int'; obtain ⟨rfl, _⟩ := hu.int'
  cases e
  exact ⟨_, op_xor, _, _, rfl, rfl, d_int k ex⟩
theorem or_lt : OpR X (compareOp .Lt) (rT2 X.K .lt) := opr_any fun x y H Q h => by
  obtain ⟨F, t, u, p, q, r, ex, ht, hu, e, k⟩ := h
  cases t <;> cases u <;> first | (cases e; done) | skip
  obtain ⟨rfl, _⟩ := ht.int'; obtain ⟨rfl, _⟩ := hu.int'
  cases e
  exact ⟨_, op_lt, _, _, rfl, rfl, d_bl k ex⟩
theorem or_le : OpR X (compareOp .LtE) (rT2 X.K .le) := opr_any fun x y H Q h => by
  obtain ⟨F, t, u, p, q, r, ex, ht, hu, e, k⟩ := h
  cases t <;> cases u <;> first | (cases e; done) | skip
  obtain ⟨rfl, _⟩ := ht.int'; obtain ⟨rfl, _⟩ := hu.int'
  cases e
  exact ⟨_, op_le, _, _, rfl, rfl, d_bl k ex⟩
theorem or_gt : OpR X (compareOp .Gt) (rT2 X.K .gt) := opr_any fun x y H Q h => by
  obtain ⟨F, t, u, p, q, r, ex, ht, hu, e, k⟩ := h
  cases t <;> cases u <;> first | (cases e; done) | skip
  obtain ⟨rfl, _⟩ := ht.int'; obtain ⟨rfl, _⟩ := hu.int'
  cases e
  exact ⟨_, op_gt, _, _, rfl, rfl, d_bl k ex⟩
theorem or_ge : OpR X (compareOp .GtE) (rT2 X.K .ge) := opr_any fun x y H Q h => by
  obtain ⟨F, t, u, p, q, r, ex, ht, hu, e, k⟩ := h
  cases t <;> cases u <;> first | (cases e; done) | skip
  obtain ⟨rfl, _⟩ := ht.int'; obtain ⟨rfl, _⟩ := hu.int'
  cases e
  exact ⟨_, op_ge, _, _, rfl, rfl, d_bl k ex⟩
/-! ### deep equality -/
mutual
theorem Rep.dp {K : PySem.W.Frag} (ex : Ex F H) : ∀ {t v p d}, Rep K F H t v p → pd t = some d → Dp K H v d
  | _, _, _, d, .hole e, g => by cases g
  | _, _, _, d, .non e, g => by cases g; exact .non
  | _, _, _, d, .bl e, g => by cases g; exact .bl _
  | _, _, _, d, .int e, g => by cases g; exact .int _
  | _, _, _, d, .str e, g => by cases g; exact .str _
  | _, _, _, d, .tup (ts := ts) s r, g => by
    simp only [pd, Option.map_eq_some_iff] at g
    obtain ⟨ds, e, rfl⟩ := g
    exact .tup (Evl.ex_t ex s) (Reps.dp ex r e)
  | _, _, _, d, .lstF (ts := ts) s r, g => by
    simp only [pd, Option.map_eq_some_iff] at g
    obtain ⟨ds, e, rfl⟩ := g
    exact .lst (.inl (Evl.ex_rd ex s)) (Reps.dp ex r e)
  | _, _, _, d, .lstO (ts := ts) n h r _ _, g => by
    simp only [pd, Option.map_eq_some_iff] at g
    obtain ⟨ds, e, rfl⟩ := g
    exact .lst (.inl (.inl h)) (Reps.dp ex r e)
  | _, _, _, d, .dctF h w r, g => by cases g
  | _, _, _, d, .dctO n h w r _ _, g => by cases g
  | _, _, _, d, .insF h w r, g => by cases g
  | _, _, _, d, .insO n h w r _ _, g => by cases g
theorem Reps.dp {K : PySem.W.Frag} (ex : Ex F H) : ∀ {ts vs p ds}, Reps K F H ts vs p → pds ts = some ds → DpAll K H vs ds
  | _, _, _, ds, .nil e, g => by cases g; exact .nil
  | t :: ts, _, _, ds, .cons h hs d e, g => by
    simp only [pds] at g
    cases e1 : pd t with
    | none => rw [e1] at g; cases g
    | some d1 =>
      cases e2 : pds ts with
      | none => rw [e1, e2] at g; cases g
      | some d2 =>
        rw [e1, e2] at g; cases g
        exact .cons (Rep.dp ex h e1) (Reps.dp ex hs e2)
end
theorem eqT_some {t u : T} {b : Bool} (h : eqT t u = some b) : ∃ d e, pd t = some d ∧ pd u = some e ∧ SeqAt.shaped d = true ∧ SeqAt.shaped e = true ∧ PyData.eqv d e = b := by
  unfold eqT at h
  cases e1 : pd t with
  | none => rw [e1] at h; cases h
  | some d =>
    cases e2 : pd u with
    | none => rw [e1, e2] at h; cases h
    | some e =>
      rw [e1, e2] at h
      by_cases hz : (SeqAt.shaped d && SeqAt.shaped e) = true
      · have h' : (if SeqAt.shaped d && SeqAt.shaped e then some (PyData.eqv d e) else none) = some b := h
        rw [if_pos hz] at h'
        cases h'
        simp only [Bool.and_eq_true] at hz
        exact ⟨d, e, rfl, rfl, hz.1, hz.2, rfl⟩
      · have h' : (if SeqAt.shaped d && SeqAt.shaped e then some (PyData.eqv d e) else none) = some b := h
        rw [if_neg hz] at h'; cases h'
theorem op2_eq {t u r : T} (h : op2 .eq t u = some r) : ∃ b, eqT t u = some b ∧ r = .bl b := by
  have h' : (eqT t u).map T.bl = some r := by cases t <;> cases u <;> exact h
  obtain ⟨b, e, rfl⟩ := Option.map_eq_some_iff.mp h'
  exact ⟨b, e, rfl⟩
theorem op2_ne {t u r : T} (h : op2 .ne t u = some r) : ∃ b, eqT t u = some b ∧ r = .bl (!b) := by
  have h' : (eqT t u).map (fun b => T.bl (!b)) = some r := by cases t <;> cases u <;> exact h
  obtain ⟨b, e, rfl⟩ := Option.map_eq_some_iff.mp h'
  exact ⟨b, e, rfl⟩
theorem or_eq (hu : X.A.units + 64 < cLine) : OpR X (compareOp .Eq) (rT2 X.K .eq) := opr_any fun x y H Q h => by
  obtain ⟨F, t, u, p, q, r, ex, ht, hu2, e, k⟩ := h
  obtain ⟨b, eb, rfl⟩ := op2_eq e
  obtain ⟨d, e2, h1, h2, s1, s2, rfl⟩ := eqT_some eb
  exact ⟨_, op_eqD hu, d, e2, ht.dp ex h1, hu2.dp ex h2, s1, s2, d_bl k ex⟩
theorem or_ne (hu : X.A.units + 64 < cLine) : OpR X (compareOp .NotEq) (rT2 X.K .ne) := opr_any fun x y H Q h => by
  obtain ⟨F, t, u, p, q, r, ex, ht, hu2, e, k⟩ := h
  obtain ⟨b, eb, rfl⟩ := op2_ne e
  obtain ⟨d, e2, h1, h2, s1, s2, rfl⟩ := eqT_some eb
  exact ⟨_, op_neD hu, d, e2, ht.dp ex h1, hu2.dp ex h2, s1, s2, d_bl k ex⟩
/-! ### built-in functions of two arguments, of one -/
def rC2 (K : PySem.W.Frag) (o : O2) : List V → Hp → VK → Prop := fun xs H Q => ∃ x y, xs = [x, y] ∧ rT2 K o x y H Q
def rC1 (K : PySem.W.Frag) (o : O1) : List V → Hp → VK → Prop := fun xs H Q => ∃ x, xs = [x] ∧ rT1 K o x H Q
theorem cr_min2 (hc : X.calm = true) : CallR X (.builtin "min") (rC2 X.K .min2) := callr_any fun xs H Q h => by
  obtain ⟨x, y, rfl, F, t, u, p, q, r, ex, ht, hu, e, k⟩ := h
  cases t <;> cases u <;> first | (cases e; done) | skip
  obtain ⟨rfl, _⟩ := ht.int'; obtain ⟨rfl, _⟩ := hu.int'
  cases e
  exact ⟨_, call_min2 hc, _, _, rfl, d_int k ex⟩
theorem cr_max2 (hc : X.calm = true) : CallR X (.builtin "max") (rC2 X.K .max2) := callr_any fun xs H Q h => by
  obtain ⟨x, y, rfl, F, t, u, p, q, r, ex, ht, hu, e, k⟩ := h
  cases t <;> cases u <;> first | (cases e; done) | skip
  obtain ⟨rfl, _⟩ := ht.int'; obtain ⟨rfl, _⟩ := hu.int'
  cases e
  exact ⟨_, call_max2 hc, _, _, rfl, d_int k ex⟩
theorem cr_gcd2 : CallR X (.builtin "math.gcd") (rC2 X.K .gcd) := callr_any fun xs H Q h => by
  obtain ⟨x, y, rfl, F, t, u, p, q, r, ex, ht, hu, e, k⟩ := h
  cases t <;> cases u <;> first | (cases e; done) | skip
  obtain ⟨rfl, _⟩ := ht.int'; obtain ⟨rfl, _⟩ := hu.int'
  cases e
  exact ⟨_, cr_gcd, _, _, rfl, d_int k ex⟩
theorem ur_neg : UnR X (unaryOp .USub) (rT1 X.K .neg) := unr_any fun x H Q h => by
  obtain ⟨F, t, p, r, ex, ht, e, k⟩ := h
  cases t <;> first | (cases e; done) | skip
  obtain ⟨rfl, _⟩ := ht.int'
  cases e
  exact ⟨_, un_neg, _, rfl, d_int k ex⟩
theorem cr_abs1 : CallR X (.builtin "abs") (rC1 X.K .abs) := callr_any fun xs H Q h => by
  obtain ⟨x, rfl, F, t, p, r, ex, ht, e, k⟩ := h
  cases t <;> first | (cases e; done) | skip
  obtain ⟨rfl, _⟩ := ht.int'
  cases e
  exact ⟨_, call_abs, _, rfl, d_int k ex⟩
theorem cr_int1 : CallR X (.type "int") (rC1 X.K .int) := callr_any fun xs H Q h => by
  obtain ⟨x, rfl, F, t, p, r, ex, ht, e, k⟩ := h
  cases t <;> first | (cases e; done) | skip
  · obtain ⟨rfl, _⟩ := ht.bl'
    cases e
    exact ⟨_, call_int1, .inr ⟨_, rfl, d_int k ex⟩⟩
  · obtain ⟨rfl, _⟩ := ht.int'
    cases e
    exact ⟨_, call_int1, .inl ⟨_, rfl, d_int k ex⟩⟩
theorem cr_len1 : CallR X (.builtin "len") (rC1 X.K .len) := callr_any fun xs H Q h => by
  obtain ⟨x, rfl, F, t, p, r, ex, ht, e, k⟩ := h
  cases t <;> first | (cases e; done) | skip
  · obtain ⟨a, xs, rfl, s1, r1⟩ := ht.seqT ex
    cases e
    exact ⟨_, call_len, _, xs.length, rfl, .inr ⟨xs, s1, rfl⟩, by rw [← r1.length]; exact d_int k ex⟩
  · obtain ⟨a, xs, q, rfl, s1, r1, _⟩ := ht.seqL ex
    cases e
    exact ⟨_, call_len, _, xs.length, rfl, .inl ⟨xs, .inl s1, rfl⟩, by rw [← r1.length]; exact d_int k ex⟩
theorem cr_list1 : CallR X (.type "list") (rC1 X.K .list) := callr_any fun xs H Q h => by
  obtain ⟨x, rfl, F, t, p, r, ex, ht, e, k⟩ := h
  cases t <;> first | (cases e; done) | skip
  · rename_i ts
    obtain ⟨a, xs, rfl, s1, r1⟩ := ht.seqT ex
    have e' : (if isFs ts then some (T.lst true ts) else none) = some r := e
    by_cases f : isFs ts = true
    · rw [if_pos f] at e'; cases e'
      refine ⟨_, call_list_of, _, xs, rfl, .inr s1, fun l nl => ?_⟩
      obtain ⟨a1, a2, a3⟩ := new_lst ex nl r1
      exact k _ _ _ _ a1 a2 (a3.nop_of (r1.of_isFs f))
    · rw [if_neg f] at e'; cases e'
  · rename_i o ts
    obtain ⟨a, xs, q, rfl, s1, r1, _⟩ := ht.seqL ex
    have e' : (if isFs ts then some (T.lst true ts) else none) = some r := e
    by_cases f : isFs ts = true
    · rw [if_pos f] at e'; cases e'
      refine ⟨_, call_list_of, _, xs, rfl, .inl (.inl s1), fun l nl => ?_⟩
      obtain ⟨a1, a2, a3⟩ := new_lst ex nl r1
      exact k _ _ _ _ a1 a2 (a3.nop_of (r1.of_isFs f))
    · rw [if_neg f] at e'; cases e'
end
end Pv

/-! Expressions: what the evaluator says is a reading. -/
namespace Pv
open PySem L2 PyProof.Rows
/-- is the value apart from the slots? -/
def apart (m : Md) (e : E) : Bool := match m with
  | .e => true
  | .o => !over e
  | .t => false
def Kv (K : PySem.W.Frag) (p : FP) (F H : Hp) (σ : L2.St) (d : Bool) (t : T) (sl' : SL) (Q : VK) : Prop := ∀ v F' H' pv p', Ex F' H' → SlR K F' H' sl' σ p' → Rep K F' H' t v pv → (d = true → Dj pv p') → Stp p F H (fun a => pv a ∨ p' a) F' H' → Q v H'
def tev (K : PySem.W.Frag) (P : Pg) (m : Md) (e : E) : TE := fun σ H Q => ∃ F sl p t sl', Ex F H ∧ SlR K F H sl σ p ∧ ev P m e sl = some (t, sl') ∧ Kv K p F H σ (apart m e) t sl' Q
def Kt (K : PySem.W.Frag) (p : FP) (F H : Hp) (σ : L2.St) (b : Bool) (sl' : SL) (Q : Bool → Hp → Prop) : Prop := ∀ F' H' p', Ex F' H' → SlR K F' H' sl' σ p' → Stp p F H p' F' H' → Q b H'
def tevT (K : PySem.W.Frag) (P : Pg) (e : E) : TT := fun σ H Q => ∃ F sl p b sl', Ex F H ∧ SlR K F H sl σ p ∧ ev P .t e sl = some (.bl b, sl') ∧ Kt K p F H σ b sl' Q
structure Sd (X : Cx) (P : Pg) (x : Expr) (e : E) : Prop where
  v : ∀ m, m ≠ .t → PE X x (tev X.K P m e)
  t : PT X x (tevT X.K P e)

section
variable {K : PySem.W.Frag} {F F' H H' : Hp} {σ : L2.St} {sl sl' sl2 : SL} {p p' q r pv : FP} {P : Pg} {m : Md} {t t' : T} {Q : VK} {d : Bool}
theorem fin_some {path : Bool} (hm : m ≠ .t) (h : fin m path t sl = some (t', sl')) : t' = t ∧ sl' = sl ∧ (m = .e → path = true → isF t = true) := by
  cases m with
  | o => cases h; exact ⟨rfl, rfl, fun z => by cases z⟩
  | t => exact absurd rfl hm
  | e =>
    unfold fin at h
    by_cases c : (path && !isF t) = true
    · simp only [c] at h; cases h
    · simp only [c] at h; cases h
      refine ⟨rfl, rfl, fun _ z => ?_⟩
      subst z
      cases e : isF t with
      | true => rfl
      | false => rw [e] at c; exact absurd rfl c
theorem fin_t {path : Bool} (h : fin .t path t sl = some (t', sl')) : ∃ b, tru t = some b ∧ t' = .bl b ∧ sl' = sl := by
  unfold fin at h
  obtain ⟨b, e, h⟩ := Option.map_eq_some_iff.mp h
  cases h
  exact ⟨b, e, rfl, rfl⟩
/-- an operation's end: new objects alone behind the world W' -/
theorem Kv.op (k : Kv K p F H σ d t sl' Q) (S : SlR K F' H' sl' σ p') (st : Stp p F H p' F' H') :
    ∀ v F2 H2 pv, Ex F2 H2 → Rep K F2 H2 t v pv → Stp nop F' H' pv F2 H2 → Q v H2 := fun v F2 H2 pv ex2 R s2 => by
  obtain ⟨a1, a2, a3⟩ := s2.frame S.own (fun _ x => x.elim)
  exact k v F2 H2 pv p' ex2 (S.frame s2.ex a1) R (fun _ => a2) (st.trans (a3.cg fun a => ⟨fun x => x.elim (fun z => z.elim) id, .inr⟩))
theorem Kt.op {b : Bool} {Q : Bool → Hp → Prop} (k : Kt K p F H σ b sl' Q) (S : SlR K F' H' sl' σ p') (st : Stp p F H p' F' H') :
    ∀ v F2 H2 pv, Ex F2 H2 → Rep K F2 H2 (.bl b) v pv → Stp nop F' H' pv F2 H2 → v = .bl b ∧ Q b H2 := fun v F2 H2 pv ex2 R s2 => by
  obtain ⟨a1, a2, a3⟩ := s2.frame S.own (fun _ x => x.elim)
  exact ⟨R.bl'.1, k F2 H2 p' ex2 (S.frame s2.ex a1) ((st.trans (a3.cg fun a => ⟨fun x => x.elim (fun z => z.elim) id, .inr⟩)).sub fun a x => .inr x)⟩
/-- everything frozen for a while, for an atom's sake -/
theorem thaw {F2 H2 : Hp} {q : FP} (own : ∀ a, p a → F a = none ∧ ∃ o, H a = some o) (st : Stp nop (frF F H p) H q F2 H2) (ex2 : Ex F2 H2) : ∃ F3, Ex F3 H2 ∧ Stp nop F H nop F3 H2 := by
  refine ⟨fun a => open Classical in if p a then none else F2 a, fun a o h => ?_, fun a o h => ?_, fun a o h _ => st.keep a o h fun x => x, fun a o h _ => ?_, fun a x => x.elim⟩
  · by_cases z : p a
    · simp only [if_pos z] at h; cases h
    · simp only [if_neg z] at h; exact ex2 a o h
  · by_cases z : p a
    · rw [(own a z).1] at h; cases h
    · simp only [if_neg z]
      exact st.ex a o (by rw [frF_out z]; exact h)
  · by_cases z : p a
    · simp only [if_pos z]
      exact (own a z).1.symm
    · simp only [if_neg z]
      rw [st.grow a o h fun x => x, frF_out z]
theorem SlR.brw (S : SlR K F H sl σ p) : SlR K (frF F H p) H (brw sl) σ nop := by
  obtain ⟨vs, R, l, ag⟩ := S
  have z := R.frz (H' := H) (frF_ex fun a x => (R.own a x).1) fun a x => frF_in x
  have len : ∀ {l : List T}, (frzs l).length = l.length := fun {l} => by
    induction l with
    | nil => rfl
    | cons t l ih => exact congrArg Nat.succ ih
  have get : ∀ {l : List T} {i : Nat} {t : T}, (frzs l)[i]? = some t → ∃ u, l[i]? = some u ∧ t = frz u := fun {l} => by
    induction l with
    | nil => intro i t h; simp [frzs] at h
    | cons u l ih => intro i t h; cases i with
      | zero => exact ⟨u, rfl, by simpa [frzs] using h.symm⟩
      | succ i => exact ih (by simpa [frzs] using h)
  refine ⟨vs, z, by rw [← l]; exact len, fun i t v h1 h2 h3 => ?_⟩
  obtain ⟨u, g, rfl⟩ := get h1
  exact ag i u v g (by cases u <;> first | rfl | exact h2) h3
theorem atom_rep {t : T} {v : V} (h : atom t = true) (R : Rep K F H t v p) : Rep K F' H' t v nop := by
  cases t <;> first | (cases h; done) | skip
  · obtain ⟨rfl, _⟩ := R.non'; exact .non fun _ x => x
  · obtain ⟨rfl, _⟩ := R.bl'; exact .bl fun _ x => x
  · obtain ⟨rfl, _⟩ := R.int'; exact .int fun _ x => x
  · obtain ⟨rfl, _⟩ := R.str'; exact .str fun _ x => x
theorem borrow {b : E} {t2 : T} {slx : SL} {Q : VK} (ex : Ex F H) (S : SlR K F H sl σ p) (e : ev P .o b (brw sl) = some (t2, slx)) (h : atom t2 = true)
    (k : ∀ v F' H', Ex F' H' → Rep K F' H' t2 v nop → Stp nop F H nop F' H' → Q v H') : tev K P .o b σ H Q :=
  ⟨frF F H p, brw sl, nop, t2, slx, frF_sub ex, S.brw, e, fun v F2 H2 pv p2 ex2 S2 R2 d2 st2 => by
    obtain ⟨F3, g1, g2⟩ := thaw S.own st2 ex2
    exact k v F3 H2 g1 (atom_rep h R2) g2⟩
/-- the second operand -/
def sec (P : Pg) (a b : E) (t1 : T) (sl1 : SL) : Option (T × SL) := if over a && !isF t1 then (ev P .o b (brw sl1)).bind fun r2 => if atom r2.1 then some (r2.1, sl1) else none else ev P .o b sl1
theorem two {a b : E} {t1 t2 : T} {sl1 : SL} {G : V → V → Hp → Prop} (ex : Ex F H) (S : SlR K F H sl σ p) (e1 : ev P .o a sl = some (t1, sl1)) (e2 : sec P a b t1 sl1 = some (t2, sl2))
    (k : ∀ v1 v2 F' H' pv1 pv2 p', Ex F' H' → SlR K F' H' sl2 σ p' → Rep K F' H' t1 v1 pv1 → Rep K F' H' t2 v2 pv2 → (over a = false → Dj pv1 p') → Stp p F H (fun a => pv1 a ∨ p' a) F' H' → G v1 v2 H') :
    tev K P .o a σ H fun x H1 => tev K P .o b σ H1 fun y H2 => G x y H2 := by
  refine ⟨F, sl, p, t1, sl1, ex, S, e1, fun v1 F1 H1 pv1 p1 ex1 S1 R1 d1 st1 => ?_⟩
  unfold sec at e2
  by_cases c : (over a && !isF t1) = true
  · rw [if_pos c] at e2
    obtain ⟨⟨t2', slx⟩, e3, e4⟩ := Option.bind_eq_some_iff.mp e2
    by_cases at_ : atom t2' = true
    · have e4' : (if atom t2' = true then some (t2', sl1) else none) = some (t2, sl2) := e4
      rw [if_pos at_] at e4'; cases e4'
      refine borrow ex1 S1 e3 at_ fun v2 F2 H2 ex2 R2 st2 => ?_
      obtain ⟨a1, _, a3⟩ := st2.frame (r := fun a => pv1 a ∨ p1 a) (fun a x => x.elim (R1.own a) (S1.own a)) (fun _ x => x.elim)
      refine k v1 v2 F2 H2 pv1 nop p1 ex2 (S1.frame st2.ex fun a x => a1 a (.inr x)) (R1.frame st2.ex fun a x => a1 a (.inl x)) R2 (fun z => ?_) ?_
      · simp only [Bool.and_eq_true] at c
        rw [z] at c; cases c.1
      · exact (st1.trans (a3.cg fun a => ⟨fun x => x.elim (fun z => z.elim) id, .inr⟩)).sub fun a x => .inr x
    · have e4' : (if atom t2' = true then some (t2', sl1) else none) = some (t2, sl2) := e4
      rw [if_neg at_] at e4'; cases e4'
  · rw [if_neg c] at e2
    have dj : Dj pv1 p1 := by
      by_cases o : over a = true
      · rw [o] at c
        have f : isF t1 = true := by cases z : isF t1 with
          | true => rfl
          | false => rw [z] at c; exact absurd rfl c
        exact fun b x _ => R1.of_isF f b x
      · exact d1 (by simp [apart, o])
    refine ⟨F1, sl1, p1, t2, sl2, ex1, S1, e2, fun v2 F2 H2 pv2 p2 ex2 S2 R2 d2 st2 => ?_⟩
    obtain ⟨a1, a2, a3⟩ := st2.frame (r := pv1) R1.own dj.symm
    refine k v1 v2 F2 H2 pv1 pv2 p2 ex2 S2 (R1.frame st2.ex a1) R2 (fun _ a x y => a2 a (.inr y) x) ?_
    exact (st1.trans (a3.cg fun a => or_comm)).sub fun a x => x.elim .inr fun y => .inl (.inr y)
end

section
variable {X : Cx} {P : Pg} {a b c x y : Expr} {a' b' c' e : E} {pos : Pos}
theorem ev_op2 {m : Md} {o : O2} {sl sl' : SL} {t : T} (h : ev P m (.op2 o a' b') sl = some (t, sl')) : ∃ t1 sl1 t2 sl2 r, ev P .o a' sl = some (t1, sl1) ∧ sec P a' b' t1 sl1 = some (t2, sl2) ∧ op2 o t1 t2 = some r ∧ fin m false r sl2 = some (t, sl') := by
  simp only [ev, Option.bind_eq_some_iff] at h
  obtain ⟨⟨t1, sl1⟩, e1, ⟨t2, sl2⟩, e2, r, e3, e4⟩ := h
  exact ⟨t1, sl1, t2, sl2, r, e1, e2, e3, e4⟩
theorem core2 {m : Md} {o : O2} {σ : L2.St} {H : Hp} {Q : VK} (hm : m ≠ .t) (h : tev X.K P m (.op2 o a' b') σ H Q) : tev X.K P .o a' σ H fun x H1 => tev X.K P .o b' σ H1 fun y H2 => rT2 X.K o x y H2 Q := by
  obtain ⟨F, sl, p, t, sl', ex, S, e, k⟩ := h
  obtain ⟨t1, sl1, t2, sl2, r, e1, e2, e3, e4⟩ := ev_op2 e
  obtain ⟨rfl, rfl, _⟩ := fin_some hm e4
  refine two ex S e1 e2 fun v1 v2 F' H' pv1 pv2 p' ex' S' R1 R2 _ st => ⟨F', t1, t2, pv1, pv2, _, ex', R1, R2, e3, k.op S' (st.sub fun a x => .inr x)⟩
/-- the same as a test, of a result that is a bool -/
theorem core2t {o : O2} {σ : L2.St} {H : Hp} {Q : Bool → Hp → Prop} (hb : ∀ t u r, op2 o t u = some r → ∃ k, r = .bl k) (h : tevT X.K P (.op2 o a' b') σ H Q) :
    tev X.K P .o a' σ H fun x H1 => tev X.K P .o b' σ H1 fun y H2 => rT2 X.K o x y H2 fun z H3 => ∃ k, z = .bl k ∧ Q k H3 := by
  obtain ⟨F, sl, p, bb, sl', ex, S, e, k⟩ := h
  obtain ⟨t1, sl1, t2, sl2, r, e1, e2, e3, e4⟩ := ev_op2 e
  obtain ⟨b2, h1, h2, rfl⟩ := fin_t e4
  cases h2
  obtain ⟨kk, rfl⟩ := hb _ _ _ e3
  cases h1
  refine two ex S e1 e2 fun v1 v2 F' H' pv1 pv2 p' ex' S' R1 R2 _ st => ⟨F', t1, t2, pv1, pv2, _, ex', R1, R2, e3, fun v F2 H2 pv ex2 R s2 => ?_⟩
  obtain ⟨hv, hq⟩ := k.op S' (st.sub fun a x => .inr x) v F2 H2 pv ex2 R s2
  exact ⟨_, hv, hq⟩
/-- a test is its value's truth -/
def Plain (P : Pg) (e : E) : Prop := ∀ sl t sl', ev P .t e sl = some (t, sl') → ∃ t0 b, ev P .o e sl = some (t0, sl') ∧ tru t0 = some b ∧ t = .bl b
theorem pt_plain (h : PE X x (tev X.K P .o e)) (hp : Plain P e) (he : ∀ whole, isTrue x X.env whole = (do let v ← whole; standAt x.pos; holding [v] (truthy v))) : PT X x (tevT X.K P e) :=
  pt_imp (pt_truth h he) fun σ H Q ⟨F, sl, p, b, sl', ex, S, ee, k⟩ => by
    obtain ⟨t0, b0, e1, e2, e3⟩ := hp _ _ _ ee
    cases e3
    refine ⟨F, sl, p, t0, sl', ex, S, e1, fun v F' H' pv p' ex' S' R _ st => ⟨b, truV R ex' e2, k F' H' p' ex' S' (st.sub fun a x => .inr x)⟩⟩
theorem plain_op2 {o : O2} : Plain P (.op2 o a' b') := fun sl t sl' h => by
  obtain ⟨t1, sl1, t2, sl2, r, e1, e2, e3, e4⟩ := ev_op2 h
  obtain ⟨b, h1, h2, rfl⟩ := fin_t e4
  refine ⟨r, b, ?_, h1, h2⟩
  have e2' : (if over a' && !isF t1 then (ev P .o b' (brw sl1)).bind fun r2 => if atom r2.1 then some (r2.1, sl1) else none else ev P .o b' sl1) = some (t2, sl') := e2
  simp only [ev, e1, Option.bind_some, e2', e3, fin]
theorem sd_bin {op : Operator} {o : O2} (ho : OpR X (binaryOp op) (rT2 X.K o)) (ha : Sd X P a a') (hb : Sd X P b b') : Sd X P (.BinOp a op b pos) (.op2 o a' b') :=
  have v : ∀ m, m ≠ .t → PE X (.BinOp a op b pos) (tev X.K P m (.op2 o a' b')) := fun m hm => pe_imp (pe_op ho (ha.v .o (by decide)) (hb.v .o (by decide))) fun σ H Q h => core2 hm h
  ⟨v, pt_plain (v .o (by decide)) plain_op2 fun _ => rfl⟩
theorem sd_cmp {op : CmpOp} {o : O2} (ho : OpR X (compareOp op) (rT2 X.K o)) (ha : Sd X P a a') (hb : Sd X P b b') (hm : behindInMarks op b = false) (hk : ∀ t u r, op2 o t u = some r → ∃ k, r = .bl k) : Sd X P (.Compare a [op] [b] pos) (.op2 o a' b') where
  v := fun m h => pe_imp (pe_cmpR ho (ha.v .o (by decide)) (hb.v .o (by decide)) hm) fun σ H Q q => core2 h q
  t := pt_imp (pt_cmpR ho (ha.v .o (by decide)) (hb.v .o (by decide)) hm) fun σ H Q q => core2t hk q
/-! ### names -/
theorem ev_var_o {i : Nat} {sl sl' : SL} {t : T} (h : ev P .o (.var i) sl = some (t, sl')) : look sl i = some t ∧ sl' = sl := by
  simp only [ev, Option.bind_eq_some_iff] at h
  obtain ⟨u, e, h⟩ := h
  cases h
  exact ⟨e, rfl⟩
theorem sd_var {i : Nat} {n : Str} (hN : X.N[i]? = some n) (hv : Vis X.env.scope n) (hd : (n == ("__debug__" : Str)) = false) (hcd : (n == ("__classdict__" : Str)) = false) : Sd X P (.Name n pos) (.var i) :=
  have v : ∀ m, m ≠ .t → PE X (.Name n pos) (tev X.K P m (.var i)) := fun m hm => pe_imp (pe_var hN hv hd hcd) fun σ H Q ⟨F, sl, p, t, sl', ex, S, e, k⟩ => by
    cases m with
    | t => exact absurd rfl hm
    | o =>
      obtain ⟨e1, rfl⟩ := ev_var_o e
      obtain ⟨v, q, e2, R, sub⟩ := S.peek e1
      exact ⟨v, e2, k v F H q p ex S R (fun z => by cases z) (Stp.refl.sub fun a x => x.elim (sub a) id)⟩
    | e =>
      simp only [ev, Option.bind_eq_some_iff] at e
      obtain ⟨u, e1, e⟩ := e
      cases e
      obtain ⟨v, q, r, e2, R, dj, e3, S2⟩ := S.take e1
      have exF : Ex F (frF F H q) := frF_ex fun a x => (R.own a x).1
      have S3 : SlR X.K (frF F H q) H (sl.set i .hole) σ r := S2.frame exF fun a x => ⟨(frF_out fun z => dj a z x).trans (S2.own a x).1, rfl⟩
      have R2 : Rep X.K (frF F H q) H (frz u) v nop := R.frz exF fun a x => frF_in x
      have S4 := S3.put (t := frz u) (set_hole_put e1) e2 R2 (fun _ x => x.elim)
      rw [List.set_set] at S4
      refine ⟨v, e2, k v (frF F H q) H nop _ (frF_sub ex) S4 R2 (fun _ _ x => x.elim) ⟨exF, fun _ _ h _ => h, fun a o h n => frF_out fun z => n ((e3 a).mpr (.inl z)), fun a x => .inl ((e3 a).mpr (.inr ?_))⟩⟩
      rcases x with x | x | x
      · exact x.elim
      · exact x.elim
      · exact x
  ⟨v, pt_plain (v .o (by decide)) (fun sl t sl' h => by
    simp only [ev, Option.bind_eq_some_iff] at h
    obtain ⟨u, e, h⟩ := h
    obtain ⟨b, e2, h⟩ := Option.map_eq_some_iff.mp h
    cases h
    exact ⟨u, b, by simp only [ev, e, Option.bind_some], e2, rfl⟩) fun _ => rfl⟩
theorem sd_mov {i : Nat} {n : Str} (hN : X.N[i]? = some n) (hv : Vis X.env.scope n) (hd : (n == ("__debug__" : Str)) = false) (hcd : (n == ("__classdict__" : Str)) = false) : Sd X P (.Name n pos) (.mov i) :=
  have v : ∀ m, m ≠ .t → PE X (.Name n pos) (tev X.K P m (.mov i)) := fun m hm => pe_imp (pe_var hN hv hd hcd) fun σ H Q ⟨F, sl, p, t, sl', ex, S, e, k⟩ => by
    simp only [ev, Option.bind_eq_some_iff] at e
    obtain ⟨u, e1, e⟩ := e
    obtain ⟨rfl, rfl, _⟩ := fin_some hm e
    obtain ⟨v, q, r, e2, R, dj, e3, S2⟩ := S.take e1
    exact ⟨v, e2, k v F H q r ex S2 R (fun _ => dj) (Stp.refl.sub fun a x => (e3 a).mpr x)⟩
  ⟨v, pt_plain (v .o (by decide)) (fun sl t sl' h => by
    simp only [ev, Option.bind_eq_some_iff] at h
    obtain ⟨u, e, h⟩ := h
    obtain ⟨b, e2, h2, rfl⟩ := fin_t h
    exact ⟨u, b, by simp only [ev, e, Option.bind_some, fin], e2, h2⟩) fun _ => rfl⟩
/-- a value that stands by itself -/
theorem sd_c {t : T} {v : V} (h : PE X x (tC v)) (R : ∀ F H, Rep X.K F H t v nop) (he : ∀ whole, isTrue x X.env whole = (do let v ← whole; standAt x.pos; holding [v] (truthy v))) (e : E) (hev : ∀ m sl, ev P m e sl = fin m false t sl) : Sd X P x e :=
  have w : ∀ m, m ≠ .t → PE X x (tev X.K P m e) := fun m hm => pe_imp h fun σ H Q ⟨F, sl, p, t', sl', ex, S, e1, k⟩ => by
    rw [hev] at e1
    obtain ⟨rfl, rfl, _⟩ := fin_some hm e1
    exact k v F H nop p ex S (R F H) (fun _ _ x => x.elim) (Stp.refl.sub fun a x => x.elim (fun z => z.elim) id)
  ⟨w, pt_plain (w .o (by decide)) (fun sl t' sl' h => by
    rw [hev] at h
    obtain ⟨b, e2, h2, rfl⟩ := fin_t h
    exact ⟨t, b, by rw [hev]; rfl, e2, h2⟩) he⟩
theorem sd_int {i : Int} {j : Nat} : Sd X P (.Constant (.int i) j pos) (.cst (.int i)) := sd_c pe_int (fun _ _ => .int fun _ x => x) (fun _ => rfl) _ fun m sl => by simp only [ev]
theorem sd_bl {i : Bool} {j : Nat} : Sd X P (.Constant (.bool i) j pos) (.cst (.bl i)) := sd_c pe_bl (fun _ _ => .bl fun _ x => x) (fun _ => rfl) _ fun m sl => by simp only [ev]
theorem sd_str {i : Str} {j : Nat} : Sd X P (.Constant (.str i) j pos) (.cst (.str i)) := sd_c pe_str (fun _ _ => .str fun _ x => x) (fun _ => rfl) _ fun m sl => by simp only [ev]
theorem sd_non {j : Nat} : Sd X P (.Constant .none j pos) (.cst .non) := sd_c pe_non (fun _ _ => .non fun _ x => x) (fun _ => rfl) _ fun m sl => by simp only [ev]
theorem sd_glb {n : Str} {t : T} {v : V} {u : Value} (hg : Gl X n) (hm : X.mg n = some u) (r : RelV v u) (R : ∀ F H, Rep X.K F H t v nop) (hd : (n == ("__debug__" : Str)) = false) : Sd X P (.Name n pos) (.glb n t) :=
  sd_c (pe_glob hg hm r hd) R (fun _ => rfl) _ fun m sl => by simp only [ev]
/-! ### one operand -/
theorem ev_op1 {m : Md} {o : O1} {sl sl' : SL} {t : T} (h : ev P m (.op1 o a') sl = some (t, sl')) : ∃ t1 sl1 r, ev P .o a' sl = some (t1, sl1) ∧ op1 o t1 = some r ∧ fin m false r sl1 = some (t, sl') := by
  simp only [ev, Option.bind_eq_some_iff] at h
  obtain ⟨⟨t1, sl1⟩, e1, r, e3, e4⟩ := h
  exact ⟨t1, sl1, r, e1, e3, e4⟩
theorem core1 {m : Md} {o : O1} {σ : L2.St} {H : Hp} {Q : VK} (hm : m ≠ .t) (h : tev X.K P m (.op1 o a') σ H Q) : tev X.K P .o a' σ H fun x H1 => rT1 X.K o x H1 Q := by
  obtain ⟨F, sl, p, t, sl', ex, S, e, k⟩ := h
  obtain ⟨t1, sl1, r, e1, e3, e4⟩ := ev_op1 e
  obtain ⟨rfl, rfl, _⟩ := fin_some hm e4
  exact ⟨F, sl, p, t1, _, ex, S, e1, fun v1 F1 H1 pv1 p1 ex1 S1 R1 d1 st1 => ⟨F1, t1, pv1, _, ex1, R1, e3, k.op S1 (st1.sub fun a x => .inr x)⟩⟩
theorem core1t {o : O1} {σ : L2.St} {H : Hp} {Q : Bool → Hp → Prop} (hb : ∀ t r, op1 o t = some r → ∃ k, r = .bl k) (h : tevT X.K P (.op1 o a') σ H Q) :
    tev X.K P .o a' σ H fun x H1 => rT1 X.K o x H1 fun z H3 => ∃ k, z = .bl k ∧ Q k H3 := by
  obtain ⟨F, sl, p, bb, sl', ex, S, e, k⟩ := h
  obtain ⟨t1, sl1, r, e1, e3, e4⟩ := ev_op1 e
  obtain ⟨b2, h1, h2, rfl⟩ := fin_t e4
  cases h2
  obtain ⟨kk, rfl⟩ := hb _ _ e3
  cases h1
  refine ⟨F, sl, p, t1, _, ex, S, e1, fun v1 F1 H1 pv1 p1 ex1 S1 R1 d1 st1 => ⟨F1, t1, pv1, _, ex1, R1, e3, fun v F2 H2 pv ex2 R s2 => ?_⟩⟩
  obtain ⟨hv, hq⟩ := k.op S1 (st1.sub fun a x => .inr x) v F2 H2 pv ex2 R s2
  exact ⟨_, hv, hq⟩
theorem plain_op1 {o : O1} : Plain P (.op1 o a') := fun sl t sl' h => by
  obtain ⟨t1, sl1, r, e1, e3, e4⟩ := ev_op1 h
  obtain ⟨b, h1, h2, rfl⟩ := fin_t e4
  exact ⟨r, b, by simp only [ev, e1, Option.bind_some, e3, fin], h1, h2⟩
theorem sd_un {op : UnaryOp} {o : O1} (hn : op ≠ .Not) (ho : UnR X (unaryOp op) (rT1 X.K o)) (ha : Sd X P a a') : Sd X P (.UnaryOp op a pos) (.op1 o a') :=
  have v : ∀ m, m ≠ .t → PE X (.UnaryOp op a pos) (tev X.K P m (.op1 o a')) := fun m hm => pe_imp (pe_un ho (ha.v .o (by decide))) fun σ H Q h => core1 hm h
  ⟨v, pt_plain (v .o (by decide)) plain_op1 fun _ => by cases op <;> first | rfl | exact absurd rfl hn⟩
theorem sd_callB1 {n : Str} {id : String} {o : O1} {p : Pos} (hc : CallR X (.builtin id) (rC1 X.K o)) (hg : Gl X n) (hm : X.mg n = none) (hv : bootBuiltins n = some (.builtin id)) (ha : Sd X P a a') (hn : n ≠ "__name__") (hdb : (n == ("__debug__" : Str)) = false)
    (he : starEach [a] X.env = (false, eval a X.env) :: starEach [] X.env) : Sd X P (.Call (.Name n p) [a] [] pos) (.op1 o a') :=
  have v : ∀ m, m ≠ .t → PE X (.Call (.Name n p) [a] [] pos) (tev X.K P m (.op1 o a')) := fun m hmm => pe_imp (pe_callB hc hg hm hv (pa_cons (ha.v .o (by decide)) pa_nil he) hn hdb he) fun σ H Q h => by
    obtain ⟨F, sl, p, t, sl', ex, S, e, k⟩ := core1 hmm h
    exact ⟨F, sl, p, t, sl', ex, S, e, fun v F' H' pv p' ex' S' R d st => ⟨v, rfl, k v F' H' pv p' ex' S' R d st⟩⟩
  ⟨v, pt_plain (v .o (by decide)) plain_op1 fun _ => rfl⟩
theorem sd_callT1 {n : Str} {id : String} {o : O1} {p : Pos} (hc : CallR X (.type id) (rC1 X.K o)) (hg : Gl X n) (hm : X.mg n = none) (hv : bootBuiltins n = some (.type id)) (ha : Sd X P a a') (hn : n ≠ "__name__") (hdb : (n == ("__debug__" : Str)) = false)
    (he : starEach [a] X.env = (false, eval a X.env) :: starEach [] X.env) : Sd X P (.Call (.Name n p) [a] [] pos) (.op1 o a') :=
  have v : ∀ m, m ≠ .t → PE X (.Call (.Name n p) [a] [] pos) (tev X.K P m (.op1 o a')) := fun m hmm => pe_imp (pe_callTy hc hg hm hv (pa_cons (ha.v .o (by decide)) pa_nil he) hn hdb he) fun σ H Q h => by
    obtain ⟨F, sl, p, t, sl', ex, S, e, k⟩ := core1 hmm h
    exact ⟨F, sl, p, t, sl', ex, S, e, fun v F' H' pv p' ex' S' R d st => ⟨v, rfl, k v F' H' pv p' ex' S' R d st⟩⟩
  ⟨v, pt_plain (v .o (by decide)) plain_op1 fun _ => rfl⟩
end
end Pv

/-! Expressions, on: subscripts, fields, truth, chains, displays, arguments. -/
namespace Pv
open PySem L2 PyProof.Rows
section
variable {K : PySem.W.Frag} {F F' H H' : Hp} {σ : L2.St} {sl sl' sl2 : SL} {p p' q r pv : FP} {P : Pg} {m : Md} {t t' : T} {Q : VK} {d : Bool}
theorem Reps.atI {ts : List T} {xs : List V} {i : Int} {t : T} (h : Reps K F H ts xs p) (g : L2.atI ts i = some t) : ∃ v q, L2.atI xs i = some v ∧ Rep K F H t v q ∧ ∀ a, q a → p a := by
  have l := h.length
  unfold L2.atI at g ⊢
  cases e : ixN ts.length i with
  | none => rw [e] at g; cases g
  | some j =>
    rw [e] at g
    obtain ⟨v, q, e1, R, sub⟩ := h.at_ (i := j) (t := t) g
    exact ⟨v, q, by rw [← l, e]; exact e1, R, sub⟩
end
section
variable {X : Cx} {P : Pg} {a b c x y : Expr} {a' b' c' e : E} {pos : Pos}
theorem ev_idx {m : Md} {sl sl' : SL} {t : T} (h : ev P m (.idx a' b') sl = some (t, sl')) : ∃ t1 sl1 t2 sl2 r, ev P .o a' sl = some (t1, sl1) ∧ sec P a' b' t1 sl1 = some (t2, sl2) ∧ idxT t1 t2 = some r ∧ fin m true r sl2 = some (t, sl') := by
  simp only [ev, Option.bind_eq_some_iff] at h
  obtain ⟨⟨t1, sl1⟩, e1, ⟨t2, sl2⟩, e2, r, e3, e4⟩ := h
  exact ⟨t1, sl1, t2, sl2, r, e1, e2, e3, e4⟩
theorem plain_idx : Plain P (.idx a' b') := fun sl t sl' h => by
  obtain ⟨t1, sl1, t2, sl2, r, e1, e2, e3, e4⟩ := ev_idx h
  obtain ⟨b, h1, h2, rfl⟩ := fin_t e4
  refine ⟨r, b, ?_, h1, h2⟩
  have e2' : (if over a' && !isF t1 then (ev P .o b' (brw sl1)).bind fun r2 => if atom r2.1 then some (r2.1, sl1) else none else ev P .o b' sl1) = some (t2, sl') := e2
  simp only [ev, e1, Option.bind_some, e2', e3, fin]
theorem sd_idx (ha : Sd X P a a') (hb : Sd X P b b') (hs : PlainIx b) : Sd X P (.Subscript a b pos) (.idx a' b') :=
  have v : ∀ m, m ≠ .t → PE X (.Subscript a b pos) (tev X.K P m (.idx a' b')) := fun m hm => pe_any fun σ H Q ⟨F, sl, p, t, sl', ex, S, e, k⟩ => by
    obtain ⟨t1, sl1, t2, sl2, r, e1, e2, e3, e4⟩ := ev_idx e
    obtain ⟨rfl, rfl, hf⟩ := fin_some hm e4
    have fin_ : ∀ {F' H' : Hp} {pv1 p' q : FP} {v : V}, Ex F' H' → SlR X.K F' H' sl' σ p' → Rep X.K F' H' t v q → (∀ a, q a → pv1 a) → (over a' = false → Dj pv1 p') → Stp p F H (fun a => pv1 a ∨ p' a) F' H' → Q v H' := fun {F' H' pv1 p' q v} ex' S' R sub dj st => by
      refine k v F' H' q p' ex' S' R (fun z => ?_) (st.sub fun a x => x.imp (sub a) id)
      cases m with
      | t => exact absurd rfl hm
      | e => exact fun a x _ => R.of_isF (hf rfl rfl) a x
      | o => exact fun a x y => dj (by simpa [apart, over] using z) a (sub a x) y
    cases t1 with
    | lst o ts =>
      refine ⟨_, pe_ix ix_list (ha.v .o (by decide)) (hb.v .o (by decide)) hs, two ex S e1 e2 fun v1 v2 F' H' pv1 pv2 p' ex' S' R1 R2 dj st => ?_⟩
      cases t2 <;> first | (cases e3; done) | skip
      obtain ⟨rfl, _⟩ := R2.int'
      obtain ⟨a, xs, q, rfl, s1, r1, sub, _⟩ := R1.seqL ex'
      obtain ⟨v, q2, g, R, sub2⟩ := r1.atI e3
      exact ⟨a, xs, _, v, rfl, rfl, .inl s1, g, fin_ ex' S' R (fun a x => sub a (sub2 a x)) dj st⟩
    | tup ts =>
      refine ⟨_, pe_ix ix_tup (ha.v .o (by decide)) (hb.v .o (by decide)) hs, two ex S e1 e2 fun v1 v2 F' H' pv1 pv2 p' ex' S' R1 R2 dj st => ?_⟩
      cases t2 <;> first | (cases e3; done) | skip
      obtain ⟨rfl, _⟩ := R2.int'
      obtain ⟨a, xs, rfl, s1, r1⟩ := R1.seqT ex'
      obtain ⟨v, q2, g, R, sub2⟩ := r1.atI e3
      exact ⟨a, xs, _, v, rfl, rfl, s1, g, fin_ ex' S' R sub2 dj st⟩
    | _ => cases e3
  ⟨v, pt_plain (v .o (by decide)) plain_idx fun _ => rfl⟩
/-! ### fields -/
theorem lookup_idx {f : Str} : ∀ {fs : List (Str × V)} {i : Nat} {v : V}, (fs.map (·.1)).idxOf? f = some i → (fs.map (·.2))[i]? = some v → fs.lookup f = some v
  | [], i, v, h, _ => by simp at h
  | (g, w) :: fs, i, v, h, hv => by
    simp only [List.map_cons, List.idxOf?_cons] at h
    rw [List.lookup_cons]
    by_cases c : g == f
    · have c2 : (f == g) = true := by rw [beq_iff_eq] at c ⊢; exact c.symm
      rw [if_pos c] at h
      cases h
      rw [c2]
      simpa using hv
    · have c2 : (f == g) = false := by
        cases z : f == g with
        | false => rfl
        | true => exact absurd (by rw [beq_iff_eq] at z ⊢; exact z.symm) c
      rw [if_neg c] at h
      obtain ⟨j, e, rfl⟩ := Option.map_eq_some_iff.mp h
      rw [c2]
      exact lookup_idx e (by simpa using hv)
theorem lookup_none {f : Str} : ∀ {fs : List (Str × V)}, (fs.map (·.1)).contains f = false → fs.lookup f = none
  | [], _ => rfl
  | (g, w) :: fs, h => by
    simp only [List.map_cons, List.contains_cons, Bool.or_eq_false_iff] at h
    rw [List.lookup_cons, h.1]
    exact lookup_none h.2
theorem Rep.insI {K : PySem.W.Frag} {F H : Hp} {p : FP} {o : Bool} {c : Str} {ns : List Str} {ts : List T} {v : V} (h : Rep K F H (.ins o c ns ts) v p) (ex : Ex F H) :
    ∃ a dx fs q, v = .ref a ∧ H a = some (.ins (He.ga K c) dx fs) ∧ fs.map (·.1) = ns ∧ Reps K F H ts (fs.map (·.2)) q ∧ (∀ b, q b → p b) ∧ (o = true → p a ∧ F a = none ∧ ¬ q a ∧ ∀ b, p b ↔ b = a ∨ q b) := by
  cases h with
  | insF h w r => exact ⟨_, _, _, _, rfl, ex _ _ h, w, r, fun _ x => x, fun z => by cases z⟩
  | insO n h w r d e => exact ⟨_, _, _, _, rfl, h, w, r, fun b x => (e b).mpr (.inr x), fun _ => ⟨(e _).mpr (.inl rfl), n, d, e⟩⟩
/-- what is known of the program's classes -/
structure ClsOk (K : PySem.W.Frag) (P : Pg) : Prop where
  fd : ∀ c f, P.fd c f = true → Cls K (He.ga K c) ∧ NoAttr K (He.ga K c) f
theorem ev_fld {m : Md} {sl sl' : SL} {t : T} {f : Str} (h : ev P m (.fld a' f) sl = some (t, sl')) : ∃ t1 sl1 r, ev P .o a' sl = some (t1, sl1) ∧ child P t1 f = some r ∧ fin m true r sl1 = some (t, sl') := by
  simp only [ev, Option.bind_eq_some_iff] at h
  obtain ⟨⟨t1, sl1⟩, e1, r, e3, e4⟩ := h
  exact ⟨t1, sl1, r, e1, e3, e4⟩
theorem plain_fld {f : Str} : Plain P (.fld a' f) := fun sl t sl' h => by
  obtain ⟨t1, sl1, r, e1, e3, e4⟩ := ev_fld h
  obtain ⟨b, h1, h2, rfl⟩ := fin_t e4
  exact ⟨r, b, by simp only [ev, e1, Option.bind_some, e3, fin], h1, h2⟩
theorem child_some {t r : T} {f : Str} (h : child P t f = some r) : ∃ o c ns ts i, t = .ins o c ns ts ∧ P.fd c f = true ∧ ns.idxOf? f = some i ∧ ts[i]? = some r := by
  cases t <;> first | (cases h; done) | skip
  rename_i o c ns ts
  have h' : (if P.fd c f then (ns.idxOf? f).bind fun i => ts[i]? else none) = some r := h
  by_cases hf : P.fd c f = true
  · rw [if_pos hf] at h'
    obtain ⟨i, e1, e2⟩ := Option.bind_eq_some_iff.mp h'
    exact ⟨o, c, ns, ts, i, rfl, hf, e1, e2⟩
  · rw [if_neg hf] at h'; cases h'
theorem sd_fld {f : Str} (C : ClsOk X.K P) (ha : Sd X P a a') (hb : attributeBase a f X.env (eval a X.env) = eval a X.env) : Sd X P (.Attribute a f pos) (.fld a' f) :=
  have v : ∀ m, m ≠ .t → PE X (.Attribute a f pos) (tev X.K P m (.fld a' f)) := fun m hm => pe_imp (pe_fld (ha.v .o (by decide)) hb) fun σ H Q ⟨F, sl, p, t, sl', ex, S, e, k⟩ => by
    obtain ⟨t1, sl1, r, e1, e3, e4⟩ := ev_fld e
    obtain ⟨rfl, rfl, hf⟩ := fin_some hm e4
    obtain ⟨o, c, ns, ts, i, rfl, h1, h2, h3⟩ := child_some e3
    obtain ⟨c1, c2⟩ := C.fd c f h1
    refine ⟨F, sl, p, _, _, ex, S, e1, fun v1 F1 H1 pv1 p1 ex1 S1 R1 d1 st1 => ?_⟩
    obtain ⟨a0, dx, fs, q, rfl, g1, rfl, g3, sub, _⟩ := R1.insI ex1
    obtain ⟨v, q2, g4, R, sub2⟩ := g3.at_ h3
    refine ⟨a0, _, dx, fs, v, rfl, g1, c1, c2, lookup_idx h2 g4, k v F1 H1 q2 p1 ex1 S1 R (fun z => ?_) (st1.sub fun a x => x.imp (fun y => sub a (sub2 a y)) id)⟩
    cases m with
    | t => exact absurd rfl hm
    | e => exact fun a x _ => R.of_isF (hf rfl rfl) a x
    | o => exact fun a x y => d1 (by simpa [apart, over] using z) a (sub a (sub2 a x)) y
  ⟨v, pt_plain (v .o (by decide)) plain_fld fun _ => rfl⟩
/-! ### truth -/
theorem sd_nt (ha : Sd X P a a') : Sd X P (.UnaryOp .Not a pos) (.nt a') where
  v := fun m hm => pe_imp (pe_notT (ha.v .o (by decide))) fun σ H Q ⟨F, sl, p, t, sl', ex, S, e, k⟩ => by
    have e' : (ev P .o a' sl).bind (fun r => (tru r.1).bind fun b => some (T.bl (!b), r.2)) = some (t, sl') := by
      cases m with
      | t => exact absurd rfl hm
      | o => simpa only [ev] using e
      | e => simpa only [ev] using e
    obtain ⟨⟨t1, sl1⟩, e1, e2⟩ := Option.bind_eq_some_iff.mp e'
    obtain ⟨b, e3, e4⟩ := Option.bind_eq_some_iff.mp e2
    cases e4
    exact ⟨F, sl, p, t1, _, ex, S, e1, fun v1 F1 H1 pv1 p1 ex1 S1 R1 d1 st1 => ⟨b, truV R1 ex1 e3, k _ F1 H1 nop p1 ex1 S1 (.bl fun _ x => x) (fun _ _ x => x.elim) (st1.sub fun a x => x.elim (fun z => z.elim) .inr)⟩⟩
  t := pt_imp (pt_not ha.t) fun σ H Q ⟨F, sl, p, b, sl', ex, S, e, k⟩ => by
    simp only [ev, Option.bind_eq_some_iff] at e
    obtain ⟨⟨t1, sl1⟩, e1, e2⟩ := e
    cases t1 <;> first | (cases e2; done) | skip
    cases e2
    exact ⟨F, sl, p, _, _, ex, S, e1, fun F1 H1 p1 ex1 S1 st1 => k F1 H1 p1 ex1 S1 st1⟩
theorem Kv.both {K : PySem.W.Frag} {F F' H H' : Hp} {σ : L2.St} {sl' : SL} {p p' : FP} {t : T} {Q : VK} {d d' : Bool} (k : Kv K p F H σ d t sl' Q) (st : Stp p F H p' F' H') (hd : d = true → d' = true) : Kv K p' F' H' σ d' t sl' Q :=
  fun v F2 H2 pv p2 ex2 S2 R2 d2 st2 => k v F2 H2 pv p2 ex2 S2 R2 (fun z => d2 (hd z)) (st.trans st2)
theorem Kt.both {K : PySem.W.Frag} {F F' H H' : Hp} {σ : L2.St} {sl' : SL} {p p' : FP} {b : Bool} {Q : Bool → Hp → Prop} (k : Kt K p F H σ b sl' Q) (st : Stp p F H p' F' H') : Kt K p' F' H' σ b sl' Q :=
  fun F2 H2 p2 ex2 S2 st2 => k F2 H2 p2 ex2 S2 (st.trans st2)
/-- and, or: a row of expressions -/
structure SdB (X : Cx) (P : Pg) (op : BoolOp) (xs : List Expr) (pos : Pos) (e : E) : Prop where
  v : PE X (.BoolOp op xs pos) (tev X.K P .e e)
  t : PW X (.BoolOp op xs pos) (tevT X.K P e)
theorem pw_imp {e : Expr} {t t' : TT} (h1 : PW X e t) (h : ∀ σ H Q, t' σ H Q → t σ H Q) : PW X e t' := ⟨fun wh pins s σ H Q I w => h1.run wh pins s σ H Q I (h σ H Q w)⟩
theorem sdb_one {op : BoolOp} (ha : Sd X P a a') : SdB X P op [a] pos a' := ⟨pe_one (ha.v .e (by decide)), by cases op <;> first | exact pw_and1 ha.t | exact pw_or1 ha.t⟩
theorem sdb_and {rest : List Expr} (ha : Sd X P a a') (hb : SdB X P .And (b :: rest) pos b') : SdB X P .And (a :: b :: rest) pos (.an a' b') where
  v := pe_imp (pe_andT (ha.v .e (by decide)) hb.v) fun σ H Q ⟨F, sl, p, t, sl', ex, S, e, k⟩ => by
    simp only [ev, Option.bind_eq_some_iff] at e
    obtain ⟨⟨t1, sl1⟩, e1, b, e2, e3⟩ := e
    refine ⟨F, sl, p, t1, sl1, ex, S, e1, fun v1 F1 H1 pv1 p1 ex1 S1 R1 d1 st1 => ⟨b, truV R1 ex1 e2, ?_⟩⟩
    cases b with
    | true =>
      rw [if_pos rfl] at e3 ⊢
      exact ⟨F1, sl1, p1, t, sl', ex1, S1, e3, k.both (st1.sub fun a x => .inr x) fun _ => rfl⟩
    | false =>
      rw [if_neg (by decide)] at e3 ⊢
      cases e3
      exact k v1 F1 H1 pv1 p1 ex1 S1 R1 (fun _ => d1 rfl) st1
  t := pw_imp (pw_and ha.t hb.t) fun σ H Q ⟨F, sl, p, b, sl', ex, S, e, k⟩ => by
    simp only [ev, Option.bind_eq_some_iff] at e
    obtain ⟨⟨t1, sl1⟩, e1, e3⟩ := e
    cases t1 <;> first | (cases e3; done) | skip
    rename_i b1
    refine ⟨F, sl, p, b1, sl1, ex, S, e1, fun F1 H1 p1 ex1 S1 st1 => ?_⟩
    cases b1 with
    | true =>
      rw [if_pos rfl]
      exact ⟨F1, sl1, p1, b, sl', ex1, S1, e3, k.both st1⟩
    | false =>
      rw [if_neg (by decide)]
      cases e3
      exact k F1 H1 p1 ex1 S1 st1
theorem sdb_or {rest : List Expr} (ha : Sd X P a a') (hb : SdB X P .Or (b :: rest) pos b') : SdB X P .Or (a :: b :: rest) pos (.orr a' b') where
  v := pe_imp (pe_orT (ha.v .e (by decide)) hb.v) fun σ H Q ⟨F, sl, p, t, sl', ex, S, e, k⟩ => by
    simp only [ev, Option.bind_eq_some_iff] at e
    obtain ⟨⟨t1, sl1⟩, e1, b, e2, e3⟩ := e
    refine ⟨F, sl, p, t1, sl1, ex, S, e1, fun v1 F1 H1 pv1 p1 ex1 S1 R1 d1 st1 => ⟨b, truV R1 ex1 e2, ?_⟩⟩
    cases b with
    | false =>
      rw [if_neg (by decide)] at e3 ⊢
      exact ⟨F1, sl1, p1, t, sl', ex1, S1, e3, k.both (st1.sub fun a x => .inr x) fun _ => rfl⟩
    | true =>
      rw [if_pos rfl] at e3 ⊢
      cases e3
      exact k v1 F1 H1 pv1 p1 ex1 S1 R1 (fun _ => d1 rfl) st1
  t := pw_imp (pw_or ha.t hb.t) fun σ H Q ⟨F, sl, p, b, sl', ex, S, e, k⟩ => by
    simp only [ev, Option.bind_eq_some_iff] at e
    obtain ⟨⟨t1, sl1⟩, e1, e3⟩ := e
    cases t1 <;> first | (cases e3; done) | skip
    rename_i b1
    refine ⟨F, sl, p, b1, sl1, ex, S, e1, fun F1 H1 p1 ex1 S1 st1 => ?_⟩
    cases b1 with
    | false =>
      rw [if_neg (by decide)]
      exact ⟨F1, sl1, p1, b, sl', ex1, S1, e3, k.both st1⟩
    | true =>
      rw [if_pos rfl]
      cases e3
      exact k F1 H1 p1 ex1 S1 st1
theorem sd_and {xs : List Expr} (h : SdB X P .And xs pos (.an a' b')) : Sd X P (.BoolOp .And xs pos) (.an a' b') where
  v := fun m hm => by
    cases m with
    | t => exact absurd rfl hm
    | e => exact h.v
    | o =>
      refine pe_imp h.v fun σ H Q ⟨F, sl, p, t, sl', ex, S, e, k⟩ => ⟨F, sl, p, t, sl', ex, S, ?_, k⟩
      simp only [ev] at e ⊢
      exact e
  t := h.t.pt
theorem sd_or {xs : List Expr} (h : SdB X P .Or xs pos (.orr a' b')) : Sd X P (.BoolOp .Or xs pos) (.orr a' b') where
  v := fun m hm => by
    cases m with
    | t => exact absurd rfl hm
    | e => exact h.v
    | o =>
      refine pe_imp h.v fun σ H Q ⟨F, sl, p, t, sl', ex, S, e, k⟩ => ⟨F, sl, p, t, sl', ex, S, ?_, k⟩
      simp only [ev] at e ⊢
      exact e
  t := h.t.pt
theorem pt_none {x : Expr} {e : E} (h : ∀ sl, ev P .t e sl = none) : PT X x (tevT X.K P e) := ⟨fun pins s σ H Q I ⟨F, sl, p, b, sl', ex, S, ee, k⟩ => by rw [h] at ee; cases ee⟩
theorem sd_ite (hc : Sd X P c c') (ha : Sd X P a a') (hb : Sd X P b b') : Sd X P (.IfExp c a b pos) (.ite c' a' b') where
  v := fun m hm => pe_imp (pe_ifExp hc.t (ha.v .e (by decide)) (hb.v .e (by decide))) fun σ H Q ⟨F, sl, p, t, sl', ex, S, e, k⟩ => by
    have e' : ∃ b1 sl1, ev P .t c' sl = some (.bl b1, sl1) ∧ (if b1 = true then ev P .e a' sl1 else ev P .e b' sl1) = some (t, sl') := by
      cases m with
      | t => exact absurd rfl hm
      | o =>
        simp only [ev, Option.bind_eq_some_iff] at e
        obtain ⟨⟨t1, sl1⟩, e1, e2⟩ := e
        cases t1 <;> first | (cases e2; done) | skip
        rename_i b1
        exact ⟨b1, sl1, e1, by cases b1 <;> exact e2⟩
      | e =>
        simp only [ev, Option.bind_eq_some_iff] at e
        obtain ⟨⟨t1, sl1⟩, e1, e2⟩ := e
        cases t1 <;> first | (cases e2; done) | skip
        rename_i b1
        exact ⟨b1, sl1, e1, by cases b1 <;> exact e2⟩
    obtain ⟨b1, sl1, e1, e2⟩ := e'
    have hd2 : apart m (.ite c' a' b') = true := by cases m <;> first | rfl | exact absurd rfl hm
    refine ⟨F, sl, p, b1, sl1, ex, S, e1, fun F1 H1 p1 ex1 S1 st1 => ?_⟩
    cases b1 with
    | true =>
      rw [if_pos rfl] at e2 ⊢
      exact ⟨F1, sl1, p1, t, sl', ex1, S1, e2, k.both st1 fun _ => rfl⟩
    | false =>
      rw [if_neg (by decide)] at e2 ⊢
      exact ⟨F1, sl1, p1, t, sl', ex1, S1, e2, k.both st1 fun _ => rfl⟩
  t := pt_none fun sl => by simp only [ev]
/-! ### chains of comparisons -/
/-- a chain, the value to its left given: as a value, as a test -/
structure SdC (X : Cx) (P : Pg) (pos : Pos) (ops : List CmpOp) (xs : List Expr) (c : Ch) : Prop where
  v : ∀ (pins : List (Addr × Obj)) (s : Shared) (σ : L2.St) (H : Hp) (Q : VK) (x : V) (u : Value) (F : Hp) (t : T) (pt : FP) (sl : SL) (p : FP) (b : Bool) (sl' : SL), Inv X pins σ H s → RelV x u → Ex F H → Rep X.K F H t x pt → SlR X.K F H sl σ p → Dj pt p → evC P t c sl = some (.bl b, sl') →
    (∀ F' H' p', Ex F' H' → SlR X.K F' H' sl' σ p' → Stp p F H p' F' H' → Q (.bl b) H') →
    wpAny (model X.prog X.w) X.A (compareChain pos u ops (evalEach xs X.env)) (EP X pins σ Q) X.xe s
  t : ∀ (pins : List (Addr × Obj)) (s : Shared) (σ : L2.St) (H : Hp) (Q : Bool → Hp → Prop) (x : V) (u : Value) (F : Hp) (t : T) (pt : FP) (sl : SL) (p : FP) (b : Bool) (sl' : SL), Inv X pins σ H s → RelV x u → Ex F H → Rep X.K F H t x pt → SlR X.K F H sl σ p → Dj pt p → evC P t c sl = some (.bl b, sl') →
    (∀ F' H' p', Ex F' H' → SlR X.K F' H' sl' σ p' → Stp p F H p' F' H' → Q b H') →
    wpAny (model X.prog X.w) X.A (testChain pos u ops (evalEach xs X.env)) (TP X pins σ Q) X.xe s
/-- one comparison of the chain: the right side is reckoned, then the operation -/
theorem link {o : O2} {op : CmpOp} {pins : List (Addr × Obj)} {s : Shared} {σ : L2.St} {F H : Hp} {x : V} {u : Value} {t t2 r : T} {pt p : FP} {sl sl2 : SL} {G : Value → V → Value → Shared → Prop} (ho : OpR X (compareOp op) (rT2 X.K o)) (hb : Sd X P b b')
    (I : Inv X pins σ H s) (rx : RelV x u) (ex : Ex F H) (R : Rep X.K F H t x pt) (S : SlR X.K F H sl σ p) (dj : Dj pt p) (e1 : ev P .e b' sl = some (t2, sl2)) (e2 : op2 o t t2 = some r)
    (k : ∀ (w : Value) (z y : V) (v : Value) (s3 : Shared) (F3 H3 : Hp) (pv pz p3 : FP), Inv X pins σ H3 s3 → RelV y v → RelV z w → Ex F3 H3 → SlR X.K F3 H3 sl2 σ p3 → Rep X.K F3 H3 t2 y pv → Rep X.K F3 H3 r z pz → Dj pv p3 → Stp p F H p3 F3 H3 → G v z w s3) :
    wpAny (model X.prog X.w) X.A (eval b X.env) (fun v s₁ => wpAny (model X.prog X.w) X.A (compareOp op u v) (fun w s₂ => ∃ z, G v z w s₂) X.xe s₁) X.xe s := by
  refine thn ((hb.v .e (by decide)).run pins s σ H (fun y H2 => ∃ F2 p2 pv, Ex F2 H2 ∧ SlR X.K F2 H2 sl2 σ p2 ∧ Rep X.K F2 H2 t2 y pv ∧ Dj pv p2 ∧ Rep X.K F2 H2 t x pt ∧ Stp p F H p2 F2 H2) I ⟨F, sl, p, t2, sl2, ex, S, e1, fun v F' H' pv p' ex' S' R' d' st => ?_⟩) fun v s2 ⟨y, H2, I2, ry, F2, p2, pv, ex2, S2, R2, dj2, Rx, st2⟩ => ?_
  · obtain ⟨a1, a2, a3⟩ := st.frame R.own dj.symm
    exact ⟨F', p', pv, ex', S', R', d' rfl, R.frame st.ex a1, st.sub fun a x => .inr x⟩
  · refine thn (ho pins s2 σ H2 x y u v (fun z H3 => ∃ F3 pz, Ex F3 H3 ∧ SlR X.K F3 H3 sl2 σ p2 ∧ Rep X.K F3 H3 t2 y pv ∧ Rep X.K F3 H3 r z pz ∧ Stp p F H p2 F3 H3) I2 rx ry ⟨F2, t, t2, pt, pv, r, ex2, Rx, R2, e2, fun z F3 H3 pz ex3 Rz st3 => ?_⟩) fun w s3 ⟨z, H3, I3, rz, F3, pz, ex3, S3, R3, Rz, st3⟩ => ⟨z, k w z y v s3 F3 H3 pv pz p2 I3 ry rz ex3 S3 R3 Rz dj2 st3⟩
    obtain ⟨a1, a2, a3⟩ := st3.frame (r := fun a => pv a ∨ p2 a) (fun a x => x.elim (R2.own a) (S2.own a)) (fun _ x => x.elim)
    refine ⟨F3, pz, ex3, S2.frame st3.ex fun a x => a1 a (.inr x), R2.frame st3.ex fun a x => a1 a (.inl x), Rz, ?_⟩
    obtain ⟨b1, b2, b3⟩ := st3.frame S2.own (fun _ x => x.elim)
    exact (st2.trans (b3.cg fun a => ⟨fun x => x.elim (fun z => z.elim) id, .inr⟩)).sub fun a x => .inr x
theorem sdc_last {o : O2} {op : CmpOp} (ho : OpR X (compareOp op) (rT2 X.K o)) (hb : Sd X P b b') : SdC X P pos [op] [b] (.last o b') where
  v := fun pins s σ H Q x u F t pt sl p bb sl' I rx ex R S dj e k => by
    simp only [evC, Option.bind_eq_some_iff] at e
    obtain ⟨⟨t2, sl2⟩, e1, r, e2, e3⟩ := e
    cases e3
    refine chain_last (thn (link ho hb I rx ex R S dj e1 e2 (G := fun _ z w s3 => EP X pins σ Q w s3) ?_) fun v s1 h => thn h fun w s2 ⟨_, h⟩ => h)
    exact fun w z y v s3 F3 H3 pv pz p3 I3 ry rz ex3 S3 R3 Rz dj3 st3 => by
      obtain ⟨rfl, _⟩ := Rz.bl'
      exact ⟨_, H3, I3, rz, k F3 H3 p3 ex3 S3 st3⟩
  t := fun pins s σ H Q x u F t pt sl p bb sl' I rx ex R S dj e k => by
    simp only [evC, Option.bind_eq_some_iff] at e
    obtain ⟨⟨t2, sl2⟩, e1, r, e2, e3⟩ := e
    cases e3
    refine test_last (thn (link ho hb I rx ex R S dj e1 e2 (G := fun _ z w s3 => wpAny (model X.prog X.w) X.A (truthy w) (TP X pins σ Q) X.xe s3) ?_) fun v s1 h => thn h fun w s2 ⟨_, h⟩ => h)
    exact fun w z y v s3 F3 H3 pv pz p3 I3 ry rz ex3 S3 R3 Rz dj3 st3 => by
      obtain ⟨rfl, _⟩ := Rz.bl'
      cases rz
      exact wpAny_truthy_bool ⟨H3, I3, k F3 H3 p3 ex3 S3 st3⟩
theorem sdc_more {o : O2} {op op' : CmpOp} {ops : List CmpOp} {xs : List Expr} {ch : Ch} (ho : OpR X (compareOp op) (rT2 X.K o)) (hb : Sd X P b b') (hc : SdC X P pos (op' :: ops) (c :: xs) ch) : SdC X P pos (op :: op' :: ops) (b :: c :: xs) (.more o b' ch) where
  v := fun pins s σ H Q x u F t pt sl p bb sl' I rx ex R S dj e k => by
    simp only [evC, Option.bind_eq_some_iff] at e
    obtain ⟨⟨t2, sl2⟩, e1, r, e2, e3⟩ := e
    cases r <;> first | (cases e3; done) | skip
    rename_i b1
    refine chain_link (thn (link ho hb I rx ex R S dj e1 e2 (G := fun v z w s3 => wpAny (model X.prog X.w) X.A (truthy w) (fun t s4 => if t then wpAny (model X.prog X.w) X.A (compareChain pos v (op' :: ops) (evalEach (c :: xs) X.env)) (EP X pins σ Q) X.xe s4 else EP X pins σ Q w s4) X.xe s3) ?_) fun v s1 h => thn h fun w s2 ⟨_, h⟩ => h)
    intro w z y v s3 F3 H3 pv pz p3 I3 ry rz ex3 S3 R3 Rz dj3 st3
    obtain ⟨rfl, _⟩ := Rz.bl'
    cases rz
    refine wpAny_truthy_bool ?_
    cases b1 with
    | true => exact hc.v pins s3 σ H3 Q y v F3 t2 pv sl2 p3 bb sl' I3 ry ex3 R3 S3 dj3 e3 fun F' H' p' ex' S' st' => k F' H' p' ex' S' (st3.trans st')
    | false =>
      cases e3
      exact ⟨.bl false, H3, I3, rfl, k F3 H3 p3 ex3 S3 st3⟩
  t := fun pins s σ H Q x u F t pt sl p bb sl' I rx ex R S dj e k => by
    simp only [evC, Option.bind_eq_some_iff] at e
    obtain ⟨⟨t2, sl2⟩, e1, r, e2, e3⟩ := e
    cases r <;> first | (cases e3; done) | skip
    rename_i b1
    refine test_link (thn (link ho hb I rx ex R S dj e1 e2 (G := fun v z w s3 => wpAny (model X.prog X.w) X.A (truthy w) (fun t s4 => if t then wpAny (model X.prog X.w) X.A (testChain pos v (op' :: ops) (evalEach (c :: xs) X.env)) (TP X pins σ Q) X.xe s4 else TP X pins σ Q false s4) X.xe s3) ?_) fun v s1 h => thn h fun w s2 ⟨_, h⟩ => h)
    intro w z y v s3 F3 H3 pv pz p3 I3 ry rz ex3 S3 R3 Rz dj3 st3
    obtain ⟨rfl, _⟩ := Rz.bl'
    cases rz
    refine wpAny_truthy_bool ?_
    cases b1 with
    | true => exact hc.t pins s3 σ H3 Q y v F3 t2 pv sl2 p3 bb sl' I3 ry ex3 R3 S3 dj3 e3 fun F' H' p' ex' S' st' => k F' H' p' ex' S' (st3.trans st')
    | false =>
      cases e3
      exact ⟨H3, I3, k F3 H3 p3 ex3 S3 st3⟩
theorem sd_chn {op1 op2 : CmpOp} {ops : List CmpOp} {xs : List Expr} {ch : Ch} (ha : Sd X P a a') (hc : SdC X P pos (op1 :: op2 :: ops) (b :: c :: xs) ch) (hm : lastMarks (op1 :: op2 :: ops) (b :: c :: xs) = false) : Sd X P (.Compare a (op1 :: op2 :: ops) (b :: c :: xs) pos) (.chn a' ch) where
  v := fun m hmm => ⟨fun pins s σ H Q I ⟨F, sl, p, t, sl', ex, S, e, k⟩ => by
    simp only [ev, Option.bind_eq_some_iff] at e
    obtain ⟨⟨t1, sl1⟩, e1, ⟨t2, sl2⟩, e2, e3⟩ := e
    cases t2 <;> first | (cases e3; done) | skip
    cases e3
    refine Compare_chain (thn ((ha.v .e (by decide)).run pins s σ H (fun y H2 => ∃ F2 p2 pv, Ex F2 H2 ∧ SlR X.K F2 H2 sl1 σ p2 ∧ Rep X.K F2 H2 t1 y pv ∧ Dj pv p2 ∧ Stp p F H p2 F2 H2) I ⟨F, sl, p, t1, sl1, ex, S, e1, fun v F' H' pv p' ex' S' R' d' st => ⟨F', p', pv, ex', S', R', d' rfl, st.sub fun a x => .inr x⟩⟩) fun v s2 ⟨y, H2, I2, ry, F2, p2, pv, ex2, S2, R2, dj2, st2⟩ => ?_) hm
    exact hc.v pins s2 σ H2 Q y v F2 t1 pv sl1 p2 _ _ I2 ry ex2 R2 S2 dj2 e2 fun F' H' p' ex' S' st' => k _ F' H' nop p' ex' S' (.bl fun _ x => x) (fun _ _ x => x.elim) ((st2.trans st').sub fun a x => x.elim (fun z => z.elim) id)⟩
  t := ⟨fun pins s σ H Q I ⟨F, sl, p, b1, sl', ex, S, e, k⟩ => by
    simp only [ev, Option.bind_eq_some_iff] at e
    obtain ⟨⟨t1, sl1⟩, e1, ⟨t2, sl2⟩, e2, e3⟩ := e
    cases t2 <;> first | (cases e3; done) | skip
    cases e3
    refine isTrue_chain (thn ((ha.v .e (by decide)).run pins s σ H (fun y H2 => ∃ F2 p2 pv, Ex F2 H2 ∧ SlR X.K F2 H2 sl1 σ p2 ∧ Rep X.K F2 H2 t1 y pv ∧ Dj pv p2 ∧ Stp p F H p2 F2 H2) I ⟨F, sl, p, t1, sl1, ex, S, e1, fun v F' H' pv p' ex' S' R' d' st => ⟨F', p', pv, ex', S', R', d' rfl, st.sub fun a x => .inr x⟩⟩) fun v s2 ⟨y, H2, I2, ry, F2, p2, pv, ex2, S2, R2, dj2, st2⟩ => ?_) hm
    exact hc.t pins s2 σ H2 Q y v F2 t1 pv sl1 p2 _ _ I2 ry ex2 R2 S2 dj2 e2 fun F' H' p' ex' S' st' => k F' H' p' ex' S' (st2.trans st')⟩
end
end Pv

/-! Displays, arguments, calls. -/
namespace Pv
open PySem L2 PyProof.Rows
section
variable {K : PySem.W.Frag} {F F' F2 H H' H2 : Hp} {σ : L2.St} {sl sl' sl2 : SL} {p p' q r pv : FP} {P : Pg} {m : Md} {t t' : T} {Q : VK} {d : Bool}
theorem Kv.new (k : Kv K p F H σ d t sl' Q) (S : SlR K F' H' sl' σ p') (st : Stp p F H (fun a => q a ∨ p' a) F' H') (dj : Dj q p') {v : V} (s2 : Stp q F' H' pv F2 H2) (ex2 : Ex F2 H2) (R : Rep K F2 H2 t v pv) : Q v H2 := by
  obtain ⟨a1, a2, a3⟩ := s2.frame S.own dj
  exact k v F2 H2 pv p' ex2 (S.frame s2.ex a1) R (fun _ => a2) (st.trans a3)
end
def tevL (K : PySem.W.Frag) (P : Pg) (es : Es) : TA := fun σ H Q => ∃ F sl p ts sl', Ex F H ∧ SlR K F H sl σ p ∧ evL P es sl = some (ts, sl') ∧
  ∀ vs F' H' pv p', Ex F' H' → SlR K F' H' sl' σ p' → Reps K F' H' ts vs pv → Dj pv p' → Stp p F H (fun a => pv a ∨ p' a) F' H' → Q vs H'
inductive Lent (σ : L2.St) : List (Option Nat) → List V → Prop where
  | nil : Lent σ [] []
  | no {bs vs v} (h : Lent σ bs vs) : Lent σ (none :: bs) (v :: vs)
  | yes {bs vs v i} (e : σ[i]? = some (some v)) (h : Lent σ bs vs) : Lent σ (some i :: bs) (v :: vs)
def tevA (K : PySem.W.Frag) (P : Pg) (es : Es) : TA := fun σ H Q => ∃ F sl p ts bs sl', Ex F H ∧ SlR K F H sl σ p ∧ evA P es sl = some (ts, bs, sl') ∧
  ∀ vs F' H' pv p', Ex F' H' → SlR K F' H' sl' σ p' → Reps K F' H' ts vs pv → Dj pv p' → Lent σ bs vs → Stp p F H (fun a => pv a ∨ p' a) F' H' → Q vs H'
theorem set_same {σ : L2.St} {i : Nat} {v : V} (h : σ[i]? = some (some v)) : σ.set i (some v) = σ := by
  obtain ⟨hi, e⟩ := List.getElem?_eq_some_iff.mp h
  rw [← e]; exact List.set_getElem_self hi
theorem back_ok {K : PySem.W.Frag} {F H : Hp} {σ : L2.St} : ∀ {bs : List (Option Nat)} {vs : List V} {ts : List T} {sl : SL} {p q : FP}, Lent σ bs vs → Reps K F H ts vs q → SlR K F H sl σ p → Dj q p → ∃ p', SlR K F H (back bs ts sl) σ p' ∧ ∀ a, p' a → q a ∨ p a
  | _, _, _, sl, p, q, .nil, .nil e, S, dj => ⟨p, by simpa only [back] using S, fun a x => .inr x⟩
  | _, _, _, sl, p, q, .no h, .cons ht hs d e, S, dj => by
    obtain ⟨p', S', sub⟩ := back_ok h hs S fun a x y => dj a ((e a).mpr (.inr x)) y
    exact ⟨p', by simpa only [back] using S', fun a x => (sub a x).imp (fun z => (e a).mpr (.inr z)) id⟩
  | _, _, _, sl, p, q, .yes (v := v) (i := i) ei h, .cons (p := p0) ht hs d e, S, dj => by
    obtain ⟨r, sub, S1⟩ := S.drop i (some v)
    have hi : i < sl.length := by rw [S.len]; exact (List.getElem?_eq_some_iff.mp ei).1
    have S2 := S1.put2 hi ht fun a x y => dj a ((e a).mpr (.inl x)) (sub a y)
    rw [set_same ei] at S2
    obtain ⟨p', S', sub2⟩ := back_ok h hs S2 fun a x y => by
      rcases y with y | y
      · exact d a y x
      · exact dj a ((e a).mpr (.inr x)) (sub a y)
    refine ⟨p', by simpa only [back] using S', fun a x => ?_⟩
    rcases sub2 a x with x | x | x
    · exact .inl ((e a).mpr (.inr x))
    · exact .inl ((e a).mpr (.inl x))
    · exact .inr (sub a x)
/-- a def's promise: what the evaluator says of it -/
def spF (K : PySem.W.Frag) (cf : List T → Option (T × List T)) : Sp := fun vs H Q _ => ∃ F ts p t ts', Ex F H ∧ Reps K F H ts vs p ∧ cf ts = some (t, ts') ∧
  ∀ v F' H' pv p', Ex F' H' → Reps K F' H' ts' vs p' → Rep K F' H' t v pv → Dj pv p' → Stp p F H (fun a => pv a ∨ p' a) F' H' → Q v H'
section
variable {X : Cx} {P : Pg} {a b c x y : Expr} {xs : List Expr} {a' b' c' e : E} {es : Es} {pos : Pos}
abbrev SdL (X : Cx) (P : Pg) (xs : List Expr) (es : Es) : Prop := PA X xs (tevL X.K P es)
abbrev SdA (X : Cx) (P : Pg) (xs : List Expr) (es : Es) : Prop := PA X xs (tevA X.K P es)
theorem sdl_nil : SdL X P [] .nil := pa_imp pa_nil fun σ H Q ⟨F, sl, p, ts, sl', ex, S, e, k⟩ => by
  simp only [evL] at e
  cases e
  exact k [] F H nop p ex S (.nil fun _ x => x) (fun _ x => x.elim) (Stp.refl.sub fun a x => x.elim (fun z => z.elim) id)
theorem sdl_cons (ha : Sd X P a a') (hr : SdL X P xs es) (hs : starEach (a :: xs) X.env = (false, eval a X.env) :: starEach xs X.env) : SdL X P (a :: xs) (.cons a' es) :=
  pa_imp (pa_cons (ha.v .e (by decide)) hr hs) fun σ H Q ⟨F, sl, p, ts, sl', ex, S, e, k⟩ => by
    simp only [evL, Option.bind_eq_some_iff] at e
    obtain ⟨⟨t1, sl1⟩, e1, ⟨ts2, sl2⟩, e2, e3⟩ := e
    cases e3
    refine ⟨F, sl, p, t1, sl1, ex, S, e1, fun v1 F1 H1 pv1 p1 ex1 S1 R1 d1 st1 => ⟨F1, sl1, p1, ts2, _, ex1, S1, e2, fun vs F2 H2 pv2 p2 ex2 S2 R2 dj2 st2 => ?_⟩⟩
    obtain ⟨a1, a2, a3⟩ := st2.frame R1.own (d1 rfl).symm
    refine k (v1 :: vs) F2 H2 (fun a => pv1 a ∨ pv2 a) p2 ex2 S2 (.cons (R1.frame st2.ex a1) R2 (fun a x y => a2 a (.inl y) x) fun a => Iff.rfl) (fun a x y => x.elim (fun z => a2 a (.inr y) z) fun z => dj2 a z y) ?_
    refine (st1.trans (a3.cg fun a => or_comm)).sub fun a x => ?_
    rcases x with (x | x) | x
    · exact .inr x
    · exact .inl (.inl x)
    · exact .inl (.inr x)
theorem szL {ts : List T} {vs : List V} {K : PySem.W.Frag} {F H : Hp} {p : FP} (h : okN ts.length = true) (R : Reps K F H ts vs p) : vs.length ≤ sizeLine := by
  rw [← R.length]; exact szl (of_decide_eq_true h)
theorem sd_tup {k1 : Nat} (hl : SdL X P xs es) : Sd X P (.Tuple xs k1 pos) (.tup es) :=
  have v : ∀ m, m ≠ .t → PE X (.Tuple xs k1 pos) (tev X.K P m (.tup es)) := fun m hm => pe_imp (pe_tup hl) fun σ H Q ⟨F, sl, p, t, sl', ex, S, e, k⟩ => by
    simp only [ev, Option.bind_eq_some_iff] at e
    obtain ⟨⟨ts, sl1⟩, e1, e2⟩ := e
    by_cases hz : okN ts.length = true
    · rw [if_pos hz] at e2
      obtain ⟨rfl, rfl, _⟩ := fin_some hm e2
      refine ⟨F, sl, p, ts, _, ex, S, e1, fun vs F1 H1 pv1 p1 ex1 S1 R1 dj1 st1 => ⟨szL hz R1, fun q nq => ?_⟩⟩
      obtain ⟨b1, b2, b3⟩ := new_tup ex1 nq R1
      exact k.new S1 st1 dj1 b3 b1 b2
    · rw [if_neg hz] at e2; cases e2
  ⟨v, pt_plain (v .o (by decide)) (fun sl t sl' h => by
    simp only [ev, Option.bind_eq_some_iff] at h
    obtain ⟨⟨ts, sl1⟩, e1, e2⟩ := h
    by_cases hz : okN ts.length = true
    · rw [if_pos hz] at e2
      obtain ⟨b, h1, h2, rfl⟩ := fin_t e2
      exact ⟨_, b, by simp only [ev, e1, Option.bind_some, hz, if_true, fin], h1, h2⟩
    · rw [if_neg hz] at e2; cases e2) fun _ => rfl⟩
theorem sd_lst (hl : SdL X P xs es) : Sd X P (.List xs pos) (.lst es) :=
  have v : ∀ m, m ≠ .t → PE X (.List xs pos) (tev X.K P m (.lst es)) := fun m hm => pe_imp (pe_lst hl) fun σ H Q ⟨F, sl, p, t, sl', ex, S, e, k⟩ => by
    simp only [ev, Option.bind_eq_some_iff] at e
    obtain ⟨⟨ts, sl1⟩, e1, e2⟩ := e
    by_cases hz : okN ts.length = true
    · rw [if_pos hz] at e2
      obtain ⟨rfl, rfl, _⟩ := fin_some hm e2
      refine ⟨F, sl, p, ts, _, ex, S, e1, fun vs F1 H1 pv1 p1 ex1 S1 R1 dj1 st1 => ⟨szL hz R1, fun q nq => ?_⟩⟩
      obtain ⟨b1, b2, b3⟩ := new_lst ex1 nq R1
      exact k.new S1 st1 dj1 b3 b1 b2
    · rw [if_neg hz] at e2; cases e2
  ⟨v, pt_plain (v .o (by decide)) (fun sl t sl' h => by
    simp only [ev, Option.bind_eq_some_iff] at h
    obtain ⟨⟨ts, sl1⟩, e1, e2⟩ := h
    by_cases hz : okN ts.length = true
    · rw [if_pos hz] at e2
      obtain ⟨b, h1, h2, rfl⟩ := fin_t e2
      exact ⟨_, b, by simp only [ev, e1, Option.bind_some, hz, if_true, fin], h1, h2⟩
    · rw [if_neg hz] at e2; cases e2) fun _ => rfl⟩
/-! ### arguments -/
theorem sda_nil : SdA X P [] .nil := pa_imp pa_nil fun σ H Q ⟨F, sl, p, ts, bs, sl', ex, S, e, k⟩ => by
  simp only [evA] at e
  cases e
  exact k [] F H nop p ex S (.nil fun _ x => x) (fun _ x => x.elim) .nil (Stp.refl.sub fun a x => x.elim (fun z => z.elim) id)
def isVar : E → Bool
  | .var _ => true
  | _ => false
theorem evA_gen {sl : SL} (h : isVar a' = false) : evA P (.cons a' es) sl = (ev P .e a' sl).bind fun r => (evA P es r.2).bind fun r2 => some (r.1 :: r2.1, none :: r2.2.1, r2.2.2) := by
  cases a' <;> first | (cases h; done) | (simp only [evA])
theorem sda_cons (ha : Sd X P a a') (hn : isVar a' = false) (hr : SdA X P xs es) (hs : starEach (a :: xs) X.env = (false, eval a X.env) :: starEach xs X.env) : SdA X P (a :: xs) (.cons a' es) :=
  pa_imp (pa_cons (ha.v .e (by decide)) hr hs) fun σ H Q ⟨F, sl, p, ts, bs, sl', ex, S, e, k⟩ => by
    rw [evA_gen hn] at e
    simp only [Option.bind_eq_some_iff] at e
    obtain ⟨⟨t1, sl1⟩, e1, ⟨ts2, bs2, sl2⟩, e2, e3⟩ := e
    cases e3
    refine ⟨F, sl, p, t1, sl1, ex, S, e1, fun v1 F1 H1 pv1 p1 ex1 S1 R1 d1 st1 => ⟨F1, sl1, p1, ts2, bs2, _, ex1, S1, e2, fun vs F2 H2 pv2 p2 ex2 S2 R2 dj2 l2 st2 => ?_⟩⟩
    obtain ⟨a1, a2, a3⟩ := st2.frame R1.own (d1 rfl).symm
    refine k (v1 :: vs) F2 H2 (fun a => pv1 a ∨ pv2 a) p2 ex2 S2 (.cons (R1.frame st2.ex a1) R2 (fun a x y => a2 a (.inl y) x) fun a => Iff.rfl) (fun a x y => x.elim (fun z => a2 a (.inr y) z) fun z => dj2 a z y) (.no l2) ?_
    refine (st1.trans (a3.cg fun a => or_comm)).sub fun a x => ?_
    rcases x with (x | x) | x
    · exact .inr x
    · exact .inl (.inl x)
    · exact .inl (.inr x)
theorem sda_var {i : Nat} {n : Str} (hN : X.N[i]? = some n) (hv : Vis X.env.scope n) (hd : (n == ("__debug__" : Str)) = false) (hcd : (n == ("__classdict__" : Str)) = false) (hr : SdA X P xs es) : SdA X P (.Name n pos :: xs) (.cons (.var i) es) :=
  pa_imp (pa_cons (pe_var hN hv hd hcd) hr rfl) fun σ H Q ⟨F, sl, p, ts, bs, sl', ex, S, e, k⟩ => by
    simp only [evA, Option.bind_eq_some_iff] at e
    obtain ⟨t1, e1, e⟩ := e
    by_cases f : isF t1 = true
    · rw [if_pos f] at e
      obtain ⟨⟨ts2, bs2, sl2⟩, e2, e3⟩ := Option.bind_eq_some_iff.mp e
      cases e3
      obtain ⟨v, q, g, R, sub⟩ := S.peek e1
      have R0 : Rep X.K F H t1 v nop := R.cg fun b => ⟨fun x => R.of_isF f b x, fun x => x.elim⟩
      refine ⟨v, g, F, sl, p, ts2, bs2, _, ex, S, e2, fun vs F2 H2 pv2 p2 ex2 S2 R2 dj2 l2 st2 => ?_⟩
      refine k (v :: vs) F2 H2 pv2 p2 ex2 S2 (.cons (R0.frame st2.ex fun _ x => x.elim) R2 (fun _ x => x.elim) fun a => ⟨.inr, fun x => x.elim (fun z => z.elim) id⟩) dj2 (.no l2) st2
    · rw [if_neg f] at e
      obtain ⟨⟨ts2, bs2, sl2⟩, e2, e3⟩ := Option.bind_eq_some_iff.mp e
      cases e3
      obtain ⟨v, q, r, g, R, dj, ep, S1⟩ := S.take e1
      refine ⟨v, g, F, sl.set i .hole, r, ts2, bs2, _, ex, S1, e2, fun vs F2 H2 pv2 p2 ex2 S2 R2 dj2 l2 st2 => ?_⟩
      obtain ⟨a1, a2, a3⟩ := st2.frame R.own dj.symm
      refine k (v :: vs) F2 H2 (fun a => q a ∨ pv2 a) p2 ex2 S2 (.cons (R.frame st2.ex a1) R2 (fun a x y => a2 a (.inl y) x) fun a => Iff.rfl) (fun a x y => x.elim (fun z => a2 a (.inr y) z) fun z => dj2 a z y) (.yes g l2) ?_
      refine (a3.cg fun a => or_comm.trans (ep a).symm).sub fun a x => ?_
      rcases x with (x | x) | x
      · exact .inr x
      · exact .inl (.inl x)
      · exact .inl (.inr x)
/-! ### calls of defs -/
structure FnAt (X : Cx) (P : Pg) (f : Nat) (g : Addr) : Prop where
  ex : ∃ fd ps k, FnOk X.prog X.w X.K X.mg X.base CX0 k g fd ps (spF X.K (P.cf f)) ∧ Room (k + 1) X.A ∧ Binds X.K fd ps []
  kp : PySem.W.keepIn X.K (.ref g) = true
/-- behind a call: the value, the lent values put back -/
theorem called {K : PySem.W.Frag} {F F1 H H1 : Hp} {σ : L2.St} {sl1 : SL} {p p1 pv1 : FP} {d : Bool} {t : T} {Q : VK} {ts ts' : List T} {bs : List (Option Nat)} {vs : List V} {cf : List T → Option (T × List T)} (k : Kv K p F H σ d t (back bs ts' sl1) Q)
    (ex1 : Ex F1 H1) (S1 : SlR K F1 H1 sl1 σ p1) (R1 : Reps K F1 H1 ts vs pv1) (dj1 : Dj pv1 p1) (l : Lent σ bs vs) (st1 : Stp p F H (fun a => pv1 a ∨ p1 a) F1 H1) (e : cf ts = some (t, ts')) {E : XK} : spF K cf vs H1 Q E := by
  refine ⟨F1, ts, pv1, t, ts', ex1, R1, e, fun v F2 H2 pv2 p2 ex2 RS R2 dj2 st2 => ?_⟩
  obtain ⟨a1, a2, a3⟩ := st2.frame S1.own dj1
  obtain ⟨p3, S3, sub⟩ := back_ok l RS (S1.frame st2.ex a1) fun a x y => a2 a (.inr x) y
  refine k v F2 H2 pv2 p3 ex2 S3 R2 (fun _ a x y => (sub a y).elim (dj2 a x) fun z => a2 a (.inl x) z) ((st1.trans a3).sub fun a x => ?_)
  rcases x with x | x
  · exact .inl (.inl x)
  · exact (sub a x).imp .inr id
theorem ev_call {m : Md} {f : Nat} {sl sl' : SL} {t : T} (h : ev P m (.call f es) sl = some (t, sl')) : ∃ ts bs sl1 r ts', evA P es sl = some (ts, bs, sl1) ∧ P.cf f ts = some (r, ts') ∧ fin m false r (back bs ts' sl1) = some (t, sl') := by
  simp only [ev, Option.bind_eq_some_iff] at h
  obtain ⟨⟨ts, bs, sl1⟩, e1, ⟨r, ts'⟩, e2, e3⟩ := h
  exact ⟨ts, bs, sl1, r, ts', e1, e2, e3⟩
theorem plain_call {f : Nat} : Plain P (.call f es) := fun sl t sl' h => by
  obtain ⟨ts, bs, sl1, r, ts', e1, e2, e3⟩ := ev_call h
  obtain ⟨b, h1, h2, rfl⟩ := fin_t e3
  exact ⟨r, b, by simp only [ev, e1, Option.bind_some, e2, fin], h1, h2⟩
theorem core_call {m : Md} {f : Nat} {σ : L2.St} {H : Hp} {Q : VK} (hm : m ≠ .t) (h : tev X.K P m (.call f es) σ H Q) : tCall (spF X.K (P.cf f)) [] E0 (tevA X.K P es) σ H Q := by
  obtain ⟨F, sl, p, t, sl', ex, S, e, k⟩ := h
  obtain ⟨ts, bs, sl1, r, ts', e1, e2, e3⟩ := ev_call e
  obtain ⟨rfl, rfl, _⟩ := fin_some hm e3
  refine ⟨F, sl, p, ts, bs, sl1, ex, S, e1, fun vs F1 H1 pv1 p1 ex1 S1 R1 dj1 l st1 => ?_⟩
  show spF X.K (P.cf f) (vs ++ []) H1 Q E0
  rw [List.append_nil]
  exact called (ts' := ts') k ex1 S1 R1 dj1 l st1 e2
theorem sd_call {f : Nat} {g : Addr} {n : Str} {p : Pos} (hf : FnAt X P f g) (hg : Gl X n) (hm : X.mg n = some (.ref g)) (ha : SdA X P (x :: xs) es) (hdb : (n == ("__debug__" : Str)) = false)
    (he : starEach (x :: xs) X.env = (false, eval x X.env) :: starEach xs X.env) (hpl : (backTo pos (starEach xs X.env)).any (·.1) = false) : Sd X P (.Call (.Name n p) (x :: xs) [] pos) (.call f es) :=
  have v : ∀ m, m ≠ .t → PE X (.Call (.Name n p) (x :: xs) [] pos) (tev X.K P m (.call f es)) := fun m hmm => by
    obtain ⟨⟨fd, ps, k, F, hr, hb⟩, kp⟩ := hf
    exact pe_imp (pe_call F (hr.mono (Nat.le_succ _)) hg hm kp hb .nil pass0 ha hdb he hpl) fun σ H Q h => core_call hmm h
  ⟨v, pt_plain (v .o (by decide)) plain_call fun _ => rfl⟩
theorem sd_call0 {f : Nat} {g : Addr} {n : Str} {p : Pos} (hf : FnAt X P f g) (hg : Gl X n) (hm : X.mg n = some (.ref g)) (hdb : (n == ("__debug__" : Str)) = false) : Sd X P (.Call (.Name n p) [] [] pos) (.call f .nil) :=
  have v : ∀ m, m ≠ .t → PE X (.Call (.Name n p) [] [] pos) (tev X.K P m (.call f .nil)) := fun m hmm => by
    obtain ⟨⟨fd, ps, k, F, hr, hb⟩, kp⟩ := hf
    exact pe_imp (pe_call0 F (hr.mono (Nat.le_succ _)) hg hm kp hb .nil pass0 hdb) fun σ H Q h => by
      obtain ⟨F, sl, p, ts, bs, sl1, ex, S, e1, k⟩ := core_call hmm h
      simp only [evA] at e1
      cases e1
      exact k [] F H nop p ex S (.nil fun _ x => x) (fun _ x => x.elim) .nil (Stp.refl.sub fun a x => x.elim (fun z => z.elim) id)
  ⟨v, pt_plain (v .o (by decide)) plain_call fun _ => rfl⟩
/-! ### instances made -/
theorem ev_mk {m : Md} {c : Str} {f : Nat} {sl sl' : SL} {t : T} (h : ev P m (.mk c f es) sl = some (t, sl')) : ∃ ts bs sl1 r ts', evA P es sl = some (ts, bs, sl1) ∧ P.cf f (.ins true c [] [] :: ts) = some (.non, r :: ts') ∧ fin m false r (back bs ts' sl1) = some (t, sl') := by
  simp only [ev, Option.bind_eq_some_iff] at h
  obtain ⟨⟨ts, bs, sl1⟩, e1, ⟨r, rs⟩, e2, e3⟩ := h
  cases r <;> first | (cases e3; done) | skip
  cases rs with
  | nil => cases e3
  | cons r ts' => exact ⟨ts, bs, sl1, r, ts', e1, e2, e3⟩
theorem plain_mk {c : Str} {f : Nat} : Plain P (.mk c f es) := fun sl t sl' h => by
  obtain ⟨ts, bs, sl1, r, ts', e1, e2, e3⟩ := ev_mk h
  obtain ⟨b, h1, h2, rfl⟩ := fin_t e3
  exact ⟨r, b, by simp only [ev, e1, Option.bind_some, e2, fin], h1, h2⟩
theorem core_mk {m : Md} {c : Str} {f : Nat} {σ : L2.St} {H : Hp} {Q : VK} (hm : m ≠ .t) (h : tev X.K P m (.mk c f es) σ H Q) : tMake (He.ga X.K c) (spF X.K (P.cf f)) [] E0 (tevA X.K P es) σ H Q := by
  obtain ⟨F, sl, p, t, sl', ex, S, e, k⟩ := h
  obtain ⟨ts, bs, sl1, r, ts', e1, e2, e3⟩ := ev_mk e
  obtain ⟨rfl, rfl, _⟩ := fin_some hm e3
  refine ⟨F, sl, p, ts, bs, sl1, ex, S, e1, fun vs F1 H1 pv1 p1 ex1 S1 R1 dj1 l st1 x dx nx ndx ne => ?_⟩
  rw [List.append_nil]
  -- the new instance
  have up : Ex H1 (upd (upd H1 dx (.own x)) x (.ins (He.ga X.K c) dx [])) := fun b o q => by rw [upd_ne (ne_of_none q nx), upd_ne (ne_of_none q ndx)]; exact q
  have nx1 : ¬ pv1 x := ne_own R1.own nx
  have nx2 : ¬ p1 x := ne_own S1.own nx
  have fr : ∀ {q : FP}, (∀ a, q a → F1 a = none ∧ ∃ o, H1 a = some o) → ∀ a, q a → F1 a = none ∧ (upd (upd H1 dx (.own x)) x (.ins (He.ga X.K c) dx [])) a = H1 a := fun {q} own a z => by
    obtain ⟨h1, o, h2⟩ := own a z
    exact ⟨h1, (up a o h2).trans h2.symm⟩
  have stN : Stp (fun a => pv1 a ∨ p1 a) F1 H1 (fun a => (a = x ∨ pv1 a) ∨ p1 a) F1 (upd (upd H1 dx (.own x)) x (.ins (He.ga X.K c) dx [])) := ⟨Evl.Ex.refl F1, fun a o h _ => up a o h, fun _ _ _ _ => rfl, fun a z => by
    rcases z with (rfl | z) | z
    · exact .inr nx
    · exact .inl (.inl z)
    · exact .inl (.inr z)⟩
  have RI : Rep X.K F1 (upd (upd H1 dx (.own x)) x (.ins (He.ga X.K c) dx [])) (.ins true c [] []) (.ref x) (fun a => a = x) := .insO (q := nop) (fresh_F ex1 nx) upd_same rfl (.nil fun _ z => z) (fun z => z) fun b => ⟨.inl, fun z => z.elim id fun w => w.elim⟩
  have ex2 := ex1.trans up
  have RS : Reps X.K F1 (upd (upd H1 dx (.own x)) x (.ins (He.ga X.K c) dx [])) (.ins true c [] [] :: ts) (.ref x :: vs) (fun a => a = x ∨ pv1 a) := .cons RI (R1.frame (Evl.Ex.refl F1) (fr R1.own)) (fun a z w => nx1 (z ▸ w)) fun a => Iff.rfl
  refine ⟨F1, _, _, .non, _ :: ts', ex2, RS, e2, fun v F2 H2 pv2 p2 ex3 RS2 R2 dj2 st2 => ?_⟩
  obtain ⟨rfl, _⟩ := R2.non'
  refine ⟨rfl, ?_⟩
  cases RS2 with
  | cons Ri RS3 d3 e3' =>
    rename_i pi p3
    obtain ⟨a1, a2, a3⟩ := st2.frame (S1.frame (Evl.Ex.refl F1) (fr S1.own)).own (r := p1) (fun a z w => z.elim (fun q => nx2 (q ▸ w)) fun q => dj1 a q w)
    obtain ⟨p4, S4, sub⟩ := back_ok l RS3 ((S1.frame (Evl.Ex.refl F1) (fr S1.own)).frame st2.ex a1) fun a z w => a2 a (.inr ((e3' a).mpr (.inr z))) w
    refine k (.ref x) F2 H2 pi p4 ex3 S4 Ri (fun _ a z w => (sub a w).elim (d3 a z) fun q => a2 a (.inr ((e3' a).mpr (.inl z))) q) (((st1.trans stN).trans a3).sub fun a z => ?_)
    rcases z with z | z
    · exact .inl (.inr ((e3' a).mpr (.inl z)))
    · exact (sub a z).elim (fun q => .inl (.inr ((e3' a).mpr (.inr q)))) .inr
theorem sd_mk {f : Nat} {g : Addr} {n : Str} {p : Pos} (hf : FnAt X P f g) (M : Mk X.K (He.ga X.K n) g) (hg : Gl X n) (hm : X.mg n = some (.ref (He.ga X.K n))) (ha : SdA X P (x :: xs) es) (hdb : (n == ("__debug__" : Str)) = false)
    (he : starEach (x :: xs) X.env = (false, eval x X.env) :: starEach xs X.env) (hpl : (backTo pos (starEach xs X.env)).any (·.1) = false) : Sd X P (.Call (.Name n p) (x :: xs) [] pos) (.mk n f es) :=
  have v : ∀ m, m ≠ .t → PE X (.Call (.Name n p) (x :: xs) [] pos) (tev X.K P m (.mk n f es)) := fun m hmm => by
    obtain ⟨⟨fd, ps, k, F, hr, hb⟩, kp⟩ := hf
    exact pe_imp (pe_make M F hr hg hm hb .nil pass0 ha hdb he hpl) fun σ H Q h => core_mk hmm h
  ⟨v, pt_plain (v .o (by decide)) plain_mk fun _ => rfl⟩
theorem sd_mk0 {f : Nat} {g : Addr} {n : Str} {p : Pos} (hf : FnAt X P f g) (M : Mk X.K (He.ga X.K n) g) (hg : Gl X n) (hm : X.mg n = some (.ref (He.ga X.K n))) (hdb : (n == ("__debug__" : Str)) = false) : Sd X P (.Call (.Name n p) [] [] pos) (.mk n f .nil) :=
  have v : ∀ m, m ≠ .t → PE X (.Call (.Name n p) [] [] pos) (tev X.K P m (.mk n f .nil)) := fun m hmm => by
    obtain ⟨⟨fd, ps, k, F, hr, hb⟩, kp⟩ := hf
    exact pe_imp (pe_make0 M F hr hg hm hb .nil pass0 hdb) fun σ H Q h => by
      obtain ⟨F, sl, p, ts, bs, sl1, ex, S, e1, k⟩ := core_mk hmm h
      simp only [evA] at e1
      cases e1
      exact k [] F H nop p ex S (.nil fun _ x => x) (fun _ x => x.elim) .nil (Stp.refl.sub fun a x => x.elim (fun z => z.elim) id)
  ⟨v, pt_plain (v .o (by decide)) plain_mk fun _ => rfl⟩
end
end Pv

/-! Method calls, lists that change, built-in functions of two arguments. -/
namespace Pv
open PySem L2 PyProof.Rows
section
variable {X : Cx} {P : Pg} {a b c x y : Expr} {xs : List Expr} {a' b' c' e : E} {es : Es} {pos : Pos}
theorem sd_callB2 {n : Str} {id : String} {o : O2} {p : Pos} (hc : CallR X (.builtin id) (rC2 X.K o)) (hg : Gl X n) (hm : X.mg n = none) (hv : bootBuiltins n = some (.builtin id)) (ha : Sd X P a a') (hb : Sd X P b b') (hn : n ≠ "__name__") (hdb : (n == ("__debug__" : Str)) = false)
    (he : starEach [a, b] X.env = (false, eval a X.env) :: starEach [b] X.env) (he2 : starEach [b] X.env = (false, eval b X.env) :: starEach [] X.env) (hpl : (backTo pos (starEach [b] X.env)).any (·.1) = false) : Sd X P (.Call (.Name n p) [a, b] [] pos) (.op2 o a' b') :=
  have v : ∀ m, m ≠ .t → PE X (.Call (.Name n p) [a, b] [] pos) (tev X.K P m (.op2 o a' b')) := fun m hmm => pe_imp (pe_callB hc hg hm hv (pa_cons (ha.v .o (by decide)) (pa_cons (hb.v .o (by decide)) pa_nil he2) he) hn hdb he hpl) fun σ H Q h => by
    obtain ⟨F, sl, p, t, sl', ex, S, e, k⟩ := core2 hmm h
    exact ⟨F, sl, p, t, sl', ex, S, e, fun v1 F1 H1 pv p1 ex1 S1 R1 d1 st1 => by
      obtain ⟨F2, sl2, p2, t2, sl3, ex2, S2, e2, k2⟩ := k v1 F1 H1 pv p1 ex1 S1 R1 d1 st1
      exact ⟨F2, sl2, p2, t2, sl3, ex2, S2, e2, fun v2 F3 H3 pv3 p3 ex3 S3 R3 d3 st3 => ⟨v1, v2, rfl, k2 v2 F3 H3 pv3 p3 ex3 S3 R3 d3 st3⟩⟩⟩
  ⟨v, pt_plain (v .o (by decide)) plain_op2 fun _ => rfl⟩
/-- a module's name for a built-in function (from math import gcd) -/
theorem sd_callF2 {n : Str} {id : String} {o : O2} {p : Pos} (hc : CallR X (.builtin id) (rC2 X.K o)) (hg : Gl X n) (hm : X.mg n = some (.builtin id)) (ha : Sd X P a a') (hb : Sd X P b b') (hdb : (n == ("__debug__" : Str)) = false)
    (he : starEach [a, b] X.env = (false, eval a X.env) :: starEach [b] X.env) (he2 : starEach [b] X.env = (false, eval b X.env) :: starEach [] X.env) (hpl : (backTo pos (starEach [b] X.env)).any (·.1) = false) : Sd X P (.Call (.Name n p) [a, b] [] pos) (.op2 o a' b') :=
  have v : ∀ m, m ≠ .t → PE X (.Call (.Name n p) [a, b] [] pos) (tev X.K P m (.op2 o a' b')) := fun m hmm => pe_imp (pe_callBfun hc hg hm (pa_cons (ha.v .o (by decide)) (pa_cons (hb.v .o (by decide)) pa_nil he2) he) hdb he hpl) fun σ H Q h => by
    obtain ⟨F, sl, p, t, sl', ex, S, e, k⟩ := core2 hmm h
    exact ⟨F, sl, p, t, sl', ex, S, e, fun v1 F1 H1 pv p1 ex1 S1 R1 d1 st1 => by
      obtain ⟨F2, sl2, p2, t2, sl3, ex2, S2, e2, k2⟩ := k v1 F1 H1 pv p1 ex1 S1 R1 d1 st1
      exact ⟨F2, sl2, p2, t2, sl3, ex2, S2, e2, fun v2 F3 H3 pv3 p3 ex3 S3 R3 d3 st3 => ⟨v1, v2, rfl, k2 v2 F3 H3 pv3 p3 ex3 S3 R3 d3 st3⟩⟩⟩
  ⟨v, pt_plain (v .o (by decide)) plain_op2 fun _ => rfl⟩
/-! ### a method of an own class -/
/-- what is known of the methods -/
structure MthOk (X : Cx) (P : Pg) : Prop where
  mt : ∀ c q f, P.mt c q = some f → ∃ g, Cls X.K (He.ga X.K c) ∧ Meth X.K (He.ga X.K c) q g ∧ FnAt X P f g
theorem ev_meth {m : Md} {i : Nat} {q : Str} {sl sl' : SL} {t : T} (h : ev P m (.meth i q es) sl = some (t, sl')) :
    ∃ o0 c0 ns0 ts0 f ts bs sl1 t1, look sl i = some (.ins o0 c0 ns0 ts0) ∧ ns0.contains q = false ∧ P.mt c0 q = some f ∧ evA P es sl = some (ts, bs, sl1) ∧ look sl1 i = some t1 ∧
      ((isF t1 = true ∧ ∃ r t' ts', P.cf f (t1 :: ts) = some (r, t' :: ts') ∧ fin m false r (back bs ts' sl1) = some (t, sl')) ∨
       (isF t1 = false ∧ ∃ r ts', P.cf f (t1 :: ts) = some (r, ts') ∧ fin m false r (back (some i :: bs) ts' (sl1.set i .hole)) = some (t, sl'))) := by
  simp only [ev, Option.bind_eq_some_iff] at h
  obtain ⟨t0, e0, h⟩ := h
  cases t0 <;> first | (cases h; done) | skip
  rename_i o0 c0 ns0 ts0
  by_cases hq : ns0.contains q = true
  · simp only [hq, if_true] at h; cases h
  · have hq' : ns0.contains q = false := by simpa using hq
    simp only [hq', Option.bind_eq_some_iff] at h
    simp only [Bool.false_eq_true, if_false, Option.bind_eq_some_iff] at h
    obtain ⟨f, e1, ⟨ts, bs, sl1⟩, e2, t1, e3, h⟩ := h
    refine ⟨o0, c0, ns0, ts0, f, ts, bs, sl1, t1, e0, hq', e1, e2, e3, ?_⟩
    by_cases hf : isF t1 = true
    · rw [if_pos hf] at h
      obtain ⟨⟨r, rs⟩, e4, e5⟩ := Option.bind_eq_some_iff.mp h
      cases rs with
      | nil => cases e5
      | cons t' ts' => exact .inl ⟨hf, r, t', ts', e4, e5⟩
    · rw [if_neg hf] at h
      obtain ⟨⟨r, rs⟩, e4, e5⟩ := Option.bind_eq_some_iff.mp h
      exact .inr ⟨by simpa using hf, r, rs, e4, e5⟩
theorem plain_meth {i : Nat} {q : Str} : Plain P (.meth i q es) := fun sl t sl' h => by
  obtain ⟨o0, c0, ns0, ts0, f, ts, bs, sl1, t1, e0, hq, e1, e2, e3, h⟩ := ev_meth h
  rcases h with ⟨hf, r, t', ts', e4, e5⟩ | ⟨hf, r, ts', e4, e5⟩
  · obtain ⟨b, h1, h2, rfl⟩ := fin_t e5
    refine ⟨r, b, ?_, h1, h2⟩
    simp only [ev, e0, Option.bind_some, hq, Bool.false_eq_true, if_false, e1, e2, e3, hf, if_true, e4, fin]
  · obtain ⟨b, h1, h2, rfl⟩ := fin_t e5
    refine ⟨r, b, ?_, h1, h2⟩
    simp only [ev, e0, Option.bind_some, hq, Bool.false_eq_true, if_false, e1, e2, e3, hf, e4, fin]
theorem core_meth {m : Md} {i : Nat} {q : Str} {σ : L2.St} {H : Hp} {Q : VK} {F : Hp} {sl : SL} {p : FP} {t : T} {sl' : SL} {o0 : Bool} {c0 : Str} {ns0 : List Str} {ts0 ts : List T} {f : Nat} {bs : List (Option Nat)} {sl1 : SL} {t1 : T} (hm : m ≠ .t) (ex : Ex F H) (S : SlR X.K F H sl σ p)
    (k : Kv X.K p F H σ (apart m (.meth i q es)) t sl' Q) (e0 : look sl i = some (.ins o0 c0 ns0 ts0)) (hq : ns0.contains q = false) (e2 : evA P es sl = some (ts, bs, sl1)) (e3 : look sl1 i = some t1)
    (h : (isF t1 = true ∧ ∃ r t' ts', P.cf f (t1 :: ts) = some (r, t' :: ts') ∧ fin m false r (back bs ts' sl1) = some (t, sl')) ∨
       (isF t1 = false ∧ ∃ r ts', P.cf f (t1 :: ts) = some (r, ts') ∧ fin m false r (back (some i :: bs) ts' (sl1.set i .hole)) = some (t, sl'))) :
    tMeth (He.ga X.K c0) q (spF X.K (P.cf f)) [] E0 (tVar i) (tevA X.K P es) σ H Q := by
  obtain ⟨v, q0, g0, R0, sub0⟩ := S.peek e0
  refine ⟨v, g0, ?_⟩
  obtain ⟨a0, dx, fs, _, rfl, hH, hn, _⟩ := R0.insI ex
  refine ⟨a0, dx, fs, rfl, hH, lookup_none (by rw [hn]; exact hq), F, sl, p, ts, bs, sl1, ex, S, e2, fun vs F1 H1 pv1 p1 ex1 S1 R1 dj1 l st1 => ?_⟩
  show spF X.K (P.cf f) (.ref a0 :: (vs ++ [])) H1 Q E0
  rw [List.append_nil]
  rcases h with ⟨hf, r, t', ts', e4, e5⟩ | ⟨hf, r, ts', e4, e5⟩
  · -- a frozen receiver
    obtain ⟨rfl, rfl, _⟩ := fin_some hm e5
    obtain ⟨w, q2, g2, R2, sub2⟩ := S1.peek e3
    rw [g0] at g2; cases g2
    have R3 : Rep X.K F1 H1 t1 (.ref a0) nop := R2.cg fun b => ⟨fun x => R2.of_isF hf b x, fun x => x.elim⟩
    have RS : Reps X.K F1 H1 (t1 :: ts) (.ref a0 :: vs) pv1 := .cons R3 R1 (fun _ x => x.elim) fun a => ⟨.inr, fun x => x.elim (fun z => z.elim) id⟩
    refine ⟨F1, _, pv1, _, _, ex1, RS, e4, fun v F2 H2 pv2 p2 ex2 RS2 Rv dj2 st2 => ?_⟩
    cases RS2 with
    | cons Ri RS3 d3 e3' =>
      obtain ⟨a1, a2, a3⟩ := st2.frame S1.own dj1
      obtain ⟨p3, S3, sub⟩ := back_ok l RS3 (S1.frame st2.ex a1) fun a x y => a2 a (.inr ((e3' a).mpr (.inr x))) y
      refine k v F2 H2 pv2 p3 ex2 S3 Rv (fun _ a x y => (sub a y).elim (fun z => dj2 a x ((e3' a).mpr (.inr z))) fun z => a2 a (.inl x) z) ((st1.trans a3).sub fun a x => ?_)
      rcases x with x | x
      · exact .inl (.inl x)
      · exact (sub a x).imp (fun z => .inr ((e3' a).mpr (.inr z))) id
  · -- an owned receiver is lent
    obtain ⟨rfl, rfl, _⟩ := fin_some hm e5
    obtain ⟨w, q2, r2, g2, R2, dj, ep, S2⟩ := S1.take e3
    rw [g0] at g2; cases g2
    have RS : Reps X.K F1 H1 (t1 :: ts) (.ref a0 :: vs) (fun a => q2 a ∨ pv1 a) := .cons R2 R1 (fun a x y => dj1 a y ((ep a).mpr (.inl x))) fun a => Iff.rfl
    have st1' : Stp p F H (fun a => (q2 a ∨ pv1 a) ∨ r2 a) F1 H1 := st1.sub fun a x => by
      rcases x with (x | x) | x
      · exact .inr ((ep a).mpr (.inl x))
      · exact .inl x
      · exact .inr ((ep a).mpr (.inr x))
    exact called (ts' := ts') k ex1 S2 RS (fun a x y => x.elim (fun z => dj a z y) fun z => dj1 a z ((ep a).mpr (.inr y))) (.yes g0 l) st1' e4
theorem meth_ht {n q : Str} {pn apos : Pos} (hf : methodCallForm xs.length (backTo pos (starEach xs X.env)) (backToKw pos (keywordEach [] X.env)) = true) (hl : (apos.endLine == pos.line) = true) : eval (.Call (.Attribute (.Name n pn) q apos) xs [] pos) X.env = (do
      let ov ← eval (.Name n pn) X.env
      standAt apos.atName
      let (f, first) ← holding [ov] (getMethod ov q (plainOf (.Name n pn) X.env))
      callWith pos f first (backTo pos (starEach xs X.env)) (backToKw pos (keywordEach [] X.env))) := by
  show (do
    let ov ← attributeBase (.Name n pn) q X.env (eval (.Name n pn) X.env)
    standAt apos.atName
    methodCall (.Name n pn) q apos pos X.env ov (xs.length + ([] : List Keyword).length) (backTo pos (starEach xs X.env)) (backToKw pos (keywordEach [] X.env))) = _
  have e : ∀ ov, methodCall (.Name n pn) q apos pos X.env ov (xs.length + ([] : List Keyword).length) (backTo pos (starEach xs X.env)) (backToKw pos (keywordEach [] X.env)) = _ := fun ov => mcall_line (by simpa using hf) hl
  simp only [e]
  rfl
theorem sd_meth {i : Nat} {n q : Str} {pn apos : Pos} (M : MthOk X P) (hN : X.N[i]? = some n) (hv : Vis X.env.scope n) (hd : (n == ("__debug__" : Str)) = false) (hcd : (n == ("__classdict__" : Str)) = false) (ha : SdA X P (x :: xs) es)
    (he : starEach (x :: xs) X.env = (false, eval x X.env) :: starEach xs X.env) (hpl : (backTo pos (starEach xs X.env)).any (·.1) = false)
    (hf : methodCallForm (x :: xs).length (backTo pos (starEach (x :: xs) X.env)) (backToKw pos (keywordEach [] X.env)) = true) (hl : (apos.endLine == pos.line) = true) : Sd X P (.Call (.Attribute (.Name n pn) q apos) (x :: xs) [] pos) (.meth i q es) :=
  have v : ∀ m, m ≠ .t → PE X (.Call (.Attribute (.Name n pn) q apos) (x :: xs) [] pos) (tev X.K P m (.meth i q es)) := fun m hmm => pe_any fun σ H Q ⟨F, sl, p, t, sl', ex, S, e, k⟩ => by
    obtain ⟨o0, c0, ns0, ts0, f, ts, bs, sl1, t1, e0, hq, e1, e2, e3, h⟩ := ev_meth e
    obtain ⟨g, c1, c2, ⟨⟨fd, ps, kk, Fk, hr, hb⟩, kp⟩⟩ := M.mt c0 q f e1
    exact ⟨_, pe_meth (pe_var hN hv hd hcd) c1 c2 Fk (hr.mono (Nat.le_succ _)) hb .nil pass0 ha he hpl (meth_ht hf hl), core_meth hmm ex S k e0 hq e2 e3 h⟩
  ⟨v, pt_plain (v .o (by decide)) plain_meth fun _ => rfl⟩
theorem sd_meth0 {i : Nat} {n q : Str} {pn apos : Pos} (M : MthOk X P) (hN : X.N[i]? = some n) (hv : Vis X.env.scope n) (hd : (n == ("__debug__" : Str)) = false) (hcd : (n == ("__classdict__" : Str)) = false) (hl : (apos.endLine == pos.line) = true) : Sd X P (.Call (.Attribute (.Name n pn) q apos) [] [] pos) (.meth i q .nil) :=
  have v : ∀ m, m ≠ .t → PE X (.Call (.Attribute (.Name n pn) q apos) [] [] pos) (tev X.K P m (.meth i q .nil)) := fun m hmm => pe_any fun σ H Q ⟨F, sl, p, t, sl', ex, S, e, k⟩ => by
    obtain ⟨o0, c0, ns0, ts0, f, ts, bs, sl1, t1, e0, hq, e1, e2, e3, h⟩ := ev_meth e
    obtain ⟨g, c1, c2, ⟨⟨fd, ps, kk, Fk, hr, hb⟩, kp⟩⟩ := M.mt c0 q f e1
    refine ⟨_, pe_meth0 (pe_var hN hv hd hcd) c1 c2 Fk (hr.mono (Nat.le_succ _)) hb .nil pass0 (meth_ht rfl hl), ?_⟩
    obtain ⟨w, g0, a0, dx, fs, z1, z2, z3, F2, sl2, p2, ts2, bs2, sl3, ex2, S2, ee, kk2⟩ := core_meth hmm ex S k e0 hq e2 e3 h
    simp only [evA] at ee
    cases ee
    exact ⟨w, g0, a0, dx, fs, z1, z2, z3, kk2 [] F2 H nop p2 ex2 S2 (.nil fun _ x => x) (fun _ x => x.elim) .nil (Stp.refl.sub fun a x => x.elim (fun z => z.elim) id)⟩
  ⟨v, pt_plain (v .o (by decide)) plain_meth fun _ => rfl⟩
end
end Pv

/-! Lists that change. -/
namespace Pv
open PySem L2 PyProof.Rows
/-- a method that changes its receiver, by trees -/
def rM (K : PySem.W.Frag) (mk : MK) : V → List V → Hp → VK → Prop := fun x vs H Q => ∃ F t us p q t' u, Ex F H ∧ Rep K F H t x p ∧ Reps K F H us vs q ∧ Dj p q ∧ mutT mk t us = some (t', u) ∧
  ∀ v F' H' pv p', Ex F' H' → Rep K F' H' t' x p' → Rep K F' H' u v pv → Dj pv p' → Stp (fun a => p a ∨ q a) F H (fun a => pv a ∨ p' a) F' H' → Q v H'
section
variable {K : PySem.W.Frag} {F H : Hp} {p q q' pv : FP}
/-- the owned list at a is rewritten -/
theorem relist {a : Addr} {us : List T} {xs ys : List V} {u : T} {v : V} (ex : Ex F H) (n : F a = none) (h : H a = some (.lst xs)) (own : ∀ b, q b → F b = none ∧ ∃ o, H b = some o) (nq : ¬ q a) (R : Reps K F H us ys q') (Ru : Rep K F H u v pv) (s1 : ∀ b, q' b → q b) (s2 : ∀ b, pv b → q b) (dj : Dj pv q') :
    Ex F (upd H a (.lst ys)) ∧ Rep K F (upd H a (.lst ys)) (.lst true us) (.ref a) (fun b => b = a ∨ q' b) ∧ Rep K F (upd H a (.lst ys)) u v pv ∧ Dj pv (fun b => b = a ∨ q' b) ∧
      Stp (fun b => b = a ∨ q b) F H (fun b => pv b ∨ (b = a ∨ q' b)) F (upd H a (.lst ys)) := by
  have ne : ∀ b, q b → b ≠ a := fun b x e => nq (e ▸ x)
  refine ⟨fun b o e => ?_, .lstO n upd_same (R.frame (Evl.Ex.refl F) fun b x => ⟨(own b (s1 b x)).1, upd_ne (ne b (s1 b x))⟩) (fun x => nq (s1 a x)) fun b => Iff.rfl, Ru.frame (Evl.Ex.refl F) fun b x => ⟨(own b (s2 b x)).1, upd_ne (ne b (s2 b x))⟩, fun b x y => ?_, Evl.Ex.refl F, fun b o e z => ?_, fun _ _ _ _ => rfl, fun b x => .inl ?_⟩
  · rw [upd_ne (fun z => by subst z; rw [n] at e; cases e)]; exact ex b o e
  · rcases y with rfl | y
    · exact nq (s2 b x)
    · exact dj b x y
  · rw [upd_ne fun w => z (.inl w)]; exact e
  · rcases x with x | x | x
    · exact .inr (s2 b x)
    · exact .inl x
    · exact .inr (s1 b x)
theorem Reps.take' : ∀ {ts : List T} {vs : List V} {p : FP} (i : Nat), Reps K F H ts vs p → ∃ r s, Reps K F H (ts.take i) (vs.take i) r ∧ Reps K F H (ts.drop i) (vs.drop i) s ∧ Dj r s ∧ ∀ b, p b ↔ r b ∨ s b
  | _, _, p, i, .nil e => ⟨nop, nop, by rw [List.take_nil, List.take_nil]; exact .nil fun _ x => x, by rw [List.drop_nil, List.drop_nil]; exact .nil fun _ x => x, fun _ x => x.elim, fun b => ⟨fun x => (e b x).elim, fun x => x.elim (fun z => z.elim) fun z => z.elim⟩⟩
  | _, _, p, 0, .cons h hs d e => ⟨nop, p, .nil fun _ x => x, .cons h hs d e, fun _ x => x.elim, fun b => ⟨.inr, fun x => x.elim (fun z => z.elim) id⟩⟩
  | _, _, p, i + 1, .cons (p := p0) h hs d e => by
    obtain ⟨r, s, h1, h2, h3, h4⟩ := Reps.take' i hs
    refine ⟨fun b => p0 b ∨ r b, s, .cons h h1 (fun b x y => d b x ((h4 b).mpr (.inl y))) fun b => Iff.rfl, h2, fun b x y => ?_, fun b => ?_⟩
    · rcases x with x | x
      · exact d b x ((h4 b).mpr (.inr y))
      · exact h3 b x y
    · rw [e b, h4 b]; exact (or_assoc).symm
theorem Reps.one {t : T} {v : V} (h : Rep K F H t v p) : Reps K F H [t] [v] p := .cons h (.nil (p := nop) fun _ x => x) (fun _ _ x => x) fun b => ⟨.inl, fun x => x.elim id fun z => z.elim⟩
theorem Reps.erase {ts : List T} {vs : List V} {i : Nat} {t : T} (h : Reps K F H ts vs p) (g : ts[i]? = some t) : ∃ v q r, vs[i]? = some v ∧ Rep K F H t v q ∧ Reps K F H (ts.eraseIdx i) (vs.eraseIdx i) r ∧ Dj q r ∧ ∀ b, p b ↔ q b ∨ r b := by
  induction ts generalizing vs p i with
  | nil => simp at g
  | cons t0 ts ih =>
    cases h with
    | cons h hs d e =>
      rename_i v0 vs p0 q0
      cases i with
      | zero => simp at g; subst g; exact ⟨v0, p0, q0, rfl, h, by simpa using hs, d, e⟩
      | succ i =>
        obtain ⟨v, q, r, g1, g2, g3, g4, g5⟩ := ih hs (by simpa using g)
        refine ⟨v, q, fun b => p0 b ∨ r b, by simpa using g1, g2, .cons h g3 (fun b x y => d b x ((g5 b).mpr (.inr y))) fun b => Iff.rfl, fun b x y => ?_, fun b => ?_⟩
        · rcases y with y | y
          · exact d b y ((g5 b).mpr (.inl x))
          · exact g4 b x y
        · rw [e b, g5 b]; exact or_left_comm
end
section
variable {X : Cx} {P : Pg} {a b c x y : Expr} {xs : List Expr} {a' b' c' e : E} {es : Es} {pos : Pos}
theorem mtr_any {id : String} {r' : V → List V → Hp → VK → Prop} (h : ∀ x xs H Q, r' x xs H Q → ∃ r, MtR X id r ∧ r x xs H Q) : MtR X id r' := fun pins s σ H x xs v us Q I rx rv w => let ⟨r, h1, h2⟩ := h x xs H Q w; h1 pins s σ H x xs v us Q I rx rv h2
/-- extend by a list or a tuple, whatever is known of it -/
def rExtR (K : PySem.W.Frag) : V → List V → Hp → VK → Prop := fun x vs H Q => ∃ l b xs zs, x = .ref l ∧ vs = [.ref b] ∧ H l = some (.lst xs) ∧ Rd H b (.lst zs) ∧ xs.length + zs.length ≤ sizeLine ∧ Q .non (upd H l (.lst (xs ++ zs)))
theorem mt_extR : MtR X "list.extend" (rExtR X.K) := by
  intro pins s σ H x vs v us Q I rx rv h
  obtain ⟨l, b, xs, zs, rfl, rfl, hH, hB, hz, q⟩ := h
  cases rx
  obtain ⟨u, rfl, ru⟩ := rv.one
  cases ru
  obtain ⟨z, its, n, r, hl, e⟩ := I.lstM hH
  obtain ⟨z2, its2, n2, r2, hl2, e2⟩ := Pv.Inv.lstR I hB
  have hsz : its.toArray.size + its2.toArray.size ≤ sizeLine := by rw [List.size_toArray, List.size_toArray]; omega
  have hlong : ¬ (!its.toArray.isEmpty && Builtin.List.listTooLong (its.toArray.size + its2.toArray.size)) = true := by
    rw [notLongL hsz, Bool.and_false]
    exact Bool.false_ne_true
  refine call_meets F.slot_list_extend ⟨_, e, rfl⟩ F.entry_list_extend (F.args_list_extend_2 _ _)
    (AutoSeq1.list_extend_list_list_0 l its.toArray n b its2.toArray n2 hlong (by rw [List.size_toArray]; omega) (by omega)) ⟨e, e2, ?_⟩
  refine ⟨.non, _, I.lset (its' := its ++ its2) hH e (by simp) (r.append r2) ?_, rfl, q⟩
  rw [List.length_append]
  omega
theorem okN_le {n : Nat} (h : okN n = true) : n < sizeLine := by
  have := of_decide_eq_true h
  rw [sizeLine_eq]; omega
theorem mr_append : MtR X "list.append" (rM X.K .append) := mtr_any fun x vs H Q ⟨F, t, us, p, q, t', u, ex, R, Rs, dj, e, k⟩ => by
  match t, us, R, Rs, e with
  | .lst true ts, [x1], R, Rs, e =>
    have e' : (if okN ts.length then some (T.lst true (ts ++ [x1]), T.non) else none) = some (t', u) := e
    by_cases hz : okN ts.length = true
    · rw [if_pos hz] at e'; cases e'
      cases R with
      | @lstO a xs0 _ _ q0 n h r d ep =>
        cases Rs with
        | cons h1 h2 d1 e1 =>
          cases h2 with
          | nil e2 =>
            have dq : Dj q0 q := fun b x y => dj b ((ep b).mpr (.inr x)) y
            have R1 := (Reps.one (h1.cg fun b => ⟨fun x => (e1 b).mpr (.inl x), fun x => ((e1 b).mp x).elim id fun z => (e2 b z).elim⟩)).app (p := q) (us := []) (ws := []) (q := nop) (.nil fun _ x => x) fun _ _ x => x
            have R2 := r.app (Reps.one (h1.cg fun b => ⟨fun x => (e1 b).mpr (.inl x), fun x => ((e1 b).mp x).elim id fun z => (e2 b z).elim⟩)) dq
            have own : ∀ b, (q0 b ∨ q b) → F b = none ∧ ∃ o, H b = some o := fun b x => x.elim (r.own b) fun y => h1.own b (((e1 b).mp y).elim id fun z => (e2 b z).elim)
            have nq : ¬ (q0 a ∨ q a) := fun x => x.elim d fun y => dj a ((ep a).mpr (.inl rfl)) y
            obtain ⟨g1, g2, g3, g4, g5⟩ := relist (q := fun b => q0 b ∨ q b) (pv := nop) (u := .non) (v := .non) ex n h own nq R2 (.non fun _ x => x) (fun _ x => x) (fun _ x => x.elim) (fun _ x => x.elim)
            refine ⟨_, mt_append, a, xs0, _, rfl, rfl, h, by rw [← r.length]; exact okN_le hz, k .non F _ nop _ g1 g2 g3 g4 (g5.cg fun b => ?_)⟩
            rw [ep b]; exact (or_assoc).symm
    · rw [if_neg hz] at e'; cases e'
theorem mr_insert : MtR X "list.insert" (rM X.K .insert) := mtr_any fun x vs H Q ⟨F, t, us, p, q, t', u, ex, R, Rs, dj, e, k⟩ => by
  match t, us, R, Rs, e with
  | .lst true ts, [.int i, x1], R, Rs, e =>
    have e' : (if decide (0 ≤ i) && decide (i < 2 ^ 62) && okN ts.length then some (T.lst true (ts.take i.toNat ++ [x1] ++ ts.drop i.toNat), T.non) else none) = some (t', u) := e
    by_cases hz : (decide (0 ≤ i) && decide (i < 2 ^ 62) && okN ts.length) = true
    · rw [if_pos hz] at e'; cases e'
      simp only [Bool.and_eq_true, decide_eq_true_eq] at hz
      cases R with
      | @lstO a xs0 _ _ q0 n h r d ep =>
        cases Rs with
        | cons h0 h2 d1 e1 =>
          obtain ⟨rfl, n0⟩ := h0.int'
          cases h2 with
          | @cons _ v1 _ _ p1 q1 _ h1 h3 d2 e2 =>
            cases h3 with
            | nil e3 =>
              have h1' : Rep X.K F H x1 v1 q := h1.cg fun b => ⟨fun x => (e1 b).mpr (.inr ((e2 b).mpr (.inl x))), fun x => ((e1 b).mp x).elim (fun z => (n0 b z).elim) fun z => ((e2 b).mp z).elim id fun w => (e3 b w).elim⟩
              obtain ⟨r1, s1, t1, t2, t3, t4⟩ := r.take' i.toNat
              have dq : Dj q0 q := fun b x y => dj b ((ep b).mpr (.inr x)) y
              have R2 := (t1.app (Reps.one h1') fun b x y => dq b ((t4 b).mpr (.inl x)) y).app t2 fun b x y => x.elim (fun z => t3 b z y) fun z => dq b ((t4 b).mpr (.inr y)) z
              have own : ∀ b, (q0 b ∨ q b) → F b = none ∧ ∃ o, H b = some o := fun b x => x.elim (r.own b) (h1'.own b)
              have nq : ¬ (q0 a ∨ q a) := fun x => x.elim d fun y => dj a ((ep a).mpr (.inl rfl)) y
              obtain ⟨g1, g2, g3, g4, g5⟩ := relist (q := fun b => q0 b ∨ q b) (pv := nop) (u := .non) (v := .non) ex n h own nq R2 (.non fun _ x => x) (fun b x => by
                rcases x with (x | x) | x
                · exact .inl ((t4 b).mpr (.inl x))
                · exact .inr x
                · exact .inl ((t4 b).mpr (.inr x))) (fun _ x => x.elim) (fun _ x => x.elim)
              refine ⟨_, mt_insert, a, xs0, i, v1, rfl, rfl, h, by rw [← r.length]; exact okN_le hz.2, hz.1.1, by omega, k .non F _ nop _ g1 g2 g3 g4 (g5.cg fun b => ?_)⟩
              rw [ep b]; exact (or_assoc).symm
    · rw [if_neg hz] at e'; cases e'
theorem mr_extend : MtR X "list.extend" (rM X.K .extend) := mtr_any fun x vs H Q ⟨F, t, us, p, q, t', u, ex, R, Rs, dj, e, k⟩ => by
  match t, us, R, Rs, e with
  | .lst true ts, [.lst o us], R, Rs, e =>
    have e' : (if okN (ts.length + us.length) then some (T.lst true (ts ++ us), T.non) else none) = some (t', u) := e
    by_cases hz : okN (ts.length + us.length) = true
    · rw [if_pos hz] at e'; cases e'
      cases R with
      | @lstO a xs0 _ _ q0 n h r d ep =>
        cases Rs with
        | cons h1 h2 d1 e1 =>
          cases h2 with
          | nil e2 =>
            obtain ⟨b0, ys, q1, rfl, s1, r1, sub, _⟩ := h1.seqL ex
            have sub' : ∀ b, q1 b → q b := fun b x => (e1 b).mpr (.inl (sub b x))
            have dq : Dj q0 q1 := fun b x y => dj b ((ep b).mpr (.inr x)) (sub' b y)
            have R2 := r.app r1 dq
            have own : ∀ b, (q0 b ∨ q b) → F b = none ∧ ∃ o, H b = some o := fun b x => x.elim (r.own b) fun y => h1.own b (((e1 b).mp y).elim id fun z => (e2 b z).elim)
            have nq : ¬ (q0 a ∨ q a) := fun x => x.elim d fun y => dj a ((ep a).mpr (.inl rfl)) y
            obtain ⟨g1, g2, g3, g4, g5⟩ := relist (q := fun b => q0 b ∨ q b) (pv := nop) (u := .non) (v := .non) ex n h own nq R2 (.non fun _ x => x) (fun b x => x.imp id (sub' b)) (fun _ x => x.elim) (fun _ x => x.elim)
            refine ⟨_, mt_extR, a, b0, xs0, ys, rfl, rfl, h, s1, by rw [← r.length, ← r1.length]; exact Nat.le_of_lt (okN_le hz), k .non F _ nop _ g1 g2 g3 g4 (g5.cg fun b => ?_)⟩
            rw [ep b]; exact (or_assoc).symm
    · rw [if_neg hz] at e'; cases e'
theorem mr_pop : MtR X "list.pop" (rM X.K .pop) := mtr_any fun x vs H Q ⟨F, t, us, p, q, t', u, ex, R, Rs, dj, e, k⟩ => by
  match t, us, R, Rs, e with
  | .lst true ts, [], R, Rs, e =>
    have e' : (ts[ts.length - 1]?).map (fun t => (T.lst true ts.dropLast, t)) = some (t', u) := e
    obtain ⟨u0, g0, e2⟩ := Option.map_eq_some_iff.mp e'
    cases e2
    cases Rs with
    | nil e3 =>
      cases R with
      | @lstO a xs0 _ _ q0 n h r d ep =>
        obtain ⟨v, q1, r1, w1, w2, w3, w4, w5⟩ := r.erase g0
        have l := r.length
        have hne : 0 < ts.length := List.length_pos_iff.mpr (by intro z; subst z; simp at g0)
        have hd : ts.dropLast = ts.eraseIdx (ts.length - 1) := (List.eraseIdx_eq_dropLast (by omega)).symm
        have hd2 : xs0.dropLast = xs0.eraseIdx (ts.length - 1) := (List.eraseIdx_eq_dropLast (by omega)).symm
        obtain ⟨g1, g2, g3, g4, g5⟩ := relist (q := q0) (pv := q1) ex n h r.own d (by rw [hd2]; exact w3 : Reps X.K F H _ xs0.dropLast r1) w2 (fun b x => (w5 b).mpr (.inr x)) (fun b x => (w5 b).mpr (.inl x)) w4
        rw [← hd] at g2
        refine ⟨_, mt_pop, a, xs0, v, rfl, rfl, h, by rw [← l]; exact w1, k v F _ q1 _ g1 g2 g3 g4 (g5.cg fun b => ?_)⟩
        rw [ep b]
        exact ⟨.inl, fun x => x.elim id fun z => (e3 b z).elim⟩
theorem mr_popi : MtR X "list.pop" (rM X.K .popi) := mtr_any fun x vs H Q ⟨F, t, us, p, q, t', u, ex, R, Rs, dj, e, k⟩ => by
  match t, us, R, Rs, e with
  | .lst true ts, [.int i], R, Rs, e =>
    have e' : (if okN ts.length then (ixN ts.length i).bind (fun j => (ts[j]?).map fun t => (T.lst true (ts.eraseIdx j), t)) else none) = some (t', u) := e
    by_cases hz : okN ts.length = true
    · rw [if_pos hz] at e'
      obtain ⟨j, hj, e1⟩ := Option.bind_eq_some_iff.mp e'
      obtain ⟨u0, g0, e2⟩ := Option.map_eq_some_iff.mp e1
      cases e2
      obtain ⟨i1, i2, i3, i4⟩ := ixN_seq hj
      cases Rs with
      | cons h0 h2 d1 e3 =>
        obtain ⟨rfl, n0⟩ := h0.int'
        cases h2 with
        | nil e4 =>
          cases R with
          | @lstO a xs0 _ _ q0 n h r d ep =>
            obtain ⟨v, q1, r1, w1, w2, w3, w4, w5⟩ := r.erase g0
            have l := r.length
            have zz := of_decide_eq_true hz
            obtain ⟨g1, g2, g3, g4, g5⟩ := relist (q := q0) (pv := q1) ex n h r.own d w3 w2 (fun b x => (w5 b).mpr (.inr x)) (fun b x => (w5 b).mpr (.inl x)) w4
            refine ⟨_, mt_popAt, a, xs0, i, j, v, rfl, rfl, h, by omega, by omega, by rw [← l]; exact i1, w1, k v F _ q1 _ g1 g2 g3 g4 (g5.cg fun b => ?_)⟩
            rw [ep b]
            exact ⟨.inl, fun x => x.elim id fun z => (((e3 b).mp z).elim (n0 b) (e4 b)).elim⟩
    · rw [if_neg hz] at e'; cases e'
end
end Pv

/-! Calls of lists' methods; targets; what is walked. -/
namespace Pv
open PySem L2 PyProof.Rows
section
variable {X : Cx} {P : Pg} {a b c x y : Expr} {xs : List Expr} {a' b' c' e : E} {es : Es} {pos : Pos}
theorem ev_mut {m : Md} {i : Nat} {q : MK} {sl sl' : SL} {t : T} (h : ev P m (.mut i q es) sl = some (t, sl')) :
    ∃ t0 us sl1 t1 t' u, look sl i = some t0 ∧ kindM q t0 = true ∧ evL P es sl = some (us, sl1) ∧ look sl1 i = some t1 ∧ mutT q t1 us = some (t', u) ∧ fin m false u (sl1.set i t') = some (t, sl') := by
  simp only [ev, Option.bind_eq_some_iff] at h
  obtain ⟨t0, e0, h⟩ := h
  by_cases hk : kindM q t0 = true
  · simp only [hk, if_true, Option.bind_eq_some_iff] at h
    obtain ⟨⟨us, sl1⟩, e1, t1, e2, ⟨t', u⟩, e3, e4⟩ := h
    exact ⟨t0, us, sl1, t1, t', u, e0, hk, e1, e2, e3, e4⟩
  · simp only [hk] at h; cases h
theorem plain_mut {i : Nat} {q : MK} : Plain P (.mut i q es) := fun sl t sl' h => by
  obtain ⟨t0, us, sl1, t1, t', u, e0, hk, e1, e2, e3, e4⟩ := ev_mut h
  obtain ⟨b, h1, h2, rfl⟩ := fin_t e4
  exact ⟨u, b, by simp only [ev, e0, Option.bind_some, hk, if_true, e1, e2, e3, fin], h1, h2⟩
theorem kind_lst {q : MK} {t : T} (h : kindM q t = true) : ∃ o ts, t = .lst o ts := by
  cases q <;> cases t <;> first | (cases h; done) | exact ⟨_, _, rfl⟩
/-- the reading behind the arguments -/
theorem core_mut {m : Md} {i : Nat} {q : MK} {σ : L2.St} {H : Hp} {Q : VK} (hm : m ≠ .t) (h : tev X.K P m (.mut i q es) σ H Q) : tBM X.K "list" (rM X.K q) (tVar i) (tevL X.K P es) σ H Q := by
  obtain ⟨F, sl, p, t, sl', ex, S, e, k⟩ := h
  obtain ⟨t0, us, sl1, t1, t', u, e0, hk, e1, e2, e3, e4⟩ := ev_mut e
  obtain ⟨rfl, rfl, _⟩ := fin_some hm e4
  obtain ⟨v0, q0, g0, R0, _⟩ := S.peek e0
  obtain ⟨o, ts, rfl⟩ := kind_lst hk
  refine ⟨v0, g0, ?_⟩
  obtain ⟨a0, xs0, q1, rfl, s1, _⟩ := R0.seqL ex
  refine ⟨.inl ⟨rfl, xs0, .inl s1⟩, F, sl, p, us, sl1, ex, S, e1, fun vs F1 H1 pv1 p1 ex1 S1 R1 dj1 st1 => ?_⟩
  obtain ⟨w, q2, r2, g2, R2, dj, ep, S2⟩ := S1.take e2
  rw [g0] at g2; cases g2
  refine ⟨F1, t1, us, q2, pv1, t', _, ex1, R2, R1, fun b x y => dj1 b y ((ep b).mpr (.inl x)), e3, fun v F2 H2 pv p' ex2 Rt Ru dj2 st2 => ?_⟩
  obtain ⟨a1, a2, a3⟩ := st2.frame S2.own fun b x y => x.elim (fun z => dj b z y) fun z => dj1 b z ((ep b).mpr (.inr y))
  have S3 := (S2.frame st2.ex a1).put (set_hole_put e2) g0 Rt fun b x y => a2 b (.inr x) y
  rw [List.set_set] at S3
  refine k v F2 H2 pv _ ex2 S3 Ru (fun _ b x y => y.elim (dj2 b x) fun z => a2 b (.inl x) z) ?_
  have st1' : Stp p F H (fun b => (q2 b ∨ pv1 b) ∨ r2 b) F1 H1 := st1.sub fun b x => by
    rcases x with (x | x) | x
    · exact .inr ((ep b).mpr (.inl x))
    · exact .inl x
    · exact .inr ((ep b).mpr (.inr x))
  refine (st1'.trans a3).sub fun b x => ?_
  rcases x with x | x | x
  · exact .inl (.inl x)
  · exact .inl (.inr x)
  · exact .inr x
theorem sd_mut {i : Nat} {n name : Str} {id : String} {q : MK} {pn apos : Pos} (pa : PlainAttrs "list") (slot : Slot "list" name id) (hty : typeOf (.builtin id) = pure (.type "method_descriptor")) (hr : MtR X id (rM X.K q))
    (hN : X.N[i]? = some n) (hv : Vis X.env.scope n) (hd : (n == ("__debug__" : Str)) = false) (hcd : (n == ("__classdict__" : Str)) = false) (ha : SdL X P (x :: xs) es)
    (hfew : ((backTo pos (starEach (x :: xs) X.env)).all (fun x => !x.1) && (backToKw pos (keywordEach [] X.env)).all (fun x => x.1.isSome)
      && decide ((x :: xs).length + ([] : List Keyword).length + (if ([] : List Keyword).isEmpty then 0 else 1) < 30)) = true) (hl : (apos.endLine == pos.line) = true)
    (he : starEach (x :: xs) X.env = (false, eval x X.env) :: starEach xs X.env) (hpl : (backTo pos (starEach xs X.env)).any (·.1) = false) : Sd X P (.Call (.Attribute (.Name n pn) name apos) (x :: xs) [] pos) (.mut i q es) :=
  have v : ∀ m, m ≠ .t → PE X (.Call (.Attribute (.Name n pn) name apos) (x :: xs) [] pos) (tev X.K P m (.mut i q es)) := fun m hmm =>
    pe_imp (pe_bm pa slot hty hr (pe_var hN hv hd hcd) ha rfl hfew hl he hpl) fun σ H Q h => core_mut hmm h
  ⟨v, pt_plain (v .o (by decide)) plain_mut fun _ => rfl⟩
theorem sd_mut0 {i : Nat} {n name : Str} {id : String} {q : MK} {pn apos : Pos} (pa : PlainAttrs "list") (slot : Slot "list" name id) (hty : typeOf (.builtin id) = pure (.type "method_descriptor")) (hr : MtR X id (rM X.K q))
    (hN : X.N[i]? = some n) (hv : Vis X.env.scope n) (hd : (n == ("__debug__" : Str)) = false) (hcd : (n == ("__classdict__" : Str)) = false) (hl : (apos.endLine == pos.line) = true) : Sd X P (.Call (.Attribute (.Name n pn) name apos) [] [] pos) (.mut i q .nil) :=
  have v : ∀ m, m ≠ .t → PE X (.Call (.Attribute (.Name n pn) name apos) [] [] pos) (tev X.K P m (.mut i q .nil)) := fun m hmm =>
    pe_imp (pe_bm0 pa slot hty hr (pe_var hN hv hd hcd) rfl hl) fun σ H Q h => by
      obtain ⟨w, g0, ty, F, sl, p, us, sl1, ex, S, e1, k⟩ := core_mut hmm h
      simp only [evL] at e1
      cases e1
      exact ⟨w, g0, ty, k [] F H nop p ex S (.nil fun _ x => x) (fun _ x => x.elim) (Stp.refl.sub fun a x => x.elim (fun z => z.elim) fun z => z)⟩
  ⟨v, pt_plain (v .o (by decide)) plain_mut fun _ => rfl⟩
end

/-! ### targets -/
def Keep (A : List Nat) (σ σ' : L2.St) : Prop := σ'.length = σ.length ∧ ∀ i, i ∉ A → σ'[i]? = σ[i]?
theorem Keep.refl {A : List Nat} {σ : L2.St} : Keep A σ σ := ⟨rfl, fun _ _ => rfl⟩
theorem Keep.trans {A : List Nat} {σ σ1 σ2 : L2.St} (h : Keep A σ σ1) (g : Keep A σ1 σ2) : Keep A σ σ2 := ⟨g.1.trans h.1, fun i n => (g.2 i n).trans (h.2 i n)⟩
theorem Keep.mono {A B : List Nat} {σ σ' : L2.St} (h : Keep A σ σ') (s : ∀ i ∈ A, i ∈ B) : Keep B σ σ' := ⟨h.1, fun i n => h.2 i fun z => n (s i z)⟩
theorem Keep.set {σ : L2.St} {i : Nat} {x : Option V} : Keep [i] σ (σ.set i x) := ⟨by simp, fun j n => by
  rw [List.getElem?_set_ne]
  intro z; subst z; exact n (List.mem_singleton.mpr rfl)⟩
/-- a target's reading: set is what the evaluator does -/
def tevG (K : PySem.W.Frag) (A : List Nat) (set : T → SL → Option SL) : TG := fun v σ H Q => ∃ F t pv sl p sl', Ex F H ∧ Rep K F H t v pv ∧ SlR K F H sl σ p ∧ Dj pv p ∧ set t sl = some sl' ∧
  ∀ σ' F' H' p', Keep A σ σ' → Ex F' H' → SlR K F' H' sl' σ' p' → Stp (fun a => pv a ∨ p a) F H p' F' H' → Q σ' H'
def tevGs (K : PySem.W.Frag) (A : List Nat) (set : List T → SL → Option SL) : TGs := fun vs σ H Q => ∃ F ts pv sl p sl', Ex F H ∧ Reps K F H ts vs pv ∧ SlR K F H sl σ p ∧ Dj pv p ∧ set ts sl = some sl' ∧
  ∀ σ' F' H' p', Keep A σ σ' → Ex F' H' → SlR K F' H' sl' σ' p' → Stp (fun a => pv a ∨ p a) F H p' F' H' → Q σ' H'
/-- a value stored in a slot -/
theorem SlR.store {K : PySem.W.Frag} {F H : Hp} {sl : SL} {σ : L2.St} {p q : FP} {t : T} {v : V} (S : SlR K F H sl σ p) (i : Nat) (R : Rep K F H t v q) (dj : Dj q p) : ∃ p', (∀ a, p' a → q a ∨ p a) ∧ SlR K F H (sl.set i t) (σ.set i (some v)) p' := by
  obtain ⟨r, sub, S1⟩ := S.drop i (some v)
  by_cases hi : i < sl.length
  · exact ⟨_, fun a x => x.imp id (sub a), S1.put2 hi R fun a x y => dj a x (sub a y)⟩
  · have e1 : sl.set i t = sl := List.set_eq_of_length_le (by omega)
    have e2 : σ.set i (some v) = σ := List.set_eq_of_length_le (by have := S.len; omega)
    rw [e1, e2]
    exact ⟨p, fun a x => .inr x, S⟩
section
variable {X : Cx} {P : Pg} {a b c x y : Expr} {xs : List Expr} {pos : Pos}
theorem pg_imp {e : Expr} {t t' : TG} (h1 : PG X e t) (h : ∀ v σ H Q, t' v σ H Q → t v σ H Q) : PG X e t' := ⟨fun pins s σ H v u Q I r w => h1.run pins s σ H v u Q I r (h v σ H Q w)⟩
theorem pgs_imp {e : List Expr} {t t' : TGs} (h1 : PGs X e t) (h : ∀ v σ H Q, t' v σ H Q → t v σ H Q) : PGs X e t' := ⟨fun pins s σ H v u Q I r w => h1.run pins s σ H v u Q I r (h v σ H Q w)⟩
theorem sg_nm {i : Nat} {n : Str} (hN : X.N.Nodup) (hi : X.N[i]? = some n) (hx : Loc X.env.scope n) (hf : X.fn n = true ∨ X.env.scope.names.lookup n = some .local) : PG X (.Name n pos) (tevG X.K (stG0 (.nm i)) (setG0 P (.nm i))) :=
  pg_imp (pg_name hN hi hx hf) fun v σ H Q ⟨F, t, pv, sl, p, sl', ex, R, S, dj, e, k⟩ => by
    cases e
    obtain ⟨p', sub, S'⟩ := S.store i R dj
    exact k _ F H p' Keep.set ex S' (Stp.refl.sub sub)
theorem sgs_nil : PGs X [] (tevGs X.K [] (setNs [])) := pgs_imp pgs_nil fun vs σ H Q ⟨F, ts, pv, sl, p, sl', ex, R, S, dj, e, k⟩ => by
  cases R with
  | nil _ =>
    cases e
    exact ⟨rfl, k σ F H p Keep.refl ex S (Stp.refl.sub fun a x => .inr x)⟩
  | cons => cases e
theorem sgs_cons {i : Nat} {is : List Nat} (h1 : PG X a (tevG X.K [i] fun t sl => some (sl.set i t))) (h2 : PGs X xs (tevGs X.K is (setNs is))) (hs : (assignEach (a :: xs) X.env).map (·.2) = assign a X.env :: (assignEach xs X.env).map (·.2)) :
    PGs X (a :: xs) (tevGs X.K (i :: is) (setNs (i :: is))) := pgs_imp (pgs_cons h1 h2 hs) fun vs σ H Q ⟨F, ts, pv, sl, p, sl', ex, R, S, dj, e, k⟩ => by
  cases R with
  | nil _ => cases e
  | @cons t v ts vs p1 q1 _ h hs d e1 =>
    refine ⟨v, vs, rfl, F, t, p1, sl, p, sl.set i t, ex, h, S, fun b x y => dj b ((e1 b).mpr (.inl x)) y, rfl, fun σ1 F1 H1 p2 k1 ex1 S1 st1 => ?_⟩
    obtain ⟨a1, a2, a3⟩ := st1.frame hs.own fun b x y => x.elim (fun z => d b z y) fun z => dj b ((e1 b).mpr (.inr y)) z
    refine ⟨F1, ts, q1, sl.set i t, p2, sl', ex1, hs.frame st1.ex a1, S1, fun b x y => a2 b y x, e, fun σ2 F2 H2 p3 k2 ex2 S2 st2 => ?_⟩
    refine k σ2 F2 H2 p3 ((k1.mono fun j z => ?_).trans (k2.mono fun j z => List.mem_cons_of_mem _ z)) ex2 S2 ?_
    · rw [List.mem_singleton.mp z]; exact List.mem_cons_self
    · refine (a3.trans (st2.cg fun b => or_comm)).cg fun b => ?_
      rw [e1 b]
      constructor
      · rintro ((x | x) | x)
        · exact .inl (.inl x)
        · exact .inr x
        · exact .inl (.inr x)
      · rintro ((x | x) | x)
        · exact .inl (.inl x)
        · exact .inr x
        · exact .inl (.inr x)
theorem sg_tp {k1 : Nat} {is : List Nat} (hc : X.calm = true) (h : PGs X xs (tevGs X.K is (setNs is))) (hn : (assignEach xs X.env).length = is.length) (hst : (assignEach xs X.env).findIdx? (·.1) = none) : PG X (.Tuple xs k1 pos) (tevG X.K (stG0 (.tp is)) (setG0 P (.tp is))) :=
  pg_imp (pg_tup hc h hn hst) fun v σ H Q ⟨F, t, pv, sl, p, sl', ex, R, S, dj, e, k⟩ => by
    cases t <;> first | (cases e; done) | skip
    rename_i ts
    have e' : setNs is ts sl = some sl' := e
    obtain ⟨a0, ys, rfl, s1, r1⟩ := R.seqT ex
    have hl : ∀ {is : List Nat} {ts : List T} {sl sl' : SL}, setNs is ts sl = some sl' → ts.length = is.length := fun {is} => by
      induction is with
      | nil => intro ts sl sl' h; cases ts <;> first | rfl | cases h
      | cons i is ih => intro ts sl sl' h; cases ts with
        | nil => cases h
        | cons t ts => exact congrArg Nat.succ (ih h)
    exact ⟨a0, ys, rfl, s1, by rw [← r1.length, hl e'], F, ts, pv, sl, p, sl', ex, r1, S, dj, e', k⟩
/-! ### o.f = .. -/
theorem pg_fld {o : Expr} {f : Str} {ta : TE} (ha : PE X o ta) (hs : ∀ v, assign (.Attribute o f pos) X.env v = (do
      let ov ← holding [v] (eval o X.env)
      standAt pos.atName
      holding [v, ov] (setAttr ov f v)
      release [v, ov] [])) : PG X (.Attribute o f pos) (fun y σ H Q => ta σ H fun x H2 => ∃ a C dx fs, x = .ref a ∧ H2 a = some (.ins C dx fs) ∧ Cls X.K C ∧ NoAttr X.K C f ∧ fs.length < 1000 ∧ Q σ (upd H2 a (.ins C dx (putF f y fs)))) := by
  refine ⟨fun pins s σ H v u Q I r h => ?_⟩
  rw [hs]
  refine wpAny_bind (wpAny_holding (thn (ha.run pins s σ H _ I h) fun ov s1 ⟨x, H1, I1, r1, a, C, dx, fs, ex, ea, c, n, l, q⟩ => ?_))
  subst ex
  obtain rfl : ov = Value.ref a := r1
  refine wpAny_bind (wpAny_standAt (wpAny_bind (wpAny_holding (setattr_ok I1 ea c n l r fun s3 I3 => ?_))))
  exact wpAny_release ⟨σ, _, I3, q⟩
theorem putF_some {f : Str} {v : V} : ∀ {fs : List (Str × V)} {i : Nat}, (fs.map (·.1)).idxOf? f = some i → (putF f v fs).map (·.1) = fs.map (·.1) ∧ (putF f v fs).map (·.2) = (fs.map (·.2)).set i v
  | [], i, h => by simp at h
  | (g, w) :: fs, i, h => by
    simp only [List.map_cons, List.idxOf?_cons] at h
    show ((if g = f then (g, v) :: fs else (g, w) :: putF f v fs) : List (Str × V)).map (·.1) = _ ∧ ((if g = f then (g, v) :: fs else (g, w) :: putF f v fs) : List (Str × V)).map (·.2) = _
    by_cases c : g = f
    · rw [if_pos (beq_iff_eq.mpr c)] at h
      cases h
      rw [if_pos c]
      exact ⟨rfl, rfl⟩
    · rw [if_neg (fun z => c (beq_iff_eq.mp z))] at h
      obtain ⟨j, e, rfl⟩ := Option.map_eq_some_iff.mp h
      obtain ⟨h1, h2⟩ := putF_some (v := v) e
      rw [if_neg c]
      exact ⟨congrArg (g :: ·) h1, congrArg (w :: ·) h2⟩
theorem putF_none {f : Str} {v : V} : ∀ {fs : List (Str × V)}, (fs.map (·.1)).idxOf? f = none → (putF f v fs).map (·.1) = fs.map (·.1) ++ [f] ∧ (putF f v fs).map (·.2) = fs.map (·.2) ++ [v]
  | [], h => ⟨rfl, rfl⟩
  | (g, w) :: fs, h => by
    simp only [List.map_cons, List.idxOf?_cons] at h
    show ((if g = f then (g, v) :: fs else (g, w) :: putF f v fs) : List (Str × V)).map (·.1) = _ ∧ ((if g = f then (g, v) :: fs else (g, w) :: putF f v fs) : List (Str × V)).map (·.2) = _
    by_cases c : g = f
    · rw [if_pos (beq_iff_eq.mpr c)] at h
      cases h
    · rw [if_neg (fun z => c (beq_iff_eq.mp z))] at h
      obtain ⟨h1, h2⟩ := putF_none (v := v) (Option.map_eq_none_iff.mp h)
      rw [if_neg c]
      exact ⟨congrArg (g :: ·) h1, congrArg (w :: ·) h2⟩
/-- an owned object is rewritten -/
theorem reown {K : PySem.W.Frag} {F H : Hp} {q q' : FP} {a : Addr} {o' : HO} {us : List T} {ys : List V} (ex : Ex F H) (n : F a = none) (own : ∀ b, q b → F b = none ∧ ∃ o, H b = some o) (nq : ¬ q a) (R : Reps K F H us ys q') (s1 : ∀ b, q' b → q b) :
    Ex F (upd H a o') ∧ Reps K F (upd H a o') us ys q' ∧ Stp (fun b => b = a ∨ q b) F H (fun b => b = a ∨ q' b) F (upd H a o') := by
  have ne : ∀ b, q b → b ≠ a := fun b x e => nq (e ▸ x)
  refine ⟨fun b o e => ?_, R.frame (Evl.Ex.refl F) fun b x => ⟨(own b (s1 b x)).1, upd_ne (ne b (s1 b x))⟩, Evl.Ex.refl F, fun b o e z => ?_, fun _ _ _ _ => rfl, fun b x => .inl (x.imp id (s1 b))⟩
  · rw [upd_ne (fun z => by subst z; rw [n] at e; cases e)]; exact ex b o e
  · rw [upd_ne fun w => z (.inl w)]; exact e
theorem setC_some {P : Pg} {c : Str} {ns : List Str} {ts : List T} {f : Str} {x z' : T} (h : setC P (.ins true c ns ts) f x = some z') : P.fd c f = true ∧ ns.length < 900 ∧ ((∃ i, ns.idxOf? f = some i ∧ z' = .ins true c ns (ts.set i x)) ∨ (ns.idxOf? f = none ∧ z' = .ins true c (ns ++ [f]) (ts ++ [x]))) := by
  have h' : (if P.fd c f && decide (ns.length < 900) then (match ns.idxOf? f with
    | some i => some (T.ins true c ns (ts.set i x))
    | none => some (T.ins true c (ns ++ [f]) (ts ++ [x]))) else none) = some z' := h
  by_cases hz : (P.fd c f && decide (ns.length < 900)) = true
  · rw [if_pos hz] at h'
    simp only [Bool.and_eq_true, decide_eq_true_eq] at hz
    refine ⟨hz.1, hz.2, ?_⟩
    cases e : ns.idxOf? f with
    | some i => rw [e] at h'; cases h'; exact .inl ⟨i, rfl, rfl⟩
    | none => rw [e] at h'; cases h'; exact .inr ⟨rfl, rfl⟩
  · rw [if_neg hz] at h'; cases h'
/-- the field of an owned instance is stored -/
theorem setC_ok {K : PySem.W.Frag} {P : Pg} {F H : Hp} {p q : FP} {c : Str} {ns : List Str} {ts : List T} {f : Str} {t z' : T} {v w : V} (C : ClsOk K P) (ex : Ex F H) (R : Rep K F H (.ins true c ns ts) w p) (Rt : Rep K F H t v q) (dj : Dj q p) (h : setC P (.ins true c ns ts) f t = some z') :
    ∃ a dx fs p', w = .ref a ∧ H a = some (.ins (He.ga K c) dx fs) ∧ Cls K (He.ga K c) ∧ NoAttr K (He.ga K c) f ∧ fs.length < 900 ∧ Ex F (upd H a (.ins (He.ga K c) dx (putF f v fs))) ∧ Rep K F (upd H a (.ins (He.ga K c) dx (putF f v fs))) z' w p' ∧
      Stp (fun b => q b ∨ p b) F H p' F (upd H a (.ins (He.ga K c) dx (putF f v fs))) ∧ fs.map (·.1) = ns := by
  obtain ⟨hf, hn, h⟩ := setC_some h
  obtain ⟨c1, c2⟩ := C.fd c f hf
  cases R with
  | @insO a dx _ fs _ _ _ q0 n hH hw r d e =>
    subst hw
    rw [List.length_map] at hn
    have own : ∀ b, (q0 b ∨ q b) → F b = none ∧ ∃ o, H b = some o := fun b x => x.elim (r.own b) (Rt.own b)
    have nq : ¬ (q0 a ∨ q a) := fun x => x.elim d fun y => dj a y ((e a).mpr (.inl rfl))
    have fin : ∀ {us : List T} {ys : List V} {q' : FP} {ns' : List Str}, Reps K F H us ys q' → (∀ b, q' b → q0 b ∨ q b) → (putF f v fs).map (·.1) = ns' → (putF f v fs).map (·.2) = ys →
        ∃ p', Ex F (upd H a (.ins (He.ga K c) dx (putF f v fs))) ∧ Rep K F (upd H a (.ins (He.ga K c) dx (putF f v fs))) (.ins true c ns' us) (.ref a) p' ∧ Stp (fun b => q b ∨ p b) F H p' F (upd H a (.ins (He.ga K c) dx (putF f v fs))) := fun {us ys q' ns'} R' sub e1 e2 => by
      obtain ⟨g1, g2, g3⟩ := reown (o' := .ins (He.ga K c) dx (putF f v fs)) ex n own nq R' sub
      refine ⟨_, g1, .insO n upd_same e1 (e2 ▸ g2) (fun x => nq (sub a x)) fun b => Iff.rfl, g3.cg fun b => ?_⟩
      rw [e b]
      constructor
      · rintro (x | x | x)
        · exact .inr (.inl x)
        · exact .inr (.inr x)
        · exact .inl x
      · rintro (x | x | x)
        · exact .inr (.inr x)
        · exact .inl x
        · exact .inr (.inl x)
    rcases h with ⟨i, hi, rfl⟩ | ⟨hi, rfl⟩
    · obtain ⟨e1, e2⟩ := putF_some (v := v) hi
      have hil : i < ts.length := by
        have h2 := (List.idxOf?_eq_some_iff.mp hi).1
        rw [r.length]; simpa using h2
      obtain ⟨w0, qi, ri, _, _, dji, ei, Ri⟩ := r.focus (i := i) (t := ts[i]) (by simp [hil])
      have R2 := Ri.put (i := i) (t := t) (v := v) (q := q) (by rw [List.getElem?_set_self hil]) Rt fun b x y => dj b x ((e b).mpr (.inr ((ei b).mpr (.inr y))))
      rw [List.set_set] at R2
      obtain ⟨p', g1, g2, g3⟩ := fin R2 (fun b x => x.elim .inr fun y => .inl ((ei b).mpr (.inr y))) e1 e2
      exact ⟨a, dx, fs, p', rfl, hH, c1, c2, hn, g1, g2, g3, rfl⟩
    · obtain ⟨e1, e2⟩ := putF_none (v := v) hi
      have R2 := r.app (Reps.one Rt) fun b x y => dj b y ((e b).mpr (.inr x))
      obtain ⟨p', g1, g2, g3⟩ := fin R2 (fun b x => x) e1 e2
      exact ⟨a, dx, fs, p', rfl, hH, c1, c2, hn, g1, g2, g3, rfl⟩
theorem sg_at {r : Nat} {n f : Str} {pn : Pos} (C : ClsOk X.K P) (hN : X.N[r]? = some n) (hv : Vis X.env.scope n) (hd : (n == ("__debug__" : Str)) = false) (hcd : (n == ("__classdict__" : Str)) = false) : PG X (.Attribute (.Name n pn) f pos) (tevG X.K (stG0 (.at r f)) (setG0 P (.at r f))) :=
  pg_imp (pg_fld (pe_var hN hv hd hcd) fun _ => rfl) fun v σ H Q ⟨F, t, pv, sl, p, sl', ex, R, S, dj, e, k⟩ => by
    have e' : (look sl r).bind (fun z => match z with
      | .ins true c ns ts => (setC P z f t).bind fun z' => some (sl.set r z')
      | _ => none) = some sl' := e
    obtain ⟨z, e1, e2⟩ := Option.bind_eq_some_iff.mp e'
    obtain ⟨w, q, r1, g0, Rz, djz, ez, S1⟩ := S.take e1
    cases z <;> first | (cases e2; done) | skip
    rename_i o c ns ts
    cases o <;> first | (cases e2; done) | skip
    obtain ⟨z', e3, e4⟩ := Option.bind_eq_some_iff.mp e2
    cases e4
    obtain ⟨a, dx, fs, p', rfl, h1, h2, h3, h4, h5, h6, h7, _⟩ := setC_ok C ex Rz R (fun b x y => dj b x ((ez b).mpr (.inl y))) e3
    obtain ⟨a1, a2, a3⟩ := h7.frame S1.own fun b x y => x.elim (fun z => dj b z ((ez b).mpr (.inr y))) fun z => djz b z y
    have S3 := (S1.frame h7.ex a1).put (set_hole_put e1) g0 h6 a2
    rw [List.set_set] at S3
    refine ⟨_, g0, a, _, dx, fs, rfl, h1, h2, h3, by omega, k σ F _ _ Keep.refl h5 S3 (a3.cg fun b => ?_)⟩
    rw [ez b]; exact or_assoc
end
end Pv

/-! What is walked. -/
namespace Pv
open PySem L2 PyProof.Rows
/-- the iterator J hands out the frozen values ts -/
structure WalkT (K : PySem.W.Frag) (ts : List T) (F H : Hp) (J : L2.It) : Prop where
  stop : ∀ F2 H2, Ex F F2 → Ex F2 H2 → J.stop ts.length H2
  go : ∀ (i : Nat) t F2 H2, ts[i]? = some t → Ex F F2 → Ex F2 H2 → J.go i H2 ∧ ∀ x H3, J.yld i H2 x H3 → ∃ F3, Ex F3 H3 ∧ Rep K F3 H3 t x nop ∧ Stp nop F2 H2 nop F3 H3
def tevI (K : PySem.W.Frag) (P : Pg) (it : Pv.It) : TI := fun σ H R => ∃ F sl p ts sl', Ex F H ∧ SlR K F H sl σ p ∧ evI P it sl = some (ts, sl') ∧
  ∀ J F' H' p', WalkT K ts F' H' J → Ex F' H' → SlR K F' H' sl' σ p' → Stp p F H p' F' H' → R J H'
section
variable {K : PySem.W.Frag} {F F' H H' : Hp} {σ : L2.St} {p p' q : FP} {ts : List T} {xs : List V}
/-- what is frozen at a value: the row -/
theorem frz_row {t : T} {v : V} {us : List T} (R : Rep K F H (frz t) v nop) (h : items t = some us) : ∃ a xs, v = .ref a ∧ ((∃ o, t = .lst o us) ∧ Rd F a (.lst xs) ∨ t = .tup us ∧ SqT K F a xs) ∧ Reps K F H (frzs us) xs nop := by
  cases t <;> first | (cases h; done) | skip
  · cases h
    simp only [frz] at R
    cases R with
    | tup s r => exact ⟨_, _, rfl, .inr ⟨rfl, s⟩, r⟩
  · cases h
    simp only [frz] at R
    cases R with
    | lstF s r => exact ⟨_, _, rfl, .inl ⟨⟨_, rfl⟩, s⟩, r⟩
theorem Reps.atN (R : Reps K F H ts xs nop) {i : Nat} {t : T} (h : ts[i]? = some t) : ∃ v, xs[i]? = some v ∧ Rep K F H t v nop := by
  obtain ⟨v, q, e, r, sub⟩ := R.at_ h
  exact ⟨v, e, r.cg fun b => ⟨sub b, fun x => x.elim⟩⟩
theorem Rep.upF {t : T} {v : V} (R : Rep K F H t v nop) (ex : Ex F F') : Rep K F' H' t v nop := R.frame ex fun _ x => x.elim
theorem walks_list {a : Addr} (s : Rd F a (.lst xs)) (R : Reps K F H ts xs nop) : WalkT K ts F H (Itl K a) where
  stop := fun F2 H2 e1 e2 => ⟨xs, .inl (Evl.ex_rd e2 (Evl.ex_rd e1 s)), by rw [R.length]; exact Nat.le_refl _⟩
  go := fun i t F2 H2 h e1 e2 => by
    obtain ⟨v, hv, r⟩ := R.atN h
    have s2 : SqL K H2 a xs := .inl (Evl.ex_rd e2 (Evl.ex_rd e1 s))
    refine ⟨⟨xs, v, s2, hv⟩, fun x H3 ⟨e, y⟩ => ?_⟩
    subst e
    have := y xs s2
    rw [hv] at this; cases this
    exact ⟨F2, e2, r.upF e1, Stp.refl⟩
theorem walks_tup {a : Addr} (s : SqT K F a xs) (R : Reps K F H ts xs nop) : WalkT K ts F H (Itt K a) where
  stop := fun F2 H2 e1 e2 => ⟨xs, Evl.ex_t e2 (Evl.ex_t e1 s), by rw [R.length]; exact Nat.le_refl _⟩
  go := fun i t F2 H2 h e1 e2 => by
    obtain ⟨v, hv, r⟩ := R.atN h
    have s2 : SqT K H2 a xs := Evl.ex_t e2 (Evl.ex_t e1 s)
    refine ⟨⟨xs, v, s2, hv⟩, fun x H3 ⟨e, y⟩ => ?_⟩
    subst e
    have := y xs s2
    rw [hv] at this; cases this
    exact ⟨F2, e2, r.upF e1, Stp.refl⟩
theorem walks_rng {lo hi : Int} : WalkT K (rngU lo hi) F H (Itr lo (hi - lo).toNat) where
  stop := fun F2 H2 e1 e2 => by
    show (hi - lo).toNat ≤ (rngU lo hi).length
    simp [rngU]
  go := fun i t F2 H2 h e1 e2 => by
    unfold rngU at h
    rw [List.getElem?_map] at h
    obtain ⟨k, hk, e⟩ := Option.map_eq_some_iff.mp h
    obtain ⟨h1, h2⟩ := List.getElem?_eq_some_iff.mp hk
    rw [List.length_range] at h1
    rw [List.getElem_range] at h2
    subst h2 e
    refine ⟨h1, fun x H3 ⟨e, y⟩ => ?_⟩
    subst e y
    exact ⟨F2, e2, .int fun _ x => x, Stp.refl⟩
theorem walks_rngD {lo hi : Int} : WalkT K (rngD lo hi) F H (Itc lo (-1) (lo - hi).toNat) where
  stop := fun F2 H2 e1 e2 => by
    show (lo - hi).toNat ≤ (rngD lo hi).length
    simp [rngD]
  go := fun i t F2 H2 h e1 e2 => by
    unfold rngD at h
    rw [List.getElem?_map] at h
    obtain ⟨k, hk, e⟩ := Option.map_eq_some_iff.mp h
    obtain ⟨h1, h2⟩ := List.getElem?_eq_some_iff.mp hk
    rw [List.length_range] at h1
    rw [List.getElem_range] at h2
    subst h2 e
    refine ⟨h1, fun x H3 ⟨e, y⟩ => ?_⟩
    subst e y
    exact ⟨F2, e2, .int fun _ x => x, Stp.refl⟩
/-- a new tuple of frozen values -/
theorem fresh_tup {F2 H2 : Hp} {us : List T} {ys : List V} {a : Addr} (e2 : Ex F2 H2) (n : H2 a = none) (R : Reps K F2 H2 us ys nop) : ∃ F3, Ex F3 (upd H2 a (.tup ys)) ∧ Rep K F3 (upd H2 a (.tup ys)) (.tup us) (.ref a) nop ∧ Stp nop F2 H2 nop F3 (upd H2 a (.tup ys)) := by
  obtain ⟨b1, b2, b3⟩ := new_tup e2 n R
  exact ⟨_, b1, b2, b3⟩
theorem walks_enum {a : Addr} (s : Rd F a (.lst xs)) (R : Reps K F H ts xs nop) : WalkT K (ts.mapIdx fun i t => .tup [.int (i : Nat), t]) F H (Ite K a) where
  stop := fun F2 H2 e1 e2 => ⟨xs, .inl (Evl.ex_rd e2 (Evl.ex_rd e1 s)), by rw [List.length_mapIdx, R.length]; exact Nat.le_refl _⟩
  go := fun i t F2 H2 h e1 e2 => by
    rw [List.getElem?_mapIdx] at h
    obtain ⟨t0, h0, e⟩ := Option.map_eq_some_iff.mp h
    subst e
    obtain ⟨v, hv, r⟩ := R.atN h0
    have s2 : SqL K H2 a xs := .inl (Evl.ex_rd e2 (Evl.ex_rd e1 s))
    refine ⟨⟨xs, v, s2, hv⟩, fun x H3 ⟨T0, w, e, n, e3, y⟩ => ?_⟩
    subst e e3
    have := y xs s2
    rw [hv] at this; cases this
    exact fresh_tup e2 n (.cons (.int (p := nop) fun _ x => x) (.cons (r.upF e1) (.nil (p := nop) fun _ x => x) (fun _ x => x.elim) fun b => ⟨.inl, fun x => x.elim id id⟩) (fun _ x => x.elim) fun b => ⟨.inl, fun x => x.elim id id⟩)
theorem pair_nop {t u : T} {v w : V} (h : Rep K F H t v nop) (g : Rep K F H u w nop) : Reps K F H [t, u] [v, w] nop :=
  .cons h (.cons g (.nil (p := nop) fun _ x => x) (fun _ x => x.elim) fun b => ⟨.inl, fun x => x.elim id id⟩) (fun _ x => x.elim) fun b => ⟨.inl, fun x => x.elim id id⟩
theorem walks_zip {a b : Addr} {us : List T} {ys : List V} (s : Rd F a (.lst xs)) (R : Reps K F H ts xs nop) (s' : Rd F b (.lst ys)) (R' : Reps K F H us ys nop) : WalkT K (List.zipWith (fun t u => .tup [t, u]) ts us) F H (Itz K a b) where
  stop := fun F2 H2 e1 e2 => ⟨xs, ys, .inl (Evl.ex_rd e2 (Evl.ex_rd e1 s)), .inl (Evl.ex_rd e2 (Evl.ex_rd e1 s')), by
    rw [List.length_zipWith, ← R.length, ← R'.length]; omega⟩
  go := fun i t F2 H2 h e1 e2 => by
    rw [List.getElem?_zipWith] at h
    cases h0 : ts[i]? with
    | none => rw [h0] at h; cases h
    | some t0 =>
      cases h1 : us[i]? with
      | none => rw [h0, h1] at h; cases h
      | some u0 =>
        rw [h0, h1] at h; cases h
        obtain ⟨v, hv, r⟩ := R.atN h0
        obtain ⟨w, hw, r'⟩ := R'.atN h1
        have s2 : SqL K H2 a xs := .inl (Evl.ex_rd e2 (Evl.ex_rd e1 s))
        have s3 : SqL K H2 b ys := .inl (Evl.ex_rd e2 (Evl.ex_rd e1 s'))
        refine ⟨⟨xs, ys, v, w, s2, s3, hv, hw⟩, fun x H3 ⟨T0, x1, y1, e, n, e3, yx, yy⟩ => ?_⟩
        subst e e3
        have z1 := yx xs s2
        have z2 := yy ys s3
        rw [hv] at z1; rw [hw] at z2
        cases z1; cases z2
        exact fresh_tup e2 n (pair_nop (r.upF e1) (r'.upF e1))
theorem walks_zipT {a b : Addr} {us : List T} {ys : List V} (s : SqT K F a xs) (R : Reps K F H ts xs nop) (s' : SqT K F b ys) (R' : Reps K F H us ys nop) : WalkT K (List.zipWith (fun t u => .tup [t, u]) ts us) F H (RZ.ItzT K a b) where
  stop := fun F2 H2 e1 e2 => ⟨xs, ys, Evl.ex_t e2 (Evl.ex_t e1 s), Evl.ex_t e2 (Evl.ex_t e1 s'), by
    rw [List.length_zipWith, ← R.length, ← R'.length]; omega⟩
  go := fun i t F2 H2 h e1 e2 => by
    rw [List.getElem?_zipWith] at h
    cases h0 : ts[i]? with
    | none => rw [h0] at h; cases h
    | some t0 =>
      cases h1 : us[i]? with
      | none => rw [h0, h1] at h; cases h
      | some u0 =>
        rw [h0, h1] at h; cases h
        obtain ⟨v, hv, r⟩ := R.atN h0
        obtain ⟨w, hw, r'⟩ := R'.atN h1
        have s2 : SqT K H2 a xs := Evl.ex_t e2 (Evl.ex_t e1 s)
        have s3 : SqT K H2 b ys := Evl.ex_t e2 (Evl.ex_t e1 s')
        refine ⟨⟨xs, ys, v, w, s2, s3, hv, hw⟩, fun x H3 ⟨T0, x1, y1, e, n, e3, yx, yy⟩ => ?_⟩
        subst e e3
        have z1 := yx xs s2
        have z2 := yy ys s3
        rw [hv] at z1; rw [hw] at z2
        cases z1; cases z2
        exact fresh_tup e2 n (pair_nop (r.upF e1) (r'.upF e1))
theorem rev_at {α : Type} {l : List α} {i : Nat} {x : α} (h : l.reverse[i]? = some x) : i < l.length ∧ l[l.length - 1 - i]? = some x := by
  have hi : i < l.length := by
    have := (List.getElem?_eq_some_iff.mp h).1
    simpa using this
  rw [List.getElem?_reverse hi] at h
  exact ⟨hi, h⟩
theorem walks_rev {a : Addr} (s : Rd F a (.lst xs)) (R : Reps K F H ts xs nop) : WalkT K ts.reverse F H (Itv K a xs.length) where
  stop := fun F2 H2 e1 e2 => by
    show xs.length ≤ ts.reverse.length
    rw [List.length_reverse, R.length]; exact Nat.le_refl _
  go := fun i t F2 H2 h e1 e2 => by
    obtain ⟨hi, h'⟩ := rev_at h
    rw [R.length] at hi h'
    obtain ⟨v, hv, r⟩ := R.atN h'
    have s2 : SqL K H2 a xs := .inl (Evl.ex_rd e2 (Evl.ex_rd e1 s))
    refine ⟨⟨hi, xs, v, s2, hv⟩, fun x H3 ⟨e, y⟩ => ?_⟩
    subst e
    have := y xs s2
    rw [hv] at this; cases this
    exact ⟨F2, e2, r.upF e1, Stp.refl⟩
/-- the walked value is frozen -/
theorem freeze {sl' : SL} {t : T} {v : V} {pv : FP} (S : SlR K F' H' sl' σ p') (R : Rep K F' H' t v pv) (ex : Ex F' H') (dj : Dj pv p') (st : Stp p F H (fun a => pv a ∨ p' a) F' H') :
    ∃ F2, Ex F' F2 ∧ Ex F2 H' ∧ SlR K F2 H' sl' σ p' ∧ Rep K F2 H' (frz t) v nop ∧ Stp p F H p' F2 H' := by
  have exF : Ex F' (frF F' H' pv) := frF_ex fun a x => (R.own a x).1
  refine ⟨frF F' H' pv, exF, frF_sub ex, S.frame exF fun a x => ⟨(frF_out fun z => dj a z x).trans (S.own a x).1, rfl⟩, R.frz exF fun a x => frF_in x, ?_⟩
  have s2 : Stp (fun a => pv a ∨ p' a) F' H' p' (frF F' H' pv) H' := ⟨exF, fun _ _ h _ => h, fun a o h n => frF_out fun z => n (.inl z), fun a x => .inl (.inr x)⟩
  exact st.trans s2
end
section
variable {X : Cx} {P : Pg} {a b c x y : Expr} {xs : List Expr} {a' b' c' e : E} {es : Es} {pos : Pos} {tg : Expr}
theorem si_seq (ha : Sd X P a a') : PI X tg a (tevI X.K P (.seq a')) := pi_any fun σ H R ⟨F, sl, p, ts, sl', ex, S, e, k⟩ => by
  simp only [evI, Option.bind_eq_some_iff] at e
  obtain ⟨⟨t1, sl1⟩, e1, us, e2, e3⟩ := e
  cases e3
  have main : ∀ v F' H' pv p', Ex F' H' → SlR X.K F' H' sl1 σ p' → Rep X.K F' H' t1 v pv → Dj pv p' → Stp p F H (fun a => pv a ∨ p' a) F' H' →
      ∃ a xs, v = .ref a ∧ (((∃ o, t1 = .lst o us) ∧ (∃ xs, SqL X.K H' a xs) ∧ R (Itl X.K a) H') ∨ (t1 = .tup us ∧ (∃ xs, SqT X.K H' a xs) ∧ R (Itt X.K a) H')) := fun v F' H' pv p' ex' S' R' dj st => by
    obtain ⟨F2, f1, f2, S2, R2, st2⟩ := freeze S' R' ex' dj st
    obtain ⟨a, xs, rfl, h, r⟩ := frz_row R2 e2
    refine ⟨a, xs, rfl, ?_⟩
    rcases h with ⟨h1, h2⟩ | ⟨h1, h2⟩
    · exact .inl ⟨h1, ⟨xs, .inl (Evl.ex_rd f2 h2)⟩, k _ F2 H' p' (walks_list h2 r) f2 S2 st2⟩
    · exact .inr ⟨h1, ⟨xs, Evl.ex_t f2 h2⟩, k _ F2 H' p' (walks_tup h2 r) f2 S2 st2⟩
  cases t1 <;> first | (cases e2; done) | skip
  · refine ⟨_, pi_tup (ha.v .e (by decide)), F, sl, p, _, _, ex, S, e1, fun v F' H' pv p' ex' S' R' dj st => ?_⟩
    obtain ⟨a, xs, rfl, ⟨⟨o, h⟩, _⟩ | ⟨_, h2, h3⟩⟩ := main v F' H' pv p' ex' S' R' (dj rfl) st
    · cases h
    · exact ⟨a, rfl, h2, h3⟩
  · refine ⟨_, pi_list (ha.v .e (by decide)), F, sl, p, _, _, ex, S, e1, fun v F' H' pv p' ex' S' R' dj st => ?_⟩
    obtain ⟨a, xs, rfl, ⟨_, h2, h3⟩ | ⟨h, _⟩⟩ := main v F' H' pv p' ex' S' R' (dj rfl) st
    · exact ⟨a, rfl, h2, h3⟩
    · cases h
theorem rngOk_ {lo hi : Int} (h : rngOk lo hi = true) : -(2 ^ 62) ≤ lo ∧ lo < 2 ^ 62 ∧ -(2 ^ 62) ≤ hi ∧ hi < 2 ^ 62 := by
  simp only [rngOk, Bool.and_eq_true, decide_eq_true_eq] at h
  omega
theorem si_rng1 {p : Pos} (hg : Gl X "range") (hm : X.mg "range" = none) (ha : Sd X P a a') (hs : starEach [a] X.env = (false, eval a X.env) :: starEach [] X.env) : PI X tg (.Call (.Name "range" p) [a] [] pos) (tevI X.K P (.rng1 a')) :=
  pi_imp (pi_range1 hg hm (pa_cons (ha.v .e (by decide)) pa_nil hs) hs) fun σ H R ⟨F, sl, p, ts, sl', ex, S, e, k⟩ => by
    simp only [evI, Option.bind_eq_some_iff] at e
    obtain ⟨⟨t1, sl1⟩, e1, e2⟩ := e
    cases t1 <;> first | (cases e2; done) | skip
    rename_i n
    have e2' : (if rngOk 0 n then some (rngU 0 n, sl1) else none) = some (ts, sl') := e2
    by_cases hz : rngOk 0 n = true
    · rw [if_pos hz] at e2'; cases e2'
      obtain ⟨_, _, b1, b2⟩ := rngOk_ hz
      refine ⟨F, sl, p, _, _, ex, S, e1, fun v F' H' pv p' ex' S' R' dj st => ?_⟩
      obtain ⟨rfl, _⟩ := R'.int'
      refine ⟨n, rfl, b1, b2, k _ F' H' p' ?_ ex' S' (st.sub fun a x => .inr x)⟩
      have := walks_rng (K := X.K) (F := F') (H := H') (lo := 0) (hi := n)
      rw [Int.sub_zero] at this
      exact this
    · rw [if_neg hz] at e2'; cases e2'
theorem si_rng2 {p : Pos} (hg : Gl X "range") (hm : X.mg "range" = none) (ha : Sd X P a a') (hb : Sd X P b b') (hs : starEach [a, b] X.env = (false, eval a X.env) :: starEach [b] X.env) (hs2 : starEach [b] X.env = (false, eval b X.env) :: starEach [] X.env) : PI X tg (.Call (.Name "range" p) [a, b] [] pos) (tevI X.K P (.rng2 a' b')) :=
  pi_imp (pi_range2 hg hm (pa_cons (ha.v .e (by decide)) (pa_cons (hb.v .e (by decide)) pa_nil hs2) hs) (by rw [hs, hs2]; rfl) (by rw [hs2]; rfl)) fun σ H R ⟨F, sl, p, ts, sl', ex, S, e, k⟩ => by
    simp only [evI, Option.bind_eq_some_iff] at e
    obtain ⟨⟨t1, sl1⟩, e1, ⟨t2, sl2⟩, e2, e3⟩ := e
    cases t1 <;> first | (cases e3; done) | skip
    cases t2 <;> first | (cases e3; done) | skip
    rename_i n m
    have e3' : (if rngOk n m then some (rngU n m, sl2) else none) = some (ts, sl') := e3
    by_cases hz : rngOk n m = true
    · rw [if_pos hz] at e3'; cases e3'
      refine ⟨F, sl, p, _, _, ex, S, e1, fun v F' H' pv p' ex' S' R' dj st => ?_⟩
      obtain ⟨rfl, _⟩ := R'.int'
      refine ⟨F', _, p', _, _, ex', S', e2, fun v F2 H2 pv2 p2 ex2 S2 R2 dj2 st2 => ?_⟩
      obtain ⟨rfl, _⟩ := R2.int'
      exact ⟨n, m, rfl, rngOk_ hz, k _ F2 H2 p2 walks_rng ex2 S2 ((st.sub fun a x => .inr x).trans (st2.sub fun a x => .inr x))⟩
    · rw [if_neg hz] at e3'; cases e3'
theorem si_rng3 {p : Pos} (hg : Gl X "range") (hm : X.mg "range" = none) (ha : Sd X P a a') (hb : Sd X P b b') (hc : Sd X P c c') (hs : starEach [a, b, c] X.env = (false, eval a X.env) :: starEach [b, c] X.env) (hs2 : starEach [b, c] X.env = (false, eval b X.env) :: starEach [c] X.env)
    (hs3 : starEach [c] X.env = (false, eval c X.env) :: starEach [] X.env) (hpl : (backTo pos (starEach [b, c] X.env)).any (·.1) = false) : PI X tg (.Call (.Name "range" p) [a, b, c] [] pos) (tevI X.K P (.rng3 a' b' c')) :=
  pi_imp (pi_range3 hg hm (pa_cons (ha.v .e (by decide)) (pa_cons (hb.v .e (by decide)) (pa_cons (hc.v .e (by decide)) pa_nil hs3) hs2) hs) hs hpl) fun σ H R ⟨F, sl, p, ts, sl', ex, S, e, k⟩ => by
    simp only [evI, Option.bind_eq_some_iff] at e
    obtain ⟨⟨t1, sl1⟩, e1, ⟨t2, sl2⟩, e2, ⟨t3, sl3⟩, e3, e4⟩ := e
    cases t1 <;> first | (cases e4; done) | skip
    cases t2 <;> first | (cases e4; done) | skip
    cases t3 <;> first | (cases e4; done) | skip
    rename_i n m j
    have e4' : (if rngOk n m && decide (j = -1) then some (rngD n m, sl3) else none) = some (ts, sl') := e4
    by_cases hz : (rngOk n m && decide (j = -1)) = true
    · rw [if_pos hz] at e4'; cases e4'
      simp only [Bool.and_eq_true, decide_eq_true_eq] at hz
      obtain ⟨hz, rfl⟩ := hz
      obtain ⟨b1, b2, b3, b4⟩ := rngOk_ hz
      refine ⟨F, sl, p, _, _, ex, S, e1, fun v F' H' pv p' ex' S' R' dj st => ?_⟩
      obtain ⟨rfl, _⟩ := R'.int'
      refine ⟨F', _, p', _, _, ex', S', e2, fun v F2 H2 pv2 p2 ex2 S2 R2 dj2 st2 => ?_⟩
      obtain ⟨rfl, _⟩ := R2.int'
      refine ⟨F2, _, p2, _, _, ex2, S2, e3, fun v F3 H3 pv3 p3 ex3 S3 R3 dj3 st3 => ?_⟩
      obtain ⟨rfl, _⟩ := R3.int'
      exact ⟨n, m, -1, _, rfl, RgC.neg b1 b2 b3 b4, k _ F3 H3 p3 walks_rngD ex3 S3 (((st.sub fun a x => .inr x).trans (st2.sub fun a x => .inr x)).trans (st3.sub fun a x => .inr x))⟩
    · rw [if_neg hz] at e4'; cases e4'
theorem si_enum {p tpos : Pos} {elts : List Expr} {kk : Nat} (hg : Gl X "enumerate") (hm : X.mg "enumerate" = none) (ha : Sd X P a a') (hs : starEach [a] X.env = (false, eval a X.env) :: starEach [] X.env) : PI X (.Tuple elts kk tpos) (.Call (.Name "enumerate" p) [a] [] pos) (tevI X.K P (.enum a')) :=
  pi_imp (pi_enum hg hm (pa_cons (ha.v .e (by decide)) pa_nil hs) hs) fun σ H R ⟨F, sl, p, ts, sl', ex, S, e, k⟩ => by
    simp only [evI, Option.bind_eq_some_iff] at e
    obtain ⟨⟨t1, sl1⟩, e1, e2⟩ := e
    cases t1 <;> first | (cases e2; done) | skip
    rename_i o us
    cases e2
    refine ⟨F, sl, p, _, _, ex, S, e1, fun v F' H' pv p' ex' S' R' dj st => ?_⟩
    obtain ⟨F2, f1, f2, S2, R2, st2⟩ := freeze S' R' ex' (dj rfl) st
    obtain ⟨a, xs, rfl, h, r⟩ := frz_row (us := us) R2 rfl
    rcases h with ⟨h1, h2⟩ | ⟨h1, h2⟩
    · exact ⟨a, xs, rfl, .inl (Evl.ex_rd f2 h2), k _ F2 H' p' (walks_enum h2 r) f2 S2 st2⟩
    · cases h1
theorem si_zip {p tpos : Pos} {elts : List Expr} {kk : Nat} (hg : Gl X "zip") (hm : X.mg "zip" = none) (ha : Sd X P a a') (hb : Sd X P b b') (hs : starEach [a, b] X.env = (false, eval a X.env) :: starEach [b] X.env) (hs2 : starEach [b] X.env = (false, eval b X.env) :: starEach [] X.env)
    (hpl : (backTo pos (starEach [b] X.env)).any (·.1) = false) : PI X (.Tuple elts kk tpos) (.Call (.Name "zip" p) [a, b] [] pos) (tevI X.K P (.zip a' b')) :=
  pi_imp (RZ.pi_zipA hg hm (pa_cons (ha.v .e (by decide)) (pa_cons (hb.v .e (by decide)) pa_nil hs2) hs) hs hpl) fun σ H R ⟨F, sl, p, ts, sl', ex, S, e, k⟩ => by
    simp only [evI, Option.bind_eq_some_iff] at e
    obtain ⟨⟨t1, sl1⟩, e1, ⟨t2, sl2⟩, e2, e3⟩ := e
    refine ⟨F, sl, p, _, _, ex, S, e1, fun v F' H' pv p' ex' S' R' dj st => ?_⟩
    obtain ⟨F2, f1, f2, S2, R2, st2⟩ := freeze S' R' ex' (dj rfl) st
    refine ⟨F2, _, p', _, _, f2, S2, e2, fun v3 F3 H3 pv3 p3 ex3 S3 R3 dj3 st3 => ?_⟩
    obtain ⟨F4, g1, g2, S4, R4, st4⟩ := freeze S3 R3 ex3 (dj3 rfl) st3
    have R2' := R2.upF (H' := H3) (st3.ex.trans g1)
    cases t1 <;> cases t2 <;> first | (cases e3; done) | skip
    · cases e3
      obtain ⟨a, xs, rfl, h, r⟩ := frz_row (us := _) R2' rfl
      obtain ⟨b, ys, rfl, h', r'⟩ := frz_row (us := _) R4 rfl
      rcases h with ⟨⟨_, h1⟩, h2⟩ | ⟨h1, h2⟩
      · cases h1
      · rcases h' with ⟨⟨_, h1⟩, h3⟩ | ⟨h1, h3⟩
        · cases h1
        · exact ⟨a, b, xs, ys, rfl, .inr ⟨Evl.ex_t g2 h2, Evl.ex_t g2 h3, k _ F4 H3 p3 (walks_zipT h2 r h3 r') g2 S4 (st2.trans st4)⟩⟩
    · cases e3
      obtain ⟨a, xs, rfl, h, r⟩ := frz_row (us := _) R2' rfl
      obtain ⟨b, ys, rfl, h', r'⟩ := frz_row (us := _) R4 rfl
      rcases h with ⟨_, h2⟩ | ⟨h1, h2⟩
      · rcases h' with ⟨_, h3⟩ | ⟨h1, h3⟩
        · exact ⟨a, b, xs, ys, rfl, .inl ⟨.inl (Evl.ex_rd g2 h2), .inl (Evl.ex_rd g2 h3), k _ F4 H3 p3 (walks_zip h2 r h3 r') g2 S4 (st2.trans st4)⟩⟩
        · cases h1
      · cases h1
theorem si_rev {p : Pos} (hg : Gl X "reversed") (hm : X.mg "reversed" = none) (ha : Sd X P a a') (hs : starEach [a] X.env = (false, eval a X.env) :: starEach [] X.env) : PI X tg (.Call (.Name "reversed" p) [a] [] pos) (tevI X.K P (.rev a')) :=
  pi_imp (RT.pi_revA hg hm (ha.v .e (by decide)) hs) fun σ H R ⟨F, sl, p, ts, sl', ex, S, e, k⟩ => by
    simp only [evI, Option.bind_eq_some_iff] at e
    obtain ⟨⟨t1, sl1⟩, e1, us, e2, e3⟩ := e
    cases e3
    refine ⟨F, sl, p, _, _, ex, S, e1, fun v F' H' pv p' ex' S' R' dj st => ?_⟩
    obtain ⟨F2, f1, f2, S2, R2, st2⟩ := freeze S' R' ex' (dj rfl) st
    obtain ⟨a, xs, rfl, h, r⟩ := frz_row R2 e2
    rcases h with ⟨h1, h2⟩ | ⟨h1, h2⟩
    · exact ⟨a, xs, rfl, .inl ⟨.inl (Evl.ex_rd f2 h2), k _ F2 H' p' (walks_rev h2 r) f2 S2 st2⟩⟩
    · refine ⟨a, xs, rfl, .inr ⟨Evl.ex_t f2 h2, k _ F2 H' p' ⟨fun F3 H3 e1 e2 => ?_, fun i t F3 H3 h e1 e2 => ?_⟩ f2 S2 st2⟩⟩
      · show xs.length ≤ (frzs us).reverse.length
        rw [List.length_reverse, r.length]; exact Nat.le_refl _
      · obtain ⟨hi, h'⟩ := rev_at h
        rw [r.length] at hi h'
        obtain ⟨v, hv, r0⟩ := r.atN h'
        have s2 : SqT X.K H3 a xs := Evl.ex_t e2 (Evl.ex_t e1 h2)
        refine ⟨⟨hi, xs, v, s2, hv⟩, fun x H4 ⟨e, y⟩ => ?_⟩
        subst e
        have := y xs s2
        rw [hv] at this; cases this
        exact ⟨F3, e2, r0.upF e1, Stp.refl⟩
end
end Pv

/-! Comprehensions. -/
namespace Pv
open PySem L2 PyProof.Rows
theorem wipe_get {σ : L2.St} {i : Nat} : ∀ {vs : List Nat}, (wipe σ vs)[i]? = if i ∈ vs then (σ[i]?).map (fun _ => none) else σ[i]?
  | [] => by simp [wipe]
  | v :: vs => by
    unfold wipe
    by_cases hi : v = i
    · subst hi
      rw [if_pos List.mem_cons_self]
      by_cases hv : v < (wipe σ vs).length
      · rw [List.getElem?_set_self hv]
        rw [wipe_length] at hv
        simp [hv]
      · rw [List.getElem?_eq_none (by simpa using hv)]
        rw [wipe_length] at hv
        rw [List.getElem?_eq_none (by omega)]
        rfl
    · rw [List.getElem?_set_ne hi, wipe_get (vs := vs)]
      by_cases h2 : i ∈ vs
      · rw [if_pos h2, if_pos (List.mem_cons_of_mem _ h2)]
      · rw [if_neg h2, if_neg (fun z => (List.mem_cons.mp z).elim (fun e => hi e.symm) h2)]
theorem wipe_keep {σ σ2 : L2.St} {A vs : List Nat} (k : Keep A (wipe σ vs) σ2) (h : ∀ i ∈ A, i ∈ vs) : wipe σ2 vs = wipe σ vs := by
  apply List.ext_getElem?
  intro i
  rw [wipe_get, wipe_get]
  by_cases hi : i ∈ vs
  · rw [if_pos hi, if_pos hi]
    have l := k.1
    rw [wipe_length] at l
    by_cases z : i < σ.length
    · simp [z, show i < σ2.length by omega]
    · simp [show σ.length ≤ i by omega, show σ2.length ≤ i by omega]
  · rw [if_neg hi, if_neg hi]
    rw [k.2 i fun z => hi (h i z), wipe_get, if_neg hi]
/-- the block's own as they were -/
def unw (σ0 : L2.St) : List Nat → L2.St → L2.St
  | [], σ => σ
  | i :: is, σ => (unw σ0 is σ).set i (σ0[i]?.getD none)
theorem unw_len {σ0 σ : L2.St} : ∀ {vs : List Nat}, (unw σ0 vs σ).length = σ.length
  | [] => rfl
  | v :: vs => by unfold unw; rw [List.length_set, unw_len]
theorem unw_get {σ0 σ : L2.St} {i : Nat} : ∀ {vs : List Nat}, (unw σ0 vs σ)[i]? = if i ∈ vs then (σ[i]?).map (fun _ => σ0[i]?.getD none) else σ[i]?
  | [] => by simp [unw]
  | v :: vs => by
    unfold unw
    by_cases hi : v = i
    · subst hi
      rw [if_pos List.mem_cons_self]
      by_cases hv : v < (unw σ0 vs σ).length
      · rw [List.getElem?_set_self hv]
        rw [unw_len] at hv
        simp [hv]
      · rw [List.getElem?_eq_none (by simpa using hv)]
        rw [unw_len] at hv
        rw [List.getElem?_eq_none (l := σ) (by omega)]
        rfl
    · rw [List.getElem?_set_ne hi, unw_get (vs := vs)]
      by_cases h2 : i ∈ vs
      · rw [if_pos h2, if_pos (List.mem_cons_of_mem _ h2)]
      · rw [if_neg h2, if_neg (fun z => (List.mem_cons.mp z).elim (fun e => hi e.symm) h2)]
theorem unw_wipe {σ : L2.St} {vs : List Nat} : unw σ vs (wipe σ vs) = σ := by
  apply List.ext_getElem?
  intro i
  rw [unw_get]
  by_cases hi : i ∈ vs
  · rw [if_pos hi, wipe_get, if_pos hi]
    by_cases z : i < σ.length
    · simp [z]
    · simp [show σ.length ≤ i by omega]
  · rw [if_neg hi, wipe_get, if_neg hi]
section
variable {K : PySem.W.Frag} {F F' H H' : Hp} {σ : L2.St} {sl sl' : SL} {p p' q r : FP}
theorem SlR.wipe (s : SlR K F H sl σ p) : ∀ (vs : List Nat), ∃ r, (∀ a, r a → p a) ∧ SlR K F H (wipeS vs sl) (L2.wipe σ vs) r
  | [] => ⟨p, fun _ x => x, s⟩
  | v :: vs => by
    obtain ⟨r, s1, S1⟩ := s.wipe vs
    obtain ⟨r2, s2, S2⟩ := S1.drop v none
    exact ⟨r2, fun a x => s1 a (s2 a x), S2⟩
theorem SlR.rest {F0 H0 : Hp} {sl0 : SL} {p0 : FP} {σ0 : L2.St} (s0 : SlR K F0 H0 sl0 σ0 p0) (ex : Ex F0 F) : ∀ {vs : List Nat}, ownOk vs sl0 = true → SlR K F H sl σ p → ∃ r, (∀ a, r a → p a) ∧ SlR K F H (restS sl0 vs sl) (unw σ0 vs σ) r
  | [], _, s => ⟨p, fun _ x => x, s⟩
  | v :: vs, h, s => by
    have h1 : ownOk vs sl0 = true := by
      unfold ownOk at h ⊢
      rw [List.all_cons, Bool.and_eq_true] at h
      exact h.2
    obtain ⟨r, s1, S1⟩ := SlR.rest s0 ex h1 s
    show ∃ r, (∀ a, r a → p a) ∧ SlR K F H ((restS sl0 vs sl).set v (sl0.getD v .hole)) ((unw σ0 vs σ).set v (σ0[v]?.getD none)) r
    have drop : ∃ r, (∀ a, r a → p a) ∧ SlR K F H ((restS sl0 vs sl).set v .hole) ((unw σ0 vs σ).set v (σ0[v]?.getD none)) r := by
      obtain ⟨r2, s2, S2⟩ := S1.drop v (σ0[v]?.getD none)
      exact ⟨r2, fun a x => s1 a (s2 a x), S2⟩
    rw [List.getD_eq_getElem?_getD]
    cases e : sl0[v]? with
    | none => exact drop
    | some t =>
      rw [Option.getD_some]
      by_cases hh : isHole t = true
      · rw [isHole_eq hh]; exact drop
      · have f : isF t = true := by
          unfold ownOk at h
          rw [List.all_cons, Bool.and_eq_true] at h
          have := h.1
          rw [e] at this
          have z : (isF t || isHole t) = true := this
          rw [Bool.or_eq_true] at z
          exact z.resolve_right hh
        have lk : look sl0 v = some t := by
          unfold look
          rw [e]
          cases t <;> first | rfl | exact absurd rfl hh
        obtain ⟨w, q, g, R, sub⟩ := s0.peek lk
        rw [g, Option.getD_some]
        have R0 : Rep K F H t w nop := (R.cg fun b => ⟨fun x => R.of_isF f b x, fun x => x.elim⟩ : Rep K F0 H0 t w nop).upF ex
        obtain ⟨r2, s2, S2⟩ := S1.store v R0 fun _ x => x.elim
        exact ⟨r2, fun a x => (s2 a x).elim (fun z => z.elim) (s1 a), S2⟩
end
section
variable {X : Cx} {P : Pg} {elt tg iter : Expr} {ifs : List Expr} {scope : Scope} {own : List (Str × Nat)} {pos : Pos} {it : Pv.It} {g : G} {c' e' : E} {ows : List Nat}
theorem ev_lc {m : Md} {sl sl' : SL} {t : T} (h : ev P m (.lc ows g it c' e') sl = some (t, sl')) : ∃ xs sl1 acc sl2, evI P it sl = some (xs, sl1) ∧ ownOk ows sl1 = true ∧ lcGo (setG P g) (ev P .t c') (ev P .e e') (wipeS ows) xs sl1 [] = some (acc, sl2) ∧ fin m false (.lst true acc) (restS sl1 ows (wipeS ows sl2)) = some (t, sl') := by
  simp only [ev, Option.bind_eq_some_iff] at h
  obtain ⟨⟨xs, sl1⟩, e1, e2⟩ := h
  by_cases hz : ownOk ows sl1 = true
  · rw [if_pos hz] at e2
    obtain ⟨⟨acc, sl2⟩, e3, e4⟩ := Option.bind_eq_some_iff.mp e2
    exact ⟨xs, sl1, acc, sl2, e1, hz, e3, e4⟩
  · rw [if_neg hz] at e2; cases e2
theorem plain_lc : Plain P (.lc ows g it c' e') := fun sl t sl' h => by
  obtain ⟨xs, sl1, acc, sl2, e1, hz, e3, e4⟩ := ev_lc h
  obtain ⟨b, h1, h2, rfl⟩ := fin_t e4
  refine ⟨_, b, ?_, h1, h2⟩
  simp only [ev, e1, Option.bind_some, hz, if_true, e3, fin]
/-- a step of the walk -/
theorem lcGo_cons {set : T → SL → Option SL} {cnd elt : SL → Option (T × SL)} {wipe : SL → SL} {x : T} {xs : List T} {sl : SL} {acc : List T} {z : List T × SL} (h : lcGo set cnd elt wipe (x :: xs) sl acc = some z) :
    ∃ sl1 b sl2, set x (wipe sl) = some sl1 ∧ cnd sl1 = some (.bl b, sl2) ∧ ((b = true ∧ ∃ t sl3, elt sl2 = some (t, sl3) ∧ okN acc.length = true ∧ lcGo set cnd elt wipe xs sl3 (acc ++ [t]) = some z) ∨ (b = false ∧ lcGo set cnd elt wipe xs sl2 acc = some z)) := by
  unfold lcGo at h
  obtain ⟨sl1, e1, h⟩ := Option.bind_eq_some_iff.mp h
  obtain ⟨⟨t1, sl2⟩, e2, h⟩ := Option.bind_eq_some_iff.mp h
  cases t1 <;> first | (cases h; done) | skip
  rename_i b
  cases b with
  | false => exact ⟨sl1, false, sl2, e1, e2, .inr ⟨rfl, h⟩⟩
  | true =>
    have h' : ((elt sl2).bind fun r2 => if okN acc.length = true then lcGo set cnd elt wipe xs r2.2 (acc ++ [r2.1]) else none) = some z := h
    obtain ⟨⟨t, sl3⟩, e3, h2⟩ := Option.bind_eq_some_iff.mp h'
    by_cases hz : okN acc.length = true
    · rw [if_pos hz] at h2
      exact ⟨sl1, true, sl2, e1, e2, .inl ⟨rfl, t, sl3, e3, hz, h2⟩⟩
    · rw [if_neg hz] at h2; cases h2
/-- an owned list grows by one -/
theorem grow1 {K : PySem.W.Frag} {F H : Hp} {D : Addr} {acc : List T} {t : T} {v : V} {p q : FP} (ex : Ex F H) (R : Rep K F H (.lst true acc) (.ref D) p) (Rt : Rep K F H t v q) (dj : Dj q p) : ∃ ys p', H D = some (.lst ys) ∧ ys.length = acc.length ∧
    Ex F (upd H D (.lst (ys ++ [v]))) ∧ Rep K F (upd H D (.lst (ys ++ [v]))) (.lst true (acc ++ [t])) (.ref D) p' ∧ Stp (fun b => q b ∨ p b) F H p' F (upd H D (.lst (ys ++ [v]))) := by
  cases R with
  | @lstO _ ys _ _ q0 n h r d e =>
    have R2 := r.app (Reps.one Rt) fun b x y => dj b y ((e b).mpr (.inr x))
    have own : ∀ b, (q0 b ∨ q b) → F b = none ∧ ∃ o, H b = some o := fun b x => x.elim (r.own b) (Rt.own b)
    have nq : ¬ (q0 D ∨ q D) := fun x => x.elim d fun y => dj D y ((e D).mpr (.inl rfl))
    obtain ⟨g1, g2, g3⟩ := reown (o' := .lst (ys ++ [v])) ex n own nq R2 fun b x => x
    refine ⟨ys, _, h, r.length.symm, g1, .lstO n upd_same g2 nq fun b => Iff.rfl, g3.cg fun b => ?_⟩
    rw [e b]
    constructor
    · rintro (x | x | x)
      · exact .inr (.inl x)
      · exact .inr (.inr x)
      · exact .inl x
    · rintro (x | x | x)
      · exact .inr (.inr x)
      · exact .inl x
      · exact .inr (.inl x)
theorem core_lc {m : Md} {σ : L2.St} {H : Hp} {Q : VK} (hm : m ≠ .t) (hsub : ∀ i ∈ stG g, i ∈ ows) (h : tev X.K P m (.lc ows g it c' e') σ H Q) : tLc (tevI X.K P it) (tevG X.K (stG g) (setG P g)) (tevT X.K P c') (tev X.K P .e e') ows σ H Q := by
  obtain ⟨F, sl, p, t, sl', ex, S, e, k⟩ := h
  obtain ⟨xs, sl1, accz, slz, e1, hz, e3, e4⟩ := ev_lc e
  obtain ⟨rfl, rfl, _⟩ := fin_some hm e4
  refine ⟨F, sl, p, xs, sl1, ex, S, e1, fun J F1 H1 p1 wk ex1 S1 st1 D nD => ?_⟩
  refine ⟨fun i m H => ∃ F sl p acc pD, i ≤ xs.length ∧ m = xs.length - i ∧ lcGo (setG P g) (ev P .t c') (ev P .e e') (wipeS ows) (xs.drop i) sl acc = some (accz, slz) ∧ Ex F H ∧ SlR X.K F H (wipeS ows sl) (wipe σ ows) p ∧ Rep X.K F H (.lst true acc) (.ref D) pD ∧ Dj pD p ∧ Stp p1 F1 H1 (fun a => pD a ∨ p a) F H, ?_, ?_⟩
  · obtain ⟨a1, a2, a3⟩ := new_lst (K := X.K) ex1 nD (.nil (p := nop) fun _ x => x)
    obtain ⟨r, s1, S2⟩ := S1.wipe ows
    obtain ⟨b1, b2, b3⟩ := a3.frame S2.own fun _ x => x.elim
    refine ⟨_, F1, sl1, r, [], _, Nat.zero_le _, rfl, e3, a1, S2.frame a3.ex b1, a2, b2, ?_⟩
    exact b3.more fun a x => x.elim (fun z => z.elim) (s1 a)
  · rintro i m H2 ⟨F2, sl2, p2, acc, pD, hi, rfl, e5, ex2, S2, RD, dj2, st2⟩
    by_cases hl : i < xs.length
    · refine .inr ?_
      obtain ⟨x, hx⟩ : ∃ x, xs[i]? = some x := ⟨xs[i], by simp [hl]⟩
      obtain ⟨g1, g2⟩ := wk.go i x F2 H2 hx st2.ex ex2
      have ed : xs.drop i = x :: xs.drop (i + 1) := by
        obtain ⟨h1, h2⟩ := List.getElem?_eq_some_iff.mp hx
        rw [← h2]; exact List.drop_eq_getElem_cons h1
      rw [ed] at e5
      obtain ⟨sl3, b, sl4, e6, e7, e8⟩ := lcGo_cons e5
      refine ⟨g1, fun H => ∃ F sl p acc pD, lcGo (setG P g) (ev P .t c') (ev P .e e') (wipeS ows) (xs.drop (i + 1)) sl acc = some (accz, slz) ∧ Ex F H ∧ SlR X.K F H (wipeS ows sl) (wipe σ ows) p ∧ Rep X.K F H (.lst true acc) (.ref D) pD ∧ Dj pD p ∧ Stp p1 F1 H1 (fun a => pD a ∨ p a) F H, fun H' ⟨F, sl, p, acc, pD, h⟩ => ⟨xs.length - (i + 1), by omega, F, sl, p, acc, pD, hl, rfl, h⟩, fun v H3 y => ?_⟩
      obtain ⟨F3, ex3, R3, st3⟩ := g2 v H3 y
      obtain ⟨a1, a2, a3⟩ := st3.frame (r := fun a => pD a ∨ p2 a) (fun a x => x.elim (RD.own a) (S2.own a)) fun _ x => x.elim
      have RD3 := RD.frame st3.ex fun a x => a1 a (.inl x)
      have st23 := st2.trans ((a3.cg fun a => ⟨fun x => x.elim (fun z => z.elim) id, .inr⟩).sub fun a x => .inr x)
      refine ⟨F3, x, nop, _, p2, sl3, ex3, R3, S2.frame st3.ex fun a x => a1 a (.inr x), fun _ x => x.elim, e6, fun σ2 F4 H4 p4 kp ex4 S4 st4 => ?_⟩
      have hw := wipe_keep kp hsub
      refine ⟨hw, F4, sl3, p4, b, sl4, ex4, S4, e7, fun F5 H5 p5 ex5 S5 st5 => ?_⟩
      have st45 := (st4.cg (q := p2) fun a => ⟨fun x => x.elim (fun z => z.elim) id, .inr⟩).trans st5
      obtain ⟨b1, b2, b3⟩ := st45.frame RD3.own fun a x y => dj2 a y x
      have RD5 := RD3.frame st45.ex b1
      have st25 := st23.trans (b3.cg fun a => or_comm)
      rcases e8 with ⟨rfl, t, sl5, e9, hn, e10⟩ | ⟨rfl, e10⟩
      · refine ⟨F5, sl4, p5, t, sl5, ex5, S5, e9, fun v6 F6 H6 pv6 p6 ex6 S6 R6 dj6 st6 => ?_⟩
        obtain ⟨c1, c2, c3⟩ := st6.frame RD5.own b2
        have RD6 := RD5.frame st6.ex c1
        obtain ⟨ys, pE, h1, h2, h3, h4, h5⟩ := grow1 ex6 RD6 R6 fun a x y => c2 a (.inl x) y
        obtain ⟨r, s1, S7⟩ := S6.wipe ows
        rw [hw] at S7
        obtain ⟨d1, d2, d3⟩ := h5.frame S7.own fun a x y => x.elim (fun z => dj6 rfl a z (s1 a y)) fun z => c2 a (.inr (s1 a y)) z
        refine ⟨ys, h1, by rw [h2]; exact (by have := of_decide_eq_true hn; rw [sizeLine_eq]; omega), F6, sl5, r, acc ++ [t], pE, e10, h3, S7.frame h5.ex d1, h4, d2, ?_⟩
        refine (st25.trans (c3.cg fun a => Iff.rfl)).trans (d3.more fun a x => ?_)
        rcases x with (x | x) | x
        · exact .inl (.inl x)
        · exact .inr x
        · exact .inl (.inr (s1 a x))
      · obtain ⟨r, s1, S7⟩ := S5.wipe ows
        rw [hw] at S7
        exact ⟨F5, sl4, r, acc, pD, e10, ex5, S7, RD5, fun a x y => b2 a (s1 a y) x, st25.sub fun a x => x.elim .inr fun z => .inl (s1 a z)⟩
    · refine .inl ?_
      obtain rfl : i = xs.length := by omega
      refine ⟨wk.stop F2 H2 st2.ex ex2, ?_⟩
      rw [List.drop_length] at e5
      cases e5
      obtain ⟨r, s1, S3⟩ := SlR.rest S1 st2.ex hz S2
      rw [unw_wipe] at S3
      exact k _ F2 H2 pD r ex2 S3 RD (fun _ a x y => dj2 a x (s1 a y)) ((st1.trans st2).sub fun a x => x.imp id (s1 a))
theorem sd_lc (hc : X.calm = true) (hN : X.N.Nodup) (hi : PI X tg iter (tevI X.K P it)) (ok : BlkOk X.N X.env.scope scope own) (hsub : ∀ i ∈ stG g, i ∈ own.map (·.2))
    (hg : ∀ (s : Shared) (H : Hp) (C : Addr) (cl : List (Str × Addr)) (fp : List Addr), PG (X.blk s H scope (compEnvC scope cl C X.env) fp) tg (tevG X.K (stG g) (setG P g))) (ht : ∀ (s : Shared) (H : Hp) (C : Addr) (cl : List (Str × Addr)) (fp : List Addr), PTs (X.blk s H scope (compEnvC scope cl C X.env) fp) ifs (tevT X.K P c'))
    (he : ∀ (s : Shared) (H : Hp) (C : Addr) (cl : List (Str × Addr)) (fp : List Addr), PE (X.blk s H scope (compEnvC scope cl C X.env) fp) elt (tev X.K P .e e')) (hs : ∀ x, foldedSetIterable iter X.env x = pure x) :
    Sd X P (.ListComp elt [⟨tg, iter, ifs, 0⟩] scope pos) (.lc (own.map (·.2)) g it c' e') :=
  have v : ∀ m, m ≠ .t → PE X (.ListComp elt [⟨tg, iter, ifs, 0⟩] scope pos) (tev X.K P m (.lc (own.map (·.2)) g it c' e')) := fun m hmm => pe_imp (pe_lc hc hN hi ok hg ht he hs) fun σ H Q h => core_lc hmm hsub h
  ⟨v, pt_plain (v .o (by decide)) plain_lc fun _ => rfl⟩
theorem pts_yes : PTs X [] (tevT X.K P (.cst (.bl true))) := ⟨fun pins s σ H Q I ⟨F, sl, p, b, sl', ex, S, e, k⟩ => by
  simp only [ev, fin, tru] at e
  cases e
  exact pts_nil.run pins s σ H Q I (k F H p ex S Stp.refl)⟩
end
end Pv

/-! Statements. -/
namespace Pv
open PySem L2 PyProof.Rows
def KN (K : PySem.W.Frag) (p : FP) (F H : Hp) (σ : L2.St) (A : List Nat) (sl' : SL) (Q : L2.St → Hp → Prop) : Prop := ∀ σ' F' H' p', Keep A σ σ' → Ex F' H' → SlR K F' H' sl' σ' p' → Stp p F H p' F' H' → Q σ' H'
def KR (K : PySem.W.Frag) (p : FP) (F H : Hp) (σ : L2.St) (A : List Nat) (t : T) (sl' : SL) (Q : VK) : Prop := ∀ v σ' F' H' pv p', Keep A σ σ' → Ex F' H' → SlR K F' H' sl' σ' p' → Rep K F' H' t v pv → Dj pv p' → Stp p F H (fun a => pv a ∨ p' a) F' H' → Q v H'
def KS (K : PySem.W.Frag) (p : FP) (F H : Hp) (σ : L2.St) (A : List Nat) (fl : Fl) (sl' : SL) (D : Ends) : Prop := match fl with
  | .nx => KN K p F H σ A sl' D.nx
  | .bk => KN K p F H σ A sl' D.bk
  | .ct => KN K p F H σ A sl' D.ct
  | .rt t => KR K p F H σ A t sl' D.rt
def tevS (K : PySem.W.Frag) (P : Pg) (s : S) : TS := fun D σ H => ∃ F sl p fl sl', Ex F H ∧ SlR K F H sl σ p ∧ evS P s sl = some (fl, sl') ∧ KS K p F H σ (stS s) fl sl' D
def tevSs (K : PySem.W.Frag) (P : Pg) (s : Ss) : TS := fun D σ H => ∃ F sl p fl sl', Ex F H ∧ SlR K F H sl σ p ∧ evSs P s sl = some (fl, sl') ∧ KS K p F H σ (stSs s) fl sl' D
section
variable {K : PySem.W.Frag} {F F' H H' : Hp} {σ σ' : L2.St} {sl' : SL} {p p' : FP} {A B : List Nat} {D : Ends} {fl : Fl}
theorem KN.after {Q : L2.St → Hp → Prop} (k : KN K p F H σ A sl' Q) (kp : Keep A σ σ') (st : Stp p F H p' F' H') : KN K p' F' H' σ' A sl' Q := fun σ2 F2 H2 p2 kp2 ex2 S2 st2 => k σ2 F2 H2 p2 (kp.trans kp2) ex2 S2 (st.trans st2)
theorem KR.after {Q : VK} {t : T} (k : KR K p F H σ A t sl' Q) (kp : Keep A σ σ') (st : Stp p F H p' F' H') : KR K p' F' H' σ' A t sl' Q := fun v σ2 F2 H2 pv p2 kp2 ex2 S2 R2 dj st2 => k v σ2 F2 H2 pv p2 (kp.trans kp2) ex2 S2 R2 dj (st.trans st2)
theorem KS.after (k : KS K p F H σ A fl sl' D) (kp : Keep A σ σ') (st : Stp p F H p' F' H') : KS K p' F' H' σ' A fl sl' D := by
  cases fl with
  | nx => exact KN.after k kp st
  | bk => exact KN.after k kp st
  | ct => exact KN.after k kp st
  | rt t => exact KR.after k kp st
theorem KN.mono {Q : L2.St → Hp → Prop} (k : KN K p F H σ A sl' Q) (h : ∀ i ∈ B, i ∈ A) : KN K p F H σ B sl' Q := fun σ2 F2 H2 p2 kp => k σ2 F2 H2 p2 (kp.mono h)
theorem KR.mono {Q : VK} {t : T} (k : KR K p F H σ A t sl' Q) (h : ∀ i ∈ B, i ∈ A) : KR K p F H σ B t sl' Q := fun v σ2 F2 H2 pv p2 kp => k v σ2 F2 H2 pv p2 (kp.mono h)
theorem KS.mono (k : KS K p F H σ A fl sl' D) (h : ∀ i ∈ B, i ∈ A) : KS K p F H σ B fl sl' D := by
  cases fl with
  | nx => exact KN.mono k h
  | bk => exact KN.mono k h
  | ct => exact KN.mono k h
  | rt t => exact KR.mono k h
end
section
variable {X : Cx} {P : Pg} {a b c x y e tg : Expr} {a' b' c' e' : E} {es : Es} {pos : Pos} {st : Stmt} {rest sts sts2 : List Stmt} {s : S} {ss ss2 : Ss} {g : G}
theorem ss_nil : PSs X [] (tevSs X.K P .nil) := pss_imp pss_nil fun D σ H ⟨F, sl, p, fl, sl', ex, S, e, k⟩ => by
  simp only [evSs] at e
  cases e
  exact k σ F H p Keep.refl ex S Stp.refl
theorem ss_cons (h1 : PS X st (tevS X.K P s)) (h2 : PSs X rest (tevSs X.K P ss)) : PSs X (st :: rest) (tevSs X.K P (.cons s ss)) := pss_imp (pss_cons h1 h2) fun D σ H ⟨F, sl, p, fl, sl', ex, S, e, k⟩ => by
  simp only [evSs, Option.bind_eq_some_iff] at e
  obtain ⟨⟨fl1, sl1⟩, e1, e2⟩ := e
  have m1 : ∀ i ∈ stS s, i ∈ stSs (.cons s ss) := fun i h => by simp only [stSs]; exact List.mem_append_left _ h
  have m2 : ∀ i ∈ stSs ss, i ∈ stSs (.cons s ss) := fun i h => by simp only [stSs]; exact List.mem_append_right _ h
  cases fl1 with
  | nx => exact ⟨F, sl, p, .nx, sl1, ex, S, e1, fun σ' F' H' p' kp ex' S' st => ⟨F', sl1, p', fl, sl', ex', S', e2, (k.after (kp.mono m1) st).mono m2⟩⟩
  | bk => cases e2; exact ⟨F, sl, p, .bk, _, ex, S, e1, KN.mono k m1⟩
  | ct => cases e2; exact ⟨F, sl, p, .ct, _, ex, S, e1, KN.mono k m1⟩
  | rt t => cases e2; exact ⟨F, sl, p, .rt t, _, ex, S, e1, KR.mono k m1⟩
theorem ss_pass : PS X (.Pass pos) (tevS X.K P .pass) := ps_imp ps_pass fun D σ H ⟨F, sl, p, fl, sl', ex, S, e, k⟩ => by
  simp only [evS] at e
  cases e
  exact k σ F H p Keep.refl ex S Stp.refl
theorem ss_doc {z : Str} {j : Nat} {pos' : Pos} : PS X (.Expr (.Constant (.str z) j pos) pos') (tevS X.K P .pass) := ps_imp ps_doc fun D σ H ⟨F, sl, p, fl, sl', ex, S, e, k⟩ => by
  simp only [evS] at e
  cases e
  exact k σ F H p Keep.refl ex S Stp.refl
theorem ss_brk : PS X (.Break pos) (tevS X.K P .brk) := ps_imp ps_break fun D σ H ⟨F, sl, p, fl, sl', ex, S, e, k⟩ => by
  simp only [evS] at e
  cases e
  exact k σ F H p Keep.refl ex S Stp.refl
theorem ss_cnt : PS X (.Continue pos) (tevS X.K P .cnt) := ps_imp ps_continue fun D σ H ⟨F, sl, p, fl, sl', ex, S, e, k⟩ => by
  simp only [evS] at e
  cases e
  exact k σ F H p Keep.refl ex S Stp.refl
theorem ss_retn : PS X (.Return none pos) (tevS X.K P .retn) := ps_imp ps_retN fun D σ H ⟨F, sl, p, fl, sl', ex, S, e, k⟩ => by
  simp only [evS] at e
  cases e
  exact k .non σ F H nop p Keep.refl ex S (.non fun _ x => x) (fun _ x => x.elim) (Stp.refl.sub fun a x => x.elim (fun z => z.elim) id)
theorem ss_ret (h : Sd X P x e') : PS X (.Return (some x) pos) (tevS X.K P (.ret e')) := ps_imp (ps_ret (h.v .e (by decide))) fun D σ H ⟨F, sl, p, fl, sl', ex, S, e, k⟩ => by
  simp only [evS, Option.bind_eq_some_iff] at e
  obtain ⟨⟨t, sl1⟩, e1, e2⟩ := e
  cases e2
  exact ⟨F, sl, p, t, sl1, ex, S, e1, fun v F' H' pv p' ex' S' R' dj st => k v σ F' H' pv p' Keep.refl ex' S' R' (dj rfl) st⟩
theorem ss_exp (h : Sd X P x e') (hs : swapsWith x none pos.line X.env = pure false) : PS X (.Expr x pos) (tevS X.K P (.exp e')) := ps_imp (ps_expr (h.v .e (by decide)) hs) fun D σ H ⟨F, sl, p, fl, sl', ex, S, e, k⟩ => by
  simp only [evS, Option.bind_eq_some_iff] at e
  obtain ⟨⟨t, sl1⟩, e1, e2⟩ := e
  cases e2
  exact ⟨F, sl, p, t, sl1, ex, S, e1, fun v F' H' pv p' ex' S' R' dj st => k σ F' H' p' Keep.refl ex' S' (st.sub fun a x => .inr x)⟩
theorem ss_if (hc : Sd X P c c') (ha : PSs X sts (tevSs X.K P ss)) (hb : PSs X sts2 (tevSs X.K P ss2)) : PS X (.If c sts sts2 pos) (tevS X.K P (.iff c' ss ss2)) := ps_imp (ps_if hc.t ha hb) fun D σ H ⟨F, sl, p, fl, sl', ex, S, e, k⟩ => by
  simp only [evS, Option.bind_eq_some_iff] at e
  obtain ⟨⟨t, sl1⟩, e1, e2⟩ := e
  cases t <;> first | (cases e2; done) | skip
  rename_i b
  refine ⟨F, sl, p, b, sl1, ex, S, e1, fun F' H' p' ex' S' st => ?_⟩
  have k' := k.after Keep.refl st
  cases b with
  | true => exact ⟨F', sl1, p', fl, sl', ex', S', e2, k'.mono fun i h => by simp only [stS]; exact List.mem_append_left _ h⟩
  | false => exact ⟨F', sl1, p', fl, sl', ex', S', e2, k'.mono fun i h => by simp only [stS]; exact List.mem_append_right _ h⟩
theorem ss_asg (he : Sd X P x e') (hg : PG X tg (tevG X.K (stG g) (setG P g))) (hs : swapsWithSole [tg] x pos.line X.env = pure false) (hw : swappedStores [tg] x X.env = pure none)
    (h1 : (assignEach [tg] X.env).map (·.2) = [assign tg X.env]) : PS X (.Assign [tg] x pos) (tevS X.K P (.asg g e')) := ps_imp (ps_asg (he.v .e (by decide)) hg hs hw h1) fun D σ H ⟨F, sl, p, fl, sl', ex, S, e, k⟩ => by
  simp only [evS, Option.bind_eq_some_iff] at e
  obtain ⟨⟨t, sl1⟩, e1, sl2, e2, e3⟩ := e
  cases e3
  refine ⟨F, sl, p, t, sl1, ex, S, e1, fun v F' H' pv p' ex' S' R' dj st => ⟨F', t, pv, sl1, p', _, ex', R', S', dj rfl, e2, fun σ' F2 H2 p2 kp ex2 S2 st2 => k σ' F2 H2 p2 (kp.mono fun i h => by simp only [stS]; exact h) ex2 S2 (st.trans st2)⟩⟩
/-- name = [..] on one line -/
theorem ss_asgLc {i : Nat} {n : Str} {py : Pos} {elt tgt iter : Expr} {ifs : List Expr} {scope : Scope} {own : List (Str × Nat)} {pos spos : Pos} {it : Pv.It} (hc : X.calm = true) (hN : X.N.Nodup) (hy : X.N[i]? = some n) (hyl : X.env.scope.names.lookup n = some .local)
    (hsw : swapsWith (.ListComp elt [⟨tgt, iter, ifs, 0⟩] scope pos) (some (.Name n py)) spos.line X.env = pure true) (hi : PI X tgt iter (tevI X.K P it)) (ok : BlkOk X.N X.env.scope scope own) (hsub : ∀ i ∈ stG g, i ∈ own.map (·.2))
    (hg : ∀ (s : Shared) (H : Hp) (C : Addr) (cl : List (Str × Addr)) (fp : List Addr), PG (X.blk s H scope (compEnvC scope cl C X.env) fp) tgt (tevG X.K (stG g) (setG P g))) (ht : ∀ (s : Shared) (H : Hp) (C : Addr) (cl : List (Str × Addr)) (fp : List Addr), PTs (X.blk s H scope (compEnvC scope cl C X.env) fp) ifs (tevT X.K P c'))
    (he : ∀ (s : Shared) (H : Hp) (C : Addr) (cl : List (Str × Addr)) (fp : List Addr), PE (X.blk s H scope (compEnvC scope cl C X.env) fp) elt (tev X.K P .e e')) (hs : ∀ x, foldedSetIterable iter X.env x = pure x) :
    PS X (.Assign [.Name n py] (.ListComp elt [⟨tgt, iter, ifs, 0⟩] scope pos) spos) (tevS X.K P (.asg (.one (.nm i)) (.lc (own.map (·.2)) g it c' e'))) := ps_imp (ps_setLc hc hN hy hyl hsw hi ok hg ht he hs) fun D σ H ⟨F, sl, p, fl, sl', ex, S, e, k⟩ => by
  have e0 : (ev P .e (.lc (own.map (·.2)) g it c' e') sl).bind (fun r => (setG P (.one (.nm i)) r.1 r.2).bind fun sl => some (Fl.nx, sl)) = some (fl, sl') := by rw [← e]; simp only [evS]
  obtain ⟨⟨t, sl1⟩, e1, e2⟩ := Option.bind_eq_some_iff.mp e0
  obtain ⟨sl2, e3, e4⟩ := Option.bind_eq_some_iff.mp e2
  cases e4
  have e5 : sl1.set i t = sl' := Option.some.inj e3
  show tLc _ _ _ _ _ σ H fun x H1 => gName i x σ H1 D.nx
  refine core_lc (m := .e) (by decide) hsub ⟨F, sl, p, t, sl1, ex, S, e1, fun v F' H' pv p' ex' S' R' dj st => ?_⟩
  obtain ⟨p2, sub, S2⟩ := S'.store i R' (dj rfl)
  rw [e5] at S2
  exact k _ F' H' p2 (Keep.set.mono fun j h => by simp only [stS, stG, stG0]; exact h) ex' S2 (st.sub sub)
theorem ss_par2 {i j : Nat} {n1 n2 : Str} {px py pt : Pos} {kt k2 : Nat} {pt2 : Pos} (hc : X.calm = true) (hN : X.N.Nodup) (hi : X.N[i]? = some n1) (hj : X.N[j]? = some n2) (hij : i ≠ j)
    (hx : X.env.scope.names.lookup n1 = some .local) (hy : X.env.scope.names.lookup n2 = some .local) (ha : SdL X P [a, b] es)
    (hw : swappedStores [.Tuple [.Name n1 px, .Name n2 py] kt pt] (.Tuple [a, b] k2 pt2) X.env = pure (some [n1, n2])) :
    PS X (.Assign [.Tuple [.Name n1 px, .Name n2 py] kt pt] (.Tuple [a, b] k2 pt2) pos) (tevS X.K P (.par [i, j] es)) := ps_imp (ps_par hc hN hi hj hij hx hy ha hw rfl) fun D σ H ⟨F, sl, p, fl, sl', ex, S, e, k⟩ => by
  simp only [evS, Option.bind_eq_some_iff] at e
  obtain ⟨⟨ts, sl1⟩, e1, sl2, e2, e3⟩ := e
  cases e3
  refine ⟨F, sl, p, ts, sl1, ex, S, e1, fun vs F1 H1 pv1 p1 ex1 S1 R1 dj1 st1 => ?_⟩
  obtain ⟨t, u, rfl⟩ : ∃ t u, ts = [t, u] := by
    cases ts with
    | nil => cases e2
    | cons t ts => cases ts with
      | nil => cases e2
      | cons u ts => cases ts with
        | nil => exact ⟨t, u, rfl⟩
        | cons => cases e2
  cases e2
  cases R1 with
  | @cons _ v _ vs _ q1 _ h hs d e1 =>
    cases hs with
    | @cons _ w _ vs _ q2 _ h' hs' d' e2 =>
      cases hs'
      refine ⟨v, w, rfl, ?_⟩
      obtain ⟨p2, sub2, S2⟩ := S1.store i h fun z x y => dj1 z ((e1 z).mpr (.inl x)) y
      obtain ⟨p3, sub3, S3⟩ := S2.store j h' fun z x y => (sub2 z y).elim (fun q => d z q ((e2 z).mpr (.inl x))) fun q => dj1 z ((e1 z).mpr (.inr ((e2 z).mpr (.inl x)))) q
      refine k _ F1 H1 p3 ?_ ex1 S3 (st1.sub fun z x => ?_)
      · simp only [stS]
        exact (Keep.set.mono fun z h => by rw [List.mem_singleton.mp h]; exact List.mem_cons_self).trans (Keep.set.mono fun z h => by rw [List.mem_singleton.mp h]; exact List.mem_cons_of_mem _ List.mem_cons_self)
      · rcases sub3 z x with x | x
        · exact .inl ((e1 z).mpr (.inr ((e2 z).mpr (.inl x))))
        · rcases sub2 z x with x | x
          · exact .inl ((e1 z).mpr (.inl x))
          · exact .inr x
theorem ss_par3 {i j l : Nat} {n1 n2 n3 : Str} {px py pz pt : Pos} {kt k2 : Nat} {pt2 : Pos} (hc : X.calm = true) (hN : X.N.Nodup) (hi : X.N[i]? = some n1) (hj : X.N[j]? = some n2) (hl : X.N[l]? = some n3) (hij : i ≠ j) (hil : i ≠ l) (hjl : j ≠ l)
    (hx : X.env.scope.names.lookup n1 = some .local) (hy : X.env.scope.names.lookup n2 = some .local) (hz : X.env.scope.names.lookup n3 = some .local) (ha : SdL X P [a, b, c] es)
    (hw : swappedStores [.Tuple [.Name n1 px, .Name n2 py, .Name n3 pz] kt pt] (.Tuple [a, b, c] k2 pt2) X.env = pure (some [n1, n2, n3])) :
    PS X (.Assign [.Tuple [.Name n1 px, .Name n2 py, .Name n3 pz] kt pt] (.Tuple [a, b, c] k2 pt2) pos) (tevS X.K P (.par [i, j, l] es)) := ps_imp (L2.ps_par3 hc hN hi hj hl hij hil hjl hx hy hz ha hw rfl) fun D σ H ⟨F, sl, p, fl, sl', ex, S, e, k⟩ => by
  simp only [evS, Option.bind_eq_some_iff] at e
  obtain ⟨⟨ts, sl1⟩, e1, sl2, e2, e3⟩ := e
  cases e3
  refine ⟨F, sl, p, ts, sl1, ex, S, e1, fun vs F1 H1 pv1 p1 ex1 S1 R1 dj1 st1 => ?_⟩
  obtain ⟨t, u, w, rfl⟩ : ∃ t u w, ts = [t, u, w] := by
    cases ts with
    | nil => cases e2
    | cons t ts => cases ts with
      | nil => cases e2
      | cons u ts => cases ts with
        | nil => cases e2
        | cons w ts => cases ts with
          | nil => exact ⟨t, u, w, rfl⟩
          | cons => cases e2
  cases e2
  cases R1 with
  | @cons _ v _ vs _ q1 _ h hs d e1 =>
    cases hs with
    | @cons _ w _ vs _ q2 _ h' hs' d' e2 =>
      cases hs' with
      | @cons _ x _ vs _ q3 _ h'' hs'' d'' e3 =>
        cases hs''
        refine ⟨v, w, x, rfl, ?_⟩
        obtain ⟨p2, sub2, S2⟩ := S1.store i h fun z x y => dj1 z ((e1 z).mpr (.inl x)) y
        obtain ⟨p3, sub3, S3⟩ := S2.store j h' fun z x y => (sub2 z y).elim (fun q => d z q ((e2 z).mpr (.inl x))) fun q => dj1 z ((e1 z).mpr (.inr ((e2 z).mpr (.inl x)))) q
        obtain ⟨p4, sub4, S4⟩ := S3.store l h'' fun z x y => by
          have x3 := (e3 z).mpr (.inl x)
          have x2 := (e2 z).mpr (.inr x3)
          rcases sub3 z y with q | q
          · exact d' z q x3
          · rcases sub2 z q with q | q
            · exact d z q x2
            · exact dj1 z ((e1 z).mpr (.inr x2)) q
        refine k _ F1 H1 p4 ?_ ex1 S4 (st1.sub fun z x => ?_)
        · simp only [stS]
          exact ((Keep.set.mono fun z h => by rw [List.mem_singleton.mp h]; exact List.mem_cons_self).trans (Keep.set.mono fun z h => by rw [List.mem_singleton.mp h]; exact List.mem_cons_of_mem _ List.mem_cons_self)).trans (Keep.set.mono fun z h => by rw [List.mem_singleton.mp h]; exact List.mem_cons_of_mem _ (List.mem_cons_of_mem _ List.mem_cons_self))
        · rcases sub4 z x with x | x
          · exact .inl ((e1 z).mpr (.inr ((e2 z).mpr (.inr ((e3 z).mpr (.inl x))))))
          · rcases sub3 z x with x | x
            · exact .inl ((e1 z).mpr (.inr ((e2 z).mpr (.inl x))))
            · rcases sub2 z x with x | x
              · exact .inl ((e1 z).mpr (.inl x))
              · exact .inr x
/-! ### x op= e -/
def rIP (K : PySem.W.Frag) (o : O2) : TIp := fun x y H Q => ∃ F t u p q r, Ex F H ∧ Rep K F H t x p ∧ Rep K F H u y q ∧ iop o t u = some r ∧ ∀ v, Rep K F H r v nop → Q v H
theorem pip_any {op : Operator} {t' : TIp} (h : ∀ x y H Q, t' x y H Q → ∃ t, PIp X op t ∧ t x y H Q) : PIp X op t' := fun pins s σ H x y v u Q I r1 r2 w => let ⟨t, h1, h2⟩ := h x y H Q w; h1 pins s σ H x y v u Q I r1 r2 h2
theorem ipr_add : PIp X .Add (rIP X.K .add) := pip_any fun x y H Q ⟨F, t, u, p, q, r, ex, ht, hu, e, k⟩ => by
  cases t <;> cases u <;> first | (cases e; done) | skip
  · obtain ⟨rfl, _⟩ := ht.int'; obtain ⟨rfl, _⟩ := hu.int'
    cases e
    exact ⟨_, ip_add, _, _, rfl, rfl, k _ (.int fun _ x => x)⟩
theorem ipr_sub : PIp X .Sub (rIP X.K .sub) := pip_any fun x y H Q ⟨F, t, u, p, q, r, ex, ht, hu, e, k⟩ => by
  cases t <;> cases u <;> first | (cases e; done) | skip
  · obtain ⟨rfl, _⟩ := ht.int'; obtain ⟨rfl, _⟩ := hu.int'
    cases e
    exact ⟨_, ip_sub, _, _, rfl, rfl, k _ (.int fun _ x => x)⟩
theorem iop_F {o : O2} {t u r : T} (h : iop o t u = some r) : isF t = true := by
  cases o <;> cases t <;> first | (cases h; done) | rfl
theorem ss_aug {i : Nat} {n : Str} {op : Operator} {o : O2} {pos' : Pos} (hN : X.N.Nodup) (hi : X.N[i]? = some n) (hx : Loc X.env.scope n) (hf : X.fn n = true ∨ X.env.scope.names.lookup n = some .local) (ho : PIp X op (rIP X.K o)) (he : Sd X P x e') : PS X (.AugAssign (.Name n pos') op x pos) (tevS X.K P (.aug i o e')) :=
  ps_imp (ps_aug hN hi hx (he.v .e (by decide)) ho hf) fun D σ H ⟨F, sl, p, fl, sl', ex, S, e, k⟩ => by
    simp only [evS, Option.bind_eq_some_iff] at e
    obtain ⟨t, e1, ⟨u, sl1⟩, e2, z, e3, e4⟩ := e
    cases e4
    obtain ⟨v, q, g, R, sub⟩ := S.peek e1
    have f := iop_F e3
    have R0 : Rep X.K F H t v nop := R.cg fun b => ⟨fun x => R.of_isF f b x, fun x => x.elim⟩
    refine ⟨v, g, F, sl, p, u, sl1, ex, S, e2, fun w F1 H1 pv1 p1 ex1 S1 R1 dj1 st1 => ⟨F1, t, u, nop, pv1, z, ex1, R0.upF st1.ex, R1, e3, fun y Ry => ?_⟩⟩
    obtain ⟨p2, sub2, S2⟩ := S1.store i Ry fun _ x => x.elim
    exact k _ F1 H1 p2 (Keep.set.mono fun j h => by simp only [stS]; exact h) ex1 S2 (st1.sub fun a x => .inr ((sub2 a x).elim (fun z => z.elim) id))
/-! ### loops -/
theorem whlGo_some {c : SL → Option (T × SL)} {b : SL → Out} {m : Nat} {sl : SL} {z : Fl × SL} (h : whlGo c b m sl = some z) : ∃ n k sl1, m = n + 1 ∧ c sl = some (.bl k, sl1) ∧ ((k = false ∧ z = (.nx, sl1)) ∨ (k = true ∧ ∃ fl sl2, b sl1 = some (fl, sl2) ∧ (match fl with
    | .nx => whlGo c b n sl2 = some z
    | .ct => whlGo c b n sl2 = some z
    | .bk => z = (.nx, sl2)
    | .rt t => z = (.rt t, sl2)))) := by
  cases m with
  | zero => cases h
  | succ n =>
    unfold whlGo at h
    obtain ⟨⟨t, sl1⟩, e1, h⟩ := Option.bind_eq_some_iff.mp h
    cases t <;> first | (cases h; done) | skip
    rename_i k
    refine ⟨n, k, sl1, rfl, e1, ?_⟩
    cases k with
    | false => cases h; exact .inl ⟨rfl, rfl⟩
    | true =>
      have h' : ((b sl1).bind fun z => match z.1 with
        | .nx => whlGo c b n z.2
        | .ct => whlGo c b n z.2
        | .bk => some (Fl.nx, z.2)
        | .rt t => some (.rt t, z.2)) = some z := h
      obtain ⟨⟨fl, sl2⟩, e2, h2⟩ := Option.bind_eq_some_iff.mp h'
      refine .inr ⟨rfl, fl, sl2, e2, ?_⟩
      cases fl with
      | nx => exact h2
      | ct => exact h2
      | bk => exact (Option.some.inj h2).symm
      | rt t => exact (Option.some.inj h2).symm
theorem ss_whl (hp : PassesOwn (model X.prog X.w) X.A X.env X.xe) (hc : Sd X P c c') (hb : PSs X sts (tevSs X.K P ss)) : PS X (.While c sts [] pos) (tevS X.K P (.whl c' ss)) :=
  ps_imp (ps_while hp hc.t hb) fun D σ H ⟨F, sl, p, fl, sl', ex, S, e, k⟩ => by
    simp only [evS] at e
    have k : KS X.K p F H σ (stSs ss) fl sl' D := by
      have := k
      simp only [stS] at this
      exact this
    refine ⟨fun m σ H => ∃ F sl p, whlGo (ev P .t c') (evSs P ss) m sl = some (fl, sl') ∧ Ex F H ∧ SlR X.K F H sl σ p ∧ KS X.K p F H σ (stSs ss) fl sl' D, ⟨fuel, F, sl, p, e, ex, S, k⟩, ?_⟩
    rintro m σ1 H1 ⟨F1, sl1, p1, e1, ex1, S1, k1⟩
    obtain ⟨n, b, sl2, rfl, e2, e3⟩ := whlGo_some e1
    refine ⟨F1, sl1, p1, b, sl2, ex1, S1, e2, fun F2 H2 p2 ex2 S2 st2 => ?_⟩
    have k2 := k1.after Keep.refl st2
    rcases e3 with ⟨rfl, e3⟩ | ⟨rfl, fl2, sl3, e3, e4⟩
    · cases e3
      exact k2 σ1 F2 H2 p2 Keep.refl ex2 S2 Stp.refl
    · refine ⟨fun σ H => ∃ F sl p, whlGo (ev P .t c') (evSs P ss) n sl = some (fl, sl') ∧ Ex F H ∧ SlR X.K F H sl σ p ∧ KS X.K p F H σ (stSs ss) fl sl' D, fun σ' H' h => ⟨n, Nat.lt_succ_self n, h⟩, F2, sl2, p2, fl2, sl3, ex2, S2, e3, ?_⟩
      cases fl2 with
      | nx => exact fun σ' F' H' p' kp ex' S' st' => ⟨F', sl3, p', e4, ex', S', k2.after kp st'⟩
      | ct => exact fun σ' F' H' p' kp ex' S' st' => ⟨F', sl3, p', e4, ex', S', k2.after kp st'⟩
      | bk => cases e4; exact k2
      | rt t => cases e4; exact k2
theorem forGo_cons {set : T → SL → Option SL} {b : SL → Out} {x : T} {xs : List T} {sl : SL} {z : Fl × SL} (h : forGo set b (x :: xs) sl = some z) : ∃ sl1 fl sl2, set x sl = some sl1 ∧ b sl1 = some (fl, sl2) ∧ (match fl with
    | .nx => forGo set b xs sl2 = some z
    | .ct => forGo set b xs sl2 = some z
    | .bk => z = (.nx, sl2)
    | .rt t => z = (.rt t, sl2)) := by
  unfold forGo at h
  obtain ⟨sl1, e1, h⟩ := Option.bind_eq_some_iff.mp h
  obtain ⟨⟨fl, sl2⟩, e2, h2⟩ := Option.bind_eq_some_iff.mp h
  refine ⟨sl1, fl, sl2, e1, e2, ?_⟩
  cases fl with
  | nx => exact h2
  | ct => exact h2
  | bk => exact (Option.some.inj h2).symm
  | rt t => exact (Option.some.inj h2).symm
theorem ss_for {iter : Expr} {it : Pv.It} (hp : PassesOwn (model X.prog X.w) X.A X.env X.xe) (hc : X.calm = true) (hi : PI X tg iter (tevI X.K P it)) (hg : PG X tg (tevG X.K (stG g) (setG P g))) (hb : PSs X sts (tevSs X.K P ss)) (hs : ∀ x, foldedSetIterable iter X.env x = pure x) : PS X (.For tg iter sts [] pos) (tevS X.K P (.forr g it ss)) :=
  ps_imp (ps_for hp hc hi hg hb hs) fun D σ H ⟨F, sl, p, fl, sl', ex, S, e, k⟩ => by
    simp only [evS, Option.bind_eq_some_iff] at e
    obtain ⟨⟨xs, sl1⟩, e1, e2⟩ := e
    have k : KS X.K p F H σ (stG g ++ stSs ss) fl sl' D := by
      have := k
      simp only [stS] at this
      exact this
    refine ⟨F, sl, p, xs, sl1, ex, S, e1, fun J F1 H1 p1 wk ex1 S1 st1 => ?_⟩
    refine ⟨fun i m σ H => ∃ F sl p, i ≤ xs.length ∧ m = xs.length - i ∧ forGo (setG P g) (evSs P ss) (xs.drop i) sl = some (fl, sl') ∧ Ex F1 F ∧ Ex F H ∧ SlR X.K F H sl σ p ∧ KS X.K p F H σ (stG g ++ stSs ss) fl sl' D, ⟨_, F1, sl1, p1, Nat.zero_le _, rfl, e2, Evl.Ex.refl F1, ex1, S1, k.after Keep.refl st1⟩, ?_⟩
    rintro i m σ2 H2 ⟨F2, sl2, p2, hi, rfl, e3, f12, ex2, S2, k2⟩
    by_cases hl : i < xs.length
    · refine .inr ?_
      obtain ⟨x, hx⟩ : ∃ x, xs[i]? = some x := ⟨xs[i], by simp [hl]⟩
      obtain ⟨g1, g2⟩ := wk.go i x F2 H2 hx f12 ex2
      have ed : xs.drop i = x :: xs.drop (i + 1) := by
        obtain ⟨h1, h2⟩ := List.getElem?_eq_some_iff.mp hx
        rw [← h2]; exact List.drop_eq_getElem_cons h1
      rw [ed] at e3
      obtain ⟨sl3, fl4, sl4, e4, e5, e6⟩ := forGo_cons e3
      refine ⟨g1, fun σ H => ∃ F sl p, forGo (setG P g) (evSs P ss) (xs.drop (i + 1)) sl = some (fl, sl') ∧ Ex F1 F ∧ Ex F H ∧ SlR X.K F H sl σ p ∧ KS X.K p F H σ (stG g ++ stSs ss) fl sl' D, fun σ' H' ⟨F, sl, p, h⟩ => ⟨xs.length - (i + 1), by omega, F, sl, p, hl, rfl, h⟩, fun v H3 y => ?_⟩
      obtain ⟨F3, ex3, R3, st3⟩ := g2 v H3 y
      obtain ⟨a1, a2, a3⟩ := st3.frame S2.own fun _ x => x.elim
      have st23 : Stp p2 F2 H2 p2 F3 H3 := (a3.cg fun a => ⟨fun x => x.elim (fun z => z.elim) id, .inr⟩).sub fun a x => .inr x
      have k3 := k2.after Keep.refl st23
      refine ⟨F3, x, nop, sl2, p2, sl3, ex3, R3, S2.frame st3.ex a1, fun _ x => x.elim, e4, fun σ4 F4 H4 p4 kp ex4 S4 st4 => ?_⟩
      have k4 := k3.after (kp.mono fun i h => List.mem_append_left _ h) (st4.cg fun a => ⟨fun x => x.elim (fun z => z.elim) id, .inr⟩)
      refine ⟨F4, sl3, p4, fl4, sl4, ex4, S4, e5, ?_⟩
      have fx : Ex F1 F4 := f12.trans (st23.ex.trans st4.ex)
      have mr : ∀ i ∈ stSs ss, i ∈ stG g ++ stSs ss := fun i h => List.mem_append_right _ h
      cases fl4 with
      | nx => exact fun σ' F' H' p' kp ex' S' st' => ⟨F', sl4, p', e6, fx.trans st'.ex, ex', S', k4.after (kp.mono mr) st'⟩
      | ct => exact fun σ' F' H' p' kp ex' S' st' => ⟨F', sl4, p', e6, fx.trans st'.ex, ex', S', k4.after (kp.mono mr) st'⟩
      | bk => cases e6; exact KN.mono k4 mr
      | rt t => cases e6; exact KR.mono k4 mr
    · refine .inl ?_
      obtain rfl : i = xs.length := by omega
      refine ⟨wk.stop F2 H2 f12 ex2, ?_⟩
      rw [List.drop_length] at e3
      cases e3
      exact k2 σ2 F2 H2 p2 Keep.refl ex2 S2 Stp.refl
end
end Pv

/-! Places. -/
namespace Pv
open PySem L2 PyProof.Rows
def notT (o : HO) : Prop := ∀ xs, o ≠ .tup xs ∧ ∀ u, o ≠ .frz u (.tup xs)
section
variable {K : PySem.W.Frag} {F F' H H' : Hp} {σ : L2.St} {sl sl' : SL} {p p' q r s : FP}
theorem dho_notT {kd : Bool} {ks : List (List Key)} {xs : List V} : notT (dho kd ks xs) := fun ys => by
  cases kd <;> exact ⟨(nomatch ·), fun _ => (nomatch ·)⟩
mutual
theorem Rep.kind : ∀ {t v p}, Rep K F H t v p → ∀ a, p a → ∃ o, H a = some o ∧ notT o
  | _, _, _, .hole e, a, x => (e a x).elim
  | _, _, _, .non e, a, x => (e a x).elim
  | _, _, _, .bl e, a, x => (e a x).elim
  | _, _, _, .int e, a, x => (e a x).elim
  | _, _, _, .str e, a, x => (e a x).elim
  | _, _, _, .tup s r, a, x => Reps.kind r a x
  | _, _, _, .lstF s r, a, x => Reps.kind r a x
  | _, _, _, .lstO n h r d e, a, x => ((e a).mp x).elim (fun z => z ▸ ⟨_, h, fun ys => ⟨(nomatch ·), fun _ => (nomatch ·)⟩⟩) (Reps.kind r a)
  | _, _, _, .dctF h w r, a, x => Reps.kind r a x
  | _, _, _, .dctO n h w r d e, a, x => ((e a).mp x).elim (fun z => z ▸ ⟨_, h, dho_notT⟩) (Reps.kind r a)
  | _, _, _, .insF h w r, a, x => Reps.kind r a x
  | _, _, _, .insO n h w r d e, a, x => ((e a).mp x).elim (fun z => z ▸ ⟨_, h, fun ys => ⟨(nomatch ·), fun _ => (nomatch ·)⟩⟩) (Reps.kind r a)
theorem Reps.kind : ∀ {ts vs p}, Reps K F H ts vs p → ∀ a, p a → ∃ o, H a = some o ∧ notT o
  | _, _, _, .nil e, a, x => (e a x).elim
  | _, _, _, .cons h hs _ e, a, x => ((e a).mp x).elim (Rep.kind h a) (Reps.kind hs a)
end
theorem SlR.kind (S : SlR K F H sl σ p) : ∀ a, p a → ∃ o, H a = some o ∧ notT o := let ⟨_, h, _⟩ := S; h.kind
section
open Classical in
/-- the borrowed given back -/
noncomputable def unF (F2 : Hp) (p : FP) : Hp := fun a => if p a then none else F2 a
end
theorem unF_in {F2 : Hp} {a : Addr} (h : p a) : unF F2 p a = none := if_pos h
theorem unF_out {F2 : Hp} {a : Addr} (h : ¬ p a) : unF F2 p a = F2 a := if_neg h
theorem SqT.un {a : Addr} {xs : List V} {F2 H2 : Hp} (ex : Ex F2 H2) (kd : ∀ a, p a → ∃ o, H2 a = some o ∧ notT o) (s : SqT K F2 a xs) : SqT K (unF F2 p) a xs := by
  rcases s with (h | ⟨o, h⟩) | h
  · refine .inl (.inl ?_)
    rw [unF_out fun z => ?_]
    · exact h
    · obtain ⟨o, e, n⟩ := kd a z
      rw [ex _ _ h] at e; cases e
      exact (n xs).1 rfl
  · refine .inl (.inr ⟨o, ?_⟩)
    rw [unF_out fun z => ?_]
    · exact h
    · obtain ⟨o', e, n⟩ := kd a z
      rw [ex _ _ h] at e; cases e
      exact (n xs).2 _ rfl
  · exact .inr h
mutual
theorem Rep.flat {F2 H2 : Hp} (ex : Ex F2 H2) (kd : ∀ a, p a → ∃ o, H2 a = some o ∧ notT o) : ∀ {t v q}, Pv.flat t = true → Rep K F2 H2 t v q → Rep K (unF F2 p) H2 t v q
  | _, _, _, f, .hole e => by cases f
  | _, _, _, f, .non e => .non e
  | _, _, _, f, .bl e => .bl e
  | _, _, _, f, .int e => .int e
  | _, _, _, f, .str e => .str e
  | _, _, _, f, .tup s r => .tup (SqT.un ex kd s) (Reps.flat ex kd (by simpa only [Pv.flat] using f) r)
  | _, _, _, f, .lstF s r => by cases f
  | _, _, _, f, .lstO (a := a) n h r d e => .lstO (by
      by_cases z : p a
      · exact unF_in z
      · rw [unF_out z]; exact n) h (Reps.flat ex kd (by simpa only [Pv.flat] using f) r) d e
  | _, _, _, f, .dctF h w r => by cases f
  | _, _, _, f, .dctO n h w r d e => by cases f
  | _, _, _, f, .insF h w r => by cases f
  | _, _, _, f, .insO n h w r d e => by cases f
theorem Reps.flat {F2 H2 : Hp} (ex : Ex F2 H2) (kd : ∀ a, p a → ∃ o, H2 a = some o ∧ notT o) : ∀ {ts vs q}, Pv.flats ts = true → Reps K F2 H2 ts vs q → Reps K (unF F2 p) H2 ts vs q
  | _, _, _, f, .nil e => .nil e
  | _, _, _, f, .cons h hs d e => .cons (Rep.flat ex kd (by simp only [Pv.flats, Bool.and_eq_true] at f; exact f.1) h) (Reps.flat ex kd (by simp only [Pv.flats, Bool.and_eq_true] at f; exact f.2) hs) d e
end
theorem unthaw {F2 H2 : Hp} (own : ∀ a, p a → F a = none ∧ ∃ o, H a = some o) (st : Stp nop (frF F H p) H q F2 H2) (ex2 : Ex F2 H2) : Ex (unF F2 p) H2 ∧ Stp nop F H q (unF F2 p) H2 := by
  refine ⟨fun a o h => ?_, fun a o h => ?_, fun a o h _ => st.keep a o h fun x => x, fun a o h _ => ?_, st.own⟩
  · by_cases z : p a
    · rw [unF_in z] at h; cases h
    · rw [unF_out z] at h; exact ex2 a o h
  · by_cases z : p a
    · rw [(own a z).1] at h; cases h
    · rw [unF_out z]
      exact st.ex a o (by rw [frF_out z]; exact h)
  · by_cases z : p a
    · rw [unF_in z]
      exact (own a z).1.symm
    · rw [unF_out z, st.grow a o h fun x => x, frF_out z]
end
/-- a read-only reading -/
def tevB (K : PySem.W.Frag) (P : Pg) (e : E) : TE := fun σ H Q => ∃ F sl p t, Ex F H ∧ SlR K F H sl σ p ∧ bor2 (vars e) (ev P .e e) sl = some t ∧ ∀ v F' H' pv, Ex F' H' → Rep K F' H' t v pv → Stp nop F H pv F' H' → Q v H'
def tevBs (K : PySem.W.Frag) (P : Pg) (es : Es) : TA := fun σ H Q => ∃ F sl p ts, Ex F H ∧ SlR K F H sl σ p ∧ evBs P es sl = some ts ∧ ∀ vs F' H' pv, Ex F' H' → Reps K F' H' ts vs pv → Stp nop F H pv F' H' → Q vs H'
section
variable {X : Cx} {P : Pg} {a b c x y : Expr} {xs : List Expr} {a' b' c' e : E} {es : Es} {pos : Pos}
theorem sd_bor (h : Sd X P x e) : PE X x (tevB X.K P e) := pe_imp (h.v .e (by decide)) fun σ H Q ⟨F, sl, p, t, ex, S, e0, k⟩ => by
  unfold bor2 at e0
  generalize hz : ((vars e).all fun i => match sl[i]? with
    | some t => isF t
    | none => true) = z at e0
  cases z with
  | true =>
    rw [if_pos rfl] at e0
    obtain ⟨r, e1, e2⟩ := Option.bind_eq_some_iff.mp e0
    cases e2
    exact ⟨F, fro sl, nop, r.1, r.2, ex, S.fro, e1, fun v F' H' pv p' ex' S' R' dj st => k v F' H' pv ex' R' (st.sub fun a x => .inl x)⟩
  | false =>
    rw [if_neg (by decide)] at e0
    obtain ⟨r, e1, e2⟩ := Option.bind_eq_some_iff.mp e0
    by_cases f : Pv.flat r.1 = true
    · rw [if_pos f] at e2; cases e2
      refine ⟨frF F H p, brw sl, nop, r.1, r.2, frF_sub ex, S.brw, e1, fun v F2 H2 pv p2 ex2 S2 R2 d2 st2 => ?_⟩
      obtain ⟨g1, g2⟩ := unthaw S.own st2 ex2
      refine k v (unF F2 p) H2 pv g1 (R2.flat ex2 (fun a x => ?_) f) (g2.sub fun a x => .inl x)
      obtain ⟨o, e, n⟩ := S.kind a x
      exact ⟨o, st2.keep a o e fun x => x, n⟩
    · rw [if_neg f] at e2; cases e2
theorem sdbs_nil : PA X [] (tevBs X.K P .nil) := pa_imp pa_nil fun σ H Q ⟨F, sl, p, ts, ex, S, e, k⟩ => by
  simp only [evBs] at e
  cases e
  exact k [] F H nop ex (.nil fun _ x => x) Stp.refl
theorem sdbs_cons (ha : Sd X P a a') (hr : PA X xs (tevBs X.K P es)) (hs : starEach (a :: xs) X.env = (false, eval a X.env) :: starEach xs X.env) : PA X (a :: xs) (tevBs X.K P (.cons a' es)) :=
  pa_imp (pa_cons (sd_bor ha) hr hs) fun σ H Q ⟨F, sl, p, ts, ex, S, e, k⟩ => by
    simp only [evBs, Option.bind_eq_some_iff] at e
    obtain ⟨t, e1, ts, e2, e3⟩ := e
    cases e3
    refine ⟨F, sl, p, t, ex, S, e1, fun v F1 H1 pv1 ex1 R1 st1 => ?_⟩
    obtain ⟨a1, a2, a3⟩ := st1.frame S.own fun _ x => x.elim
    refine ⟨F1, sl, p, ts, ex1, S.frame st1.ex a1, e2, fun vs F2 H2 pv2 ex2 R2 st2 => ?_⟩
    obtain ⟨b1, b2, b3⟩ := st2.frame R1.own fun _ x => x.elim
    refine k (v :: vs) F2 H2 _ ex2 (.cons (R1.frame st2.ex b1) R2 (fun a x y => b2 a y x) fun a => Iff.rfl) ?_
    exact (st1.trans ((b3.cg fun a => ⟨fun x => x.elim (fun z => z.elim) id, .inr⟩))).sub fun a x => or_comm.mp x
/-! ### places -/
def Wand (K : PySem.W.Frag) (F H : Hp) (s : FP) (v : V) (put : T → SL) (σ : L2.St) : Prop := (∀ a, s a → F a = none ∧ ∃ o, H a = some o) ∧
  ∀ F2 H2 t' q', Ex F F2 → (∀ a, s a → F2 a = none ∧ H2 a = H a) → Rep K F2 H2 t' v q' → Dj q' s → ∃ p', (∀ a, p' a → q' a ∨ s a) ∧ SlR K F2 H2 (put t') σ p'
theorem Wand.frame {K : PySem.W.Frag} {F H F' H' : Hp} {s : FP} {v : V} {put : T → SL} {σ : L2.St} (w : Wand K F H s v put σ) (ex : Ex F F') (h : ∀ a, s a → F' a = none ∧ H' a = H a) : Wand K F' H' s v put σ :=
  ⟨fun a x => ⟨(h a x).1, (w.1 a x).2.imp fun o e => (h a x).2.trans e⟩, fun F2 H2 t' q' ex2 h2 R dj => w.2 F2 H2 t' q' (ex.trans ex2) (fun a x => ⟨(h2 a x).1, (h2 a x).2.trans (h a x).2⟩) R dj⟩
/-- the place stands, by its value; the slots stand too -/
def tevP (K : PySem.W.Frag) (P : Pg) (e : E) : TE := fun σ H Q => ∃ F sl p t put, Ex F H ∧ SlR K F H sl σ p ∧ plc P e sl = some (t, put) ∧
  ∀ v F' H' q s, Ex F' H' → Rep K F' H' t v q → Dj q s → SlR K F' H' sl σ p → (∀ a, q a ∨ s a → p a) → Wand K F' H' s v put σ → Stp nop F H nop F' H' → Q v H'
section
variable {K : PySem.W.Frag} {F F' H H' : Hp} {σ : L2.St} {sl sl' : SL} {p p' q r s : FP}
theorem setH_same {ts : List T} {j : Nat} {t u : T} (h : ts[j]? = some t) : (ts.set j .hole).set j u = ts.set j u ∧ (ts.set j .hole)[j]? = some .hole := by
  obtain ⟨h1, _⟩ := List.getElem?_eq_some_iff.mp h
  exact ⟨by rw [List.set_set], by rw [List.getElem?_set_self h1]⟩
theorem set_id {xs : List V} {j : Nat} {v : V} (h : xs[j]? = some v) : xs.set j v = xs := by
  obtain ⟨h1, h2⟩ := List.getElem?_eq_some_iff.mp h
  rw [← h2]; exact List.set_getElem_self h1
/-- a child of a list taken out, to be filled again -/
theorem Reps.kid {ts : List T} {xs : List V} {j : Nat} {t : T} (R : Reps K F H ts xs p) (h : ts[j]? = some t) : ∃ w q r, xs[j]? = some w ∧ Rep K F H t w q ∧ Dj q r ∧ (∀ a, p a ↔ q a ∨ r a) ∧
    ∀ F2 H2 u q', Ex F F2 → (∀ a, r a → F2 a = none ∧ H2 a = H a) → Rep K F2 H2 u w q' → Dj q' r → Reps K F2 H2 (ts.set j u) xs (fun a => q' a ∨ r a) := by
  obtain ⟨w, q, r, e1, r1, dj, e2, r2⟩ := R.focus h
  refine ⟨w, q, r, e1, r1, dj, e2, fun F2 H2 u q' ex fr Ru d2 => ?_⟩
  have z := (r2.frame ex fr).put (setH_same (u := u) h).2 Ru d2
  rw [(setH_same h).1, set_id e1] at z
  exact z
theorem Rep.kidL {o : Bool} {ts : List T} {v : V} {j : Nat} {t : T} (R : Rep K F H (.lst o ts) v p) (ex0 : Ex F H) (h : ts[j]? = some t) : ∃ a xs w q r, v = .ref a ∧ Rd H a (.lst xs) ∧ ts.length = xs.length ∧ xs[j]? = some w ∧ Rep K F H t w q ∧ Dj q r ∧ (∀ a, q a ∨ r a → p a) ∧ (∀ a, r a → F a = none ∧ ∃ o, H a = some o) ∧
    ∀ F2 H2 u q', Ex F F2 → (∀ a, r a → F2 a = none ∧ H2 a = H a) → Rep K F2 H2 u w q' → Dj q' r → Rep K F2 H2 (.lst o (ts.set j u)) v (fun a => q' a ∨ r a) := by
  have own := R.own
  cases R with
  | @lstF a xs _ _ s R =>
    obtain ⟨w, q, r, e1, r1, dj, e2, k⟩ := R.kid h
    exact ⟨a, xs, w, q, r, rfl, Evl.ex_rd ex0 s, R.length, e1, r1, dj, fun a x => (e2 a).mpr x, fun a x => own a ((e2 a).mpr (.inr x)), fun F2 H2 u q' ex fr Ru d2 => .lstF (Evl.ex_rd ex s) (k F2 H2 u q' ex fr Ru d2)⟩
  | @lstO a xs _ _ q0 n hH R d e =>
    obtain ⟨w, q, r, e1, r1, dj, e2, k⟩ := R.kid h
    refine ⟨a, xs, w, q, fun b => b = a ∨ r b, rfl, .inl hH, R.length, e1, r1, fun b x y => ?_, fun b x => ?_, fun b x => ?_, fun F2 H2 u q' ex fr Ru d2 => ?_⟩
    · rcases y with rfl | y
      · exact d ((e2 _).mpr (.inl x))
      · exact dj b x y
    · rcases x with x | rfl | x
      · exact (e b).mpr (.inr ((e2 b).mpr (.inl x)))
      · exact (e b).mpr (.inl rfl)
      · exact (e b).mpr (.inr ((e2 b).mpr (.inr x)))
    · rcases x with rfl | x
      · exact own b ((e b).mpr (.inl rfl))
      · exact own b ((e b).mpr (.inr ((e2 b).mpr (.inr x))))
    · obtain ⟨f1, f2⟩ := fr a (.inl rfl)
      refine .lstO f1 (f2.trans hH) (k F2 H2 u q' ex (fun b x => fr b (.inr x)) Ru fun b x y => d2 b x (.inr y)) (fun x => ?_) fun b => ?_
      · rcases x with x | x
        · exact d2 a x (.inl rfl)
        · exact d ((e2 a).mpr (.inr x))
      · exact or_left_comm
theorem Rep.kidT {ts : List T} {v : V} {j : Nat} {t : T} (R : Rep K F H (.tup ts) v p) (ex0 : Ex F H) (h : ts[j]? = some t) : ∃ a xs w q r, v = .ref a ∧ SqT K H a xs ∧ ts.length = xs.length ∧ xs[j]? = some w ∧ Rep K F H t w q ∧ Dj q r ∧ (∀ a, q a ∨ r a → p a) ∧ (∀ a, r a → F a = none ∧ ∃ o, H a = some o) ∧
    ∀ F2 H2 u q', Ex F F2 → (∀ a, r a → F2 a = none ∧ H2 a = H a) → Rep K F2 H2 u w q' → Dj q' r → Rep K F2 H2 (.tup (ts.set j u)) v (fun a => q' a ∨ r a) := by
  have own := R.own
  cases R with
  | @tup a xs _ _ s R =>
    obtain ⟨w, q, r, e1, r1, dj, e2, k⟩ := R.kid h
    exact ⟨a, xs, w, q, r, rfl, Evl.ex_t ex0 s, R.length, e1, r1, dj, fun a x => (e2 a).mpr x, fun a x => own a ((e2 a).mpr (.inr x)), fun F2 H2 u q' ex fr Ru d2 => .tup (Evl.ex_t ex s) (k F2 H2 u q' ex fr Ru d2)⟩
theorem Rep.kidI {o : Bool} {c : Str} {ns : List Str} {ts : List T} {v : V} {j : Nat} {t : T} (R : Rep K F H (.ins o c ns ts) v p) (ex0 : Ex F H) (h : ts[j]? = some t) : ∃ a dx fs w q r, v = .ref a ∧ H a = some (.ins (He.ga K c) dx fs) ∧ fs.map (·.1) = ns ∧ (fs.map (·.2))[j]? = some w ∧ Rep K F H t w q ∧ Dj q r ∧ (∀ a, q a ∨ r a → p a) ∧ (∀ a, r a → F a = none ∧ ∃ o, H a = some o) ∧
    ∀ F2 H2 u q', Ex F F2 → (∀ a, r a → F2 a = none ∧ H2 a = H a) → Rep K F2 H2 u w q' → Dj q' r → Rep K F2 H2 (.ins o c ns (ts.set j u)) v (fun a => q' a ∨ r a) := by
  have own := R.own
  cases R with
  | @insF a dx _ fs _ _ _ hF hw R =>
    obtain ⟨w, q, r, e1, r1, dj, e2, k⟩ := R.kid h
    exact ⟨a, dx, fs, w, q, r, rfl, ex0 _ _ hF, hw, e1, r1, dj, fun a x => (e2 a).mpr x, fun a x => own a ((e2 a).mpr (.inr x)), fun F2 H2 u q' ex fr Ru d2 => .insF (ex _ _ hF) hw (k F2 H2 u q' ex fr Ru d2)⟩
  | @insO a dx _ fs _ _ _ q0 n hH hw R d e =>
    obtain ⟨w, q, r, e1, r1, dj, e2, k⟩ := R.kid h
    refine ⟨a, dx, fs, w, q, fun b => b = a ∨ r b, rfl, hH, hw, e1, r1, fun b x y => ?_, fun b x => ?_, fun b x => ?_, fun F2 H2 u q' ex fr Ru d2 => ?_⟩
    · rcases y with rfl | y
      · exact d ((e2 _).mpr (.inl x))
      · exact dj b x y
    · rcases x with x | rfl | x
      · exact (e b).mpr (.inr ((e2 b).mpr (.inl x)))
      · exact (e b).mpr (.inl rfl)
      · exact (e b).mpr (.inr ((e2 b).mpr (.inr x)))
    · rcases x with rfl | x
      · exact own b ((e b).mpr (.inl rfl))
      · exact own b ((e b).mpr (.inr ((e2 b).mpr (.inr x))))
    · obtain ⟨f1, f2⟩ := fr a (.inl rfl)
      refine .insO f1 (f2.trans hH) hw (k F2 H2 u q' ex (fun b x => fr b (.inr x)) Ru fun b x y => d2 b x (.inr y)) (fun x => ?_) fun b => ?_
      · rcases x with x | x
        · exact d2 a x (.inl rfl)
        · exact d ((e2 a).mpr (.inr x))
      · exact or_left_comm
/-- the wand of a child -/
theorem Wand.kid {v w : V} {put : T → SL} {f : T → T} {q r : FP} (W : Wand K F H s v put σ) (dj : Dj (fun a => q a ∨ r a) s) (own : ∀ a, r a → F a = none ∧ ∃ o, H a = some o)
    (k : ∀ F2 H2 u q', Ex F F2 → (∀ a, r a → F2 a = none ∧ H2 a = H a) → Rep K F2 H2 u w q' → Dj q' r → Rep K F2 H2 (f u) v (fun a => q' a ∨ r a)) : Wand K F H (fun a => r a ∨ s a) w (fun u => put (f u)) σ :=
  ⟨fun a x => x.elim (own a) (W.1 a), fun F2 H2 t' q' ex fr Rt d2 => by
    obtain ⟨p', sub, S⟩ := W.2 F2 H2 (f t') _ ex (fun a x => fr a (.inr x)) (k F2 H2 t' q' ex (fun a x => fr a (.inl x)) Rt fun a x y => d2 a x (.inl y)) fun a x y => x.elim (fun z => d2 a z (.inr y)) fun z => dj a (.inr z) y
    exact ⟨p', fun a x => (sub a x).elim (fun z => z.elim .inl fun w => .inr (.inl w)) fun z => .inr (.inr z), S⟩⟩
end
structure SdP (X : Cx) (P : Pg) (x : Expr) (e : E) : Prop where
  v : PE X x (tevP X.K P e)
theorem sp_var {i : Nat} {n : Str} (hN : X.N[i]? = some n) (hv : Vis X.env.scope n) (hd : (n == ("__debug__" : Str)) = false) (hcd : (n == ("__classdict__" : Str)) = false) : SdP X P (.Name n pos) (.var i) :=
  ⟨pe_imp (pe_var hN hv hd hcd) fun σ H Q ⟨F, sl, p, t, put, ex, S, e, k⟩ => by
    simp only [plc, Option.bind_eq_some_iff] at e
    obtain ⟨u, e1, e2⟩ := e
    cases e2
    obtain ⟨v, q, r, g, R, dj, ep, S1⟩ := S.take e1
    refine ⟨v, g, k v F H q r ex R dj S (fun a x => (ep a).mpr x) ⟨S1.own, fun F2 H2 t' q' ex2 fr Rt d2 => ?_⟩ Stp.refl⟩
    have z := (S1.frame ex2 fr).put (set_hole_put e1) g Rt d2
    rw [List.set_set] at z
    exact ⟨_, fun a x => x, z⟩⟩
theorem sp_fld {f : Str} (C : ClsOk X.K P) (ha : SdP X P a a') (hb : attributeBase a f X.env (eval a X.env) = eval a X.env) : SdP X P (.Attribute a f pos) (.fld a' f) :=
  ⟨pe_imp (pe_fld ha.v hb) fun σ H Q ⟨F, sl, p, t, put, ex, S, e, k⟩ => by
    simp only [plc, Option.bind_eq_some_iff] at e
    obtain ⟨⟨t1, put1⟩, e1, e2⟩ := e
    cases t1 <;> first | (cases e2; done) | skip
    rename_i o c ns ts
    have e2' : (if P.fd c f then (ns.idxOf? f).bind fun j => (ts[j]?).bind fun t => some (t, fun u => put1 (.ins o c ns (ts.set j u))) else none) = some (t, put) := e2
    by_cases hf : P.fd c f = true
    · rw [if_pos hf] at e2'
      obtain ⟨j, e3, e4⟩ := Option.bind_eq_some_iff.mp e2'
      obtain ⟨t0, e5, e6⟩ := Option.bind_eq_some_iff.mp e4
      cases e6
      obtain ⟨c1, c2⟩ := C.fd c f hf
      refine ⟨F, sl, p, _, put1, ex, S, e1, fun v F' H' q s ex' R dj S' sub W st => ?_⟩
      obtain ⟨a0, dx, fs, w, q2, r2, rfl, hH, hw, g1, R2, dj2, sub2, own2, k2⟩ := R.kidI ex' e5
      refine ⟨a0, _, dx, fs, w, rfl, hH, c1, c2, lookup_idx (hw ▸ e3) g1, ?_⟩
      exact k w F' H' q2 _ ex' R2 (fun a x y => y.elim (dj2 a x) fun z => dj a (sub2 a (.inl x)) z) S' (fun a x => sub a (x.elim (fun z => .inl (sub2 a (.inl z))) fun z => z.elim (fun w => .inl (sub2 a (.inr w))) .inr)) (W.kid (fun a x y => dj a (sub2 a x) y) own2 k2) st
    · rw [if_neg hf] at e2'; cases e2'⟩
theorem sp_idx (ha : SdP X P a a') (hb : Sd X P b b') (hs : PlainIx b) : SdP X P (.Subscript a b pos) (.idx a' b') :=
  ⟨pe_any fun σ H Q ⟨F, sl, p, t, put, ex, S, e, k⟩ => by
    simp only [plc, Option.bind_eq_some_iff] at e
    obtain ⟨⟨t1, put1⟩, e1, ⟨y, sly⟩, e2, e3⟩ := e
    have key : ∀ {i : Int}, y = .int i → ∀ {F' H' : Hp} {G : VK}, Ex F' H' → SlR X.K F' H' sl σ p → (∀ F2 H2, Ex F2 H2 → Stp nop F' H' nop F2 H2 → G (.int i) H2) → tev X.K P .o b' σ H' G := fun {i} hy {F' H' G} ex' S' kk => by
      subst hy
      exact borrow ex' S' e2 rfl fun v2 F2 H2 ex2 R2 st2 => by
        obtain ⟨rfl, _⟩ := R2.int'
        exact kk F2 H2 ex2 st2
    cases t1 <;> cases y <;> first | (cases e3; done) | skip
    · rename_i ts i
      obtain ⟨j, e4, e5⟩ := Option.bind_eq_some_iff.mp e3
      obtain ⟨t0, e6, e7⟩ := Option.bind_eq_some_iff.mp e5
      cases e7
      refine ⟨_, pe_ix ix_tup ha.v (hb.v .o (by decide)) hs, F, sl, p, _, put1, ex, S, e1, fun v F' H' q s ex' R dj S' sub W st => ?_⟩
      refine key (i := i) rfl ex' S' fun F2 H2 ex2 st2 => ?_
      obtain ⟨a1, a2, a3⟩ := st2.frame S'.own fun _ x => x.elim
      have R' := R.frame st2.ex fun a x => a1 a (sub a (.inl x))
      have W' := W.frame st2.ex fun a x => a1 a (sub a (.inr x))
      obtain ⟨a0, xs, w, q2, r2, rfl, hH, hl, g1, R2, dj2, sub2, own2, k2⟩ := R'.kidT ex2 e6
      refine ⟨a0, xs, _, w, rfl, rfl, hH, by unfold L2.atI; rw [← hl, e4]; exact g1, ?_⟩
      exact k w F2 H2 q2 _ ex2 R2 (fun a x y => y.elim (dj2 a x) fun z => dj a (sub2 a (.inl x)) z) (S'.frame st2.ex a1) (fun a x => sub a (x.elim (fun z => .inl (sub2 a (.inl z))) fun z => z.elim (fun w => .inl (sub2 a (.inr w))) .inr)) (W'.kid (fun a x y => dj a (sub2 a x) y) own2 k2) (st.trans st2)
    · rename_i o ts i
      obtain ⟨j, e4, e5⟩ := Option.bind_eq_some_iff.mp e3
      obtain ⟨t0, e6, e7⟩ := Option.bind_eq_some_iff.mp e5
      cases e7
      refine ⟨_, pe_ix ix_list ha.v (hb.v .o (by decide)) hs, F, sl, p, _, put1, ex, S, e1, fun v F' H' q s ex' R dj S' sub W st => ?_⟩
      refine key (i := i) rfl ex' S' fun F2 H2 ex2 st2 => ?_
      obtain ⟨a1, a2, a3⟩ := st2.frame S'.own fun _ x => x.elim
      have R' := R.frame st2.ex fun a x => a1 a (sub a (.inl x))
      have W' := W.frame st2.ex fun a x => a1 a (sub a (.inr x))
      obtain ⟨a0, xs, w, q2, r2, rfl, hH, hl, g1, R2, dj2, sub2, own2, k2⟩ := R'.kidL ex2 e6
      refine ⟨a0, xs, _, w, rfl, rfl, .inl hH, by unfold L2.atI; rw [← hl, e4]; exact g1, ?_⟩
      exact k w F2 H2 q2 _ ex2 R2 (fun a x y => y.elim (dj2 a x) fun z => dj a (sub2 a (.inl x)) z) (S'.frame st2.ex a1) (fun a x => sub a (x.elim (fun z => .inl (sub2 a (.inl z))) fun z => z.elim (fun w => .inl (sub2 a (.inr w))) .inr)) (W'.kid (fun a x y => dj a (sub2 a x) y) own2 k2) (st.trans st2)⟩
end
end Pv

/-! Stores at places; methods that change a place. -/
namespace Pv
open PySem L2 PyProof.Rows
section
variable {K : PySem.W.Frag} {F F' H H' : Hp} {σ : L2.St} {sl sl' : SL} {p p' q r s : FP}
theorem setL {ts : List T} {v v' : V} {j : Nat} {t : T} {pv : FP} (ex : Ex F H) (R : Rep K F H (.lst true ts) v q) (Rt : Rep K F H t v' pv) (dj : Dj pv q) (hj : j < ts.length) :
    ∃ a xs p', v = .ref a ∧ H a = some (.lst xs) ∧ ts.length = xs.length ∧ Ex F (upd H a (.lst (xs.set j v'))) ∧ Rep K F (upd H a (.lst (xs.set j v'))) (.lst true (ts.set j t)) v p' ∧ Stp (fun b => pv b ∨ q b) F H p' F (upd H a (.lst (xs.set j v'))) := by
  cases R with
  | @lstO a xs _ _ q0 n h R d e =>
    obtain ⟨w0, qi, ri, g1, R1, dji, ei, Ri⟩ := R.focus (i := j) (t := ts[j]) (by simp [hj])
    have R2 := Ri.put (i := j) (t := t) (v := v') (q := pv) (by rw [List.getElem?_set_self hj]) Rt fun b x y => dj b x ((e b).mpr (.inr ((ei b).mpr (.inr y))))
    rw [List.set_set] at R2
    have own : ∀ b, (q0 b ∨ pv b) → F b = none ∧ ∃ o, H b = some o := fun b x => x.elim (R.own b) (Rt.own b)
    have nq : ¬ (q0 a ∨ pv a) := fun x => x.elim d fun y => dj a y ((e a).mpr (.inl rfl))
    obtain ⟨g1, g2, g3⟩ := reown (o' := .lst (xs.set j v')) ex n own nq R2 fun b x => x.elim .inr fun y => .inl ((ei b).mpr (.inr y))
    refine ⟨a, xs, _, rfl, h, R.length, g1, .lstO n upd_same g2 (fun x => nq (x.elim .inr fun y => .inl ((ei a).mpr (.inr y)))) fun b => Iff.rfl, g3.cg fun b => ?_⟩
    rw [e b]
    constructor
    · rintro (x | x | x)
      · exact .inr (.inl x)
      · exact .inr (.inr x)
      · exact .inl x
    · rintro (x | x | x)
      · exact .inr (.inr x)
      · exact .inl x
      · exact .inr (.inl x)
theorem ixN_lt {n : Nat} {i : Int} {j : Nat} (h : ixN n i = some j) : j < n := by
  have := ixN_seq h
  obtain ⟨h1, h2, h3, h4⟩ := this
  first
  | omega
  | (unfold ixN at h; split at h <;> (try split at h) <;> cases h <;> omega)
end
theorem get_list {X : Cx} : PGet X (rIxL X.K) := by
  intro pins s σ H x y v u Q I rx ry h
  obtain ⟨p, xs, i, z, rfl, rfl, hq, he, q⟩ := h
  cases rx
  obtain ⟨t, rfl⟩ := ry
  obtain ⟨its, r, pl, hz⟩ := I.list hq
  obtain ⟨j, h1, h2, h3, h4, h5⟩ := atI_get he
  obtain ⟨w, ew, rw'⟩ := r.get h2
  have hl := r.length
  have hn := line63
  have fin : EP X pins σ Q w s := ⟨z, H, I, rw', q⟩
  by_cases h0 : 0 ≤ i
  · have hj : i.toNat = j := by
      rw [seqIndex_of h0 h5] at h1
      exact Option.some.inj h1
    exact wpAny_getItem_list pl.isList h0 (by omega) (by rw [hj]; simpa using ew) fin
  · have hj : (i + (its.toArray.size : Int)).toNat = j := by
      rw [seqIndex_neg (by omega) h4] at h1
      rw [List.size_toArray, ← hl]
      exact Option.some.inj h1
    exact wpAny_getItem_list_neg pl.isList (by omega) (by rw [List.size_toArray] <;> omega) (by omega) (by rw [hj]; simpa using ew) fin
section
variable {X : Cx} {P : Pg} {a b c x y : Expr} {xs : List Expr} {a' b' c' e : E} {es : Es} {pos : Pos}
theorem ss_pst {pp : Pos} (he : Sd X P x e) (ha : SdP X P a a') (hb : Sd X P b b') (hs : swapsWithSole [.Subscript a b pp] x pos.line X.env = pure false) (hw : swappedStores [.Subscript a b pp] x X.env = pure none)
    (hg : ∀ v, assign (.Subscript a b pp) X.env v = (do
      let ov ← holding [v] (eval a X.env)
      let iv ← holding [v, ov] (eval b X.env)
      standAt pp
      holding [v, ov, iv] (setItem ov iv v)
      release [v, ov, iv] [])) :
    PS X (.Assign [.Subscript a b pp] x pos) (tevS X.K P (.pst a' b' e)) := ps_imp (ps_asg (he.v .e (by decide)) (pg_sub ha.v (hb.v .o (by decide)) set_list hg) hs hw rfl) fun D σ H ⟨F, sl, p, fl, sl', ex, S, e0, k⟩ => by
  simp only [evS, Option.bind_eq_some_iff] at e0
  obtain ⟨⟨t, sl1⟩, e1, ⟨t2, put⟩, e2, ⟨y, sly⟩, e3, e4⟩ := e0
  cases t2 <;> first | (cases e4; done) | skip
  rename_i o ts
  cases o <;> first | (cases e4; done) | skip
  cases y <;> first | (cases e4; done) | skip
  rename_i i
  obtain ⟨j, e5, e6⟩ := Option.bind_eq_some_iff.mp e4
  cases e6
  refine ⟨F, sl, p, t, sl1, ex, S, e1, fun v F1 H1 pv1 p1 ex1 S1 R1 dj1 st1 => ?_⟩
  refine ⟨F1, sl1, p1, _, put, ex1, S1, e2, fun v2 F2 H2 q s ex2 R2 dj2 S2 sub W st2 => ?_⟩
  refine borrow ex2 S2 e3 rfl fun v3 F3 H3 ex3 R3 st3 => ?_
  obtain ⟨rfl, _⟩ := R3.int'
  have st23 := st2.trans st3
  obtain ⟨a1, a2, a3⟩ := st23.frame R1.own fun _ x => x.elim
  have R1' := R1.frame st23.ex a1
  obtain ⟨b1, b2, b3⟩ := st3.frame (r := fun a => q a ∨ s a) (fun a x => x.elim (R2.own a) (W.1 a)) fun _ x => x.elim
  have R2' := R2.frame st3.ex fun a x => b1 a (.inl x)
  have W' := W.frame st3.ex fun a x => b1 a (.inr x)
  obtain ⟨a0, xs, p', rfl, hH, hl, g1, g2, g3⟩ := setL (j := j) ex3 R2' R1' (fun a x y => dj1 rfl a x (sub a (.inl y))) (ixN_lt e5)
  obtain ⟨c1, c2, c3⟩ := g3.frame W'.1 fun a x y => x.elim (fun z => dj1 rfl a z (sub a (.inr y))) fun z => dj2 a z y
  obtain ⟨p'', sub2, S4⟩ := W'.2 F3 _ _ p' g3.ex c1 g2 c2
  refine ⟨a0, xs, i, j, rfl, rfl, hH, by rw [← hl]; exact e5, ?_⟩
  refine k σ F3 _ p'' Keep.refl g1 S4 ?_
  obtain ⟨d1, d2, d3⟩ := st23.frame (r := fun a => pv1 a ∨ p1 a) (fun a x => x.elim (R1.own a) (S1.own a)) fun _ x => x.elim
  have stA := st1.trans (d3.cg fun a => ⟨fun x => x.elim (fun z => z.elim) id, .inr⟩)
  refine (stA.sub (q := fun a => (pv1 a ∨ q a) ∨ s a) fun a x => ?_).trans (c3.sub sub2)
  rcases x with (x | x) | x
  · exact .inr (.inl x)
  · exact .inr (.inr (sub a (.inl x)))
  · exact .inr (.inr (sub a (.inr x)))
theorem ss_paug {pp : Pos} {op : Operator} {o : O2} (ho : PIp X op (rIP X.K o)) (he : Sd X P x e) (ha : SdP X P a a') (hb : Sd X P b b')
    (hg : ∀ ov iv new, augStore b ov iv new = (do holding [new, ov, iv] (setItem ov iv new); release [new, ov, iv] []; pure .next)) : PS X (.AugAssign (.Subscript a b pp) op x pos) (tevS X.K P (.paug a' b' o e)) :=
  ps_imp (ps_augS ha.v (hb.v .o (by decide)) get_list (he.v .o (by decide)) ho set_list hg) fun D σ H ⟨F, sl, p, fl, sl', ex, S, e0, k⟩ => by
  simp only [evS, Option.bind_eq_some_iff] at e0
  obtain ⟨⟨t2, put⟩, e2, ⟨y, sly⟩, e3, e4⟩ := e0
  cases t2 <;> first | (cases e4; done) | skip
  rename_i o1 ts
  cases o1 <;> first | (cases e4; done) | skip
  cases y <;> first | (cases e4; done) | skip
  rename_i i
  simp only [Option.bind_eq_some_iff] at e4
  obtain ⟨j, e5, old, e6, ⟨z, slz⟩, e7, w, e8, e9⟩ := e4
  cases e9
  refine ⟨F, sl, p, _, put, ex, S, e2, fun v2 F2 H2 q s ex2 R2 dj2 S2 sub W st2 => ?_⟩
  refine borrow ex2 S2 e3 rfl fun v3 F3 H3 ex3 R3 st3 => ?_
  obtain ⟨rfl, _⟩ := R3.int'
  obtain ⟨b1, b2, b3⟩ := st3.frame (r := fun a => q a ∨ s a) (fun a x => x.elim (R2.own a) (W.1 a)) fun _ x => x.elim
  have R3' := R2.frame st3.ex fun a x => b1 a (.inl x)
  have W3 := W.frame st3.ex fun a x => b1 a (.inr x)
  obtain ⟨c1, c2, c3⟩ := st3.frame S2.own fun _ x => x.elim
  have S3 := S2.frame st3.ex c1
  obtain ⟨a0, xs, q0, rfl, hH, R5, sub5, _⟩ := R3'.seqL ex3
  have hat : L2.atI ts i = some old := by unfold L2.atI; rw [e5]; exact e6
  obtain ⟨vo, qo, go, Ro, subo⟩ := R5.atI hat
  refine ⟨a0, xs, i, vo, rfl, rfl, .inl hH, go, ?_⟩
  have fo := iop_F e8
  have Ro' : Rep X.K F3 H3 old vo nop := Ro.cg fun b => ⟨fun x => Ro.of_isF fo b x, fun x => x.elim⟩
  refine ⟨frF F3 H3 p, brw sl, nop, z, slz, frF_sub ex3, S3.brw, e7, fun v6 F6 H6 pv6 p6 ex6 S6 R6 d6 st6 => ?_⟩
  obtain ⟨u1, u2⟩ := unthaw S3.own (st6.sub (q := nop) fun a x => x.elim) ex6
  have Ro6 : Rep X.K F6 H6 old vo nop := Ro'.upF ((frF_ex fun a x => (S3.own a x).1).trans st6.ex)
  refine ⟨F6, old, z, nop, pv6, w, ex6, Ro6, R6, e8, fun v7 R7 => ?_⟩
  have at7 : atom w = true := by
    revert e8
    cases o <;> cases old <;> cases z <;> intro e8 <;> first | (cases e8; done) | (cases e8; rfl)
  have R7' : Rep X.K (unF F6 p) H6 w v7 nop := atom_rep at7 R7
  obtain ⟨f1, f2, f3⟩ := u2.frame (r := fun a => q a ∨ s a) (fun a x => x.elim (R3'.own a) (W3.1 a)) fun _ x => x.elim
  have R8 := R3'.frame u2.ex fun a x => f1 a (.inl x)
  have W8 := W3.frame u2.ex fun a x => f1 a (.inr x)
  obtain ⟨a9, xs9, p', he9, hH9, hl, g1, g2, g3⟩ := setL (j := j) u1 R8 R7' (fun a x y => x) (ixN_lt e5)
  cases he9
  obtain ⟨h1, h2, h3⟩ := g3.frame W8.1 fun a x y => x.elim (fun z => z) fun z => dj2 a z y
  obtain ⟨p'', sub2, S9⟩ := W8.2 _ _ _ p' g3.ex h1 g2 h2
  refine ⟨a0, xs9, i, j, rfl, rfl, hH9, by rw [← hl]; exact e5, k σ _ _ p'' Keep.refl g1 S9 ?_⟩
  have st26 := (st2.trans st3).trans u2
  obtain ⟨i1, i2, i3⟩ := st26.frame S.own fun _ x => x.elim
  refine ((i3.cg (q := p) fun a => ⟨fun x => x.elim (fun z => z.elim) id, .inr⟩).sub (q := fun a => (nop a ∨ q a) ∨ s a) fun a x => ?_).trans (h3.sub sub2)
  rcases x with (x | x) | x
  · exact x.elim
  · exact .inr (sub a (.inl x))
  · exact .inr (sub a (.inr x))
/-! ### o.f op= e -/
def rIPI (K : PySem.W.Frag) (o : O2) : V → V → Hp → VK → Prop := rIP K o
theorem ss_faug {r : Nat} {n f : Str} {pn pp : Pos} {op : Operator} {o : O2} (C : ClsOk X.K P) (hN : X.N[r]? = some n) (hv : Vis X.env.scope n) (hd : (n == ("__debug__" : Str)) = false) (hcd : (n == ("__classdict__" : Str)) = false) (ho : InOp X op (rIP X.K o)) (he : Sd X P x e) :
    PS X (.AugAssign (.Attribute (.Name n pn) f pp) op x pos) (tevS X.K P (.faug r f o e)) := ps_imp (ps_fldaug (pe_var hN hv hd hcd) (he.v .o (by decide)) ho) fun D σ H ⟨F, sl, p, fl, sl', ex, S, e0, k⟩ => by
  simp only [evS, Option.bind_eq_some_iff] at e0
  obtain ⟨t, e1, e2⟩ := e0
  cases t <;> first | (cases e2; done) | skip
  rename_i o1 c ns ts
  cases o1 <;> first | (cases e2; done) | skip
  simp only [Option.bind_eq_some_iff] at e2
  obtain ⟨old, e3, ⟨z, slz⟩, e4, w, e5, t', e6, e7⟩ := e2
  cases e7
  obtain ⟨v, q, r1, g, R, dj, ep, S1⟩ := S.take e1
  obtain ⟨_, _, _, _, i, e8, h1, h2, h3⟩ := child_some e3
  cases e8
  obtain ⟨c1, c2⟩ := C.fd c f h1
  obtain ⟨a0, dx, fs, q5, rfl, hH, rfl, R5, sub5, _⟩ := R.insI ex
  obtain ⟨vo, qo, go, Ro, subo⟩ := R5.at_ h3
  refine ⟨_, g, a0, _, dx, fs, vo, rfl, hH, c1, c2, lookup_idx h2 go, ?_⟩
  have fo := iop_F e5
  have Ro' : Rep X.K F H old vo nop := Ro.cg fun b => ⟨fun x => Ro.of_isF fo b x, fun x => x.elim⟩
  refine ⟨frF F H p, brw sl, nop, z, slz, frF_sub ex, S.brw, e4, fun v6 F6 H6 pv6 p6 ex6 S6 R6 d6 st6 => ?_⟩
  obtain ⟨u1, u2⟩ := unthaw S.own (st6.sub (q := nop) fun a x => x.elim) ex6
  have Ro6 : Rep X.K F6 H6 old vo nop := Ro'.upF ((frF_ex fun a x => (S.own a x).1).trans st6.ex)
  refine ⟨F6, old, z, nop, pv6, w, ex6, Ro6, R6, e5, fun v7 R7 => ?_⟩
  have at7 : atom w = true := by
    revert e5
    cases o <;> cases old <;> cases z <;> intro e5 <;> first | (cases e5; done) | (cases e5; rfl)
  have R7' : Rep X.K (unF F6 p) H6 w v7 nop := atom_rep at7 R7
  obtain ⟨f1, f2, f3⟩ := u2.frame S.own fun _ x => x.elim
  have R8 := R.frame u2.ex fun a x => f1 a ((ep a).mpr (.inl x))
  have S8 := S1.frame u2.ex fun a x => f1 a ((ep a).mpr (.inr x))
  obtain ⟨a9, dx9, fs9, p', he9, hH9, _, _, hl9, g1, g2, g3, _⟩ := setC_ok C u1 R8 R7' (fun a x _ => x) e6
  cases he9
  obtain ⟨i1, i2, i3⟩ := g3.frame S8.own fun a x y => x.elim (fun z => z) fun z => dj a z y
  have S9 := (S8.frame g3.ex i1).put (set_hole_put e1) g g2 i2
  rw [List.set_set] at S9
  refine ⟨dx9, fs9, hH9, by omega, k σ _ _ _ Keep.refl g1 S9 ?_⟩
  refine ((f3.cg (q := p) fun a => ⟨fun x => x.elim (fun z => z.elim) id, .inr⟩).sub (q := fun a => (nop a ∨ q a) ∨ r1 a) fun a x => ?_).trans i3
  rcases x with (x | x) | x
  · exact x.elim
  · exact .inr ((ep a).mpr (.inl x))
  · exact .inr ((ep a).mpr (.inr x))
theorem inr_add : InOp X .Add (rIP X.K .add) := fun pins s σ H x y v u Q I rx ry w => ipr_add pins s σ H x y v u Q I rx ry w
theorem inr_sub : InOp X .Sub (rIP X.K .sub) := fun pins s σ H x y v u Q I rx ry w => ipr_sub pins s σ H x y v u Q I rx ry w
/-! ### methods of lists at places -/
theorem ev_mutp {m : Md} {q : MK} {sl sl' : SL} {t : T} (h : ev P m (.mutp a' q es) sl = some (t, sl')) :
    ∃ t1 put us t' u, plc P a' sl = some (t1, put) ∧ kindM q t1 = true ∧ evBs P es sl = some us ∧ mutT q t1 us = some (t', u) ∧ fin m false u (put t') = some (t, sl') := by
  simp only [ev, Option.bind_eq_some_iff] at h
  obtain ⟨⟨t1, put⟩, e0, h⟩ := h
  by_cases hk : kindM q t1 = true
  · simp only [hk, if_true, Option.bind_eq_some_iff] at h
    obtain ⟨us, e1, ⟨t', u⟩, e3, e4⟩ := h
    exact ⟨t1, put, us, t', u, e0, hk, e1, e3, e4⟩
  · simp only [hk] at h; cases h
theorem plain_mutp {q : MK} : Plain P (.mutp a' q es) := fun sl t sl' h => by
  obtain ⟨t1, put, us, t', u, e0, hk, e1, e3, e4⟩ := ev_mutp h
  obtain ⟨b, h1, h2, rfl⟩ := fin_t e4
  exact ⟨u, b, by simp only [ev, e0, Option.bind_some, hk, if_true, e1, e3, fin], h1, h2⟩
theorem core_mutp {m : Md} {q : MK} {σ : L2.St} {H : Hp} {Q : VK} (hm : m ≠ .t) (h : tev X.K P m (.mutp a' q es) σ H Q) : tBM X.K "list" (rM X.K q) (tevP X.K P a') (tevBs X.K P es) σ H Q := by
  obtain ⟨F, sl, p, t, sl', ex, S, e, k⟩ := h
  obtain ⟨t1, put, us, t', u, e0, hk, e1, e3, e4⟩ := ev_mutp e
  obtain ⟨rfl, rfl, _⟩ := fin_some hm e4
  obtain ⟨o, ts, rfl⟩ := kind_lst hk
  refine ⟨F, sl, p, _, put, ex, S, e0, fun v F1 H1 q1 s ex1 R1 dj1 S1 sub W st1 => ?_⟩
  obtain ⟨a0, xs0, q0, rfl, s1, _⟩ := R1.seqL ex1
  refine ⟨.inl ⟨rfl, xs0, .inl s1⟩, F1, sl, p, us, ex1, S1, e1, fun vs F2 H2 pv2 ex2 R2 st2 => ?_⟩
  obtain ⟨a1, a2, a3⟩ := st2.frame S1.own fun _ x => x.elim
  have R1' := R1.frame st2.ex fun a x => a1 a (sub a (.inl x))
  have W' := W.frame st2.ex fun a x => a1 a (sub a (.inr x))
  refine ⟨F2, _, us, q1, pv2, t', _, ex2, R1', R2, fun b x y => a2 b y (sub b (.inl x)), e3, fun v F3 H3 pv p' ex3 Rt Ru dj3 st3 => ?_⟩
  obtain ⟨b1, b2, b3⟩ := st3.frame W'.1 fun b x y => x.elim (fun z => dj1 b z y) fun z => a2 b z (sub b (.inr y))
  obtain ⟨p'', sub2, S3⟩ := W'.2 F3 H3 t' p' st3.ex b1 Rt fun b x y => b2 b (.inr x) y
  refine k v F3 H3 pv p'' ex3 S3 Ru (fun _ b x y => (sub2 b y).elim (dj3 b x) fun z => b2 b (.inl x) z) ?_
  have st12 := st1.trans st2
  obtain ⟨c1, c2, c3⟩ := st12.frame S.own fun _ x => x.elim
  refine ((c3.cg (q := p) fun a => ⟨fun x => x.elim (fun z => z.elim) id, .inr⟩).sub (q := fun b => (q1 b ∨ pv2 b) ∨ s b) fun b x => ?_).trans (b3.sub fun b x => ?_)
  · rcases x with (x | x) | x
    · exact .inr (sub b (.inl x))
    · exact .inl x
    · exact .inr (sub b (.inr x))
  · rcases x with x | x
    · exact .inl (.inl x)
    · exact (sub2 b x).elim (fun z => .inl (.inr z)) .inr
theorem sd_mutp {name : Str} {id : String} {q : MK} {apos : Pos} (pa : PlainAttrs "list") (slot : Slot "list" name id) (hty : typeOf (.builtin id) = pure (.type "method_descriptor")) (hr : MtR X id (rM X.K q))
    (hp : SdP X P a a') (hb : attributeBase a name X.env (eval a X.env) = eval a X.env) (ha : PA X (x :: xs) (tevBs X.K P es))
    (hfew : ((backTo pos (starEach (x :: xs) X.env)).all (fun x => !x.1) && (backToKw pos (keywordEach [] X.env)).all (fun x => x.1.isSome)
      && decide ((x :: xs).length + ([] : List Keyword).length + (if ([] : List Keyword).isEmpty then 0 else 1) < 30)) = true) (hl : (apos.endLine == pos.line) = true)
    (he : starEach (x :: xs) X.env = (false, eval x X.env) :: starEach xs X.env) (hpl : (backTo pos (starEach xs X.env)).any (·.1) = false) : Sd X P (.Call (.Attribute a name apos) (x :: xs) [] pos) (.mutp a' q es) :=
  have v : ∀ m, m ≠ .t → PE X (.Call (.Attribute a name apos) (x :: xs) [] pos) (tev X.K P m (.mutp a' q es)) := fun m hmm =>
    pe_imp (pe_bm pa slot hty hr hp.v ha hb hfew hl he hpl) fun σ H Q h => core_mutp hmm h
  ⟨v, pt_plain (v .o (by decide)) plain_mutp fun _ => rfl⟩
/-! ### targets of targets -/
theorem sG_one {g : G0} (h : PG X x (tevG X.K (stG0 g) (setG0 P g))) : PG X x (tevG X.K (stG (.one g)) (setG P (.one g))) := h
theorem sGs_nil : PGs X [] (tevGs X.K (([] : List G0).flatMap stG0) (setGs P [])) := pgs_imp pgs_nil fun vs σ H Q ⟨F, ts, pv, sl, p, sl', ex, R, S, dj, e, k⟩ => by
  cases R with
  | nil _ =>
    cases e
    exact ⟨rfl, k σ F H p Keep.refl ex S (Stp.refl.sub fun a x => .inr x)⟩
  | cons => cases e
theorem sGs_cons {g : G0} {gs : List G0} (h1 : PG X a (tevG X.K (stG0 g) (setG0 P g))) (h2 : PGs X xs (tevGs X.K (gs.flatMap stG0) (setGs P gs))) (hs : (assignEach (a :: xs) X.env).map (·.2) = assign a X.env :: (assignEach xs X.env).map (·.2)) :
    PGs X (a :: xs) (tevGs X.K ((g :: gs).flatMap stG0) (setGs P (g :: gs))) := pgs_imp (pgs_cons h1 h2 hs) fun vs σ H Q ⟨F, ts, pv, sl, p, sl', ex, R, S, dj, e, k⟩ => by
  cases R with
  | nil _ => cases e
  | @cons t v ts vs p1 q1 _ h hs d e1 =>
    obtain ⟨sl1, e2, e3⟩ := Option.bind_eq_some_iff.mp (show ((setG0 P g t sl).bind fun sl => setGs P gs ts sl) = some sl' from e)
    refine ⟨v, vs, rfl, F, t, p1, sl, p, sl1, ex, h, S, fun b x y => dj b ((e1 b).mpr (.inl x)) y, e2, fun σ1 F1 H1 p2 k1 ex1 S1 st1 => ?_⟩
    obtain ⟨a1, a2, a3⟩ := st1.frame hs.own fun b x y => x.elim (fun z => d b z y) fun z => dj b ((e1 b).mpr (.inr y)) z
    refine ⟨F1, ts, q1, sl1, p2, sl', ex1, hs.frame st1.ex a1, S1, fun b x y => a2 b y x, e3, fun σ2 F2 H2 p3 k2 ex2 S2 st2 => ?_⟩
    refine k σ2 F2 H2 p3 ((k1.mono fun j z => ?_).trans (k2.mono fun j z => ?_)) ex2 S2 ?_
    · rw [List.flatMap_cons]; exact List.mem_append_left _ z
    · rw [List.flatMap_cons]; exact List.mem_append_right _ z
    · refine (a3.trans (st2.cg fun b => or_comm)).cg fun b => ?_
      rw [e1 b]
      constructor
      · rintro ((x | x) | x)
        · exact .inl (.inl x)
        · exact .inr x
        · exact .inl (.inr x)
      · rintro ((x | x) | x)
        · exact .inl (.inl x)
        · exact .inr x
        · exact .inl (.inr x)
theorem setGs_len {gs : List G0} : ∀ {ts : List T} {sl sl' : SL}, setGs P gs ts sl = some sl' → ts.length = gs.length := by
  induction gs with
  | nil => intro ts sl sl' h; cases ts <;> first | rfl | cases h
  | cons g gs ih => intro ts sl sl' h; cases ts with
    | nil => cases h
    | cons t ts =>
      obtain ⟨sl1, _, e3⟩ := Option.bind_eq_some_iff.mp (show ((setG0 P g t sl).bind fun sl => setGs P gs ts sl) = some sl' from h)
      exact congrArg Nat.succ (ih e3)
theorem sG_tp {gs : List G0} {k1 : Nat} (hc : X.calm = true) (h : PGs X xs (tevGs X.K (gs.flatMap stG0) (setGs P gs))) (hn : (assignEach xs X.env).length = gs.length) (hst : (assignEach xs X.env).findIdx? (·.1) = none) : PG X (.Tuple xs k1 pos) (tevG X.K (stG (.tp gs)) (setG P (.tp gs))) :=
  pg_imp (pg_tup hc h hn hst) fun v σ H Q ⟨F, t, pv, sl, p, sl', ex, R, S, dj, e, k⟩ => by
    cases t <;> first | (cases e; done) | skip
    rename_i ts
    have e' : setGs P gs ts sl = some sl' := e
    obtain ⟨a0, ys, rfl, s1, r1⟩ := R.seqT ex
    exact ⟨a0, ys, rfl, s1, by rw [← r1.length, setGs_len e'], F, ts, pv, sl, p, sl', ex, r1, S, dj, e', k⟩
end
end Pv

/-! More operations. -/
namespace Pv
open PySem L2 PyProof.Rows
section
variable {X : Cx} {P : Pg} {a b c x y : Expr} {xs : List Expr} {a' b' c' e : E} {es : Es} {pos : Pos}
theorem rep_nonV {K : PySem.W.Frag} {F H : Hp} {t : T} {v : V} {p : FP} {b : Bool} (h : isNon t = some b) (R : Rep K F H t v p) : decide (v = .non) = b := by
  cases t <;> first | (cases h; done) | skip
  all_goals cases h
  · obtain ⟨rfl, _⟩ := R.non'; rfl
  · obtain ⟨rfl, _⟩ := R.bl'; rfl
  · obtain ⟨rfl, _⟩ := R.int'; rfl
  · obtain ⟨rfl, _⟩ := R.str'; rfl
  · cases R; rfl
  · cases R <;> rfl
  · cases R <;> rfl
  · cases R <;> rfl
theorem or_isS : OpR X (compareOp .Is) (rT2 X.K .isS) := opr_any fun x y H Q h => by
  obtain ⟨F, t, u, p, q, r, ex, ht, hu, e, k⟩ := h
  cases u <;> first | (cases t <;> cases e; done) | skip
  · obtain ⟨rfl, _⟩ := hu.non'
    have e' : (isNon t).map T.bl = some r := by cases t <;> exact e
    obtain ⟨b, e1, rfl⟩ := Option.map_eq_some_iff.mp e'
    refine ⟨_, op_isN, rfl, ?_⟩
    rw [rep_nonV e1 ht]
    exact d_bl k ex
  · obtain ⟨rfl, _⟩ := hu.bl'
    cases t <;> first | (cases e; done) | skip
    obtain ⟨rfl, _⟩ := ht.bl'
    cases e
    exact ⟨_, L2.op_isBl, _, _, rfl, rfl, d_bl k ex⟩
theorem or_notS : OpR X (compareOp .IsNot) (rT2 X.K .notS) := opr_any fun x y H Q h => by
  obtain ⟨F, t, u, p, q, r, ex, ht, hu, e, k⟩ := h
  cases u <;> first | (cases t <;> cases e; done) | skip
  · obtain ⟨rfl, _⟩ := hu.non'
    have e' : (isNon t).map (fun b => T.bl (!b)) = some r := by cases t <;> exact e
    obtain ⟨b, e1, rfl⟩ := Option.map_eq_some_iff.mp e'
    refine ⟨_, op_notN, rfl, ?_⟩
    rw [rep_nonV e1 ht]
    exact d_bl k ex
  · obtain ⟨rfl, _⟩ := hu.bl'
    cases t <;> first | (cases e; done) | skip
    obtain ⟨rfl, _⟩ := ht.bl'
    cases e
    exact ⟨_, L2.op_notBl, _, _, rfl, rfl, d_bl k ex⟩
def rCmb : List V → Hp → VK → Prop := fun xs H Q => ∃ i j : Int, xs = [.int i, .int j] ∧ 0 ≤ i ∧ 0 ≤ j ∧ i ≤ 18000 ∧ Q (.int (PySem.W.mcComb i j)) H
theorem cr_cmb : CallR X (.builtin "math.comb") rCmb := by
  intro pins s σ H vs us Q I r h
  obtain ⟨a, b, rfl, h1, h2, h3, q⟩ := h
  obtain ⟨t, u, rfl⟩ := Vals.int2 r
  exact PySem.W.mc_comb h1 h2 (by omega) (.inr h3) fun _ => ⟨.int _, H, I.tok _, ⟨_, rfl⟩, q⟩
theorem cr_comb2 : CallR X (.builtin "math.comb") (rC2 X.K .comb) := callr_any fun xs H Q h => by
  obtain ⟨x, y, rfl, F, t, u, p, q, r, ex, ht, hu, e, k⟩ := h
  cases t <;> cases u <;> first | (cases e; done) | skip
  rename_i i j
  obtain ⟨rfl, _⟩ := ht.int'; obtain ⟨rfl, _⟩ := hu.int'
  have e' : (if decide (0 ≤ i) && decide (0 ≤ j) && decide (i ≤ 18000) then some (T.int (PySem.W.mcComb i j)) else none) = some r := e
  by_cases hz : (decide (0 ≤ i) && decide (0 ≤ j) && decide (i ≤ 18000)) = true
  · rw [if_pos hz] at e'; cases e'
    simp only [Bool.and_eq_true, decide_eq_true_eq] at hz
    exact ⟨_, cr_cmb, _, _, rfl, hz.1.1, hz.1.2, hz.2, d_int k ex⟩
  · rw [if_neg hz] at e'; cases e'
/-! ### isinstance -/
def isiT : Nat → String
  | 0 => "bool"
  | 1 => "int"
  | 2 => "str"
  | 3 => "tuple"
  | 4 => "list"
  | _ => "dict"
theorem tyx_lst {K : PySem.W.Frag} {H : Hp} {a : Addr} {xs : List V} (h : Rd H a (.lst xs)) : TyX K H (.ref a) (.type "list") := h.elim (fun z => .base (.lst z)) fun ⟨o, z⟩ => .base (.frz z)
theorem tyx_tup {K : PySem.W.Frag} {H : Hp} {a : Addr} {xs : List V} (h : SqT K H a xs) : TyX K H (.ref a) (.type "tuple") := by
  rcases h with (h | ⟨o, h⟩) | ⟨o, its, n, e, c, _⟩
  · exact .base (.tup h)
  · exact .fTuple h
  · exact .kTuple e c
def tagT : T → Option String
  | .non => some "NoneType"
  | .bl _ => some "bool"
  | .int _ => some "int"
  | .str _ => some "str"
  | .tup _ => some "tuple"
  | .lst _ _ => some "list"
  | _ => none
theorem tyx_of {K : PySem.W.Frag} {F H : Hp} {t : T} {v : V} {p : FP} {g : String} (ex : Ex F H) (h : tagT t = some g) (R : Rep K F H t v p) : TyX K H v (.type g) := by
  cases t <;> first | (cases h; done) | skip
  all_goals cases h
  · obtain ⟨rfl, _⟩ := R.non'; exact .base .non
  · obtain ⟨rfl, _⟩ := R.bl'; exact .base (.bl _)
  · obtain ⟨rfl, _⟩ := R.int'; exact .base (.int _)
  · obtain ⟨rfl, _⟩ := R.str'; exact .base (.str _)
  · obtain ⟨a, xs, rfl, s, _⟩ := R.seqT ex; exact tyx_tup s
  · obtain ⟨a, xs, q, rfl, s, _⟩ := R.seqL ex; exact tyx_lst s
theorem isi_tag {k : Nat} {t r : T} (h : op1 (.isi k) t = some r) : ∃ g b, tagT t = some g ∧ r = .bl b ∧ kitB g (isiT k) = some b := by
  cases t <;> first | (cases h; done) | skip
  all_goals cases h
  all_goals refine ⟨_, _, rfl, rfl, ?_⟩
  all_goals match k with
    | 0 => decide +kernel
    | 1 => decide +kernel
    | 2 => decide +kernel
    | 3 => decide +kernel
    | 4 => decide +kernel
    | k + 5 => change kitB _ "dict" = some false; decide +kernel
theorem sd_isi {k : Nat} {n : Str} {p p2 : Pos} (hg : Gl X "isinstance") (hm : X.mg "isinstance" = none) (hg2 : Gl X n) (hm2 : X.mg n = none) (hv : bootBuiltins n = some (.type (isiT k))) (hn : n ≠ "__name__") (hdb : (n == ("__debug__" : Str)) = false) (ha : Sd X P a a')
    (he : starEach [a, .Name n p2] X.env = (false, eval a X.env) :: starEach [.Name n p2] X.env) : Sd X P (.Call (.Name "isinstance" p) [a, .Name n p2] [] pos) (.op1 (.isi k) a') :=
  have v : ∀ m, m ≠ .t → PE X (.Call (.Name "isinstance" p) [a, .Name n p2] [] pos) (tev X.K P m (.op1 (.isi k) a')) := fun m hmm => pe_imp (pe_callB call_isi hg hm boot_isinstance (pa_cons (ha.v .o (by decide)) (pa_cons (pe_bltn hg2 hm2 hv (v := .ty (isiT k)) rfl hn hdb) pa_nil rfl) he) (by decide) (by decide) he rfl) fun σ H Q h => by
    obtain ⟨F, sl, p, t, sl', ex, S, e, kk⟩ := h
    obtain ⟨t1, sl1, r, e1, e3, e4⟩ := ev_op1 e
    obtain ⟨rfl, rfl, _⟩ := fin_some hmm e4
    obtain ⟨g, b, h1, rfl, h3⟩ := isi_tag e3
    exact ⟨F, sl, p, t1, _, ex, S, e1, fun v F' H' pv p' ex' S' R d st => ⟨v, _, _, _, b, rfl, .ty _, tyx_of ex' h1 R, kit_ty h3, kk _ F' H' nop p' ex' S' (.bl fun _ x => x) (fun _ _ x => x.elim) (st.sub fun a x => x.elim (fun z => z.elim) .inr)⟩⟩
  ⟨v, pt_plain (v .o (by decide)) plain_op1 fun _ => rfl⟩
/-! ### a part taken out, frozen where it stands -/
theorem sd_frzp (he : Sd X P x e) (hp : SdP X P x a') : Sd X P x (.frzp e a') where
  v := fun m hm => by
    cases m with
    | t => exact absurd rfl hm
    | o => exact pe_imp (he.v .o (by decide)) fun σ H Q ⟨F, sl, p, t, sl', ex, S, e0, k⟩ => ⟨F, sl, p, t, sl', ex, S, by simpa only [ev] using e0, k⟩
    | e =>
      refine pe_any fun σ H Q ⟨F, sl, p, t, sl', ex, S, e0, k⟩ => ?_
      simp only [ev, Option.bind_eq_some_iff] at e0
      obtain ⟨⟨t1, sl1⟩, e1, e2⟩ := e0
      by_cases f : isF t1 = true
      · rw [if_pos f] at e2; cases e2
        exact ⟨_, he.v .o (by decide), F, sl, p, _, _, ex, S, e1, fun v F' H' pv p' ex' S' R' dj st => k v F' H' pv p' ex' S' R' (fun _ a x _ => R'.of_isF f a x) st⟩
      · rw [if_neg f] at e2
        obtain ⟨⟨t2, put⟩, e3, e4⟩ := Option.bind_eq_some_iff.mp e2
        cases e4
        refine ⟨_, hp.v, F, sl, p, _, put, ex, S, e3, fun v F' H' q s ex' R dj S' sub W st => ?_⟩
        have exF : Ex F' (frF F' H' q) := frF_ex fun a x => (R.own a x).1
        have R2 : Rep X.K (frF F' H' q) H' (frz t2) v nop := R.frz exF fun a x => frF_in x
        obtain ⟨p', sub2, S2⟩ := W.2 (frF F' H' q) H' (frz t2) nop exF (fun a x => ⟨(frF_out fun z => dj a z x).trans (W.1 a x).1, rfl⟩) R2 fun _ x => x.elim
        have sp : ∀ a, p' a → p a := fun a x => (sub2 a x).elim (fun z => z.elim) fun z => sub a (.inr z)
        obtain ⟨a1, a2, a3⟩ := st.frame S.own fun _ x => x.elim
        have st1 : Stp p F H p F' H' := (a3.cg fun a => ⟨fun x => x.elim (fun z => z.elim) id, .inr⟩).sub fun a x => .inr x
        have st2 : Stp p F' H' p' (frF F' H' q) H' := ⟨exF, fun _ _ h _ => h, fun a o h n => frF_out fun z => n (sub a (.inl z)), fun a x => .inl (sp a x)⟩
        exact k v (frF F' H' q) H' nop p' (frF_sub ex') S2 R2 (fun _ _ x => x.elim) ((st1.trans st2).sub fun a x => x.elim (fun z => z.elim) id)
  t := pt_imp he.t fun σ H Q ⟨F, sl, p, b, sl', ex, S, e0, k⟩ => ⟨F, sl, p, b, sl', ex, S, by simpa only [ev] using e0, k⟩
/-! ### what is not covered -/
theorem sd_bad : Sd X P x .bad := ⟨fun m hm => ⟨fun pins s σ H Q I ⟨F, sl, p, t, sl', ex, S, e, k⟩ => by simp only [ev] at e; cases e⟩, pt_none fun sl => by simp only [ev]⟩
theorem sp_bad : SdP X P x .bad := ⟨⟨fun pins s σ H Q I ⟨F, sl, p, t, put, ex, S, e, k⟩ => by simp only [plc] at e; cases e⟩⟩
theorem si_bad {tg : Expr} : PI X tg x (tevI X.K P .bad) := ⟨fun pins s σ H Q I ⟨F, sl, p, ts, sl', ex, S, e, k⟩ => by simp only [evI] at e; cases e⟩
theorem ss_bad {st : Stmt} : PS X st (tevS X.K P .bad) := ⟨fun pins s σ H D I ⟨F, sl, p, fl, sl', ex, S, e, k⟩ => by simp only [evS] at e; cases e⟩
end
end Pv

/-! From the program's text to the small language. -/
namespace Pv
open PySem L2 PyProof.Rows
structure Gm where
  N : List Str
  sc : Scope
  fnc : Str → Bool
  cs : List (Str × T)
  fs : List (Str × Nat)
  cl : List (Str × Nat)
  im : List (Str × String)
  bl : List Str
  mv : List (Nat × Nat)
def Gm.blk (Γ : Gm) (scope : Scope) : Gm := { Γ with sc := relS scope Γ.sc, fnc := fun x => scope.names.lookup x == some .cell }
def okN2 (n : Str) : Bool := !(n == ("__debug__" : Str)) && !(n == ("__classdict__" : Str))
def visB (sc : Scope) (n : Str) : Bool := match sc.names.lookup n with
  | some .local => true
  | some .cell => true
  | some .free => true
  | _ => false
/-- a name's place -/
def slot (Γ : Gm) (n : Str) : Option Nat := if visB Γ.sc n && okN2 n then Γ.N.idxOf? n else none
/-- a name's place, where it is stored -/
def tslot (Γ : Gm) (n : Str) : Option Nat := match Γ.sc.names.lookup n with
  | some .local => Γ.N.idxOf? n
  | some .cell => if Γ.fnc n then Γ.N.idxOf? n else none
  | _ => none
def isGl (Γ : Gm) (n : Str) : Bool := match Γ.sc.names.lookup n with
  | some .globalImplicit => okN2 n && !(n == ("__name__" : Str))
  | _ => false
def notStar : Expr → Bool
  | .Starred .. => false
  | _ => true
def plainEs (xs : List Expr) : Bool := xs.all notStar
def noSup : Expr → Bool
  | .Call .. => false
  | _ => true
def notSlice : Expr → Bool
  | .Slice .. => false
  | _ => true
def notSet : Expr → Bool
  | .Set .. => false
  | _ => true
def notComp : Expr → Bool
  | .ListComp .. => false
  | .SetComp .. => false
  | .DictComp .. => false
  | _ => true
def esOf (f : Expr → E) : List Expr → Es
  | [] => .nil
  | x :: xs => .cons (f x) (esOf f xs)
def argOf (Γ : Gm) (f : Gm → Expr → E) : Expr → E
  | .Name n p => match slot Γ n with
    | some i => if Γ.mv.contains (p.line, p.col) then .mov i else .var i
    | none => let e := f Γ (.Name n p); if isVar e then .bad else e
  | x => let e := f Γ x; if isVar e then .bad else e
def cOp : Operator → Option O2
  | .Add => some .add
  | .Sub => some .sub
  | .Mult => some .mul
  | .FloorDiv => some .fdiv
  | .Mod => some .mod
  | .Pow => some .pow
  | .BitXor => some .bxor
  | _ => none
def cCmp : CmpOp → Option O2
  | .Lt => some .lt
  | .LtE => some .le
  | .Gt => some .gt
  | .GtE => some .ge
  | .Eq => some .eq
  | .NotEq => some .ne
  | .Is => some .isS
  | .IsNot => some .notS
  | _ => none
def cB (f : Expr → E) (op : BoolOp) : List Expr → E
  | [] => .bad
  | [a] => f a
  | a :: b :: xs => match op with
    | .And => .an (f a) (cB f op (b :: xs))
    | .Or => .orr (f a) (cB f op (b :: xs))
def cC (f : Expr → E) : List CmpOp → List Expr → Option Ch
  | [o], [b] => (cCmp o).bind fun o => some (.last o (f b))
  | o :: o2 :: os, b :: c :: xs => (cCmp o).bind fun o => (cC f (o2 :: os) (c :: xs)).bind fun ch => some (.more o (f b) ch)
  | _, _ => none
def mkOf (m : Str) (n : Nat) : Option MK :=
  if m == ("append" : Str) && n == 1 then some .append
  else if m == ("extend" : Str) && n == 1 then some .extend
  else if m == ("insert" : Str) && n == 2 then some .insert
  else if m == ("pop" : Str) && n == 0 then some .pop
  else if m == ("pop" : Str) && n == 1 then some .popi
  else none
def tyOf (n : Str) : Option Nat :=
  if n == ("bool" : Str) then some 0
  else if n == ("int" : Str) then some 1
  else if n == ("str" : Str) then some 2
  else if n == ("tuple" : Str) then some 3
  else if n == ("list" : Str) then some 4
  else none
def cBlt1 (n : Str) : Option O1 :=
  if n == ("len" : Str) then some .len
  else if n == ("abs" : Str) then some .abs
  else if n == ("int" : Str) then some .int
  else if n == ("list" : Str) then some .list
  else none
def cBlt2 (n : Str) : Option O2 :=
  if n == ("min" : Str) then some .min2
  else if n == ("max" : Str) then some .max2
  else none
def cIm2 (id : String) : Option O2 :=
  if id == "math.gcd" then some .gcd
  else if id == "math.comb" then some .comb
  else none
def cCallN (f : Gm → Expr → E) (Γ : Gm) (n : Str) (xs : List Expr) : E :=
  if isGl Γ n && plainEs xs then match Γ.fs.lookup n with
    | some i => .call i (esOf (argOf Γ f) xs)
    | none => match Γ.cl.lookup n with
      | some i => .mk n i (esOf (argOf Γ f) xs)
      | none => match Γ.im.lookup n with
        | some id => match xs with
          | [a, b] => match cIm2 id with
            | some o => .op2 o (f Γ a) (f Γ b)
            | none => .bad
          | _ => .bad
        | none => if Γ.bl.contains n then match xs with
            | [a] => match cBlt1 n with
              | some o => .op1 o (f Γ a)
              | none => .bad
            | [a, b] => match cBlt2 n with
              | some o => .op2 o (f Γ a) (f Γ b)
              | none => if n == ("isinstance" : Str) then match b with
                  | .Name t _ => if isGl Γ t && Γ.bl.contains t then match tyOf t with
                    | some k => .op1 (.isi k) (f Γ a)
                    | none => .bad
                    else .bad
                  | _ => .bad
                else .bad
            | _ => .bad
          else .bad
  else .bad
def cCallM (f h : Gm → Expr → E) (Γ : Gm) (o : Expr) (m : Str) (apos pos : Pos) (xs : List Expr) : E :=
  if plainEs xs && decide (xs.length < 28) && (apos.endLine == pos.line) then match o with
    | .Name r _ => match slot Γ r with
      | some i => match mkOf m xs.length with
        | some q => .mut i q (esOf (f Γ) xs)
        | none => .meth i m (esOf (argOf Γ f) xs)
      | none => .bad
    | o => match mkOf m xs.length with
      | some q => if noSup o && !xs.isEmpty then .mutp (h Γ o) q (esOf (f Γ) xs) else .bad
      | none => .bad
  else .bad
def isTup : Expr → Bool
  | .Tuple .. => true
  | _ => false
/-- what is walked (tg: the target) -/
def cI (f : Gm → Expr → E) (Γ : Gm) (tg : Expr) (e : Expr) : Pv.It := match e with
  | .Call (.Name n _) xs [] _ => if isGl Γ n && Γ.bl.contains n && plainEs xs then
      if n == ("range" : Str) then match xs with
        | [a] => .rng1 (f Γ a)
        | [a, b] => .rng2 (f Γ a) (f Γ b)
        | [a, b, c] => .rng3 (f Γ a) (f Γ b) (f Γ c)
        | _ => .bad
      else if n == ("enumerate" : Str) then match xs with
        | [a] => if isTup tg then .enum (f Γ a) else .bad
        | _ => .bad
      else if n == ("zip" : Str) then match xs with
        | [a, b] => if isTup tg then .zip (f Γ a) (f Γ b) else .bad
        | _ => .bad
      else if n == ("reversed" : Str) then match xs with
        | [a] => .rev (f Γ a)
        | _ => .bad
      else .seq (f Γ e)
    else .seq (f Γ e)
  | e => .seq (f Γ e)
def nmsOf (Γ : Gm) : List Expr → Option (List Nat)
  | [] => some []
  | .Name n _ :: xs => (tslot Γ n).bind fun i => (nmsOf Γ xs).bind fun is => some (i :: is)
  | _ :: _ => none
def cG0 (Γ : Gm) : Expr → Option G0
  | .Name n _ => (tslot Γ n).bind fun i => some (.nm i)
  | .Tuple xs _ _ => (nmsOf Γ xs).bind fun is => some (.tp is)
  | .Attribute (.Name r _) f _ => (slot Γ r).bind fun i => some (.at i f)
  | _ => none
def cG0s (Γ : Gm) : List Expr → Option (List G0)
  | [] => some []
  | x :: xs => (cG0 Γ x).bind fun g => (cG0s Γ xs).bind fun gs => some (g :: gs)
def cG (Γ : Gm) : Expr → Option G
  | .Tuple xs _ _ => (cG0s Γ xs).bind fun gs => some (.tp gs)
  | x => (cG0 Γ x).bind fun g => some (.one g)
/-- the block's own names, with their places -/
def ownOf (N : List Str) : List (Str × NameKind) → List (Str × Nat)
  | [] => []
  | (n, k) :: r => if k == .local || k == .cell then (match N.idxOf? n with
    | some i => (n, i) :: ownOf N r
    | none => ownOf N r) else ownOf N r
def cIf (f : Expr → E) : List Expr → Option E
  | [] => some (.cst (.bl true))
  | [c] => some (f c)
  | _ => none
def cLc (f : Gm → Expr → E) (Γ : Gm) (elt tg iter : Expr) (ifs : List Expr) (scope : Scope) : E :=
  let own := ownOf Γ.N scope.names
  if blkC Γ.N Γ.sc scope own && notSet iter then match cG (Γ.blk scope) tg, cIf (f (Γ.blk scope)) ifs with
    | some g, some c => if (stG g).all fun i => (own.map (·.2)).contains i then .lc (own.map (·.2)) g (cI f Γ tg iter) c (f (Γ.blk scope) elt) else .bad
    | _, _ => .bad
  else .bad
def cE1 (f h : Gm → Expr → E) (Γ : Gm) (e : Expr) : E := match e with
  | .Constant c _ _ => match c with
    | .int i => .cst (.int i)
    | .bool i => .cst (.bl i)
    | .str i => .cst (.str i)
    | .none => .cst .non
    | _ => .bad
  | .Name n p => match slot Γ n with
    | some i => if Γ.mv.contains (p.line, p.col) then .mov i else .var i
    | none => if isGl Γ n then match Γ.cs.lookup n with
      | some t => .glb n t
      | none => .bad
      else .bad
  | .BinOp a op b _ => match cOp op with
    | some o => .op2 o (f Γ a) (f Γ b)
    | none => .bad
  | .UnaryOp op a _ => match op with
    | .Not => .nt (f Γ a)
    | .USub => .op1 .neg (f Γ a)
    | _ => .bad
  | .BoolOp op xs _ => match xs with
    | a :: b :: xs => cB (f Γ) op (a :: b :: xs)
    | _ => .bad
  | .Compare a ops xs _ => match ops, xs with
    | [op], [b] => if behindInMarks op b then .bad else match cCmp op with
      | some o => .op2 o (f Γ a) (f Γ b)
      | none => .bad
    | o1 :: o2 :: os, b :: c :: xs => if lastMarks (o1 :: o2 :: os) (b :: c :: xs) then .bad else match cC (f Γ) (o1 :: o2 :: os) (b :: c :: xs) with
      | some ch => .chn (f Γ a) ch
      | none => .bad
    | _, _ => .bad
  | .IfExp c a b _ => .ite (f Γ c) (f Γ a) (f Γ b)
  | .Tuple xs _ _ => if plainEs xs then .tup (esOf (f Γ) xs) else .bad
  | .List xs _ => if plainEs xs then .lst (esOf (f Γ) xs) else .bad
  | .ListComp elt gs scope _ => match gs with
    | [⟨tg, iter, ifs, as⟩] => if as == 0 then cLc f Γ elt tg iter ifs scope else .bad
    | _ => .bad
  | .Attribute a fl _ => if noSup a then .fld (f Γ a) fl else .bad
  | .Subscript a b _ => if notSlice b then .idx (f Γ a) (f Γ b) else .bad
  | .Call fn xs ks pos => match fn, ks with
    | .Name n _, [] => cCallN f Γ n xs
    | .Attribute o m apos, [] => cCallM f h Γ o m apos pos xs
    | _, _ => .bad
  | _ => .bad
/-- a place -/
def cP1 (f h : Gm → Expr → E) (Γ : Gm) (e : Expr) : E := match e with
  | .Name n _ => match slot Γ n with
    | some i => .var i
    | none => .bad
  | .Attribute a fl _ => if noSup a then .fld (h Γ a) fl else .bad
  | .Subscript a b _ => if notSlice b then .idx (h Γ a) (f Γ b) else .bad
  | _ => .bad
def cEP : Nat → (Gm → Expr → E) × (Gm → Expr → E)
  | 0 => (fun _ _ => .bad, fun _ _ => .bad)
  | k + 1 => let r := cEP k; (cE1 r.1 r.2, cP1 r.1 r.2)
/-! ### statements -/
def isSt : Expr → Bool
  | .Starred .. => true
  | _ => false
def nmL (kof : Str → Option NameKind) (line : Nat) : Expr → Option Str
  | .Name id pos => if kof id == some .local && pos.line == line then some id else none
  | _ => none
def swN (kof : Str → Option NameKind) (ts vs : List Expr) : Option (Option (List Str)) :=
  if !(ts.length == 2 || ts.length == 3) || vs.length != ts.length || false then some none
  else if vs.any isSt then some none
  else if (ts.filterMap (nmL kof ((ts.head?.map (·.pos.line)).getD 0))).length != ts.length || (ts.filterMap (nmL kof ((ts.head?.map (·.pos.line)).getD 0))).eraseDups.length != (ts.filterMap (nmL kof ((ts.head?.map (·.pos.line)).getD 0))).length then some none
  else if vs.all (foldedForSure 8) then some none
  else if vs.all (constantsAlone 8) then none
  else some (some (ts.filterMap (nmL kof ((ts.head?.map (·.pos.line)).getD 0))))
def isLocal (Γ : Gm) (n : Str) : Bool := Γ.sc.names.lookup n == some .local
def cPar (f : Gm → Expr → E) (Γ : Gm) (ts vs : List Expr) (ns : List Str) : S := match ts, vs with
  | [.Name n1 _, .Name n2 _], [a, b] => if decide (ns = [n1, n2]) && isLocal Γ n1 && isLocal Γ n2 && plainEs [a, b] then match Γ.N.idxOf? n1, Γ.N.idxOf? n2 with
    | some i, some j => if i == j then .bad else .par [i, j] (esOf (f Γ) [a, b])
    | _, _ => .bad
    else .bad
  | [.Name n1 _, .Name n2 _, .Name n3 _], [a, b, c] => if decide (ns = [n1, n2, n3]) && isLocal Γ n1 && isLocal Γ n2 && isLocal Γ n3 && plainEs [a, b, c] then match Γ.N.idxOf? n1, Γ.N.idxOf? n2, Γ.N.idxOf? n3 with
    | some i, some j, some l => if i == j || i == l || j == l then .bad else .par [i, j, l] (esOf (f Γ) [a, b, c])
    | _, _, _ => .bad
    else .bad
  | _, _ => .bad
def frzE (f h : Gm → Expr → E) (Γ : Gm) (v : Expr) : E := match v with
  | .Attribute .. => .frzp (f Γ v) (h Γ v)
  | .Subscript .. => .frzp (f Γ v) (h Γ v)
  | _ => f Γ v
def cAsgG (f h : Gm → Expr → E) (Γ : Gm) (tg v : Expr) : S := match cG Γ tg with
  | some g => .asg g (frzE f h Γ v)
  | none => .bad
/-- [..] stored in a name, both on one line -/
def swLc (Γ : Gm) (n : Str) (py : Pos) (scope : Scope) (p2 : Pos) : Bool := isLocal Γ n && py.line == p2.line && !(scope.names.any fun (m, k) => m == n && (k == .local || k == .cell))
def cAsg (f h : Gm → Expr → E) (Γ : Gm) (tg v : Expr) : S := match tg, v with
  | .Subscript a b _, v => if notSlice b then .pst (h Γ a) (f Γ b) (f Γ v) else .bad
  | .Name n py, .ListComp elt gs scope p2 => match gs with
    | [⟨tgt, iter, ifs, as⟩] => if as == 0 then
        if swLc Γ n py scope p2 then match Γ.N.idxOf? n with
          | some i => .asg (.one (.nm i)) (cLc f Γ elt tgt iter ifs scope)
          | none => .bad
        else cAsgG f h Γ tg v
      else .bad
    | _ => .bad
  | .Name n py, v => if notComp v then cAsgG f h Γ tg v else .bad
  | .Tuple ts _ _, .Tuple vs _ _ => match swN (fun n => Γ.sc.names.lookup n) ts vs with
    | some none => cAsgG f h Γ tg v
    | some (some ns) => cPar f Γ ts vs ns
    | none => .bad
  | .Tuple .., v => cAsgG f h Γ tg v
  | .Attribute .., v => cAsgG f h Γ tg v
  | _, _ => .bad
def cAug (f h : Gm → Expr → E) (Γ : Gm) (tg : Expr) (o : O2) (v : Expr) : S := match tg with
  | .Name n _ => if okN2 n then match tslot Γ n with
    | some i => .aug i o (f Γ v)
    | none => .bad
    else .bad
  | .Attribute (.Name r _) fl _ => match slot Γ r with
    | some i => .faug i fl o (f Γ v)
    | none => .bad
  | .Subscript a b _ => if notSlice b then .paug (h Γ a) (f Γ b) o (f Γ v) else .bad
  | _ => .bad
def ssOf (g : Stmt → S) : List Stmt → Ss
  | [] => .nil
  | s :: ss => .cons (g s) (ssOf g ss)
def cS1 (f h : Gm → Expr → E) (g : Gm → Stmt → S) (Γ : Gm) (st : Stmt) : S := match st with
  | .Assign tgs v _ => match tgs with
    | [tg] => cAsg f h Γ tg v
    | _ => .bad
  | .AugAssign tg op v _ => match op with
    | .Add => cAug f h Γ tg .add v
    | .Sub => cAug f h Γ tg .sub v
    | _ => .bad
  | .Expr e _ => match e with
    | .Constant (.str _) _ _ => .pass
    | e => if notComp e then .exp (f Γ e) else .bad
  | .Return e _ => match e with
    | none => .retn
    | some (.Name n p) => .ret (match slot Γ n with
      | some i => .mov i
      | none => f Γ (.Name n p))
    | some e => .ret (f Γ e)
  | .Pass _ => .pass
  | .Break _ => .brk
  | .Continue _ => .cnt
  | .If c a b _ => .iff (f Γ c) (ssOf (g Γ) a) (ssOf (g Γ) b)
  | .While c a els _ => match els with
    | [] => .whl (f Γ c) (ssOf (g Γ) a)
    | _ => .bad
  | .For tg it a els _ => match els with
    | [] => if notSet it then match cG Γ tg with
      | some gt => .forr gt (cI f Γ tg it) (ssOf (g Γ) a)
      | none => .bad
      else .bad
    | _ => .bad
  | _ => .bad
def cS : Nat → (Gm → Expr → E) × (Gm → Expr → E) → Gm → Stmt → S
  | 0, _ => fun _ _ => .bad
  | k + 1, r => cS1 r.1 r.2 (cS k r)
end Pv

/-! What is compiled is sound: expressions. -/
namespace Pv
open PySem L2 PyProof.Rows
structure Wld (X : Cx) (P : Pg) (Γ : Gm) : Prop where
  cst : ∀ n t, Γ.cs.lookup n = some t → ∃ v u, X.mg n = some u ∧ RelV v u ∧ ∀ F H, Rep X.K F H t v nop
  fns : ∀ n i, Γ.fs.lookup n = some i → ∃ g, FnAt X P i g ∧ X.mg n = some (.ref g)
  cls : ∀ n i, Γ.cl.lookup n = some i → ∃ g, FnAt X P i g ∧ Mk X.K (He.ga X.K n) g ∧ X.mg n = some (.ref (He.ga X.K n))
  im : ∀ n id, Γ.im.lookup n = some id → X.mg n = some (.builtin id)
  bl : ∀ n, Γ.bl.contains n = true → X.mg n = none
  C : ClsOk X.K P
  M : MthOk X P
structure Fit (X : Cx) (Γ : Gm) (P : Pg) : Prop where
  N : X.N = Γ.N
  nd : X.N.Nodup
  sc : X.env.scope = Γ.sc
  kd : X.env.scope.kind = .function
  fn : ∀ n, X.fn n = Γ.fnc n
  calm : X.calm = true
  un : X.A.units + 64 < cLine
  w : Wld X P Γ
section
variable {X : Cx} {P : Pg} {Γ : Gm} {n : Str} {i : Nat}
theorem idx_at {N : List Str} (h : N.idxOf? n = some i) : N[i]? = some n := by
  obtain ⟨h1, h2, _⟩ := List.idxOf?_eq_some_iff.mp h
  rw [List.getElem?_eq_getElem h1, h2]
theorem okN2_ok (h : okN2 n = true) : (n == ("__debug__" : Str)) = false ∧ (n == ("__classdict__" : Str)) = false := by
  unfold okN2 at h
  rw [Bool.and_eq_true, Bool.not_eq_true', Bool.not_eq_true'] at h
  exact h
theorem visB_ok {sc : Scope} (h : visB sc n = true) : Vis sc n := by
  unfold visB at h
  split at h
  · exact .inl (by assumption)
  · exact .inr (.inl (by assumption))
  · exact .inr (.inr (by assumption))
  · cases h
theorem slot_ok (F : Fit X Γ P) (h : slot Γ n = some i) : X.N[i]? = some n ∧ Vis X.env.scope n ∧ (n == ("__debug__" : Str)) = false ∧ (n == ("__classdict__" : Str)) = false := by
  unfold slot at h
  by_cases hz : (visB Γ.sc n && okN2 n) = true
  · rw [if_pos hz] at h
    rw [Bool.and_eq_true] at hz
    obtain ⟨h1, h2⟩ := okN2_ok hz.2
    exact ⟨by rw [F.N]; exact idx_at h, by rw [F.sc]; exact visB_ok hz.1, h1, h2⟩
  · rw [if_neg hz] at h; cases h
theorem tslot_ok (F : Fit X Γ P) (h : tslot Γ n = some i) : X.N[i]? = some n ∧ Loc X.env.scope n ∧ (X.fn n = true ∨ X.env.scope.names.lookup n = some .local) := by
  unfold tslot at h
  rw [F.N, F.sc]
  split at h
  · rename_i e
    exact ⟨idx_at h, .inl e, .inr e⟩
  · rename_i e
    by_cases hz : Γ.fnc n = true
    · rw [if_pos hz] at h
      exact ⟨idx_at h, .inr e, .inl ((F.fn n).trans hz)⟩
    · rw [if_neg hz] at h; cases h
  · cases h
theorem isGl_ok (F : Fit X Γ P) (h : isGl Γ n = true) : Gl X n ∧ (n == ("__debug__" : Str)) = false ∧ n ≠ "__name__" := by
  unfold isGl at h
  split at h
  · rename_i e
    rw [Bool.and_eq_true, Bool.not_eq_true'] at h
    refine ⟨?_, (okN2_ok h.1).1, fun z => ?_⟩
    · show X.env.scope.names.lookup n = _
      rw [F.sc]; exact e
    · subst z
      exact absurd h.2 (by decide)
  · cases h
theorem Fit.blk (F : Fit X Γ P) {scope : Scope} (hk : scope.kind = .function) (s : Shared) (H : Hp) (C : Addr) (cl : List (Str × Addr)) (fp : List Addr) : Fit (X.blk s H scope (compEnvC scope cl C X.env) fp) (Γ.blk scope) P where
  N := F.N
  nd := F.nd
  sc := by
    show relS scope X.env.scope = relS scope Γ.sc
    rw [F.sc]
  kd := hk
  fn := fun n => rfl
  calm := F.calm
  un := F.un
  w := ⟨F.w.cst, fun n i h => by
    obtain ⟨g, ⟨a, b⟩, c⟩ := F.w.fns n i h
    exact ⟨g, ⟨a, b⟩, c⟩, fun n i h => by
    obtain ⟨g, ⟨a, b⟩, c, d⟩ := F.w.cls n i h
    exact ⟨g, ⟨a, b⟩, c, d⟩, F.w.im, F.w.bl, F.w.C, ⟨fun c q f h => by
    obtain ⟨g, a, b, ⟨d, e⟩⟩ := F.w.M.mt c q f h
    exact ⟨g, a, b, ⟨d, e⟩⟩⟩⟩
/-! ### argument lists -/
theorem star_c {e : Expr} {es : List Expr} {env : Env} (h : notStar e = true) : starEach (e :: es) env = (false, eval e env) :: starEach es env := by
  cases e <;> first | rfl | cases h
theorem plain_c {e : Expr} {es : List Expr} (h : plainEs (e :: es) = true) : notStar e = true ∧ plainEs es = true := by
  unfold plainEs at h ⊢
  rw [List.all_cons, Bool.and_eq_true] at h
  exact h
theorem plain_any {pos : Pos} {env : Env} : ∀ {es : List Expr}, plainEs es = true → (backTo pos (starEach es env)).any (·.1) = false
  | [], _ => rfl
  | e :: es, h => by
    obtain ⟨h1, h2⟩ := plain_c h
    rw [star_c h1]
    show (false || (backTo pos (starEach es env)).any (·.1)) = false
    rw [plain_any h2]; rfl
theorem plain_all {pos : Pos} {env : Env} : ∀ {es : List Expr}, plainEs es = true → (backTo pos (starEach es env)).all (fun x => !x.1) = true
  | [], _ => rfl
  | e :: es, h => by
    obtain ⟨h1, h2⟩ := plain_c h
    rw [star_c h1]
    show (true && (backTo pos (starEach es env)).all (fun x => !x.1)) = true
    rw [plain_all h2]; rfl
theorem assign_c {e : Expr} {es : List Expr} {env : Env} (h : notStar e = true) : assignEach (e :: es) env = (false, assign e env) :: assignEach es env := by
  cases e <;> first | rfl | cases h
variable {f h : Gm → Expr → E}
def OkE (P : Pg) (f : Gm → Expr → E) : Prop := ∀ X Γ e, Fit X Γ P → Sd X P e (f Γ e)
def OkP (P : Pg) (f : Gm → Expr → E) : Prop := ∀ X Γ e, Fit X Γ P → SdP X P e (f Γ e)
theorem ok_es (F : Fit X Γ P) (hf : OkE P f) : ∀ {xs : List Expr}, plainEs xs = true → SdL X P xs (esOf (f Γ) xs)
  | [], _ => sdl_nil
  | e :: es, h => sdl_cons (hf X Γ e F) (ok_es F hf (plain_c h).2) (star_c (plain_c h).1)
theorem ok_bs (F : Fit X Γ P) (hf : OkE P f) : ∀ {xs : List Expr}, plainEs xs = true → PA X xs (tevBs X.K P (esOf (f Γ) xs))
  | [], _ => sdbs_nil
  | e :: es, h => sdbs_cons (hf X Γ e F) (ok_bs F hf (plain_c h).2) (star_c (plain_c h).1)
theorem sda_gen {a : Expr} {a' : E} {xs : List Expr} {es : Es} (ha : Sd X P a a') (hr : SdA X P xs es) (hs : starEach (a :: xs) X.env = (false, eval a X.env) :: starEach xs X.env) : SdA X P (a :: xs) (.cons (if isVar a' then .bad else a') es) := by
  by_cases hv : isVar a' = true
  · rw [if_pos hv]; exact sda_cons sd_bad rfl hr hs
  · rw [if_neg hv]; exact sda_cons ha (by simpa using hv) hr hs
theorem ok_args (F : Fit X Γ P) (hf : OkE P f) : ∀ {xs : List Expr}, plainEs xs = true → SdA X P xs (esOf (argOf Γ f) xs)
  | [], _ => sda_nil
  | e :: es, h => by
    have hr := ok_args F hf (plain_c h).2
    have hs := star_c (env := X.env) (es := es) (plain_c h).1
    have gen : argOf Γ f e = (if isVar (f Γ e) then .bad else f Γ e) → SdA X P (e :: es) (esOf (argOf Γ f) (e :: es)) := fun z => by
      show SdA X P (e :: es) (.cons (argOf Γ f e) _)
      rw [z]
      exact sda_gen (hf X Γ e F) hr hs
    cases e <;> first | exact gen rfl | skip
    rename_i n p
    show SdA X P (.Name n p :: es) (.cons (match slot Γ n with
      | some i => if Γ.mv.contains (p.line, p.col) then .mov i else .var i
      | none => if isVar (f Γ (.Name n p)) then .bad else f Γ (.Name n p)) _)
    cases hsl : slot Γ n with
    | none => exact sda_gen (hf X Γ _ F) hr hs
    | some i =>
      obtain ⟨h1, h2, h3, h4⟩ := slot_ok F hsl
      by_cases hm : Γ.mv.contains (p.line, p.col) = true
      · simp only [if_pos hm]
        exact sda_cons (sd_mov h1 h2 h3 h4) rfl hr hs
      · simp only [if_neg hm]
        exact sda_var h1 h2 h3 h4 hr
/-! ### operators -/
theorem ok_op {op : Operator} {o : O2} (h : cOp op = some o) : OpR X (binaryOp op) (rT2 X.K o) := by
  cases op <;> first | (cases h; done) | (cases h; first | exact or_add | exact or_sub | exact or_mul | exact or_fdiv | exact or_mod | exact or_pow | exact or_xor)
theorem ok_cmp (hu : X.A.units + 64 < cLine) {op : CmpOp} {o : O2} (h : cCmp op = some o) : OpR X (compareOp op) (rT2 X.K o) ∧ ∀ t u r, op2 o t u = some r → ∃ k, r = .bl k := by
  have eqb : ∀ t u r, op2 .eq t u = some r → ∃ k, r = .bl k := fun t u r h => by
    have h' : (eqT t u).map T.bl = some r := by cases t <;> exact h
    obtain ⟨b, _, rfl⟩ := Option.map_eq_some_iff.mp h'
    exact ⟨b, rfl⟩
  have neb : ∀ t u r, op2 .ne t u = some r → ∃ k, r = .bl k := fun t u r h => by
    have h' : (eqT t u).map (fun b => T.bl (!b)) = some r := by cases t <;> exact h
    obtain ⟨b, _, rfl⟩ := Option.map_eq_some_iff.mp h'
    exact ⟨!b, rfl⟩
  have isb : ∀ t u r, op2 .isS t u = some r → ∃ k, r = .bl k := fun t u r h => by
    cases u <;> cases t <;> first | (cases h; done) | exact ⟨_, (Option.some.inj h).symm⟩
  have nob : ∀ t u r, op2 .notS t u = some r → ∃ k, r = .bl k := fun t u r h => by
    cases u <;> cases t <;> first | (cases h; done) | exact ⟨_, (Option.some.inj h).symm⟩
  have ord : ∀ o, (o = .lt ∨ o = .le ∨ o = .gt ∨ o = .ge) → ∀ t u r, op2 o t u = some r → ∃ k, r = .bl k := fun o ho t u r h => by
    rcases ho with rfl | rfl | rfl | rfl <;> cases t <;> cases u <;> first | (cases h; done) | exact ⟨_, (Option.some.inj h).symm⟩
  cases op <;> first | (cases h; done) | skip
  all_goals cases h
  · exact ⟨or_eq hu, eqb⟩
  · exact ⟨or_ne hu, neb⟩
  · exact ⟨or_lt, ord _ (.inl rfl)⟩
  · exact ⟨or_le, ord _ (.inr (.inl rfl))⟩
  · exact ⟨or_gt, ord _ (.inr (.inr (.inl rfl)))⟩
  · exact ⟨or_ge, ord _ (.inr (.inr (.inr rfl)))⟩
  · exact ⟨or_isS, isb⟩
  · exact ⟨or_notS, nob⟩
theorem ok_B (F : Fit X Γ P) (hf : OkE P f) {op : BoolOp} {pos : Pos} : ∀ (a : Expr) (xs : List Expr), SdB X P op (a :: xs) pos (cB (f Γ) op (a :: xs))
  | a, [] => sdb_one (hf X Γ a F)
  | a, b :: xs => by
    cases op with
    | And => exact sdb_and (hf X Γ a F) (ok_B F hf b xs)
    | Or => exact sdb_or (hf X Γ a F) (ok_B F hf b xs)
theorem ok_C (F : Fit X Γ P) (hf : OkE P f) {pos : Pos} : ∀ {os : List CmpOp} {xs : List Expr} {ch : Ch}, cC (f Γ) os xs = some ch → SdC X P pos os xs ch
  | [], _, _, h => by unfold cC at h; cases h
  | [o], [], _, h => by unfold cC at h; cases h
  | [o], [b], ch, h => by
    unfold cC at h
    obtain ⟨o', h1, h2⟩ := Option.bind_eq_some_iff.mp h
    cases h2
    exact sdc_last (ok_cmp F.un h1).1 (hf X Γ b F)
  | [o], b :: c :: xs, _, h => by unfold cC at h; cases h
  | o :: o2 :: os, [], _, h => by unfold cC at h; cases h
  | o :: o2 :: os, [b], _, h => by unfold cC at h; cases h
  | o :: o2 :: os, b :: c :: xs, ch, h => by
    unfold cC at h
    obtain ⟨o', h1, h2⟩ := Option.bind_eq_some_iff.mp h
    obtain ⟨ch', h3, h4⟩ := Option.bind_eq_some_iff.mp h2
    cases h4
    exact sdc_more (ok_cmp F.un h1).1 (hf X Γ b F) (ok_C F hf h3)
/-! ### calls -/
theorem ok_callN (F : Fit X Γ P) (hf : OkE P f) {n : Str} {p pos : Pos} {xs : List Expr} : Sd X P (.Call (.Name n p) xs [] pos) (cCallN f Γ n xs) := by
  unfold cCallN
  by_cases hz : (isGl Γ n && plainEs xs) = true
  · rw [if_pos hz]
    rw [Bool.and_eq_true] at hz
    obtain ⟨hz, hp⟩ := hz
    obtain ⟨hg, hd, hn⟩ := isGl_ok F hz
    cases h1 : Γ.fs.lookup n with
    | some i =>
      obtain ⟨g, h2, h3⟩ := F.w.fns n i h1
      cases xs with
      | nil => exact sd_call0 h2 hg h3 hd
      | cons x xs => exact sd_call h2 hg h3 (ok_args F hf hp) hd (star_c (plain_c hp).1) (plain_any (plain_c hp).2)
    | none =>
      simp only
      cases h2 : Γ.cl.lookup n with
      | some i =>
        obtain ⟨g, h3, h4, h5⟩ := F.w.cls n i h2
        cases xs with
        | nil => exact sd_mk0 h3 h4 hg h5 hd
        | cons x xs => exact sd_mk h3 h4 hg h5 (ok_args F hf hp) hd (star_c (plain_c hp).1) (plain_any (plain_c hp).2)
      | none =>
        simp only
        cases h3 : Γ.im.lookup n with
        | some id =>
          have h4 := F.w.im n id h3
          simp only
          split
          · rename_i a b
            split
            · rename_i o ho
              unfold cIm2 at ho
              have s1 := star_c (env := X.env) (es := [b]) (plain_c hp).1
              have s2 := star_c (env := X.env) (es := []) (plain_c (plain_c hp).2).1
              split at ho
              · rename_i e
                cases ho
                rw [beq_iff_eq] at e; subst e
                exact sd_callF2 cr_gcd2 hg h4 (hf X Γ a F) (hf X Γ b F) hd s1 s2 (plain_any (plain_c hp).2)
              · split at ho
                · rename_i e
                  cases ho
                  rw [beq_iff_eq] at e; subst e
                  exact sd_callF2 cr_comb2 hg h4 (hf X Γ a F) (hf X Γ b F) hd s1 s2 (plain_any (plain_c hp).2)
                · cases ho
            · exact sd_bad
          · exact sd_bad
        | none =>
          simp only
          by_cases hb : Γ.bl.contains n = true
          · rw [if_pos hb]
            have hm := F.w.bl n hb
            split
            · rename_i a
              have s1 := star_c (env := X.env) (es := []) (plain_c hp).1
              split
              · rename_i o ho
                unfold cBlt1 at ho
                split at ho
                · rename_i e; cases ho; rw [beq_iff_eq] at e; subst e
                  exact sd_callB1 cr_len1 hg hm (by decide +kernel) (hf X Γ a F) hn hd s1
                · split at ho
                  · rename_i e; cases ho; rw [beq_iff_eq] at e; subst e
                    exact sd_callB1 cr_abs1 hg hm (by decide +kernel) (hf X Γ a F) hn hd s1
                  · split at ho
                    · rename_i e; cases ho; rw [beq_iff_eq] at e; subst e
                      exact sd_callT1 cr_int1 hg hm (by decide +kernel) (hf X Γ a F) hn hd s1
                    · split at ho
                      · rename_i e; cases ho; rw [beq_iff_eq] at e; subst e
                        exact sd_callT1 cr_list1 hg hm (by decide +kernel) (hf X Γ a F) hn hd s1
                      · cases ho
              · exact sd_bad
            · rename_i a b
              have s1 := star_c (env := X.env) (es := [b]) (plain_c hp).1
              have s2 := star_c (env := X.env) (es := []) (plain_c (plain_c hp).2).1
              split
              · rename_i o ho
                unfold cBlt2 at ho
                split at ho
                · rename_i e; cases ho; rw [beq_iff_eq] at e; subst e
                  exact sd_callB2 (cr_min2 F.calm) hg hm (by decide +kernel) (hf X Γ a F) (hf X Γ b F) hn hd s1 s2 (plain_any (plain_c hp).2)
                · split at ho
                  · rename_i e; cases ho; rw [beq_iff_eq] at e; subst e
                    exact sd_callB2 (cr_max2 F.calm) hg hm (by decide +kernel) (hf X Γ a F) (hf X Γ b F) hn hd s1 s2 (plain_any (plain_c hp).2)
                  · cases ho
              · split
                · rename_i e
                  rw [beq_iff_eq] at e; subst e
                  split
                  · rename_i t p2
                    by_cases ht : (isGl Γ t && Γ.bl.contains t) = true
                    · rw [if_pos ht]
                      rw [Bool.and_eq_true] at ht
                      obtain ⟨g1, g2, g3⟩ := isGl_ok F ht.1
                      have g4 := F.w.bl t ht.2
                      split
                      · rename_i k hk
                        unfold tyOf at hk
                        split at hk
                        · rename_i e; cases hk; rw [beq_iff_eq] at e; subst e
                          exact sd_isi hg hm g1 g4 (by decide +kernel) g3 g2 (hf X Γ a F) s1
                        · split at hk
                          · rename_i e; cases hk; rw [beq_iff_eq] at e; subst e
                            exact sd_isi hg hm g1 g4 (by decide +kernel) g3 g2 (hf X Γ a F) s1
                          · split at hk
                            · rename_i e; cases hk; rw [beq_iff_eq] at e; subst e
                              exact sd_isi hg hm g1 g4 (by decide +kernel) g3 g2 (hf X Γ a F) s1
                            · split at hk
                              · rename_i e; cases hk; rw [beq_iff_eq] at e; subst e
                                exact sd_isi hg hm g1 g4 (by decide +kernel) g3 g2 (hf X Γ a F) s1
                              · split at hk
                                · rename_i e; cases hk; rw [beq_iff_eq] at e; subst e
                                  exact sd_isi hg hm g1 g4 (by decide +kernel) g3 g2 (hf X Γ a F) s1
                                · cases hk
                      · exact sd_bad
                    · rw [if_neg ht]; exact sd_bad
                  · exact sd_bad
                · exact sd_bad
            · exact sd_bad
          · rw [if_neg hb]; exact sd_bad
  · rw [if_neg hz]; exact sd_bad
theorem few_ok {xs : List Expr} {pos : Pos} (hp : plainEs xs = true) (hl : xs.length < 28) : ((backTo pos (starEach xs X.env)).all (fun x => !x.1) && (backToKw pos (keywordEach [] X.env)).all (fun x => x.1.isSome)
      && decide (xs.length + ([] : List Keyword).length + (if ([] : List Keyword).isEmpty then 0 else 1) < 30)) = true := by
  rw [plain_all hp]
  simp [keywordEach, backToKw]
  omega
theorem mcf_ok {xs : List Expr} {pos : Pos} (hp : plainEs xs = true) (hl : xs.length < 28) : methodCallForm xs.length (backTo pos (starEach xs X.env)) (backToKw pos (keywordEach [] X.env)) = true := by
  unfold methodCallForm
  rw [plain_all hp]
  simp [keywordEach, backToKw]
  omega
theorem attrB {a : Expr} {m : Str} (h : noSup a = true) : attributeBase a m X.env (eval a X.env) = eval a X.env := by
  cases a <;> first | rfl | cases h
end
end Pv

/-! What is compiled is sound: expressions, on. -/
namespace Pv
open PySem L2 PyProof.Rows
section
variable {X : Cx} {P : Pg} {Γ : Gm} {n : Str} {i : Nat} {f h : Gm → Expr → E}
/-- the methods of lists -/
structure MkOk (X : Cx) (m : Str) (q : MK) : Prop where
  ex : ∃ id, Slot "list" m id ∧ typeOf (.builtin id) = pure (.type "method_descriptor") ∧ MtR X id (rM X.K q)
theorem mk_ok {m : Str} {k : Nat} {q : MK} (h : mkOf m k = some q) : MkOk X m q := by
  unfold mkOf at h
  split at h
  · rename_i e; cases h; rw [Bool.and_eq_true, beq_iff_eq] at e; obtain ⟨rfl, _⟩ := e
    exact ⟨_, F.slot_list_append, F.type_list_append, mr_append⟩
  · split at h
    · rename_i e; cases h; rw [Bool.and_eq_true, beq_iff_eq] at e; obtain ⟨rfl, _⟩ := e
      exact ⟨_, F.slot_list_extend, F.type_list_extend, mr_extend⟩
    · split at h
      · rename_i e; cases h; rw [Bool.and_eq_true, beq_iff_eq] at e; obtain ⟨rfl, _⟩ := e
        exact ⟨_, F.slot_list_insert, F.type_list_insert, mr_insert⟩
      · split at h
        · rename_i e; cases h; rw [Bool.and_eq_true, beq_iff_eq] at e; obtain ⟨rfl, _⟩ := e
          exact ⟨_, F.slot_list_pop, F.type_list_pop, mr_pop⟩
        · split at h
          · rename_i e; cases h; rw [Bool.and_eq_true, beq_iff_eq] at e; obtain ⟨rfl, _⟩ := e
            exact ⟨_, F.slot_list_pop, F.type_list_pop, mr_popi⟩
          · cases h
theorem ok_callM (F : Fit X Γ P) (hf : OkE P f) (hh : OkP P h) {o : Expr} {m : Str} {apos pos : Pos} {xs : List Expr} : Sd X P (.Call (.Attribute o m apos) xs [] pos) (cCallM f h Γ o m apos pos xs) := by
  have main : plainEs xs = true → xs.length < 28 → (apos.endLine == pos.line) = true → ∀ {o : Expr}, Sd X P (.Call (.Attribute o m apos) xs [] pos) (match mkOf m xs.length with
      | some q => if noSup o && !xs.isEmpty then .mutp (h Γ o) q (esOf (f Γ) xs) else .bad
      | none => .bad) := fun hp hl hln {o} => by
    split
    · rename_i q hq
      obtain ⟨id, m1, m2, m3⟩ := (mk_ok (X := X) hq).ex
      by_cases hz : (noSup o && !xs.isEmpty) = true
      · rw [if_pos hz]
        rw [Bool.and_eq_true] at hz
        cases xs with
        | nil => simp at hz
        | cons x xs => exact sd_mutp PySem.F.plainAttrs_list m1 m2 m3 (hh X Γ o F) (attrB hz.1) (ok_bs F hf hp) (few_ok hp hl) hln (star_c (plain_c hp).1) (plain_any (plain_c hp).2)
      · rw [if_neg hz]; exact sd_bad
    · exact sd_bad
  unfold cCallM
  by_cases hz : (plainEs xs && decide (xs.length < 28) && (apos.endLine == pos.line)) = true
  · rw [if_pos hz]
    simp only [Bool.and_eq_true, decide_eq_true_eq] at hz
    obtain ⟨⟨hp, hl⟩, hln⟩ := hz
    cases o <;> first | exact main hp hl hln | skip
    rename_i r pn
    show Sd X P _ (match slot Γ r with
      | some i => match mkOf m xs.length with
        | some q => .mut i q (esOf (f Γ) xs)
        | none => .meth i m (esOf (argOf Γ f) xs)
      | none => .bad)
    cases hs : slot Γ r with
    | none => exact sd_bad
    | some i =>
      obtain ⟨h1, h2, h3, h4⟩ := slot_ok F hs
      simp only
      split
      · rename_i q hq
        obtain ⟨id, m1, m2, m3⟩ := (mk_ok (X := X) hq).ex
        cases xs with
        | nil => exact sd_mut0 PySem.F.plainAttrs_list m1 m2 m3 h1 h2 h3 h4 hln
        | cons x xs => exact sd_mut PySem.F.plainAttrs_list m1 m2 m3 h1 h2 h3 h4 (ok_es F hf hp) (few_ok hp hl) hln (star_c (plain_c hp).1) (plain_any (plain_c hp).2)
      · cases xs with
        | nil => exact sd_meth0 F.w.M h1 h2 h3 h4 hln
        | cons x xs => exact sd_meth F.w.M h1 h2 h3 h4 (ok_args F hf hp) (star_c (plain_c hp).1) (plain_any (plain_c hp).2) (mcf_ok hp hl) hln
  · rw [if_neg hz]; exact sd_bad
/-! ### what is walked -/
theorem ok_I (F : Fit X Γ P) (hf : OkE P f) {tg e : Expr} : PI X tg e (tevI X.K P (cI f Γ tg e)) := by
  have gen : ∀ {e}, PI X tg e (tevI X.K P (.seq (f Γ e))) := fun {e} => si_seq (hf X Γ e F)
  cases e <;> first | exact gen | skip
  rename_i fn xs ks pos
  cases fn <;> first | exact gen | skip
  rename_i n p
  cases ks with
  | cons => exact gen
  | nil =>
    unfold cI
    dsimp only
    by_cases hz : (isGl Γ n && Γ.bl.contains n && plainEs xs) = true
    · rw [if_pos hz]
      simp only [Bool.and_eq_true] at hz
      obtain ⟨⟨hz, hb⟩, hp⟩ := hz
      obtain ⟨hg, hd, hn⟩ := isGl_ok F hz
      have hm := F.w.bl n hb
      split
      · rename_i e; rw [beq_iff_eq] at e; subst e
        split
        · rename_i a
          exact si_rng1 hg hm (hf X Γ a F) (star_c (plain_c hp).1)
        · rename_i a b
          exact si_rng2 hg hm (hf X Γ a F) (hf X Γ b F) (star_c (plain_c hp).1) (star_c (plain_c (plain_c hp).2).1)
        · rename_i a b c
          exact si_rng3 hg hm (hf X Γ a F) (hf X Γ b F) (hf X Γ c F) (star_c (plain_c hp).1) (star_c (plain_c (plain_c hp).2).1) (star_c (plain_c (plain_c (plain_c hp).2).2).1) (plain_any (plain_c hp).2)
        · exact si_bad
      · split
        · rename_i e; rw [beq_iff_eq] at e; subst e
          split
          · rename_i a
            by_cases ht : isTup tg = true
            · rw [if_pos ht]
              cases tg <;> first | (cases ht; done) | skip
              exact si_enum hg hm (hf X Γ a F) (star_c (plain_c hp).1)
            · rw [if_neg ht]; exact si_bad
          · exact si_bad
        · split
          · rename_i e; rw [beq_iff_eq] at e; subst e
            split
            · rename_i a b
              by_cases ht : isTup tg = true
              · rw [if_pos ht]
                cases tg <;> first | (cases ht; done) | skip
                exact si_zip hg hm (hf X Γ a F) (hf X Γ b F) (star_c (plain_c hp).1) (star_c (plain_c (plain_c hp).2).1) (plain_any (plain_c hp).2)
              · rw [if_neg ht]; exact si_bad
            · exact si_bad
          · split
            · rename_i e; rw [beq_iff_eq] at e; subst e
              split
              · rename_i a
                exact si_rev hg hm (hf X Γ a F) (star_c (plain_c hp).1)
              · exact si_bad
            · exact gen
    · rw [if_neg hz]; exact gen
/-! ### targets -/
theorem assign_nm {n : Str} {p : Pos} {es : List Expr} {env : Env} : assignEach (.Name n p :: es) env = (false, assign (.Name n p) env) :: assignEach es env := rfl
theorem ok_nms (F : Fit X Γ P) : ∀ {xs : List Expr} {is : List Nat}, nmsOf Γ xs = some is → PGs X xs (tevGs X.K is (setNs is)) ∧ (assignEach xs X.env).length = is.length ∧ (assignEach xs X.env).findIdx? (·.1) = none
  | [], is, h => by
    cases h
    exact ⟨sgs_nil, rfl, rfl⟩
  | x :: xs, is, h => by
    cases x <;> first | (cases h; done) | skip
    rename_i n p
    have h' : ((tslot Γ n).bind fun i => (nmsOf Γ xs).bind fun is => some (i :: is)) = some is := h
    obtain ⟨i, h1, h2⟩ := Option.bind_eq_some_iff.mp h'
    obtain ⟨is', h3, h4⟩ := Option.bind_eq_some_iff.mp h2
    cases h4
    obtain ⟨g1, g2, g3⟩ := tslot_ok F h1
    obtain ⟨k1, k2, k3⟩ := ok_nms F h3
    refine ⟨sgs_cons (sg_nm (P := P) F.nd g1 g2 g3) k1 rfl, congrArg Nat.succ k2, ?_⟩
    rw [assign_nm, List.findIdx?_cons]
    rw [if_neg Bool.false_ne_true, k3]
    rfl
theorem ok_G0 (F : Fit X Γ P) {x : Expr} {g : G0} (h : cG0 Γ x = some g) : PG X x (tevG X.K (stG0 g) (setG0 P g)) ∧ notStar x = true := by
  cases x <;> first | (cases h; done) | skip
  · rename_i a fl p
    cases a <;> first | (cases h; done) | skip
    rename_i r pn
    have h' : ((slot Γ r).bind fun i => some (G0.at i fl)) = some g := h
    obtain ⟨i, h1, h2⟩ := Option.bind_eq_some_iff.mp h'
    cases h2
    obtain ⟨g1, g2, g3, g4⟩ := slot_ok F h1
    exact ⟨sg_at F.w.C g1 g2 g3 g4, rfl⟩
  · rename_i n p
    have h' : ((tslot Γ n).bind fun i => some (G0.nm i)) = some g := h
    obtain ⟨i, h1, h2⟩ := Option.bind_eq_some_iff.mp h'
    cases h2
    obtain ⟨g1, g2, g3⟩ := tslot_ok F h1
    exact ⟨sg_nm F.nd g1 g2 g3, rfl⟩
  · rename_i xs k p
    have h' : ((nmsOf Γ xs).bind fun is => some (G0.tp is)) = some g := h
    obtain ⟨is, h1, h2⟩ := Option.bind_eq_some_iff.mp h'
    cases h2
    obtain ⟨k1, k2, k3⟩ := ok_nms F h1
    exact ⟨sg_tp F.calm k1 k2 k3, rfl⟩
theorem ok_G0s (F : Fit X Γ P) : ∀ {xs : List Expr} {gs : List G0}, cG0s Γ xs = some gs → PGs X xs (tevGs X.K (gs.flatMap stG0) (setGs P gs)) ∧ (assignEach xs X.env).length = gs.length ∧ (assignEach xs X.env).findIdx? (·.1) = none
  | [], gs, h => by
    cases h
    exact ⟨sGs_nil, rfl, rfl⟩
  | x :: xs, gs, h => by
    have h' : ((cG0 Γ x).bind fun g => (cG0s Γ xs).bind fun gs => some (g :: gs)) = some gs := h
    obtain ⟨g, h1, h2⟩ := Option.bind_eq_some_iff.mp h'
    obtain ⟨gs', h3, h4⟩ := Option.bind_eq_some_iff.mp h2
    cases h4
    obtain ⟨g1, g2⟩ := ok_G0 F h1
    obtain ⟨k1, k2, k3⟩ := ok_G0s F h3
    have e := assign_c (env := X.env) (es := xs) g2
    refine ⟨sGs_cons g1 k1 (by rw [e]; rfl), by rw [e]; exact congrArg Nat.succ k2, ?_⟩
    rw [e, List.findIdx?_cons]
    rw [if_neg Bool.false_ne_true, k3]
    rfl
theorem ok_G (F : Fit X Γ P) {x : Expr} {g : G} (h : cG Γ x = some g) : PG X x (tevG X.K (stG g) (setG P g)) ∧ notStar x = true := by
  have gen : ∀ {x}, ((cG0 Γ x).bind fun g => some (G.one g)) = some g → PG X x (tevG X.K (stG g) (setG P g)) ∧ notStar x = true := fun {x} h => by
    obtain ⟨g0, h1, h2⟩ := Option.bind_eq_some_iff.mp h
    cases h2
    exact ok_G0 F h1
  cases x <;> first | exact gen h | skip
  rename_i xs k p
  have h' : ((cG0s Γ xs).bind fun gs => some (G.tp gs)) = some g := h
  obtain ⟨gs, h1, h2⟩ := Option.bind_eq_some_iff.mp h'
  cases h2
  obtain ⟨k1, k2, k3⟩ := ok_G0s F h1
  exact ⟨sG_tp F.calm k1 k2 k3, rfl⟩
/-! ### comprehensions -/
theorem folded {iter : Expr} {env : Env} (h : notSet iter = true) : ∀ x, foldedSetIterable iter env x = pure x := fun x => by
  cases iter <;> first | rfl | cases h
structure LcOk (X : Cx) (P : Pg) (f : Gm → Expr → E) (Γ : Gm) (elt tg iter : Expr) (ifs : List Expr) (scope : Scope) (g : G) (it : Pv.It) (c e : E) : Prop where
  ok : BlkOk X.N X.env.scope scope (ownOf Γ.N scope.names)
  sub : ∀ i ∈ stG g, i ∈ (ownOf Γ.N scope.names).map (·.2)
  it : PI X tg iter (tevI X.K P it)
  hg : ∀ (s : Shared) (H : Hp) (C : Addr) (cl : List (Str × Addr)) (fp : List Addr), PG (X.blk s H scope (compEnvC scope cl C X.env) fp) tg (tevG X.K (stG g) (setG P g))
  ht : ∀ (s : Shared) (H : Hp) (C : Addr) (cl : List (Str × Addr)) (fp : List Addr), PTs (X.blk s H scope (compEnvC scope cl C X.env) fp) ifs (tevT X.K P c)
  he : ∀ (s : Shared) (H : Hp) (C : Addr) (cl : List (Str × Addr)) (fp : List Addr), PE (X.blk s H scope (compEnvC scope cl C X.env) fp) elt (tev X.K P .e e)
  hs : ∀ x, foldedSetIterable iter X.env x = pure x
theorem lc_ok (F : Fit X Γ P) (hf : OkE P f) {elt tg iter : Expr} {ifs : List Expr} {scope : Scope} : cLc f Γ elt tg iter ifs scope = .bad ∨ ∃ g it c e, cLc f Γ elt tg iter ifs scope = .lc ((ownOf Γ.N scope.names).map (·.2)) g it c e ∧ LcOk X P f Γ elt tg iter ifs scope g it c e := by
  unfold cLc
  by_cases hz : (blkC Γ.N Γ.sc scope (ownOf Γ.N scope.names) && notSet iter) = true
  · simp only [if_pos hz]
    rw [Bool.and_eq_true] at hz
    obtain ⟨hb, hns⟩ := hz
    have ok : BlkOk X.N X.env.scope scope (ownOf Γ.N scope.names) := by rw [F.N, F.sc]; exact blkOk_by hb
    cases h1 : cG (Γ.blk scope) tg with
    | none => exact .inl rfl
    | some g =>
      cases h2 : cIf (f (Γ.blk scope)) ifs with
      | none => exact .inl rfl
      | some c =>
        simp only
        by_cases hz : ((stG g).all fun i => ((ownOf Γ.N scope.names).map (·.2)).contains i) = true
        · rw [if_pos hz]
          refine .inr ⟨g, _, c, _, rfl, ok, fun i hi => ?_, ok_I F hf, fun s H C cl fp => (ok_G (F.blk ok.kind s H C cl fp) h1).1, fun s H C cl fp => ?_, fun s H C cl fp => (hf _ _ _ (F.blk ok.kind s H C cl fp)).v .e (by decide), folded hns⟩
          · have := List.all_eq_true.mp hz i hi
            rwa [List.contains_iff_mem] at this
          · match ifs, h2 with
            | [], h2 => cases h2; exact pts_yes
            | [x], h2 => cases h2; exact pts_one (hf _ _ x (F.blk ok.kind s H C cl fp)).t
            | x :: y :: xs, h2 => cases h2
        · rw [if_neg hz]; exact .inl rfl
  · simp only [if_neg hz]; exact .inl trivial
/-! ### all expressions -/
theorem ok_E1 (hf : OkE P f) (hh : OkP P h) : OkE P (cE1 f h) := fun X Γ e F => by
  cases e <;> first | exact sd_bad | skip
  · -- BoolOp
    rename_i op xs pos
    match xs with
    | [] => exact sd_bad
    | [_] => exact sd_bad
    | a :: b :: xs =>
      have z := ok_B (pos := pos) F hf (op := op) a (b :: xs)
      cases op with
      | And => exact sd_and z
      | Or => exact sd_or z
  · -- BinOp
    rename_i a op b pos
    show Sd X P _ (match cOp op with
      | some o => .op2 o (f Γ a) (f Γ b)
      | none => .bad)
    cases h1 : cOp op with
    | none => exact sd_bad
    | some o => exact sd_bin (ok_op h1) (hf X Γ a F) (hf X Γ b F)
  · -- UnaryOp
    rename_i op a pos
    cases op <;> first | exact sd_bad | exact sd_nt (hf X Γ a F) | exact sd_un (by decide) ur_neg (hf X Γ a F)
  · exact sd_ite (hf X Γ _ F) (hf X Γ _ F) (hf X Γ _ F)
  · -- ListComp
    rename_i elt gs scope pos
    match gs with
    | [] => exact sd_bad
    | [⟨tg, iter, ifs, as⟩] =>
      show Sd X P _ (if as == 0 then cLc f Γ elt tg iter ifs scope else .bad)
      by_cases ha : (as == 0) = true
      · rw [if_pos ha]
        rw [beq_iff_eq] at ha
        subst ha
        rcases lc_ok F hf (elt := elt) (tg := tg) (iter := iter) (ifs := ifs) (scope := scope) with h1 | ⟨g, it, c, e, h1, L⟩
        · rw [h1]; exact sd_bad
        · rw [h1]; exact sd_lc F.calm F.nd L.it L.ok L.sub L.hg L.ht L.he L.hs
      · rw [if_neg ha]; exact sd_bad
    | ⟨_, _, _, _⟩ :: _ :: _ => exact sd_bad
  · -- Compare
    rename_i a ops xs pos
    match ops, xs with
    | [], _ => exact sd_bad
    | [op], [] => exact sd_bad
    | [op], [b] =>
      show Sd X P _ (if behindInMarks op b then .bad else match cCmp op with
        | some o => .op2 o (f Γ a) (f Γ b)
        | none => .bad)
      by_cases hb : behindInMarks op b = true
      · rw [if_pos hb]; exact sd_bad
      · rw [if_neg hb]
        cases h1 : cCmp op with
        | none => exact sd_bad
        | some o => exact sd_cmp (ok_cmp F.un h1).1 (hf X Γ a F) (hf X Γ b F) (by simpa using hb) (ok_cmp (X := X) F.un h1).2
    | [op], _ :: _ :: _ => exact sd_bad
    | _ :: _ :: _, [] => exact sd_bad
    | _ :: _ :: _, [_] => exact sd_bad
    | o1 :: o2 :: os, b :: c :: xs =>
      show Sd X P _ (if lastMarks (o1 :: o2 :: os) (b :: c :: xs) then .bad else match cC (f Γ) (o1 :: o2 :: os) (b :: c :: xs) with
        | some ch => .chn (f Γ a) ch
        | none => .bad)
      by_cases hb : lastMarks (o1 :: o2 :: os) (b :: c :: xs) = true
      · rw [if_pos hb]; exact sd_bad
      · rw [if_neg hb]
        cases h1 : cC (f Γ) (o1 :: o2 :: os) (b :: c :: xs) with
        | none => exact sd_bad
        | some ch => exact sd_chn (hf X Γ a F) (ok_C F hf h1) (by simpa using hb)
  · -- Call
    rename_i fn xs ks pos
    cases fn <;> first | exact sd_bad | skip
    · rename_i o m apos
      cases ks with
      | nil => exact ok_callM F hf hh
      | cons => exact sd_bad
    · rename_i n p
      cases ks with
      | nil => exact ok_callN F hf
      | cons => exact sd_bad
  · -- Constant
    rename_i c j pos
    cases c <;> first | exact sd_bad | exact sd_int | exact sd_bl | exact sd_str | exact sd_non
  · -- Attribute
    rename_i a fl pos
    show Sd X P _ (if noSup a then .fld (f Γ a) fl else .bad)
    by_cases hz : noSup a = true
    · rw [if_pos hz]; exact sd_fld F.w.C (hf X Γ a F) (attrB hz)
    · rw [if_neg hz]; exact sd_bad
  · -- Subscript
    rename_i a b pos
    show Sd X P _ (if notSlice b then .idx (f Γ a) (f Γ b) else .bad)
    by_cases hz : notSlice b = true
    · rw [if_pos hz]; exact sd_idx (hf X Γ a F) (hf X Γ b F) fun o i => by cases b <;> first | rfl | cases hz
    · rw [if_neg hz]; exact sd_bad
  · -- Name
    rename_i n p
    show Sd X P _ (match slot Γ n with
      | some i => if Γ.mv.contains (p.line, p.col) then .mov i else .var i
      | none => if isGl Γ n then match Γ.cs.lookup n with
        | some t => .glb n t
        | none => .bad
        else .bad)
    cases hs : slot Γ n with
    | some i =>
      obtain ⟨h1, h2, h3, h4⟩ := slot_ok F hs
      simp only
      by_cases hm : Γ.mv.contains (p.line, p.col) = true
      · rw [if_pos hm]; exact sd_mov h1 h2 h3 h4
      · rw [if_neg hm]; exact sd_var h1 h2 h3 h4
    | none =>
      simp only
      by_cases hz : isGl Γ n = true
      · rw [if_pos hz]
        obtain ⟨hg, hd, hn⟩ := isGl_ok F hz
        cases hc : Γ.cs.lookup n with
        | none => exact sd_bad
        | some t =>
          obtain ⟨v, u, h1, h2, h3⟩ := F.w.cst n t hc
          exact sd_glb hg h1 h2 h3 hd
      · rw [if_neg hz]; exact sd_bad
  · -- List
    rename_i xs pos
    show Sd X P _ (if plainEs xs then .lst (esOf (f Γ) xs) else .bad)
    by_cases hz : plainEs xs = true
    · rw [if_pos hz]; exact sd_lst (ok_es F hf hz)
    · rw [if_neg hz]; exact sd_bad
  · -- Tuple
    rename_i xs k pos
    show Sd X P _ (if plainEs xs then .tup (esOf (f Γ) xs) else .bad)
    by_cases hz : plainEs xs = true
    · rw [if_pos hz]; exact sd_tup (ok_es F hf hz)
    · rw [if_neg hz]; exact sd_bad
theorem ok_P1 (hf : OkE P f) (hh : OkP P h) : OkP P (cP1 f h) := fun X Γ e F => by
  cases e <;> first | exact sp_bad | skip
  · rename_i a fl pos
    show SdP X P _ (if noSup a then .fld (h Γ a) fl else .bad)
    by_cases hz : noSup a = true
    · rw [if_pos hz]; exact sp_fld F.w.C (hh X Γ a F) (attrB hz)
    · rw [if_neg hz]; exact sp_bad
  · rename_i a b pos
    show SdP X P _ (if notSlice b then .idx (h Γ a) (f Γ b) else .bad)
    by_cases hz : notSlice b = true
    · rw [if_pos hz]; exact sp_idx (hh X Γ a F) (hf X Γ b F) fun o i => by cases b <;> first | rfl | cases hz
    · rw [if_neg hz]; exact sp_bad
  · rename_i n p
    show SdP X P _ (match slot Γ n with
      | some i => .var i
      | none => .bad)
    cases hs : slot Γ n with
    | some i =>
      obtain ⟨h1, h2, h3, h4⟩ := slot_ok F hs
      exact sp_var h1 h2 h3 h4
    | none => exact sp_bad
theorem ok_EP : ∀ k, OkE P (cEP k).1 ∧ OkP P (cEP k).2
  | 0 => ⟨fun _ _ _ _ => sd_bad, fun _ _ _ _ => sp_bad⟩
  | k + 1 => ⟨ok_E1 (ok_EP k).1 (ok_EP k).2, ok_P1 (ok_EP k).1 (ok_EP k).2⟩
end
end Pv

/-! What is compiled is sound: statements. -/
namespace Pv
open PySem L2 PyProof.Rows
section
variable {X : Cx} {P : Pg} {Γ : Gm} {n : Str} {i : Nat} {f h : Gm → Expr → E} {pos : Pos}
theorem blockKind_ok (F : Fit X Γ P) : X.env.blockKind = .function := by
  unfold Env.blockKind
  rw [F.kd]; rfl
theorem sw_no {v : Expr} {t : Option Expr} {l : Nat} {env : Env} (h : notComp v = true) : swapsWith v t l env = pure false := by
  cases v <;> first | rfl | cases h
theorem sw_tg {v t : Expr} {l : Nat} {env : Env} (h : ∀ n p, t ≠ .Name n p) : swapsWith v (some t) l env = pure false := by
  cases v <;> first | rfl | skip
  all_goals
    cases t <;> first | rfl | exact absurd rfl (h _ _)
theorem sw_nm {elt : Expr} {gs : List Comprehension} {scope : Scope} {p2 py : Pos} {l : Nat} (F : Fit X Γ P) : swapsWith (.ListComp elt gs scope p2) (some (.Name n py)) l X.env = pure (swLc Γ n py scope p2) := by
  unfold swapsWith
  simp only [blockKind_ok F]
  show pure _ = pure _
  congr 1
  unfold swLc isLocal Env.kindOf
  rw [F.sc]
  rfl
theorem st_no {tg v : Expr} (h : isTup tg = false) (h2 : ∀ xs p, tg ≠ .List xs p) : swappedStores [tg] v X.env = pure none := by
  cases tg <;> first | rfl | (cases h; done) | exact absurd rfl (h2 _ _)
theorem st_no2 {ts : List Expr} {k : Nat} {p : Pos} {v : Expr} (h : isTup v = false) : swappedStores [.Tuple ts k p] v X.env = pure none := by
  cases v <;> first | rfl | (cases h; done)
theorem sw_eq {ts vs : List Expr} {k k2 : Nat} {p p2 : Pos} {env : Env} : swappedStores [.Tuple ts k p] (.Tuple vs k2 p2) env = (
  if !(ts.length == 2 || ts.length == 3) || vs.length != ts.length || env.blockKind != .function then pure none
  else if vs.any isSt then pure none
  else if (ts.filterMap (nmL env.kindOf ((ts.head?.map (·.pos.line)).getD 0))).length != ts.length || (ts.filterMap (nmL env.kindOf ((ts.head?.map (·.pos.line)).getD 0))).eraseDups.length != (ts.filterMap (nmL env.kindOf ((ts.head?.map (·.pos.line)).getD 0))).length then pure none
  else if vs.all (foldedForSure 8) then pure none
  else if vs.all (constantsAlone 8) then unsupported "assign.tuple-of-constant-expressions:order-of-the-stores"
  else pure (some (ts.filterMap (nmL env.kindOf ((ts.head?.map (·.pos.line)).getD 0))))) := by
  have e1 : (fun (x : Expr) => match x with
    | .Starred .. => true
    | _ => false) = isSt := by funext x; cases x <;> rfl
  have e2 : ∀ l, (fun (x : Expr) => match x with
    | .Name id pos => if env.kindOf id == some .local && pos.line == l then some id else none
    | _ => none) = nmL env.kindOf l := fun l => by funext x; cases x <;> rfl
  rw [← e1, ← e2]
  unfold swappedStores
  dsimp only
  repeat' (split <;> try rfl)
  all_goals first | rfl | skip
theorem st_tt (F : Fit X Γ P) {ts vs : List Expr} {k k2 : Nat} {p p2 : Pos} {r : Option (List Str)} (h : swN (fun n => Γ.sc.names.lookup n) ts vs = some r) : swappedStores [.Tuple ts k p] (.Tuple vs k2 p2) X.env = pure r := by
  have hk : (X.env.blockKind != .function) = false := by rw [blockKind_ok F]; rfl
  have hn : X.env.kindOf = fun n => Γ.sc.names.lookup n := by
    funext n
    unfold Env.kindOf
    rw [F.sc]
  rw [sw_eq, hk, hn]
  unfold swN at h
  split at h
  · rename_i e; cases h; rw [if_pos e]
  · rename_i e
    rw [if_neg e]
    split at h
    · rename_i e2; cases h; rw [if_pos e2]
    · rename_i e2
      rw [if_neg e2]
      split at h
      · rename_i e3; cases h; rw [if_pos e3]
      · rename_i e3
        rw [if_neg e3]
        split at h
        · rename_i e4; cases h; rw [if_pos e4]
        · rename_i e4
          rw [if_neg e4]
          split at h
          · cases h
          · rename_i e5; cases h; rw [if_neg e5]
theorem ok_frzE (F : Fit X Γ P) (hf : OkE P f) (hh : OkP P h) {v : Expr} : Sd X P v (frzE f h Γ v) := by
  cases v <;> first | exact hf X Γ _ F | exact sd_frzp (hf X Γ _ F) (hh X Γ _ F)
theorem ok_asgG (F : Fit X Γ P) (hf : OkE P f) (hh : OkP P h) {tg v : Expr} (hs : swapsWithSole [tg] v pos.line X.env = pure false) (hw : swappedStores [tg] v X.env = pure none) : PS X (.Assign [tg] v pos) (tevS X.K P (cAsgG f h Γ tg v)) := by
  unfold cAsgG
  cases hg : cG Γ tg with
  | none => exact ss_bad
  | some g =>
    obtain ⟨g1, g2⟩ := ok_G F hg
    exact ss_asg (ok_frzE F hf hh) g1 hs hw (by rw [assign_c g2]; rfl)
theorem isLocal_ok (F : Fit X Γ P) (h : isLocal Γ n = true) : X.env.scope.names.lookup n = some .local := by
  unfold isLocal at h
  rw [F.sc]
  exact beq_iff_eq.mp h
theorem ok_par (F : Fit X Γ P) (hf : OkE P f) {ts vs : List Expr} {k k2 : Nat} {p p2 : Pos} {ns : List Str} (hw : swappedStores [.Tuple ts k p] (.Tuple vs k2 p2) X.env = pure (some ns)) : PS X (.Assign [.Tuple ts k p] (.Tuple vs k2 p2) pos) (tevS X.K P (cPar f Γ ts vs ns)) := by
  unfold cPar
  split
  · rename_i n1 q1 n2 q2 a b
    by_cases hz : (decide (ns = [n1, n2]) && isLocal Γ n1 && isLocal Γ n2 && plainEs [a, b]) = true
    · rw [if_pos hz]
      simp only [Bool.and_eq_true, decide_eq_true_eq] at hz
      obtain ⟨⟨⟨rfl, h1⟩, h2⟩, hp⟩ := hz
      split
      · rename_i i j hi hj
        by_cases he : (i == j) = true
        · rw [if_pos he]; exact ss_bad
        · rw [if_neg he]
          exact ss_par2 F.calm F.nd (by rw [F.N]; exact idx_at hi) (by rw [F.N]; exact idx_at hj) (fun z => he (beq_iff_eq.mpr z)) (isLocal_ok F h1) (isLocal_ok F h2) (ok_es F hf hp) hw
      · exact ss_bad
    · rw [if_neg hz]; exact ss_bad
  · rename_i n1 q1 n2 q2 n3 q3 a b c
    by_cases hz : (decide (ns = [n1, n2, n3]) && isLocal Γ n1 && isLocal Γ n2 && isLocal Γ n3 && plainEs [a, b, c]) = true
    · rw [if_pos hz]
      simp only [Bool.and_eq_true, decide_eq_true_eq] at hz
      obtain ⟨⟨⟨⟨rfl, h1⟩, h2⟩, h3⟩, hp⟩ := hz
      split
      · rename_i i j l hi hj hl
        by_cases he : (i == j || i == l || j == l) = true
        · rw [if_pos he]; exact ss_bad
        · rw [if_neg he]
          simp only [Bool.or_eq_true, beq_iff_eq, not_or] at he
          exact ss_par3 F.calm F.nd (by rw [F.N]; exact idx_at hi) (by rw [F.N]; exact idx_at hj) (by rw [F.N]; exact idx_at hl) he.1.1 he.1.2 he.2 (isLocal_ok F h1) (isLocal_ok F h2) (isLocal_ok F h3) (ok_es F hf hp) hw
      · exact ss_bad
    · rw [if_neg hz]; exact ss_bad
  · exact ss_bad
theorem ok_asg (F : Fit X Γ P) (hf : OkE P f) (hh : OkP P h) {tg v : Expr} : PS X (.Assign [tg] v pos) (tevS X.K P (cAsg f h Γ tg v)) := by
  have nsw : ∀ {t : Expr}, (∀ n p, t ≠ .Name n p) → swapsWithSole [t] v pos.line X.env = pure false := fun {t} z => sw_tg z
  cases tg <;> first | exact ss_bad | skip
  · -- Attribute
    rename_i a fl p
    exact ok_asgG F hf hh (nsw fun _ _ => (nomatch ·)) (st_no rfl fun _ _ => (nomatch ·))
  · -- Subscript
    rename_i a b p
    show PS X _ (tevS X.K P (if notSlice b then .pst (h Γ a) (f Γ b) (f Γ v) else .bad))
    by_cases hz : notSlice b = true
    · rw [if_pos hz]
      exact ss_pst (hf X Γ v F) (hh X Γ a F) (hf X Γ b F) (nsw fun _ _ => (nomatch ·)) (st_no rfl fun _ _ => (nomatch ·)) fun w => by cases b <;> first | rfl | cases hz
    · rw [if_neg hz]; exact ss_bad
  · -- Name
    rename_i n py
    have gen : notComp v = true → PS X (.Assign [.Name n py] v pos) (tevS X.K P (cAsgG f h Γ (.Name n py) v)) := fun z => ok_asgG F hf hh (show swapsWith v (some (.Name n py)) pos.line X.env = pure false from sw_no z) (st_no rfl fun _ _ => (nomatch ·))
    cases v <;> first | exact gen rfl | exact ss_bad | skip
    rename_i elt gs scope p2
    match gs with
    | [] => exact ss_bad
    | ⟨_, _, _, _⟩ :: _ :: _ => exact ss_bad
    | [⟨tgt, iter, ifs, as⟩] =>
      show PS X _ (tevS X.K P (if as == 0 then
        if swLc Γ n py scope p2 then match Γ.N.idxOf? n with
          | some i => .asg (.one (.nm i)) (cLc f Γ elt tgt iter ifs scope)
          | none => .bad
        else cAsgG f h Γ (.Name n py) (.ListComp elt [⟨tgt, iter, ifs, as⟩] scope p2)
      else .bad))
      by_cases ha : (as == 0) = true
      · rw [if_pos ha]
        rw [beq_iff_eq] at ha
        subst ha
        by_cases hz : swLc Γ n py scope p2 = true
        · rw [if_pos hz]
          have hl : isLocal Γ n = true := by
            unfold swLc at hz
            rw [Bool.and_eq_true, Bool.and_eq_true] at hz
            exact hz.1.1
          cases hi : Γ.N.idxOf? n with
          | none => exact ss_bad
          | some i =>
            simp only
            rcases lc_ok F hf (elt := elt) (tg := tgt) (iter := iter) (ifs := ifs) (scope := scope) with h1 | ⟨g, it, c, e, h1, L⟩
            · rw [h1]
              exact ⟨fun pins s σ H D I ⟨F, sl, p, fl, sl', ex, S, e, k⟩ => by simp only [evS, ev] at e; cases e⟩
            · rw [h1]
              exact ss_asgLc F.calm F.nd (by rw [F.N]; exact idx_at hi) (isLocal_ok F hl) (by rw [sw_nm F, hz]) L.it L.ok L.sub L.hg L.ht L.he L.hs
        · rw [if_neg hz]
          exact ok_asgG F hf hh (show swapsWith (.ListComp elt [⟨tgt, iter, ifs, 0⟩] scope p2) (some (.Name n py)) pos.line X.env = pure false by rw [sw_nm F]; congr 1; simpa using hz) (st_no rfl fun _ _ => (nomatch ·))
      · rw [if_neg ha]; exact ss_bad
  · -- Tuple
    rename_i ts k p
    have sw := nsw (t := .Tuple ts k p) fun _ _ => (nomatch ·)
    cases v <;> first | exact ok_asgG F hf hh sw (st_no2 rfl) | skip
    rename_i vs k2 p2
    show PS X _ (tevS X.K P (match swN (fun n => Γ.sc.names.lookup n) ts vs with
      | some none => cAsgG f h Γ (.Tuple ts k p) (.Tuple vs k2 p2)
      | some (some ns) => cPar f Γ ts vs ns
      | none => .bad))
    cases hs : swN (fun n => Γ.sc.names.lookup n) ts vs with
    | none => exact ss_bad
    | some r =>
      have z := st_tt F (k := k) (k2 := k2) (p := p) (p2 := p2) hs
      cases r with
      | none => exact ok_asgG F hf hh sw z
      | some ns => exact ok_par F hf z
theorem ok_aug (F : Fit X Γ P) (hf : OkE P f) (hh : OkP P h) {tg v : Expr} {op : Operator} {o : O2} (h1 : PIp X op (rIP X.K o)) (h2 : InOp X op (rIP X.K o)) : PS X (.AugAssign tg op v pos) (tevS X.K P (cAug f h Γ tg o v)) := by
  cases tg <;> first | exact ss_bad | skip
  · rename_i a fl p
    cases a <;> first | exact ss_bad | skip
    rename_i r pr
    show PS X _ (tevS X.K P (match slot Γ r with
      | some i => .faug i fl o (f Γ v)
      | none => .bad))
    cases hs : slot Γ r with
    | none => exact ss_bad
    | some i =>
      obtain ⟨g1, g2, g3, g4⟩ := slot_ok F hs
      exact ss_faug F.w.C g1 g2 g3 g4 h2 (hf X Γ v F)
  · rename_i a b p
    show PS X _ (tevS X.K P (if notSlice b then .paug (h Γ a) (f Γ b) o (f Γ v) else .bad))
    by_cases hz : notSlice b = true
    · rw [if_pos hz]
      exact ss_paug h1 (hf X Γ v F) (hh X Γ a F) (hf X Γ b F) fun _ _ _ => by cases b <;> first | rfl | cases hz
    · rw [if_neg hz]; exact ss_bad
  · rename_i n p
    show PS X _ (tevS X.K P (if okN2 n then match tslot Γ n with
      | some i => .aug i o (f Γ v)
      | none => .bad
      else .bad))
    by_cases hz : okN2 n = true
    · rw [if_pos hz]
      cases hs : tslot Γ n with
      | none => exact ss_bad
      | some i =>
        obtain ⟨g1, g2, g3⟩ := tslot_ok F hs
        exact ss_aug F.nd g1 g2 g3 h1 (hf X Γ v F)
    · rw [if_neg hz]; exact ss_bad
def OkS (P : Pg) (g : Gm → Stmt → S) : Prop := ∀ X Γ st, Fit X Γ P → PassesOwn (model X.prog X.w) X.A X.env X.xe → PS X st (tevS X.K P (g Γ st))
theorem ok_ss {g : Gm → Stmt → S} (F : Fit X Γ P) (hp : PassesOwn (model X.prog X.w) X.A X.env X.xe) (hg : OkS P g) : ∀ {ss : List Stmt}, PSs X ss (tevSs X.K P (ssOf (g Γ) ss))
  | [] => ss_nil
  | s :: ss => ss_cons (hg X Γ s F hp) (ok_ss F hp hg)
theorem ok_S1 {g : Gm → Stmt → S} (hf : OkE P f) (hh : OkP P h) (hg : OkS P g) : OkS P (cS1 f h g) := fun X Γ st F hp => by
  cases st <;> first | exact ss_bad | exact ss_pass | exact ss_brk | exact ss_cnt | skip
  · -- Return
    rename_i e pos
    cases e with
    | none => exact ss_retn
    | some e =>
      have gen : PS X (.Return (some e) pos) (tevS X.K P (.ret (f Γ e))) := ss_ret (hf X Γ e F)
      cases e <;> first | exact gen | skip
      rename_i n p
      show PS X _ (tevS X.K P (.ret (match slot Γ n with
        | some i => .mov i
        | none => f Γ (.Name n p))))
      cases hs : slot Γ n with
      | none => exact gen
      | some i =>
        obtain ⟨h1, h2, h3, h4⟩ := slot_ok F hs
        exact ss_ret (sd_mov h1 h2 h3 h4)
  · -- Assign
    rename_i tgs v pos
    match tgs with
    | [] => exact ss_bad
    | [tg] => exact ok_asg F hf hh
    | _ :: _ :: _ => exact ss_bad
  · -- AugAssign
    rename_i tg op v pos
    cases op <;> first | exact ss_bad | exact ok_aug F hf hh ipr_add inr_add | exact ok_aug F hf hh ipr_sub inr_sub
  · -- For
    rename_i tg it a els pos
    cases els with
    | cons => exact ss_bad
    | nil =>
      show PS X _ (tevS X.K P (if notSet it then match cG Γ tg with
        | some gt => .forr gt (cI f Γ tg it) (ssOf (g Γ) a)
        | none => .bad
        else .bad))
      by_cases hz : notSet it = true
      · rw [if_pos hz]
        cases h1 : cG Γ tg with
        | none => exact ss_bad
        | some gt => exact ss_for hp F.calm (ok_I F hf) (ok_G F h1).1 (ok_ss F hp hg) (folded hz)
      · rw [if_neg hz]; exact ss_bad
  · -- While
    rename_i c a els pos
    cases els with
    | cons => exact ss_bad
    | nil => exact ss_whl hp (hf X Γ c F) (ok_ss F hp hg)
  · -- If
    exact ss_if (hf X Γ _ F) (ok_ss F hp hg) (ok_ss F hp hg)
  · -- Expr
    rename_i e pos
    have gen : PS X (.Expr e pos) (tevS X.K P (if notComp e then .exp (f Γ e) else .bad)) := by
      by_cases hz : notComp e = true
      · rw [if_pos hz]; exact ss_exp (hf X Γ e F) (sw_no hz)
      · rw [if_neg hz]; exact ss_bad
    cases e <;> first | exact gen | skip
    rename_i c j p
    cases c <;> first | exact gen | exact ss_doc
theorem ok_S (j : Nat) : ∀ k, OkS P (cS k (cEP j))
  | 0 => fun _ _ _ _ _ => ss_bad
  | k + 1 => ok_S1 (ok_EP j).1 (ok_EP j).2 (ok_S j k)
end
end Pv

/-! Functions. -/
namespace Pv
open PySem L2 PyProof.Rows
structure DefT where
  nm : Str
  qual : Str
  params : Arguments
  body : List Stmt
  scope : Scope
  ps : List Str
  N : List Str
def gmOf (Γ : Gm) (d : DefT) : Gm := { Γ with N := d.N, sc := d.scope, fnc := fun _ => true }
def bodyOf (Γ : Gm) (d : DefT) : Ss := ssOf (cS 40 (cEP 40) (gmOf Γ d)) d.body
def fnOf (Γ : Gm) (d : DefT) : Fn := ⟨d.ps.length, d.N.length, (stSs (bodyOf Γ d)).filter fun i => decide (i < d.ps.length), bodyOf Γ d⟩
def pgOf (R : Prg) (n : Nat) : Pg := ⟨callF R n, fun c m => R.mt.lookup (c, m), fun c f => R.fd.contains (c, f)⟩
section
variable {K : PySem.W.Frag} {F H : Hp} {p q : FP}
theorem Reps.swap : ∀ {sl : List T} {ws : List V} {p : FP} (vs : List V), Reps K F H sl ws p → sl.length = vs.length → (∀ (i : Nat) (t : T), sl[i]? = some t → isHole t = false → ws[i]? = vs[i]?) → Reps K F H sl vs p
  | [], _, _, [], .nil e, _, _ => .nil e
  | t :: ts, w :: ws, _, v :: vs, .cons h hs d e, hl, ag => by
    refine .cons ?_ (Reps.swap vs hs (by simpa using hl) fun i u h1 h2 => by simpa using ag (i + 1) u (by simpa using h1) h2) d e
    by_cases ht : isHole t = true
    · obtain rfl := isHole_eq ht
      cases h with
      | hole e => exact .hole e
    · have := ag 0 t rfl (by simpa using ht)
      simp at this
      subst this
      exact h
theorem holes {n : Nat} : Reps K F H (List.replicate n T.hole) (List.replicate n V.non) nop := by
  induction n with
  | zero => exact .nil fun _ x => x
  | succ n ih => exact .cons (p := nop) (.hole fun _ x => x) ih (fun _ x => x.elim) fun b => ⟨.inl, fun x => x.elim id id⟩
theorem wipeS_get {sl : SL} {i : Nat} : ∀ {vs : List Nat}, (wipeS vs sl)[i]? = if i ∈ vs then (sl[i]?).map (fun _ => T.hole) else sl[i]?
  | [] => by simp [wipeS]
  | v :: vs => by
    have len : ∀ {vs : List Nat}, (wipeS vs sl).length = sl.length := fun {vs} => by
      induction vs with
      | nil => rfl
      | cons v vs ih => unfold wipeS; rw [List.length_set, ih]
    unfold wipeS
    by_cases hi : v = i
    · subst hi
      rw [if_pos List.mem_cons_self]
      by_cases hv : v < (wipeS vs sl).length
      · rw [List.getElem?_set_self hv]
        rw [len] at hv
        simp [hv]
      · rw [List.getElem?_eq_none (by simpa using hv)]
        rw [len] at hv
        rw [List.getElem?_eq_none (l := sl) (by omega)]
        rfl
    · rw [List.getElem?_set_ne hi, wipeS_get (vs := vs)]
      by_cases h2 : i ∈ vs
      · rw [if_pos h2, if_pos (List.mem_cons_of_mem _ h2)]
      · rw [if_neg h2, if_neg (fun z => (List.mem_cons.mp z).elim (fun e => hi e.symm) h2)]
/-- the slots at the entry -/
theorem slr_start {ts : List T} {vs : List V} {N : List Str} (R : Reps K F H ts vs p) (hl : vs.length ≤ N.length) : SlR K F H (ts ++ List.replicate (N.length - ts.length) .hole) (L2.start N vs) p := by
  have l := R.length
  refine ⟨vs ++ List.replicate (N.length - ts.length) .non, (R.app holes fun _ _ x => x).cg fun a => ⟨fun x => x.elim id fun z => z.elim, .inl⟩, ?_, fun i t v h1 h2 h3 => ?_⟩
  · unfold L2.start
    simp only [List.length_append, List.length_replicate, List.length_map]
    omega
  · have hi : i < ts.length := by
      by_cases z : i < ts.length
      · exact z
      · rw [List.getElem?_append_right (by omega), List.getElem?_replicate] at h1
        split at h1
        · cases h1; cases h2
        · cases h1
    unfold L2.start
    rw [List.getElem?_append_left (by simp; omega), List.getElem?_map]
    rw [List.getElem?_append_left (by omega)] at h3
    rw [h3]; rfl
/-- the parameters at the end -/
theorem slr_end {vs : List V} {N : List Str} {slz : SL} {σ' : L2.St} {A : List Nat} {np : Nat} (S : SlR K F H slz σ' p) (kp : Keep A (L2.start N vs) σ') (hn : np = vs.length) (hl : vs.length ≤ N.length) :
    ∃ q, (∀ a, q a → p a) ∧ Reps K F H ((wipeS (A.filter fun i => decide (i < np)) slz).take np) vs q := by
  obtain ⟨r, s1, ws, R, l, ag⟩ := S.wipe (A.filter fun i => decide (i < np))
  obtain ⟨r1, r2, R1, _, _, ep⟩ := R.take' np
  have l1 := R.length
  have l0 : (L2.start N vs).length = N.length := by
    unfold L2.start
    simp only [List.length_append, List.length_replicate, List.length_map]
    omega
  have l2 : (wipeS (A.filter fun i => decide (i < np)) slz).length = N.length := by
    rw [l, wipe_length, kp.1, l0]
  refine ⟨r1, fun a x => s1 a ((ep a).mpr (.inl x)), R1.swap vs (by rw [List.length_take]; omega) fun i t h1 h2 => ?_⟩
  rw [List.getElem?_take] at h1 ⊢
  by_cases hi : i < np
  · rw [if_pos hi] at h1 ⊢
    have hw : i < ws.length := by rw [← l1, l2]; omega
    obtain ⟨w, ew⟩ : ∃ w, ws[i]? = some w := ⟨ws[i], by simp [hw]⟩
    have g := ag i t w h1 h2 ew
    have nA : i ∉ A := fun z => by
      rw [wipeS_get, if_pos (List.mem_filter.mpr ⟨z, by simpa using hi⟩)] at h1
      obtain ⟨_, _, e⟩ := Option.map_eq_some_iff.mp h1
      subst e; cases h2
    rw [wipe_get, if_neg (fun z => nA (List.mem_filter.mp z).1), kp.2 i nA] at g
    unfold L2.start at g
    rw [List.getElem?_append_left (by simp; omega), List.getElem?_map] at g
    obtain ⟨v, e1, e2⟩ := Option.map_eq_some_iff.mp g
    cases e2
    rw [ew, e1]
  · rw [if_neg hi] at h1; cases h1
end
theorem runF_some {P : Pg} {f : Fn} {ts ts' : List T} {t : T} (h : runF P f ts = some (t, ts')) : ts.length = f.np ∧ ∃ fl slz, evSs P f.body (ts ++ List.replicate (f.ns - f.np) .hole) = some (fl, slz) ∧ ts' = (wipeS f.st slz).take f.np ∧ (fl = .rt t ∨ (fl = .nx ∧ t = .non)) := by
  unfold runF at h
  by_cases hz : ts.length = f.np
  · rw [if_pos hz] at h
    obtain ⟨⟨fl, slz⟩, e1, e2⟩ := Option.bind_eq_some_iff.mp h
    refine ⟨hz, fl, slz, e1, ?_⟩
    cases fl <;> first | (cases e2; done) | skip
    · cases e2; exact ⟨rfl, .inr ⟨rfl, rfl⟩⟩
    · cases e2; exact ⟨rfl, .inl rfl⟩
  · rw [if_neg hz] at h; cases h
/-- the body keeps the promise -/
theorem body_ok {K : PySem.W.Frag} {Pn : Pg} {Γ : Gm} {d : DefT} {vs : List V} {H : Hp} {Q : VK} {E : XK} {cf : List T → Option (T × List T)} (hcf : ∀ ts, cf ts = runF Pn (fnOf Γ d) ts) (hN : d.ps.length ≤ d.N.length) (h : spF K cf vs H Q E) :
    vs.length = d.ps.length ∧ tevSs K Pn (bodyOf Γ d) { nx := fun _ H' => Q .non H', rt := Q } (L2.start d.N vs) H := by
  obtain ⟨F, ts, p, t, ts', ex, R, e, k⟩ := h
  rw [hcf] at e
  obtain ⟨h1, fl, slz, e1, rfl, h3⟩ := runF_some e
  have h1 : ts.length = d.ps.length := h1
  have l := R.length
  refine ⟨by omega, F, _, p, fl, slz, ex, slr_start R (by omega), ?_, ?_⟩
  · rw [h1]; exact e1
  · rcases h3 with rfl | ⟨rfl, rfl⟩
    · intro v σ' F' H' pv p' kp ex' S' R' dj st
      obtain ⟨q, sub, RS⟩ := slr_end (np := d.ps.length) S' kp (by omega) (by omega)
      exact k v F' H' pv q ex' RS R' (fun a x y => dj a x (sub a y)) (st.sub fun a x => x.imp id (sub a))
    · intro σ' F' H' p' kp ex' S' st
      obtain ⟨q, sub, RS⟩ := slr_end (np := d.ps.length) S' kp (by omega) (by omega)
      exact k .non F' H' nop q ex' RS (.non fun _ x => x) (fun _ x => x.elim) (st.sub fun a x => x.elim (fun z => z.elim) (sub a))
/-! ### the whole program -/
structure World (prog : Program) (w : World) (K : PySem.W.Frag) (mg : Str → Option Value) (base : Heap) (Γ : Gm) (R : Prg) (ds : List DefT) (at_ : Nat → Addr) (fdt : Nat → FuncData) : Prop where
  fns_ : R.fns = ds.map (fnOf Γ)
  def_ : ∀ i d, ds[i]? = some d → FunD K d.nm d.qual d.params d.body d.scope [] [] (at_ i) (fdt i) ∧ FnScope d.N d.ps d.scope ∧ Binds K (fdt i) d.ps []
  cst : ∀ n t, Γ.cs.lookup n = some t → ∃ v u, mg n = some u ∧ RelV v u ∧ ∀ F H, Rep K F H t v nop
  fns : ∀ n i, Γ.fs.lookup n = some i → mg n = some (.ref (at_ i)) ∧ i < ds.length
  cls : ∀ n i, Γ.cl.lookup n = some i → Mk K (He.ga K n) (at_ i) ∧ mg n = some (.ref (He.ga K n)) ∧ i < ds.length
  im : ∀ n id, Γ.im.lookup n = some id → mg n = some (.builtin id)
  bl : ∀ n, Γ.bl.contains n = true → mg n = none
  fd : ∀ c f, R.fd.contains (c, f) = true → Cls K (He.ga K c) ∧ NoAttr K (He.ga K c) f
  mt : ∀ c q i, R.mt.lookup (c, q) = some i → Cls K (He.ga K c) ∧ Meth K (He.ga K c) q (at_ i) ∧ i < ds.length
section
variable {prog : Program} {w : PySem.World} {K : PySem.W.Frag} {mg : Str → Option Value} {base : Heap} {Γ : Gm} {R : Prg} {ds : List DefT} {at_ : Nat → Addr} {fdt : Nat → FuncData}
def FnsOk (prog : Program) (w : PySem.World) (K : PySem.W.Frag) (mg : Str → Option Value) (base : Heap) (R : Prg) (ds : List DefT) (at_ : Nat → Addr) (fdt : Nat → FuncData) (n : Nat) : Prop :=
  ∀ i d, ds[i]? = some d → FnOk prog w K mg base CX0 (2 * n) (at_ i) (fdt i) d.ps (spF K (callF R n i)) ∧ Binds K (fdt i) d.ps [] ∧ PySem.W.keepIn K (.ref (at_ i)) = true
/-- a context of the program's -/
theorem wld_of (W : World prog w K mg base Γ R ds at_ fdt) {n : Nat} (hn : FnsOk prog w K mg base R ds at_ fdt n) {X : Cx} (h1 : X.prog = prog) (h2 : X.w = w) (h3 : X.K = K) (h4 : X.mg = mg) (h5 : X.base = base) (hr : Room (2 * n + 1) X.A) {d : DefT} : Wld X (pgOf R n) (gmOf Γ d) := by
  subst h1 h2 h3 h4 h5
  have fa : ∀ i, i < ds.length → FnAt X (pgOf R n) i (at_ i) := fun i hi => by
    obtain ⟨a, b, c⟩ := hn i ds[i] (by simp [hi])
    exact ⟨⟨_, _, _, a, hr, b⟩, c⟩
  exact ⟨W.cst, fun n i h => ⟨_, fa i (W.fns n i h).2, (W.fns n i h).1⟩, fun n i h => ⟨_, fa i (W.cls n i h).2.2, (W.cls n i h).1, (W.cls n i h).2.1⟩, W.im, W.bl, ⟨W.fd⟩, ⟨fun c q i h => ⟨_, (W.mt c q i h).1, (W.mt c q i h).2.1, fa i (W.mt c q i h).2.2⟩⟩⟩
theorem fns_ok (W : World prog w K mg base Γ R ds at_ fdt) : ∀ n, FnsOk prog w K mg base R ds at_ fdt n
  | 0 => fun i d hd => by
    obtain ⟨a, b, c⟩ := W.def_ i d hd
    exact ⟨⟨fun vs H Q E ⟨F, ts, p, t, ts', ex, R, e, k⟩ => (nomatch e), fun A outer s H args us vs Q E hr he hb hv ⟨F, ts, p, t, ts', ex, R, e, k⟩ => (nomatch e)⟩, c, a.kp⟩
  | n + 1 => fun i d hd => by
    obtain ⟨a, b, c⟩ := W.def_ i d hd
    have ih := fns_ok W n
    have hN : d.ps.length ≤ d.N.length := by have := congrArg List.length b.pre; rw [List.length_take] at this; omega
    have hcf : ∀ ts, callF R (n + 1) i ts = runF (pgOf R n) (fnOf Γ d) ts := fun ts => by
      show ((R.fns[i]?).bind fun fn => runF (pgOf R n) fn ts) = _
      rw [W.fns_, List.getElem?_map, hd]; rfl
    refine ⟨a.ok (k := 2 * n + 1) b (fun vs H Q E h => (body_ok (Γ := Γ) (d := d) hcf hN h).1) fun cdv A outer s H vs Q E hr h => ?_, c, a.kp⟩
    refine ⟨_, PSs.nox ?_, (body_ok (Γ := Γ) (d := d) hcf hN h).2⟩
    have F : Fit (cxOf CX0 prog w K mg base d.N d.qual d.scope (at_ i) cdv A outer s H E).nox (gmOf Γ d) (pgOf R n) :=
      { N := rfl, nd := b.nd, sc := rfl, kd := b.kind, fn := fun _ => rfl, calm := rfl, un := hr.units, w := wld_of W ih rfl rfl rfl rfl rfl hr }
    exact ok_ss F PassesOwn.never (ok_S 40 40)
end
end Pv

/-! The head: what the top leaves. -/
namespace Pv
open PySem L2 PyProof.Rows
/-! ### the facts -/
def notList (o : Obj) : Bool := match o.cls with
  | .type c => !(decide (c = "list"))
  | _ => true
def frV (n : Nat) (g : Addr → Option Obj) : PySem.W.Frag := (He.frG g (He.asD g n)).filter fun p => notList p.2
theorem mem_lk {α β : Type} [BEq α] [LawfulBEq α] : ∀ {l : List (α × β)} {a : α} {b : β}, l.lookup a = some b → (a, b) ∈ l
  | [], _, _, h => by cases h
  | (c, d) :: l, a, b, h => by
    rw [List.lookup_cons] at h
    cases e : a == c with
    | true =>
      rw [e] at h
      cases h
      rw [beq_iff_eq.mp e]
      exact List.mem_cons_self
    | false =>
      rw [e] at h
      exact List.mem_cons_of_mem _ (mem_lk h)
theorem filt_at {K : PySem.W.Frag} {a : Addr} {o : Obj} (h : (K.filter fun p => notList p.2).lookup a = some o) : (a, o) ∈ K ∧ notList o = true := by
  have := mem_lk h
  exact List.mem_filter.mp this
theorem frG_mem {g : Addr → Option Obj} {as : List Addr} {a : Addr} {o : Obj} (h : (a, o) ∈ He.frG g as) : g a = some o := by
  unfold He.frG at h
  obtain ⟨b, _, e⟩ := List.mem_filterMap.mp h
  obtain ⟨o', e1, e2⟩ := Option.map_eq_some_iff.mp e
  cases e2
  exact e1
theorem frV_in {n : Nat} {h : Heap} : (frV n h.get?).In h := fun _ _ e => frG_mem (filt_at e).1
theorem frV_nl {n : Nat} {g : Addr → Option Obj} : ∀ a o, (frV n g).lookup a = some o → o.cls ≠ .type "list" := fun a o e z => by
  have h := (filt_at e).2
  unfold notList at h
  rw [z] at h
  exact absurd h (by decide)
abbrev AlV : Type := Bool × List He.FnW
def obsV (fa : List He.Fa) (fn : List He.DefD) (ex : PySem.W.Frag → Bool) (K : PySem.W.Frag) : AlV := (((fa.all fun f => f.ok K) && fn.all fun d => d.ok K) && ex K, fn.map fun d => He.fnW K d.at_)
structure SaysV (fa : List He.Fa) (fn : List He.DefD) (ex : PySem.W.Frag → Bool) (K : PySem.W.Frag) : Prop where
  d : He.SaysD fa fn K
  ex : ex K = true
  nl : ∀ a o, K.lookup a = some o → o.cls ≠ .type "list"
theorem saysV_of {n : Nat} {fa : List He.Fa} {fn : List He.DefD} {ex : PySem.W.Frag → Bool} {g : Addr → Option Obj} (e : obsV fa fn ex (frV n g) = (true, fn.map He.DefD.val)) : SaysV fa fn ex (frV n g) := by
  obtain ⟨h1, h2⟩ := He.ba (congrArg (fun z : AlV => z.1) e)
  refine ⟨?_, h2, frV_nl⟩
  show (_, _) = (_, _)
  rw [h1]
  exact congrArg (Prod.mk true) (congrArg (fun z : AlV => z.2) e)
def hookV (n : Nat) (fa : List He.Fa) (fn : List He.DefD) (ex : PySem.W.Frag → Bool) : PySem.W.Hook where
  α := AlV
  obs := fun s => obsV fa fn ex (frV n s.heap.get?)
  val := fun _ => (true, fn.map He.DefD.val)
  says := fun _ h => ∃ K : PySem.W.Frag, K.In h ∧ SaysV fa fn ex K
  of := fun _ _ e => ⟨_, frV_in, saysV_of e⟩
  keeps := fun _ _ _ ⟨K, hK, c⟩ k => ⟨K, PySem.W.Frag.In.keeps hK k, c⟩
def obV (n : Nat) (fa : List He.Fa) (fn : List He.DefD) (ex : PySem.W.Frag → Bool) (s : PySem.W.SharedT) : AlV := obsV fa fn ex (frV n (HandSHeadRun.getT s))
theorem obV_eq {n : Nat} {fa : List He.Fa} {fn : List He.DefD} {ex : PySem.W.Frag → Bool} (s : PySem.W.SharedT) : obV n fa fn ex s = (hookV n fa fn ex).obs s.abs := by
  have e : HandSHeadRun.getT s = s.abs.heap.get? := funext (HandSHeadRun.getT_eq s)
  unfold obV
  rw [e] <;> rfl
/-! ### the module's constants -/
mutual
def valB (K : PySem.W.Frag) : Value → T → Bool
  | .none, .non => true
  | .bool b, .bl c => b == c
  | .int i _, .int j => decide (i = j)
  | .str x _, .str y => decide (x = y)
  | .ref a, .tup ts => (match K.lookup a with
    | some ⟨.type c, _, .seq its _, _⟩ => decide (c = "tuple") && (decide (its.size ≤ sizeLine) && valBs K its.toList ts)
    | _ => false)
  | _, _ => false
def valBs (K : PySem.W.Frag) : List Value → List T → Bool
  | [], [] => true
  | v :: vs, t :: ts => valB K v t && valBs K vs ts
  | _, _ => false
end
mutual
theorem valB_ok {K : PySem.W.Frag} : ∀ (t : T) (u : Value), valB K u t = true → ∃ v, RelV v u ∧ ∀ F H, Rep K F H t v nop
  | .non, u, h => by
    cases u <;> first | (unfold valB at h; cases h; done) | skip
    exact ⟨.non, rfl, fun _ _ => .non fun _ x => x⟩
  | .bl b, u, h => by
    cases u <;> first | (unfold valB at h; cases h; done) | skip
    rename_i c
    unfold valB at h
    rw [beq_iff_eq] at h
    subst h
    exact ⟨.bl _, rfl, fun _ _ => .bl fun _ x => x⟩
  | .int i, u, h => by
    cases u <;> first | (unfold valB at h; cases h; done) | skip
    unfold valB at h
    obtain rfl := of_decide_eq_true h
    exact ⟨.int _, ⟨_, rfl⟩, fun _ _ => .int fun _ x => x⟩
  | .str i, u, h => by
    cases u <;> first | (unfold valB at h; cases h; done) | skip
    unfold valB at h
    obtain rfl := of_decide_eq_true h
    exact ⟨.str _, ⟨_, rfl⟩, fun _ _ => .str fun _ x => x⟩
  | .tup ts, u, h => by
    cases u <;> first | (unfold valB at h; cases h; done) | skip
    rename_i a
    unfold valB at h
    cases q : K.lookup a with
    | none => rw [q] at h; cases h
    | some o =>
      obtain ⟨oc, od, dt, osl⟩ := o
      rw [q] at h
      cases oc <;> first | (cases dt <;> cases h; done) | skip
      rename_i c
      cases dt <;> first | (cases h; done) | skip
      rename_i its n
      obtain ⟨h1, h2⟩ := He.ba (show (decide (c = "tuple") && (decide (its.size ≤ sizeLine) && valBs K its.toList ts)) = true from h)
      obtain ⟨h3, h4⟩ := He.ba h2
      obtain ⟨vs, r1, r2⟩ := valBs_ok ts its.toList h4
      exact ⟨.ref a, rfl, fun F H => .tup (.inr ⟨_, its, n, q, congrArg Value.type (of_decide_eq_true h1), rfl, of_decide_eq_true h3, r1⟩) (r2 F H)⟩
  | .hole, u, h => by cases u <;> (unfold valB at h; cases h)
  | .lst .., u, h => by cases u <;> (unfold valB at h; cases h)
  | .dct .., u, h => by cases u <;> (unfold valB at h; cases h)
  | .ins .., u, h => by cases u <;> (unfold valB at h; cases h)
theorem valBs_ok {K : PySem.W.Frag} : ∀ (ts : List T) (us : List Value), valBs K us ts = true → ∃ vs, Vals vs us ∧ ∀ F H, Reps K F H ts vs nop
  | [], [], _ => ⟨[], .nil, fun _ _ => .nil fun _ x => x⟩
  | [], _ :: _, h => by unfold valBs at h; cases h
  | _ :: _, [], h => by unfold valBs at h; cases h
  | t :: ts, u :: us, h => by
    unfold valBs at h
    obtain ⟨h1, h2⟩ := He.ba h
    obtain ⟨v, a1, a2⟩ := valB_ok t u h1
    obtain ⟨vs, b1, b2⟩ := valBs_ok ts us h2
    exact ⟨v :: vs, .cons a1 b1, fun F H => .cons (a2 F H) (b2 F H) (fun _ x => x.elim) fun b => ⟨.inl, fun x => x.elim id id⟩⟩
end
def cstB (K : PySem.W.Frag) (p : Str × T) : Bool := match PySem.W.nsIn K mainGlobals p.1 with
  | some (some u) => valB K u p.2
  | _ => false
def impB (K : PySem.W.Frag) (p : Str × String) : Bool := He.eqO (PySem.W.nsIn K mainGlobals p.1) (some (some (.builtin p.2)))
def exB (Γ : Gm) (K : PySem.W.Frag) : Bool := (Γ.cs.all fun p => cstB K p) && Γ.im.all fun p => impB K p
/-! ### defs of the text -/
def defOf (st : Stmt) (at_ : Str × Option Str) (qual : Str) (extra : List Str) : DefT × He.DefD :=
  (⟨at_.2.getD at_.1, qual, defArgs st, defBody st, defScope st, (defArgs st).args.map (·.arg), (((defArgs st).args.map (·.arg)) ++ ((defScope st).names.filter fun p => p.2 == .local || p.2 == .cell).map (·.1) ++ extra).eraseDups⟩,
    ⟨at_, at_.2.getD at_.1, qual, defArgs st, defBody st, defScope st, [], []⟩)
def scC (N P : List Str) (sc : Scope) : Bool := (match sc.kind with
    | .function => true
    | _ => false) && !sc.isCoroutine && !sc.isGenerator && decide N.Nodup && decide (N.take P.length = P) && (P.all fun x => sc.names.lookup x == some .local || sc.names.lookup x == some .cell) && sc.names.all fun y => !(y.2 == .free)
theorem scC_ok {N P : List Str} {sc : Scope} (h : scC N P sc = true) : FnScope N P sc := by
  unfold scC at h
  simp only [Bool.and_eq_true, decide_eq_true_eq, List.all_eq_true, Bool.or_eq_true, beq_iff_eq, Bool.not_eq_true'] at h
  obtain ⟨⟨⟨⟨⟨⟨h1, h2⟩, h3⟩, h4⟩, h5⟩, h6⟩, h7⟩ := h
  refine ⟨?_, h2, h3, h4, h5, h6, fun y hy e => ?_⟩
  · split at h1
    · assumption
    · cases h1
  · have := h7 y hy
    rw [e] at this
    cases this
/-- a program as the proof knows it -/
structure Src where
  ds : List (DefT × He.DefD)
  Γ : Gm
  mt : List ((Str × Str) × Nat)
  fd : List (Str × Str)
def Src.R (S : Src) : Prg := ⟨(S.ds.map (·.1)).map (fnOf S.Γ), S.mt, S.fd⟩
def Src.fn (S : Src) : List He.DefD := S.ds.map (·.2)
def Src.ats (S : Src) (i : Nat) : Str × Option Str := match S.ds[i]? with
  | some d => d.2.at_
  | none => ("", none)
/-- the facts that the top is to tell -/
def Src.fa (S : Src) : List He.Fa :=
  S.Γ.fs.map (fun p => .glo p.1) ++ (S.Γ.cl.flatMap fun p => [.glo p.1, .mkr p.1]) ++ S.Γ.bl.map (fun n => .free n) ++ (S.fd.flatMap fun p => [.cls p.1, .noat p.1 p.2]) ++ S.mt.flatMap fun p => [.cls p.1.1, .meth p.1.1 p.1.2]
/-- what is to be right of the tables themselves -/
def Src.ok (S : Src) : Bool :=
  (S.ds.all fun d => scC d.1.N d.1.ps d.1.scope) && (S.Γ.fs.all fun p => decide (p.2 < S.ds.length) && decide (S.ats p.2 = (p.1, none))) && (S.Γ.cl.all fun p => decide (p.2 < S.ds.length) && decide (S.ats p.2 = (p.1, some ("__init__" : Str)))) &&
    (S.mt.all fun p => decide (p.2 < S.ds.length) && decide (S.ats p.2 = (p.1.1, some p.1.2)))
def same (d : DefT × He.DefD) : Prop := d.2.name = d.1.nm ∧ d.2.qual = d.1.qual ∧ d.2.params = d.1.params ∧ d.2.body = d.1.body ∧ d.2.scope = d.1.scope ∧ d.2.dfl = [] ∧ d.2.kwd = []
theorem same_def {st : Stmt} {a : Str × Option Str} {q : Str} {ex : List Str} : same (defOf st a q ex) := ⟨rfl, rfl, rfl, rfl, rfl, rfl, rfl⟩
/-- how the arguments bind -/
def BindsTo_ (d : DefT) : Prop := ∀ (kV doc pm : Value) (an : Option Addr) (cdv ct : Value) (us : List Value), us.length = d.ps.length → bindArgs (PySem.W.fnOf d.nm d.qual d.params d.body d.scope .none kV doc pm an cdv ct) ⟨us, []⟩ = pure (d.ps.zip us)
def fdAt (K : PySem.W.Frag) (a : Addr) : FuncData := match K.lookup a with
  | some ⟨_, _, .func fd, _⟩ => fd
  | _ => default
theorem world_of {S : Src} {prog : Program} {w : PySem.World} {K : PySem.W.Frag} {h base : Heap} {mg : Str → Option Value} (KX : K.In h) (G : h.Ns mainGlobals mg) (c : SaysV S.fa S.fn (exB S.Γ) K) (hok : S.ok = true) (hs : ∀ d ∈ S.ds, same d ∧ BindsTo_ d.1) :
    World prog w K mg base S.Γ S.R (S.ds.map (·.1)) (fun i => He.fAd K (S.ats i)) (fun i => fdAt K (He.fAd K (S.ats i))) := by
  have fact : ∀ f ∈ S.fa, f.ok K = true := fun f hf => by
    obtain ⟨i, hi, e⟩ := List.mem_iff_getElem.mp hf
    exact c.d.fact i (f := f) (by rw [List.getElem?_eq_getElem hi, e])
  unfold Src.ok at hok
  simp only [Bool.and_eq_true, List.all_eq_true, decide_eq_true_eq] at hok
  obtain ⟨⟨⟨k1, k2⟩, k3⟩, k4⟩ := hok
  have inA : ∀ {f l1 l2 l3 l4 l5}, S.fa = l1 ++ l2 ++ l3 ++ l4 ++ l5 → (f ∈ l1 ∨ f ∈ l2 ∨ f ∈ l3 ∨ f ∈ l4 ∨ f ∈ l5) → f ∈ S.fa := fun {f l1 l2 l3 l4 l5} e h => by
    rw [e]
    simp only [List.mem_append]
    rcases h with h | h | h | h | h
    · exact .inl (.inl (.inl (.inl h)))
    · exact .inl (.inl (.inl (.inr h)))
    · exact .inl (.inl (.inr h))
    · exact .inl (.inr h)
    · exact .inr h
  have e0 : S.fa = _ := rfl
  have exx := c.ex
  unfold exB at exx
  obtain ⟨x1, x2⟩ := He.ba exx
  refine ⟨rfl, fun i d hd => ?_, fun n t hn => ?_, fun n i hn => ?_, fun n i hn => ?_, fun n id hn => ?_, fun n hn => ?_, fun c0 f hn => ?_, fun c0 q i hn => ?_⟩
  · rw [List.getElem?_map] at hd
    obtain ⟨dd, e1, rfl⟩ := Option.map_eq_some_iff.mp hd
    have hm : dd ∈ S.ds := List.mem_of_getElem? e1
    obtain ⟨⟨s1, s2, s3, s4, s5, s6, s7⟩, hb⟩ := hs dd hm
    have hat : S.ats i = dd.2.at_ := by unfold Src.ats; rw [e1]
    obtain ⟨fd, F⟩ := c.d.def_ i (d := dd.2) (by unfold Src.fn; rw [List.getElem?_map, e1]; rfl)
    have dv : dd.2.dvs K = [] := by unfold He.DefD.dvs; rw [s6]; rfl
    have kw : dd.2.kws K = [] := by unfold He.DefD.kws; rw [s7]; rfl
    rw [s1, s2, s3, s4, s5, dv, kw] at F
    have hfd : fdAt K (He.fAd K (S.ats i)) = fd := by
      obtain ⟨oc, od, dV, kV, doc, pm, an, cdv, ct, osl, _, lk, _⟩ := F.ex
      unfold fdAt
      rw [hat, lk]
    rw [hfd, hat]
    exact ⟨F, scC_ok (k1 dd hm), F.bindsN hb⟩
  · have z := List.all_eq_true.mp x1 (n, t) (mem_lk hn)
    unfold cstB at z
    cases e : PySem.W.nsIn K mainGlobals n with
    | none => simp only [e] at z; cases z
    | some o =>
      cases o with
      | none => simp only [e] at z; cases z
      | some u =>
        simp only [e] at z
        obtain ⟨v, r1, r2⟩ := valB_ok t u z
        exact ⟨v, u, PySem.W.mg_of KX G e, r1, r2⟩
  · have hm := mem_lk hn
    obtain ⟨z1, z2⟩ := k2 _ hm
    refine ⟨?_, by rw [List.length_map]; exact z1⟩
    show mg n = some (.ref (He.fAd K (S.ats i)))
    rw [z2]
    exact He.glo_ok KX G (fact (.glo n) (inA e0 (.inl (List.mem_map.mpr ⟨_, hm, rfl⟩))))
  · have hm := mem_lk hn
    obtain ⟨z1, z2⟩ := k3 _ hm
    refine ⟨?_, ?_, by rw [List.length_map]; exact z1⟩
    · show Mk K (He.ga K n) (He.fAd K (S.ats i))
      rw [z2]
      exact He.mkr_ok (fact (.mkr n) (inA e0 (.inr (.inl (List.mem_flatMap.mpr ⟨_, hm, by simp⟩)))))
    · exact He.glo_ok KX G (fact (.glo n) (inA e0 (.inr (.inl (List.mem_flatMap.mpr ⟨_, hm, by simp⟩)))))
  · have z := List.all_eq_true.mp x2 (n, id) (mem_lk hn)
    exact PySem.W.mg_of KX G (He.eqO_ok z)
  · exact He.free_ok KX G (fact (.free n) (inA e0 (.inr (.inr (.inl (List.mem_map.mpr ⟨n, List.contains_iff_mem.mp hn, rfl⟩))))))
  · have hm : (c0, f) ∈ S.fd := List.contains_iff_mem.mp hn
    exact ⟨He.cls_ok (fact (.cls c0) (inA e0 (.inr (.inr (.inr (.inl (List.mem_flatMap.mpr ⟨_, hm, by simp⟩))))))), He.noat_ok (fact (.noat c0 f) (inA e0 (.inr (.inr (.inr (.inl (List.mem_flatMap.mpr ⟨_, hm, by simp⟩)))))))⟩
  · have hm := mem_lk hn
    obtain ⟨z1, z2⟩ := k4 _ hm
    refine ⟨He.cls_ok (fact (.cls c0) (inA e0 (.inr (.inr (.inr (.inr (List.mem_flatMap.mpr ⟨_, hm, by simp⟩))))))), ?_, by rw [List.length_map]; exact z1⟩
    show Meth K (He.ga K c0) q (He.fAd K (S.ats i))
    rw [z2]
    exact He.meth_ok (fact (.meth c0 q) (inA e0 (.inr (.inr (.inr (.inr (List.mem_flatMap.mpr ⟨_, hm, by simp⟩)))))))
/-! ### the law -/
theorem rep_script {K : PySem.W.Frag} {H : Hp} {a : Addr} {ns : List Int} (nl : ∀ a o, K.lookup a = some o → o.cls ≠ .type "list") (hS : SqL K H a (ns.map V.int)) : Rep K H H (.lst false (ns.map T.int)) (.ref a) nop := by
  rcases hS with h | ⟨o, its, n, h1, h2, _⟩
  · refine .lstF h ?_
    clear h
    induction ns with
    | nil => exact .nil fun _ x => x
    | cons i ns ih => exact .cons (p := nop) (.int fun _ x => x) ih (fun _ x => x.elim) fun b => ⟨.inl, fun x => x.elim id id⟩
  · exact absurd h2 (nl a o h1)
theorem law_of {S : Src} {prog : Program} {w : PySem.World} {K : PySem.W.Frag} {h : Heap} {mg : Str → Option Value} {fa : Addr} {lw : Nat} {d : DefT × He.DefD} {x : Str} {n N : Nat} (KX : K.In h) (G : h.Ns mainGlobals mg) (c : SaysV S.fa S.fn (exB S.Γ) K) (hok : S.ok = true)
    (hs : ∀ d ∈ S.ds, same d ∧ BindsTo_ d.1) (hd : S.ds[lw]? = some d) (hat : d.2.at_ = (("law" : Str), none)) (hps : d.1.ps = [x]) (hmg : mg ("law" : Str) = some (.ref fa)) (hgl : S.Γ.fs.lookup ("law" : Str) = some lw)
    (main : ∀ ns : List Int, ns.length ≤ n → ∃ ts', callF S.R N lw [.lst false (ns.map T.int)] = some (.bl true, ts')) :
    ∃ (K : PySem.W.Frag) (fd : FuncData) (sp : Sp), K.In h ∧ (∀ (s : Shared) (u : Value), BindsTo s fd ⟨[u], []⟩ [(x, u)]) ∧
        (∀ (H : Hp) (a : Addr) (ns : List Int), ns.length ≤ n → Only H → SqL K H a (ns.map V.int) → sp [.ref a] H (fun v _ => v = .bl true) fun _ _ _ => False) ∧
        ∀ base : Heap, K.In base → base.Ns mainGlobals mg → FnOk prog w K mg base CX0 (2 * N) fa fd [x] sp := by
  have W := fun base : Heap => world_of (prog := prog) (w := w) (base := base) KX G c hok hs
  have hd1 : (S.ds.map (·.1))[lw]? = some d.1 := by rw [List.getElem?_map, hd]; rfl
  have fae : He.fAd K (S.ats lw) = fa := by
    have := ((W h).fns "law" lw hgl).1
    rw [hmg] at this
    exact (Value.ref.inj (Option.some.inj this)).symm
  refine ⟨K, fdAt K (He.fAd K (S.ats lw)), spF K (callF S.R N lw), KX, fun s u => ?_, fun H a ns hl hO hS => ?_, fun base _ _ => ?_⟩
  · have b := (((W h).def_ lw d.1 hd1).1).bindsA (ps := d.1.ps) (hs d (List.mem_of_getElem? hd)).2 s [u] (by rw [hps]; rfl)
    rw [hps] at b
    exact b
  · obtain ⟨ts', e⟩ := main ns hl
    exact ⟨H, [.lst false (ns.map T.int)], nop, .bl true, ts', Evl.Ex.refl H, Reps.one (rep_script c.nl hS), e, fun v F' H' pv p' _ _ R _ _ => R.bl'.1⟩
  · have := (fns_ok (W base) N lw d.1 hd1).1
    rw [hps] at this
    rw [← fae]
    exact this
end Pv

/-! What the evaluator says with less known of the calls, it says with more. -/
namespace Pv
open PySem
def Le {α : Type} (a b : Option α) : Prop := ∀ r, a = some r → b = some r
section
variable {α β : Type} {a b : Option α}
theorem Le.refl : Le a a := fun _ h => h
theorem Le.none : Le (none : Option α) b := fun _ h => by cases h
theorem Le.bind {f g : α → Option β} (h : Le a b) (k : ∀ x, Le (f x) (g x)) : Le (a.bind f) (b.bind g) := fun r e => by
  obtain ⟨x, e1, e2⟩ := Option.bind_eq_some_iff.mp e
  rw [h x e1]
  exact k x r e2
theorem Le.ite {c : Prop} [Decidable c] {a b a' b' : Option α} (h1 : Le a a') (h2 : Le b b') : Le (if c then a else b) (if c then a' else b') := by
  by_cases h : c
  · rw [if_pos h, if_pos h]; exact h1
  · rw [if_neg h, if_neg h]; exact h2
end
theorem setGs_fd {m : Str → Str → Option Nat} {f : Str → Str → Bool} {c c' : CF} : ∀ {gs : List G0} {ts : List T} {sl : SL}, setGs ⟨c, m, f⟩ gs ts sl = setGs ⟨c', m, f⟩ gs ts sl
  | [], [], _ => rfl
  | [], _ :: _, _ => rfl
  | _ :: _, [], _ => rfl
  | g :: gs, t :: ts, sl => by
    show (setG0 ⟨c, m, f⟩ g t sl).bind (fun sl => setGs ⟨c, m, f⟩ gs ts sl) = (setG0 ⟨c', m, f⟩ g t sl).bind (fun sl => setGs ⟨c', m, f⟩ gs ts sl)
    have e : setG0 ⟨c, m, f⟩ g t sl = setG0 ⟨c', m, f⟩ g t sl := by cases g <;> rfl
    rw [e]
    congr 1
    funext sl
    exact setGs_fd
theorem setG_fd {m : Str → Str → Option Nat} {f : Str → Str → Bool} {c c' : CF} {g : G} {t : T} {sl : SL} : setG ⟨c, m, f⟩ g t sl = setG ⟨c', m, f⟩ g t sl := by
  cases g with
  | one g => cases g <;> rfl
  | tp gs => cases t <;> first | rfl | exact setGs_fd
theorem bor2_le {vs : List Nat} {f g : SL → Option (T × SL)} {sl : SL} (h : ∀ sl, Le (f sl) (g sl)) : Le (bor2 vs f sl) (bor2 vs g sl) := Le.ite ((h _).bind fun _ => Le.refl) ((h _).bind fun _ => Le.refl)
theorem lcGo_le {set : T → SL → Option SL} {c c' e e' : SL → Option (T × SL)} {wp : SL → SL} (hc : ∀ sl, Le (c sl) (c' sl)) (he : ∀ sl, Le (e sl) (e' sl)) : ∀ {xs : List T} {sl : SL} {acc : List T}, Le (lcGo set c e wp xs sl acc) (lcGo set c' e' wp xs sl acc)
  | [], _, _ => Le.refl
  | x :: xs, sl, acc => by
    unfold lcGo
    refine Le.refl.bind fun sl1 => (hc sl1).bind fun r => ?_
    obtain ⟨t, s⟩ := r
    cases t <;> first | exact Le.refl | skip
    rename_i b
    cases b with
    | false => exact lcGo_le hc he
    | true => exact (he s).bind fun r2 => Le.ite (lcGo_le hc he) Le.refl
section
variable {mt : Str → Str → Option Nat} {fd : Str → Str → Bool} {c c' : CF} (H : ∀ f ts, Le (c f ts) (c' f ts))
include H
mutual
theorem ev_le : ∀ (e : E) (m : Md) (sl : SL), Le (ev ⟨c, mt, fd⟩ m e sl) (ev ⟨c', mt, fd⟩ m e sl)
  | .var i, m, sl => by simp only [ev]; exact Le.refl
  | .mov i, m, sl => by simp only [ev]; exact Le.refl
  | .cst t, m, sl => by simp only [ev]; exact Le.refl
  | .glb x t, m, sl => by simp only [ev]; exact Le.refl
  | .op1 o a, m, sl => by simp only [ev]; exact (ev_le a .o sl).bind fun _ => Le.refl
  | .op2 o a b, m, sl => by
    simp only [ev]
    exact (ev_le a .o sl).bind fun r => (Le.ite ((ev_le b .o _).bind fun _ => Le.refl) (ev_le b .o _)).bind fun _ => Le.refl
  | .idx a b, m, sl => by
    simp only [ev]
    exact (ev_le a .o sl).bind fun r => (Le.ite ((ev_le b .o _).bind fun _ => Le.refl) (ev_le b .o _)).bind fun _ => Le.refl
  | .slc a b d, m, sl => by simp only [ev]; exact Le.refl
  | .bad, m, sl => by simp only [ev]; exact Le.refl
  | .frzp e pl, m, sl => by
    cases m <;> simp only [ev]
    · exact ev_le e .o sl
    · exact (ev_le e .o sl).bind fun r => Le.ite Le.refl ((plc_le pl sl).bind fun _ => Le.refl)
    · exact ev_le e .t sl
  | .dnew, m, sl => by simp only [ev]; exact Le.refl
  | .fld a f, m, sl => by simp only [ev]; exact (ev_le a .o sl).bind fun _ => Le.refl
  | .nt a, m, sl => by
    cases m <;> simp only [ev]
    · exact (ev_le a .o sl).bind fun _ => Le.refl
    · exact (ev_le a .o sl).bind fun _ => Le.refl
    · exact (ev_le a .t sl).bind fun _ => Le.refl
  | .an a b, m, sl => by
    cases m <;> simp only [ev]
    · exact (ev_le a .e sl).bind fun r => Le.refl.bind fun k => Le.ite (ev_le b .e _) Le.refl
    · exact (ev_le a .e sl).bind fun r => Le.refl.bind fun k => Le.ite (ev_le b .e _) Le.refl
    · refine (ev_le a .t sl).bind fun r => ?_
      obtain ⟨t, s⟩ := r
      cases t <;> first | exact Le.refl | skip
      rename_i k
      cases k <;> first | exact Le.refl | exact ev_le b .t s
  | .orr a b, m, sl => by
    cases m <;> simp only [ev]
    · exact (ev_le a .e sl).bind fun r => Le.refl.bind fun k => Le.ite Le.refl (ev_le b .e _)
    · exact (ev_le a .e sl).bind fun r => Le.refl.bind fun k => Le.ite Le.refl (ev_le b .e _)
    · refine (ev_le a .t sl).bind fun r => ?_
      obtain ⟨t, s⟩ := r
      cases t <;> first | exact Le.refl | skip
      rename_i k
      cases k <;> first | exact Le.refl | exact ev_le b .t s
  | .ite d a b, m, sl => by
    have main : Le ((ev ⟨c, mt, fd⟩ .t d sl).bind fun r => match r.1 with
        | .bl true => ev ⟨c, mt, fd⟩ .e a r.2
        | .bl false => ev ⟨c, mt, fd⟩ .e b r.2
        | _ => none) ((ev ⟨c', mt, fd⟩ .t d sl).bind fun r => match r.1 with
        | .bl true => ev ⟨c', mt, fd⟩ .e a r.2
        | .bl false => ev ⟨c', mt, fd⟩ .e b r.2
        | _ => none) := by
      refine (ev_le d .t sl).bind fun r => ?_
      obtain ⟨t, s⟩ := r
      cases t <;> first | exact Le.refl | skip
      rename_i k
      cases k
      · exact ev_le b .e s
      · exact ev_le a .e s
    cases m <;> simp only [ev]
    · exact main
    · exact main
    · exact Le.refl
  | .chn a d, m, sl => by simp only [ev]; exact (ev_le a .e sl).bind fun r => (evC_le d r.1 r.2).bind fun _ => Le.refl
  | .tup es, m, sl => by simp only [ev]; exact (evL_le es sl).bind fun _ => Le.refl
  | .lst es, m, sl => by simp only [ev]; exact (evL_le es sl).bind fun _ => Le.refl
  | .call f es, m, sl => by simp only [ev]; exact (evA_le es sl).bind fun r => (H f r.1).bind fun _ => Le.refl
  | .mk d f es, m, sl => by simp only [ev]; exact (evA_le es sl).bind fun r => (H f _).bind fun _ => Le.refl
  | .meth i q es, m, sl => by
    simp only [ev]
    refine Le.refl.bind fun t0 => ?_
    cases t0 <;> first | exact Le.refl | skip
    refine Le.ite Le.refl (Le.refl.bind fun f => (evA_le es sl).bind fun r => Le.refl.bind fun t => Le.ite ((H f _).bind fun _ => Le.refl) ((H f _).bind fun _ => Le.refl))
  | .mut i q es, m, sl => by simp only [ev]; exact Le.refl.bind fun t0 => Le.ite ((evL_le es sl).bind fun _ => Le.refl) Le.refl
  | .mutp a q es, m, sl => by simp only [ev]; exact (plc_le a sl).bind fun y => Le.ite ((evBs_le es sl).bind fun _ => Le.refl) Le.refl
  | .lc own g it d e, m, sl => by
    simp only [ev]
    refine (evI_le it sl).bind fun r => Le.ite (Le.bind ?_ fun _ => Le.refl) Le.refl
    have e0 : setG ⟨c, mt, fd⟩ g = setG ⟨c', mt, fd⟩ g := by funext t sl; exact setG_fd
    rw [e0]
    exact lcGo_le (fun sl => ev_le d .t sl) fun sl => ev_le e .e sl
theorem evC_le : ∀ (d : Ch) (t : T) (sl : SL), Le (evC ⟨c, mt, fd⟩ t d sl) (evC ⟨c', mt, fd⟩ t d sl)
  | .last o e, t, sl => by simp only [evC]; exact (ev_le e .e sl).bind fun _ => Le.refl
  | .more o e d, t, sl => by
    simp only [evC]
    refine (ev_le e .e sl).bind fun r => Le.refl.bind fun z => ?_
    cases z <;> first | exact Le.refl | skip
    rename_i k
    cases k <;> first | exact Le.refl | exact evC_le d _ _
theorem evL_le : ∀ (es : Es) (sl : SL), Le (evL ⟨c, mt, fd⟩ es sl) (evL ⟨c', mt, fd⟩ es sl)
  | .nil, sl => by simp only [evL]; exact Le.refl
  | .cons e es, sl => by simp only [evL]; exact (ev_le e .e sl).bind fun r => (evL_le es r.2).bind fun _ => Le.refl
theorem evBs_le : ∀ (es : Es) (sl : SL), Le (evBs ⟨c, mt, fd⟩ es sl) (evBs ⟨c', mt, fd⟩ es sl)
  | .nil, sl => by simp only [evBs]; exact Le.refl
  | .cons e es, sl => by simp only [evBs]; exact (bor2_le fun sl => ev_le e .e sl).bind fun r => (evBs_le es sl).bind fun _ => Le.refl
theorem evA_le : ∀ (es : Es) (sl : SL), Le (evA ⟨c, mt, fd⟩ es sl) (evA ⟨c', mt, fd⟩ es sl)
  | .nil, sl => by simp only [evA]; exact Le.refl
  | .cons e es, sl => by
    by_cases hv : isVar e = true
    · cases e <;> first | (cases hv; done) | skip
      simp only [evA]
      exact Le.refl.bind fun t => Le.ite ((evA_le es _).bind fun _ => Le.refl) ((evA_le es _).bind fun _ => Le.refl)
    · have hv : isVar e = false := by simpa using hv
      rw [evA_gen hv, evA_gen hv]
      exact (ev_le e .e sl).bind fun r => (evA_le es r.2).bind fun _ => Le.refl
theorem plc_le : ∀ (e : E) (sl : SL), Le (plc ⟨c, mt, fd⟩ e sl) (plc ⟨c', mt, fd⟩ e sl)
  | .var i, sl => by simp only [plc]; exact Le.refl
  | .fld a f, sl => by simp only [plc]; exact (plc_le a sl).bind fun _ => Le.refl
  | .idx a b, sl => by simp only [plc]; exact (plc_le a sl).bind fun z => (ev_le b .o _).bind fun _ => Le.refl
  | .mov _, sl => by simp only [plc]; exact Le.refl
  | .cst _, sl => by simp only [plc]; exact Le.refl
  | .glb _ _, sl => by simp only [plc]; exact Le.refl
  | .op1 _ _, sl => by simp only [plc]; exact Le.refl
  | .op2 _ _ _, sl => by simp only [plc]; exact Le.refl
  | .slc _ _ _, sl => by simp only [plc]; exact Le.refl
  | .bad, sl => by simp only [plc]; exact Le.refl
  | .frzp _ _, sl => by simp only [plc]; exact Le.refl
  | .dnew, sl => by simp only [plc]; exact Le.refl
  | .nt _, sl => by simp only [plc]; exact Le.refl
  | .an _ _, sl => by simp only [plc]; exact Le.refl
  | .orr _ _, sl => by simp only [plc]; exact Le.refl
  | .ite _ _ _, sl => by simp only [plc]; exact Le.refl
  | .chn _ _, sl => by simp only [plc]; exact Le.refl
  | .tup _, sl => by simp only [plc]; exact Le.refl
  | .lst _, sl => by simp only [plc]; exact Le.refl
  | .call _ _, sl => by simp only [plc]; exact Le.refl
  | .mk _ _ _, sl => by simp only [plc]; exact Le.refl
  | .meth _ _ _, sl => by simp only [plc]; exact Le.refl
  | .mut _ _ _, sl => by simp only [plc]; exact Le.refl
  | .mutp _ _ _, sl => by simp only [plc]; exact Le.refl
  | .lc _ _ _ _ _, sl => by simp only [plc]; exact Le.refl
theorem evI_le : ∀ (it : Pv.It) (sl : SL), Le (evI ⟨c, mt, fd⟩ it sl) (evI ⟨c', mt, fd⟩ it sl)
  | .seq e, sl => by simp only [evI]; exact (ev_le e .e sl).bind fun _ => Le.refl
  | .rng1 a, sl => by simp only [evI]; exact (ev_le a .e sl).bind fun _ => Le.refl
  | .rng2 a b, sl => by simp only [evI]; exact (ev_le a .e sl).bind fun r => (ev_le b .e r.2).bind fun _ => Le.refl
  | .rng3 a b d, sl => by simp only [evI]; exact (ev_le a .e sl).bind fun r => (ev_le b .e r.2).bind fun r2 => (ev_le d .e r2.2).bind fun _ => Le.refl
  | .enum e, sl => by simp only [evI]; exact (ev_le e .e sl).bind fun _ => Le.refl
  | .zip a b, sl => by simp only [evI]; exact (ev_le a .e sl).bind fun r => (ev_le b .e r.2).bind fun _ => Le.refl
  | .rev e, sl => by simp only [evI]; exact (ev_le e .e sl).bind fun _ => Le.refl
  | .bad, sl => by simp only [evI]; exact Le.refl
end
omit H in
theorem whlGo_le {d d' : SL → Option (T × SL)} {b b' : SL → Out} (hd : ∀ sl, Le (d sl) (d' sl)) (hb : ∀ sl, Le (b sl) (b' sl)) : ∀ (n : Nat) (sl : SL), Le (whlGo d b n sl) (whlGo d' b' n sl)
  | 0, _ => Le.refl
  | n + 1, sl => by
    unfold whlGo
    refine (hd sl).bind fun r => ?_
    obtain ⟨t, s⟩ := r
    cases t <;> first | exact Le.refl | skip
    rename_i k
    cases k with
    | false => exact Le.refl
    | true =>
      refine (hb s).bind fun z => ?_
      obtain ⟨fl, s2⟩ := z
      cases fl <;> first | exact Le.refl | exact whlGo_le hd hb n s2
omit H in
theorem forGo_le {set : T → SL → Option SL} {b b' : SL → Out} (hb : ∀ sl, Le (b sl) (b' sl)) : ∀ (xs : List T) (sl : SL), Le (forGo set b xs sl) (forGo set b' xs sl)
  | [], _ => Le.refl
  | x :: xs, sl => by
    unfold forGo
    refine Le.refl.bind fun s => (hb s).bind fun z => ?_
    obtain ⟨fl, s2⟩ := z
    cases fl <;> first | exact Le.refl | exact forGo_le hb xs s2
mutual
theorem evS_le : ∀ (s : S) (sl : SL), Le (evS ⟨c, mt, fd⟩ s sl) (evS ⟨c', mt, fd⟩ s sl)
  | .asg g e, sl => by
    simp only [evS]
    refine (ev_le H e .e sl).bind fun r => ?_
    rw [setG_fd (c := c) (c' := c')]
    exact Le.refl
  | .par is es, sl => by simp only [evS]; exact (evL_le H es sl).bind fun _ => Le.refl
  | .aug i o e, sl => by simp only [evS]; exact Le.refl.bind fun t => (ev_le H e .e sl).bind fun _ => Le.refl
  | .faug r f o e, sl => by
    simp only [evS]
    refine Le.refl.bind fun t => ?_
    cases t <;> first | exact Le.refl | skip
    rename_i ob _ _ _
    cases ob <;> first | exact Le.refl | skip
    exact Le.bind Le.refl fun x => (ev_le H e .o _).bind fun _ => Le.refl
  | .pst pl k e, sl => by simp only [evS]; exact (ev_le H e .e sl).bind fun z => (plc_le H pl z.2).bind fun y => (ev_le H k .o _).bind fun _ => Le.refl
  | .paug pl k o e, sl => by
    simp only [evS]
    refine (plc_le H pl sl).bind fun y => (ev_le H k .o _).bind fun zk => ?_
    obtain ⟨t, pt⟩ := y
    obtain ⟨t2, s2⟩ := zk
    cases t <;> first | exact Le.refl | skip
    rename_i ob _
    cases ob <;> first | exact Le.refl | skip
    cases t2 <;> first | exact Le.refl | skip
    exact Le.bind Le.refl fun j => Le.bind Le.refl fun x => (ev_le H e .o _).bind fun _ => Le.refl
  | .exp e, sl => by simp only [evS]; exact (ev_le H e .e sl).bind fun _ => Le.refl
  | .ret e, sl => by simp only [evS]; exact (ev_le H e .e sl).bind fun _ => Le.refl
  | .retn, sl => by simp only [evS]; exact Le.refl
  | .pass, sl => by simp only [evS]; exact Le.refl
  | .bad, sl => by simp only [evS]; exact Le.refl
  | .brk, sl => by simp only [evS]; exact Le.refl
  | .cnt, sl => by simp only [evS]; exact Le.refl
  | .iff d a b, sl => by
    simp only [evS]
    refine (ev_le H d .t sl).bind fun r => ?_
    obtain ⟨t, s⟩ := r
    cases t <;> first | exact Le.refl | skip
    rename_i k
    cases k
    · exact evSs_le b s
    · exact evSs_le a s
  | .whl d a, sl => by simp only [evS]; exact whlGo_le (fun sl => ev_le H d .t sl) (fun sl => evSs_le a sl) _ _
  | .forr g it a, sl => by
    simp only [evS]
    refine (evI_le H it sl).bind fun r => ?_
    have e0 : setG ⟨c, mt, fd⟩ g = setG ⟨c', mt, fd⟩ g := by funext t sl; exact setG_fd
    rw [e0]
    exact forGo_le (fun sl => evSs_le a sl) _ _
theorem evSs_le : ∀ (ss : Ss) (sl : SL), Le (evSs ⟨c, mt, fd⟩ ss sl) (evSs ⟨c', mt, fd⟩ ss sl)
  | .nil, sl => by simp only [evSs]; exact Le.refl
  | .cons s ss, sl => by
    simp only [evSs]
    refine (evS_le s sl).bind fun z => ?_
    obtain ⟨fl, s2⟩ := z
    cases fl <;> first | exact Le.refl | exact evSs_le ss s2
end
theorem runF_le {f : Fn} {ts : List T} : Le (runF ⟨c, mt, fd⟩ f ts) (runF ⟨c', mt, fd⟩ f ts) := by
  unfold runF
  exact Le.ite ((evSs_le H f.body _).bind fun _ => Le.refl) Le.refl
end
/-- more calls deep -/
theorem callF_le {R : Prg} : ∀ {n : Nat} {f : Nat} {ts : List T}, Le (callF R n f ts) (callF R (n + 1) f ts)
  | 0, _, _ => Le.none
  | n + 1, f, ts => Le.refl.bind fun fn => runF_le fun f ts => callF_le
theorem callF_add {R : Prg} {n : Nat} {f : Nat} {ts : List T} : ∀ k, Le (callF R n f ts) (callF R (n + k) f ts)
  | 0 => Le.refl
  | k + 1 => fun r h => callF_le r (callF_add k r h)
theorem callF_mono {R : Prg} {n m : Nat} (h : n ≤ m) {f : Nat} {ts : List T} : Le (callF R n f ts) (callF R m f ts) := by
  obtain ⟨k, rfl⟩ := Nat.exists_eq_add_of_le h
  exact callF_add k
/-- a call by what is known of the calls in it -/
theorem call_by {R : Prg} {C : CF} {n f : Nat} {fn : Fn} {ts : List T} {r : T × List T} (hf : R.fns[f]? = some fn) (hC : ∀ f ts, Le (C f ts) (callF R n f ts)) (h : runF ⟨C, fun c m => R.mt.lookup (c, m), fun c f => R.fd.contains (c, f)⟩ fn ts = some r) : callF R (n + 1) f ts = some r := by
  show ((R.fns[f]?).bind fun fn => runF ⟨callF R n, fun c m => R.mt.lookup (c, m), fun c f => R.fd.contains (c, f)⟩ fn ts) = some r
  rw [hf]
  exact runF_le hC r h
end Pv

/-! Running by simp. -/
namespace Pv
open PySem
section
variable {P : Pg} {sl : SL} {i j : Int} {a b : Bool} {t u : T} {n : Nat}
@[simp] theorem look_hole : look (.hole :: sl) 0 = none := rfl
@[simp] theorem look_non : look (.non :: sl) 0 = some .non := rfl
@[simp] theorem look_bl : look (.bl a :: sl) 0 = some (.bl a) := rfl
@[simp] theorem look_int : look (.int i :: sl) 0 = some (.int i) := rfl
@[simp] theorem look_str {x : Str} : look (.str x :: sl) 0 = some (.str x) := rfl
@[simp] theorem look_tup {ts : List T} : look (.tup ts :: sl) 0 = some (.tup ts) := rfl
@[simp] theorem look_lst {o : Bool} {ts : List T} : look (.lst o ts :: sl) 0 = some (.lst o ts) := rfl
@[simp] theorem look_ins {o : Bool} {c : Str} {ns : List Str} {ts : List T} : look (.ins o c ns ts :: sl) 0 = some (.ins o c ns ts) := rfl
@[simp] theorem look_dct {o k : Bool} {ks : List (List L2.Key)} {ts : List T} : look (.dct o k ks ts :: sl) 0 = some (.dct o k ks ts) := rfl
@[simp] theorem look_suc : look (t :: sl) (n + 1) = look sl n := rfl
theorem look_of (h : isHole t = false) : look (t :: sl) 0 = some t := by cases t <;> first | rfl | cases h
@[simp] theorem fin_o {p : Bool} : fin .o p t sl = some (t, sl) := rfl
@[simp] theorem fin_e : fin .e false t sl = some (t, sl) := rfl
@[simp] theorem fin_ep (h : isF t = true) : fin .e true t sl = some (t, sl) := by unfold fin; simp [h]
@[simp] theorem fin_ep_int : fin .e true (.int i) sl = some (.int i, sl) := rfl
@[simp] theorem fin_ep_bl : fin .e true (.bl a) sl = some (.bl a, sl) := rfl
@[simp] theorem fin_ep_str {x : Str} : fin .e true (.str x) sl = some (.str x, sl) := rfl
@[simp] theorem fin_ep_non : fin .e true .non sl = some (.non, sl) := rfl
@[simp] theorem fin_t_bl {p : Bool} : fin .t p (.bl a) sl = some (.bl a, sl) := rfl
@[simp] theorem fin_t_int {p : Bool} : fin .t p (.int i) sl = some (.bl (i != 0), sl) := rfl
@[simp] theorem op2_add : op2 .add (.int i) (.int j) = some (.int (i + j)) := rfl
@[simp] theorem op2_sub : op2 .sub (.int i) (.int j) = some (.int (i - j)) := rfl
theorem op2_mul (h : mulOk i j = true) : op2 .mul (.int i) (.int j) = some (.int (i * j)) := if_pos h
theorem op2_fdiv (h : 0 < j) (h2 : j.natAbs.log2 < 9000) : op2 .fdiv (.int i) (.int j) = some (.int (i / j)) := if_pos (by simp [h, h2])
theorem op2_mod (h : 0 < j) : op2 .mod (.int i) (.int j) = some (.int (i % j)) := if_pos (by simp [h])
@[simp] theorem op2_lt : op2 .lt (.int i) (.int j) = some (.bl (decide (i < j))) := rfl
@[simp] theorem op2_le : op2 .le (.int i) (.int j) = some (.bl (decide (i ≤ j))) := rfl
@[simp] theorem op2_gt : op2 .gt (.int i) (.int j) = some (.bl (decide (j < i))) := rfl
@[simp] theorem op2_ge : op2 .ge (.int i) (.int j) = some (.bl (decide (j ≤ i))) := rfl
@[simp] theorem op2_min : op2 .min2 (.int i) (.int j) = some (.int (if j < i then j else i)) := rfl
@[simp] theorem op2_max : op2 .max2 (.int i) (.int j) = some (.int (if j > i then j else i)) := rfl
@[simp] theorem op2_gcd : op2 .gcd (.int i) (.int j) = some (.int ((Nat.gcd i.natAbs j.natAbs : Nat) : Int)) := rfl
@[simp] theorem op2_eqT : op2 .eq t u = (eqT t u).map .bl := by cases t <;> rfl
@[simp] theorem op2_neT : op2 .ne t u = (eqT t u).map fun b => .bl (!b) := by cases t <;> rfl
@[simp] theorem op2_isN : op2 .isS t .non = (isNon t).map .bl := by cases t <;> rfl
@[simp] theorem op2_notN : op2 .notS t .non = (isNon t).map fun b => .bl (!b) := by cases t <;> rfl
@[simp] theorem op2_isB : op2 .isS (.bl a) (.bl b) = some (.bl (decide (a = b))) := rfl
theorem op2_comb (h1 : 0 ≤ i) (h2 : 0 ≤ j) (h3 : i ≤ 18000) : op2 .comb (.int i) (.int j) = some (.int (PySem.W.mcComb i j)) := if_pos (by simp [h1, h2, h3])
theorem op2_pow (h1 : 0 ≤ j) (h2 : j ≤ 1000000) (h3 : i.natAbs < 2 ^ 64) : op2 .pow (.int i) (.int j) = some (.int (i ^ j.toNat)) := if_pos (by simp [h1, h2]; exact h3)
@[simp] theorem iop_add : iop .add (.int i) (.int j) = some (.int (i + j)) := rfl
@[simp] theorem iop_sub : iop .sub (.int i) (.int j) = some (.int (i - j)) := rfl
@[simp] theorem op1_neg : op1 .neg (.int i) = some (.int (-i)) := rfl
@[simp] theorem op1_abs : op1 .abs (.int i) = some (.int (if i < 0 then -i else i)) := rfl
@[simp] theorem op1_int : op1 .int (.int i) = some (.int i) := rfl
@[simp] theorem op1_intb : op1 .int (.bl a) = some (.int (if a then 1 else 0)) := rfl
@[simp] theorem op1_len {o : Bool} {ts : List T} : op1 .len (.lst o ts) = some (.int ts.length) := rfl
@[simp] theorem op1_lent {ts : List T} : op1 .len (.tup ts) = some (.int ts.length) := rfl
theorem op1_list {o : Bool} {ts : List T} (h : isFs ts = true) : op1 .list (.lst o ts) = some (.lst true ts) := if_pos h
theorem op1_listt {ts : List T} (h : isFs ts = true) : op1 .list (.tup ts) = some (.lst true ts) := if_pos h
@[simp] theorem eqT_int : eqT (.int i) (.int j) = some (decide (i = j)) := by
  unfold eqT pd
  simp only [SeqAt.shaped, Bool.and_self, if_true]
  rfl
@[simp] theorem eqT_bl : eqT (.bl a) (.bl b) = some (decide (a = b)) := by
  cases a <;> cases b <;> rfl
@[simp] theorem tru_int : tru (.int i) = some (i != 0) := rfl
@[simp] theorem tru_bl : tru (.bl a) = some a := rfl
@[simp] theorem frz_int : frz (.int i) = .int i := by simp only [frz]
@[simp] theorem frz_bl : frz (.bl a) = .bl a := by simp only [frz]
@[simp] theorem frz_str {x : Str} : frz (.str x) = .str x := by simp only [frz]
@[simp] theorem frz_non : frz .non = .non := by simp only [frz]
@[simp] theorem frz_hole : frz .hole = .hole := by simp only [frz]
@[simp] theorem frz_tup {ts : List T} : frz (.tup ts) = .tup (frzs ts) := by simp only [frz]
@[simp] theorem frz_lst {o : Bool} {ts : List T} : frz (.lst o ts) = .lst false (frzs ts) := by simp only [frz]
@[simp] theorem frzs_nil : frzs [] = [] := by simp only [frzs]
@[simp] theorem frzs_cons {ts : List T} : frzs (t :: ts) = frz t :: frzs ts := by simp only [frzs]
@[simp] theorem isF_int : isF (.int i) = true := by simp only [isF]
@[simp] theorem isF_bl : isF (.bl a) = true := by simp only [isF]
@[simp] theorem isF_str {x : Str} : isF (.str x) = true := by simp only [isF]
@[simp] theorem isF_non : isF .non = true := by simp only [isF]
@[simp] theorem isF_hole : isF .hole = false := by simp only [isF]
@[simp] theorem isF_tup {ts : List T} : isF (.tup ts) = isFs ts := by simp only [isF]
@[simp] theorem isF_lst {o : Bool} {ts : List T} : isF (.lst o ts) = (!o && isFs ts) := by simp only [isF]
@[simp] theorem isF_ins {o : Bool} {c : Str} {ns : List Str} {ts : List T} : isF (.ins o c ns ts) = (!o && isFs ts) := by simp only [isF]
@[simp] theorem isFs_nil : isFs [] = true := by simp only [isFs]
@[simp] theorem isFs_cons {ts : List T} : isFs (t :: ts) = (isF t && isFs ts) := by simp only [isFs]
@[simp] theorem frz_ins {o : Bool} {c : Str} {ns : List Str} {ts : List T} : frz (.ins o c ns ts) = .ins false c ns (frzs ts) := by simp only [frz]
@[simp] theorem isHole_hole : isHole .hole = true := rfl
@[simp] theorem pgOf_cf {R : Prg} : (pgOf R n).cf = callF R n := rfl
@[simp] theorem pgOf_mt {R : Prg} {c m : Str} : (pgOf R n).mt c m = R.mt.lookup (c, m) := rfl
theorem okN_of (h : n < 10000000) : okN n = true := decide_eq_true h
theorem mulOk_tiny (h : i.natAbs < 2 ^ 59) : mulOk i j = true := by
  have : i.natAbs.log2 < 60 := by
    by_cases z : i.natAbs = 0
    · rw [z]; decide
    · exact Nat.lt_of_lt_of_le ((Nat.log2_lt z).mpr h) (by decide)
  simp [mulOk, tinyI, this]
theorem log2_of (h : i.natAbs < 2 ^ 59) : i.natAbs.log2 < 9000 := by
  by_cases z : i.natAbs = 0
  · rw [z]; decide
  · exact Nat.lt_of_lt_of_le ((Nat.log2_lt z).mpr h) (by decide)
end
/-- one call opened -/
theorem callF_open {R : Prg} {n f : Nat} {fn : Fn} {ts : List T} (h : R.fns[f]? = some fn) : callF R (n + 1) f ts = runF (pgOf R n) fn ts := by
  show ((R.fns[f]?).bind fun fn => runF _ fn ts) = _
  rw [h]; rfl
end Pv

/-! Loops, run by an invariant. -/
namespace Pv
open PySem
/-- a while: I by a measure, Q at its end -/
theorem whlGo_inv {c : SL → Option (T × SL)} {b : SL → Out} (I : Nat → SL → Prop) (Q : Fl → SL → Prop)
    (h : ∀ m sl, I m sl → ∃ k sl1, c sl = some (.bl k, sl1) ∧ (k = false → Q .nx sl1) ∧ (k = true → ∃ fl sl2, b sl1 = some (fl, sl2) ∧ (match fl with
      | .nx => ∃ m', m' < m ∧ I m' sl2
      | .ct => ∃ m', m' < m ∧ I m' sl2
      | .bk => Q .nx sl2
      | .rt t => Q (.rt t) sl2))) : ∀ (n m : Nat) (sl : SL), m < n → I m sl → ∃ fl sl', whlGo c b n sl = some (fl, sl') ∧ Q fl sl'
  | 0, _, _, h0, _ => absurd h0 (Nat.not_lt_zero _)
  | n + 1, m, sl, hm, i => by
    obtain ⟨k, sl1, e1, h1, h2⟩ := h m sl i
    cases k with
    | false => exact ⟨.nx, sl1, by unfold whlGo; rw [e1]; rfl, h1 rfl⟩
    | true =>
      obtain ⟨fl, sl2, e2, h3⟩ := h2 rfl
      cases fl with
      | nx =>
        obtain ⟨m', hm', i'⟩ := h3
        obtain ⟨fl, sl', e3, q⟩ := whlGo_inv I Q h n m' sl2 (by omega) i'
        exact ⟨fl, sl', by unfold whlGo; rw [e1]; show ((b sl1).bind _) = _; rw [e2]; exact e3, q⟩
      | ct =>
        obtain ⟨m', hm', i'⟩ := h3
        obtain ⟨fl, sl', e3, q⟩ := whlGo_inv I Q h n m' sl2 (by omega) i'
        exact ⟨fl, sl', by unfold whlGo; rw [e1]; show ((b sl1).bind _) = _; rw [e2]; exact e3, q⟩
      | bk => exact ⟨.nx, sl2, by unfold whlGo; rw [e1]; show ((b sl1).bind _) = _; rw [e2]; rfl, h3⟩
      | rt t => exact ⟨.rt t, sl2, by unfold whlGo; rw [e1]; show ((b sl1).bind _) = _; rw [e2]; rfl, h3⟩
/-- a for: I by the turn -/
theorem forGo_inv {set : T → SL → Option SL} {b : SL → Out} (I : List T → SL → Prop) (Q : Fl → SL → Prop)
    (h : ∀ x xs sl, I (x :: xs) sl → ∃ sl1 fl sl2, set x sl = some sl1 ∧ b sl1 = some (fl, sl2) ∧ (match fl with
      | .nx => I xs sl2
      | .ct => I xs sl2
      | .bk => Q .nx sl2
      | .rt t => Q (.rt t) sl2)) (h0 : ∀ sl, I [] sl → Q .nx sl) : ∀ (xs : List T) (sl : SL), I xs sl → ∃ fl sl', forGo set b xs sl = some (fl, sl') ∧ Q fl sl'
  | [], sl, i => ⟨.nx, sl, rfl, h0 sl i⟩
  | x :: xs, sl, i => by
    obtain ⟨sl1, fl, sl2, e1, e2, h3⟩ := h x xs sl i
    cases fl with
    | nx =>
      obtain ⟨fl, sl', e3, q⟩ := forGo_inv I Q h h0 xs sl2 h3
      exact ⟨fl, sl', by unfold forGo; rw [e1]; show ((b sl1).bind _) = _; rw [e2]; exact e3, q⟩
    | ct =>
      obtain ⟨fl, sl', e3, q⟩ := forGo_inv I Q h h0 xs sl2 h3
      exact ⟨fl, sl', by unfold forGo; rw [e1]; show ((b sl1).bind _) = _; rw [e2]; exact e3, q⟩
    | bk => exact ⟨.nx, sl2, by unfold forGo; rw [e1]; show ((b sl1).bind _) = _; rw [e2]; rfl, h3⟩
    | rt t => exact ⟨.rt t, sl2, by unfold forGo; rw [e1]; show ((b sl1).bind _) = _; rw [e2]; rfl, h3⟩
/-- a for that folds: S the slots by what is reckoned and by what the loop's names hold -/
theorem forGo_fold {α β : Type} {set : T → SL → Option SL} {b : SL → Out} {S : α → T → SL} {f : α → β → α} {v : β → T} (ok : α → List β → Prop) (hs : ∀ a t x, set x (S a t) = some (S a x))
    (h : ∀ a x xs, ok a (x :: xs) → b (S a (v x)) = some (.nx, S (f a x) (v x)) ∧ ok (f a x) xs) : ∀ (xs : List β) (a : α) (t : T), ok a xs → ∃ t', forGo set b (xs.map v) (S a t) = some (.nx, S (xs.foldl f a) t')
  | [], a, t, _ => ⟨t, rfl⟩
  | x :: xs, a, t, i => by
    obtain ⟨e1, i'⟩ := h a x xs i
    obtain ⟨t', e2⟩ := forGo_fold ok hs h xs (f a x) (v x) i'
    exact ⟨t', by
      show forGo set b (v x :: xs.map v) (S a t) = _
      unfold forGo
      rw [hs]
      show ((b (S a (v x))).bind _) = _
      rw [e1]
      exact e2⟩
/-- a comprehension that maps -/
theorem lcGo_map {β : Type} {set : T → SL → Option SL} {c e : SL → Option (T × SL)} {wp : SL → SL} {s0 : SL} {v w : β → T} (h : ∀ x : β, ∃ s1 s2 s3, set (v x) s0 = some s1 ∧ c s1 = some (.bl true, s2) ∧ e s2 = some (w x, s3) ∧ wp s3 = s0) :
    ∀ (xs : List β) (sl : SL) (acc : List T), wp sl = s0 → acc.length + xs.length < 10000000 → ∃ s', lcGo set c e wp (xs.map v) sl acc = some (acc ++ xs.map w, s') ∧ wp s' = s0
  | [], sl, acc, hs, _ => ⟨sl, by simp [lcGo], hs⟩
  | x :: xs, sl, acc, hs, hl => by
    obtain ⟨s1, s2, s3, e1, e2, e3, e4⟩ := h x
    obtain ⟨s', e5, e6⟩ := lcGo_map h xs s3 (acc ++ [w x]) e4 (by simp at hl ⊢; omega)
    refine ⟨s', ?_, e6⟩
    show lcGo set c e wp (v x :: xs.map v) sl acc = _
    unfold lcGo
    rw [hs, e1]
    show ((c s1).bind _) = _
    rw [e2]
    show ((e s2).bind _) = _
    rw [e3]
    show (if okN acc.length then lcGo set c e wp (xs.map v) s3 (acc ++ [w x]) else none) = _
    rw [if_pos (okN_of (by simp at hl; omega)), e5]
    simp
/-- .. of those x alone that may come -/
theorem lcGo_mapM {β : Type} {set : T → SL → Option SL} {c e : SL → Option (T × SL)} {wp : SL → SL} {s0 : SL} {v w : β → T} : ∀ (xs : List β) (sl : SL) (acc : List T), (∀ x ∈ xs, ∃ s1 s2 s3, set (v x) s0 = some s1 ∧ c s1 = some (.bl true, s2) ∧ e s2 = some (w x, s3) ∧ wp s3 = s0) →
    wp sl = s0 → acc.length + xs.length < 10000000 → ∃ s', lcGo set c e wp (xs.map v) sl acc = some (acc ++ xs.map w, s') ∧ wp s' = s0
  | [], sl, acc, _, hs, _ => ⟨sl, by simp [lcGo], hs⟩
  | x :: xs, sl, acc, h, hs, hl => by
    obtain ⟨s1, s2, s3, e1, e2, e3, e4⟩ := h x List.mem_cons_self
    obtain ⟨s', e5, e6⟩ := lcGo_mapM xs s3 (acc ++ [w x]) (fun y hy => h y (List.mem_cons_of_mem _ hy)) e4 (by simp at hl ⊢; omega)
    refine ⟨s', ?_, e6⟩
    show lcGo set c e wp (v x :: xs.map v) sl acc = _
    unfold lcGo
    rw [hs, e1]
    show ((c s1).bind _) = _
    rw [e2]
    show ((e s2).bind _) = _
    rw [e3]
    show (if okN acc.length then lcGo set c e wp (xs.map v) s3 (acc ++ [w x]) else none) = _
    rw [if_pos (okN_of (by simp at hl; omega)), e5]
    simp
theorem frzs_map {β : Type} {v : β → T} (h : ∀ x, frz (v x) = v x) : ∀ xs : List β, frzs (xs.map v) = xs.map v
  | [] => rfl
  | x :: xs => by
    show frz (v x) :: frzs (xs.map v) = _
    rw [h, frzs_map h xs]; rfl
theorem isFs_map {β : Type} {v : β → T} (h : ∀ x, isF (v x) = true) : ∀ xs : List β, isFs (xs.map v) = true
  | [] => rfl
  | x :: xs => by
    show (isF (v x) && isFs (xs.map v)) = true
    rw [h, isFs_map h xs]; rfl
end Pv

/-! The program of this law, as the layer sees it. Printed by gen.py. -/
namespace W78
open PySem L2 PyProof.Rows Pv
abbrev pg : Program := PySem.Challenge.pw_fairmarks_k78_whole_audits_and_samples
def top (i : Nat) : Stmt := pg.main.body.getD i (.Pass ⟨0, 0, 0, 0⟩)
def inn (i j : Nat) : Stmt := match top i with
  | .ClassDef _ _ _ b _ _ _ _ _ _ _ => b.getD j (.Pass ⟨0, 0, 0, 0⟩)
  | s => s
def d0 : DefT × He.DefD := defOf (top 7) ("fraction", none) "fraction" []
def d1 : DefT × He.DefD := defOf (top 8) ("add", none) "add" []
def d2 : DefT × He.DefD := defOf (top 9) ("less", none) "less" []
def d3 : DefT × He.DefD := defOf (top 10) ("total_of", none) "total_of" []
def d4 : DefT × He.DefD := defOf (top 13) ("check_share", none) "check_share" []
def d5 : DefT × He.DefD := defOf (top 14) ("drawn", none) "drawn" []
def d6 : DefT × He.DefD := defOf (top 15) ("drawn_at_most", none) "drawn_at_most" ["k"]
def d7 : DefT × He.DefD := defOf (top 17) ("passes", none) "passes" []
def d8 : DefT × He.DefD := defOf (top 18) ("most_wrong", none) "most_wrong" []
def d9 : DefT × He.DefD := defOf (top 19) ("sample_size", none) "sample_size" []
def d10 : DefT × He.DefD := defOf (inn 20 0) ("Audit", some "__init__") "Audit.__init__" []
def d11 : DefT × He.DefD := defOf (inn 20 1) ("Audit", some "look") "Audit.look" []
def d12 : DefT × He.DefD := defOf (inn 20 2) ("Audit", some "is_shown") "Audit.is_shown" []
def d13 : DefT × He.DefD := defOf (inn 20 3) ("Audit", some "is_lost") "Audit.is_lost" []
def d14 : DefT × He.DefD := defOf (inn 20 4) ("Audit", some "verdict") "Audit.verdict" []
def d15 : DefT × He.DefD := defOf (inn 20 5) ("Audit", some "more") "Audit.more" []
def d16 : DefT × He.DefD := defOf (top 22) ("_law_draw", none) "_law_draw" []
def d17 : DefT × He.DefD := defOf (top 23) ("_law_tape", none) "_law_tape" []
def d18 : DefT × He.DefD := defOf (top 24) ("_law_same", none) "_law_same" []
def d19 : DefT × He.DefD := defOf (top 25) ("_law_is", none) "_law_is" []
def d20 : DefT × He.DefD := defOf (top 26) ("_law_mod", none) "_law_mod" []
def d21 : DefT × He.DefD := defOf (top 27) ("_law_gcd", none) "_law_gcd" []
def d22 : DefT × He.DefD := defOf (top 28) ("_law_frac", none) "_law_frac" []
def d23 : DefT × He.DefD := defOf (top 29) ("law", none) "law" []
def cs : List (Str × T) := [("ZERO", .tup [.int (0), .int (1)]), ("ONE", .tup [.int (1), .int (1)]), ("MOST", .int (2000))]
def fs : List (Str × Nat) := [("fraction", 0), ("add", 1), ("less", 2), ("total_of", 3), ("check_share", 4), ("drawn", 5), ("drawn_at_most", 6), ("passes", 7), ("most_wrong", 8), ("sample_size", 9), ("_law_draw", 16), ("_law_tape", 17), ("_law_same", 18), ("_law_is", 19), ("_law_mod", 20), ("_law_gcd", 21), ("_law_frac", 22), ("law", 23)]
def cl : List (Str × Nat) := [("Audit", 10)]
def im : List (Str × String) := [("comb", "math.comb"), ("gcd", "math.gcd")]
def bl : List Str := ["abs", "bool", "int", "isinstance", "len", "list", "min", "range", "str", "tuple"]
def G : Gm := { N := [], sc := default, fnc := fun _ => true, cs := cs, fs := fs, cl := cl, im := im, bl := bl, mv := [] }
def mt : List ((Str × Str) × Nat) := [(("Audit", "look"), 11), (("Audit", "is_shown"), 12), (("Audit", "is_lost"), 13), (("Audit", "verdict"), 14), (("Audit", "more"), 15)]
def fd : List (Str × Str) := [("Audit", "whole_many"), ("Audit", "bearable"), ("Audit", "risk"), ("Audit", "seen"), ("Audit", "wrong")]
def S : Src := ⟨[d0, d1, d2, d3, d4, d5, d6, d7, d8, d9, d10, d11, d12, d13, d14, d15, d16, d17, d18, d19, d20, d21, d22, d23], G, mt, fd⟩
theorem ok : S.ok = true := by decide +kernel
theorem b0 : BindsTo_ d0.1 := fun _ _ _ _ _ _ us hl => match us, hl with
  | [_, _], _ => rfl
theorem b1 : BindsTo_ d1.1 := fun _ _ _ _ _ _ us hl => match us, hl with
  | [_, _], _ => rfl
theorem b2 : BindsTo_ d2.1 := fun _ _ _ _ _ _ us hl => match us, hl with
  | [_, _], _ => rfl
theorem b3 : BindsTo_ d3.1 := fun _ _ _ _ _ _ us hl => match us, hl with
  | [_], _ => rfl
theorem b4 : BindsTo_ d4.1 := fun _ _ _ _ _ _ us hl => match us, hl with
  | [_], _ => rfl
theorem b5 : BindsTo_ d5.1 := fun _ _ _ _ _ _ us hl => match us, hl with
  | [_, _, _, _], _ => rfl
theorem b6 : BindsTo_ d6.1 := fun _ _ _ _ _ _ us hl => match us, hl with
  | [_, _, _, _], _ => rfl
theorem b7 : BindsTo_ d7.1 := fun _ _ _ _ _ _ us hl => match us, hl with
  | [_, _, _, _], _ => rfl
theorem b8 : BindsTo_ d8.1 := fun _ _ _ _ _ _ us hl => match us, hl with
  | [_, _, _, _], _ => rfl
theorem b9 : BindsTo_ d9.1 := fun _ _ _ _ _ _ us hl => match us, hl with
  | [_, _, _, _], _ => rfl
theorem b10 : BindsTo_ d10.1 := fun _ _ _ _ _ _ us hl => match us, hl with
  | [_, _, _, _], _ => rfl
theorem b11 : BindsTo_ d11.1 := fun _ _ _ _ _ _ us hl => match us, hl with
  | [_, _], _ => rfl
theorem b12 : BindsTo_ d12.1 := fun _ _ _ _ _ _ us hl => match us, hl with
  | [_], _ => rfl
theorem b13 : BindsTo_ d13.1 := fun _ _ _ _ _ _ us hl => match us, hl with
  | [_], _ => rfl
theorem b14 : BindsTo_ d14.1 := fun _ _ _ _ _ _ us hl => match us, hl with
  | [_], _ => rfl
theorem b15 : BindsTo_ d15.1 := fun _ _ _ _ _ _ us hl => match us, hl with
  | [_], _ => rfl
theorem b16 : BindsTo_ d16.1 := fun _ _ _ _ _ _ us hl => match us, hl with
  | [_, _], _ => rfl
theorem b17 : BindsTo_ d17.1 := fun _ _ _ _ _ _ us hl => match us, hl with
  | [_], _ => rfl
theorem b18 : BindsTo_ d18.1 := fun _ _ _ _ _ _ us hl => match us, hl with
  | [_, _], _ => rfl
theorem b19 : BindsTo_ d19.1 := fun _ _ _ _ _ _ us hl => match us, hl with
  | [_, _], _ => rfl
theorem b20 : BindsTo_ d20.1 := fun _ _ _ _ _ _ us hl => match us, hl with
  | [_, _], _ => rfl
theorem b21 : BindsTo_ d21.1 := fun _ _ _ _ _ _ us hl => match us, hl with
  | [_, _], _ => rfl
theorem b22 : BindsTo_ d22.1 := fun _ _ _ _ _ _ us hl => match us, hl with
  | [_, _], _ => rfl
theorem b23 : BindsTo_ d23.1 := fun _ _ _ _ _ _ us hl => match us, hl with
  | [_], _ => rfl
theorem sames : ∀ d ∈ S.ds, same d ∧ BindsTo_ d.1 := by
  intro d hd
  unfold S at hd
  simp only [List.mem_cons, List.not_mem_nil, or_false] at hd
  rcases hd with rfl | rfl | rfl | rfl | rfl | rfl | rfl | rfl | rfl | rfl | rfl | rfl | rfl | rfl | rfl | rfl | rfl | rfl | rfl | rfl | rfl | rfl | rfl | rfl
  · exact ⟨same_def, b0⟩
  · exact ⟨same_def, b1⟩
  · exact ⟨same_def, b2⟩
  · exact ⟨same_def, b3⟩
  · exact ⟨same_def, b4⟩
  · exact ⟨same_def, b5⟩
  · exact ⟨same_def, b6⟩
  · exact ⟨same_def, b7⟩
  · exact ⟨same_def, b8⟩
  · exact ⟨same_def, b9⟩
  · exact ⟨same_def, b10⟩
  · exact ⟨same_def, b11⟩
  · exact ⟨same_def, b12⟩
  · exact ⟨same_def, b13⟩
  · exact ⟨same_def, b14⟩
  · exact ⟨same_def, b15⟩
  · exact ⟨same_def, b16⟩
  · exact ⟨same_def, b17⟩
  · exact ⟨same_def, b18⟩
  · exact ⟨same_def, b19⟩
  · exact ⟨same_def, b20⟩
  · exact ⟨same_def, b21⟩
  · exact ⟨same_def, b22⟩
  · exact ⟨same_def, b23⟩
abbrev R : PySem.W.OpenRow := PySem.W.OpenLaw.row PySem.Challenge.rw_fairmarks_k78_whole_audits_and_samples
abbrev vw : Program := PySem.W.view R.prog [0, 29]
def lo0 : List Str := ["__name__", "MarkError", "BadNumber", "ZERO", "ONE", "fraction", "add", "less", "total_of", "MOST", "check_share", "drawn", "drawn_at_most", "passes", "most_wrong", "sample_size", "Audit", "_law_draw", "_law_tape", "_law_same", "_law_is", "_law_mod", "_law_gcd", "_law_frac"]
abbrev loose : List Str := lo0
abbrev nh : Nat := 5
abbrev hk : PySem.W.Hook := hookV nh S.fa S.fn (exB S.Γ)
def lawI : Nat := 23
end W78

namespace W78
open PySem L2 PyProof.Rows Pv
theorem run (w : World) : HandSHeadRun.RunEqI R vw hk (obV nh S.fa S.fn (exB S.Γ)) 3000 loose w := by
  unfold HandSHeadRun.RunEqI
  kernel_rfl
end W78

/-! The small language's text of each def, as Lean printed it. -/
namespace W78
open Pv
def f0 : Fn := { np := 2, ns := 3, st := [0, 1], body := (Ss.cons (S.iff (E.op2 O2.eq (E.var 1) (E.cst (T.int (Int.ofNat 0)))) (Ss.cons S.bad Ss.nil) Ss.nil) (Ss.cons (S.iff (E.op2 O2.lt (E.var 1) (E.cst (T.int (Int.ofNat 0)))) (Ss.cons (S.par [0, 1] (Es.cons (E.op1 O1.neg (E.var 0)) (Es.cons (E.op1 O1.neg (E.var 1)) Es.nil))) Ss.nil) Ss.nil) (Ss.cons (S.asg (G.one (G0.nm 2)) (E.op2 O2.gcd (E.var 0) (E.var 1))) (Ss.cons (S.ret (E.tup (Es.cons (E.op2 O2.fdiv (E.var 0) (E.var 2)) (Es.cons (E.op2 O2.fdiv (E.var 1) (E.var 2)) Es.nil)))) Ss.nil)))) }
def f1 : Fn := { np := 2, ns := 2, st := [], body := (Ss.cons (S.ret (E.call 0 (Es.cons (E.op2 O2.add (E.op2 O2.mul (E.idx (E.var 0) (E.cst (T.int (Int.ofNat 0)))) (E.idx (E.var 1) (E.cst (T.int (Int.ofNat 1))))) (E.op2 O2.mul (E.idx (E.var 1) (E.cst (T.int (Int.ofNat 0)))) (E.idx (E.var 0) (E.cst (T.int (Int.ofNat 1)))))) (Es.cons (E.op2 O2.mul (E.idx (E.var 0) (E.cst (T.int (Int.ofNat 1)))) (E.idx (E.var 1) (E.cst (T.int (Int.ofNat 1))))) Es.nil)))) Ss.nil) }
def f2 : Fn := { np := 2, ns := 2, st := [], body := (Ss.cons (S.ret (E.op2 O2.lt (E.op2 O2.mul (E.idx (E.var 0) (E.cst (T.int (Int.ofNat 0)))) (E.idx (E.var 1) (E.cst (T.int (Int.ofNat 1))))) (E.op2 O2.mul (E.idx (E.var 1) (E.cst (T.int (Int.ofNat 0)))) (E.idx (E.var 0) (E.cst (T.int (Int.ofNat 1))))))) Ss.nil) }
def f3_0 : Ss := (Ss.cons (S.asg (G.one (G0.nm 1)) (E.call 1 (Es.cons (E.var 1) (Es.cons (E.var 2) Es.nil)))) Ss.nil)
def f3 : Fn := { np := 1, ns := 3, st := [], body := (Ss.cons (S.asg (G.one (G0.nm 1)) (E.glb (("ZERO" : PySem.Str)) (T.tup [(T.int (Int.ofNat 0)), (T.int (Int.ofNat 1))]))) (Ss.cons (S.forr (G.one (G0.nm 2)) (It.seq (E.var 0)) f3_0) (Ss.cons (S.ret (E.mov 1)) Ss.nil))) }
def f4 : Fn := { np := 1, ns := 1, st := [], body := (Ss.cons (S.iff (E.orr (E.call 2 (Es.cons (E.var 0) (Es.cons (E.glb (("ZERO" : PySem.Str)) (T.tup [(T.int (Int.ofNat 0)), (T.int (Int.ofNat 1))])) Es.nil))) (E.call 2 (Es.cons (E.glb (("ONE" : PySem.Str)) (T.tup [(T.int (Int.ofNat 1)), (T.int (Int.ofNat 1))])) (Es.cons (E.var 0) Es.nil)))) (Ss.cons S.bad Ss.nil) Ss.nil) Ss.nil) }
def f5 : Fn := { np := 4, ns := 4, st := [], body := (Ss.cons (S.iff (E.orr (E.nt (E.chn (E.cst (T.int (Int.ofNat 0))) (Ch.more O2.le (E.var 1) (Ch.last O2.le (E.var 0))))) (E.orr (E.nt (E.chn (E.cst (T.int (Int.ofNat 0))) (Ch.more O2.le (E.var 2) (Ch.last O2.le (E.var 0))))) (E.op2 O2.gt (E.var 0) (E.glb (("MOST" : PySem.Str)) (T.int (Int.ofNat 2000)))))) (Ss.cons S.bad Ss.nil) Ss.nil) (Ss.cons (S.iff (E.orr (E.op2 O2.lt (E.var 3) (E.cst (T.int (Int.ofNat 0)))) (E.orr (E.op2 O2.gt (E.var 3) (E.var 1)) (E.op2 O2.gt (E.op2 O2.sub (E.var 2) (E.var 3)) (E.op2 O2.sub (E.var 0) (E.var 1))))) (Ss.cons (S.ret (E.glb (("ZERO" : PySem.Str)) (T.tup [(T.int (Int.ofNat 0)), (T.int (Int.ofNat 1))]))) Ss.nil) Ss.nil) (Ss.cons (S.ret (E.call 0 (Es.cons (E.op2 O2.mul (E.op2 O2.comb (E.var 1) (E.var 3)) (E.op2 O2.comb (E.op2 O2.sub (E.var 0) (E.var 1)) (E.op2 O2.sub (E.var 2) (E.var 3)))) (Es.cons (E.op2 O2.comb (E.var 0) (E.var 2)) Es.nil)))) Ss.nil))) }
def f6_0 : E := (E.cst (T.bl true))
def f6_1 : E := (E.call 5 (Es.cons (E.var 0) (Es.cons (E.var 1) (Es.cons (E.var 2) (Es.cons (E.var 4) Es.nil)))))
def f6 : Fn := { np := 4, ns := 5, st := [], body := (Ss.cons (S.ret (E.call 3 (Es.cons (E.lc [4] (G.one (G0.nm 4)) (It.rng2 (E.cst (T.int (Int.ofNat 0))) (E.op2 O2.add (E.op2 O2.min2 (E.var 3) (E.var 2)) (E.cst (T.int (Int.ofNat 1))))) f6_0 f6_1) Es.nil))) Ss.nil) }
def f7 : Fn := { np := 4, ns := 4, st := [], body := (Ss.cons (S.ret (E.call 6 (Es.cons (E.var 0) (Es.cons (E.var 1) (Es.cons (E.var 2) (Es.cons (E.var 3) Es.nil)))))) Ss.nil) }
def f8_0 : E := (E.op2 O2.lt (E.var 4) (E.var 5))
def f8_1 : Ss := (Ss.cons (S.asg (G.one (G0.nm 6)) (E.op2 O2.fdiv (E.op2 O2.add (E.op2 O2.add (E.var 4) (E.var 5)) (E.cst (T.int (Int.ofNat 1)))) (E.cst (T.int (Int.ofNat 2))))) (Ss.cons (S.iff (E.call 2 (Es.cons (E.var 3) (Es.cons (E.call 6 (Es.cons (E.var 0) (Es.cons (E.var 6) (Es.cons (E.var 1) (Es.cons (E.var 2) Es.nil))))) Es.nil))) (Ss.cons (S.asg (G.one (G0.nm 4)) (E.var 6)) Ss.nil) (Ss.cons (S.asg (G.one (G0.nm 5)) (E.op2 O2.sub (E.var 6) (E.cst (T.int (Int.ofNat 1))))) Ss.nil)) Ss.nil))
def f8 : Fn := { np := 4, ns := 7, st := [], body := (Ss.cons (S.exp (E.call 4 (Es.cons (E.var 3) Es.nil))) (Ss.cons (S.iff (E.nt (E.chn (E.cst (T.int (Int.ofNat 0))) (Ch.more O2.le (E.var 2) (Ch.more O2.le (E.var 1) (Ch.last O2.le (E.var 0)))))) (Ss.cons S.bad Ss.nil) Ss.nil) (Ss.cons (S.par [4, 5] (Es.cons (E.var 2) (Es.cons (E.op2 O2.add (E.op2 O2.sub (E.var 0) (E.var 1)) (E.var 2)) Es.nil))) (Ss.cons (S.whl f8_0 f8_1) (Ss.cons (S.ret (E.mov 4)) Ss.nil))))) }
def f9_0 : E := (E.op2 O2.lt (E.var 4) (E.var 5))
def f9_1 : Ss := (Ss.cons (S.asg (G.one (G0.nm 6)) (E.op2 O2.fdiv (E.op2 O2.add (E.var 4) (E.var 5)) (E.cst (T.int (Int.ofNat 2))))) (Ss.cons (S.iff (E.orr (E.op2 O2.eq (E.var 6) (E.op2 O2.add (E.var 0) (E.cst (T.int (Int.ofNat 1))))) (E.nt (E.call 2 (Es.cons (E.var 3) (Es.cons (E.call 7 (Es.cons (E.var 0) (Es.cons (E.var 1) (Es.cons (E.var 6) (Es.cons (E.var 2) Es.nil))))) Es.nil))))) (Ss.cons (S.asg (G.one (G0.nm 5)) (E.var 6)) Ss.nil) (Ss.cons (S.asg (G.one (G0.nm 4)) (E.op2 O2.add (E.var 6) (E.cst (T.int (Int.ofNat 1))))) Ss.nil)) Ss.nil))
def f9 : Fn := { np := 4, ns := 7, st := [], body := (Ss.cons (S.exp (E.call 4 (Es.cons (E.var 3) Es.nil))) (Ss.cons (S.iff (E.nt (E.chn (E.cst (T.int (Int.ofNat 0))) (Ch.more O2.le (E.var 1) (Ch.last O2.le (E.var 0))))) (Ss.cons S.bad Ss.nil) Ss.nil) (Ss.cons (S.par [4, 5] (Es.cons (E.cst (T.int (Int.ofNat 0))) (Es.cons (E.op2 O2.add (E.var 0) (E.cst (T.int (Int.ofNat 1)))) Es.nil))) (Ss.cons (S.whl f9_0 f9_1) (Ss.cons (S.ret (E.ite (E.op2 O2.le (E.var 4) (E.var 0)) (E.var 4) (E.cst T.non))) Ss.nil))))) }
def f10 : Fn := { np := 4, ns := 4, st := [], body := (Ss.cons (S.exp (E.call 4 (Es.cons (E.var 3) Es.nil))) (Ss.cons (S.iff (E.nt (E.chn (E.cst (T.int (Int.ofNat 0))) (Ch.more O2.le (E.var 2) (Ch.last O2.le (E.var 1))))) (Ss.cons S.bad Ss.nil) Ss.nil) (Ss.cons (S.asg (G.one (G0.at 0 (("whole_many" : PySem.Str)))) (E.var 1)) (Ss.cons (S.asg (G.one (G0.at 0 (("bearable" : PySem.Str)))) (E.var 2)) (Ss.cons (S.asg (G.one (G0.at 0 (("risk" : PySem.Str)))) (E.var 3)) (Ss.cons (S.asg (G.one (G0.at 0 (("seen" : PySem.Str)))) (E.cst (T.int (Int.ofNat 0)))) (Ss.cons (S.asg (G.one (G0.at 0 (("wrong" : PySem.Str)))) (E.cst (T.int (Int.ofNat 0)))) Ss.nil))))))) }
def f11 : Fn := { np := 2, ns := 2, st := [], body := (Ss.cons (S.iff (E.op2 O2.eq (E.fld (E.var 0) (("seen" : PySem.Str))) (E.fld (E.var 0) (("whole_many" : PySem.Str)))) (Ss.cons S.bad Ss.nil) Ss.nil) (Ss.cons (S.faug 0 (("seen" : PySem.Str)) O2.add (E.cst (T.int (Int.ofNat 1)))) (Ss.cons (S.iff (E.var 1) (Ss.cons (S.faug 0 (("wrong" : PySem.Str)) O2.add (E.cst (T.int (Int.ofNat 1)))) Ss.nil) Ss.nil) Ss.nil))) }
def f12 : Fn := { np := 1, ns := 1, st := [], body := (Ss.cons (S.iff (E.op2 O2.gt (E.op2 O2.add (E.fld (E.var 0) (("bearable" : PySem.Str))) (E.cst (T.int (Int.ofNat 1)))) (E.op2 O2.sub (E.fld (E.var 0) (("whole_many" : PySem.Str))) (E.op2 O2.sub (E.fld (E.var 0) (("seen" : PySem.Str))) (E.fld (E.var 0) (("wrong" : PySem.Str)))))) (Ss.cons (S.ret (E.cst (T.bl true))) Ss.nil) Ss.nil) (Ss.cons (S.ret (E.nt (E.call 2 (Es.cons (E.fld (E.var 0) (("risk" : PySem.Str))) (Es.cons (E.call 6 (Es.cons (E.fld (E.var 0) (("whole_many" : PySem.Str))) (Es.cons (E.op2 O2.add (E.fld (E.var 0) (("bearable" : PySem.Str))) (E.cst (T.int (Int.ofNat 1)))) (Es.cons (E.fld (E.var 0) (("seen" : PySem.Str))) (Es.cons (E.fld (E.var 0) (("wrong" : PySem.Str))) Es.nil))))) Es.nil))))) Ss.nil)) }
def f13 : Fn := { np := 1, ns := 1, st := [], body := (Ss.cons (S.ret (E.op2 O2.gt (E.fld (E.var 0) (("wrong" : PySem.Str))) (E.fld (E.var 0) (("bearable" : PySem.Str))))) Ss.nil) }
def f14 : Fn := { np := 1, ns := 1, st := [], body := (Ss.cons (S.iff (E.meth 0 (("is_lost" : PySem.Str)) Es.nil) (Ss.cons (S.ret (E.cst (T.str (("lost" : PySem.Str))))) Ss.nil) Ss.nil) (Ss.cons (S.ret (E.ite (E.meth 0 (("is_shown" : PySem.Str)) Es.nil) (E.cst (T.str (("shown" : PySem.Str)))) (E.cst (T.str (("open" : PySem.Str)))))) Ss.nil)) }
def f15_0 : E := (E.nt (E.meth 1 (("is_shown" : PySem.Str)) Es.nil))
def f15_1 : Ss := (Ss.cons (S.exp (E.meth 1 (("look" : PySem.Str)) (Es.cons (E.cst (T.bl false)) Es.nil))) (Ss.cons (S.aug 2 O2.add (E.cst (T.int (Int.ofNat 1)))) Ss.nil))
def f15 : Fn := { np := 1, ns := 3, st := [], body := (Ss.cons (S.iff (E.meth 0 (("is_lost" : PySem.Str)) Es.nil) (Ss.cons (S.ret (E.cst T.non)) Ss.nil) Ss.nil) (Ss.cons (S.asg (G.one (G0.nm 1)) (E.mk (("Audit" : PySem.Str)) 10 (Es.cons (E.fld (E.var 0) (("whole_many" : PySem.Str))) (Es.cons (E.fld (E.var 0) (("bearable" : PySem.Str))) (Es.cons (E.fld (E.var 0) (("risk" : PySem.Str))) Es.nil))))) (Ss.cons (S.asg (G.tp [(G0.at 1 (("seen" : PySem.Str))), (G0.at 1 (("wrong" : PySem.Str)))]) (E.tup (Es.cons (E.fld (E.var 0) (("seen" : PySem.Str))) (Es.cons (E.fld (E.var 0) (("wrong" : PySem.Str))) Es.nil)))) (Ss.cons (S.asg (G.one (G0.nm 2)) (E.cst (T.int (Int.ofNat 0)))) (Ss.cons (S.whl f15_0 f15_1) (Ss.cons (S.ret (E.mov 2)) Ss.nil)))))) }
def f16 : Fn := { np := 2, ns := 6, st := [], body := (Ss.cons (S.iff (E.op2 O2.lt (E.idx (E.var 0) (E.cst (T.int (Int.ofNat 2)))) (E.var 1)) (Ss.cons (S.asg (G.one (G0.nm 2)) (E.frzp (E.idx (E.var 0) (E.cst (T.int (Int.ofNat 0)))) (E.idx (E.var 0) (E.cst (T.int (Int.ofNat 0)))))) (Ss.cons (S.asg (G.one (G0.nm 3)) (E.frzp (E.idx (E.var 0) (E.cst (T.int (Int.ofNat 1)))) (E.idx (E.var 0) (E.cst (T.int (Int.ofNat 1)))))) (Ss.cons (S.asg (G.one (G0.nm 4)) (E.cst (T.int (Int.ofNat 0)))) (Ss.cons (S.iff (E.op2 O2.lt (E.var 3) (E.op1 O1.len (E.var 2))) (Ss.cons (S.asg (G.one (G0.nm 4)) (E.frzp (E.idx (E.var 2) (E.var 3)) (E.idx (E.var 2) (E.var 3)))) Ss.nil) Ss.nil) (Ss.cons (S.iff (E.op2 O2.lt (E.var 4) (E.cst (T.int (Int.ofNat 0)))) (Ss.cons (S.asg (G.one (G0.nm 4)) (E.op2 O2.sub (E.op2 O2.mul (E.op1 O1.neg (E.cst (T.int (Int.ofNat 2)))) (E.var 4)) (E.cst (T.int (Int.ofNat 1))))) Ss.nil) Ss.nil) (Ss.cons (S.iff (E.op2 O2.lt (E.var 4) (E.op2 O2.pow (E.cst (T.int (Int.ofNat 10))) (E.cst (T.int (Int.ofNat 9))))) (Ss.cons (S.asg (G.one (G0.nm 4)) (E.op2 O2.mod (E.op1 O1.int (E.op2 O2.add (E.op2 O2.add (E.op2 O2.mul (E.var 4) (E.cst (T.int (Int.ofNat 48271)))) (E.op2 O2.mul (E.var 3) (E.cst (T.int (Int.ofNat 69621))))) (E.cst (T.int (Int.ofNat 12345))))) (E.cst (T.int (Int.ofNat 2147483647))))) (Ss.cons (S.asg (G.one (G0.nm 4)) (E.op2 O2.mod (E.op1 O1.int (E.op2 O2.add (E.op2 O2.add (E.op2 O2.mul (E.var 4) (E.cst (T.int (Int.ofNat 16807)))) (E.op2 O2.mul (E.var 3) (E.cst (T.int (Int.ofNat 39373))))) (E.cst (T.int (Int.ofNat 6789))))) (E.cst (T.int (Int.ofNat 2147483629))))) Ss.nil)) Ss.nil) (Ss.cons (S.pst (E.var 0) (E.cst (T.int (Int.ofNat 1))) (E.op2 O2.add (E.var 3) (E.cst (T.int (Int.ofNat 1))))) (Ss.cons (S.pst (E.var 0) (E.cst (T.int (Int.ofNat 2))) (E.var 4)) Ss.nil)))))))) Ss.nil) (Ss.cons (S.asg (G.one (G0.nm 5)) (E.op2 O2.mod (E.op1 O1.int (E.idx (E.var 0) (E.cst (T.int (Int.ofNat 2))))) (E.var 1))) (Ss.cons (S.pst (E.var 0) (E.cst (T.int (Int.ofNat 2))) (E.op2 O2.fdiv (E.idx (E.var 0) (E.cst (T.int (Int.ofNat 2)))) (E.var 1))) (Ss.cons (S.ret (E.mov 5)) Ss.nil)))) }
def f17 : Fn := { np := 1, ns := 1, st := [], body := (Ss.cons (S.ret (E.lst (Es.cons (E.op1 O1.list (E.var 0)) (Es.cons (E.cst (T.int (Int.ofNat 0))) (Es.cons (E.cst (T.int (Int.ofNat 0))) Es.nil))))) Ss.nil) }
def f18 : Fn := { np := 2, ns := 2, st := [], body := (Ss.cons (S.ret (E.an (E.op1 (O1.isi 0) (E.var 0)) (E.op2 O2.eq (E.var 0) (E.var 1)))) Ss.nil) }
def f19 : Fn := { np := 2, ns := 2, st := [], body := (Ss.cons (S.iff (E.op2 O2.isS (E.var 1) (E.cst T.non)) (Ss.cons (S.ret (E.op2 O2.isS (E.var 0) (E.cst T.non))) Ss.nil) Ss.nil) (Ss.cons (S.iff (E.op1 (O1.isi 0) (E.var 1)) (Ss.cons (S.ret (E.an (E.op1 (O1.isi 0) (E.var 0)) (E.op2 O2.eq (E.var 0) (E.var 1)))) Ss.nil) Ss.nil) (Ss.cons (S.iff (E.op1 (O1.isi 1) (E.var 1)) (Ss.cons (S.ret (E.an (E.op1 (O1.isi 1) (E.var 0)) (E.op2 O2.eq (E.var 0) (E.var 1)))) Ss.nil) Ss.nil) (Ss.cons (S.iff (E.op1 (O1.isi 2) (E.var 1)) (Ss.cons (S.ret (E.an (E.op1 (O1.isi 2) (E.var 0)) (E.op2 O2.eq (E.var 0) (E.var 1)))) Ss.nil) Ss.nil) (Ss.cons (S.iff (E.op1 (O1.isi 3) (E.var 1)) (Ss.cons (S.ret (E.an (E.op1 (O1.isi 3) (E.var 0)) (E.op2 O2.eq (E.var 0) (E.var 1)))) Ss.nil) Ss.nil) (Ss.cons (S.ret (E.an (E.op1 (O1.isi 4) (E.var 0)) (E.op2 O2.eq (E.var 0) (E.var 1)))) Ss.nil)))))) }
def f20 : Fn := { np := 2, ns := 2, st := [], body := (Ss.cons (S.ret (E.op2 O2.sub (E.var 0) (E.op2 O2.mul (E.op2 O2.fdiv (E.var 0) (E.var 1)) (E.var 1)))) Ss.nil) }
def f21_0 : Ss := (Ss.cons (S.iff (E.op2 O2.ne (E.var 1) (E.cst (T.int (Int.ofNat 0)))) (Ss.cons (S.par [0, 1] (Es.cons (E.var 1) (Es.cons (E.call 20 (Es.cons (E.var 0) (Es.cons (E.var 1) Es.nil))) Es.nil))) Ss.nil) Ss.nil) Ss.nil)
def f21 : Fn := { np := 2, ns := 3, st := [0, 1], body := (Ss.cons (S.forr (G.one (G0.nm 2)) (It.rng1 (E.cst (T.int (Int.ofNat 200)))) f21_0) (Ss.cons (S.ret (E.mov 0)) Ss.nil)) }
def f22 : Fn := { np := 2, ns := 3, st := [0, 1], body := (Ss.cons (S.iff (E.op2 O2.lt (E.var 1) (E.cst (T.int (Int.ofNat 0)))) (Ss.cons (S.par [0, 1] (Es.cons (E.op2 O2.sub (E.cst (T.int (Int.ofNat 0))) (E.var 0)) (Es.cons (E.op2 O2.sub (E.cst (T.int (Int.ofNat 0))) (E.var 1)) Es.nil))) Ss.nil) Ss.nil) (Ss.cons (S.asg (G.one (G0.nm 2)) (E.call 21 (Es.cons (E.op1 O1.abs (E.var 0)) (Es.cons (E.var 1) Es.nil)))) (Ss.cons (S.ret (E.tup (Es.cons (E.op2 O2.fdiv (E.var 0) (E.var 2)) (Es.cons (E.op2 O2.fdiv (E.var 1) (E.var 2)) Es.nil)))) Ss.nil))) }
def f23_0 : Ss := (Ss.cons (S.exp (E.meth 7 (("look" : PySem.Str)) (Es.cons (E.op2 O2.lt (E.var 8) (E.var 4)) Es.nil))) Ss.nil)
def f23 : Fn := { np := 1, ns := 12, st := [], body := (Ss.cons (S.asg (G.one (G0.nm 1)) (E.call 17 (Es.cons (E.var 0) Es.nil))) (Ss.cons (S.asg (G.one (G0.nm 2)) (E.op2 O2.add (E.cst (T.int (Int.ofNat 1))) (E.call 16 (Es.cons (E.var 1) (Es.cons (E.cst (T.int (Int.ofNat 14))) Es.nil))))) (Ss.cons (S.asg (G.one (G0.nm 3)) (E.call 16 (Es.cons (E.var 1) (Es.cons (E.op2 O2.add (E.var 2) (E.cst (T.int (Int.ofNat 1)))) Es.nil)))) (Ss.cons (S.asg (G.one (G0.nm 4)) (E.op2 O2.min2 (E.var 3) (E.call 16 (Es.cons (E.var 1) (Es.cons (E.cst (T.int (Int.ofNat 4))) Es.nil))))) (Ss.cons (S.asg (G.one (G0.nm 5)) (E.op2 O2.add (E.var 4) (E.call 16 (Es.cons (E.var 1) (Es.cons (E.op2 O2.add (E.op2 O2.sub (E.var 2) (E.var 4)) (E.cst (T.int (Int.ofNat 1)))) Es.nil))))) (Ss.cons (S.asg (G.one (G0.nm 6)) (E.call 22 (Es.cons (E.call 16 (Es.cons (E.var 1) (Es.cons (E.cst (T.int (Int.ofNat 21))) Es.nil))) (Es.cons (E.cst (T.int (Int.ofNat 20))) Es.nil)))) (Ss.cons (S.asg (G.one (G0.nm 7)) (E.mk (("Audit" : PySem.Str)) 10 (Es.cons (E.var 2) (Es.cons (E.var 5) (Es.cons (E.var 6) Es.nil))))) (Ss.cons (S.forr (G.one (G0.nm 8)) (It.rng1 (E.var 3)) f23_0) (Ss.cons (S.asg (G.one (G0.nm 9)) (E.call 8 (Es.cons (E.var 2) (Es.cons (E.var 3) (Es.cons (E.var 4) (Es.cons (E.var 6) Es.nil)))))) (Ss.cons (S.iff (E.orr (E.nt (E.call 18 (Es.cons (E.meth 7 (("is_shown" : PySem.Str)) Es.nil) (Es.cons (E.op2 O2.le (E.var 9) (E.var 5)) Es.nil)))) (E.op2 O2.ne (E.meth 7 (("verdict" : PySem.Str)) Es.nil) (E.idx (E.lst (Es.cons (E.cst (T.str (("open" : PySem.Str)))) (Es.cons (E.cst (T.str (("shown" : PySem.Str)))) Es.nil))) (E.op1 O1.int (E.op2 O2.le (E.var 9) (E.var 5)))))) (Ss.cons (S.ret (E.cst (T.bl false))) Ss.nil) Ss.nil) (Ss.cons (S.iff (E.op2 O2.lt (E.var 5) (E.var 2)) (Ss.cons (S.asg (G.one (G0.nm 10)) (E.call 9 (Es.cons (E.var 2) (Es.cons (E.op2 O2.add (E.var 5) (E.cst (T.int (Int.ofNat 1)))) (Es.cons (E.cst (T.int (Int.ofNat 0))) (Es.cons (E.var 6) Es.nil)))))) (Ss.cons (S.asg (G.one (G0.nm 11)) (E.mk (("Audit" : PySem.Str)) 10 (Es.cons (E.var 2) (Es.cons (E.var 5) (Es.cons (E.var 6) Es.nil))))) (Ss.cons (S.iff (E.nt (E.call 19 (Es.cons (E.meth 11 (("more" : PySem.Str)) Es.nil) (Es.cons (E.var 10) Es.nil)))) (Ss.cons (S.ret (E.cst (T.bl false))) Ss.nil) Ss.nil) Ss.nil))) Ss.nil) (Ss.cons (S.ret (E.cst (T.bl true))) Ss.nil)))))))))))) }
def fns : List Fn := [f0, f1, f2, f3, f4, f5, f6, f7, f8, f9, f10, f11, f12, f13, f14, f15, f16, f17, f18, f19, f20, f21, f22, f23]
theorem fns_eq : S.R.fns = fns := by kernel_rfl
end W78

namespace W78
open Pv
def R' : Prg := ⟨fns, mt, fd⟩
theorem R_eq : S.R = R' := by
  show Prg.mk S.R.fns mt fd = Prg.mk fns mt fd
  rw [fns_eq]
abbrev Q2 := Int × Int
abbrev fr (p : Q2) : T := .tup [.int p.1, .int p.2]
def norm (a b : Int) : Q2 := (a / (Nat.gcd a.natAbs b.natAbs : Nat), b / (Nat.gcd a.natAbs b.natAbs : Nat))
def addV (p q : Q2) : Q2 := norm (p.1 * q.2 + q.1 * p.2) (p.2 * q.2)
def lessV (p q : Q2) : Bool := decide (p.1 * q.2 < q.1 * p.2)
def okQ (p : Q2) : Bool := decide (p.1.natAbs < 2 ^ 29) && decide (p.2.natAbs < 2 ^ 29) && decide (0 < p.2)
theorem okQ_ {p : Q2} (h : okQ p = true) : p.1.natAbs < 2 ^ 29 ∧ p.2.natAbs < 2 ^ 29 ∧ 0 < p.2 := by
  simp only [okQ, Bool.and_eq_true, decide_eq_true_eq] at h
  exact ⟨h.1.1, h.1.2, h.2⟩
theorem mul_lt {a b : Int} (h1 : a.natAbs < 2 ^ 29) (h2 : b.natAbs < 2 ^ 29) : (a * b).natAbs < 2 ^ 58 := by
  rw [Int.natAbs_mul]
  calc a.natAbs * b.natAbs < 2 ^ 29 * 2 ^ 29 := Nat.mul_lt_mul'' h1 h2
    _ = 2 ^ 58 := by decide
theorem s0 {n : Nat} {a b : Int} (hb : 0 < b) (h1 : b.natAbs < 2 ^ 59) : callF R' (n + 1) 0 [.int a, .int b] = some (fr (norm a b), [.hole, .hole]) := by
  have e1 : decide (b = 0) = false := decide_eq_false (by omega)
  have e2 : decide (b < 0) = false := decide_eq_false (by omega)
  have g0 : (0 : Int) < (Nat.gcd a.natAbs b.natAbs : Nat) := by
    have := Nat.gcd_pos_of_pos_right a.natAbs (n := b.natAbs) (by omega)
    omega
  have g1 : ((Nat.gcd a.natAbs b.natAbs : Nat) : Int).natAbs.log2 < 9000 := log2_of (by
    have := Nat.le_of_dvd (by omega) (Nat.gcd_dvd_right a.natAbs b.natAbs)
    rw [Int.natAbs_natCast]; omega)
  rw [callF_open (fn := f0) rfl]
  simp [runF, f0, evSs, evS, ev, evL, setG, setG0, setNs, wipeS, over, isF, op2_fdiv g0 g1, okN_of, e1, e2, Option.map_some, norm]
theorem s2 {n : Nat} {p q : Q2} (hp : okQ p = true) (hq : okQ q = true) : callF R' (n + 1) 2 [fr p, fr q] = some (.bl (lessV p q), [fr p, fr q]) := by
  obtain ⟨a, b⟩ := p
  obtain ⟨c, d⟩ := q
  obtain ⟨h1, _, _⟩ := okQ_ hp
  obtain ⟨h2, _, _⟩ := okQ_ hq
  have m1 : ∀ j, mulOk a j = true := fun j => mulOk_tiny (by have := h1; simp only at this; omega)
  have m2 : ∀ j, mulOk c j = true := fun j => mulOk_tiny (by have := h2; simp only at this; omega)
  rw [callF_open (fn := f2) rfl]
  simp [runF, f2, evSs, evS, ev, evL, wipeS, over, isF, isFs, idxT, L2.atI, L2.ixN, op2_mul (m1 _), op2_mul (m2 _), lessV]
theorem s1 {n : Nat} {p q : Q2} (hp : okQ p = true) (hq : okQ q = true) : callF R' (n + 2) 1 [fr p, fr q] = some (fr (addV p q), [fr p, fr q]) := by
  obtain ⟨a, b⟩ := p
  obtain ⟨c, d⟩ := q
  obtain ⟨h1, h3, h5⟩ := okQ_ hp
  obtain ⟨h2, h4, h6⟩ := okQ_ hq
  simp only at h1 h2 h3 h4 h5 h6
  have m1 : ∀ j, mulOk a j = true := fun j => mulOk_tiny (by omega)
  have m2 : ∀ j, mulOk c j = true := fun j => mulOk_tiny (by omega)
  have m3 : ∀ j, mulOk b j = true := fun j => mulOk_tiny (by omega)
  have z := s0 (n := n) (a := a * d + c * b) (b := b * d) (Int.mul_pos h5 h6) (Nat.lt_trans (mul_lt h3 h4) (by decide))
  rw [callF_open (fn := f1) rfl]
  simp [runF, f1, evSs, evS, ev, evL, evA, wipeS, over, isF, isFs, idxT, L2.atI, L2.ixN, op2_mul (m1 _), op2_mul (m2 _), op2_mul (m3 _), pgOf, z, back, addV]
/-- sums -/
def okSum : Q2 → List Q2 → Bool
  | a, [] => okQ a
  | a, x :: xs => okQ a && okQ x && okSum (addV a x) xs
theorem s3 {n : Nat} {o : Bool} {xs : List Q2} (h : okSum (0, 1) xs = true) : callF R' (n + 3) 3 [.lst o (xs.map fr)] = some (fr (xs.foldl addV (0, 1)), [.lst false (xs.map fr)]) := by
  rw [callF_open (fn := f3) rfl]
  have ffr : ∀ x : Q2, frz (fr x) = fr x := fun _ => rfl
  obtain ⟨t', e⟩ := forGo_fold (set := setG (pgOf R' (n + 2)) (.one (.nm 2))) (b := evSs (pgOf R' (n + 2)) f3_0)
    (S := fun (a : Q2) t => [.lst false (xs.map fr), fr a, t]) (f := addV) (v := fr) (fun a xs => okSum a xs = true) (fun a t x => rfl) (fun a x xs h => by
      simp only [okSum, Bool.and_eq_true] at h
      refine ⟨?_, h.2⟩
      simp [f3_0, evSs, evS, ev, evA, isF, isFs, pgOf, s1 h.1.1 h.1.2, back, setG, setG0]) xs (0, 1) .hole h
  simp [runF, f3, evSs, evS, ev, evI, setG, setG0, frz, frzs, items, frzs_map ffr, wipeS] at e ⊢
  simp [e]
def drawnV (w m k h : Int) : Q2 := if h < 0 ∨ m < h ∨ w - m < k - h then (0, 1) else norm (PySem.W.mcComb m h * PySem.W.mcComb (w - m) (k - h)) (PySem.W.mcComb w k)
def okDrawn (w m k h : Int) : Bool := decide (h ≤ k) && decide (0 ≤ m) && decide (m ≤ w) && decide (0 ≤ k) && decide (k ≤ w) && decide (w ≤ 2000) && (decide (h < 0 ∨ m < h ∨ w - m < k - h) || (decide (0 < PySem.W.mcComb w k) && decide ((PySem.W.mcComb w k).natAbs < 2 ^ 59) && decide ((PySem.W.mcComb m h).natAbs < 2 ^ 59)))
theorem s5 {n : Nat} {w m k h : Int} (ok : okDrawn w m k h = true) : callF R' (n + 2) 5 [.int w, .int m, .int k, .int h] = some (fr (drawnV w m k h), [.int w, .int m, .int k, .int h]) := by
  simp only [okDrawn, Bool.and_eq_true, Bool.or_eq_true, decide_eq_true_eq] at ok
  obtain ⟨⟨⟨⟨⟨⟨a0, a1⟩, a2⟩, a3⟩, a4⟩, a5⟩, a6⟩ := ok
  have e1 : decide (2000 < w) = false := decide_eq_false (by omega)
  rw [callF_open (fn := f5) rfl]
  simp [runF, f5, evSs, evS, ev, evL, evA, evC, setG, setG0, setNs, wipeS, over, isF, isFs, a1, a2, a3, a4, e1, pgOf]
  by_cases c1 : h < 0
  · simp [c1, drawnV]
  · by_cases c2 : m < h
    · simp [c1, c2, drawnV]
    · by_cases c3 : w - m < k - h
      · simp [c1, c2, c3, drawnV]
      · obtain ⟨⟨b1, b2⟩, b3⟩ := a6.resolve_left (by omega)
        simp [c1, c2, c3, drawnV, op2_comb (i := m) (j := h) (by omega) (by omega) (by omega), op2_comb (i := w - m) (j := k - h) (by omega) (by omega) (by omega), op2_comb (i := w) (j := k) (by omega) (by omega) (by omega), op2_mul (mulOk_tiny b3), s0 (n := n) b1 b2, back]
def damL (w m k a : Int) : List Q2 := (List.range ((if k < a then k else a) + 1).toNat).map fun (j : Nat) => drawnV w m k (j : Int)
def dam (w m k a : Int) : Q2 := (damL w m k a).foldl addV (0, 1)
def okDam (w m k a : Int) : Bool := decide (0 ≤ a) && decide (0 ≤ k) && decide (k ≤ 2000) && ((List.range ((if k < a then k else a) + 1).toNat).all fun (j : Nat) => okDrawn w m k (j : Int)) && okSum (0, 1) (damL w m k a)
theorem s6 {n : Nat} {w m k a : Int} (ok : okDam w m k a = true) : callF R' (n + 4) 6 [.int w, .int m, .int k, .int a] = some (fr (dam w m k a), [.int w, .int m, .int k, .int a]) := by
  simp only [okDam, Bool.and_eq_true, decide_eq_true_eq, List.all_eq_true] at ok
  obtain ⟨⟨⟨⟨a0, a1⟩, a2⟩, a3⟩, a4⟩ := ok
  rw [callF_open (fn := f6) rfl]
  obtain ⟨s', e1, e2⟩ := lcGo_mapM (set := setG (pgOf R' (n + 3)) (.one (.nm 4))) (c := ev (pgOf R' (n + 3)) .t f6_0) (e := ev (pgOf R' (n + 3)) .e f6_1) (wp := wipeS [4]) (s0 := [.int w, .int m, .int k, .int a, .hole]) (v := fun j : Nat => T.int (0 + (j : Int))) (w := fun j : Nat => fr (drawnV w m k (j : Int)))
    (List.range ((if k < a then k else a) + 1).toNat) [.int w, .int m, .int k, .int a, .hole] [] (fun x hx => by
      refine ⟨[.int w, .int m, .int k, .int a, .int (x : Int)], [.int w, .int m, .int k, .int a, .int (x : Int)], [.int w, .int m, .int k, .int a, .int (x : Int)], ?_, ?_, ?_, ?_⟩
      · simp [setG, setG0]
      · simp [f6_0, ev]
      · simp [f6_1, ev, evA, isF, pgOf, s5 (n := n + 1) (a3 x hx), back]
      · simp [wipeS]) rfl (by simp; split <;> omega)
  have e3 := s3 (n := n) (o := true) a4
  have hr : rngOk 0 ((if k < a then k else a) + 1) = true := by
    simp only [rngOk, Bool.and_eq_true, decide_eq_true_eq]
    refine ⟨⟨⟨by omega, by omega⟩, ?_⟩, ?_⟩
    · split <;> omega
    · split <;> omega
  have dl : List.map (fun j : Nat => fr (drawnV w m k ↑j)) (List.range ((if k < a then k else a) + 1).toNat) = List.map fr (damL w m k a) := by
    unfold damL
    rw [List.map_map]; rfl
  simp [runF, f6, evSs, evS, ev, evL, evA, evI, evC, setG, setG0, setNs, wipeS, over, hr, rngU, ownOk] at e1 e2 ⊢
  simp [e1, e2, restS, back, dl, e3, dam]
theorem s4 {n : Nat} {p : Q2} (hp : okQ p = true) (h0 : 0 ≤ p.1) (h1 : p.1 ≤ p.2) : callF R' (n + 2) 4 [fr p] = some (.non, [fr p]) := by
  obtain ⟨a, b⟩ := p
  simp only at h0 h1
  have z1 := s2 (n := n) (p := (a, b)) (q := (0, 1)) hp (by decide)
  have z2 := s2 (n := n) (p := (1, 1)) (q := (a, b)) (by decide) hp
  have l1 : lessV (a, b) (0, 1) = false := by simp [lessV]; omega
  have l2 : lessV (1, 1) (a, b) = false := by simp [lessV]; omega
  rw [l1] at z1
  rw [l2] at z2
  rw [callF_open (fn := f4) rfl]
  simp [runF, f4, evSs, evS, ev, evL, evA, back, wipeS] at z1 z2 ⊢
  simp [z1, z2, back]
theorem s7 {n : Nat} {w m k a : Int} (ok : okDam w m k a = true) : callF R' (n + 5) 7 [.int w, .int m, .int k, .int a] = some (fr (dam w m k a), [.int w, .int m, .int k, .int a]) := by
  rw [callF_open (fn := f7) rfl]
  simp [runF, f7, evSs, evS, ev, evL, evA, back, wipeS, s6 (n := n) ok]
end W78

namespace W78
open Pv PySem
def cA : Str := "Audit"
def nW : Str := "whole_many"
def nB : Str := "bearable"
def nR : Str := "risk"
def nS : Str := "seen"
def nX : Str := "wrong"
def nsA : List Str := [nW, nB, nR, nS, nX]
abbrev aud (o : Bool) (w b : Int) (r : Q2) (s x : Int) : T := .ins o cA nsA [.int w, .int b, fr r, .int s, .int x]
theorem eW : ("whole_many" : Str) = nW := rfl
theorem eB : ("bearable" : Str) = nB := rfl
theorem eR : ("risk" : Str) = nR := rfl
theorem eS : ("seen" : Str) = nS := rfl
theorem eX : ("wrong" : Str) = nX := rfl
theorem eA : ("Audit" : Str) = cA := rfl
section
variable {n : Nat} {o : Bool} {ts : List T} {x : T}
theorem ch_ {f : Str} {i : Nat} (h1 : (cA, f) ∈ fd) (h2 : nsA.idxOf? f = some i) : child (pgOf R' n) (.ins o cA nsA ts) f = ts[i]? := by
  have e : R'.fd.contains (cA, f) = true := List.contains_iff_mem.mpr h1
  show (if R'.fd.contains (cA, f) = true then _ else _) = _
  rw [if_pos e, h2]; rfl
theorem chW : child (pgOf R' n) (.ins o cA nsA ts) nW = ts[0]? := ch_ (by decide +kernel) (by decide +kernel)
theorem chB : child (pgOf R' n) (.ins o cA nsA ts) nB = ts[1]? := ch_ (by decide +kernel) (by decide +kernel)
theorem chR : child (pgOf R' n) (.ins o cA nsA ts) nR = ts[2]? := ch_ (by decide +kernel) (by decide +kernel)
theorem chS : child (pgOf R' n) (.ins o cA nsA ts) nS = ts[3]? := ch_ (by decide +kernel) (by decide +kernel)
theorem chX : child (pgOf R' n) (.ins o cA nsA ts) nX = ts[4]? := ch_ (by decide +kernel) (by decide +kernel)
theorem st_ {f : Str} {i : Nat} (h1 : (cA, f) ∈ fd) (h2 : nsA.idxOf? f = some i) : setC (pgOf R' n) (.ins o cA nsA ts) f x = some (.ins o cA nsA (ts.set i x)) := by
  have e : R'.fd.contains (cA, f) = true := List.contains_iff_mem.mpr h1
  show (if (R'.fd.contains (cA, f) && decide (nsA.length < 900)) = true then _ else _) = _
  rw [e, if_pos (by decide), h2]
theorem stS_ : setC (pgOf R' n) (.ins o cA nsA ts) nS x = some (.ins o cA nsA (ts.set 3 x)) := st_ (by decide +kernel) (by decide +kernel)
theorem stX_ : setC (pgOf R' n) (.ins o cA nsA ts) nX x = some (.ins o cA nsA (ts.set 4 x)) := st_ (by decide +kernel) (by decide +kernel)
theorem new_ {f : Str} {ns : List Str} (h1 : (cA, f) ∈ fd) (h2 : ns.idxOf? f = none) (h3 : ns.length < 900) : setC (pgOf R' n) (.ins o cA ns ts) f x = some (.ins o cA (ns ++ [f]) (ts ++ [x])) := by
  have e : R'.fd.contains (cA, f) = true := List.contains_iff_mem.mpr h1
  show (if (R'.fd.contains (cA, f) && decide (ns.length < 900)) = true then _ else _) = _
  rw [e, if_pos (by simpa using h3), h2]
theorem new1 : setC (pgOf R' n) (.ins o cA [] ts) nW x = some (.ins o cA [nW] (ts ++ [x])) := new_ (by decide +kernel) (by decide +kernel) (by decide)
theorem new2 : setC (pgOf R' n) (.ins o cA [nW] ts) nB x = some (.ins o cA [nW, nB] (ts ++ [x])) := new_ (by decide +kernel) (by decide +kernel) (by decide)
theorem new3 : setC (pgOf R' n) (.ins o cA [nW, nB] ts) nR x = some (.ins o cA [nW, nB, nR] (ts ++ [x])) := new_ (by decide +kernel) (by decide +kernel) (by decide)
theorem new4 : setC (pgOf R' n) (.ins o cA [nW, nB, nR] ts) nS x = some (.ins o cA [nW, nB, nR, nS] (ts ++ [x])) := new_ (by decide +kernel) (by decide +kernel) (by decide)
theorem new5 : setC (pgOf R' n) (.ins o cA [nW, nB, nR, nS] ts) nX x = some (.ins o cA nsA (ts ++ [x])) := new_ (by decide +kernel) (by decide +kernel) (by decide)
end
theorem s10 {n : Nat} {w b : Int} {r : Q2} (hr : okQ r = true) (h0 : 0 ≤ r.1) (h1 : r.1 ≤ r.2) (hb : 0 ≤ b) (hw : b ≤ w) : callF R' (n + 3) 10 [.ins true cA [] [], .int w, .int b, fr r] = some (.non, [aud true w b r 0 0, .int w, .int b, fr r]) := by
  rw [callF_open (fn := f10) rfl]
  simp [runF, f10, evSs, evS, ev, evL, evA, evC, back, wipeS, s4 (n := n) hr h0 h1, hb, hw, setG, setG0, eW, eB, eR, eS, eX, new1, new2, new3, new4, new5]
theorem s11 {n : Nat} {w b : Int} {r : Q2} {s x : Int} {k : Bool} (h : s ≠ w) : callF R' (n + 1) 11 [aud true w b r s x, .bl k] = some (.non, [aud true w b r (s + 1) (if k then x + 1 else x), .bl k]) := by
  rw [callF_open (fn := f11) rfl]
  cases k <;> simp [runF, f11, evSs, evS, ev, evL, evA, evC, back, wipeS, h, setG, setG0, eW, eB, eR, eS, eX, chW, chB, chR, chS, chX, stS_, stX_, over, brw, atom]
def shownV (w b : Int) (r : Q2) (s x : Int) : Bool := if w - (s - x) < b + 1 then true else !lessV r (dam w (b + 1) s x)
theorem s12 {n : Nat} {o : Bool} {w b : Int} {r : Q2} {s x : Int} (hr : okQ r = true) (h : ¬ w - (s - x) < b + 1 → okDam w (b + 1) s x = true ∧ okQ (dam w (b + 1) s x) = true) : callF R' (n + 5) 12 [aud o w b r s x] = some (.bl (shownV w b r s x), [aud o w b r s x]) := by
  rw [callF_open (fn := f12) rfl]
  by_cases c : w - (s - x) < b + 1
  · cases o <;> simp [runF, f12, evSs, evS, ev, evL, evA, evC, back, wipeS, setG, setG0, eW, eB, eR, eS, eX, chW, chB, chR, chS, chX, over, brw, atom, shownV, c]
  · obtain ⟨g1, g2⟩ := h c
    have z1 := s6 (n := n) g1
    have z2 := s2 (n := n + 3) hr g2
    cases o <;> simp [runF, f12, evSs, evS, ev, evL, evA, evC, back, wipeS, setG, setG0, eW, eB, eR, eS, eX, chW, chB, chR, chS, chX, over, brw, atom, shownV, c, z1, z2]
theorem m13 : R'.mt.lookup (cA, ("is_lost" : Str)) = some 13 := by
  show mt.lookup (cA, ("is_lost" : Str)) = some 13
  decide +kernel
theorem m12 : R'.mt.lookup (cA, ("is_shown" : Str)) = some 12 := by
  show mt.lookup (cA, ("is_shown" : Str)) = some 12
  decide +kernel
theorem m11 : R'.mt.lookup (cA, ("look" : Str)) = some 11 := by
  show mt.lookup (cA, ("look" : Str)) = some 11
  decide +kernel
theorem m14 : R'.mt.lookup (cA, ("verdict" : Str)) = some 14 := by
  show mt.lookup (cA, ("verdict" : Str)) = some 14
  decide +kernel
theorem m15 : R'.mt.lookup (cA, ("more" : Str)) = some 15 := by
  show mt.lookup (cA, ("more" : Str)) = some 15
  decide +kernel
theorem q13 : ("is_lost" : Str) ∉ nsA := by decide +kernel
theorem q12 : ("is_shown" : Str) ∉ nsA := by decide +kernel
theorem q11 : ("look" : Str) ∉ nsA := by decide +kernel
theorem q14 : ("verdict" : Str) ∉ nsA := by decide +kernel
theorem q15 : ("more" : Str) ∉ nsA := by decide +kernel
theorem s13 {n : Nat} {o : Bool} {w b : Int} {r : Q2} {s x : Int} : callF R' (n + 1) 13 [aud o w b r s x] = some (.bl (decide (b < x)), [aud o w b r s x]) := by
  rw [callF_open (fn := f13) rfl]
  cases o <;> simp [runF, f13, evSs, evS, ev, wipeS, eB, eX, chB, chX, over, brw, atom]
theorem s14 {n : Nat} {w b : Int} {r : Q2} {s x : Int} (hr : okQ r = true) (h : ¬ w - (s - x) < b + 1 → okDam w (b + 1) s x = true ∧ okQ (dam w (b + 1) s x) = true) (hx : x ≤ b) : callF R' (n + 6) 14 [aud true w b r s x] = some (.str (if shownV w b r s x then "shown" else "open"), [aud true w b r s x]) := by
  have z1 := s13 (n := n + 4) (o := true) (w := w) (b := b) (r := r) (s := s) (x := x)
  have z2 := s12 (n := n) (o := true) hr h
  have e : decide (b < x) = false := decide_eq_false (by omega)
  rw [e] at z1
  rw [callF_open (fn := f14) rfl]
  cases hs : shownV w b r s x <;> rw [hs] at z2 <;> simp [runF, f14, evSs, evS, ev, evA, wipeS, m13, m12, q13, q12, z1, z2, back]
end W78

namespace W78
open Pv PySem
theorem s8 {n : Nat} {w k f : Int} {r : Q2} (hr : okQ r = true) (r0 : 0 ≤ r.1) (r1 : r.1 ≤ r.2) (f0 : 0 ≤ f) (fk : f ≤ k) (kw : k ≤ w) (w2 : w ≤ 2000) (hD : ∀ m, f < m → m ≤ w - k + f → okDam w m k f = true ∧ okQ (dam w m k f) = true) :
    ∃ g ts', callF R' (n + 6) 8 [.int w, .int k, .int f, fr r] = some (.int g, ts') ∧ (∃ a b c d, ts' = [a, b, c, d]) ∧ f ≤ g ∧ g ≤ w - k + f ∧ (g = f ∨ lessV r (dam w g k f) = true) ∧ (g = w - k + f ∨ lessV r (dam w (g + 1) k f) = false) := by
  rw [callF_open (fn := f8) rfl]
  obtain ⟨fl, sl', e1, rfl, g, t, rfl, p1, p2, p3, p4⟩ := whlGo_inv (c := ev (pgOf R' (n + 5)) .t f8_0) (b := evSs (pgOf R' (n + 5)) f8_1)
    (fun m sl => ∃ low high t, sl = [.int w, .int k, .int f, fr r, .int low, .int high, t] ∧ f ≤ low ∧ low ≤ high ∧ high ≤ w - k + f ∧ (low = f ∨ lessV r (dam w low k f) = true) ∧ (high = w - k + f ∨ lessV r (dam w (high + 1) k f) = false) ∧ m = (high - low).toNat)
    (fun fl sl => fl = .nx ∧ ∃ g t, sl = [.int w, .int k, .int f, fr r, .int g, .int g, t] ∧ f ≤ g ∧ g ≤ w - k + f ∧ (g = f ∨ lessV r (dam w g k f) = true) ∧ (g = w - k + f ∨ lessV r (dam w (g + 1) k f) = false))
    (fun m sl ⟨low, high, t, hs, h1, h2, h3, h4, h5, hm⟩ => by
      subst hs hm
      refine ⟨decide (low < high), [.int w, .int k, .int f, fr r, .int low, .int high, t], by simp [f8_0, ev, over, brw], fun hc => ?_, fun hc => ?_⟩
      · have : high = low := by have := of_decide_eq_false hc; omega
        subst this
        exact ⟨rfl, _, _, rfl, h1, h3, h4, h5⟩
      · have hc := of_decide_eq_true hc
        generalize hmid : (low + high + 1) / 2 = mid
        have b1 : low < mid := by omega
        have b2 : mid ≤ high := by omega
        obtain ⟨d1, d2⟩ := hD mid (by omega) (by omega)
        have z1 := s6 (n := n + 1) d1
        have z2 := s2 (n := n + 4) hr d2
        have two : op2 .fdiv (.int (low + high + 1)) (.int 2) = some (.int mid) := by rw [← hmid]; exact op2_fdiv (by decide) (by decide)
        cases hl : lessV r (dam w mid k f) with
        | true =>
          rw [hl] at z2
          refine ⟨.nx, [.int w, .int k, .int f, fr r, .int mid, .int high, .int mid], by simp [f8_1, evSs, evS, ev, evA, over, two, setG, setG0, z1, z2, back], (high - mid).toNat, by omega, mid, high, _, rfl, by omega, b2, h3, .inr hl, h5, rfl⟩
        | false =>
          rw [hl] at z2
          refine ⟨.nx, [.int w, .int k, .int f, fr r, .int low, .int (mid - 1), .int mid], by simp [f8_1, evSs, evS, ev, evA, over, two, setG, setG0, z1, z2, back], (mid - 1 - low).toNat, by omega, low, mid - 1, _, rfl, h1, by omega, by omega, h4, .inr (by rw [show mid - 1 + 1 = mid by omega]; exact hl), rfl⟩)
    fuel (w - k + f - f).toNat [.int w, .int k, .int f, fr r, .int f, .int (w - k + f), .hole] (by unfold fuel; omega) ⟨f, w - k + f, .hole, rfl, by omega, by omega, by omega, .inl rfl, .inl rfl, rfl⟩
  refine ⟨g, [.int w, .int k, .int f, fr r], ?_, ⟨_, _, _, _, rfl⟩, p1, p2, p3, p4⟩
  simp [runF, f8, evSs, evS, ev, evL, evA, evC, over, setG, setG0, setNs, back, wipeS, s4 (n := n + 3) hr r0 r1, f0, fk, kw, e1]
theorem s9 {n : Nat} {w b : Int} {r : Q2} (hr : okQ r = true) (r0 : 0 ≤ r.1) (r1 : r.1 ≤ r.2) (b0 : 0 ≤ b) (bw : b ≤ w) (w2 : w ≤ 2000) (hD : ∀ k, 0 ≤ k → k ≤ w → okDam w b k 0 = true ∧ okQ (dam w b k 0) = true) :
    ∃ z ts', callF R' (n + 6) 9 [.int w, .int b, .int 0, fr r] = some (if z ≤ w then .int z else .non, ts') ∧ (∃ a b c d, ts' = [a, b, c, d]) ∧ 0 ≤ z ∧ z ≤ w + 1 ∧ (z = 0 ∨ lessV r (dam w b (z - 1) 0) = true) ∧ (z = w + 1 ∨ lessV r (dam w b z 0) = false) := by
  rw [callF_open (fn := f9) rfl]
  obtain ⟨fl, sl', e1, rfl, g, t, rfl, p1, p2, p3, p4⟩ := whlGo_inv (c := ev (pgOf R' (n + 5)) .t f9_0) (b := evSs (pgOf R' (n + 5)) f9_1)
    (fun m sl => ∃ low high t, sl = [.int w, .int b, .int 0, fr r, .int low, .int high, t] ∧ 0 ≤ low ∧ low ≤ high ∧ high ≤ w + 1 ∧ (low = 0 ∨ lessV r (dam w b (low - 1) 0) = true) ∧ (high = w + 1 ∨ lessV r (dam w b high 0) = false) ∧ m = (high - low).toNat)
    (fun fl sl => fl = .nx ∧ ∃ g t, sl = [.int w, .int b, .int 0, fr r, .int g, .int g, t] ∧ 0 ≤ g ∧ g ≤ w + 1 ∧ (g = 0 ∨ lessV r (dam w b (g - 1) 0) = true) ∧ (g = w + 1 ∨ lessV r (dam w b g 0) = false))
    (fun m sl ⟨low, high, t, hs, h1, h2, h3, h4, h5, hm⟩ => by
      subst hs hm
      refine ⟨decide (low < high), [.int w, .int b, .int 0, fr r, .int low, .int high, t], by simp [f9_0, ev, over, brw], fun hc => ?_, fun hc => ?_⟩
      · have : high = low := by have := of_decide_eq_false hc; omega
        subst this
        exact ⟨rfl, _, _, rfl, h1, h3, h4, h5⟩
      · have hc := of_decide_eq_true hc
        generalize hmid : (low + high) / 2 = mid
        have b1 : low ≤ mid := by omega
        have b2 : mid < high := by omega
        obtain ⟨d1, d2⟩ := hD mid (by omega) (by omega)
        have z1 := s7 (n := n) d1
        have z2 := s2 (n := n + 4) hr d2
        have ne : decide (mid = w + 1) = false := decide_eq_false (by omega)
        have two : op2 .fdiv (.int (low + high)) (.int 2) = some (.int mid) := by rw [← hmid]; exact op2_fdiv (by decide) (by decide)
        cases hl : lessV r (dam w b mid 0) with
        | true =>
          rw [hl] at z2
          refine ⟨.nx, [.int w, .int b, .int 0, fr r, .int (mid + 1), .int high, .int mid], by simp [f9_1, evSs, evS, ev, evA, over, two, setG, setG0, z1, z2, back, ne], (high - (mid + 1)).toNat, by omega, mid + 1, high, _, rfl, by omega, by omega, h3, .inr (by rw [show mid + 1 - 1 = mid by omega]; exact hl), h5, rfl⟩
        | false =>
          rw [hl] at z2
          refine ⟨.nx, [.int w, .int b, .int 0, fr r, .int low, .int mid, .int mid], by simp [f9_1, evSs, evS, ev, evA, over, two, setG, setG0, z1, z2, back, ne], (mid - low).toNat, by omega, low, mid, _, rfl, h1, b1, by omega, h4, .inr hl, rfl⟩)
    fuel (w + 1 - 0).toNat [.int w, .int b, .int 0, fr r, .int 0, .int (w + 1), .hole] (by unfold fuel; omega) ⟨0, w + 1, .hole, rfl, by omega, by omega, by omega, .inl rfl, .inl rfl, rfl⟩
  refine ⟨g, [.int w, .int b, .int 0, fr r], ?_, ⟨_, _, _, _, rfl⟩, p1, p2, p3, p4⟩
  by_cases hg : g ≤ w
  · simp [runF, f9, evSs, evS, ev, evL, evA, evC, over, setG, setG0, setNs, back, wipeS, s4 (n := n + 3) hr r0 r1, b0, bw, e1, hg]
  · simp [runF, f9, evSs, evS, ev, evL, evA, evC, over, setG, setG0, setNs, back, wipeS, s4 (n := n + 3) hr r0 r1, b0, bw, e1, hg]
end W78

namespace W78
open Pv PySem
theorem s15 {n : Nat} {w b : Int} {r : Q2} (hr : okQ r = true) (r0 : 0 ≤ r.1) (r1 : r.1 ≤ r.2) (b0 : 0 ≤ b) (bw : b ≤ w) (w2 : w ≤ 2000) (hD : ∀ j, 0 ≤ j → j ≤ w → ¬ w - j < b + 1 → okDam w (b + 1) j 0 = true ∧ okQ (dam w (b + 1) j 0) = true) :
    ∃ z t, callF R' (n + 6) 15 [aud true w b r 0 0] = some (.int z, [t]) ∧ 0 ≤ z ∧ z ≤ w ∧ shownV w b r z 0 = true ∧ ∀ j, 0 ≤ j → j < z → shownV w b r j 0 = false := by
  rw [callF_open (fn := f15) rfl]
  have z13 := s13 (n := n + 4) (o := true) (w := w) (b := b) (r := r) (s := 0) (x := 0)
  have e0 : decide (b < 0) = false := decide_eq_false (by omega)
  rw [e0] at z13
  have z10 := s10 (n := n + 2) hr r0 r1 b0 bw
  obtain ⟨fl, sl', e1, rfl, z, rfl, p1, p2, p3, p4⟩ := whlGo_inv (c := ev (pgOf R' (n + 5)) .t f15_0) (b := evSs (pgOf R' (n + 5)) f15_1)
    (fun m sl => ∃ j, sl = [aud true w b r 0 0, aud true w b r j 0, .int j] ∧ 0 ≤ j ∧ j ≤ w ∧ (∀ i, 0 ≤ i → i < j → shownV w b r i 0 = false) ∧ m = (w - j).toNat)
    (fun fl sl => fl = .nx ∧ ∃ j, sl = [aud true w b r 0 0, aud true w b r j 0, .int j] ∧ 0 ≤ j ∧ j ≤ w ∧ shownV w b r j 0 = true ∧ ∀ i, 0 ≤ i → i < j → shownV w b r i 0 = false)
    (fun m sl ⟨j, hs, h1, h2, h3, hm⟩ => by
      subst hs hm
      have z12 := s12 (n := n) (o := true) (s := j) (x := 0) hr (fun c => hD j h1 h2 (by omega))
      refine ⟨!shownV w b r j 0, [aud true w b r 0 0, aud true w b r j 0, .int j], by simp [f15_0, ev, evA, m12, q12, z12, back], fun hc => ?_, fun hc => ?_⟩
      · exact ⟨rfl, j, rfl, h1, h2, by simpa using hc, h3⟩
      · have hc : shownV w b r j 0 = false := by simpa using hc
        have jw : j ≠ w := fun e => by
          subst e
          unfold shownV at hc
          rw [if_pos (by omega)] at hc
          cases hc
        have z11 := s11 (n := n + 4) (b := b) (r := r) (x := 0) (k := false) jw
        refine ⟨.nx, [aud true w b r 0 0, aud true w b r (j + 1) 0, .int (j + 1)], by simp [f15_1, evSs, evS, ev, evA, m11, q11, z11, back], (w - (j + 1)).toNat, by omega, j + 1, rfl, by omega, by omega, fun i i0 i1 => ?_, rfl⟩
        by_cases hi : i = j
        · rw [hi]; exact hc
        · exact h3 i i0 (by omega))
    fuel (w - 0).toNat [aud true w b r 0 0, aud true w b r 0 0, .int 0] (by unfold fuel; omega) ⟨0, rfl, by omega, by omega, fun i i0 i1 => by omega, rfl⟩
  refine ⟨z, aud true w b r 0 0, ?_, p1, p2, p3, p4⟩
  simp [runF, f15, evSs, evS, ev, evL, evA, m13, q13, z13, back, eW, eB, eR, eS, eX, eA, chW, chB, chR, chS, chX, over, z10, setG, setGs, setG0, stS_, stX_, e1, wipeS, okN_of]
/-! ### the law's helpers -/
abbrev tape (o : Bool) (cs : List T) (k c : Int) : T := .lst true [.lst o cs, .int k, .int c]
theorem s17 {n : Nat} {ns : List Int} : callF R' (n + 1) 17 [.lst false (ns.map T.int)] = some (tape true (ns.map T.int) 0 0, [.lst false (ns.map T.int)]) := by
  have h : isFs (ns.map T.int) = true := isFs_map (fun _ => isF_int) ns
  rw [callF_open (fn := f17) rfl]
  simp [runF, f17, evSs, evS, ev, evL, op1_list h, okN_of, wipeS]
theorem mulOk_r {i j : Int} (h : j.natAbs < 2 ^ 59) : mulOk i j = true := by
  have : j.natAbs.log2 < 60 := by
    by_cases z : j.natAbs = 0
    · rw [z]; decide
    · exact Nat.lt_of_lt_of_le ((Nat.log2_lt z).mpr h) (by decide)
  simp [mulOk, tinyI, this]
theorem at_nat {ns : List Int} {k : Nat} (h : k < ns.length) : L2.atI (ns.map T.int) (k : Int) = some (.int ns[k]) := by
  unfold L2.atI L2.ixN
  simp [h]
def cell1 (c : Int) : Int := if c < 0 then -2 * c - 1 else c
def cell2 (c : Int) (k : Nat) : Int := if c < 1000000000 then ((c * 48271 + k * 69621 + 12345) % 2147483647 * 16807 + k * 39373 + 6789) % 2147483629 else c
def cellOf (ns : List Int) (k : Nat) : Int := cell2 (cell1 (if h : k < ns.length then ns[k] else 0)) k
theorem p9 : op2 .pow (.int 10) (.int 9) = some (.int 1000000000) := rfl
theorem mul2 {c : Int} : op2 .mul (.int (-2)) (.int c) = some (.int (-2 * c)) := op2_mul (mulOk_tiny (by decide))
theorem mulc {c : Int} : op2 .mul (.int c) (.int 48271) = some (.int (c * 48271)) := op2_mul (mulOk_r (by decide))
theorem mulk {c : Int} : op2 .mul (.int c) (.int 69621) = some (.int (c * 69621)) := op2_mul (mulOk_r (by decide))
theorem muld {c : Int} : op2 .mul (.int c) (.int 16807) = some (.int (c * 16807)) := op2_mul (mulOk_r (by decide))
theorem mule {c : Int} : op2 .mul (.int c) (.int 39373) = some (.int (c * 39373)) := op2_mul (mulOk_r (by decide))
theorem modA {c : Int} : op2 .mod (.int c) (.int 2147483647) = some (.int (c % 2147483647)) := op2_mod (by decide)
theorem modB {c : Int} : op2 .mod (.int c) (.int 2147483629) = some (.int (c % 2147483629)) := op2_mod (by decide)
/-- the draw's second part -/
theorem s16 {n : Nat} {o : Bool} {ns : List Int} {k : Nat} {c m : Int} (hm : 0 < m) (hm2 : m < 1000) : ∃ d c' o' k', callF R' (n + 1) 16 [tape o (ns.map T.int) (k : Nat) c, .int m] = some (.int d, [tape o' (ns.map T.int) (k' : Nat) c', .int m]) ∧ 0 ≤ d ∧ d < m := by
  have hF : isFs (ns.map T.int) = true := isFs_map (fun _ => isF_int) ns
  have hZ : frzs (ns.map T.int) = ns.map T.int := frzs_map (fun _ => frz_int) ns
  have dv : ∀ c, op2 .fdiv (.int c) (.int m) = some (.int (c / m)) := fun c => op2_fdiv hm (log2_of (by omega))
  have md : ∀ c, op2 .mod (.int c) (.int m) = some (.int (c % m)) := fun c => op2_mod hm
  rw [callF_open (fn := f16) rfl]
  by_cases hc : c < m
  · refine ⟨cellOf ns k % m, cellOf ns k / m, false, k + 1, ?_, Int.emod_nonneg _ (by omega), Int.emod_lt_of_pos _ hm⟩
    by_cases hk : k < ns.length
    · have ha := at_nat hk
      by_cases h1 : ns[k] < 0
      · by_cases h2 : -2 * ns[k] - 1 < 1000000000
        · cases o <;> simp [runF, f16, evSs, evS, ev, setG, setG0, plc, brw, hF, hZ, idxT, L2.atI, L2.ixN, over, hc, dv, md, wipeS, atom, ha, hk, h1, h2, p9, mul2, mulc, mulk, muld, mule, modA, modB, cellOf, cell1, cell2]
        · cases o <;> simp [runF, f16, evSs, evS, ev, setG, setG0, plc, brw, hF, hZ, idxT, L2.atI, L2.ixN, over, hc, dv, md, wipeS, atom, ha, hk, h1, h2, p9, mul2, mulc, mulk, muld, mule, modA, modB, cellOf, cell1, cell2]
      · by_cases h2 : ns[k] < 1000000000
        · cases o <;> simp [runF, f16, evSs, evS, ev, setG, setG0, plc, brw, hF, hZ, idxT, L2.atI, L2.ixN, over, hc, dv, md, wipeS, atom, ha, hk, h1, h2, p9, mul2, mulc, mulk, muld, mule, modA, modB, cellOf, cell1, cell2]
        · cases o <;> simp [runF, f16, evSs, evS, ev, setG, setG0, plc, brw, hF, hZ, idxT, L2.atI, L2.ixN, over, hc, dv, md, wipeS, atom, ha, hk, h1, h2, p9, mul2, mulc, mulk, muld, mule, modA, modB, cellOf, cell1, cell2]
    · cases o <;> simp [runF, f16, evSs, evS, ev, setG, setG0, plc, brw, hF, hZ, idxT, L2.atI, L2.ixN, over, hc, dv, md, wipeS, atom, hk, p9, mul2, mulc, mulk, muld, mule, modA, modB, cellOf, cell1, cell2]
  · refine ⟨c % m, c / m, o, k, ?_, Int.emod_nonneg _ (by omega), Int.emod_lt_of_pos _ hm⟩
    cases o <;> simp [runF, f16, evSs, evS, ev, setG, setG0, plc, brw, hF, hZ, idxT, L2.atI, L2.ixN, over, hc, dv, md, wipeS, atom]
end W78

namespace W78
open Pv PySem
def rg (n : Nat) : List Nat := List.range n
def leV (p q : Q2) : Bool := decide (p.1 * q.2 ≤ q.1 * p.2)
def chkA (w k a : Nat) : Bool := (rg (w + 1)).all fun m => okDam w m k a && okQ (dam w m k a) && (decide (m = w) || leV (dam w ((m : Int) + 1) k a) (dam w m k a))
def chkB (w m : Nat) : Bool := (rg (w + 1)).all fun k => (decide (k = w) || leV (dam w m ((k : Int) + 1) 0) (dam w m k 0)) && (decide (m ≤ w - k) || decide ((dam w m k 0).1 = 0))
def allA (w : Nat) : Bool := (rg (w + 1)).all fun k => (rg 4).all fun a => decide (k < a) || chkA w k a
def allB (w : Nat) : Bool := (rg (w + 1)).all fun m => chkB w m
theorem A1 : ((rg 11).all allA) = true := by decide +kernel
theorem A2 : allA 11 = true := by decide +kernel
theorem A3 : allA 12 = true := by decide +kernel
theorem A4 : allA 13 = true := by decide +kernel
theorem A5 : allA 14 = true := by decide +kernel
theorem B1 : ((rg 15).all allB) = true := by decide +kernel
theorem allA_ (w : Nat) (h : w ≤ 14) : allA w = true := by
  by_cases h1 : w < 11
  · exact List.all_eq_true.mp A1 w (List.mem_range.mpr h1)
  · have : w = 11 ∨ w = 12 ∨ w = 13 ∨ w = 14 := by omega
    rcases this with rfl | rfl | rfl | rfl
    · exact A2
    · exact A3
    · exact A4
    · exact A5
theorem allB_ (w : Nat) (h : w ≤ 14) : allB w = true := List.all_eq_true.mp B1 w (List.mem_range.mpr (by omega))
/-- what the sums do -/
theorem factA {w m k a : Int} (w0 : 0 ≤ w) (w1 : w ≤ 14) (m0 : 0 ≤ m) (m1 : m ≤ w) (k0 : 0 ≤ k) (k1 : k ≤ w) (a0 : 0 ≤ a) (a1 : a ≤ 3) (ak : a ≤ k) : okDam w m k a = true ∧ okQ (dam w m k a) = true ∧ (m < w → leV (dam w (m + 1) k a) (dam w m k a) = true) := by
  obtain ⟨w, rfl⟩ := Int.eq_ofNat_of_zero_le w0
  obtain ⟨m, rfl⟩ := Int.eq_ofNat_of_zero_le m0
  obtain ⟨k, rfl⟩ := Int.eq_ofNat_of_zero_le k0
  obtain ⟨a, rfl⟩ := Int.eq_ofNat_of_zero_le a0
  have h := List.all_eq_true.mp (List.all_eq_true.mp (allA_ w (by omega)) k (List.mem_range.mpr (by omega))) a (List.mem_range.mpr (by omega))
  simp only [Bool.or_eq_true, decide_eq_true_eq] at h
  have h2 := List.all_eq_true.mp (h.resolve_left (by omega)) m (List.mem_range.mpr (by omega))
  simp only [Bool.and_eq_true, Bool.or_eq_true, decide_eq_true_eq] at h2
  exact ⟨h2.1.1, h2.1.2, fun hm => h2.2.resolve_left (by omega)⟩
theorem factB {w m k : Int} (w0 : 0 ≤ w) (w1 : w ≤ 14) (m0 : 0 ≤ m) (m1 : m ≤ w) (k0 : 0 ≤ k) (k1 : k ≤ w) : (k < w → leV (dam w m (k + 1) 0) (dam w m k 0) = true) ∧ (w - k < m → (dam w m k 0).1 = 0) := by
  obtain ⟨w, rfl⟩ := Int.eq_ofNat_of_zero_le w0
  obtain ⟨m, rfl⟩ := Int.eq_ofNat_of_zero_le m0
  obtain ⟨k, rfl⟩ := Int.eq_ofNat_of_zero_le k0
  have h := List.all_eq_true.mp (List.all_eq_true.mp (allB_ w (by omega)) m (List.mem_range.mpr (by omega))) k (List.mem_range.mpr (by omega))
  simp only [Bool.and_eq_true, Bool.or_eq_true, decide_eq_true_eq] at h
  exact ⟨fun hk => h.1.resolve_left (by omega), fun hm => h.2.resolve_left (by omega)⟩
end W78

namespace W78
open Pv PySem
theorem less_le2 {r p q : Q2} (hp : 0 < p.2) (hq : 0 < q.2) (hr : 0 < r.2) (h : lessV r p = true) (h2 : leV p q = true) : lessV r q = true := by
  simp only [lessV, leV, decide_eq_true_eq] at h h2 ⊢
  have h3 : r.1 * p.2 * q.2 < p.1 * r.2 * q.2 := Int.mul_lt_mul_of_pos_right h hq
  have h4 : p.1 * q.2 * r.2 ≤ q.1 * p.2 * r.2 := Int.mul_le_mul_of_nonneg_right h2 (by omega)
  have h5 : r.1 * q.2 * p.2 < q.1 * r.2 * p.2 := by
    have e1 : r.1 * q.2 * p.2 = r.1 * p.2 * q.2 := by rw [Int.mul_assoc, Int.mul_comm q.2, ← Int.mul_assoc]
    have e2 : p.1 * r.2 * q.2 = p.1 * q.2 * r.2 := by rw [Int.mul_assoc, Int.mul_comm r.2, ← Int.mul_assoc]
    have e3 : q.1 * p.2 * r.2 = q.1 * r.2 * p.2 := by rw [Int.mul_assoc, Int.mul_comm p.2, ← Int.mul_assoc]
    rw [e1]; rw [e2] at h3; rw [e3] at h4
    omega
  exact Int.lt_of_mul_lt_mul_right h5 (by omega)
theorem s18 {n : Nat} {a b : Bool} : callF R' (n + 1) 18 [.bl a, .bl b] = some (.bl (decide (a = b)), [.bl a, .bl b]) := by
  rw [callF_open (fn := f18) rfl]
  simp [runF, f18, evSs, evS, ev, op1, over, wipeS]
theorem s19 {n : Nat} {a b : Int} : callF R' (n + 1) 19 [.int a, .int b] = some (.bl (decide (a = b)), [.int a, .int b]) := by
  rw [callF_open (fn := f19) rfl]
  simp [runF, f19, evSs, evS, ev, op1, over, wipeS, isNon]
theorem s20 {n : Nat} {a b : Int} (h : 0 < b) (h2 : b < 1000) : callF R' (n + 1) 20 [.int a, .int b] = some (.int (a % b), [.int a, .int b]) := by
  have d := op2_fdiv (i := a) (j := b) h (log2_of (by omega))
  have m := op2_mul (i := a / b) (j := b) (mulOk_r (by omega))
  have e : a - a / b * b = a % b := by have := Int.mul_ediv_add_emod a b; rw [Int.mul_comm] at this; omega
  rw [callF_open (fn := f20) rfl]
  simp [runF, f20, evSs, evS, ev, over, wipeS, d, m, e]
def stepG (p : Int × Int) (_ : Nat) : Int × Int := if p.2 = 0 then p else (p.2, p.1 % p.2)
def comV (a b : Int) : Int := ((List.range 200).foldl stepG (a, b)).1
theorem s21 {n : Nat} {a b : Int} (ha : 0 ≤ a) (ha2 : a < 1000) (hb : 0 ≤ b) (hb2 : b < 1000) : ∃ r1 r2, callF R' (n + 2) 21 [.int a, .int b] = some (.int (comV a b), [r1, r2]) := by
  rw [callF_open (fn := f21) rfl]
  obtain ⟨t', e⟩ := forGo_fold (set := setG (pgOf R' (n + 1)) (.one (.nm 2))) (b := evSs (pgOf R' (n + 1)) f21_0)
    (S := fun (p : Int × Int) t => [.int p.1, .int p.2, t]) (f := stepG) (v := fun k : Nat => T.int (0 + (k : Int))) (fun p _ => 0 ≤ p.1 ∧ p.1 < 1000 ∧ 0 ≤ p.2 ∧ p.2 < 1000) (fun a t x => rfl) (fun p x xs ⟨h1, h2, h3, h4⟩ => by
      obtain ⟨a, b⟩ := p
      simp only at h1 h2 h3 h4
      by_cases hz : b = 0
      · subst hz
        exact ⟨by simp [f21_0, evSs, evS, ev, over, stepG], by simp [stepG]; omega⟩
      · have z := s20 (n := n) (a := a) (b := b) (by omega) h4
        refine ⟨by simp [f21_0, evSs, evS, ev, evL, evA, over, stepG, hz, z, back, setNs], ?_⟩
        have q1 := Int.emod_nonneg a hz
        have q2 := Int.emod_lt_of_pos a (show 0 < b by omega)
        simp only [stepG, hz, if_false]
        omega) (List.range 200) (a, b) .hole ⟨ha, ha2, hb, hb2⟩
  have ok : rngOk 0 200 = true := by decide
  refine ⟨.hole, .hole, ?_⟩
  simp [runF, f21, evSs, evS, ev, evI, ok, wipeS, rngU] at e ⊢
  simp [e, comV]
def rsk (r : Int) : Q2 := (r / comV r 20, 20 / comV r 20)
theorem s22 {n : Nat} {r : Int} (h0 : 0 ≤ r) (h1 : r ≤ 20) : ∃ t1 t2, callF R' (n + 3) 22 [.int r, .int 20] = some (fr (rsk r), [t1, t2]) ∧ okQ (rsk r) = true ∧ 0 ≤ (rsk r).1 ∧ (rsk r).1 ≤ (rsk r).2 := by
  have chk : ((List.range 21).all fun k => decide (0 < comV k 20) && decide (comV k 20 ≤ 20) && okQ (rsk k) && decide (0 ≤ (rsk k).1) && decide ((rsk k).1 ≤ (rsk k).2)) = true := by decide +kernel
  obtain ⟨k, rfl⟩ := Int.eq_ofNat_of_zero_le h0
  have c := List.all_eq_true.mp chk k (List.mem_range.mpr (by omega))
  simp only [Bool.and_eq_true, decide_eq_true_eq] at c
  obtain ⟨⟨⟨⟨c1, c2⟩, c3⟩, c4⟩, c5⟩ := c
  obtain ⟨r1, r2, z⟩ := s21 (n := n) (a := k) (b := 20) (by omega) (by omega) (by omega) (by omega)
  have dv : ∀ i, op2 .fdiv (.int i) (.int (comV k 20)) = some (.int (i / comV k 20)) := fun i => op2_fdiv c1 (log2_of (by omega))
  refine ⟨.hole, .hole, ?_, c3, c4, c5⟩
  rw [callF_open (fn := f22) rfl]
  have hk : ¬ ((k : Int) < 0) := by omega
  simp [runF, f22, evSs, evS, ev, evL, evA, over, hk, z, back, setG, setG0, wipeS, dv, okN_of, rsk]
end W78

namespace W78
open Pv PySem
theorem monoM {W M X : Int} {r : Q2} (hr : 0 < r.2) (w0 : 0 ≤ W) (w1 : W ≤ 14) (k0 : 0 ≤ M) (k1 : M ≤ W) (a0 : 0 ≤ X) (a1 : X ≤ 3) (ak : X ≤ M) {i : Int} (i0 : 0 ≤ i) : ∀ d : Nat, i + d ≤ W → lessV r (dam W (i + d) M X) = true → lessV r (dam W i M X) = true
  | 0, _, h => by simpa using h
  | d + 1, hd, h => by
    have f1 := factA w0 w1 (m := i + d) (by omega) (by omega) k0 k1 a0 a1 ak
    have f2 := factA w0 w1 (m := i + d + 1) (by omega) (by omega) k0 k1 a0 a1 ak
    refine monoM hr w0 w1 k0 k1 a0 a1 ak i0 d (by omega) (less_le2 (okQ_ f2.2.1).2.2 (okQ_ f1.2.1).2.2 hr ?_ (f1.2.2 (by omega)))
    have e : i + ((d + 1 : Nat) : Int) = i + d + 1 := by omega
    rw [← e]; exact h
theorem monoK {W m : Int} {r : Q2} (hr : 0 < r.2) (w0 : 0 ≤ W) (w1 : W ≤ 14) (m0 : 0 ≤ m) (m1 : m ≤ W) {i : Int} (i0 : 0 ≤ i) : ∀ d : Nat, i + d ≤ W → lessV r (dam W m (i + d) 0) = true → lessV r (dam W m i 0) = true
  | 0, _, h => by simpa using h
  | d + 1, hd, h => by
    have f1 := factA w0 w1 m0 m1 (k := i + d) (by omega) (by omega) (a := 0) (by omega) (by omega) (by omega)
    have f2 := factA w0 w1 m0 m1 (k := i + d + 1) (by omega) (by omega) (a := 0) (by omega) (by omega) (by omega)
    have g := factB w0 w1 m0 m1 (k := i + d) (by omega) (by omega)
    refine monoK hr w0 w1 m0 m1 i0 d (by omega) (less_le2 (okQ_ f2.2.1).2.2 (okQ_ f1.2.1).2.2 hr ?_ (g.1 (by omega)))
    have e : i + ((d + 1 : Nat) : Int) = i + d + 1 := by omega
    rw [← e]; exact h
theorem core1 {W M X B g : Int} {r : Q2} (hr : 0 < r.2) (w0 : 0 ≤ W) (w1 : W ≤ 14) (k1 : M ≤ W) (a0 : 0 ≤ X) (a1 : X ≤ 3) (ak : X ≤ M) (b0 : X ≤ B) (b1 : B ≤ W)
    (p1 : X ≤ g) (p2 : g ≤ W - M + X) (p3 : g = X ∨ lessV r (dam W g M X) = true) (p4 : g = W - M + X ∨ lessV r (dam W (g + 1) M X) = false) : shownV W B r M X = decide (g ≤ B) := by
  unfold shownV
  by_cases c : W - (M - X) < B + 1
  · rw [if_pos c, decide_eq_true (by omega)]
  · rw [if_neg c]
    by_cases hg : g ≤ B
    · rw [decide_eq_true hg]
      cases hl : lessV r (dam W (B + 1) M X) with
      | false => rfl
      | true =>
        have z := monoM hr w0 w1 (by omega) k1 a0 a1 ak (i := g + 1) (by omega) (B - g).toNat (by omega) (by rw [show g + 1 + ((B - g).toNat : Int) = B + 1 by omega]; exact hl)
        rw [p4.resolve_left (by omega)] at z
        cases z
    · rw [decide_eq_false hg]
      have z := monoM hr w0 w1 (by omega) k1 a0 a1 ak (i := B + 1) (by omega) (g - (B + 1)).toNat (by omega) (by rw [show B + 1 + ((g - (B + 1)).toNat : Int) = g by omega]; exact p3.resolve_left (by omega))
      rw [z]; rfl
theorem core2 {W B zs zm : Int} {r : Q2} (hr : 0 < r.2) (hr0 : 0 ≤ r.1) (w0 : 0 ≤ W) (w1 : W ≤ 14) (b0 : 0 ≤ B) (b1 : B < W)
    (p1 : 0 ≤ zs) (p2 : zs ≤ W + 1) (p3 : zs = 0 ∨ lessV r (dam W (B + 1) (zs - 1) 0) = true) (p4 : zs = W + 1 ∨ lessV r (dam W (B + 1) zs 0) = false)
    (q1 : 0 ≤ zm) (q2 : zm ≤ W) (q3 : shownV W B r zm 0 = true) (q4 : ∀ j, 0 ≤ j → j < zm → shownV W B r j 0 = false) : zs ≤ W ∧ zm = zs := by
  have key : ∀ k, 0 ≤ k → k ≤ W → shownV W B r k 0 = !lessV r (dam W (B + 1) k 0) := fun k k0 k1 => by
    unfold shownV
    by_cases c : W - (k - 0) < B + 1
    · rw [if_pos c]
      have z := (factB w0 w1 (m := B + 1) (by omega) (by omega) k0 k1).2 (by omega)
      have l : lessV r (dam W (B + 1) k 0) = false := by
        have d := (okQ_ (factA w0 w1 (m := B + 1) (by omega) (by omega) k0 k1 (a := 0) (by omega) (by omega) (by omega)).2.1).2.2
        simp only [lessV, z, Int.zero_mul]
        exact decide_eq_false (by have := Int.mul_nonneg hr0 (Int.le_of_lt d); omega)
      rw [l]; rfl
    · rw [if_neg c]
  have hW : shownV W B r W 0 = true := by
    unfold shownV
    rw [if_pos (by omega)]
  have hzs : zs ≤ W := by
    by_cases h : zs ≤ W
    · exact h
    · have e : zs = W + 1 := by omega
      subst e
      have z := p3.resolve_left (by omega)
      rw [show W + 1 - 1 = W by omega] at z
      rw [key W (by omega) (by omega), z] at hW
      cases hW
  have s := key zs p1 hzs
  rw [p4.resolve_left (by omega)] at s
  refine ⟨hzs, ?_⟩
  by_cases h1 : zs < zm
  · rw [q4 zs p1 h1] at s; cases s
  · by_cases h2 : zm < zs
    · have z := monoK hr w0 w1 (m := B + 1) (by omega) (by omega) (i := zm) q1 (zs - 1 - zm).toNat (by omega) (by rw [show zm + ((zs - 1 - zm).toNat : Int) = zs - 1 by omega]; exact p3.resolve_left (by omega))
      rw [key zm q1 q2, z] at q3
      cases q3
    · omega
theorem e_ss : eqT (.str "shown") (.str "shown") = some true := by decide +kernel
theorem e_oo : eqT (.str "open") (.str "open") = some true := by decide +kernel
/-- the looks -/
theorem looks {n : Nat} {a b c d e f g : T} {W B M X : Int} {r : Q2} {t8 : T} {rest : SL} (hM : M ≤ W) (hX : 0 ≤ X) (hXM : X ≤ M) (hx : e = .int X) :
    ∃ t', forGo (setG (pgOf R' (n + 2)) (.one (.nm 8))) (evSs (pgOf R' (n + 2)) f23_0) (rngU 0 M) (a :: b :: c :: d :: e :: f :: g :: aud true W B r 0 0 :: t8 :: rest) = some (.nx, a :: b :: c :: d :: e :: f :: g :: aud true W B r M X :: t' :: rest) := by
  subst hx
  obtain ⟨fl, sl', e1, rfl, t, rfl⟩ := forGo_inv (set := setG (pgOf R' (n + 2)) (.one (.nm 8))) (b := evSs (pgOf R' (n + 2)) f23_0)
    (fun xs sl => ∃ (j : Nat) (t : T), j ≤ M.toNat ∧ xs = (List.range' j (M.toNat - j)).map (fun k : Nat => T.int (0 + (k : Int))) ∧ sl = a :: b :: c :: d :: .int X :: f :: g :: aud true W B r j (if (j : Int) < X then (j : Int) else X) :: t :: rest)
    (fun fl sl => fl = .nx ∧ ∃ t, sl = a :: b :: c :: d :: .int X :: f :: g :: aud true W B r M X :: t :: rest)
    (fun x xs sl ⟨j, t, h1, h2, h3⟩ => by
      subst h3
      have hj : j < M.toNat := by
        by_cases z : j < M.toNat
        · exact z
        · rw [show M.toNat - j = 0 by omega] at h2; cases h2
      rw [show M.toNat - j = (M.toNat - (j + 1)) + 1 by omega, List.range'_succ, List.map_cons] at h2
      cases h2
      have en : (((j + 1 : Nat)) : Int) = (j : Int) + 1 := by omega
      by_cases hc : (j : Int) < X
      · have z11 := s11 (n := n + 1) (w := W) (b := B) (r := r) (s := j) (x := j) (k := true) (by omega)
        have e2 : (if ((j + 1 : Nat) : Int) < X then ((j + 1 : Nat) : Int) else X) = (j : Int) + 1 := by split <;> omega
        refine ⟨a :: b :: c :: d :: .int X :: f :: g :: aud true W B r j j :: .int (0 + (j : Int)) :: rest, .nx, a :: b :: c :: d :: .int X :: f :: g :: aud true W B r ((j : Int) + 1) ((j : Int) + 1) :: .int (0 + (j : Int)) :: rest, by simp [setG, setG0, hc], by simp [f23_0, evSs, evS, ev, evA, over, m11, q11, z11, back, hc], j + 1, .int (0 + (j : Int)), hj, rfl, ?_⟩
        rw [e2, en]
      · have z11 := s11 (n := n + 1) (w := W) (b := B) (r := r) (s := j) (x := X) (k := false) (by omega)
        have e2 : (if ((j + 1 : Nat) : Int) < X then ((j + 1 : Nat) : Int) else X) = X := by split <;> omega
        refine ⟨a :: b :: c :: d :: .int X :: f :: g :: aud true W B r j X :: .int (0 + (j : Int)) :: rest, .nx, a :: b :: c :: d :: .int X :: f :: g :: aud true W B r ((j : Int) + 1) X :: .int (0 + (j : Int)) :: rest, by simp [setG, setG0, hc], by simp [f23_0, evSs, evS, ev, evA, over, m11, q11, z11, back, hc], j + 1, .int (0 + (j : Int)), hj, rfl, ?_⟩
        rw [e2, en])
    (fun sl ⟨j, t, h1, h2, h3⟩ => by
      have hj : j = M.toNat := by
        by_cases z : j < M.toNat
        · rw [show M.toNat - j = (M.toNat - (j + 1)) + 1 by omega, List.range'_succ] at h2; cases h2
        · omega
      subst h3 hj
      refine ⟨rfl, t, ?_⟩
      have e1 : ((M.toNat : Nat) : Int) = M := by omega
      rw [e1]
      by_cases z : M < X
      · omega
      · rw [if_neg z])
    (rngU 0 M) (a :: b :: c :: d :: .int X :: f :: g :: aud true W B r 0 0 :: t8 :: rest) ⟨0, t8, Nat.zero_le _, by unfold rngU; rw [List.range_eq_range']; simp, by
      have : (if ((0 : Nat) : Int) < X then ((0 : Nat) : Int) else X) = 0 := by split <;> omega
      rw [this]; rfl⟩
  exact ⟨t, e1⟩
end W78

namespace W78
open Pv PySem
theorem main (ns : List Int) : ∃ ts', callF S.R 20 lawI [.lst false (ns.map T.int)] = some (.bl true, ts') := by
  rw [R_eq]
  show ∃ ts', callF R' (19 + 1) 23 _ = _
  rw [callF_open (fn := f23) rfl]
  have hF : isFs (ns.map T.int) = true := isFs_map (fun _ => isF_int) ns
  have hZ : frzs (ns.map T.int) = ns.map T.int := frzs_map (fun _ => frz_int) ns
  have z17 : callF R' 19 17 _ = _ := s17 (n := 18) (ns := ns)
  obtain ⟨d1, c1, o1, k1, z1, a1, b1⟩ := s16 (n := 18) (o := true) (ns := ns) (k := 0) (c := 0) (m := 14) (by omega) (by omega)
  have z1 : callF R' 19 16 [tape true (ns.map T.int) 0 0, .int 14] = some (.int d1, [tape o1 (ns.map T.int) (k1 : Nat) c1, .int 14]) := z1
  generalize hW : 1 + d1 = W
  obtain ⟨M, c2, o2, k2, z2, a2, b2⟩ := s16 (n := 18) (o := o1) (ns := ns) (k := k1) (c := c1) (m := W + 1) (by omega) (by omega)
  obtain ⟨d3, c3, o3, k3, z3, a3, b3⟩ := s16 (n := 18) (o := o2) (ns := ns) (k := k2) (c := c2) (m := 4) (by omega) (by omega)
  generalize hX : (if d3 < M then d3 else M) = X
  have x0 : 0 ≤ X := by rw [← hX]; split <;> omega
  have x1 : X ≤ 3 := by rw [← hX]; split <;> omega
  have x2 : X ≤ M := by rw [← hX]; split <;> omega
  obtain ⟨d4, c4, o4, k4, z4, a4, b4⟩ := s16 (n := 18) (o := o3) (ns := ns) (k := k3) (c := c3) (m := W - X + 1) (by omega) (by omega)
  generalize hB : X + d4 = B
  obtain ⟨d5, c5, o5, k5, z5, a5, b5⟩ := s16 (n := 18) (o := o4) (ns := ns) (k := k4) (c := c4) (m := 21) (by omega) (by omega)
  obtain ⟨u1, u2, z6, r1, r2, r3⟩ := s22 (n := 16) (r := d5) a5 (by omega)
  generalize hr : rsk d5 = r at z6 r1 r2 r3
  have rp : 0 < r.2 := (okQ_ r1).2.2
  have z7 : callF R' 19 10 _ = _ := s10 (n := 16) (w := W) (b := B) r1 r2 r3 (by omega) (by omega)
  obtain ⟨g, ts8, z8, ⟨t1, t2, t3, t4, rfl⟩, p1, p2, p3, p4⟩ := s8 (n := 13) (w := W) (k := M) (f := X) r1 r2 r3 x0 x2 (by omega) (by omega) (fun m m0 m1 => by
    have := factA (w := W) (m := m) (k := M) (a := X) (by omega) (by omega) (by omega) (by omega) (by omega) (by omega) x0 x1 x2
    exact ⟨this.1, this.2.1⟩)
  have z8 : callF R' 19 8 _ = _ := z8
  have sh := core1 (W := W) (M := M) (X := X) (B := B) (g := g) rp (by omega) (by omega) (by omega) x0 x1 x2 (by omega) (by omega) p1 p2 p3 p4
  have hyp : ¬ W - (M - X) < B + 1 → okDam W (B + 1) M X = true ∧ okQ (dam W (B + 1) M X) = true := fun c => by
    have := factA (w := W) (m := B + 1) (k := M) (a := X) (by omega) (by omega) (by omega) (by omega) (by omega) (by omega) x0 x1 x2
    exact ⟨this.1, this.2.1⟩
  have z9 : callF R' 19 12 _ = _ := s12 (n := 14) (o := true) (w := W) (b := B) (s := M) (x := X) r1 hyp
  have z10 : callF R' 19 14 _ = _ := s14 (n := 13) (w := W) (b := B) (s := M) (x := X) r1 hyp (by omega)
  have z11 : callF R' 19 18 [.bl (decide (g ≤ B)), .bl (decide (g ≤ B))] = _ := s18 (n := 18)
  rw [sh] at z9 z10
  have ok : rngOk 0 M = true := by simp only [rngOk, Bool.and_eq_true, decide_eq_true_eq]; omega
  obtain ⟨t8, e8⟩ := looks (n := 17) (a := .lst false (ns.map T.int)) (b := tape o5 (ns.map T.int) (k5 : Nat) c5) (c := .int W) (d := .int M) (e := .int X) (f := .int B) (g := fr r) (W := W) (B := B) (M := M) (X := X) (r := r) (t8 := .hole) (rest := [.hole, .hole, .hole]) (by omega) x0 x2 rfl
  have e8 : forGo (setG (pgOf R' 19) (.one (.nm 8))) (evSs (pgOf R' 19) f23_0) (rngU 0 M) _ = _ := e8
  have x2' : (if d3 < M then T.int d3 else T.int M) = T.int X := by rw [← hX]; split <;> rfl
  by_cases hBW : B < W
  · obtain ⟨zs, ts9, z12, ⟨y1, y2, y3, y4, rfl⟩, s1, s2, s3, s4⟩ := s9 (n := 13) (w := W) (b := B + 1) r1 r2 r3 (by omega) (by omega) (by omega) (fun k k0 k1 => by
      have := factA (w := W) (m := B + 1) (k := k) (a := 0) (by omega) (by omega) (by omega) (by omega) k0 k1 (by omega) (by omega) (by omega)
      exact ⟨this.1, this.2.1⟩)
    obtain ⟨zm, y5, z13, m1, m2, m3, m4⟩ := s15 (n := 13) (w := W) (b := B) r1 r2 r3 (by omega) (by omega) (by omega) (fun j j0 j1 c => by
      have := factA (w := W) (m := B + 1) (k := j) (a := 0) (by omega) (by omega) (by omega) (by omega) j0 j1 (by omega) (by omega) (by omega)
      exact ⟨this.1, this.2.1⟩)
    obtain ⟨q1, rfl⟩ := core2 rp r2 (by omega) (by omega) (by omega) hBW s1 s2 s3 s4 m1 m2 m3 m4
    rw [if_pos q1] at z12
    have z14 : callF R' 19 19 [.int zm, .int zm] = _ := s19 (n := 18) (a := zm) (b := zm)
    have z12 : callF R' 19 9 _ = _ := z12
    have z13 : callF R' 19 15 _ = _ := z13
    by_cases hg : g ≤ B
    · simp only [hg, decide_true, if_true] at z9 z10 z11
      simp [runF, f23, evSs, evS, ev, evL, evA, evI, z17, back, setG, setG0, over, hF, hZ, z1, hW, z2, z3, hX, z4, hB, z5, z6, z7, eA, ok, e8,
        z8, z9, z10, z11, m12, q12, m14, q14, okN_of, hg, idxT, L2.atI, L2.ixN, e_ss, hBW, z12, z13, m15, q15, z14]
    · simp only [hg, decide_false] at z9 z10 z11
      simp [runF, f23, evSs, evS, ev, evL, evA, evI, z17, back, setG, setG0, over, hF, hZ, z1, hW, z2, z3, hX, z4, hB, z5, z6, z7, eA, ok, e8,
        z8, z9, z10, z11, m12, q12, m14, q14, okN_of, hg, idxT, L2.atI, L2.ixN, e_oo, hBW, z12, z13, m15, q15, z14]
  · by_cases hg : g ≤ B
    · simp only [hg, decide_true, if_true] at z9 z10 z11
      simp [runF, f23, evSs, evS, ev, evL, evA, evI, z17, back, setG, setG0, over, hF, hZ, z1, hW, z2, z3, hX, z4, hB, z5, z6, z7, eA, ok, e8,
        z8, z9, z10, z11, m12, q12, m14, q14, okN_of, hg, idxT, L2.atI, L2.ixN, e_ss, hBW]
    · simp only [hg, decide_false] at z9 z10 z11
      simp [runF, f23, evSs, evS, ev, evL, evA, evI, z17, back, setG, setG0, over, hF, hZ, z1, hW, z2, z3, hX, z4, hB, z5, z6, z7, eA, ok, e8,
        z8, z9, z10, z11, m12, q12, m14, q14, okN_of, hg, idxT, L2.atI, L2.ixN, e_oo, hBW]
end W78

open PySem PySem.W PySem.Calls PyProof.Rows
theorem PySem.Challenge.cw_fairmarks_k78_whole_audits_and_samples_holds : PySem.Challenge.rw_fairmarks_k78_whole_audits_and_samples.Holds := by
  w_on; o_law
  refine HandSHeadRun.head_imp (r := OpenLaw.row PySem.Challenge.rw_fairmarks_k78_whole_audits_and_samples) (q := W78.vw) (H := W78.hk) (ob := Pv.obV W78.nh W78.S.fa W78.S.fn (Pv.exB W78.S.Γ)) (M := 3000) (loose := W78.loose) (d := HandSHeadRun.topDef (OpenLaw.row PySem.Challenge.rw_fairmarks_k78_whole_audits_and_samples).prog 29) (kwd := []) (fun s => Pv.obV_eq s) W78.run
    (by kernel_rfl) (by kernel_rfl) (by kernel_rfl) (by rfl) (by first | assumption | decide +kernel) (by decide +kernel) ⟨rfl, rfl, rfl, rfl, rfl, by decide +kernel⟩ ?hw ?hc
  case hw => w_witness2
  case hc =>
    refine L2.walk_ofE (l := PySem.Challenge.rw_fairmarks_k78_whole_audits_and_samples) (n := 63) (k := 40) (x := "script") (CX := L2.CX0) rfl (by decide) (by kernel_rfl) ⟨rfl, by decide, by decide⟩ ?F (fun _ _ _ _ z => z)
    intro w mg fa h Y G hmg0
    obtain ⟨K, KX, c⟩ := Y
    have hmg : mg ("law" : PySem.Str) = some (.ref fa) := by
      have e : (HandSHeadRun.topDef (OpenLaw.row PySem.Challenge.rw_fairmarks_k78_whole_audits_and_samples).prog 29).name = ("law" : PySem.Str) := by kernel_rfl
      rw [← e]
      exact hmg0
    exact Pv.law_of (S := W78.S) (lw := W78.lawI) (d := W78.d23) (N := 20) KX G c W78.ok W78.sames rfl rfl (by rfl) hmg (by decide +kernel) fun ns _ => W78.main ns

